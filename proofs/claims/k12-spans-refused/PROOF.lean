import PyProof.Rows.All
import Wide.All
import OpenK.AllK
import Wide.FinOn
import HandS.ForMost
import HandS.ForExc
import HandS.IsInst
import HandS.Wide
import HandS.WideBits
import HandS.FStr
import HandS.TupLe
import HandS.Flow
import HandS.Lambda
import HandS.TryMany
import HandS.CallSlots
import HandS.ExcField
import HandS.HotCalls
import HandS.Star
import HandS.Property
import HandS.MakeKw
import HandS.EndBits
import HandS.SortInts
import PyProof.ReprRoads
import HandS.NoneIn
import KE.KCallOwn
import KE.KOpsOwn
import PyProof.InstNe
import HandS.RaiseMore
import PyProof.StrLawsRepr
import HandS.ClsMeth
import KE.DatumOrd
import HandS.Iter
import HandS.Dict
import HandS.ExcInit
import KE.KExcInit
import HandS.ExcIs
import KE.KDictWalk
import PyProof.ReprNest
import HandS.DictComp
import KE.GoesMore
import KE.GoesZip
import KE.KDictZip
import HandS.TryOnly
import PyProof.NeKinds
import HandS.EndTab
import KE.KIntText
import KE.GoesEnum
import KE.SortData
import HandS.Conv
import HandS.Defaults
import HandS.Head0
import HandS.Head1
import HandS.Head2
import HandS.HeadHook1
import HandS.HeadHook2
import HandS.HeadHook4
import HandS.HeadNt
import PySem.Challenge.RW_abreast_k12_spans_refused
set_option Elab.async false
set_option maxRecDepth 100000
set_option maxHeartbeats 4000000
set_option linter.all false
/-! DL: values as data. -/
namespace DL
open PySem L2

inductive D where
  | non
  | bl (b : Bool)
  | int (i : Int)
  | str (x : Str)
  | ty (n : String)
  | ref (a : Addr)
  | tup (xs : List D)
  | lst (xs : List D)
  | scr (xs : List D)
  | dic (kvs : List (Key × D))
  | ob (c : Nat) (xs : List D)
  | exc (a dd : Addr) (c : Nat) (xs : List D)
  | fn (f c : Addr) (q : Str) (vs : List V) (xs : List D)

/-- a class of the program: where it stands, its instances' fields in their order -/
structure CI where
  addr : Addr
  flds : List Str
abbrev CT := Nat → CI

mutual
inductive Rep (G : CT) (F : Hp) : V → D → Prop where
  | non : Rep G F .non .non
  | bl (b : Bool) : Rep G F (.bl b) (.bl b)
  | int (i : Int) : Rep G F (.int i) (.int i)
  | str (x : Str) : Rep G F (.str x) (.str x)
  | ty (n : String) : Rep G F (.ty n) (.ty n)
  | ref (a : Addr) : Rep G F (.ref a) (.ref a)
  | tup {a : Addr} {vs : List V} {xs : List D} (h : F a = some (.tup vs)) (r : Reps G F vs xs) : Rep G F (.ref a) (.tup xs)
  | lst {a : Addr} {vs : List V} {xs : List D} (h : F a = some (.lst vs)) (r : Reps G F vs xs) : Rep G F (.ref a) (.lst xs)
  | lsz {a : Addr} {o : Obj} {vs : List V} {xs : List D} (h : F a = some (.frz o (.lst vs))) (r : Reps G F vs xs) : Rep G F (.ref a) (.scr xs)
  | dic {a : Addr} {o : Obj} {kvs : List (Key × V)} {xs : List (Key × D)} (h : F a = some (.frz o (.dK kvs))) (e : kvs.map (·.1) = xs.map (·.1)) (r : Reps G F (kvs.map (·.2)) (xs.map (·.2))) : Rep G F (.ref a) (.dic xs)
  | ob {a dx : Addr} {c : Nat} {fs : List (Str × V)} {xs : List D} (h : F a = some (.ins (G c).addr dx fs)) (e : fs.map (·.1) = (G c).flds) (r : Reps G F (fs.map (·.2)) xs) : Rep G F (.ref a) (.ob c xs)
  | exc {a dd : Addr} {c : Nat} {gs : List (Str × V)} {xs : List D} (h : F dd = some (.xd gs)) (e : gs.map (·.1) = (G c).flds) (r : Reps G F (gs.map (·.2)) xs) : Rep G F (.ref a) (.exc a dd c xs)
  | fn {f c : Addr} {q : Str} {vs : List V} {xs : List D} (h : F c = some (LamX.CodeO c q)) (r : Reps G F vs xs) : Rep G F (.ref f) (.fn f c q vs xs)
inductive Reps (G : CT) (F : Hp) : List V → List D → Prop where
  | nil : Reps G F [] []
  | cons {v : V} {d : D} {vs : List V} {ds : List D} (h : Rep G F v d) (r : Reps G F vs ds) : Reps G F (v :: vs) (d :: ds)
end

abbrev Le (F F' : Hp) : Prop := ∀ a o, F a = some o → F' a = some o
theorem Le.refl (F : Hp) : Le F F := fun _ _ h => h
theorem Le.trans {F F1 F2 : Hp} (a : Le F F1) (b : Le F1 F2) : Le F F2 := fun x o h => b x o (a x o h)

mutual
theorem Rep.le {G : CT} {F F' : Hp} (l : Le F F') : ∀ {v : V} {d : D}, Rep G F v d → Rep G F' v d
  | _, _, .non => .non
  | _, _, .bl b => .bl b
  | _, _, .int i => .int i
  | _, _, .str x => .str x
  | _, _, .ty n => .ty n
  | _, _, .ref a => .ref a
  | _, _, .tup h r => .tup (l _ _ h) (Reps.le l r)
  | _, _, .lst h r => .lst (l _ _ h) (Reps.le l r)
  | _, _, .lsz h r => .lsz (l _ _ h) (Reps.le l r)
  | _, _, .dic h e r => .dic (l _ _ h) e (Reps.le l r)
  | _, _, .ob h e r => .ob (l _ _ h) e (Reps.le l r)
  | _, _, .exc h e r => .exc (l _ _ h) e (Reps.le l r)
  | _, _, .fn h r => .fn (l _ _ h) (Reps.le l r)
theorem Reps.le {G : CT} {F F' : Hp} (l : Le F F') : ∀ {vs : List V} {ds : List D}, Reps G F vs ds → Reps G F' vs ds
  | _, _, .nil => .nil
  | _, _, .cons h r => .cons (Rep.le l h) (Reps.le l r)
end
theorem Reps.length {G : CT} {F : Hp} : ∀ {vs : List V} {ds : List D}, Reps G F vs ds → vs.length = ds.length
  | _, _, .nil => rfl
  | _, _, .cons _ r => congrArg (· + 1) (Reps.length r)
theorem Reps.get {G : CT} {F : Hp} : ∀ {vs : List V} {ds : List D} {i : Nat} {d : D}, Reps G F vs ds → ds[i]? = some d → ∃ v, vs[i]? = some v ∧ Rep G F v d
  | _, _, _, _, .nil, there => by simp at there
  | _, _, 0, _, .cons h _, e => by simp at e; subst e; exact ⟨_, by simp, h⟩
  | _, _, i + 1, _, .cons _ r, e => by
    obtain ⟨v, h1, h2⟩ := Reps.get (i := i) r (by simpa using e)
    exact ⟨v, by simpa using h1, h2⟩
theorem Reps.append {G : CT} {F : Hp} : ∀ {vs ws : List V} {ds es : List D}, Reps G F vs ds → Reps G F ws es → Reps G F (vs ++ ws) (ds ++ es)
  | _, _, _, _, .nil, r => r
  | _, _, _, _, .cons h t, r => .cons h (Reps.append t r)
theorem Reps.take {G : CT} {F : Hp} : ∀ {vs : List V} {ds : List D} (n : Nat), Reps G F vs ds → Reps G F (vs.take n) (ds.take n)
  | _, _, 0, _ => by simp; exact .nil
  | _, _, _ + 1, .nil => by simp; exact .nil
  | _, _, n + 1, .cons h t => by simp; exact .cons h (Reps.take n t)
theorem Reps.drop {G : CT} {F : Hp} : ∀ {vs : List V} {ds : List D} (n : Nat), Reps G F vs ds → Reps G F (vs.drop n) (ds.drop n)
  | _, _, 0, r => by simpa using r
  | _, _, _ + 1, .nil => by simp; exact .nil
  | _, _, n + 1, .cons h t => by simp; exact Reps.drop n t
theorem Reps.set {G : CT} {F : Hp} {v : V} {d : D} (h : Rep G F v d) : ∀ {vs : List V} {ds : List D} (n : Nat), Reps G F vs ds → Reps G F (vs.set n v) (ds.set n d)
  | _, _, _, .nil => by simp; exact .nil
  | _, _, 0, .cons _ t => by simp; exact .cons h t
  | _, _, n + 1, .cons k t => by simp; exact .cons k (Reps.set h n t)
theorem Reps.ints {G : CT} {F : Hp} : ∀ ns : List Int, Reps G F (ns.map V.int) (ns.map D.int)
  | [] => .nil
  | n :: r => .cons (.int n) (Reps.ints r)

/-! ### the few objects that change -/
inductive MO where
  | lst (xs : List D)
  | dic (kvs : List (Key × D))
  | tdc (kvs : List (List Key × D))
  | ob (c : Nat) (fs : List (Str × D))
  | tbl (q : Str)
abbrev M := Addr → Option MO
def mset (m : M) (a : Addr) (o : MO) : M := fun b => if b = a then some o else m b
def mdel (m : M) (a : Addr) : M := fun b => if b = a then none else m b
theorem mset_same {m : M} {a : Addr} {o : MO} : mset m a o a = some o := if_pos rfl
theorem mset_ne {m : M} {a b : Addr} {o : MO} (h : b ≠ a) : mset m a o b = m b := if_neg h
theorem mset_mset {m : M} {a : Addr} {o u : MO} : mset (mset m a o) a u = mset m a u := by
  funext b; unfold mset; split <;> rfl
theorem mdel_mset {m : M} {a : Addr} {o : MO} (h : m a = none) : mdel (mset m a o) a = m := by
  funext b; unfold mset mdel
  split
  · rename_i e; subst e; exact h.symm
  · rename_i e; exact if_neg e
theorem mset_self {m : M} {a : Addr} {o : MO} (h : m a = some o) : mset m a o = m := by
  funext b; unfold mset
  split
  · rename_i e; subst e; exact h.symm
  · rfl
def Held (G : CT) (F H : Hp) (a : Addr) : MO → Prop
  | .lst xs => ∃ vs, H a = some (.lst vs) ∧ Reps G F vs xs
  | .dic kvs => ∃ vs, H a = some (.dK vs) ∧ vs.map (·.1) = kvs.map (·.1) ∧ Reps G F (vs.map (·.2)) (kvs.map (·.2))
  | .tdc kvs => ∃ vs, H a = some (.dT vs) ∧ vs.map (·.1) = kvs.map (·.1) ∧ Reps G F (vs.map (·.2)) (kvs.map (·.2))
  | .ob c fs => ∃ dx gs, H a = some (.ins (G c).addr dx gs) ∧ gs.map (·.1) = fs.map (·.1) ∧ Reps G F (gs.map (·.2)) (fs.map (·.2))
  | .tbl q => ∃ ps, H a = some (.tbl ps) ∧ TriplesOk ps.toList ∧ ∀ (pos : Pos) (cv : Value), codeAmong pos ps.toList = some cv → ∃ c, cv = .ref c ∧ F c = some (LamX.CodeO c q)
theorem Held.some {G : CT} {F H : Hp} {a : Addr} : ∀ {o : MO}, Held G F H a o → ∃ u, H a = some u
  | .lst _, ⟨_, h, _⟩ => ⟨_, h⟩
  | .dic _, ⟨_, h, _⟩ => ⟨_, h⟩
  | .tdc _, ⟨_, h, _⟩ => ⟨_, h⟩
  | .ob _ _, ⟨_, _, h, _⟩ => ⟨_, h⟩
  | .tbl _, ⟨_, h, _⟩ => ⟨_, h⟩
theorem Held.le {G : CT} {F F' H H' : Hp} {a : Addr} (l : Le F F') (e : H' a = H a) : ∀ {o : MO}, Held G F H a o → Held G F' H' a o
  | .lst _, ⟨vs, h, r⟩ => ⟨vs, e.trans h, r.le l⟩
  | .dic _, ⟨vs, h, e2, r⟩ => ⟨vs, e.trans h, e2, r.le l⟩
  | .tdc _, ⟨vs, h, e2, r⟩ => ⟨vs, e.trans h, e2, r.le l⟩
  | .ob _ _, ⟨dx, gs, h, e2, r⟩ => ⟨dx, gs, e.trans h, e2, r.le l⟩
  | .tbl _, ⟨ps, h, t, k⟩ => ⟨ps, e.trans h, t, fun p cv z => let ⟨c, e1, e2⟩ := k p cv z; ⟨c, e1, l _ _ e2⟩⟩

/-- F: what never changes, and the data lean on it; R: what stands behind our back; m: what changes -/
structure Hst (G : CT) (F R H : Hp) (m : M) : Prop where
  fz : ∀ a o, F a = some o → H a = some o
  rs : ∀ a o, R a = some o → H a = some o ∧ F a = none ∧ m a = none
  mt : ∀ a o, m a = some o → F a = none ∧ Held G F H a o
  nt : ∀ a o, R a = some o → ∀ xs, o ≠ .tup xs
abbrev DSt := List (Option D)
structure SL (G : CT) (F : Hp) (σ : St) (ds : DSt) : Prop where
  len : σ.length = ds.length
  at_ : ∀ (i : Nat) (d : D), ds[i]? = some (some d) → ∃ v, σ[i]? = some (some v) ∧ Rep G F v d
section
variable {G : CT} {F F' R H H' : Hp} {m : M} {σ : St} {ds : DSt} {p : Addr} {o : HO}
theorem SL.le (l : Le F F') (s : SL G F σ ds) : SL G F' σ ds := ⟨s.len, fun i d e => let ⟨v, h1, h2⟩ := s.at_ i d e; ⟨v, h1, h2.le l⟩⟩
theorem SL.set {v : V} {d : D} (i : Nat) (s : SL G F σ ds) (r : Rep G F v d) : SL G F (σ.set i (some v)) (ds.set i (some d)) := by
  refine ⟨by simp [s.len], fun j e h => ?_⟩
  by_cases hj : i = j
  · subst hj
    by_cases hl : i < ds.length
    · rw [List.getElem?_set_self hl] at h
      cases h
      exact ⟨v, by rw [List.getElem?_set_self (by rw [s.len]; exact hl)], r⟩
    · rw [List.getElem?_eq_none (by simpa using hl)] at h
      cases h
  · rw [List.getElem?_set_ne hj] at h
    rw [List.getElem?_set_ne hj]
    exact s.at_ j e h
theorem SL.forget (i : Nat) (s : SL G F σ ds) (x : Option V) : SL G F (σ.set i x) (ds.set i none) := by
  refine ⟨by simp [s.len], fun j e h => ?_⟩
  by_cases hj : i = j
  · subst hj
    by_cases hl : i < ds.length
    · rw [List.getElem?_set_self hl] at h
      cases h
    · rw [List.getElem?_eq_none (by simpa using hl)] at h
      cases h
  · rw [List.getElem?_set_ne hj] at h
    rw [List.getElem?_set_ne hj]
    exact s.at_ j e h
theorem Hst.mnone (s : Hst G F R H m) (h : H p = none) : m p = none := by
  cases q : m p with
  | none => rfl
  | some u =>
    obtain ⟨_, k⟩ := s.mt p u q
    obtain ⟨u', e⟩ := k.some
    rw [h] at e; cases e
theorem Hst.fnone (s : Hst G F R H m) (h : H p = none) : F p = none := by
  cases q : F p with
  | none => rfl
  | some u => have e := s.fz p u q; rw [h] at e; cases e
theorem Hst.rnone (s : Hst G F R H m) (h : H p = none) : R p = none := by
  cases q : R p with
  | none => rfl
  | some u => have e := (s.rs p u q).1; rw [h] at e; cases e
/-- a new object that nobody looks at -/
theorem Hst.grow (s : Hst G F R H m) (h : H p = none) : Hst G F R (upd H p o) m := by
  refine ⟨fun a u e => ?_, fun a u e => ?_, fun a u e => ?_, s.nt⟩
  · rw [upd_ne (ne_of_none (s.fz a u e) h)]; exact s.fz a u e
  · obtain ⟨h1, h2, h3⟩ := s.rs a u e
    rw [upd_ne (ne_of_none h1 h)]; exact ⟨h1, h2, h3⟩
  · obtain ⟨h1, k⟩ := s.mt a u e
    obtain ⟨u', e'⟩ := k.some
    exact ⟨h1, k.le (Le.refl F) (upd_ne (ne_of_none e' h))⟩
theorem le_upd (h : F p = none) : Le F (upd F p o) := fun a u e => by rw [upd_ne (ne_of_none e h)]; exact e
/-- a new object that stays as it is -/
theorem Hst.new (s : Hst G F R H m) (h : H p = none) : Hst G (upd F p o) R (upd H p o) m := by
  have hf := s.fnone h
  refine ⟨fun a u e => ?_, fun a u e => ?_, fun a u e => ?_, s.nt⟩
  · by_cases q : a = p
    · subst q; rw [upd_same] at e; rw [upd_same]; exact e
    · rw [upd_ne q] at e; rw [upd_ne q]; exact s.fz a u e
  · obtain ⟨h1, h2, h3⟩ := s.rs a u e
    rw [upd_ne (ne_of_none h1 h), upd_ne (ne_of_none h1 h)]; exact ⟨h1, h2, h3⟩
  · obtain ⟨h1, k⟩ := s.mt a u e
    obtain ⟨u', e'⟩ := k.some
    rw [upd_ne (ne_of_none e' h)]
    exact ⟨h1, k.le (le_upd hf) (upd_ne (ne_of_none e' h))⟩
/-- a new object that may change -/
theorem Hst.newM {u : MO} (s : Hst G F R H m) (h : H p = none) (k : Held G F (upd H p o) p u) : Hst G F R (upd H p o) (mset m p u) := by
  have g := s.grow (o := o) h
  refine ⟨g.fz, fun a v e => ?_, fun a v e => ?_, g.nt⟩
  · obtain ⟨h1, h2, h3⟩ := g.rs a v e
    refine ⟨h1, h2, ?_⟩
    rw [mset_ne (ne_of_none (s.rs a v e).1 h)]; exact h3
  · by_cases q : a = p
    · subst q; rw [mset_same] at e; cases e; exact ⟨s.fnone h, k⟩
    · rw [mset_ne q] at e; exact g.mt a v e
/-- a tracked object is changed -/
theorem Hst.put {u u' : MO} (s : Hst G F R H m) (h : m p = some u) (k : Held G F (upd H p o) p u') : Hst G F R (upd H p o) (mset m p u') := by
  obtain ⟨hf, hk⟩ := s.mt p u h
  refine ⟨fun a v e => ?_, fun a v e => ?_, fun a v e => ?_, s.nt⟩
  · rw [upd_ne (ne_of_none e hf)]; exact s.fz a v e
  · obtain ⟨h1, h2, h3⟩ := s.rs a v e
    have q : a ≠ p := fun q => by rw [q, h] at h3; cases h3
    rw [upd_ne q, mset_ne q]; exact ⟨h1, h2, h3⟩
  · by_cases q : a = p
    · subst q; rw [mset_same] at e; cases e; exact ⟨hf, k⟩
    · rw [mset_ne q] at e
      obtain ⟨h1, k1⟩ := s.mt a v e
      exact ⟨h1, k1.le (Le.refl F) (upd_ne q)⟩
/-- a tracked object is from now on as it is -/
theorem Hst.freeze {u : MO} (s : Hst G F R H m) (h : m p = some u) (e : H p = some o) : Hst G (upd F p o) R H (mdel m p) ∧ Le F (upd F p o) := by
  obtain ⟨hf, hk⟩ := s.mt p u h
  refine ⟨⟨fun a v q => ?_, fun a v q => ?_, fun a v q => ?_, s.nt⟩, le_upd hf⟩
  · by_cases z : a = p
    · subst z; rw [upd_same] at q; cases q; exact e
    · rw [upd_ne z] at q; exact s.fz a v q
  · obtain ⟨h1, h2, h3⟩ := s.rs a v q
    have z : a ≠ p := fun z => by rw [z, h] at h3; cases h3
    rw [upd_ne z]
    exact ⟨h1, h2, (if_neg z).trans h3⟩
  · have z : a ≠ p := fun z => by unfold mdel at q; rw [if_pos z] at q; cases q
    have q' : m a = some v := (if_neg z).symm.trans q
    obtain ⟨h1, k1⟩ := s.mt a v q'
    rw [upd_ne z]
    exact ⟨h1, k1.le (le_upd hf) rfl⟩
end

/-! ### readings over data -/
abbrev DK := D → M → Prop
/-- an exception with its class and fields, at these slots -/
abbrev EK := DSt → Nat → List D → M → Prop
abbrev DTE := EK → DSt → M → DK → Prop
abbrev DTT := EK → DSt → M → (Bool → M → Prop) → Prop
abbrev DTA := EK → DSt → M → (List D → M → Prop) → Prop
structure DEnds where
  nx : DSt → M → Prop
  rt : DK
  bk : DSt → M → Prop := fun _ _ => False
  ct : DSt → M → Prop := fun _ _ => False
  ex : EK := fun _ _ _ _ => False
abbrev DTS := DEnds → DSt → M → Prop

def XD (G : CT) (F H : Hp) (c : Nat) (d : Option Addr) (xs : List D) : Prop :=
  (d = none ∧ xs = [] ∧ (G c).flds = []) ∨ ∃ a gs, d = some a ∧ F a = some (.xd gs) ∧ gs.map (·.1) = (G c).flds ∧ Reps G F (gs.map (·.2)) xs
def XOK (G : CT) (W : WX) (F R : Hp) (x : EK) : Prop :=
  ∀ ds c xs m' F' σ' d H', x ds c xs m' → Le F F' → Hst G F' R H' m' → SL G F' σ' ds → XD G F' H' c d xs → W (.ref (G c).addr) d σ' H'
theorem XOK.le {G : CT} {W : WX} {F F' R : Hp} {x : EK} (k : XOK G W F R x) (l : Le F F') : XOK G W F' R x := fun ds c xs m' F2 σ' d H' h l2 => k ds c xs m' F2 σ' d H' h (l.trans l2)
def lE (G : CT) (W : WX) (t : DTE) : TE := fun σ H Q => ∃ F R m ds Q0 x, Hst G F R H m ∧ SL G F σ ds ∧ t x ds m Q0 ∧ XOK G W F R x ∧
  ∀ d m' F' v H', Q0 d m' → Le F F' → Hst G F' R H' m' → Rep G F' v d → Q v H'
def lT (G : CT) (W : WX) (t : DTT) : TT := fun σ H Q => ∃ F R m ds Q0 x, Hst G F R H m ∧ SL G F σ ds ∧ t x ds m Q0 ∧ XOK G W F R x ∧
  ∀ b m' F' H', Q0 b m' → Le F F' → Hst G F' R H' m' → Q b H'
def lA (G : CT) (W : WX) (t : DTA) : TA := fun σ H Q => ∃ F R m ds Q0 x, Hst G F R H m ∧ SL G F σ ds ∧ t x ds m Q0 ∧ XOK G W F R x ∧
  ∀ xs m' F' vs H', Q0 xs m' → Le F F' → Hst G F' R H' m' → Reps G F' vs xs → Q vs H'
structure EndsOK (G : CT) (W : WX) (F R : Hp) (E : DEnds) (D : Ends) : Prop where
  nx : ∀ ds m' F' σ' H', E.nx ds m' → Le F F' → Hst G F' R H' m' → SL G F' σ' ds → D.nx σ' H'
  rt : ∀ d m' F' v H', E.rt d m' → Le F F' → Hst G F' R H' m' → Rep G F' v d → D.rt v H'
  bk : ∀ ds m' F' σ' H', E.bk ds m' → Le F F' → Hst G F' R H' m' → SL G F' σ' ds → D.bk σ' H'
  ct : ∀ ds m' F' σ' H', E.ct ds m' → Le F F' → Hst G F' R H' m' → SL G F' σ' ds → D.ct σ' H'
  ex : XOK G W F R E.ex
theorem EndsOK.le {G : CT} {W : WX} {F F' R : Hp} {E : DEnds} {D : Ends} (k : EndsOK G W F R E D) (l : Le F F') : EndsOK G W F' R E D :=
  ⟨fun a b c d e h l2 => k.nx a b c d e h (l.trans l2), fun a b c d e h l2 => k.rt a b c d e h (l.trans l2), fun a b c d e h l2 => k.bk a b c d e h (l.trans l2), fun a b c d e h l2 => k.ct a b c d e h (l.trans l2), k.ex.le l⟩
def lS (G : CT) (W : WX) (t : DTS) : TS := fun D σ H => ∃ F R m ds E, Hst G F R H m ∧ SL G F σ ds ∧ t E ds m ∧ EndsOK G W F R E D

abbrev DE (X : Cx) (G : CT) (W : WX) (e : Expr) (t : DTE) : Prop := PE X e (lE G W t)
abbrev DT (X : Cx) (G : CT) (W : WX) (e : Expr) (t : DTT) : Prop := PT X e (lT G W t)
abbrev DA (X : Cx) (G : CT) (W : WX) (es : List Expr) (t : DTA) : Prop := PA X es (lA G W t)
abbrev DS (X : Cx) (G : CT) (W : WX) (st : Stmt) (t : DTS) : Prop := PS X st (lS G W t)
abbrev DSs (X : Cx) (G : CT) (W : WX) (st : List Stmt) (t : DTS) : Prop := PSs X st (lS G W t)

theorem _root_.L2.PE.imp {X : Cx} {e : Expr} {t t' : TE} (h : PE X e t) (i : ∀ σ H Q, t' σ H Q → t σ H Q) : PE X e t' := ⟨fun pins s σ H Q I w => h.run pins s σ H Q I (i _ _ _ w)⟩
theorem _root_.L2.PT.imp {X : Cx} {e : Expr} {t t' : TT} (h : PT X e t) (i : ∀ σ H Q, t' σ H Q → t σ H Q) : PT X e t' := ⟨fun pins s σ H Q I w => h.run pins s σ H Q I (i _ _ _ w)⟩
theorem _root_.L2.PA.imp {X : Cx} {e : List Expr} {t t' : TA} (h : PA X e t) (i : ∀ σ H Q, t' σ H Q → t σ H Q) : PA X e t' := ⟨fun pos pins s σ H Q I w => h.run pos pins s σ H Q I (i _ _ _ w)⟩
theorem _root_.L2.PS.imp {X : Cx} {e : Stmt} {t t' : TS} (h : PS X e t) (i : ∀ D σ H, t' D σ H → t D σ H) : PS X e t' := ⟨fun pins s σ H D I w => h.run pins s σ H D I (i _ _ _ w)⟩
theorem _root_.L2.PSs.imp {X : Cx} {e : List Stmt} {t t' : TS} (h : PSs X e t) (i : ∀ D σ H, t' D σ H → t D σ H) : PSs X e t' := ⟨fun pins s σ H D I w => h.run pins s σ H D I (i _ _ _ w)⟩

section
variable {X : Cx} {G : CT} {W : WX} {a b e : Expr} {ta tb te : DTE} {pos : Pos}

/-! ### expressions -/
def nmD (i : Nat) (ds : DSt) (m : M) (Q : DK) : Prop := ∃ d, ds[i]? = some (some d) ∧ Q d m
theorem de_nm {i : Nat} {x : Str} (h : PE X (.Name x pos) (tVar i)) : DE X G W (.Name x pos) (fun _ ds m Q => nmD i ds m Q) :=
  h.imp fun σ H Q ⟨F, R, m, ds, Q0, x, st, sl, ⟨d, e, q⟩, _, k⟩ => by
    obtain ⟨v, e1, r⟩ := sl.at_ _ _ e
    exact ⟨v, e1, k d m F v H q (Le.refl F) st r⟩
/-- a value that is known -/
theorem de_c {v : V} {d : D} (h : PE X e (tC v)) (r : ∀ F, Rep G F v d) : DE X G W e (fun _ _ m Q => Q d m) :=
  h.imp fun _ H _ ⟨F, R, m, ds, Q0, x, st, sl, q, _, k⟩ => k d m F v H q (Le.refl F) st (r F)

/-- an operation on two values -/
abbrev DR2 := D → D → M → DK → Prop
def lR (G : CT) (r : DR2) : R2 := fun x y H Q => ∃ F R m dx dy Q0, Hst G F R H m ∧ Rep G F x dx ∧ Rep G F y dy ∧ r dx dy m Q0 ∧ ∀ d m' F' v H', Q0 d m' → Le F F' → Hst G F' R H' m' → Rep G F' v d → Q v H'
abbrev OpD (X : Cx) (G : CT) (f : Value → Value → Sem Value) (r : DR2) : Prop := OpR X f (lR G r)
theorem OpR.imp {f : Value → Value → Sem Value} {r r' : R2} (h : OpR X f r) (i : ∀ x y H Q, r' x y H Q → r x y H Q) : OpR X f r' := fun pins s σ H x y v u Q I rx ry w => h pins s σ H x y v u Q I rx ry (i _ _ _ _ w)
theorem CallR.imp {f : Value} {r r' : List V → Hp → VK → Prop} (h : CallR X f r) (i : ∀ xs H Q, r' xs H Q → r xs H Q) : CallR X f r' := fun pins s σ H xs us Q I rx w => h pins s σ H xs us Q I rx (i _ _ _ w)
def bD (r : DR2) (ta tb : DTE) : DTE := fun x ds m Q => ta x ds m fun p m1 => tb x ds m1 fun q m2 => r p q m2 Q
theorem bin_imp {r : DR2} {σ : St} {H : Hp} {Q : VK} (h : lE G W (bD r ta tb) σ H Q) : tOp (lR G r) (lE G W ta) (lE G W tb) σ H Q := by
  obtain ⟨F, R, m, ds, Q0, x, st, sl, t, xk, k⟩ := h
  refine ⟨F, R, m, ds, _, x, st, sl, t, xk, fun p m1 F1 v H1 h1 l1 s1 r1 => ?_⟩
  refine ⟨F1, R, m1, ds, _, x, s1, sl.le l1, h1, xk.le l1, fun q m2 F2 u H2 h2 l2 s2 r2 => ?_⟩
  exact ⟨F2, R, m2, p, q, Q0, s2, r1.le l2, r2, h2, fun d m' F' v' H' hq l st' rp => k d m' F' v' H' hq ((l1.trans l2).trans l) st' rp⟩
theorem de_op {op : Operator} {r : DR2} (ho : OpD X G (binaryOp op) r) (ha : DE X G W a ta) (hb : DE X G W b tb) : DE X G W (.BinOp a op b pos) (bD r ta tb) :=
  (pe_op ho ha hb).imp fun _ _ _ h => bin_imp h
theorem de_cmp {op : CmpOp} {r : DR2} (ho : OpD X G (compareOp op) r) (ha : DE X G W a ta) (hb : DE X G W b tb) (hm : behindInMarks op b = false) : DE X G W (.Compare a [op] [b] pos) (bD r ta tb) :=
  (pe_cmpR ho ha hb hm).imp fun _ _ _ h => bin_imp h
/-- as a test -/
def isB (d : D) (m : M) (Q : Bool → M → Prop) : Prop := ∃ b, d = .bl b ∧ Q b m
def tB (te : DTE) : DTT := fun x ds m Q => te x ds m fun d m1 => isB d m1 Q
theorem test_imp {σ : St} {H : Hp} {Q : Bool → Hp → Prop} (h : lT G W (tB te) σ H Q) : L2.tB (lE G W te) σ H Q := by
  obtain ⟨F, R, m, ds, Q0, x, st, sl, t, xk, k⟩ := h
  refine ⟨F, R, m, ds, _, x, st, sl, t, xk, fun d m1 F1 v H1 ⟨b, e, h1⟩ l1 s1 r1 => ?_⟩
  subst e
  cases r1
  exact ⟨b, rfl, k b m1 F1 H1 h1 l1 s1⟩
theorem dt_val (he : DE X G W e te) (hw : ∀ whole, isTrue e X.env whole = (do let v ← whole; standAt e.pos; holding [v] (truthy v)) := by intro _; rfl) : DT X G W e (tB te) :=
  (pt_val he hw).imp fun _ _ _ h => test_imp h
theorem dt_cmp {op : CmpOp} {r : DR2} (ho : OpD X G (compareOp op) r) (ha : DE X G W a ta) (hb : DE X G W b tb) (hm : behindInMarks op b = false) : DT X G W (.Compare a [op] [b] pos) (tB (bD r ta tb)) :=
  (pt_cmpR ho ha hb hm).imp fun σ H Q h => by
    obtain ⟨F, R, m, ds, Q0, x, st, sl, t, xk, k⟩ := h
    exact bin_imp ⟨F, R, m, ds, _, x, st, sl, t, xk, fun d m1 F1 v H1 ⟨b, e, h1⟩ l1 s1 r1 => by
      subst e
      cases r1
      exact ⟨b, rfl, k b m1 F1 H1 h1 l1 s1⟩⟩

/-! and, or, not -/
variable {tA tB' : DTT} {rest : List Expr}
def tAnd (t u : DTT) : DTT := fun x ds m Q => t x ds m fun c m1 => if c = true then u x ds m1 Q else Q false m1
def tOr (t u : DTT) : DTT := fun x ds m Q => t x ds m fun c m1 => if c = true then Q true m1 else u x ds m1 Q
def tNot (t : DTT) : DTT := fun x ds m Q => t x ds m fun c m1 => Q (!c) m1
theorem and_imp {t u : DTT} {σ : St} {H : Hp} {Q : Bool → Hp → Prop} (h : lT G W (tAnd t u) σ H Q) : L2.tAnd (lT G W t) (lT G W u) σ H Q := by
  obtain ⟨F, R, m, ds, Q0, x, st, sl, h, xk, k⟩ := h
  refine ⟨F, R, m, ds, _, x, st, sl, h, xk, fun c m1 F1 H1 h1 l1 s1 => ?_⟩
  cases c with
  | true => exact ⟨F1, R, m1, ds, Q0, x, s1, sl.le l1, h1, xk.le l1, fun b m' F' H' q l st' => k b m' F' H' q (l1.trans l) st'⟩
  | false => exact k false m1 F1 H1 h1 l1 s1
theorem or_imp {t u : DTT} {σ : St} {H : Hp} {Q : Bool → Hp → Prop} (h : lT G W (tOr t u) σ H Q) : L2.tOr (lT G W t) (lT G W u) σ H Q := by
  obtain ⟨F, R, m, ds, Q0, x, st, sl, h, xk, k⟩ := h
  refine ⟨F, R, m, ds, _, x, st, sl, h, xk, fun c m1 F1 H1 h1 l1 s1 => ?_⟩
  cases c with
  | false => exact ⟨F1, R, m1, ds, Q0, x, s1, sl.le l1, h1, xk.le l1, fun b m' F' H' q l st' => k b m' F' H' q (l1.trans l) st'⟩
  | true => exact k true m1 F1 H1 h1 l1 s1
abbrev DW (X : Cx) (G : CT) (W : WX) (e : Expr) (t : DTT) : Prop := PW X e (lT G W t)
theorem _root_.L2.PW.imp {e : Expr} {t t' : TT} (h : PW X e t) (i : ∀ σ H Q, t' σ H Q → t σ H Q) : PW X e t' := ⟨fun wh pins s σ H Q I w => h.run wh pins s σ H Q I (i _ _ _ w)⟩
theorem dw_and1 (ha : DT X G W a tA) : DW X G W (.BoolOp .And [a] pos) tA := pw_and1 ha
theorem dw_or1 (ha : DT X G W a tA) : DW X G W (.BoolOp .Or [a] pos) tA := pw_or1 ha
theorem dw_and (ha : DT X G W a tA) (hb : DW X G W (.BoolOp .And (b :: rest) pos) tB') : DW X G W (.BoolOp .And (a :: b :: rest) pos) (tAnd tA tB') := L2.PW.imp (pw_and ha hb) fun _ _ _ h => and_imp h
theorem dw_or (ha : DT X G W a tA) (hb : DW X G W (.BoolOp .Or (b :: rest) pos) tB') : DW X G W (.BoolOp .Or (a :: b :: rest) pos) (tOr tA tB') := L2.PW.imp (pw_or ha hb) fun _ _ _ h => or_imp h
theorem dt_not (ha : DT X G W a tA) : DT X G W (.UnaryOp .Not a pos) (tNot tA) := (pt_not ha).imp fun σ H Q h => by
  obtain ⟨F, R, m, ds, Q0, x, st, sl, h, xk, k⟩ := h
  exact ⟨F, R, m, ds, _, x, st, sl, h, xk, fun c m1 F1 H1 h1 l1 s1 => k (!c) m1 F1 H1 h1 l1 s1⟩
/-- and, or as values: all but the last are truths -/
def eAnd (ta tb : DTE) : DTE := fun x ds m Q => ta x ds m fun d m1 => isB d m1 fun c m1 => if c = true then tb x ds m1 Q else Q (.bl false) m1
def eOr (ta tb : DTE) : DTE := fun x ds m Q => ta x ds m fun d m1 => isB d m1 fun c m1 => if c = true then Q (.bl true) m1 else tb x ds m1 Q
def eNot (ta : DTE) : DTE := fun x ds m Q => ta x ds m fun d m1 => isB d m1 fun c m1 => Q (.bl (!c)) m1
theorem de_one {op} {t : DTE} (h : DE X G W a t) : DE X G W (.BoolOp op [a] pos) t := pe_one h
theorem de_and (ha : DE X G W a ta) (hb : DE X G W (.BoolOp .And (b :: rest) pos) tb) : DE X G W (.BoolOp .And (a :: b :: rest) pos) (eAnd ta tb) := (pe_and ha hb).imp fun σ H Q h => by
  obtain ⟨F, R, m, ds, Q0, x, st, sl, h, xk, k⟩ := h
  refine ⟨F, R, m, ds, _, x, st, sl, h, xk, fun d m1 F1 v H1 ⟨c, e, h1⟩ l1 s1 r1 => ?_⟩
  subst e
  cases r1
  refine ⟨c, rfl, ?_⟩
  cases c with
  | true => exact ⟨F1, R, m1, ds, Q0, x, s1, sl.le l1, h1, xk.le l1, fun b m' F' v H' q l st' r => k b m' F' v H' q (l1.trans l) st' r⟩
  | false => exact k (.bl false) m1 F1 (.bl false) H1 h1 l1 s1 (.bl false)
theorem de_or (ha : DE X G W a ta) (hb : DE X G W (.BoolOp .Or (b :: rest) pos) tb) : DE X G W (.BoolOp .Or (a :: b :: rest) pos) (eOr ta tb) := (pe_or ha hb).imp fun σ H Q h => by
  obtain ⟨F, R, m, ds, Q0, x, st, sl, h, xk, k⟩ := h
  refine ⟨F, R, m, ds, _, x, st, sl, h, xk, fun d m1 F1 v H1 ⟨c, e, h1⟩ l1 s1 r1 => ?_⟩
  subst e
  cases r1
  refine ⟨c, rfl, ?_⟩
  cases c with
  | false => exact ⟨F1, R, m1, ds, Q0, x, s1, sl.le l1, h1, xk.le l1, fun b m' F' v H' q l st' r => k b m' F' v H' q (l1.trans l) st' r⟩
  | true => exact k (.bl true) m1 F1 (.bl true) H1 h1 l1 s1 (.bl true)
theorem de_not (ha : DE X G W a ta) : DE X G W (.UnaryOp .Not a pos) (eNot ta) := (pe_not ha).imp fun σ H Q h => by
  obtain ⟨F, R, m, ds, Q0, x, st, sl, h, xk, k⟩ := h
  refine ⟨F, R, m, ds, _, x, st, sl, h, xk, fun d m1 F1 v H1 ⟨c, e, h1⟩ l1 s1 r1 => ?_⟩
  subst e
  cases r1
  exact ⟨c, rfl, k _ m1 F1 _ H1 h1 l1 s1 (.bl (!c))⟩
def eIf (t : DTT) (ta tb : DTE) : DTE := fun x ds m Q => t x ds m fun c m1 => if c = true then ta x ds m1 Q else tb x ds m1 Q
theorem de_if {c : Expr} (hc : DT X G W c tA) (ha : DE X G W a ta) (hb : DE X G W b tb) : DE X G W (.IfExp c a b pos) (eIf tA ta tb) := (pe_ifExp hc ha hb).imp fun σ H Q h => by
  obtain ⟨F, R, m, ds, Q0, x, st, sl, h, xk, k⟩ := h
  refine ⟨F, R, m, ds, _, x, st, sl, h, xk, fun c m1 F1 H1 h1 l1 s1 => ?_⟩
  cases c with
  | true => exact ⟨F1, R, m1, ds, Q0, x, s1, sl.le l1, h1, xk.le l1, fun b m' F' v H' q l st' r => k b m' F' v H' q (l1.trans l) st' r⟩
  | false => exact ⟨F1, R, m1, ds, Q0, x, s1, sl.le l1, h1, xk.le l1, fun b m' F' v H' q l st' r => k b m' F' v H' q (l1.trans l) st' r⟩
/-- a < b < c -/
def eChain (r r' : DR2) (ta tb tc : DTE) : DTE := fun x ds m Q => ta x ds m fun p m1 => tb x ds m1 fun q m2 => r p q m2 fun z m3 => isB z m3 fun k m3 => if k = true then tc x ds m3 fun u m4 => r' q u m4 Q else Q (.bl false) m3

/-! ### arguments, displays -/
def aNil : DTA := fun _ _ m Q => Q [] m
def aCons (ta : DTE) (tr : DTA) : DTA := fun x ds m Q => ta x ds m fun d m1 => tr x ds m1 fun r m2 => Q (d :: r) m2
theorem da_nil : DA X G W [] aNil := pa_nil.imp fun σ H Q h => by
  obtain ⟨F, R, m, ds, Q0, x, st, sl, h, xk, k⟩ := h
  exact k [] m F [] H h (Le.refl F) st .nil
theorem da_cons {es : List Expr} {t : DTA} (ha : DE X G W e te) (hr : DA X G W es t) (hs : starEach (e :: es) X.env = (false, eval e X.env) :: starEach es X.env := by rfl) : DA X G W (e :: es) (aCons te t) := (pa_cons ha hr hs).imp fun σ H Q h => by
  obtain ⟨F, R, m, ds, Q0, x, st, sl, h, xk, k⟩ := h
  refine ⟨F, R, m, ds, _, x, st, sl, h, xk, fun d m1 F1 v H1 h1 l1 s1 r1 => ?_⟩
  exact ⟨F1, R, m1, ds, _, x, s1, sl.le l1, h1, xk.le l1, fun xs m2 F2 vs H2 h2 l2 s2 r2 => k _ m2 F2 _ H2 h2 (l1.trans l2) s2 (.cons (r1.le l2) r2)⟩
def eTup (t : DTA) : DTE := fun x ds m Q => t x ds m fun xs m1 => xs.length ≤ sizeLine ∧ Q (.tup xs) m1
def eLst (t : DTA) : DTE := fun x ds m Q => t x ds m fun xs m1 => xs.length ≤ sizeLine ∧ Q (.lst xs) m1
/-- a list that will change -/
def eLstM (t : DTA) : DTE := fun x ds m Q => t x ds m fun xs m1 => xs.length ≤ sizeLine ∧ ∀ p, m1 p = none → Q (.ref p) (mset m1 p (.lst xs))
theorem de_tup {es : List Expr} {t : DTA} {x1} (h : DA X G W es t) : DE X G W (.Tuple es x1 pos) (eTup t) := (pe_tup h).imp fun σ H Q h => by
  obtain ⟨F, R, m, ds, Q0, x, st, sl, h, xk, k⟩ := h
  refine ⟨F, R, m, ds, _, x, st, sl, h, xk, fun xs m1 F1 vs H1 ⟨hl, h1⟩ l1 s1 r1 => ⟨by rw [r1.length]; exact hl, fun p hp => ?_⟩⟩
  have hf := s1.fnone hp
  exact k _ m1 _ _ _ h1 (l1.trans (le_upd hf)) (s1.new hp) (.tup upd_same (r1.le (le_upd hf)))
theorem de_lst {es : List Expr} {t : DTA} (h : DA X G W es t) : DE X G W (.List es pos) (eLst t) := (pe_lst h).imp fun σ H Q h => by
  obtain ⟨F, R, m, ds, Q0, x, st, sl, h, xk, k⟩ := h
  refine ⟨F, R, m, ds, _, x, st, sl, h, xk, fun xs m1 F1 vs H1 ⟨hl, h1⟩ l1 s1 r1 => ⟨by rw [r1.length]; exact hl, fun p hp => ?_⟩⟩
  have hf := s1.fnone hp
  exact k _ m1 _ _ _ h1 (l1.trans (le_upd hf)) (s1.new hp) (.lst upd_same (r1.le (le_upd hf)))
theorem de_lstM {es : List Expr} {t : DTA} (h : DA X G W es t) : DE X G W (.List es pos) (eLstM t) := (pe_lst h).imp fun σ H Q h => by
  obtain ⟨F, R, m, ds, Q0, x, st, sl, h, xk, k⟩ := h
  refine ⟨F, R, m, ds, _, x, st, sl, h, xk, fun xs m1 F1 vs H1 ⟨hl, h1⟩ l1 s1 r1 => ⟨by rw [r1.length]; exact hl, fun p hp => ?_⟩⟩
  exact k _ _ _ _ _ (h1 p (s1.mnone hp)) l1 (s1.newM hp ⟨_, upd_same, r1⟩) (.ref p)
end
end DL

namespace DL
open PySem L2
section
variable {X : Cx} {G : CT} {W : WX} {a b e : Expr} {ta tb te : DTE} {pos : Pos}

/-! ### statements -/
def sNext : DTS := fun E ds m => E.nx ds m
def sSeq (t u : DTS) : DTS := fun E ds m => t { E with nx := u E } ds m
theorem dss_nil : DSs X G W [] sNext := (pss_nil (X := X)).imp fun D σ H ⟨F, R, m, ds, E, st, sl, h, k⟩ => k.nx ds m F σ H h (Le.refl F) st sl
theorem EndsOK.seq {F R : Hp} {E : DEnds} {D : Ends} {u : DTS} (k : EndsOK G W F R E D) : EndsOK G W F R { E with nx := u E } { D with nx := lS G W u D } :=
  ⟨fun ds m' F' σ' H' h l st sl => ⟨F', R, m', ds, E, st, sl, h, k.le l⟩, k.rt, k.bk, k.ct, k.ex⟩
theorem dss_cons {st : Stmt} {rest : List Stmt} {t u : DTS} (h1 : DS X G W st t) (h2 : DSs X G W rest u) : DSs X G W (st :: rest) (sSeq t u) := (pss_cons h1 h2).imp fun D σ H ⟨F, R, m, ds, E, st, sl, h, k⟩ =>
  ⟨F, R, m, ds, { E with nx := u E }, st, sl, h, k.seq⟩
theorem dss_one {st : Stmt} {t : DTS} (h1 : DS X G W st t) : DSs X G W [st] t := pss_one h1
theorem ds_pass : DS X G W (.Pass pos) sNext := (ps_pass (X := X)).imp fun D σ H ⟨F, R, m, ds, E, st, sl, h, k⟩ => k.nx ds m F σ H h (Le.refl F) st sl
def sBreak : DTS := fun E ds m => E.bk ds m
def sCont : DTS := fun E ds m => E.ct ds m
theorem ds_break : DS X G W (.Break pos) sBreak := (ps_break (X := X)).imp fun D σ H ⟨F, R, m, ds, E, st, sl, h, k⟩ => k.bk ds m F σ H h (Le.refl F) st sl
theorem ds_continue : DS X G W (.Continue pos) sCont := (ps_continue (X := X)).imp fun D σ H ⟨F, R, m, ds, E, st, sl, h, k⟩ => k.ct ds m F σ H h (Le.refl F) st sl
def sDrop (te : DTE) : DTS := fun E ds m => te E.ex ds m fun _ m1 => E.nx ds m1
theorem ds_expr (he : DE X G W e te) (hs : swapsWith e none pos.line X.env = pure false := by rfl) : DS X G W (.Expr e pos) (sDrop te) := (ps_expr he hs).imp fun D σ H ⟨F, R, m, ds, E, st, sl, h, k⟩ =>
  ⟨F, R, m, ds, _, E.ex, st, sl, h, k.ex, fun d m1 F1 v H1 q l s1 _ => k.nx ds m1 F1 σ H1 q l s1 (sl.le l)⟩
def sRet (te : DTE) : DTS := fun E ds m => te E.ex ds m E.rt
theorem ds_ret (he : DE X G W e te) : DS X G W (.Return (some e) pos) (sRet te) := (ps_ret he).imp fun D σ H ⟨F, R, m, ds, E, st, sl, h, k⟩ =>
  ⟨F, R, m, ds, _, E.ex, st, sl, h, k.ex, fun d m1 F1 v H1 q l s1 r => k.rt d m1 F1 v H1 q l s1 r⟩
def sRetN : DTS := fun E _ m => E.rt .non m
theorem ds_retN : DS X G W (.Return none pos) sRetN := (ps_retN (X := X)).imp fun D σ H ⟨F, R, m, ds, E, st, sl, h, k⟩ => k.rt .non m F .non H h (Le.refl F) st .non
def sIf (c : DTT) (t u : DTS) : DTS := fun E ds m => c E.ex ds m fun b m1 => if b = true then t E ds m1 else u E ds m1
theorem ds_if {c : Expr} {p q : List Stmt} {tc : DTT} {t u : DTS} (hc : DT X G W c tc) (ha : DSs X G W p t) (hb : DSs X G W q u) : DS X G W (.If c p q pos) (sIf tc t u) := (ps_if hc ha hb).imp fun D σ H ⟨F, R, m, ds, E, st, sl, h, k⟩ =>
  ⟨F, R, m, ds, _, E.ex, st, sl, h, k.ex, fun b m1 F1 H1 q l s1 => by
    cases b with
    | true => exact ⟨F1, R, m1, ds, E, s1, sl.le l, q, k.le l⟩
    | false => exact ⟨F1, R, m1, ds, E, s1, sl.le l, q, k.le l⟩⟩
def sNever : DTS := fun _ _ _ => False
theorem ds_never {st : Stmt} : DS X G W st sNever := (ps_never (X := X) (st := st)).imp fun D σ H ⟨F, R, m, ds, E, st, sl, h, k⟩ => h.elim

/-! ### targets -/
abbrev DTG := EK → D → DSt → M → (DSt → M → Prop) → Prop
abbrev DTGs := EK → List D → DSt → M → (DSt → M → Prop) → Prop
def lG (G : CT) (W : WX) (t : DTG) : TG := fun v σ H Q => ∃ F R m ds d Q0 x, Hst G F R H m ∧ SL G F σ ds ∧ Rep G F v d ∧ t x d ds m Q0 ∧ XOK G W F R x ∧
  ∀ ds' m' F' σ' H', Q0 ds' m' → Le F F' → Hst G F' R H' m' → SL G F' σ' ds' → Q σ' H'
def lGs (G : CT) (W : WX) (t : DTGs) : TGs := fun vs σ H Q => ∃ F R m ds d Q0 x, Hst G F R H m ∧ SL G F σ ds ∧ Reps G F vs d ∧ t x d ds m Q0 ∧ XOK G W F R x ∧
  ∀ ds' m' F' σ' H', Q0 ds' m' → Le F F' → Hst G F' R H' m' → SL G F' σ' ds' → Q σ' H'
abbrev DG (X : Cx) (G : CT) (W : WX) (e : Expr) (t : DTG) : Prop := PG X e (lG G W t)
abbrev DGs (X : Cx) (G : CT) (W : WX) (es : List Expr) (t : DTGs) : Prop := PGs X es (lGs G W t)
theorem _root_.L2.PG.imp {e : Expr} {t t' : TG} (h : PG X e t) (i : ∀ v σ H Q, t' v σ H Q → t v σ H Q) : PG X e t' := ⟨fun pins s σ H v u Q I r w => h.run pins s σ H v u Q I r (i _ _ _ _ w)⟩
theorem _root_.L2.PGs.imp {e : List Expr} {t t' : TGs} (h : PGs X e t) (i : ∀ v σ H Q, t' v σ H Q → t v σ H Q) : PGs X e t' := ⟨fun pins s σ H v u Q I r w => h.run pins s σ H v u Q I r (i _ _ _ _ w)⟩
def gNm (i : Nat) : DTG := fun _ d ds m Q => Q (ds.set i (some d)) m
theorem dg_name {i : Nat} {x : Str} (h : PG X (.Name x pos) (L2.gName i)) : DG X G W (.Name x pos) (gNm i) := h.imp fun v σ H Q ⟨F, R, m, ds, d, Q0, x, st, sl, r, h, _, k⟩ => k _ m F _ H h (Le.refl F) st (sl.set i r)
def gsNil : DTGs := fun _ xs ds m Q => xs = [] ∧ Q ds m
def gsCons (t : DTG) (u : DTGs) : DTGs := fun x xs ds m Q => match xs with
  | d :: r => t x d ds m fun ds' m' => u x r ds' m' Q
  | [] => False
theorem dgs_nil : DGs X G W [] gsNil := (pgs_nil (X := X)).imp fun v σ H Q ⟨F, R, m, ds, d, Q0, x, st, sl, r, ⟨e, h⟩, _, k⟩ => by
  subst e
  cases r
  exact ⟨rfl, k _ m F _ H h (Le.refl F) st sl⟩
theorem dgs_cons {es : List Expr} {t : DTG} {u : DTGs} (h1 : DG X G W e t) (h2 : DGs X G W es u) (hs : (assignEach (e :: es) X.env).map (·.2) = assign e X.env :: (assignEach es X.env).map (·.2) := by rfl) : DGs X G W (e :: es) (gsCons t u) :=
  (pgs_cons h1 h2 hs).imp fun v σ H Q ⟨F, R, m, ds, d, Q0, x, st, sl, r, h, xk, k⟩ => by
    cases r with
    | nil => exact h.elim
    | @cons v d vs xs r1 rr =>
      refine ⟨v, vs, rfl, F, R, m, ds, d, _, x, st, sl, r1, h, xk, fun ds1 m1 F1 σ1 H1 h1 l1 s1 sl1 => ?_⟩
      exact ⟨F1, R, m1, ds1, xs, Q0, x, s1, sl1, rr.le l1, h1, xk.le l1, fun ds' m' F' σ' H' q l => k ds' m' F' σ' H' q (l1.trans l)⟩
def gTp (n : Nat) (t : DTGs) : DTG := fun x d ds m Q => match d with
  | .tup xs => xs.length = n ∧ t x xs ds m Q
  | _ => False
theorem dg_tup {es : List Expr} {k : Nat} {t : DTGs} {n : Nat} (hc : X.calm = true) (h : DGs X G W es t) (hn : (assignEach es X.env).length = n := by rfl) (hst : (assignEach es X.env).findIdx? (·.1) = none := by rfl) : DG X G W (.Tuple es k pos) (gTp n t) :=
  (pg_tup hc h hn hst).imp fun v σ H Q ⟨F, R, m, ds, d, Q0, x, st, sl, r, h, xk, kk⟩ => by
    cases r with
    | @tup a vs xs ha r => exact ⟨a, vs, rfl, .inl (.inl (st.fz _ _ ha)), r.length.trans h.1, F, R, m, ds, xs, Q0, x, st, sl, r, h.2, xk, kk⟩
    | _ => exact h.elim
def sAsg (te : DTE) (g : DTG) : DTS := fun E ds m => te E.ex ds m fun d m1 => g E.ex d ds m1 E.nx
theorem asg_imp {g : DTG} {D : Ends} {σ : St} {H : Hp} (h : lS G W (sAsg te g) D σ H) : tAsg (lE G W te) (lG G W g) D σ H := by
  obtain ⟨F, R, m, ds, E, st, sl, h, k⟩ := h
  exact ⟨F, R, m, ds, _, E.ex, st, sl, h, k.ex, fun d m1 F1 v H1 q l s1 r => ⟨F1, R, m1, ds, d, E.nx, E.ex, s1, sl.le l, r, q, k.ex.le l, fun ds' m' F' σ' H' q' l' => k.nx ds' m' F' σ' H' q' (l.trans l')⟩⟩
theorem ds_asg {tg : Expr} {g : DTG} (he : DE X G W e te) (hg : DG X G W tg g) (hs : swapsWithSole [tg] e pos.line X.env = pure false := by rfl) (hw : swappedStores [tg] e X.env = pure none := by rfl)
    (h1 : (assignEach [tg] X.env).map (·.2) = [assign tg X.env] := by rfl) : DS X G W (.Assign [tg] e pos) (sAsg te g) := (ps_asg he hg hs hw h1).imp fun _ _ _ h => asg_imp h
theorem ds_set {i : Nat} {x : Str} {pos' : Pos} (h : ∀ {t : TE}, PE X e t → PS X (.Assign [.Name x pos'] e pos) (tAsg t (L2.gName i))) (he : DE X G W e te) : DS X G W (.Assign [.Name x pos'] e pos) (sAsg te (gNm i)) := (h he).imp fun D σ H ⟨F, R, m, ds, E, st, sl, h, k⟩ =>
  ⟨F, R, m, ds, _, E.ex, st, sl, h, k.ex, fun d m1 F1 v H1 q l s1 r => k.nx _ m1 F1 _ H1 q l s1 ((sl.le l).set i r)⟩
/-- a, b = x, y -/
def sPar (i j : Nat) (ta : DTA) : DTS := fun E ds m => ta E.ex ds m fun xs m1 => match xs with
  | [p, q] => E.nx ((ds.set i (some p)).set j (some q)) m1
  | _ => False
theorem ds_par {i j : Nat} {st : Stmt} {t : DTA} {es : List Expr} (h : ∀ {t : TA}, PA X es t → PS X st (tPar i j t)) (ha : DA X G W es t) : DS X G W st (sPar i j t) := (h ha).imp fun D σ H ⟨F, R, m, ds, E, s, sl, h, k⟩ =>
  ⟨F, R, m, ds, _, E.ex, s, sl, h, k.ex, fun xs m1 F1 vs H1 q l s1 r => by
    match xs, vs, r, q with
    | [p, q'], [v, w], .cons r1 (.cons r2 .nil), q => exact ⟨v, w, rfl, k.nx _ m1 F1 _ H1 q l s1 (((sl.le l).set i r1).set j r2)⟩⟩
/-- xs[i] = d, the list one that changes -/
def gIx (to ti : DTE) : DTG := fun x d ds m Q => to x ds m fun o m1 => ti x ds m1 fun k m2 => ∃ (p : Addr) (xs : List D) (n : Nat), o = .ref p ∧ k = .int (n : Int) ∧ m2 p = some (.lst xs) ∧ n < xs.length ∧ Q ds (mset m2 p (.lst (xs.set n d)))
theorem ixN_of {n : Nat} {k : Nat} (h : k < n) : ixN n (k : Int) = some k := by
  simp only [ixN, show (0 : Int) ≤ (n : Int) from Int.natCast_nonneg n, if_true, Int.ofNat_lt, h]
  simp
theorem dg_ix {o i : Expr} {to ti : DTE} (ho : DE X G W o to) (hi : DE X G W i ti)
    (ha : ∀ v, assign (.Subscript o i pos) X.env v = (do let ob ← holding [v] (eval o X.env); let ix ← holding [v, ob] (eval i X.env); standAt pos; holding [v, ob, ix] (setItem ob ix v); release [v, ob, ix] []) := by intro _; rfl) : DG X G W (.Subscript o i pos) (gIx to ti) := (pg_sub ho hi set_list ha).imp fun v σ H Q ⟨F, R, m, ds, d, Q0, x, st, sl, r, h, xk, k⟩ => by
  refine ⟨F, R, m, ds, _, x, st, sl, h, xk, fun o m1 F1 ov H1 h1 l1 s1 r1 => ?_⟩
  refine ⟨F1, R, m1, ds, _, x, s1, sl.le l1, h1, xk.le l1, fun kk m2 F2 iv H2 ⟨p, xs, n, e1, e2, hm, hn, q⟩ l2 s2 r2 => ?_⟩
  subst e1; subst e2
  cases r1
  cases r2
  obtain ⟨hf, vs, hv, rv⟩ := s2.mt p _ hm
  refine ⟨p, vs, n, n, rfl, rfl, hv, ixN_of (by rw [rv.length]; exact hn), ?_⟩
  exact k ds _ F2 σ _ q (l1.trans l2) (s2.put hm ⟨_, upd_same, rv.set (r.le (l1.trans l2)) n⟩) ((sl.le l1).le l2)

/-! ### loops over what stands still -/
abbrev DTI := EK → DSt → M → (List D → M → Prop) → Prop
/-- the iterator gives these, whatever grows -/
def Gives (G : CT) (F : Hp) (J : It) (xs : List D) : Prop := ∀ F' R' m' H', Le F F' → Hst G F' R' H' m' → ∀ i : Nat,
  (xs.length ≤ i → J.stop i H') ∧ (∀ d, xs[i]? = some d → J.go i H' ∧ ∀ v H3, J.yld i H' v H3 → ∃ F3, Le F' F3 ∧ Hst G F3 R' H3 m' ∧ Rep G F3 v d)
def lI (G : CT) (W : WX) (t : DTI) : TI := fun σ H Rr => ∃ F R m ds Q0 x, Hst G F R H m ∧ SL G F σ ds ∧ t x ds m Q0 ∧ XOK G W F R x ∧
  ∀ xs m' F' H', Q0 xs m' → Le F F' → Hst G F' R H' m' → ∃ J, Gives G F' J xs ∧ ∃ H2 F2, Le F' F2 ∧ Hst G F2 R H2 m' ∧ Rr J H2
abbrev DI (X : Cx) (G : CT) (W : WX) (tg it : Expr) (t : DTI) : Prop := ∃ wi, PI X tg it wi ∧ ∀ σ H Rr, (∃ F R m ds Q0 x, Hst G F R H m ∧ SL G F σ ds ∧ t x ds m Q0 ∧ XOK G W F R x ∧
  ∀ xs m' F' H' J, Q0 xs m' → Le F F' → Hst G F' R H' m' → Gives G F' J xs → Rr J H') → wi σ H Rr
theorem gives_list {K : PySem.W.Frag} {F : Hp} {p : Addr} {vs : List V} {xs : List D} (h : F p = some (.lst vs) ∨ ∃ o, F p = some (.frz o (.lst vs))) (r : Reps G F vs xs) : Gives G F (Itl K p) xs := by
  intro F' R' m' H' l st i
  have hq : ∀ F2 H2, Le F' F2 → Hst G F2 R' H2 m' → SqL K H2 p vs := fun F2 H2 l2 s2 => by
    rcases h with h | ⟨o, h⟩
    · exact .inl (.inl (s2.fz _ _ (l2 _ _ (l _ _ h))))
    · exact .inl (.inr ⟨o, s2.fz _ _ (l2 _ _ (l _ _ h))⟩)
  refine ⟨fun hi => ⟨vs, hq F' H' (Le.refl _) st, by rw [r.length]; exact hi⟩, fun d hd => ?_⟩
  obtain ⟨v, hv, rv⟩ := r.get hd
  refine ⟨⟨vs, v, hq F' H' (Le.refl _) st, hv⟩, fun u H3 ⟨e, y⟩ => ?_⟩
  subst e
  have e2 := y vs (hq F' H3 (Le.refl _) st)
  rw [hv] at e2
  cases e2
  exact ⟨F', Le.refl _, st, rv.le l⟩
theorem gives_tup {K : PySem.W.Frag} {F : Hp} {p : Addr} {vs : List V} {xs : List D} (h : F p = some (.tup vs)) (r : Reps G F vs xs) : Gives G F (Itt K p) xs := by
  intro F' R' m' H' l st i
  have hq : ∀ F2 H2, Le F' F2 → Hst G F2 R' H2 m' → SqT K H2 p vs := fun F2 H2 l2 s2 => .inl (.inl (s2.fz _ _ (l2 _ _ (l _ _ h))))
  refine ⟨fun hi => ⟨vs, hq F' H' (Le.refl _) st, by rw [r.length]; exact hi⟩, fun d hd => ?_⟩
  obtain ⟨v, hv, rv⟩ := r.get hd
  refine ⟨⟨vs, v, hq F' H' (Le.refl _) st, hv⟩, fun u H3 ⟨e, y⟩ => ?_⟩
  subst e
  have e2 := y vs (hq F' H3 (Le.refl _) st)
  rw [hv] at e2
  cases e2
  exact ⟨F', Le.refl _, st, rv.le l⟩
def iLst (te : DTE) : DTI := fun x ds m Q => te x ds m fun d m1 => match d with
  | .lst xs => Q xs m1
  | .scr xs => Q xs m1
  | _ => False
def iTupD (te : DTE) : DTI := fun x ds m Q => te x ds m fun d m1 => match d with
  | .tup xs => Q xs m1
  | _ => False
theorem di_list {tg : Expr} (he : DE X G W e te) : DI X G W tg e (iLst te) := ⟨_, pi_list he, fun σ H Rr ⟨F, R, m, ds, Q0, x, st, sl, h, xk, k⟩ => by
  refine ⟨F, R, m, ds, _, x, st, sl, h, xk, fun d m1 F1 v H1 q l1 s1 r1 => ?_⟩
  cases r1 with
  | @lst p vs xs hp r => exact ⟨p, rfl, ⟨vs, .inl (.inl (s1.fz _ _ hp))⟩, k xs m1 F1 H1 _ q l1 s1 (gives_list (.inl hp) r)⟩
  | @lsz p o vs xs hp r => exact ⟨p, rfl, ⟨vs, .inl (.inr ⟨o, s1.fz _ _ hp⟩)⟩, k xs m1 F1 H1 _ q l1 s1 (gives_list (.inr ⟨o, hp⟩) r)⟩
  | _ => exact q.elim⟩
theorem di_tup {tg : Expr} (he : DE X G W e te) : DI X G W tg e (iTupD te) := ⟨_, pi_tup he, fun σ H Rr ⟨F, R, m, ds, Q0, x, st, sl, h, xk, k⟩ => by
  refine ⟨F, R, m, ds, _, x, st, sl, h, xk, fun d m1 F1 v H1 q l1 s1 r1 => ?_⟩
  cases r1 with
  | @tup p vs xs hp r => exact ⟨p, rfl, ⟨vs, .inl (.inl (s1.fz _ _ hp))⟩, k xs m1 F1 H1 _ q l1 s1 (gives_tup hp r)⟩
  | _ => exact q.elim⟩
def rng (lo : Int) (n : Nat) : List D := (List.range n).map fun (i : Nat) => D.int (lo + (i : Int))
theorem rng_len (lo : Int) (n : Nat) : (rng lo n).length = n := by simp [rng]
theorem rng_get {lo : Int} {n i : Nat} {d : D} (h : (rng lo n)[i]? = some d) : i < n ∧ d = .int (lo + (i : Int)) := by
  unfold rng at h
  rw [List.getElem?_map] at h
  cases q : (List.range n)[i]? with
  | none => rw [q] at h; cases h
  | some j =>
    rw [q] at h
    obtain ⟨h1, h2⟩ := List.getElem?_eq_some_iff.mp q
    simp at h1 h2
    subst h2
    cases h
    exact ⟨h1, rfl⟩
theorem gives_rng {F : Hp} {lo : Int} {n : Nat} : Gives G F (Itr lo n) (rng lo n) := by
  intro F' R' m' H' l st i
  refine ⟨fun hi => by rw [rng_len] at hi; exact hi, fun d hd => ?_⟩
  obtain ⟨h1, h2⟩ := rng_get hd
  subst h2
  refine ⟨h1, fun v H3 ⟨e, y⟩ => ?_⟩
  subst e y
  exact ⟨F', Le.refl _, st, .int _⟩
def iR1 (ta : DTA) : DTI := fun x ds m Q => ta x ds m fun xs m1 => match xs with
  | [.int j] => (-(2 ^ 62) ≤ j ∧ j < 2 ^ 62) ∧ Q (rng 0 j.toNat) m1
  | _ => False
def iR2 (ta : DTA) : DTI := fun x ds m Q => ta x ds m fun xs m1 => match xs with
  | [.int i, .int j] => (-(2 ^ 62) ≤ i ∧ i < 2 ^ 62 ∧ -(2 ^ 62) ≤ j ∧ j < 2 ^ 62) ∧ Q (rng i (j - i).toNat) m1
  | _ => False
theorem di_range1 {tg : Expr} {p : Pos} {t : DTA} (hg : Gl X "range") (hm : X.mg "range" = none) (ha : DA X G W [a] t) (hs : starEach [a] X.env = [(false, eval a X.env)] := by rfl) : DI X G W tg (.Call (.Name "range" p) [a] [] pos) (iR1 t) :=
  ⟨_, pi_range1 hg hm ha hs, fun σ H Rr ⟨F, R, m, ds, Q0, x, st, sl, h, xk, k⟩ => by
    refine ⟨F, R, m, ds, _, x, st, sl, h, xk, fun xs m1 F1 vs H1 q l1 s1 r1 => ?_⟩
    match xs, vs, r1, q with
    | [.int j], [v], .cons r .nil, q => cases r; exact ⟨j, rfl, q.1.1, q.1.2, k _ m1 F1 H1 _ q.2 l1 s1 gives_rng⟩⟩
theorem di_range2 {tg : Expr} {p : Pos} {t : DTA} (hg : Gl X "range") (hm : X.mg "range" = none) (ha : DA X G W [a, b] t) (hs : starEach [a, b] X.env = [(false, eval a X.env), (false, eval b X.env)] := by rfl) (hs2 : starEach [b] X.env = [(false, eval b X.env)] := by rfl) :
    DI X G W tg (.Call (.Name "range" p) [a, b] [] pos) (iR2 t) :=
  ⟨_, pi_range2 hg hm ha hs hs2, fun σ H Rr ⟨F, R, m, ds, Q0, x, st, sl, h, xk, k⟩ => by
    refine ⟨F, R, m, ds, _, x, st, sl, h, xk, fun xs m1 F1 vs H1 q l1 s1 r1 => ?_⟩
    match xs, vs, r1, q with
    | [.int i, .int j], [v, w], .cons r (.cons r' .nil), q => cases r; cases r'; exact ⟨i, j, rfl, q.1, k _ m1 F1 H1 _ q.2 l1 s1 gives_rng⟩⟩
/-- enumerate of a list -/
def enumD (xs : List D) : List D := xs.zipIdx.map fun p => D.tup [.int (p.2 : Nat), p.1]
theorem enumD_get {xs : List D} {i : Nat} {d : D} (h : (enumD xs)[i]? = some d) : ∃ y, xs[i]? = some y ∧ d = .tup [.int (i : Nat), y] := by
  unfold enumD at h
  rw [List.getElem?_map, List.getElem?_zipIdx] at h
  cases q : xs[i]? with
  | none => rw [q] at h; cases h
  | some y =>
    rw [q] at h
    simp at h
    exact ⟨y, rfl, h.symm⟩
theorem gives_enum {K : PySem.W.Frag} {F : Hp} {p : Addr} {vs : List V} {xs : List D} (h : F p = some (.lst vs)) (r : Reps G F vs xs) : Gives G F (Ite K p) (enumD xs) := by
  intro F' R' m' H' l st i
  have hq : ∀ F2 H2, Le F' F2 → Hst G F2 R' H2 m' → SqL K H2 p vs := fun F2 H2 l2 s2 => .inl (.inl (s2.fz _ _ (l2 _ _ (l _ _ h))))
  refine ⟨fun hi => ⟨vs, hq F' H' (Le.refl _) st, by rw [r.length]; simpa [enumD] using hi⟩, fun d hd => ?_⟩
  obtain ⟨y, hy, e⟩ := enumD_get hd
  subst e
  obtain ⟨v, hv, rv⟩ := r.get hy
  refine ⟨⟨vs, v, hq F' H' (Le.refl _) st, hv⟩, fun u H3 ⟨T, x, e1, hT, e3, y3⟩ => ?_⟩
  subst e1 e3
  have e2 := y3 vs (hq F' H' (Le.refl _) st)
  rw [hv] at e2
  cases e2
  exact ⟨_, le_upd (st.fnone hT), st.new hT, .tup upd_same (.cons (.int _) (.cons ((rv.le l).le (le_upd (st.fnone hT))) .nil))⟩
def iEnm (ta : DTA) : DTI := fun x ds m Q => ta x ds m fun xs m1 => match xs with
  | [.lst ys] => Q (enumD ys) m1
  | [.scr ys] => Q (enumD ys) m1
  | _ => False
theorem gives_enumz {K : PySem.W.Frag} {F : Hp} {p : Addr} {o : Obj} {vs : List V} {xs : List D} (h : F p = some (.frz o (.lst vs))) (r : Reps G F vs xs) : Gives G F (Ite K p) (enumD xs) := by
  intro F' R' m' H' l st i
  have hq : SqL K H' p vs := .inl (.inr ⟨o, st.fz _ _ (l _ _ h)⟩)
  refine ⟨fun hi => ⟨vs, hq, by rw [r.length]; simpa [enumD] using hi⟩, fun d hd => ?_⟩
  obtain ⟨y, hy, e⟩ := enumD_get hd
  subst e
  obtain ⟨v, hv, rv⟩ := r.get hy
  refine ⟨⟨vs, v, hq, hv⟩, fun u H3 ⟨T, x, e1, hT, e3, y3⟩ => ?_⟩
  subst e1 e3
  have e2 := y3 vs hq
  rw [hv] at e2
  cases e2
  exact ⟨_, le_upd (st.fnone hT), st.new hT, .tup upd_same (.cons (.int _) (.cons ((rv.le l).le (le_upd (st.fnone hT))) .nil))⟩
theorem di_enum {elts : List Expr} {kk : Nat} {tpos p : Pos} {t : DTA} (hg : Gl X "enumerate") (hm : X.mg "enumerate" = none) (ha : DA X G W [e] t) (hs : starEach [e] X.env = [(false, eval e X.env)] := by rfl) :
    DI X G W (.Tuple elts kk tpos) (.Call (.Name "enumerate" p) [e] [] pos) (iEnm t) := ⟨_, pi_enum hg hm ha hs, fun σ H Rr ⟨F, R, m, ds, Q0, x, st, sl, h, xk, k⟩ => by
    refine ⟨F, R, m, ds, _, x, st, sl, h, xk, fun xs m1 F1 vs H1 q l1 s1 r1 => ?_⟩
    match xs, vs, r1, q with
    | [.lst ys], [v], .cons r .nil, q =>
      cases r with
      | @lst p ws _ hp rr => exact ⟨p, ws, rfl, .inl (.inl (s1.fz _ _ hp)), k _ m1 F1 H1 _ q l1 s1 (gives_enum hp rr)⟩
    | [.scr ys], [v], .cons r .nil, q =>
      cases r with
      | @lsz p o ws _ hp rr => exact ⟨p, ws, rfl, .inl (.inr ⟨o, s1.fz _ _ hp⟩), k _ m1 F1 H1 _ q l1 s1 (gives_enumz hp rr)⟩⟩

/-- the turns -/
def forD (g : DTG) (tb : DTS) (E : DEnds) : List D → DSt → M → Prop
  | [], ds, m => E.nx ds m
  | d :: r, ds, m => g E.ex d ds m fun ds' m' => tb { E with nx := forD g tb E r, ct := forD g tb E r, bk := E.nx } ds' m'
def sFor (ti : DTI) (g : DTG) (tb : DTS) : DTS := fun E ds m => ti E.ex ds m fun xs m1 => forD g tb E xs ds m1
theorem ds_for {tg it : Expr} {body : List Stmt} {ti : DTI} {g : DTG} {tb : DTS} (hp : PassesOwn (model X.prog X.w) X.A X.env X.xe) (hc : X.calm = true) (hi : DI X G W tg it ti) (hg : DG X G W tg g) (hb : DSs X G W body tb)
    (hs : ∀ x, foldedSetIterable it X.env x = pure x := by intro _; rfl) : DS X G W (.For tg it body [] pos) (sFor ti g tb) := by
  obtain ⟨wi, hi, hw⟩ := hi
  refine (ps_for hp hc hi hg hb hs).imp fun D σ H ⟨F, R, m, ds, E, st, sl, h, k⟩ => ?_
  refine hw σ H _ ⟨F, R, m, ds, _, E.ex, st, sl, h, k.ex, fun xs m1 F1 H1 J q l1 s1 gv => ?_⟩
  refine ⟨fun i n σ' H' => ∃ F' m' ds', n = xs.length - i ∧ i ≤ xs.length ∧ Le F1 F' ∧ Hst G F' R H' m' ∧ SL G F' σ' ds' ∧ forD g tb E (xs.drop i) ds' m', ⟨xs.length, F1, m1, ds, by simp, Nat.zero_le _, Le.refl _, s1, sl.le l1, by simpa using q⟩, ?_⟩
  rintro i n σ' H' ⟨F', m', ds', rfl, hi', l', s', sl', f⟩
  obtain ⟨g1, g2⟩ := gv F' R m' H' l' s' i
  by_cases hlt : i < xs.length
  · obtain ⟨hgo, hy⟩ := g2 xs[i] (by simp [hlt])
    rw [List.drop_eq_getElem_cons hlt] at f
    refine .inr ⟨hgo, fun σ2 H2 => ∃ F2 m2 ds2, Le F1 F2 ∧ Hst G F2 R H2 m2 ∧ SL G F2 σ2 ds2 ∧ forD g tb E (xs.drop (i + 1)) ds2 m2, fun σ2 H2 ⟨F2, m2, ds2, l2, s2, sl2, f2⟩ => ⟨xs.length - (i + 1), by omega, F2, m2, ds2, rfl, hlt, l2, s2, sl2, f2⟩, fun v H3 y => ?_⟩
    obtain ⟨F3, l3, s3, r3⟩ := hy v H3 y
    have lA : Le F F3 := (l1.trans l').trans l3
    refine ⟨F3, R, m', ds', xs[i], _, E.ex, s3, sl'.le l3, r3, f, k.ex.le lA, fun ds4 m4 F4 σ4 H4 q4 l4 s4 sl4 => ?_⟩
    refine ⟨F4, R, m4, ds4, _, s4, sl4, q4, ?_⟩
    have lB : Le F F4 := lA.trans l4
    have lC : Le F1 F4 := (l'.trans l3).trans l4
    refine ⟨fun dsx mx Fx σx Hx hx lx sx slx => ⟨Fx, mx, dsx, lC.trans lx, sx, slx, hx⟩, (k.le lB).rt, (k.le lB).nx, fun dsx mx Fx σx Hx hx lx sx slx => ⟨Fx, mx, dsx, lC.trans lx, sx, slx, hx⟩, k.ex.le lB⟩
  · have e : i = xs.length := by omega
    subst e
    rw [List.drop_length] at f
    exact .inl ⟨g1 (Nat.le_refl _), k.nx _ m' F' σ' H' f (l1.trans l') s' sl'⟩
/-- while, by a word and a measure -/
def sWhile (c : DTT) (tb : DTS) : DTS := fun E ds m => ∃ P : Nat → DSt → M → Prop, (∃ n, P n ds m) ∧ ∀ n ds m, P n ds m → c E.ex ds m fun b m1 => if b = true then tb { E with nx := fun ds' m' => ∃ n', n' < n ∧ P n' ds' m', ct := fun ds' m' => ∃ n', n' < n ∧ P n' ds' m', bk := E.nx } ds m1 else E.nx ds m1
theorem ds_while {c : Expr} {body : List Stmt} {tc : DTT} {tb : DTS} (hp : PassesOwn (model X.prog X.w) X.A X.env X.xe) (hc : DT X G W c tc) (hb : DSs X G W body tb) : DS X G W (.While c body [] pos) (sWhile tc tb) := by
  refine (ps_while hp hc hb).imp fun D σ H ⟨F, R, m, ds, E, st, sl, ⟨P, ⟨n0, p0⟩, tn⟩, k⟩ => ?_
  refine ⟨fun n σ' H' => ∃ F' m' ds', Le F F' ∧ Hst G F' R H' m' ∧ SL G F' σ' ds' ∧ P n ds' m', ⟨n0, F, m, ds, Le.refl _, st, sl, p0⟩, ?_⟩
  rintro n σ' H' ⟨F', m', ds', l', s', sl', p'⟩
  refine ⟨F', R, m', ds', _, E.ex, s', sl', tn n ds' m' p', k.ex.le l', fun b m1 F1 H1 q l1 s1 => ?_⟩
  have lA : Le F F1 := l'.trans l1
  cases b with
  | true =>
    refine ⟨fun σ2 H2 => ∃ F2 m2 ds2 n2, n2 < n ∧ Le F F2 ∧ Hst G F2 R H2 m2 ∧ SL G F2 σ2 ds2 ∧ P n2 ds2 m2, fun σ2 H2 ⟨F2, m2, ds2, n2, hn, l2, s2, sl2, p2⟩ => ⟨n2, hn, F2, m2, ds2, l2, s2, sl2, p2⟩, ?_⟩
    refine ⟨F1, R, m1, ds', _, s1, sl'.le l1, q, ?_⟩
    exact ⟨fun dsx mx Fx σx Hx ⟨nn, hn, hx⟩ lx sx slx => ⟨Fx, mx, dsx, nn, hn, lA.trans lx, sx, slx, hx⟩, (k.le lA).rt, (k.le lA).nx, fun dsx mx Fx σx Hx ⟨nn, hn, hx⟩ lx sx slx => ⟨Fx, mx, dsx, nn, hn, lA.trans lx, sx, slx, hx⟩, k.ex.le lA⟩
  | false => exact k.nx _ m1 F1 σ' H1 q lA s1 (sl'.le l1)
end
end DL

namespace DL
open PySem L2
abbrev WF : WX := fun _ _ _ _ => False
def noX : EK := fun _ _ _ _ => False
theorem noX_ok {G : CT} {W : WX} {F R : Hp} : XOK G W F R noX := fun _ _ _ _ _ _ _ _ h => h.elim
/-! ### slots forgotten -/
def wipeD (ds : DSt) : List Nat → DSt
  | [] => ds
  | v :: vs => (wipeD ds vs).set v none
theorem SL.wipe {G : CT} {F : Hp} {σ : St} {ds : DSt} (s : SL G F σ ds) : ∀ vs : List Nat, SL G F (L2.wipe σ vs) (wipeD ds vs)
  | [] => s
  | v :: vs => (SL.wipe s vs).forget v none
theorem wipe_at (σ : St) (j : Nat) : ∀ vs : List Nat, (L2.wipe σ vs)[j]? = if j ∈ vs ∧ j < σ.length then some none else σ[j]?
  | [] => by simp [L2.wipe]
  | v :: vs => by
    unfold L2.wipe
    have ih := wipe_at σ j vs
    have hl := wipe_length σ vs
    by_cases hv : v = j
    · subst hv
      by_cases hj : v < σ.length
      · rw [List.getElem?_set_self (by rw [hl]; exact hj), if_pos ⟨List.mem_cons_self, hj⟩]
      · rw [List.getElem?_eq_none (by rw [List.length_set, hl]; omega), if_neg (fun z => hj z.2), List.getElem?_eq_none (by omega)]
    · rw [List.getElem?_set_ne hv, ih]
      have e : (j ∈ vs ∧ j < σ.length) ↔ (j ∈ v :: vs ∧ j < σ.length) := by
        constructor
        · exact fun z => ⟨List.mem_cons_of_mem _ z.1, z.2⟩
        · intro z
          refine ⟨?_, z.2⟩
          rcases List.mem_cons.mp z.1 with q | q
          · exact absurd q.symm hv
          · exact q
      by_cases c : j ∈ vs ∧ j < σ.length
      · rw [if_pos c, if_pos (e.mp c)]
      · rw [if_neg c, if_neg (fun z => c (e.mpr z))]
theorem wipe_same {σ τ : St} {vs : List Nat} (hl : σ.length = τ.length) (h : ∀ j, j ∉ vs → σ[j]? = τ[j]?) : L2.wipe σ vs = L2.wipe τ vs := by
  refine List.ext_getElem? fun j => ?_
  rw [wipe_at, wipe_at, hl]
  by_cases c : j ∈ vs ∧ j < τ.length
  · rw [if_pos c, if_pos c]
  · rw [if_neg c, if_neg c]
    by_cases q : j ∈ vs
    · have z : ¬ j < τ.length := fun z => c ⟨q, z⟩
      rw [List.getElem?_eq_none (by omega), List.getElem?_eq_none (by omega)]
    · exact h j q
theorem wipe_set1 {σ : St} {vs : List Nat} {i : Nat} {x : Option V} (hi : i ∈ vs) : L2.wipe ((L2.wipe σ vs).set i x) vs = L2.wipe σ vs := by
  refine (wipe_same ?_ fun j hj => ?_)
  · rw [List.length_set, wipe_length]
  · have e : i ≠ j := fun z => hj (z ▸ hi)
    rw [List.getElem?_set_ne e, wipe_at, if_neg (fun z => hj z.1)]
theorem wipe_set2 {σ : St} {vs : List Nat} {i k : Nat} {x y : Option V} (hi : i ∈ vs) (hk : k ∈ vs) : L2.wipe (((L2.wipe σ vs).set i x).set k y) vs = L2.wipe σ vs := by
  refine (wipe_same ?_ fun j hj => ?_)
  · rw [List.length_set, List.length_set, wipe_length]
  · have e : i ≠ j := fun z => hj (z ▸ hi)
    have e2 : k ≠ j := fun z => hj (z ▸ hk)
    rw [List.getElem?_set_ne e2, List.getElem?_set_ne e, wipe_at, if_neg (fun z => hj z.1)]
section
variable {G : CT} {F R H : Hp} {m : M} {p : Addr} {o o' : HO}
theorem upd_nt (no : ∀ xs, o ≠ .tup xs) (h : ∀ a u, R a = some u → ∀ xs, u ≠ .tup xs) : ∀ a u, upd R p o a = some u → ∀ xs, u ≠ .tup xs := fun a u e => by
  by_cases q : a = p
  · subst q; rw [upd_same] at e; cases e; exact no
  · rw [upd_ne q] at e; exact h a u e
theorem Hst.newR (s : Hst G F R H m) (h : H p = none) (no : ∀ xs, o ≠ .tup xs := by (intro _ z; cases z)) : Hst G F (upd R p o) (upd H p o) m := by
  have g := s.grow (o := o) h
  refine ⟨g.fz, fun a v e => ?_, g.mt, upd_nt no s.nt⟩
  by_cases q : a = p
  · subst q
    rw [upd_same] at e
    cases e
    exact ⟨upd_same, s.fnone h, s.mnone h⟩
  · rw [upd_ne q] at e
    exact g.rs a v e
theorem Hst.putR (s : Hst G F (upd R p o) H m) (no : ∀ xs, o' ≠ .tup xs := by (intro _ z; cases z)) : Hst G F (upd R p o') (upd H p o') m := by
  obtain ⟨h1, h2, h3⟩ := s.rs p o upd_same
  refine ⟨fun a v e => ?_, fun a v e => ?_, fun a v e => ?_, fun a v e => ?_⟩
  · have q : a ≠ p := fun q => by rw [q, h2] at e; cases e
    rw [upd_ne q]; exact s.fz a v e
  · by_cases q : a = p
    · subst q
      rw [upd_same] at e
      cases e
      exact ⟨upd_same, h2, h3⟩
    · rw [upd_ne q] at e
      rw [upd_ne q]
      exact s.rs a v (by rw [upd_ne q]; exact e)
  · have q : a ≠ p := fun q => by rw [q, h3] at e; cases e
    obtain ⟨k1, k2⟩ := s.mt a v e
    exact ⟨k1, k2.le (Le.refl F) (upd_ne q)⟩
  · by_cases q : a = p
    · subst q; rw [upd_same] at e; cases e; exact no
    · rw [upd_ne q] at e; exact s.nt a v (by rw [upd_ne q]; exact e)
theorem Hst.thawR (s : Hst G F (upd R p o) H m) (hR : R p = none) : Hst G (upd F p o) R H m ∧ Le F (upd F p o) := by
  obtain ⟨h1, h2, h3⟩ := s.rs p o upd_same
  refine ⟨⟨fun a v e => ?_, fun a v e => ?_, fun a v e => ?_, fun a v e => s.nt a v (by rw [upd_ne (fun q => by rw [q, hR] at e; cases e)]; exact e)⟩, le_upd h2⟩
  · by_cases q : a = p
    · subst q; rw [upd_same] at e; cases e; exact h1
    · rw [upd_ne q] at e; exact s.fz a v e
  · have q : a ≠ p := fun q => by rw [q, hR] at e; cases e
    obtain ⟨k1, k2, k3⟩ := s.rs a v (by rw [upd_ne q]; exact e)
    rw [upd_ne q]
    exact ⟨k1, k2, k3⟩
  · have q : a ≠ p := fun q => by rw [q, h3] at e; cases e
    obtain ⟨k1, k2⟩ := s.mt a v e
    rw [upd_ne q]
    exact ⟨k1, k2.le (le_upd h2) rfl⟩
end

/-! ### comprehensions -/
/-- the slots that a turn's item is given to -/
inductive Tgt where
  | one (i : Nat)
  | two (i j : Nat)
def Tgt.ix : Tgt → List Nat
  | .one i => [i]
  | .two i j => [i, j]
def Tgt.put : Tgt → D → DSt → (DSt → Prop) → Prop
  | .one i, d, ds, Q => Q (ds.set i (some d))
  | .two i j, d, ds, Q => match d with
    | .tup [p, q] => Q ((ds.set i (some p)).set j (some q))
    | _ => False
def Tgt.tg (K : PySem.W.Frag) : Tgt → TG
  | .one i => gName i
  | .two i j => gTup K 2 (gCons (gName i) (gCons (gName j) gNil))
def lcD (tg : Tgt) (tt : DTT) (te : DTE) (vs : List Nat) (ds : DSt) (Q : DK) : List D → List D → M → Prop
  | [], acc, m => Q (.lst acc) m
  | d :: r, acc, m => tg.put d (wipeD ds vs) fun ds2 => tt noX ds2 m fun b m1 => if b = true then te noX ds2 m1 fun y m2 => lcD tg tt te vs ds Q r (acc ++ [y]) m2 else lcD tg tt te vs ds Q r acc m1
def eLc (ti : DTI) (tg : Tgt) (tt : DTT) (te : DTE) (vs : List Nat) : DTE := fun x ds m Q => ti x ds m fun xs m1 => xs.length < sizeLine ∧ lcD tg tt te vs ds Q xs [] m1
section
variable {X : Cx} {G : CT} {W : WX}
theorem lc_imp {tg it : Expr} {ti : DTI} {tgt : Tgt} {tt : DTT} {te : DTE} {vs : List Nat} {wi : TI} (hv : ∀ i ∈ tgt.ix, i ∈ vs)
    (hw : ∀ σ H Rr, (∃ F R m ds Q0 x, Hst G F R H m ∧ SL G F σ ds ∧ ti x ds m Q0 ∧ XOK G W F R x ∧ ∀ xs m' F' H' J, Q0 xs m' → Le F F' → Hst G F' R H' m' → Gives G F' J xs → Rr J H') → wi σ H Rr)
    {σ : St} {H : Hp} {Q : VK} (h : lE G W (eLc ti tgt tt te vs) σ H Q) : tLc wi (tgt.tg X.K) (lT G WF tt) (lE G WF te) vs σ H Q := by
  obtain ⟨F, R, m, ds, Q0, x, st, sl, h, xk, k⟩ := h
  refine hw σ H _ ⟨F, R, m, ds, _, x, st, sl, h, xk, fun xs m1 F1 H1 J ⟨hz, q⟩ l1 s1 gv => fun Dl hD => ?_⟩
  have hR : R Dl = none := s1.rnone hD
  refine ⟨fun i n H' => ∃ F' m' accV acc, n = xs.length - i ∧ i ≤ xs.length ∧ acc.length ≤ i ∧ Le F1 F' ∧ Hst G F' (upd R Dl (.lst accV)) H' m' ∧ Reps G F' accV acc ∧ lcD tgt tt te vs ds Q0 (xs.drop i) acc m',
    ⟨xs.length, F1, m1, [], [], by simp, Nat.zero_le _, Nat.le_refl _, Le.refl _, s1.newR hD, .nil, by simpa using q⟩, ?_⟩
  rintro i n H' ⟨F', m', accV, acc, rfl, hi, ha, l', s', ra, f⟩
  obtain ⟨g1, g2⟩ := gv F' _ m' H' l' s' i
  by_cases hlt : i < xs.length
  · obtain ⟨hgo, hy⟩ := g2 xs[i] (by simp [hlt])
    rw [List.drop_eq_getElem_cons hlt] at f
    refine .inr ⟨hgo, fun H2 => ∃ F2 m2 accV2 acc2, acc2.length ≤ i + 1 ∧ Le F1 F2 ∧ Hst G F2 (upd R Dl (.lst accV2)) H2 m2 ∧ Reps G F2 accV2 acc2 ∧ lcD tgt tt te vs ds Q0 (xs.drop (i + 1)) acc2 m2,
      fun H2 ⟨F2, m2, accV2, acc2, ha2, l2, s2, ra2, f2⟩ => ⟨xs.length - (i + 1), by omega, F2, m2, accV2, acc2, rfl, hlt, ha2, l2, s2, ra2, f2⟩, fun v H3 y => ?_⟩
    obtain ⟨F3, l3, s3, r3⟩ := hy v H3 y
    have lA : Le F F3 := (l1.trans l').trans l3
    have slw : SL G F3 (L2.wipe σ vs) (wipeD ds vs) := (sl.le lA).wipe vs
    -- the rest, from the slots of the turn
    have turn : ∀ (σ2 : St) (ds2 : DSt), SL G F3 σ2 ds2 → L2.wipe σ2 vs = L2.wipe σ vs → (tt noX ds2 m' fun b m1 => if b = true then te noX ds2 m1 fun y m2 => lcD tgt tt te vs ds Q0 (xs.drop (i + 1)) (acc ++ [y]) m2 else lcD tgt tt te vs ds Q0 (xs.drop (i + 1)) acc m1) →
        L2.wipe σ2 vs = L2.wipe σ vs ∧ lT G WF tt σ2 H3 fun b H4 => if b = true then lE G WF te σ2 H4 fun y H5 => ∃ acc, H5 Dl = some (.lst acc) ∧ acc.length < sizeLine ∧ ∃ F2 m2 accV2 acc2, acc2.length ≤ i + 1 ∧ Le F1 F2 ∧ Hst G F2 (upd R Dl (.lst accV2)) (upd H5 Dl (.lst (acc ++ [y]))) m2 ∧ Reps G F2 accV2 acc2 ∧ lcD tgt tt te vs ds Q0 (xs.drop (i + 1)) acc2 m2
          else ∃ F2 m2 accV2 acc2, acc2.length ≤ i + 1 ∧ Le F1 F2 ∧ Hst G F2 (upd R Dl (.lst accV2)) H4 m2 ∧ Reps G F2 accV2 acc2 ∧ lcD tgt tt te vs ds Q0 (xs.drop (i + 1)) acc2 m2 := fun σ2 ds2 sl2 hw2 f2 => by
      refine ⟨hw2, F3, _, m', ds2, _, noX, s3, sl2, f2, noX_ok, fun b m4 F4 H4 q4 l4 s4 => ?_⟩
      cases b with
      | false => exact ⟨F4, m4, accV, acc, by omega, (l'.trans l3).trans l4, s4, (ra.le l3).le l4, q4⟩
      | true =>
        refine ⟨F4, _, m4, ds2, _, noX, s4, sl2.le l4, q4, noX_ok, fun y5 m5 F5 u5 H5 q5 l5 s5 r5 => ?_⟩
        refine ⟨accV, (s5.rs Dl _ upd_same).1, ?_, F5, m5, accV ++ [u5], acc ++ [y5], by simp; omega, ((l'.trans l3).trans l4).trans l5, s5.putR, (((ra.le l3).le l4).le l5).append (.cons r5 .nil), q5⟩
        rw [ra.length]
        omega
    cases tgt with
    | one a =>
      have ha' : a ∈ vs := hv a (by simp [Tgt.ix])
      exact turn _ _ (slw.set a r3) (wipe_set1 ha') f
    | two a b =>
      have ha' : a ∈ vs := hv a (by simp [Tgt.ix])
      have hb' : b ∈ vs := hv b (by simp [Tgt.ix])
      generalize hd : xs[i] = d at f r3
      match d, r3, f with
      | .tup [p, q], r3, f =>
        cases r3 with
        | tup hp rr =>
          cases rr with
          | cons rp rr =>
            cases rr with
            | cons rq rr =>
              cases rr
              refine ⟨_, _, rfl, .inl (.inl (s3.fz _ _ hp)), rfl, _, _, rfl, _, _, rfl, rfl, ?_⟩
              exact turn _ _ ((slw.set a rp).set b rq) (wipe_set2 ha' hb') f
  · have e : i = xs.length := by omega
    subst e
    rw [List.drop_length] at f
    obtain ⟨s6, l6⟩ := s'.thawR hR
    exact .inl ⟨g1 (Nat.le_refl _), k _ m' _ _ H' f ((l1.trans l').trans l6) s6 (.lst upd_same (ra.le l6))⟩
def ttYes : DTT := fun _ _ m Q => Q true m
abbrev DTs (X : Cx) (G : CT) (ifs : List Expr) (t : DTT) : Prop := PTs X ifs (lT G WF t)
theorem dts_nil : DTs X G [] ttYes := ⟨fun pins s σ H Q I h => (pts_nil (X := X)).run pins s σ H Q I (by
  obtain ⟨F, R, m, ds, Q0, x, st, sl, h, xk, k⟩ := h
  exact k true m F H h (Le.refl F) st)⟩
theorem dts_one {c : Expr} {t : DTT} (h : DT X G WF c t) : DTs X G [c] t := pts_one h
theorem de_lc {elt tg it : Expr} {ifs : List Expr} {scope : Scope} {own : List (Str × Nat)} {pos : Pos} {ti : DTI} {tgt : Tgt} {tt : DTT} {te : DTE} (hc : X.calm = true) (hN : X.N.Nodup) (hv : ∀ i ∈ tgt.ix, i ∈ own.map (·.2)) (hi : DI X G W tg it ti) (ok : BlkOk X.N X.env.scope scope own)
    (hg : ∀ (s : Shared) (H : Hp) (C : Addr) (cl : List (Str × Addr)) (fp : List Addr), PG (X.blk s H scope (compEnvC scope cl C X.env) fp) tg (tgt.tg X.K))
    (ht : ∀ (s : Shared) (H : Hp) (C : Addr) (cl : List (Str × Addr)) (fp : List Addr), DTs (X.blk s H scope (compEnvC scope cl C X.env) fp) G ifs tt)
    (he : ∀ (s : Shared) (H : Hp) (C : Addr) (cl : List (Str × Addr)) (fp : List Addr), DE (X.blk s H scope (compEnvC scope cl C X.env) fp) G WF elt te) (hs : ∀ x, foldedSetIterable it X.env x = pure x := by intro _; rfl) :
    DE X G W (.ListComp elt [⟨tg, it, ifs, 0⟩] scope pos) (eLc ti tgt tt te (own.map (·.2))) := by
  obtain ⟨wi, hi, hw⟩ := hi
  exact (pe_lc hc hN hi ok hg ht he hs).imp fun σ H Q h => lc_imp (X := X) (tg := tg) (it := it) hv hw h
/-- y = [..] on one line -/
theorem ds_setLc {i : Nat} {y : Str} {py : Pos} {elt tg it : Expr} {ifs : List Expr} {scope : Scope} {own : List (Str × Nat)} {pos spos : Pos} {ti : DTI} {tgt : Tgt} {tt : DTT} {te : DTE} (hc : X.calm = true) (hN : X.N.Nodup) (hy : X.N[i]? = some y) (hyl : X.env.scope.names.lookup y = some .local)
    (hsw : swapsWith (.ListComp elt [⟨tg, it, ifs, 0⟩] scope pos) (some (.Name y py)) spos.line X.env = pure true) (hv : ∀ i ∈ tgt.ix, i ∈ own.map (·.2)) (hi : DI X G W tg it ti) (ok : BlkOk X.N X.env.scope scope own)
    (hg : ∀ (s : Shared) (H : Hp) (C : Addr) (cl : List (Str × Addr)) (fp : List Addr), PG (X.blk s H scope (compEnvC scope cl C X.env) fp) tg (tgt.tg X.K))
    (ht : ∀ (s : Shared) (H : Hp) (C : Addr) (cl : List (Str × Addr)) (fp : List Addr), DTs (X.blk s H scope (compEnvC scope cl C X.env) fp) G ifs tt)
    (he : ∀ (s : Shared) (H : Hp) (C : Addr) (cl : List (Str × Addr)) (fp : List Addr), DE (X.blk s H scope (compEnvC scope cl C X.env) fp) G WF elt te) (hs : ∀ x, foldedSetIterable it X.env x = pure x := by intro _; rfl) :
    DS X G W (.Assign [.Name y py] (.ListComp elt [⟨tg, it, ifs, 0⟩] scope pos) spos) (sAsg (eLc ti tgt tt te (own.map (·.2))) (gNm i)) := by
  obtain ⟨wi, hi, hw⟩ := hi
  refine (ps_setLc hc hN hy hyl hsw hi ok hg ht he hs).imp fun D σ H ⟨F, R, m, ds, E, st, sl, h, k⟩ => ?_
  exact lc_imp (X := X) (tg := tg) (it := it) (G := G) (W := W) hv hw ⟨F, R, m, ds, _, E.ex, st, sl, h, k.ex, fun d m1 F1 v H1 q l s1 r => k.nx _ m1 F1 _ H1 q l s1 ((sl.le l).set i r)⟩
end
end DL

namespace DL
open PySem PySem.Spec PyProof.Rows L2
open L2H (RoomH)
/-! ### what a def promises, over data -/
abbrev DX := Nat → List D → M → Prop
abbrev DSp := List D → M → DK → DX → Prop
def spL (G : CT) (sp : DSp) : Sp := fun vs H Q E => ∃ F R m xs Q0 x, Hst G F R H m ∧ Reps G F vs xs ∧ sp xs m Q0 x ∧
  (∀ d m' F' v H', Q0 d m' → Le F F' → Hst G F' R H' m' → Rep G F' v d → Q v H') ∧
  (∀ c ys m' F' d H', x c ys m' → Le F F' → Hst G F' R H' m' → XD G F' H' c d ys → E (.ref (G c).addr) d H')
/-- room; nothing is handled unless hot; no repr runs around if grd -/
structure Rm (hot grd : Bool) (k : Nat) (A : Around) : Prop where
  room : RoomH k A
  calm : hot = false → A.handled = none
  gd : grd = true → A.guards = some []
theorem Rm.mono {hot grd : Bool} {j k : Nat} {A : Around} (r : Rm hot grd k A) (h : j ≤ k) : Rm hot grd j A := ⟨r.room.mono h, r.calm, r.gd⟩
theorem Rm.noG {hot grd : Bool} {k : Nat} {A : Around} (r : Rm hot grd k A) : Rm hot false k A := ⟨r.room, r.calm, (fun z => nomatch z)⟩
theorem Rm.hotF {hot grd : Bool} {k : Nat} {A : Around} (r : Rm hot grd k A) : Rm true grd k A := ⟨r.room, (fun z => nomatch z), r.gd⟩
theorem Rm.r {grd : Bool} {k : Nat} {A : Around} (r : Rm false grd k A) : Room k A := ⟨r.calm rfl, r.room.dp, r.room.un⟩
structure FnG (hot grd : Bool) (P : Program) (w : World) (K : PySem.W.Frag) (mg : Str → Option Value) (base : Heap) (k : Nat) (f : Addr) (fd : FuncData) (ps : List Str) (sp : Sp) : Prop where
  len : ∀ vs H Q E, sp vs H Q E → vs.length = ps.length
  go : ∀ (A : Around) (outer : List Env) (s : Shared) (H : Hp) (args : Args) (us : List Value) (vs : List V) (Q : VK) (E : XK), Rm hot grd k A → Env0 P w K mg base A outer s H → BindsTo s fd args (ps.zip us) → Vals vs us → sp vs H Q E →
    codeAny (model P w) A (.call (.ref f) args) (CR (L2.CX P w) outer P w H s Q E) s
section
variable {hot grd : Bool} {P : Program} {w : World} {K : PySem.W.Frag} {mg : Str → Option Value} {base : Heap}
theorem FnG.ok {k : Nat} {f : Addr} {fd : FuncData} {ps : List Str} {sp : Sp} (F : FnG hot false P w K mg base k f fd ps sp) : FnOk P w K mg base (L2.CX P w) k f fd ps sp :=
  ⟨F.len, fun A o s H args us vs Q E hr => F.go A o s H args us vs Q E ⟨⟨hr.dp, hr.un⟩, fun _ => hr.hd, (fun z => nomatch z)⟩⟩
theorem FnG.mono {j k : Nat} {f : Addr} {fd : FuncData} {ps : List Str} {sp : Sp} (F : FnG hot grd P w K mg base j f fd ps sp) (h : j ≤ k) : FnG hot grd P w K mg base k f fd ps sp :=
  ⟨F.len, fun A o s H args us vs Q E hr => F.go A o s H args us vs Q E (hr.mono h)⟩
theorem FnG.imp {k : Nat} {f : Addr} {fd : FuncData} {ps : List Str} {sp sp' : Sp} (F : FnG hot grd P w K mg base k f fd ps sp) (h : ∀ vs H Q E, sp' vs H Q E → sp vs H Q E) : FnG hot grd P w K mg base k f fd ps sp' :=
  ⟨fun vs H Q E q => F.len vs H Q E (h _ _ _ _ q), fun A o s H args us vs Q E hr he hb hv q => F.go A o s H args us vs Q E hr he hb hv (h _ _ _ _ q)⟩
/-- a promise with more kinds of places -/
theorem FnG.at_ {k : Nat} {f : Addr} {fd : FuncData} {ps : List Str} {sp : Sp} (F : FnG true false P w K mg base k f fd ps sp) : FnG hot grd P w K mg base k f fd ps sp :=
  ⟨F.len, fun A o s H args us vs Q E hr => F.go A o s H args us vs Q E (hr.hotF.noG)⟩
theorem FnG.any {k : Nat} {f : Addr} {fd : FuncData} {ps : List Str} {sp : Sp} (F : FnG hot false P w K mg base k f fd ps sp) : FnG hot grd P w K mg base k f fd ps sp :=
  ⟨F.len, fun A o s H args us vs Q E hr => F.go A o s H args us vs Q E hr.noG⟩
end
/-- the context of a def's body -/
def cxG (hot : Bool) (P : Program) (w : World) (K : PySem.W.Frag) (mg : Str → Option Value) (base : Heap) (N : List Str) (qual : Str) (scope : Scope) (f : Addr) (cd : Value) (A : Around) (outer : List Env) (s : Shared) (H : Hp) (E : XK) : Cx :=
  { cxOf (L2.CX P w) P w K mg base N qual scope f cd A outer s H E with calm := !hot }
theorem inv_cxG {hot : Bool} {P : Program} {w : World} {K : PySem.W.Frag} {mg : Str → Option Value} {base : Heap} {N : List Str} {qual : Str} {scope : Scope} {f : Addr} {cd : Value} {A : Around} {outer : List Env} {s s1 : Shared} {H : Hp} {E : XK} {σ : L2.St}
    (hc : hot = false → A.handled = none) (e0 : Env0 P w K mg base A outer s H) (I : Inv (cxOf (L2.CX P w) P w K mg base N qual scope f cd { A with handled := none } outer s H E) [] σ H s1) : Inv (cxG hot P w K mg base N qual scope f cd A outer s H E) [] σ H s1 := by
  obtain ⟨o, i1, i2, i3, i4, i5, i6, i7, i8, i9, i10⟩ := I
  refine ⟨⟨o.mod, o.kind, o.glob, o.blt, o.above, o.inj, o.has, o.cab, fun z => ?_, Around.frames_deeper e0.frames, o.stk, o.exf, o.bs, o.bsz, o.noex, o.exfs, o.funs, o.frf⟩, i1, i2, i3, i4, i5, i6, i7, i8, i9, i10⟩
  cases hot with
  | false => exact hc rfl
  | true => exact Bool.noConfusion (show false = true from z)
def startD (N : List Str) (xs : List D) : DSt := xs.map some ++ List.replicate (N.length - xs.length) none
theorem sl_start {G : CT} {F : Hp} {vs : List V} {xs : List D} (N : List Str) (r : Reps G F vs xs) : SL G F (L2.start N vs) (startD N xs) := by
  have hl := r.length
  refine ⟨by simp [L2.start, startD, hl], fun i d h => ?_⟩
  unfold startD at h
  by_cases hi : i < xs.length
  · rw [List.getElem?_append_left (by simpa using hi), List.getElem?_map] at h
    cases q : xs[i]? with
    | none => rw [q] at h; cases h
    | some y =>
      rw [q] at h
      cases h
      obtain ⟨v, h1, h2⟩ := r.get q
      refine ⟨v, ?_, h2⟩
      unfold L2.start
      rw [List.getElem?_append_left (by rw [List.length_map, hl]; exact hi), List.getElem?_map, h1]
      rfl
  · rw [List.getElem?_append_right (by simpa using hi), List.getElem?_replicate] at h
    split at h <;> cases h
section
variable {hot grd : Bool} {P : Program} {w : World} {K : PySem.W.Frag} {mg : Str → Option Value} {base : Heap}
/-- a def of which we know where its code object stands -/
structure FunC (K : PySem.W.Frag) (x qual : Str) (st : Stmt) (f : Addr) (fd : FuncData) (c : Addr) : Prop where
  exC : ∃ (oc : Value) (od : Option Addr) (kV doc pm : Value) (an : Option Addr) (ct : Value) (osl : Array (Option Value)),
    fd = PySem.W.fnOf x qual (defArgs st) (defBody st) (defScope st) .none kV doc pm an (.ref c) ct ∧ K.lookup f = some ⟨oc, od, .func fd, osl⟩ ∧ PySem.W.codeIn K (.ref c) qual = true
  kp : PySem.W.keepIn K (.ref f) = true
theorem FunC.on {K : PySem.W.Frag} {x qual : Str} {st : Stmt} {f c : Addr} {fd : FuncData} (F : FunC K x qual st f fd c) : Fun K x qual st f fd :=
  ⟨let ⟨oc, od, kV, doc, pm, an, ct, osl, h⟩ := F.exC; ⟨oc, od, kV, doc, pm, an, .ref c, ct, osl, h⟩, F.kp⟩
theorem fn_coreG {oc : Value} {od : Option Addr} {dV kV doc pm : Value} {an : Option Addr} {cdv ct : Value} {osl : Array (Option Value)} {x qual : Str} {st : Stmt} {f : Addr} {fd : FuncData} {N ps : List Str} {k : Nat} {G : CT} {sp : DSp} (hfd : fd = PySem.W.fnOf x qual (defArgs st) (defBody st) (defScope st) dV kV doc pm an cdv ct) (lk : K.lookup f = some ⟨oc, od, .func fd, osl⟩) (hcd : PySem.W.codeIn K cdv qual = true) (S : FnScope N ps (defScope st)) (hlen : ∀ xs m Q x, sp xs m Q x → xs.length = ps.length)
    (hbody : ∀ (A : Around) (outer : List Env) (s : Shared) (H : Hp) (E : XK) (xs : List D) (m : M) (Q : DK) (x : DX), Rm hot grd k (A.deeper (envOfC qual (defScope st) s.heap.objs.size f cdv)) → sp xs m Q x →
      ∃ t, DSs (cxG hot P w K mg base N qual (defScope st) f cdv A outer s H E) G (fun cls d _ H' => E cls d H') (defBody st) t ∧ t { nx := fun _ m' => Q .non m', rt := Q, ex := fun _ => x } (startD N xs) m) : FnG hot grd P w K mg base (k + 1) f fd ps (spL G sp) := by
  subst hfd
  refine ⟨fun vs H Q E ⟨F0, R, m, xs, Q0, x0, st0, r0, h0, _⟩ => r0.length.trans (hlen _ _ _ _ h0), fun A outer s H args us vs Q E hr e0 hb hv hsp => ?_⟩
  obtain ⟨F0, R, m, xs, Q0, x0, st0, r0, h0, kq, kx⟩ := hsp
  have vl : vs.length = ps.length := r0.length.trans (hlen _ _ _ _ h0)
  have KX : K.In s.heap := e0.mod.kin.keeps fun b o q => (e0.bs b o q).1
  have lim : s.heap.NoLimit := e0.mod.nolimit.keeps fun b o q => (e0.bs b o q).1
  refine codeAny_call_function hr.room.depth (KX f _ lk) rfl S.co S.gen rfl (PySem.W.codeRec_of KX hcd) (hb _ _ _ _ (wpAny_newFunctionEnv_cells S.kind (fun y hy => ?_) fun env he s1 ic => ?_))
  · obtain ⟨n, u⟩ := y
    exact (S.par n (List.of_mem_zip hy).1).imp id fun isCell => ⟨isCell, PySem.W.cellsFrom_some _ _ _ (.inl isCell)⟩
  · subst he
    refine ⟨lim.keeps ic.toInCall.keep, codeAny_func ?_⟩
    have rm : Rm hot grd k (A.deeper (envOfC qual (defScope st) s.heap.objs.size f cdv)) := ⟨hr.room.deeper _, hr.calm, hr.gd⟩
    obtain ⟨t, ht, hq⟩ := hbody A outer s H E xs m Q0 x0 rm h0
    have e1 : Env0 P w K mg base { A with handled := none } outer s H := ⟨e0.frames, e0.mod, e0.bs, e0.bsz, e0.funs, e0.frf, e0.hok, e0.bare⟩
    have I := inv_cxG (hot := hot) (A := A) (E := E) hr.calm e0 (inv_start (CX := L2.CX P w) S rfl e1 vl hv ic)
    have tot : lS G (fun cls d _ H' => E cls d H') t { nx := fun _ H' => Q .non H', rt := Q } (L2.start N vs) H :=
      ⟨F0, R, m, startD N xs, _, st0, sl_start N r0, hq, fun ds m' F' σ' H' q l s' _ => kq .non m' F' .non H' q l s' .non, fun d m' F' v H' q l s' r => kq d m' F' v H' q l s' r, fun _ _ _ _ _ q => q.elim, fun _ _ _ _ _ q => q.elim,
        fun ds c ys m' F' σ' d H' q l s' _ xd => kx c ys m' F' d H' q l s' xd⟩
    refine wpAny_mono (ht.run [] s1 _ H _ I tot) (fun fl s' hs => ?_) fun e s' hs => hs
    cases fl with
    | ret u => exact let ⟨v, σ', H', J, rv, q⟩ := hs; ⟨v, H', J.os, J.bare, J.base, J.hok, rv, q⟩
    | next => exact let ⟨σ', H', J, q⟩ := hs; ⟨V.non, H', J.os, J.bare, J.base, J.hok, rfl, q⟩
    | brk => exact let ⟨_, _, _, q⟩ := hs; False.elim q
    | cont => exact let ⟨_, _, _, q⟩ := hs; False.elim q
/-- THE RULE for a def: its body's term, and what is wanted of it over data -/
theorem fn_okG {x qual : Str} {st : Stmt} {f : Addr} {fd : FuncData} {N ps : List Str} {k : Nat} {G : CT} {sp : DSp} (F : Fun K x qual st f fd) (S : FnScope N ps (defScope st)) (hlen : ∀ xs m Q x, sp xs m Q x → xs.length = ps.length)
    (hbody : ∀ (cdv : Value) (A : Around) (outer : List Env) (s : Shared) (H : Hp) (E : XK) (xs : List D) (m : M) (Q : DK) (x : DX), Rm hot grd k (A.deeper (envOfC qual (defScope st) s.heap.objs.size f cdv)) → sp xs m Q x →
      ∃ t, DSs (cxG hot P w K mg base N qual (defScope st) f cdv A outer s H E) G (fun cls d _ H' => E cls d H') (defBody st) t ∧ t { nx := fun _ m' => Q .non m', rt := Q, ex := fun _ => x } (startD N xs) m) : FnG hot grd P w K mg base (k + 1) f fd ps (spL G sp) :=
  let ⟨_, _, _, _, _, _, cdv, _, _, hfd, lk, hcd⟩ := F.ex
  fn_coreG hfd lk hcd S hlen (hbody cdv)
theorem fn_okC {c : Addr} {x qual : Str} {st : Stmt} {f : Addr} {fd : FuncData} {N ps : List Str} {k : Nat} {G : CT} {sp : DSp} (F : FunC K x qual st f fd c) (S : FnScope N ps (defScope st)) (hlen : ∀ xs m Q x, sp xs m Q x → xs.length = ps.length)
    (hbody : ∀ (A : Around) (outer : List Env) (s : Shared) (H : Hp) (E : XK) (xs : List D) (m : M) (Q : DK) (x : DX), Rm hot grd k (A.deeper (envOfC qual (defScope st) s.heap.objs.size f (.ref c))) → sp xs m Q x →
      ∃ t, DSs (cxG hot P w K mg base N qual (defScope st) f (.ref c) A outer s H E) G (fun cls d _ H' => E cls d H') (defBody st) t ∧ t { nx := fun _ m' => Q .non m', rt := Q, ex := fun _ => x } (startD N xs) m) : FnG hot grd P w K mg base (k + 1) f fd ps (spL G sp) :=
  let ⟨_, _, _, _, _, _, _, _, hfd, lk, hcd⟩ := F.exC
  fn_coreG hfd lk hcd S hlen hbody
end
/-! ### calls of defs -/
section
variable {X : Cx} {G : CT} {W : WX} {hot grd : Bool} {k : Nat} {f : Addr} {fd : FuncData} {ps : List Str} {sp : DSp} {x : Str} {p pos : Pos} {e : Expr} {es : List Expr} {ta : DTA}
theorem run_G {pins : List (Addr × Obj)} {σ : L2.St} {H : Hp} {s : Shared} {Q : VK} {us : List Value} {vs : List V} {sq : Sp} (F : FnG hot grd X.prog X.w X.K X.mg X.base k f fd ps sq) (hr : Rm hot grd k X.A) (hb : Binds X.K fd ps []) (tk : Takes X W)
    (I : Inv X pins σ H s) (r : Vals vs us) (h : sq vs H Q (fun cls d H' => W cls d σ H')) : wpAny (model X.prog X.w) X.A (call (.ref f) us) (EP X pins σ Q) X.xe s := by
  have b := hb s us I.kIn (by rw [List.append_nil, ← r.length]; exact F.len _ _ _ _ h)
  rw [List.append_nil] at b
  refine wpAny_call (codeAny_mono (F.go X.A X.stack s H ⟨us, []⟩ us vs Q _ hr I.env0 b r h) fun q s' hq => ?_)
  match q, hq with
  | .error e, hq => exact passAt tk σ pins H s e s' I hq
  | .ok (.ret u), hq => exact I.after hq
  | .ok .next, hq => exact hq.elim
  | .ok .brk, hq => exact hq.elim
  | .ok .cont, hq => exact hq.elim
def eCall (sp : DSp) (ta : DTA) : DTE := fun x ds m Q => ta x ds m fun xs m1 => sp xs m1 Q (x ds)
theorem spL_of {sp : DSp} {F R H : Hp} {m : M} {xs : List D} {vs : List V} {Q0 : DK} {x : EK} {ds : DSt} {σ : L2.St} {Q : VK} (st : Hst G F R H m) (sl : SL G F σ ds) (r : Reps G F vs xs) (h : sp xs m Q0 (x ds)) (xk : XOK G W F R x)
    (k : ∀ d m' F' v H', Q0 d m' → Le F F' → Hst G F' R H' m' → Rep G F' v d → Q v H') : spL G sp vs H Q (fun cls d H' => W cls d σ H') :=
  ⟨F, R, m, xs, Q0, x ds, st, r, h, k, fun c ys m' F' d H' q l s' xd => xk ds c ys m' F' σ d H' q l s' (sl.le l) xd⟩
theorem de_call (F : FnG hot grd X.prog X.w X.K X.mg X.base k f fd ps (spL G sp)) (hr : Rm hot grd k X.A) (hg : Gl X x) (hm : X.mg x = some (.ref f)) (hk : PySem.W.keepIn X.K (.ref f) = true) (hb : Binds X.K fd ps []) (tk : Takes X W)
    (ha : DA X G W (e :: es) ta) (hdb : (x == ("__debug__" : Str)) = false := by decide) (he : starEach (e :: es) X.env = (false, eval e X.env) :: starEach es X.env := by rfl) (hpl : (backTo pos (starEach es X.env)).any (·.1) = false := by rfl) :
    DE X G W (.Call (.Name x p) (e :: es) [] pos) (eCall sp ta) := by
  refine ⟨fun pins s σ H Q I ⟨F0, R, m, ds, Q0, xx, st, sl, h, xk, kk⟩ => ?_⟩
  refine wpAny_Call_Name_kw (ld_glob I hg hm ?_ hdb)
  have ha' := ha.run pos pins s σ H (fun vs H1 => spL G sp vs H1 Q (fun cls d H' => W cls d σ H')) I ⟨F0, R, m, ds, _, xx, st, sl, h, xk, fun xs m1 F1 vs H1 q l s1 r1 =>
    spL_of s1 (sl.le l) r1 q (xk.le l) fun d m' F' v H' q' l' => kk d m' F' v H' q' (l.trans l')⟩
  refine PySem.W.callWith_K (h₀ := X.base) I.ok.mod.kin hk (thn ha' fun us s1 ⟨vs, H1, I1, r, q⟩ => ⟨I1.kIn, ?_⟩) he hpl
  exact run_G F hr hb tk I1 r q
end
/-! ### calls of built-ins -/
section
variable {X : Cx} {G : CT} {W : WX}
abbrev DR := List D → M → DK → Prop
def lC (G : CT) (r : DR) : List V → Hp → VK → Prop := fun vs H Q => ∃ F R m xs Q0, Hst G F R H m ∧ Reps G F vs xs ∧ r xs m Q0 ∧ ∀ d m' F' v H', Q0 d m' → Le F F' → Hst G F' R H' m' → Rep G F' v d → Q v H'
abbrev CallD (X : Cx) (G : CT) (f : Value) (r : DR) : Prop := CallR X f (lC G r)
def eCB (r : DR) (ta : DTA) : DTE := fun x ds m Q => ta x ds m fun xs m1 => r xs m1 Q
theorem cb_imp {r : DR} {ta : DTA} {σ : L2.St} {H : Hp} {Q : VK} (h : lE G W (eCB r ta) σ H Q) : tCB (lC G r) (lA G W ta) σ H Q := by
  obtain ⟨F, R, m, ds, Q0, x, st, sl, h, xk, k⟩ := h
  exact ⟨F, R, m, ds, _, x, st, sl, h, xk, fun xs m1 F1 vs H1 q l s1 r1 => ⟨F1, R, m1, xs, Q0, s1, r1, q, fun d m' F' v H' q' l' => k d m' F' v H' q' (l.trans l')⟩⟩
theorem de_callB {id : String} {r : DR} {x : Str} {e : Expr} {es : List Expr} {ta : DTA} {p pos : Pos} (hc : CallD X G (.builtin id) r) (hg : Gl X x) (hm : X.mg x = none) (hv : bootBuiltins x = some (.builtin id)) (ha : DA X G W (e :: es) ta) (hn : x ≠ "__name__" := by decide) (hdb : (x == ("__debug__" : Str)) = false := by decide)
    (he : starEach (e :: es) X.env = (false, eval e X.env) :: starEach es X.env := by rfl) (hpl : (backTo pos (starEach es X.env)).any (·.1) = false := by rfl) : DE X G W (.Call (.Name x p) (e :: es) [] pos) (eCB r ta) :=
  (pe_callB hc hg hm hv ha hn hdb he hpl).imp fun _ _ _ h => cb_imp h
theorem de_callTy {id : String} {r : DR} {x : Str} {e : Expr} {es : List Expr} {ta : DTA} {p pos : Pos} (hc : CallD X G (.type id) r) (hg : Gl X x) (hm : X.mg x = none) (hv : bootBuiltins x = some (.type id)) (ha : DA X G W (e :: es) ta) (hn : x ≠ "__name__" := by decide) (hdb : (x == ("__debug__" : Str)) = false := by decide)
    (he : starEach (e :: es) X.env = (false, eval e X.env) :: starEach es X.env := by rfl) (hpl : (backTo pos (starEach es X.env)).any (·.1) = false := by rfl) : DE X G W (.Call (.Name x p) (e :: es) [] pos) (eCB r ta) :=
  (pe_callTy hc hg hm hv ha hn hdb he hpl).imp fun _ _ _ h => cb_imp h
end
end DL

namespace DL
open PySem PySem.Spec PyProof.Rows L2
section
variable {X : Cx} {G : CT} {W : WX}
/-! ### arithmetic -/
def addD : DR2 := fun x y m Q => match x, y with
  | .int i, .int j => Q (.int (i + j)) m
  | .str a, .str b => a.length + b.length ≤ sizeLine ∧ Q (.str (a ++ b)) m
  | .lst a, .lst b => a.length + b.length ≤ sizeLine ∧ Q (.lst (a ++ b)) m
  | _, _ => False
theorem od_add : OpD X G (binaryOp .Add) addD := OpR.imp (op_add.or (op_add_str.or op_cat)) fun x y H Q hh => by
  obtain ⟨F, R, m, dx, dy, Q0, st, rx, ry, h, k⟩ := hh
  cases rx <;> cases ry <;> first | exact False.elim h | skip
  · exact .inl ⟨_, _, rfl, rfl, k _ m F _ H h (Le.refl F) st (.int _)⟩
  · exact .inr (.inl ⟨_, _, rfl, rfl, h.1, k _ m F _ H h.2 (Le.refl F) st (.str _)⟩)
  · rename_i a vs xs ha ra b ws ys hb rb
    refine .inr (.inr ⟨a, b, vs, ws, rfl, rfl, st.fz _ _ ha, st.fz _ _ hb, by rw [ra.length, rb.length]; exact h.1, fun p hp => ?_⟩)
    have l := le_upd (o := .lst (vs ++ ws)) (st.fnone hp)
    exact k _ m _ _ _ h.2 l (st.new hp) (.lst upd_same ((ra.append rb).le l))
def subD : DR2 := fun x y m Q => match x, y with
  | .int i, .int j => Q (.int (i - j)) m
  | _, _ => False
theorem od_sub : OpD X G (binaryOp .Sub) subD := OpR.imp op_sub fun x y H Q hh => by
  obtain ⟨F, R, m, dx, dy, Q0, st, rx, ry, h, k⟩ := hh
  cases rx <;> cases ry <;> first | exact False.elim h | skip
  · exact ⟨_, _, rfl, rfl, k _ m F _ H h (Le.refl F) st (.int _)⟩
/-- few bits together -/
def MulOk (i j : Int) : Prop := CMulX i j
theorem mulOk {i j : Int} {a b : Nat} (ha : i.natAbs < 2 ^ a) (hb : j.natAbs < 2 ^ b) (h : a + b ≤ 134217728) : MulOk i j := mulx_ok ha hb h
theorem reps_rep {F : Hp} {vs : List V} {xs : List D} (r : Reps G F vs xs) : ∀ k : Nat, Reps G F (List.replicate k vs).flatten (List.replicate k xs).flatten
  | 0 => .nil
  | k + 1 => by
    rw [List.replicate_succ, List.replicate_succ, List.flatten_cons, List.flatten_cons]
    exact r.append (reps_rep r k)
def mulD : DR2 := fun x y m Q => match x, y with
  | .int i, .int j => MulOk i j ∧ Q (.int (i * j)) m
  | .lst xs, .int k => (k < 2 ^ 62 ∧ -(2 ^ 62) < k ∧ xs.length * k.toNat ≤ sizeLine) ∧ Q (.lst (List.replicate k.toNat xs).flatten) m
  | _, _ => False
theorem od_mul : OpD X G (binaryOp .Mult) mulD := OpR.imp (op_mulX.or op_rep) fun x y H Q hh => by
  obtain ⟨F, R, m, dx, dy, Q0, st, rx, ry, h, k⟩ := hh
  cases rx <;> cases ry <;> first | exact False.elim h | skip
  · exact .inl ⟨_, _, rfl, rfl, h.1, k _ m F _ H h.2 (Le.refl F) st (.int _)⟩
  · rename_i a vs xs ha ra j
    obtain ⟨⟨h1, h2, h3⟩, q⟩ := h
    refine .inr ⟨a, j, vs, rfl, rfl, st.fz _ _ ha, by omega, by omega, by rw [ra.length]; exact h3, fun p hp => ?_⟩
    have l := le_upd (o := .lst (List.replicate j.toNat vs).flatten) (st.fnone hp)
    exact k _ m _ _ _ q l (st.new hp) (.lst upd_same ((reps_rep ra _).le l))
def divD : DR2 := fun x y m Q => match x, y with
  | .int i, .int j => (0 < j ∧ j.natAbs < 2 ^ 8000) ∧ Q (.int (i / j)) m
  | _, _ => False
theorem od_div : OpD X G (binaryOp .FloorDiv) divD := OpR.imp op_fdivW fun x y H Q hh => by
  obtain ⟨F, R, m, dx, dy, Q0, st, rx, ry, h, k⟩ := hh
  cases rx <;> cases ry <;> first | exact False.elim h | skip
  · exact ⟨_, _, rfl, rfl, wide_div h.1.1 h.1.2 (by decide) (by decide), k _ m F _ H h.2 (Le.refl F) st (.int _)⟩
def modD : DR2 := fun x y m Q => match x, y with
  | .int i, .int j => 0 < j ∧ Q (.int (i % j)) m
  | _, _ => False
theorem od_mod : OpD X G (binaryOp .Mod) modD := OpR.imp op_mod fun x y H Q hh => by
  obtain ⟨F, R, m, dx, dy, Q0, st, rx, ry, h, k⟩ := hh
  cases rx <;> cases ry <;> first | exact False.elim h | skip
  · exact ⟨_, _, rfl, rfl, h.1, k _ m F _ H h.2 (Le.refl F) st (.int _)⟩
def powD : DR2 := fun x y m Q => match x, y with
  | .int i, .int j => (0 ≤ j ∧ j ≤ 1000000 ∧ i.natAbs < 2 ^ 64) ∧ Q (.int (i ^ j.toNat)) m
  | _, _ => False
theorem od_pow : OpD X G (binaryOp .Pow) powD := OpR.imp op_pow fun x y H Q hh => by
  obtain ⟨F, R, m, dx, dy, Q0, st, rx, ry, h, k⟩ := hh
  cases rx <;> cases ry <;> first | exact False.elim h | skip
  · exact ⟨_, _, rfl, rfl, h.1, k _ m F _ H h.2 (Le.refl F) st (.int _)⟩
abbrev DR1 := D → M → DK → Prop
def negD : DR1 := fun x m Q => match x with
  | .int i => Q (.int (-i)) m
  | _ => False
def eUn (r : DR1) (ta : DTE) : DTE := fun x ds m Q => ta x ds m fun p m1 => r p m1 Q
theorem de_neg {a : Expr} {ta : DTE} {pos : Pos} (ha : DE X G W a ta) : DE X G W (.UnaryOp .USub a pos) (eUn negD ta) := (pe_un un_neg ha).imp fun σ H Q ⟨F, R, m, ds, Q0, x, st, sl, h, xk, k⟩ => by
  refine ⟨F, R, m, ds, _, x, st, sl, h, xk, fun d m1 F1 v H1 q l1 s1 r1 => ?_⟩
  cases r1 <;> first | exact False.elim q | skip
  exact ⟨_, rfl, k _ m1 F1 _ H1 q l1 s1 (.int _)⟩

/-! ### comparisons -/
def sltD : DR2 := fun x y m Q => match x, y with
  | .int i, .int j => Q (.bl (decide (i < j))) m
  | _, _ => False
def fEq : D → D → Bool
  | .int i, .int j => i == j
  | .str a, .str b => a == b
  | _, _ => false
/-- items of tuples that are compared: two ints, two texts -/
def alike : D → D → Bool
  | .int _, .int _ => true
  | .str _, .str _ => true
  | _, _ => false
def alikes : List D → List D → Bool
  | x :: xs, y :: ys => alike x y && alikes xs ys
  | _, _ => true
def fLt : D → D → Bool
  | .int i, .int j => decide (i < j)
  | .str a, .str b => decide (a.cps.toList < b.cps.toList)
  | _, _ => false
def fLe : D → D → Bool
  | .int i, .int j => decide (i ≤ j)
  | .str a, .str b => !decide (b.cps.toList < a.cps.toList)
  | _, _ => false
/-- z: both end; z1: the left ends first -/
def lexD (r : D → D → Bool) (z z1 : Bool) : List D → List D → Bool
  | [], [] => z
  | [], _ :: _ => z1
  | _ :: _, [] => !z1
  | x :: xs, y :: ys => if fEq x y = true then lexD r z z1 xs ys else r x y
def ltD : DR2 := fun x y m Q => match x, y with
  | .int i, .int j => Q (.bl (decide (i < j))) m
  | .str a, .str b => Q (.bl (decide (a.cps.toList < b.cps.toList))) m
  | .tup xs, .tup ys => alikes xs ys = true ∧ Q (.bl (lexD fLt false true xs ys)) m
  | _, _ => False
def leD : DR2 := fun x y m Q => match x, y with
  | .int i, .int j => Q (.bl (decide (i ≤ j))) m
  | .tup xs, .tup ys => alikes xs ys = true ∧ Q (.bl (lexD fLe true true xs ys)) m
  | _, _ => False
def gtD : DR2 := fun x y m Q => match x, y with
  | .int i, .int j => Q (.bl (decide (j < i))) m
  | .tup xs, .tup ys => alikes xs ys = true ∧ Q (.bl (lexD (fun x y => fLt y x) false false xs ys)) m
  | _, _ => False
def geD : DR2 := fun x y m Q => match x, y with
  | .int i, .int j => Q (.bl (decide (j ≤ i))) m
  | .tup xs, .tup ys => alikes xs ys = true ∧ Q (.bl (lexD (fun x y => fLe y x) true false xs ys)) m
  | _, _ => False

theorem lex_eq (r : D → D → Bool) (z z1 : Bool) (Z : Bool) : ∀ (k : Nat) (xs ys : List D) (i : Nat), k = min xs.length ys.length - i → i ≤ min xs.length ys.length → (xs.length = ys.length → Z = z) → (xs.length < ys.length → Z = z1) → (ys.length < xs.length → Z = !z1) →
    Ob.lexAt (fun j => fEq (xs.getD j .non) (ys.getD j .non)) (fun j => r (xs.getD j .non) (ys.getD j .non)) Z i k = lexD r z z1 (xs.drop i) (ys.drop i)
  | 0, xs, ys, i, hk, hi, e1, e2, e3 => by
    rw [Ob.lexAt_zero]
    rcases Nat.lt_trichotomy xs.length ys.length with h | h | h
    · rw [e2 h, List.drop_eq_nil_of_le (by omega : xs.length ≤ i)]
      cases q : ys.drop i with
      | nil => have := congrArg List.length q; rw [List.length_drop, List.length_nil] at this; omega
      | cons a b => rfl
    · rw [e1 h, List.drop_eq_nil_of_le (by omega : xs.length ≤ i), List.drop_eq_nil_of_le (by omega : ys.length ≤ i)]
      rfl
    · rw [e3 h, List.drop_eq_nil_of_le (by omega : ys.length ≤ i)]
      cases q : xs.drop i with
      | nil => have := congrArg List.length q; rw [List.length_drop, List.length_nil] at this; omega
      | cons a b => rfl
  | k + 1, xs, ys, i, hk, hi, e1, e2, e3 => by
    have h1 : i < xs.length := by omega
    have h2 : i < ys.length := by omega
    rw [Ob.lexAt_succ, List.drop_eq_getElem_cons h1, List.drop_eq_getElem_cons h2, lex_eq r z z1 Z k xs ys (i + 1) (by omega) (by omega) e1 e2 e3]
    have g1 : xs.getD i .non = xs[i] := by simp [h1]
    have g2 : ys.getD i .non = ys[i] := by simp [h2]
    rw [g1, g2]
    rfl
theorem alikes_at : ∀ {xs ys : List D} (j : Nat), alikes xs ys = true → j < xs.length → j < ys.length → alike (xs.getD j .non) (ys.getD j .non) = true
  | x :: xs, y :: ys, 0, h, _, _ => by
    unfold alikes at h
    exact (Bool.and_eq_true_iff.mp h).1
  | x :: xs, y :: ys, j + 1, h, h1, h2 => by
    unfold alikes at h
    have := alikes_at (xs := xs) (ys := ys) j (Bool.and_eq_true_iff.mp h).2 (by simpa using h1) (by simpa using h2)
    simpa using this
/-- the order of two tuples, item by item -/
theorem tup_ord {op : CmpOp} {zf : Nat → Nat → Bool} {r : D → D → Bool} {z z1 : Bool} (hu : X.A.units < cLine)
    (T : ∀ {A : Around} {s : Shared} {l b : Addr} {items items2 : Array Value} {e r : Nat → Bool}, s.heap.IsTuple l items → s.heap.IsTuple b items2 → A.units < cLine → (∀ j (h1 : j < items.size) (h2 : j < items2.size), SeqAt.EqAt A.in1 s items[j] items2[j] (e j)) →
      (∀ j (h1 : j < items.size) (h2 : j < items2.size), e j = false → Ob.RcOp op A.in1 s items[j] items2[j] (r j)) → Ob.RcOp op A s (.ref l) (.ref b) (Ob.lexAt e r (zf items.size items2.size) 0 (min items.size items2.size)))
    (hi : ∀ (A : Around) (s : Shared) (a : Int) (t : Tok) (b : Int) (u : Tok), Ob.RcOp op A s (.int a t) (.int b u) (r (.int a) (.int b))) (hs : ∀ (A : Around) (s : Shared) (a : Str) (t : Tok) (b : Str) (u : Tok), Ob.RcOp op A s (.str a t) (.str b u) (r (.str a) (.str b)))
    (e1 : ∀ n m, n = m → zf n m = z) (e2 : ∀ n m, n < m → zf n m = z1) (e3 : ∀ n m, m < n → zf n m = !z1) (ho : ∀ a b : Value, richCompare op a b = compareOp op a b) :
    OpD X G (compareOp op) (fun x y m Q => match x, y with
      | .tup xs, .tup ys => alikes xs ys = true ∧ Q (.bl (lexD r z z1 xs ys)) m
      | _, _ => False) := by
  intro pins s σ H x y v u Q I rx ry hh
  obtain ⟨F, R, m, dx, dy, Q0, st, px, py, h, k⟩ := hh
  cases px <;> cases py <;> first | exact False.elim h | skip
  rename_i a vs xs ha ra b ws ys hb rb
  obtain ⟨hal, hq⟩ := h
  cases rx
  cases ry
  obtain ⟨its, v1, p1, _⟩ := I.tuple (a := a) (xs := vs) (.inl (.inl (st.fz _ _ ha)))
  obtain ⟨its2, v2, p2, _⟩ := I.tuple (a := b) (xs := ws) (.inl (.inl (st.fz _ _ hb)))
  have n1 : its.toArray.size = xs.length := by rw [List.size_toArray, ← v1.length, ra.length]
  have n2 : its2.toArray.size = ys.length := by rw [List.size_toArray, ← v2.length, rb.length]
  -- the j-th items
  have at1 : ∀ j (h1 : j < its.toArray.size), ∃ w, RelV w its.toArray[j] ∧ Rep G F w (xs.getD j .non) := fun j h1 => by
    have hj : j < xs.length := by omega
    obtain ⟨w, hw, rw'⟩ := ra.get (List.getElem?_eq_getElem hj)
    obtain ⟨u', hu', ru⟩ := v1.get hw
    refine ⟨w, ?_, ?_⟩
    · have e : its.toArray[j] = u' := by
        have := (List.getElem?_eq_some_iff.mp hu').2
        simpa using this
      rw [e]; exact ru
    · have e : xs.getD j .non = xs[j] := by simp [hj]
      rw [e]; exact rw'
  have at2 : ∀ j (h1 : j < its2.toArray.size), ∃ w, RelV w its2.toArray[j] ∧ Rep G F w (ys.getD j .non) := fun j h1 => by
    have hj : j < ys.length := by omega
    obtain ⟨w, hw, rw'⟩ := rb.get (List.getElem?_eq_getElem hj)
    obtain ⟨u', hu', ru⟩ := v2.get hw
    refine ⟨w, ?_, ?_⟩
    · have e : its2.toArray[j] = u' := by
        have := (List.getElem?_eq_some_iff.mp hu').2
        simpa using this
      rw [e]; exact ru
    · have e : ys.getD j .non = ys[j] := by simp [hj]
      rw [e]; exact rw'
  have two : ∀ j (h1 : j < its.toArray.size) (h2 : j < its2.toArray.size), SeqAt.EqAt X.A.in1 s its.toArray[j] its2.toArray[j] (fEq (xs.getD j .non) (ys.getD j .non)) ∧ Ob.RcOp op X.A.in1 s its.toArray[j] its2.toArray[j] (r (xs.getD j .non) (ys.getD j .non)) := fun j h1 h2 => by
    obtain ⟨w1, q1, r1⟩ := at1 j h1
    obtain ⟨w2, q2, r2⟩ := at2 j h2
    have al := alikes_at j hal (by omega) (by omega)
    generalize xs.getD j .non = d1 at r1 al
    generalize ys.getD j .non = d2 at r2 al
    cases r1 <;> cases r2 <;> first | exact absurd al Bool.false_ne_true | skip
    · obtain ⟨t, e⟩ := q1
      obtain ⟨t', e'⟩ := q2
      rw [e, e']
      exact ⟨SeqAt.EqAt.int_int _ _ _ _, hi _ _ _ _ _ _⟩
    · obtain ⟨t, e⟩ := q1
      obtain ⟨t', e'⟩ := q2
      rw [e, e']
      exact ⟨SeqAt.EqAt.str_str _ _ _ _, hs _ _ _ _ _ _⟩
  have RR := T (A := X.A) (s := s) (l := a) (b := b) (e := fun j => fEq (xs.getD j .non) (ys.getD j .non)) (r := fun j => r (xs.getD j .non) (ys.getD j .non)) p1 p2 hu (fun j h1 h2 => (two j h1 h2).1) (fun j h1 h2 _ => (two j h1 h2).2)
  rw [n1, n2, lex_eq r z z1 _ _ xs ys 0 (by simp) (Nat.zero_le _) (e1 _ _) (e2 _ _) (e3 _ _)] at RR
  rw [← ho]
  exact RR X.prog X.w X.xe (EP X pins σ Q) ⟨.bl _, H, I, rfl, k _ m F _ H hq (Le.refl F) st (.bl _)⟩
theorem opr_ord {op : CmpOp} {r : DR2} {rI : R2} {rS : DR2} (hi : OpR X (compareOp op) rI) (ht : OpD X G (compareOp op) rS) (i : ∀ x y H Q, lR G r x y H Q → rI x y H Q ∨ lR G rS x y H Q) : OpD X G (compareOp op) r := OpR.imp (hi.or ht) i
theorem od_lt (hu : X.A.units < cLine) : OpD X G (compareOp .Lt) ltD := by
  refine OpR.imp ((op_lt.or op_lt_str).or (tup_ord (X := X) (G := G) (zf := fun n m => decide (n < m)) (r := fLt) (z := false) (z1 := true) hu (fun a b c d e => Ob.RcOp.tuples_lt a b c d e) (fun _ _ a t b u => Ob.RcOp.lt_int a b t u) (fun _ _ a t b u _ _ _ _ q => PyProof.Rows.lt_str q) (fun n m e => by simp [e]) (fun n m e => by simp [e]) (fun n m e => by simp; omega) (fun _ _ => rfl))) fun x y H Q hh => ?_
  obtain ⟨F, R, m, dx, dy, Q0, st, rx, ry, h, k⟩ := hh
  cases rx <;> cases ry <;> first | exact False.elim h | skip
  · exact .inl (.inl ⟨_, _, rfl, rfl, k _ m F _ H h (Le.refl F) st (.bl _)⟩)
  · exact .inl (.inr ⟨_, _, rfl, rfl, k _ m F _ H h (Le.refl F) st (.bl _)⟩)
  · rename_i a vs xs ha ra b ws ys hb rb
    exact .inr ⟨F, R, m, _, _, Q0, st, .tup ha ra, .tup hb rb, h, k⟩
theorem od_le (hu : X.A.units < cLine) : OpD X G (compareOp .LtE) leD := by
  refine OpR.imp (op_le.or (tup_ord (X := X) (G := G) (zf := fun n m => decide (n ≤ m)) (r := fLe) (z := true) (z1 := true) hu (fun a b c d e => Ob.RcOp.tuples_le a b c d e) (fun _ _ a t b u => Ob.RcOp.le_int a b t u) (fun _ _ a t b u _ _ _ _ q => PySem.P.le_str q) (fun n m e => by simp [e]) (fun n m e => by simp; omega) (fun n m e => by simp; omega) (fun _ _ => rfl))) fun x y H Q hh => ?_
  obtain ⟨F, R, m, dx, dy, Q0, st, rx, ry, h, k⟩ := hh
  cases rx <;> cases ry <;> first | exact False.elim h | skip
  · exact .inl ⟨_, _, rfl, rfl, k _ m F _ H h (Le.refl F) st (.bl _)⟩
  · rename_i a vs xs ha ra b ws ys hb rb
    exact .inr ⟨F, R, m, _, _, Q0, st, .tup ha ra, .tup hb rb, h, k⟩
theorem od_gt (hu : X.A.units < cLine) : OpD X G (compareOp .Gt) gtD := by
  refine OpR.imp (op_gt.or (tup_ord (X := X) (G := G) (zf := fun n m => decide (n > m)) (r := fun x y => fLt y x) (z := false) (z1 := false) hu (fun a b c d e => Ob.RcOp.tuples_gt a b c d e) (fun _ _ a t b u => Ob.RcOp.gt_int a b t u) (fun _ _ a t b u _ _ _ _ q => PySem.P.gt_str q) (fun n m e => by simp [e]) (fun n m e => by simp; omega) (fun n m e => by simp [e]) (fun _ _ => rfl))) fun x y H Q hh => ?_
  obtain ⟨F, R, m, dx, dy, Q0, st, rx, ry, h, k⟩ := hh
  cases rx <;> cases ry <;> first | exact False.elim h | skip
  · exact .inl ⟨_, _, rfl, rfl, k _ m F _ H h (Le.refl F) st (.bl _)⟩
  · rename_i a vs xs ha ra b ws ys hb rb
    exact .inr ⟨F, R, m, _, _, Q0, st, .tup ha ra, .tup hb rb, h, k⟩
theorem od_ge (hu : X.A.units < cLine) : OpD X G (compareOp .GtE) geD := by
  refine OpR.imp (op_ge.or (tup_ord (X := X) (G := G) (zf := fun n m => decide (n ≥ m)) (r := fun x y => fLe y x) (z := true) (z1 := false) hu (fun a b c d e => Ob.RcOp.tuples_ge a b c d e) (fun _ _ a t b u => Ob.RcOp.ge_int a b t u) (fun _ _ a t b u _ _ _ _ q => PySem.P.ge_str q) (fun n m e => by simp [e]) (fun n m e => by simp; omega) (fun n m e => by simp; omega) (fun _ _ => rfl))) fun x y H Q hh => ?_
  obtain ⟨F, R, m, dx, dy, Q0, st, rx, ry, h, k⟩ := hh
  cases rx <;> cases ry <;> first | exact False.elim h | skip
  · exact .inl ⟨_, _, rfl, rfl, k _ m F _ H h (Le.refl F) st (.bl _)⟩
  · rename_i a vs xs ha ra b ws ys hb rb
    exact .inr ⟨F, R, m, _, _, Q0, st, .tup ha ra, .tup hb rb, h, k⟩
end
end DL

namespace DL
open PySem PySem.Spec PyProof.Rows L2
/-! ### as PyData -/
mutual
def pyD : D → PyData
  | .bl b => .bool b
  | .int i => .int i
  | .str x => .str x
  | .tup xs => .tuple (pysD xs)
  | .lst xs => .list (pysD xs)
  | .scr xs => .list (pysD xs)
  | .non | .ty _ | .ref _ | .dic _ | .ob _ _ | .exc _ _ _ _ | .fn _ _ _ _ _ => .none
def pysD : List D → List PyData
  | [] => []
  | x :: xs => pyD x :: pysD xs
end
mutual
/-- plain data: None, truths, ints, texts, lists, tuples -/
def pln : D → Bool
  | .non | .bl _ | .int _ | .str _ => true
  | .tup xs | .lst xs | .scr xs => plns xs
  | .ty _ | .ref _ | .dic _ | .ob _ _ | .exc _ _ _ _ | .fn _ _ _ _ _ => false
def plns : List D → Bool
  | [] => true
  | x :: xs => pln x && plns xs
end
section
variable {X : Cx} {G : CT} {W : WX}
mutual
theorem dp_of {K : PySem.W.Frag} {F H : Hp} (fz : ∀ a o, F a = some o → H a = some o) : ∀ {v : V} {d : D}, Rep G F v d → pln d = true → Dp K H v (pyD d)
  | _, _, .non, _ => .non
  | _, _, .bl b, _ => .bl b
  | _, _, .int i, _ => .int i
  | _, _, .str x, _ => .str x
  | _, _, .tup h r, p => .tup (.inl (.inl (fz _ _ h))) (dps_of fz r (by unfold pln at p; exact p))
  | _, _, .lst h r, p => .lst (.inl (.inl (fz _ _ h))) (dps_of fz r (by unfold pln at p; exact p))
  | _, _, .lsz h r, p => .lst (.inl (.inr ⟨_, fz _ _ h⟩)) (dps_of fz r (by unfold pln at p; exact p))
  | _, _, .ty n, p => by unfold pln at p; cases p
  | _, _, .ref a, p => by unfold pln at p; cases p
  | _, _, .dic h e r, p => by unfold pln at p; cases p
  | _, _, .ob h e r, p => by unfold pln at p; cases p
  | _, _, .exc h e r, p => by unfold pln at p; cases p
  | _, _, .fn h r, p => by unfold pln at p; cases p
theorem dps_of {K : PySem.W.Frag} {F H : Hp} (fz : ∀ a o, F a = some o → H a = some o) : ∀ {vs : List V} {ds : List D}, Reps G F vs ds → plns ds = true → DpAll K H vs (pysD ds)
  | _, _, .nil, _ => .nil
  | _, _, .cons h r, p => by
    unfold plns at p
    exact .cons (dp_of fz h (Bool.and_eq_true_iff.mp p).1) (dps_of fz r (Bool.and_eq_true_iff.mp p).2)
end
def scl : D → Bool
  | .non | .bl _ | .int _ | .str _ => true
  | _ => false
/-- == of scalars; a truth beside an int: not told -/
def sEq : D → D → Bool
  | .non, .non => true
  | .bl a, .bl b => a == b
  | .int a, .int b => a == b
  | .str a, .str b => a == b
  | _, _ => false
def mixd : D → D → Bool
  | .bl _, .int _ | .int _, .bl _ => true
  | _, _ => false
def eqOk (x y : D) : Bool := if scl x && scl y then !mixd x y else pln x && pln y && SeqAt.shaped (pyD x) && SeqAt.shaped (pyD y)
def eqB (x y : D) : Bool := if scl x && scl y then sEq x y else PyData.eqv (pyD x) (pyD y)
def eqD : DR2 := fun x y m Q => eqOk x y = true ∧ Q (.bl (eqB x y)) m
def neD : DR2 := fun x y m Q => eqOk x y = true ∧ Q (.bl (!eqB x y)) m
theorem sEq_of {F : Hp} {v w : V} {x y : D} (rx : Rep G F v x) (ry : Rep G F w y) (h : (scl x && scl y) = true) (hm : mixd x y = false) : scal v w = true ∧ decide (v = w) = sEq x y := by
  cases rx <;> cases ry <;> first | exact absurd h Bool.false_ne_true | exact absurd (show true = false from hm) (by decide) | skip
  all_goals first
    | exact ⟨rfl, rfl⟩
    | exact ⟨rfl, dec_int⟩
    | exact ⟨rfl, dec_bl⟩
    | exact ⟨rfl, dec_str⟩
    | exact ⟨rfl, decide_eq_false (by intro q; cases q)⟩
theorem od_eq (hu : X.A.units + 64 < cLine) : OpD X G (compareOp .Eq) eqD := OpR.imp (op_eq.or (op_eqD hu)) fun x y H Q hh => by
  obtain ⟨F, R, m, dx, dy, Q0, st, rx, ry, ⟨h, q⟩, k⟩ := hh
  unfold eqOk at h
  unfold eqB at q
  by_cases c : (scl dx && scl dy) = true
  · rw [if_pos c] at h q
    obtain ⟨e1, e2⟩ := sEq_of rx ry c (by simpa using h)
    refine .inl ⟨e1, ?_⟩
    rw [e2]
    exact k _ m F _ H q (Le.refl F) st (.bl _)
  · rw [if_neg c] at h q
    obtain ⟨h123, h4⟩ := Bool.and_eq_true_iff.mp h
    obtain ⟨h12, h3⟩ := Bool.and_eq_true_iff.mp h123
    obtain ⟨h1, h2⟩ := Bool.and_eq_true_iff.mp h12
    exact .inr ⟨pyD dx, pyD dy, dp_of st.fz rx h1, dp_of st.fz ry h2, h3, h4, k _ m F _ H q (Le.refl F) st (.bl _)⟩
theorem od_ne (hu : X.A.units + 64 < cLine) : OpD X G (compareOp .NotEq) neD := OpR.imp (op_ne.or (op_neD hu)) fun x y H Q hh => by
  obtain ⟨F, R, m, dx, dy, Q0, st, rx, ry, ⟨h, q⟩, k⟩ := hh
  unfold eqOk at h
  unfold eqB at q
  by_cases c : (scl dx && scl dy) = true
  · rw [if_pos c] at h q
    obtain ⟨e1, e2⟩ := sEq_of rx ry c (by simpa using h)
    refine .inl ⟨e1, ?_⟩
    rw [e2]
    exact k _ m F _ H q (Le.refl F) st (.bl _)
  · rw [if_neg c] at h q
    obtain ⟨h123, h4⟩ := Bool.and_eq_true_iff.mp h
    obtain ⟨h12, h3⟩ := Bool.and_eq_true_iff.mp h123
    obtain ⟨h1, h2⟩ := Bool.and_eq_true_iff.mp h12
    exact .inr ⟨pyD dx, pyD dy, dp_of st.fz rx h1, dp_of st.fz ry h2, h3, h4, k _ m F _ H q (Le.refl F) st (.bl _)⟩
/-- is None -/
def isNon : D → Bool
  | .non => true
  | _ => false
def isND : DR2 := fun x y m Q => match y with
  | .non => Q (.bl (isNon x)) m
  | _ => False
def ntND : DR2 := fun x y m Q => match y with
  | .non => Q (.bl (!isNon x)) m
  | _ => False
theorem isNon_of {F : Hp} {v : V} {x : D} (r : Rep G F v x) : decide (v = .non) = isNon x := by
  cases r <;> first | rfl | exact decide_eq_false (by intro q; cases q)
theorem od_is : OpD X G (compareOp .Is) isND := OpR.imp op_isN fun x y H Q hh => by
  obtain ⟨F, R, m, dx, dy, Q0, st, rx, ry, h, k⟩ := hh
  cases ry <;> first | exact False.elim h | skip
  exact ⟨rfl, by rw [isNon_of rx]; exact k _ m F _ H h (Le.refl F) st (.bl _)⟩
theorem od_isnot : OpD X G (compareOp .IsNot) ntND := OpR.imp op_notN fun x y H Q hh => by
  obtain ⟨F, R, m, dx, dy, Q0, st, rx, ry, h, k⟩ := hh
  cases ry <;> first | exact False.elim h | skip
  exact ⟨rfl, by rw [isNon_of rx]; exact k _ m F _ H h (Le.refl F) st (.bl _)⟩
/-- x in xs: flat things; a text in a text -/
def flt : D → Bool
  | .non | .bl _ | .int _ | .str _ => true
  | _ => false
def fltEq : D → D → Bool
  | .non, .non => true
  | .bl a, .bl b => a == b
  | .bl t, .int n => (if t then 1 else 0) == n
  | .int n, .bl t => n == (if t then 1 else 0)
  | .int a, .int b => a == b
  | .str a, .str b => a == b
  | _, _ => false
theorem flt_of {F : Hp} {v : V} {x : D} (r : Rep G F v x) (h : flt x = true) : flatV v = true := by
  cases r <;> first | rfl | exact absurd h Bool.false_ne_true
theorem fltEq_of {F : Hp} {v w : V} {x y : D} (rx : Rep G F v x) (ry : Rep G F w y) (h : flt x = true) (h' : flt y = true) : eqV v w = fltEq x y := by
  cases rx <;> cases ry <;> first | rfl | exact absurd h Bool.false_ne_true | exact absurd h' Bool.false_ne_true
def inXs (x : D) (xs : List D) : Bool := xs.any fun y => fltEq y x
theorem flts_of {F : Hp} : ∀ {vs : List V} {xs : List D}, Reps G F vs xs → xs.all flt = true → vs.all flatV = true
  | _, _, .nil, _ => rfl
  | _, _, .cons h r, p => by
    rw [List.all_cons, Bool.and_eq_true] at p
    rw [List.all_cons, Bool.and_eq_true]
    exact ⟨flt_of h p.1, flts_of r p.2⟩
theorem inXs_of {F : Hp} {v : V} {x : D} (rx : Rep G F v x) (h : flt x = true) : ∀ {vs : List V} {xs : List D}, Reps G F vs xs → xs.all flt = true → inV v vs = inXs x xs
  | _, _, .nil, _ => rfl
  | _, _, .cons hh r, p => by
    rw [List.all_cons, Bool.and_eq_true] at p
    have ih := inXs_of rx h r p.2
    unfold inV inXs at ih ⊢
    rw [List.any_cons, List.any_cons, ih, fltEq_of hh rx p.1 h]
/-- a text within a text -/
def subS (x y : Str) : Bool := !(Builtin.Str.occurrences y x 0 y.length 1).isEmpty
def inD : DR2 := fun x y m Q => match y with
  | .lst xs => (flt x = true ∧ xs.all flt = true) ∧ Q (.bl (inXs x xs)) m
  | .tup xs => (flt x = true ∧ xs.all flt = true) ∧ Q (.bl (inXs x xs)) m
  | .str b => match x with
    | .str a => Q (.bl (subS a b)) m
    | _ => False
  | _ => False
def ninD : DR2 := fun x y m Q => inD x y m fun d m => isB d m fun b m => Q (.bl (!b)) m
theorem od_in : OpD X G (compareOp .In) inD := OpR.imp (op_in_seq.or op_in_str) fun x y H Q hh => by
  obtain ⟨F, R, m, dx, dy, Q0, st, rx, ry, h, k⟩ := hh
  cases ry <;> first | exact False.elim h | skip
  · cases rx <;> first | exact False.elim h | skip
    exact .inr ⟨_, _, rfl, rfl, k _ m F _ H h (Le.refl F) st (.bl _)⟩
  · rename_i a vs xs ha ra
    obtain ⟨⟨h1, h2⟩, q⟩ := h
    refine .inl ⟨a, vs, rfl, .inr (.inl (.inl (st.fz _ _ ha))), flt_of rx h1, flts_of ra h2, ?_⟩
    show Q (.bl (inV x vs)) H
    rw [inXs_of rx h1 ra h2]
    exact k _ m F _ H q (Le.refl F) st (.bl _)
  · rename_i a vs xs ha ra
    obtain ⟨⟨h1, h2⟩, q⟩ := h
    refine .inl ⟨a, vs, rfl, .inl (.inl (.inl (st.fz _ _ ha))), flt_of rx h1, flts_of ra h2, ?_⟩
    show Q (.bl (inV x vs)) H
    rw [inXs_of rx h1 ra h2]
    exact k _ m F _ H q (Le.refl F) st (.bl _)
theorem od_notin : OpD X G (compareOp .NotIn) ninD := OpR.imp (op_notIn_seq.or op_notin_str) fun x y H Q hh => by
  obtain ⟨F, R, m, dx, dy, Q0, st, rx, ry, h, k⟩ := hh
  unfold ninD at h
  cases ry <;> first | exact False.elim h | skip
  · cases rx <;> first | exact False.elim h | skip
    obtain ⟨b, e, q⟩ := h
    cases e
    exact .inr ⟨_, _, rfl, rfl, k _ m F _ H q (Le.refl F) st (.bl _)⟩
  · rename_i a vs xs ha ra
    obtain ⟨⟨h1, h2⟩, b, e, q⟩ := h
    cases e
    refine .inl ⟨a, vs, rfl, .inr (.inl (.inl (st.fz _ _ ha))), flt_of rx h1, flts_of ra h2, ?_⟩
    show Q (.bl (!inV x vs)) H
    rw [inXs_of rx h1 ra h2]
    exact k _ m F _ H q (Le.refl F) st (.bl _)
  · rename_i a vs xs ha ra
    obtain ⟨⟨h1, h2⟩, b, e, q⟩ := h
    cases e
    refine .inl ⟨a, vs, rfl, .inl (.inl (.inl (st.fz _ _ ha))), flt_of rx h1, flts_of ra h2, ?_⟩
    show Q (.bl (!inV x vs)) H
    rw [inXs_of rx h1 ra h2]
    exact k _ m F _ H q (Le.refl F) st (.bl _)
/-! ### items, slices -/
def itD : DR2 := fun x y m Q => match x, y with
  | .lst xs, .int i => ∃ d, atI xs i = some d ∧ Q d m
  | .tup xs, .int i => ∃ d, atI xs i = some d ∧ Q d m
  | .scr xs, .int i => ∃ d, atI xs i = some d ∧ Q d m
  | .str z, .int i => z.length ≤ sizeLine ∧ ∃ c, atI z.cps.toList i = some c ∧ Q (.str ⟨#[c]⟩) m
  | .ref a, .int i => ∃ xs d, m a = some (.lst xs) ∧ atI xs i = some d ∧ Q d m
  | _, _ => False
theorem atI_of {F : Hp} {vs : List V} {xs : List D} {i : Int} {d : D} (r : Reps G F vs xs) (h : atI xs i = some d) : ∃ v, atI vs i = some v ∧ Rep G F v d := by
  unfold atI at h ⊢
  rw [r.length]
  cases q : ixN xs.length i with
  | none => rw [q] at h; cases h
  | some j => rw [q] at h; exact r.get h
theorem od_it : IxR X (lR G itD) := by
  intro value slice pins s σ H x y v u Q I rx ry hh hs
  refine ix_seq value slice pins s σ H x y v u Q I rx ry ?_ hs
  obtain ⟨F, R, m, dx, dy, Q0, st, px, py, h, k⟩ := hh
  cases px <;> cases py <;> first | exact False.elim h | skip
  · obtain ⟨hz, c, hc, q⟩ := h
    exact .inr (.inr ⟨_, _, c, rfl, rfl, hz, hc, k _ m F _ H q (Le.refl F) st (.str _)⟩)
  · rename_i a i
    obtain ⟨xs, d, hm, hd, q⟩ := h
    obtain ⟨_, vs, hv, rv⟩ := st.mt _ _ hm
    obtain ⟨w, hw, rw'⟩ := atI_of rv hd
    exact .inl ⟨a, vs, i, w, rfl, rfl, .inl (.inl hv), hw, k _ m F _ H q (Le.refl F) st rw'⟩
  · rename_i a vs xs ha ra i
    obtain ⟨d, hd, q⟩ := h
    obtain ⟨w, hw, rw'⟩ := atI_of ra hd
    exact .inr (.inl ⟨a, vs, i, w, rfl, rfl, .inl (.inl (st.fz _ _ ha)), hw, k _ m F _ H q (Le.refl F) st rw'⟩)
  · rename_i a vs xs ha ra i
    obtain ⟨d, hd, q⟩ := h
    obtain ⟨w, hw, rw'⟩ := atI_of ra hd
    exact .inl ⟨a, vs, i, w, rfl, rfl, .inl (.inl (st.fz _ _ ha)), hw, k _ m F _ H q (Le.refl F) st rw'⟩
  · rename_i a o vs xs ha ra i
    obtain ⟨d, hd, q⟩ := h
    obtain ⟨w, hw, rw'⟩ := atI_of ra hd
    exact .inl ⟨a, vs, i, w, rfl, rfl, .inl (.inr ⟨o, st.fz _ _ ha⟩), hw, k _ m F _ H q (Le.refl F) st rw'⟩
theorem de_ix {a b : Expr} {ta tb : DTE} {pos : Pos} (ha : DE X G W a ta) (hb : DE X G W b tb) (hs : PlainIx b) : DE X G W (.Subscript a b pos) (bD itD ta tb) := (pe_ix od_it ha hb hs).imp fun _ _ _ h => bin_imp h
/-- a part of a slice -/
abbrev DTO := EK → DSt → M → (Option Int → M → Prop) → Prop
def oNone : DTO := fun _ _ m Q => Q none m
def oSome (t : DTE) : DTO := fun x ds m Q => t x ds m fun d m1 => match d with
  | .int i => Q (some i) m1
  | _ => False
def lO (G : CT) (W : WX) (t : DTO) : TO := fun σ H Q => ∃ F R m ds Q0 x, Hst G F R H m ∧ SL G F σ ds ∧ t x ds m Q0 ∧ XOK G W F R x ∧ ∀ o m' F' H', Q0 o m' → Le F F' → Hst G F' R H' m' → Q o H'
abbrev DO (X : Cx) (G : CT) (W : WX) (e : Option Expr) (t : DTO) : Prop := PO X e (lO G W t)
theorem _root_.L2.PO.imp {e : Option Expr} {t t' : TO} (h : PO X e t) (i : ∀ σ H Q, t' σ H Q → t σ H Q) : PO X e t' := by
  obtain ⟨r⟩ := h
  exact ⟨fun pins s σ H Q I w => r pins s σ H Q I (i _ _ _ w)⟩
theorem do_none : DO X G W none oNone := L2.PO.imp po_none fun σ H Q ⟨F, R, m, ds, Q0, x, st, sl, h, xk, k⟩ => k none m F H h (Le.refl F) st
theorem do_some {e : Expr} {te : DTE} (h : DE X G W e te) : DO X G W (some e) (oSome te) := L2.PO.imp (po_some h) fun σ H Q ⟨F, R, m, ds, Q0, x, st, sl, h, xk, k⟩ => by
  refine ⟨F, R, m, ds, _, x, st, sl, h, xk, fun d m1 F1 v H1 q l1 s1 r1 => ?_⟩
  cases r1 <;> first | exact False.elim q | skip
  exact ⟨_, rfl, k _ m1 F1 H1 q l1 s1⟩
def cutD (xs : List D) (lo hi : Option Int) : List D := (xs.drop (HT.sIx xs.length 0 lo)).take (HT.sIx xs.length xs.length hi - HT.sIx xs.length 0 lo)
def slD : D → Option Int → Option Int → M → DK → Prop := fun x lo hi m Q => match x with
  | .lst xs => Q (.lst (cutD xs lo hi)) m
  | .scr xs => Q (.lst (cutD xs lo hi)) m
  | .ref a => ∃ xs, m a = some (.lst xs) ∧ Q (.lst (cutD xs lo hi)) m
  | _ => False
theorem cut_of {F : Hp} {vs : List V} {xs : List D} (r : Reps G F vs xs) (lo hi : Option Int) : Reps G F (cutV vs lo hi) (cutD xs lo hi) := by
  unfold cutV cutD
  rw [r.length]
  exact (r.drop _).take _
def eSl (te : DTE) (tl th : DTO) : DTE := fun x ds m Q => te x ds m fun d m1 => tl x ds m1 fun lo m2 => th x ds m2 fun hi m3 => slD d lo hi m3 Q
theorem de_slice {e : Expr} {lo hi : Option Expr} {te : DTE} {tl th : DTO} {pos p2 : Pos} (he : DE X G W e te) (hl : DO X G W lo tl) (hh : DO X G W hi th) : DE X G W (.Subscript e (.Slice lo hi none p2) pos) (eSl te tl th) :=
  (pe_slice sl_list he hl hh).imp fun σ H Q ⟨F, R, m, ds, Q0, x, st, sl, h, xk, k⟩ => by
    refine ⟨F, R, m, ds, _, x, st, sl, h, xk, fun d m1 F1 v H1 h1 l1 s1 r1 => ?_⟩
    refine ⟨F1, R, m1, ds, _, x, s1, sl.le l1, h1, xk.le l1, fun lo' m2 F2 H2 h2 l2 s2 => ?_⟩
    refine ⟨F2, R, m2, ds, _, x, s2, sl.le (l1.trans l2), h2, xk.le (l1.trans l2), fun hi' m3 F3 H3 h3 l3 s3 => ?_⟩
    have r3 := (r1.le l2).le l3
    cases r3 <;> first | exact False.elim h3 | skip
    · rename_i a
      obtain ⟨xs, hm, q⟩ := h3
      obtain ⟨_, vs, hv, rv⟩ := s3.mt _ _ hm
      refine ⟨a, vs, rfl, .inl (.inl hv), fun p hp => ?_⟩
      have l := le_upd (o := .lst (cutV vs lo' hi')) (s3.fnone hp)
      exact k _ m3 _ _ _ q (((l1.trans l2).trans l3).trans l) (s3.new hp) (.lst upd_same ((cut_of rv _ _).le l))
    · rename_i a vs xs ha ra
      refine ⟨a, vs, rfl, .inl (.inl (s3.fz _ _ ha)), fun p hp => ?_⟩
      have l := le_upd (o := .lst (cutV vs lo' hi')) (s3.fnone hp)
      exact k _ m3 _ _ _ h3 (((l1.trans l2).trans l3).trans l) (s3.new hp) (.lst upd_same ((cut_of ra _ _).le l))
    · rename_i a o vs xs ha ra
      refine ⟨a, vs, rfl, .inl (.inr ⟨o, s3.fz _ _ ha⟩), fun p hp => ?_⟩
      have l := le_upd (o := .lst (cutV vs lo' hi')) (s3.fnone hp)
      exact k _ m3 _ _ _ h3 (((l1.trans l2).trans l3).trans l) (s3.new hp) (.lst upd_same ((cut_of ra _ _).le l))

/-! ### built-ins -/
def lenD : DR := fun xs m Q => match xs with
  | [.lst ys] => Q (.int ys.length) m
  | [.tup ys] => Q (.int ys.length) m
  | [.scr ys] => Q (.int ys.length) m
  | [.dic ys] => Q (.int ys.length) m
  | [.str z] => z.length ≤ sizeLine ∧ Q (.int z.length) m
  | [.ref a] => (∃ ys, m a = some (.lst ys) ∧ Q (.int ys.length) m) ∨ ∃ ys, m a = some (.dic ys) ∧ Q (.int ys.length) m
  | _ => False
/-- len of a dict, locked or not -/
theorem call_lenR : CallR X (.builtin "len") (fun xs H Q => ∃ a kvs, xs = [V.ref a] ∧ Rd H a (.dK kvs) ∧ Q (.int (kvs.length : Nat)) H) := by
  rintro pins s σ H xs us Q I r ⟨a, kvs, rfl, at_, q⟩
  obtain ⟨u, rfl, ru⟩ := vals1 r
  obtain rfl : u = .ref a := ru
  exact d_len I at_ fun t s' J => ⟨.int (kvs.length : Nat), H, J, ⟨t, rfl⟩, q⟩
theorem cd_len : CallD X G (.builtin "len") lenD := CallR.imp (call_len_seq.or (call_len_str.or call_lenR)) fun vs H Q hh => by
  obtain ⟨F, R, m, xs, Q0, st, r, h, k⟩ := hh
  cases r with
  | nil => exact False.elim h
  | cons r rr =>
    cases rr with
    | cons _ _ => cases r <;> exact False.elim h
    | nil =>
      cases r <;> first | exact False.elim h | skip
      · exact .inr (.inl ⟨_, rfl, h.1, k _ m F _ H h.2 (Le.refl F) st (.int _)⟩)
      · rename_i a
        rcases h with ⟨ys, hm, q⟩ | ⟨ys, hm, q⟩
        · obtain ⟨_, vs, hv, rv⟩ := st.mt _ _ hm
          refine .inl ⟨a, vs, rfl, .inl (.inl (.inl hv)), ?_⟩
          rw [rv.length]
          exact k _ m F _ H q (Le.refl F) st (.int _)
        · obtain ⟨_, vs, hv, e, rv⟩ := st.mt _ _ hm
          refine .inr (.inr ⟨a, vs, rfl, .inl hv, ?_⟩)
          have el : vs.length = ys.length := by simpa using congrArg List.length e
          rw [el]
          exact k _ m F _ H q (Le.refl F) st (.int _)
      · rename_i a vs xs ha ra
        refine .inl ⟨a, vs, rfl, .inr (.inl (.inl (st.fz _ _ ha))), ?_⟩
        rw [ra.length]
        exact k _ m F _ H h (Le.refl F) st (.int _)
      · rename_i a vs xs ha ra
        refine .inl ⟨a, vs, rfl, .inl (.inl (.inl (st.fz _ _ ha))), ?_⟩
        rw [ra.length]
        exact k _ m F _ H h (Le.refl F) st (.int _)
      · rename_i a o vs xs ha ra
        refine .inl ⟨a, vs, rfl, .inl (.inl (.inr ⟨o, st.fz _ _ ha⟩)), ?_⟩
        rw [ra.length]
        exact k _ m F _ H h (Le.refl F) st (.int _)
      · rename_i a o kvs xs ha e ra
        refine .inr (.inr ⟨a, kvs, rfl, .inr ⟨o, st.fz _ _ ha⟩, ?_⟩)
        have el : kvs.length = xs.length := by simpa using congrArg List.length e
        rw [el]
        exact k _ m F _ H h (Le.refl F) st (.int _)
def absD : DR := fun xs m Q => match xs with
  | [.int i] => Q (.int (if i < 0 then -i else i)) m
  | _ => False
theorem cd_abs : CallD X G (.builtin "abs") absD := CallR.imp call_abs fun vs H Q hh => by
  obtain ⟨F, R, m, xs, Q0, st, r, h, k⟩ := hh
  match xs, vs, r, h with
  | [.int i], [v], .cons r .nil, h => cases r; exact ⟨i, rfl, k _ m F _ H h (Le.refl F) st (.int _)⟩
theorem reps_ints {F : Hp} : ∀ {vs : List V} {ns : List Int}, Reps G F vs (ns.map D.int) → vs = ns.map V.int
  | _, [], .nil => rfl
  | _, n :: ns, .cons h r => by
    cases h
    rw [reps_ints r]
    rfl
def maxD : DR := fun xs m Q => match xs with
  | [.int i, .int j] => Q (.int (if j > i then j else i)) m
  | [.lst ys] => ∃ ns : List Int, ys = ns.map D.int ∧ 0 < ns.length ∧ ∀ k, k ∈ ns → (∀ y, y ∈ ns → y ≤ k) → Q (.int k) m
  | _ => False
def minD : DR := fun xs m Q => match xs with
  | [.int i, .int j] => Q (.int (if j < i then j else i)) m
  | [.lst ys] => ∃ ns : List Int, ys = ns.map D.int ∧ 0 < ns.length ∧ ∀ k, k ∈ ns → (∀ y, y ∈ ns → k ≤ y) → Q (.int k) m
  | _ => False
theorem cd_max (hc : X.calm = true) : CallD X G (.builtin "max") maxD := CallR.imp ((call_max2 hc).or (cr_max hc)) fun vs H Q hh => by
  obtain ⟨F, R, m, xs, Q0, st, r, h, k⟩ := hh
  match xs, vs, r, h with
  | [.int i, .int j], [v, w], .cons r (.cons r' .nil), h => cases r; cases r'; exact .inl ⟨i, j, rfl, k _ m F _ H h (Le.refl F) st (.int _)⟩
  | [.lst ys], [v], .cons r .nil, h =>
    cases r with
    | @lst a ws _ ha ra =>
      obtain ⟨ns, e, hn, q⟩ := h
      subst e
      have e2 := reps_ints ra
      subst e2
      exact .inr ⟨a, ns, rfl, .inl (.inl (st.fz _ _ ha)), hn, fun kk h1 h2 => k _ m F _ H (q kk h1 h2) (Le.refl F) st (.int _)⟩
theorem cd_min (hc : X.calm = true) : CallD X G (.builtin "min") minD := CallR.imp ((call_min2 hc).or (cr_min hc)) fun vs H Q hh => by
  obtain ⟨F, R, m, xs, Q0, st, r, h, k⟩ := hh
  match xs, vs, r, h with
  | [.int i, .int j], [v, w], .cons r (.cons r' .nil), h => cases r; cases r'; exact .inl ⟨i, j, rfl, k _ m F _ H h (Le.refl F) st (.int _)⟩
  | [.lst ys], [v], .cons r .nil, h =>
    cases r with
    | @lst a ws _ ha ra =>
      obtain ⟨ns, e, hn, q⟩ := h
      subst e
      have e2 := reps_ints ra
      subst e2
      exact .inr ⟨a, ns, rfl, .inl (.inl (st.fz _ _ ha)), hn, fun kk h1 h2 => k _ m F _ H (q kk h1 h2) (Le.refl F) st (.int _)⟩
def intD : DR := fun xs m Q => match xs with
  | [.int i] => Q (.int i) m
  | [.bl b] => Q (.int (if b then 1 else 0)) m
  | _ => False
theorem cd_int : CallD X G (.type "int") intD := CallR.imp call_int1 fun vs H Q hh => by
  obtain ⟨F, R, m, xs, Q0, st, r, h, k⟩ := hh
  match xs, vs, r, h with
  | [.int i], [v], .cons r .nil, h => cases r; exact .inl ⟨i, rfl, k _ m F _ H h (Le.refl F) st (.int _)⟩
  | [.bl i], [v], .cons r .nil, h => cases r; exact .inr ⟨i, rfl, k _ m F _ H h (Le.refl F) st (.int _)⟩
/-- few digits -/
def Few (i : Int) : Prop := i.natAbs < 2 ^ 1900
theorem few_log {i : Int} (h : Few i) : i.natAbs.log2 < 1920 := by
  have := PySem.Flt.log2_lt_of (n := i.natAbs) (k := 1900) (by decide) h
  omega
def istr (i : Int) : Str := toString i
def strD : DR := fun xs m Q => match xs with
  | [.int i] => Few i ∧ Q (.str (istr i)) m
  | _ => False
theorem cd_str : CallD X G (.type "str") strD := CallR.imp call_str_int fun vs H Q hh => by
  obtain ⟨F, R, m, xs, Q0, st, r, h, k⟩ := hh
  match xs, vs, r, h with
  | [.int i], [v], .cons r .nil, h => cases r; exact ⟨i, rfl, few_log h.1, k _ m F _ H h.2 (Le.refl F) st (.str _)⟩
def sortD : DR := fun xs m Q => match xs with
  | [.lst ys] => ∃ ns : List Int, ys = ns.map D.int ∧ ∀ ns' : List Int, ns'.Perm ns → ns'.Pairwise (· ≤ ·) → Q (.lst (ns'.map D.int)) m
  | _ => False
theorem cd_sorted : CallD X G (.builtin "sorted") sortD := CallR.imp cr_sortedI fun vs H Q hh => by
  obtain ⟨F, R, m, xs, Q0, st, r, h, k⟩ := hh
  match xs, vs, r, h with
  | [.lst ys], [v], .cons r .nil, h =>
    cases r with
    | @lst a ws _ ha ra =>
      obtain ⟨ns, e, q⟩ := h
      subst e
      have e2 := reps_ints ra
      subst e2
      exact ⟨a, ns, rfl, .inl (.inl (st.fz _ _ ha)), fun ns' p h1 h2 hp => k _ m _ _ _ (q ns' h1 h2) (le_upd (st.fnone hp)) (st.new hp) (.lst upd_same (Reps.ints ns'))⟩
def tupD : DR := fun xs m Q => match xs with
  | [.lst ys] => Q (.tup ys) m
  | [.tup ys] => Q (.tup ys) m
  | _ => False
theorem cd_tuple : CallD X G (.type "tuple") tupD := CallR.imp call_tuple_of fun vs H Q hh => by
  obtain ⟨F, R, m, xs, Q0, st, r, h, k⟩ := hh
  match xs, vs, r, h with
  | [.lst ys], [v], .cons r .nil, h =>
    cases r with
    | @lst a ws _ ha ra =>
      exact ⟨a, ws, rfl, .inl ⟨.inl (.inl (st.fz _ _ ha)), fun p hp => k _ m _ _ _ h (le_upd (st.fnone hp)) (st.new hp) (.tup upd_same (ra.le (le_upd (st.fnone hp))))⟩⟩
  | [.tup ys], [v], .cons r .nil, h =>
    cases r with
    | @tup a ws _ ha ra =>
      exact ⟨a, ws, rfl, .inr ⟨.inl (.inl (st.fz _ _ ha)), k _ m F _ H h (Le.refl F) st (.tup ha ra)⟩⟩
def listD : DR := fun xs m Q => match xs with
  | [.lst ys] => Q (.lst ys) m
  | [.tup ys] => Q (.lst ys) m
  | [.scr ys] => Q (.lst ys) m
  | _ => False
theorem cd_list : CallD X G (.type "list") listD := CallR.imp call_list_of fun vs H Q hh => by
  obtain ⟨F, R, m, xs, Q0, st, r, h, k⟩ := hh
  match xs, vs, r, h with
  | [.lst ys], [v], .cons r .nil, h =>
    cases r with
    | @lst a ws _ ha ra => exact ⟨a, ws, rfl, .inl (.inl (.inl (st.fz _ _ ha))), fun p hp => k _ m _ _ _ h (le_upd (st.fnone hp)) (st.new hp) (.lst upd_same (ra.le (le_upd (st.fnone hp))))⟩
  | [.tup ys], [v], .cons r .nil, h =>
    cases r with
    | @tup a ws _ ha ra => exact ⟨a, ws, rfl, .inr (.inl (.inl (st.fz _ _ ha))), fun p hp => k _ m _ _ _ h (le_upd (st.fnone hp)) (st.new hp) (.lst upd_same (ra.le (le_upd (st.fnone hp))))⟩
  | [.scr ys], [v], .cons r .nil, h =>
    cases r with
    | @lsz a o ws _ ha ra => exact ⟨a, ws, rfl, .inl (.inl (.inr ⟨o, st.fz _ _ ha⟩)), fun p hp => k _ m _ _ _ h (le_upd (st.fnone hp)) (st.new hp) (.lst upd_same (ra.le (le_upd (st.fnone hp))))⟩
def divmodD : DR := fun xs m Q => match xs with
  | [.int i, .int j] => (0 < j ∧ j.natAbs < 2 ^ 8000) ∧ Q (.tup [.int (i / j), .int (i % j)]) m
  | _ => False
theorem cd_divmod : CallD X G (.builtin "divmod") divmodD := CallR.imp call_divmodW fun vs H Q hh => by
  obtain ⟨F, R, m, xs, Q0, st, r, h, k⟩ := hh
  match xs, vs, r, h with
  | [.int i, .int j], [v, w], .cons r (.cons r' .nil), h =>
    cases r
    cases r'
    have hl := PySem.Flt.log2_lt_of (n := j.natAbs) (k := 8000) (by decide) h.1.2
    exact ⟨i, j, rfl, ⟨h.1.1, PyProof.noPylong_of_log2 (by omega)⟩, fun p hp => k _ m _ _ _ h.2 (le_upd (st.fnone hp)) (st.new hp) (.tup upd_same (.cons (.int _) (.cons (.int _) .nil)))⟩
theorem reps_bls {F : Hp} : ∀ {vs : List V} {ns : List Bool}, Reps G F vs (ns.map D.bl) → vs = ns.map V.bl
  | _, [], .nil => rfl
  | _, n :: ns, .cons h r => by
    cases h
    rw [reps_bls r]
    rfl
def allD : DR := fun xs m Q => match xs with
  | [.lst ys] => ∃ bs : List Bool, ys = bs.map D.bl ∧ Q (.bl (bs.all id)) m
  | _ => False
def anyD : DR := fun xs m Q => match xs with
  | [.lst ys] => ∃ bs : List Bool, ys = bs.map D.bl ∧ Q (.bl (bs.any id)) m
  | _ => False
theorem cd_all (hc : X.calm = true) : CallD X G (.builtin "all") allD := CallR.imp (cr_all hc) fun vs H Q hh => by
  obtain ⟨F, R, m, xs, Q0, st, r, h, k⟩ := hh
  match xs, vs, r, h with
  | [.lst ys], [v], .cons r .nil, h =>
    cases r with
    | @lst a ws _ ha ra =>
      obtain ⟨bs, e, q⟩ := h
      subst e
      have e2 := reps_bls ra
      subst e2
      exact ⟨a, bs, rfl, .inl (.inl (st.fz _ _ ha)), k _ m F _ H q (Le.refl F) st (.bl _)⟩
theorem cd_any (hc : X.calm = true) : CallD X G (.builtin "any") anyD := CallR.imp (cr_any hc) fun vs H Q hh => by
  obtain ⟨F, R, m, xs, Q0, st, r, h, k⟩ := hh
  match xs, vs, r, h with
  | [.lst ys], [v], .cons r .nil, h =>
    cases r with
    | @lst a ws _ ha ra =>
      obtain ⟨bs, e, q⟩ := h
      subst e
      have e2 := reps_bls ra
      subst e2
      exact ⟨a, bs, rfl, .inl (.inl (st.fz _ _ ha)), k _ m F _ H q (Le.refl F) st (.bl _)⟩
end
end DL

namespace DL
open PySem PySem.Spec PyProof.Rows L2
open L2H (RoomH)
/-! ### keywords: picked by place -/
def pick {α : Type} (ix : List Nat) (ws : List α) : List α := ix.filterMap fun i => ws[i]?
theorem pick_vals {vs : List V} {us : List Value} (r : Vals vs us) : ∀ ix : List Nat, Vals (pick ix vs) (pick ix us)
  | [] => .nil
  | i :: ix => by
    unfold pick
    cases q : vs[i]? with
    | none =>
      have q2 := r.none_of q
      rw [List.filterMap_cons_none q, List.filterMap_cons_none q2]
      exact pick_vals r ix
    | some v =>
      obtain ⟨u, h1, h2⟩ := r.get q
      rw [List.filterMap_cons_some q, List.filterMap_cons_some h1]
      exact .cons h2 (pick_vals r ix)
theorem pick_reps {G : CT} {F : Hp} {vs : List V} {xs : List D} (r : Reps G F vs xs) : ∀ ix : List Nat, Reps G F (pick ix vs) (pick ix xs)
  | [] => .nil
  | i :: ix => by
    unfold pick
    cases q : xs[i]? with
    | none =>
      have q2 : vs[i]? = none := by
        rw [List.getElem?_eq_none_iff] at q ⊢
        rw [r.length]; exact q
      rw [List.filterMap_cons_none q, List.filterMap_cons_none q2]
      exact pick_reps r ix
    | some v =>
      obtain ⟨u, h1, h2⟩ := r.get q
      rw [List.filterMap_cons_some q, List.filterMap_cons_some h1]
      exact .cons h2 (pick_reps r ix)
/-- n values by place, then the keywords ks, that go to the places ix -/
structure KwB (K : PySem.W.Frag) (fd : FuncData) (ps : List Str) (n : Nat) (ks : List Str) (ix : List Nat) : Prop where
  to : ∀ (s : Shared) (us ws : List Value), K.In s.heap → us.length = n → ws.length = ks.length → BindsTo s fd ⟨us, ks.zip ws⟩ (ps.zip (us ++ pick ix ws))
theorem Binds.kw {K : PySem.W.Frag} {fd : FuncData} {ps : List Str} (b : Binds K fd ps []) : KwB K fd ps ps.length [] [] :=
  ⟨fun s us ws X h1 h2 => by
    have e : ws = [] := List.eq_nil_of_length_eq_zero h2
    subst e
    have h := b s us X (by rw [List.append_nil]; exact h1)
    rw [List.append_nil] at h
    show BindsTo s fd ⟨us, []⟩ (ps.zip (us ++ []))
    rw [List.append_nil]
    exact h⟩
section
variable {X : Cx} {G : CT} {W : WX} {hot grd : Bool} {k : Nat} {f C : Addr} {fd : FuncData} {ps ks : List Str} {sp : DSp} {x : Str} {p pos apos : Pos} {e o : Expr} {es : List Expr} {kws : List Keyword} {ta tk : DTA} {te : DTE}
/-- a def runs, from any place within the body -/
theorem run_GA {A : Around} {pins : List (Addr × Obj)} {σ : L2.St} {H : Hp} {s : Shared} {Q : VK} {args : Args} {us : List Value} {vs : List V} {sq : Sp} (F : FnG hot grd X.prog X.w X.K X.mg X.base k f fd ps sq) (hr : Rm hot grd k A) (fr : A.frames = X.A.frames) (hb : BindsTo s fd args (ps.zip us)) (tk : Takes X W)
    (I : Inv X pins σ H s) (r : Vals vs us) (h : sq vs H Q (fun cls d H' => W cls d σ H')) : codeAny (model X.prog X.w) A (.call (.ref f) args) (wants (EP X pins σ Q) X.xe) s := by
  have e := I.env0
  refine codeAny_mono (F.go A X.stack s H args us vs Q _ hr ⟨fr.trans e.frames, e.mod, e.bs, e.bsz, e.funs, e.frf, e.hok, e.bare⟩ hb r h) fun q s' hq => ?_
  match q, hq with
  | .error e, hq => exact passAt tk σ pins H s e s' I hq
  | .ok (.ret u), hq => exact I.after hq
  | .ok .next, hq => exact hq.elim
  | .ok .brk, hq => exact hq.elim
  | .ok .cont, hq => exact hq.elim
theorem run_G1 {A : Around} {pins : List (Addr × Obj)} {σ : L2.St} {H : Hp} {s : Shared} {Q : VK} {us : List Value} {vs : List V} {sq : Sp} (F : FnG hot grd X.prog X.w X.K X.mg X.base k f fd ps sq) (hr : Rm hot grd k A) (fr : A.frames = X.A.frames) (hb : Binds X.K fd ps []) (tk : Takes X W)
    (I : Inv X pins σ H s) (r : Vals vs us) (h : sq vs H Q (fun cls d H' => W cls d σ H')) : wpAny (model X.prog X.w) A (call (.ref f) us) (EP X pins σ Q) X.xe s := by
  have b := hb s us I.kIn (by rw [List.append_nil, ← r.length]; exact F.len _ _ _ _ h)
  rw [List.append_nil] at b
  exact wpAny_call (run_GA F hr fr b tk I r h)
theorem Rm.in1 {A : Around} (r : Rm hot grd (k + 1) A) : Rm hot grd k A.in1 :=
  ⟨⟨by have := r.room.dp; show A.depth + 3 * k + 5 < _; omega, by have := r.room.un; show A.units + 1 + 16 * k + 200 < _; omega⟩, r.calm, r.gd⟩
/-! ### new instances -/
theorem make_gd {A : Around} {C : Addr} {us : List Value} {kw : List (Str × Value)} : (A.under (.builtin "type.__call__" ⟨.ref C :: us, kw⟩)).guards = pushGuards [] A.guards := by
  first | rfl | simp [Around.under, Code.guards, Code.isGuard, guardIds]
theorem Rm.make {A : Around} (r : Rm hot grd (k + 1) A) (C : Addr) (us : List Value) (kw : List (Str × Value)) : Rm hot grd k (A.under (.builtin "type.__call__" ⟨.ref C :: us, kw⟩)) :=
  ⟨⟨by have := r.room.dp; rw [make_depth]; omega, by have := r.room.un; rw [make_units]; omega⟩, r.calm, fun h => by
    rw [make_gd, r.gd h]
    rfl⟩
theorem make_fr {A : Around} {C : Addr} {us : List Value} {kw : List (Str × Value)} : (A.under (.builtin "type.__call__" ⟨.ref C :: us, kw⟩)).frames = A.frames := by
  first | rfl | simp [Around.under, Code.envs, Code.isFrame, pushEnvs] | (cases A with | mk a b c d e => cases c <;> rfl)
theorem run_mk {pins : List (Addr × Obj)} {σ : L2.St} {H : Hp} {s : Shared} {Q : VK} {us ws : List Value} {vs zs : List V} {sq : Sp} {n : Nat} {ix : List Nat} (Mm : Mk X.K C f) (F : FnG hot grd X.prog X.w X.K X.mg X.base k f fd ps sq) (hr : Rm hot grd (k + 1) X.A) (hb : KwB X.K fd ps (n + 1) ks ix) (tk : Takes X W)
    (I : Inv X pins σ H s) (r : Vals vs us) (l1 : vs.length = n) (rz : Vals zs ws) (l2 : zs.length = ks.length) (h : ∀ x dx, H x = none → H dx = none → dx ≠ x → sq (.ref x :: (vs ++ pick ix zs)) (upd (upd H dx (.own x)) x (.ins C dx [])) (fun v H2 => v = .non ∧ Q (.ref x) H2) (fun cls d H' => W cls d σ H')) : wpAny (model X.prog X.w) X.A (call (.ref C) us (ks.zip ws)) (EP X pins σ Q) X.xe s := by
  have I2 := I.made (C := C)
  have hq := h (s.heap.objs.size + 1) _ (I.hok.fresh (Nat.le_add_right _ 1)) (I.hok.fresh (Nat.le_refl _)) (Nat.ne_of_lt (Nat.lt_add_one _))
  have b := hb.to _ (Value.ref (s.heap.objs.size + 1) :: us) ws I2.kIn (by rw [List.length_cons, ← r.length, l1]) (rz.length.symm.trans l2)
  have rr : Vals (V.ref (s.heap.objs.size + 1) :: (vs ++ pick ix zs)) (Value.ref (s.heap.objs.size + 1) :: us ++ pick ix ws) := .cons rfl (r.append (pick_vals rz ix))
  refine wpAny_call (make_map (f := f) I.kIn Mm.makes Mm.init (beq_iff_eq.mp Mm.fn) (codeAny_mono (run_GA F (hr.make C us (ks.zip ws)) make_fr b tk I2 rr hq) fun q s' hq' => ?_))
  match q, hq' with
  | .ok (.ret u), hq' =>
    obtain ⟨v, H', I3, rv, ev, q3⟩ := hq'
    subst ev
    exact ⟨rv, V.ref (s.heap.objs.size + 1), H', I3, rfl, q3⟩
  | .error e, hq' => exact hq'
  | .ok .next, hq' => exact hq'.elim
  | .ok .brk, hq' => exact hq'.elim
  | .ok .cont, hq' => exact hq'.elim
/-- what a new object of the class must have become -/
def mkD (c : Nat) (flds : List Str) (sp : DSp) (xs : List D) (m : M) (Q : DK) (x : DX) : Prop :=
  ∀ p, m p = none → sp (.ref p :: xs) (mset m p (.ob c [])) (fun d m1 => d = .non ∧ ∃ fs, m1 p = some (.ob c fs) ∧ fs.map (·.1) = flds ∧ Q (.ob c (fs.map (·.2))) (mdel m1 p)) (fun e ys m1 => x e ys (mdel m1 p))
/-- an object that changes, no more told of -/
theorem Hst.drop {G : CT} {F R H : Hp} {m : M} (st : Hst G F R H m) (p : Addr) : Hst G F R H (mdel m p) := by
  have sub : ∀ {a : Addr} {o : MO}, mdel m p a = some o → m a = some o := fun {a o} e => by
    unfold mdel at e
    split at e
    · cases e
    · exact e
  refine ⟨st.fz, fun a o e => ?_, fun a o e => st.mt a o (sub e), st.nt⟩
  obtain ⟨h1, h2, h3⟩ := st.rs a o e
  refine ⟨h1, h2, ?_⟩
  cases z : mdel m p a with
  | none => rfl
  | some o' => rw [sub z] at h3; cases h3
theorem mk_imp {c : Nat} {F R H : Hp} {m : M} {xs : List D} {vs : List V} {Q0 : DK} {x0 : DX} {Q : VK} {E : XK} (st : Hst G F R H m) (r : Reps G F vs xs) (h : mkD c (G c).flds sp xs m Q0 x0)
    (kq : ∀ d m' F' v H', Q0 d m' → Le F F' → Hst G F' R H' m' → Rep G F' v d → Q v H') (kx : ∀ c ys m' F' d H', x0 c ys m' → Le F F' → Hst G F' R H' m' → XD G F' H' c d ys → E (.ref (G c).addr) d H') :
    ∀ x dx, H x = none → H dx = none → dx ≠ x → spL G sp (.ref x :: vs) (upd (upd H dx (.own x)) x (.ins (G c).addr dx [])) (fun v H2 => v = .non ∧ Q (.ref x) H2) E := by
  intro x dx hx hdx hne
  have s1 := st.grow (o := .own x) hdx
  have hx1 : upd H dx (.own x) x = none := by rw [upd_ne (Ne.symm hne)]; exact hx
  have s2 := s1.newM (o := .ins (G c).addr dx []) (u := .ob c []) hx1 ⟨dx, [], upd_same, rfl, .nil⟩
  refine ⟨F, R, _, .ref x :: xs, _, _, s2, .cons (.ref x) r, h x (st.mnone hx), fun d m' F' v H' ⟨e, fs, hm, hf, q⟩ l s' rd => ?_, fun e ys m' F' d H' z l s' xd => kx e ys _ F' d H' z l (s'.drop x) xd⟩
  subst e
  cases rd
  refine ⟨rfl, ?_⟩
  obtain ⟨hf0, dx', gs, hg, e2, rg⟩ := s'.mt x _ hm
  obtain ⟨s3, l3⟩ := s'.freeze hm hg
  exact kq _ _ _ _ _ q (l.trans l3) s3 (.ob (dx := dx') (fs := gs) upd_same (e2.trans hf) (rg.le l3))
def eMake (c : Nat) (flds : List Str) (sp : DSp) (ta : DTA) : DTE := fun x ds m Q => ta x ds m fun xs m1 => mkD c flds sp xs m1 Q (x ds)
theorem de_make {c : Nat} (Mm : Mk X.K (G c).addr f) (F : FnG hot grd X.prog X.w X.K X.mg X.base k f fd ps (spL G sp)) (hr : Rm hot grd (k + 1) X.A) (hg : Gl X x) (hm : X.mg x = some (.ref (G c).addr)) (hb : Binds X.K fd ps []) (tk : Takes X W) (ha : DA X G W (e :: es) ta)
    (hdb : (x == ("__debug__" : Str)) = false := by decide) (he : starEach (e :: es) X.env = (false, eval e X.env) :: starEach es X.env := by rfl) (hpl : (backTo pos (starEach es X.env)).any (·.1) = false := by rfl) :
    DE X G W (.Call (.Name x p) (e :: es) [] pos) (eMake c (G c).flds sp ta) := by
  refine ⟨fun pins s σ H Q I ⟨F0, R, m, ds, Q0, xx, st, sl, h, xk, kk⟩ => ?_⟩
  refine wpAny_Call_Name_kw (ld_glob I hg hm ?_ hdb)
  have ha' := ha.run pos pins s σ H (fun vs H1 => ∀ x dx, H1 x = none → H1 dx = none → dx ≠ x → spL G sp (.ref x :: vs) (upd (upd H1 dx (.own x)) x (.ins (G c).addr dx [])) (fun v H2 => v = .non ∧ Q (.ref x) H2) (fun cls d H' => W cls d σ H')) I
    ⟨F0, R, m, ds, _, xx, st, sl, h, xk, fun xs m1 F1 vs H1 q l s1 r1 => mk_imp s1 r1 q (fun d m' F' v H' q' l' => kk d m' F' v H' q' (l.trans l')) fun c ys m' F' d H' q' l' s' xd => xk ds c ys m' F' σ d H' q' (l.trans l') s' (sl.le (l.trans l')) xd⟩
  refine PySem.W.callWith_K (h₀ := X.base) I.ok.mod.kin Mm.kp (thn ha' fun us s1 ⟨vs, H1, I1, r, q⟩ => ⟨I1.kIn, ?_⟩) he hpl
  have hv : (vs.length + 1) = ps.length := by
    have := F.len _ _ _ _ (q (s1.heap.objs.size + 1) s1.heap.objs.size (I1.hok.fresh (Nat.le_succ _)) (I1.hok.fresh (Nat.le_refl _)) (Nat.ne_of_lt (Nat.lt_succ_self _)))
    simpa using this
  have hb' := Binds.kw hb
  rw [← hv] at hb'
  exact run_mk (ws := []) (zs := []) (ks := []) (ix := []) Mm F hr hb' tk I1 r rfl .nil rfl (by intro x dx h1 h2 h3; simpa [pick] using q x dx h1 h2 h3)
/-- C(k = v, ..) -/
def eMakeK (c : Nat) (flds : List Str) (ix : List Nat) (n : Nat) (sp : DSp) (tk : DTA) : DTE := fun x ds m Q => tk x ds m fun zs m1 => zs.length = n ∧ mkD c flds sp (pick ix zs) m1 Q (x ds)
abbrev DKw (X : Cx) (G : CT) (W : WX) (kws : List Keyword) (t : DTA) : Prop := PK X kws (lA G W t)
theorem _root_.L2.PK.imp {kws : List Keyword} {t t' : TA} (h : PK X kws t) (i : ∀ σ H Q, t' σ H Q → t σ H Q) : PK X kws t' := by
  obtain ⟨r⟩ := h
  exact ⟨fun pos pins s σ H Q I w => r pos pins s σ H Q I (i _ _ _ w)⟩
theorem dk_nil : DKw X G W [] aNil := L2.PK.imp pk_nil fun σ H Q h => by
  obtain ⟨F, R, m, ds, Q0, x, st, sl, h, xk, k⟩ := h
  exact k [] m F [] H h (Le.refl F) st .nil
theorem dk_cons {nm : Option Str} {kpos : Pos} (ha : DE X G W e te) (hr : DKw X G W kws tk) : DKw X G W (⟨nm, e, kpos⟩ :: kws) (aCons te tk) := L2.PK.imp (pk_cons ha hr) fun σ H Q h => by
  obtain ⟨F, R, m, ds, Q0, x, st, sl, h, xk, k⟩ := h
  refine ⟨F, R, m, ds, _, x, st, sl, h, xk, fun d m1 F1 v H1 h1 l1 s1 r1 => ?_⟩
  exact ⟨F1, R, m1, ds, _, x, s1, sl.le l1, h1, xk.le l1, fun xs m2 F2 vs H2 h2 l2 s2 r2 => k _ m2 F2 _ H2 h2 (l1.trans l2) s2 (.cons (r1.le l2) r2)⟩
theorem de_makeK {c : Nat} {ix : List Nat} (Mm : Mk X.K (G c).addr f) (F : FnG hot grd X.prog X.w X.K X.mg X.base k f fd ps (spL G sp)) (hr : Rm hot grd (k + 1) X.A) (hg : Gl X x) (hm : X.mg x = some (.ref (G c).addr)) (hb : KwB X.K fd ps 1 ks ix) (tkk : Takes X W) (hkw : DKw X G W kws tk) (hall : (backToKw pos (keywordEach kws X.env)).all (·.1.isSome) = true := by rfl) (hks : (backToKw pos (keywordEach kws X.env)).filterMap (·.1) = ks := by rfl) (hdb : (x == ("__debug__" : Str)) = false := by decide) (hpl : ((backTo pos (starEach [] X.env)).any (·.1) || (backToKw pos (keywordEach kws X.env)).any (·.1.isNone)) = false := by rfl) :
    DE X G W (.Call (.Name x p) [] kws pos) (eMakeK c (G c).flds ix ks.length sp tk) := by
  refine ⟨fun pins s σ H Q I ⟨F0, R, m, ds, Q0, xx, st, sl, h, xk, kk⟩ => ?_⟩
  refine wpAny_Call_Name_kw (ld_glob I hg hm ?_ hdb)
  have ha' := hkw.run pos pins s σ H (fun vs H1 => vs.length = ks.length ∧ ∀ x dx, H1 x = none → H1 dx = none → dx ≠ x → spL G sp (.ref x :: pick ix vs) (upd (upd H1 dx (.own x)) x (.ins (G c).addr dx [])) (fun v H2 => v = .non ∧ Q (.ref x) H2) (fun cls d H' => W cls d σ H')) I
    ⟨F0, R, m, ds, _, xx, st, sl, h, xk, fun xs m1 F1 vs H1 q l s1 r1 => ⟨r1.length.trans q.1, mk_imp s1 (pick_reps r1 ix) q.2 (fun d m' F' v H' q' l' => kk d m' F' v H' q' (l.trans l')) fun c ys m' F' d H' q' l' s' xd => xk ds c ys m' F' σ d H' q' (l.trans l') s' (sl.le (l.trans l')) xd⟩⟩
  refine PySem.W.callWith_KW0 (h₀ := X.base) I.ok.mod.kin Mm.kp hall ?_ hpl
  refine thn ha' fun ws s2 ⟨zs, H2, I2, rz, l2, q2⟩ => ⟨I2.kIn, ?_⟩
  rw [hks]
  exact run_mk (us := []) (vs := []) (n := 0) Mm F hr hb tkk I2 .nil rfl rz l2 (by simpa using q2)
end
end DL

namespace DL
open PySem PySem.Spec PyProof.Rows L2
open L2H (RoomH)
/-! ### fields -/
theorem zip_look {G : CT} {F : Hp} : ∀ {fs : List (Str × V)} {ns : List Str} {xs : List D} {n : Str} {d : D}, fs.map (·.1) = ns → Reps G F (fs.map (·.2)) xs → (ns.zip xs).lookup n = some d → ∃ v, fs.lookup n = some v ∧ Rep G F v d
  | [], _, _, _, _, e, _, h => by subst e; simp at h
  | (a, v) :: fs, _, _, n, d, e, .cons rv rr, h => by
    subst e
    rw [List.map_cons, List.zip_cons_cons, List.lookup_cons] at h
    rw [List.lookup_cons]
    cases q : n == a with
    | true => rw [q] at h; cases h; exact ⟨v, rfl, rv⟩
    | false => rw [q] at h; exact zip_look rfl rr h
theorem look_reps {G : CT} {F : Hp} : ∀ {gs : List (Str × V)} {fs : List (Str × D)} {n : Str} {d : D}, gs.map (·.1) = fs.map (·.1) → Reps G F (gs.map (·.2)) (fs.map (·.2)) → fs.lookup n = some d → ∃ v, gs.lookup n = some v ∧ Rep G F v d
  | [], [], _, _, _, _, h => by simp at h
  | [], _ :: _, _, _, e, _, _ => by simp at e
  | _ :: _, [], _, _, e, _, _ => by simp at e
  | (a, v) :: gs, (b, w) :: fs, n, d, e, .cons rv rr, h => by
    simp only [List.map_cons, List.cons.injEq] at e
    obtain ⟨e1, e2⟩ := e
    subst e1
    rw [List.lookup_cons] at h ⊢
    cases q : n == a with
    | true => rw [q] at h; cases h; exact ⟨v, rfl, rv⟩
    | false => rw [q] at h; exact look_reps e2 rr h
theorem look_none {fs : List (Str × V)} {ns : List Str} {n : Str} (e : fs.map (·.1) = ns) (h : ns.contains n = false) : fs.lookup n = none := by
  subst e
  induction fs with
  | nil => rfl
  | cons q fs ih =>
    obtain ⟨a, v⟩ := q
    rw [List.map_cons, List.contains_cons, Bool.or_eq_false_iff] at h
    rw [List.lookup_cons, h.1]
    exact ih h.2
def putD (f : Str) (v : D) : List (Str × D) → List (Str × D)
  | [] => [(f, v)]
  | (g, x) :: r => if g = f then (g, v) :: r else (g, x) :: putD f v r
theorem put_rel {G : CT} {F : Hp} {f : Str} {v : V} {d : D} (rv : Rep G F v d) : ∀ {gs : List (Str × V)} {fs : List (Str × D)}, gs.map (·.1) = fs.map (·.1) → Reps G F (gs.map (·.2)) (fs.map (·.2)) → (putF f v gs).map (·.1) = (putD f d fs).map (·.1) ∧ Reps G F ((putF f v gs).map (·.2)) ((putD f d fs).map (·.2))
  | [], [], _, _ => ⟨rfl, .cons rv .nil⟩
  | [], _ :: _, e, _ => by simp at e
  | _ :: _, [], e, _ => by simp at e
  | (a, x) :: gs, (b, y) :: fs, e, .cons rx rr => by
    simp only [List.map_cons, List.cons.injEq] at e
    obtain ⟨e1, e2⟩ := e
    subst e1
    unfold putF putD
    by_cases q : a = f
    · rw [if_pos q, if_pos q]
      exact ⟨by simp [e2], .cons rv rr⟩
    · rw [if_neg q, if_neg q]
      obtain ⟨h1, h2⟩ := put_rel rv e2 rr
      exact ⟨by simp [h1], .cons rx h2⟩
section
variable {X : Cx} {G : CT} {W : WX} {hot grd : Bool} {k c : Nat} {f : Addr} {fd : FuncData} {ps ks : List Str} {sp : DSp} {x n : Str} {p pos pos' apos : Pos} {e o a b value : Expr} {es : List Expr} {kws : List Keyword} {ta tk : DTA} {te tv tb to : DTE}
def eFld (G : CT) (c : Nat) (n : Str) (te : DTE) : DTE := fun x ds m Q => te x ds m fun d m1 => ∃ xs v, d = .ob c xs ∧ ((G c).flds.zip xs).lookup n = some v ∧ Q v m1
theorem de_fld (hC : Cls X.K (G c).addr) (hn : NoAttr X.K (G c).addr n) (he : DE X G W e te) (hb : attributeBase e n X.env (eval e X.env) = eval e X.env := by rfl) : DE X G W (.Attribute e n pos) (eFld G c n te) :=
  (pe_fld he hb).imp fun σ H Q ⟨F, R, m, ds, Q0, x, st, sl, h, xk, kk⟩ => by
    refine ⟨F, R, m, ds, _, x, st, sl, h, xk, fun d m1 F1 v H1 ⟨xs, u, e1, lk, q⟩ l1 s1 r1 => ?_⟩
    subst e1
    cases r1 with
    | @ob a dx _ fs _ hh ee rr =>
      obtain ⟨w, hw, rw_⟩ := zip_look ee rr lk
      exact ⟨a, _, dx, fs, w, rfl, s1.fz _ _ hh, hC, hn, hw, kk _ _ _ _ _ q l1 s1 rw_⟩
/-- the same of an object that may change -/
def eFldM (c : Nat) (n : Str) (te : DTE) : DTE := fun x ds m Q => te x ds m fun d m1 => ∃ p fs v, d = .ref p ∧ m1 p = some (.ob c fs) ∧ fs.lookup n = some v ∧ Q v m1
theorem de_fldM (hC : Cls X.K (G c).addr) (hn : NoAttr X.K (G c).addr n) (he : DE X G W e te) (hb : attributeBase e n X.env (eval e X.env) = eval e X.env := by rfl) : DE X G W (.Attribute e n pos) (eFldM c n te) :=
  (pe_fld he hb).imp fun σ H Q ⟨F, R, m, ds, Q0, x, st, sl, h, xk, kk⟩ => by
    refine ⟨F, R, m, ds, _, x, st, sl, h, xk, fun d m1 F1 v H1 ⟨p, fs, u, e1, hm, lk, q⟩ l1 s1 r1 => ?_⟩
    subst e1
    cases r1
    obtain ⟨_, dx, gs, hg, e2, rr⟩ := s1.mt _ _ hm
    obtain ⟨w, hw, rw_⟩ := look_reps e2 rr lk
    exact ⟨p, _, dx, gs, w, rfl, hg, hC, hn, hw, kk _ _ _ _ _ q l1 s1 rw_⟩
def sFldM (c : Nat) (n : Str) (to tv : DTE) : DTS := fun E ds m => tv E.ex ds m fun y m1 => to E.ex ds m1 fun x m2 => ∃ p fs, x = .ref p ∧ m2 p = some (.ob c fs) ∧ fs.length < 1000 ∧ E.nx ds (mset m2 p (.ob c (putD n y fs)))
theorem ds_fld (hC : Cls X.K (G c).addr) (hn : NoAttr X.K (G c).addr n) (ho : DE X G W o to) (hv : DE X G W value tv) (hs : swapsWith value (some (.Attribute o n pos')) pos.line X.env = pure false := by rfl) :
    DS X G W (.Assign [.Attribute o n pos'] value pos) (sFldM c n to tv) :=
  (ps_fld ho hv hs).imp fun D σ H ⟨F, R, m, ds, E, st, sl, h, ok⟩ => by
    refine ⟨F, R, m, ds, _, E.ex, st, sl, h, ok.ex, fun y m1 F1 vy H1 h1 l1 s1 r1 => ?_⟩
    refine ⟨F1, R, m1, ds, _, E.ex, s1, sl.le l1, h1, ok.ex.le l1, fun d m2 F2 v H2 ⟨p, fs, e1, hm, hl, q⟩ l2 s2 r2 => ?_⟩
    subst e1
    cases r2
    obtain ⟨_, dx, gs, hg, e2, rr⟩ := s2.mt _ _ hm
    obtain ⟨h3, h4⟩ := put_rel (f := n) (r1.le l2) e2 rr
    have hlen : gs.length = fs.length := by simpa using congrArg List.length e2
    refine ⟨p, _, dx, gs, rfl, hg, hC, hn, by omega, ?_⟩
    exact ok.nx _ _ F2 _ _ q (l1.trans l2) (s2.put hm ⟨dx, _, upd_same, h3, h4⟩) (sl.le (l1.trans l2))
/-! ### methods -/
def eMeth (c : Nat) (sp : DSp) (to : DTE) (ta : DTA) : DTE := fun x ds m Q => to x ds m fun d m1 => ∃ ys, d = .ob c ys ∧ ta x ds m1 fun xs m2 => sp (.ob c ys :: xs) m2 Q (x ds)
def eMethK (c nn : Nat) (ix : List Nat) (sp : DSp) (to : DTE) (ta tk : DTA) : DTE := fun x ds m Q => to x ds m fun d m1 => ∃ ys, d = .ob c ys ∧ ta x ds m1 fun xs m2 => tk x ds m2 fun zs m3 => zs.length = nn ∧ sp (.ob c ys :: (xs ++ pick ix zs)) m3 Q (x ds)
theorem meth_run {pins : List (Addr × Obj)} {σ : L2.St} {H : Hp} {s : Shared} {Q : VK} {u : Value} {us ws : List Value} {v : V} {vs zs : List V} {sq : Sp} {nn : Nat} {ix : List Nat} (F : FnG hot grd X.prog X.w X.K X.mg X.base k f fd ps sq) (hr : Rm hot grd k X.A) (hb : KwB X.K fd ps (nn + 1) ks ix) (tk : Takes X W)
    (I : Inv X pins σ H s) (r0 : RelV v u) (r : Vals vs us) (rz : Vals zs ws) (l1 : vs.length = nn) (l2 : zs.length = ks.length) (h : sq (v :: (vs ++ pick ix zs)) H Q (fun cls d H' => W cls d σ H')) :
    wpAny (model X.prog X.w) X.A (call (.ref f) (u :: us) (ks.zip ws)) (EP X pins σ Q) X.xe s := by
  have b := hb.to s (u :: us) ws I.kIn (by rw [List.length_cons, ← r.length, l1]) (rz.length.symm.trans l2)
  exact wpAny_call (run_GA F hr rfl b tk I (.cons r0 (r.append (pick_vals rz ix))) h)
theorem de_meth {pl : Sem Bool} (hC : Cls X.K (G c).addr) (hM : Meth X.K (G c).addr n f) (hf : (G c).flds.contains n = false) (F : FnG hot grd X.prog X.w X.K X.mg X.base k f fd ps (spL G sp)) (hr : Rm hot grd k X.A) (hb : Binds X.K fd ps []) (tkk : Takes X W) (ho : DE X G W o to) (ha : DA X G W (e :: es) ta)
    (hst : starEach (e :: es) X.env = (false, eval e X.env) :: starEach es X.env := by rfl) (hpl : (backTo pos (starEach es X.env)).any (·.1) = false := by rfl)
    (ht : eval (.Call (.Attribute o n apos) (e :: es) [] pos) X.env = (do
      let ov ← eval o X.env
      standAt apos.atName
      let (f, first) ← holding [ov] (getMethod ov n pl)
      callWith pos f first (backTo pos (starEach (e :: es) X.env)) (backToKw pos (keywordEach [] X.env))) := by rfl) :
    DE X G W (.Call (.Attribute o n apos) (e :: es) [] pos) (eMeth c sp to ta) := by
  refine ⟨fun pins s σ H Q I ⟨F0, R, m, ds, Q0, xx, st, sl, h, xk, kk⟩ => ?_⟩
  refine PySem.W.methodCall_KW (pl := pl) (thn (ho.run pins s σ H (fun v H1 => ∃ a dx fs, v = .ref a ∧ H1 a = some (.ins (G c).addr dx fs) ∧ fs.lookup n = none ∧ lA G W ta σ H1 (fun vs H2 => spL G sp (v :: vs) H2 Q (fun cls d H' => W cls d σ H'))) I
    ⟨F0, R, m, ds, _, xx, st, sl, h, xk, fun d m1 F1 v H1 ⟨ys, ed, h1⟩ l1 s1 r1 => ?_⟩) fun u s1 ⟨v, H1, I1, rx, aa, dx, fs, ex, ea, l, q⟩ => ?_) ht
  · subst ed
    have rr := r1
    cases r1 with
    | @ob aa dx _ fs _ hh ee _ =>
      refine ⟨aa, dx, fs, rfl, s1.fz _ _ hh, look_none ee hf, F1, R, m1, ds, _, xx, s1, sl.le l1, h1, xk.le l1, fun xs m2 F2 vs H2 q l2 s2 r2 => ?_⟩
      exact spL_of s2 (sl.le (l1.trans l2)) (.cons (rr.le l2) r2) q (xk.le (l1.trans l2)) fun d m' F' v H' q' l' => kk d m' F' v H' q' ((l1.trans l2).trans l')
  · subst ex
    obtain rfl : u = Value.ref aa := rx
    refine getmeth_ok I1 ea hC hM l ?_
    refine PySem.W.callWith_K (first := [.ref aa]) (h₀ := X.base) I.ok.mod.kin hM.kp (thn (ha.run pos pins s1 σ H1 _ I1 q) fun us s2 ⟨vs, H2, I2, r, q2⟩ => ⟨I2.kIn, ?_⟩) hst hpl
    have hl := F.len _ _ _ _ q2
    have hb' := Binds.kw hb
    rw [← hl] at hb'
    have := meth_run (ws := []) (zs := []) (ks := []) (ix := []) (u := .ref aa) (v := .ref aa) (vs := vs) (us := us) F hr hb' tkk I2 rfl r .nil rfl rfl (by simpa [pick] using q2)
    simpa using this
theorem de_methK {pl : Sem Bool} {ix : List Nat} (hC : Cls X.K (G c).addr) (hM : Meth X.K (G c).addr n f) (hf : (G c).flds.contains n = false) (F : FnG hot grd X.prog X.w X.K X.mg X.base k f fd ps (spL G sp)) (hr : Rm hot grd k X.A) (hb : KwB X.K fd ps 1 ks ix) (tkk : Takes X W) (ho : DE X G W o to) (hkw : DKw X G W kws tk)
    (hall : (backToKw pos (keywordEach kws X.env)).all (·.1.isSome) = true := by rfl) (hks : (backToKw pos (keywordEach kws X.env)).filterMap (·.1) = ks := by rfl)
    (hpl : ((backTo pos (starEach [] X.env)).any (·.1) || (backToKw pos (keywordEach kws X.env)).any (·.1.isNone)) = false := by rfl)
    (ht : eval (.Call (.Attribute o n apos) [] kws pos) X.env = (do
      let ov ← eval o X.env
      standAt apos.atName
      let (f, first) ← holding [ov] (getMethod ov n pl)
      callWith pos f first (backTo pos (starEach [] X.env)) (backToKw pos (keywordEach kws X.env))) := by rfl) :
    DE X G W (.Call (.Attribute o n apos) [] kws pos) (eMethK c ks.length ix sp to aNil tk) := by
  refine ⟨fun pins s σ H Q I ⟨F0, R, m, ds, Q0, xx, st, sl, h, xk, kk⟩ => ?_⟩
  refine PySem.W.methodCall_KW (pl := pl) (thn (ho.run pins s σ H (fun v H1 => ∃ a dx fs, v = .ref a ∧ H1 a = some (.ins (G c).addr dx fs) ∧ fs.lookup n = none ∧ lA G W tk σ H1 (fun zs H2 => zs.length = ks.length ∧ spL G sp (v :: pick ix zs) H2 Q (fun cls d H' => W cls d σ H'))) I
    ⟨F0, R, m, ds, _, xx, st, sl, h, xk, fun d m1 F1 v H1 ⟨ys, ed, h1⟩ l1 s1 r1 => ?_⟩) fun u s1 ⟨v, H1, I1, rx, aa, dx, fs, ex, ea, l, q⟩ => ?_) ht
  · subst ed
    have rr := r1
    cases r1 with
    | @ob aa dx _ fs _ hh ee _ =>
      refine ⟨aa, dx, fs, rfl, s1.fz _ _ hh, look_none ee hf, F1, R, m1, ds, _, xx, s1, sl.le l1, h1, xk.le l1, fun zs m2 F2 vs H2 q l2 s2 r2 => ⟨r2.length.trans q.1, ?_⟩⟩
      exact spL_of s2 (sl.le (l1.trans l2)) (.cons (rr.le l2) (pick_reps r2 ix)) q.2 (xk.le (l1.trans l2)) fun d m' F' v H' q' l' => kk d m' F' v H' q' ((l1.trans l2).trans l')
  · subst ex
    obtain rfl : u = Value.ref aa := rx
    refine getmeth_ok I1 ea hC hM l ?_
    refine PySem.W.callWith_KW0 (first := [.ref aa]) (h₀ := X.base) I.ok.mod.kin hM.kp hall (thn (hkw.run pos pins s1 σ H1 _ I1 q) fun ws s2 ⟨zs, H2, I2, rz, l2, q2⟩ => ⟨I2.kIn, ?_⟩) hpl
    rw [hks]
    have := meth_run (us := []) (vs := []) (nn := 0) (u := .ref aa) (v := .ref aa) F hr hb tkk I2 rfl .nil rz rfl l2 (by simpa using q2)
    simpa using this
/-! ### calls that let nothing out -/
theorem takes0 : Takes (X.wish fun _ _ => False) (fun _ _ _ _ => False) := fun u s' ⟨_, _, _, _, _, _, _, _, _, _, _, _, _, _, _, _, w⟩ => w
theorem ep_unwish {pins : List (Addr × Obj)} {σ : L2.St} {Q : VK} {E : Value → Shared → Prop} {u : Value} {s : Shared} (h : EP (X.wish E) pins σ Q u s) : EP X pins σ Q u s :=
  let ⟨v, H, I, r, q⟩ := h; ⟨v, H, I.unwish, r, q⟩
theorem run_GA0 {A : Around} {pins : List (Addr × Obj)} {σ : L2.St} {H : Hp} {s : Shared} {Q : VK} {args : Args} {us : List Value} {vs : List V} {sq : Sp} (F : FnG hot grd X.prog X.w X.K X.mg X.base k f fd ps sq) (hr : Rm hot grd k A) (fr : A.frames = X.A.frames) (hb : BindsTo s fd args (ps.zip us))
    (I : Inv X pins σ H s) (r : Vals vs us) (h : sq vs H Q (fun _ _ _ => False)) : codeAny (model X.prog X.w) A (.call (.ref f) args) (wants (EP X pins σ Q) (fun _ _ => False)) s := by
  refine codeAny_mono (run_GA (X := X.wish fun _ _ => False) F hr fr hb takes0 (I.wish _) r h) fun q s' hq => ?_
  match q, hq with
  | .ok (.ret u), hq => exact ep_unwish hq
  | .error e, hq => exact hq
  | .ok .next, hq => exact hq.elim
  | .ok .brk, hq => exact hq.elim
  | .ok .cont, hq => exact hq.elim
theorem run_G0 {A : Around} {pins : List (Addr × Obj)} {σ : L2.St} {H : Hp} {s : Shared} {Q : VK} {us : List Value} {vs : List V} {sq : Sp} (F : FnG hot grd X.prog X.w X.K X.mg X.base k f fd ps sq) (hr : Rm hot grd k A) (fr : A.frames = X.A.frames) (hb : Binds X.K fd ps [])
    (I : Inv X pins σ H s) (r : Vals vs us) (h : sq vs H Q (fun _ _ _ => False)) {E : Value → Shared → Prop} : wpAny (model X.prog X.w) A (call (.ref f) us) (EP X pins σ Q) E s := by
  have b := hb s us I.kIn (by rw [List.append_nil, ← r.length]; exact F.len _ _ _ _ h)
  rw [List.append_nil] at b
  refine wpAny_call (codeAny_mono (run_GA0 F hr fr b I r h) fun q s' hq => ?_)
  match q, hq with
  | .ok (.ret u), hq => exact hq
/-- a promise that is kept without an error -/
theorem spL_of0 {sp : DSp} {F R H : Hp} {m : M} {xs : List D} {vs : List V} {Q0 : DK} {Q : VK} (st : Hst G F R H m) (r : Reps G F vs xs) (h : sp xs m Q0 (fun _ _ _ => False))
    (k : ∀ d m' F' v H', Q0 d m' → Le F F' → Hst G F' R H' m' → Rep G F' v d → Q v H') : spL G sp vs H Q (fun _ _ _ => False) :=
  ⟨F, R, m, xs, Q0, _, st, r, h, k, fun c ys m' F' d H' q l s' xd => q.elim⟩
/-! ### properties -/
def eProp (c : Nat) (sp : DSp) (te : DTE) : DTE := fun x ds m Q => te x ds m fun d m1 => ∃ ys, d = .ob c ys ∧ sp [.ob c ys] m1 Q (fun _ _ _ => False)
theorem de_prop {pr : Addr} (hC : Cls X.K (G c).addr) (hP : PropOf X.K (G c).addr n pr f) (F : FnG hot grd X.prog X.w X.K X.mg X.base k f fd ps (spL G sp)) (hr : Rm hot grd (k + 1) X.A) (hb : Binds X.K fd ps []) (he : DE X G W e te)
    (hab : attributeBase e n X.env (eval e X.env) = eval e X.env := by rfl) : DE X G W (.Attribute e n pos) (eProp c sp te) := by
  refine ⟨fun pins s σ H Q I ⟨F0, R, m, ds, Q0, xx, st, sl, h, xk, kk⟩ => ?_⟩
  refine attr_of hab (thn (he.run pins s σ H (fun v H1 => ∃ a dx fs, v = .ref a ∧ H1 a = some (.ins (G c).addr dx fs) ∧ spL G sp [v] H1 Q (fun _ _ _ => False)) I
    ⟨F0, R, m, ds, _, xx, st, sl, h, xk, fun d m1 F1 v H1 ⟨ys, ed, h1⟩ l1 s1 r1 => ?_⟩) fun u s1 ⟨v, H1, I1, rx, aa, dx, fs, ex, ea, q⟩ => ?_)
  · subst ed
    have rr := r1
    cases r1 with
    | @ob aa dx _ fs _ hh ee _ =>
      exact ⟨aa, dx, fs, rfl, s1.fz _ _ hh, spL_of0 s1 (.cons rr .nil) h1 fun d m' F' v H' q' l' => kk d m' F' v H' q' (l1.trans l')⟩
  · subst ex
    obtain rfl : u = Value.ref aa := rx
    obtain ⟨mA, O, _, _, _, _⟩ := ins_get I1.hok ea
    obtain ⟨od, J, _⟩ := O.look
    obtain ⟨rest, hrec⟩ := hP.rec_
    have I2 := I1.tok (s1.toks + 1)
    have hc : (PySem.W.clsIn X.K (G c).addr).isSome = true := by
      obtain ⟨cd, hc, _⟩ := PySem.W.any_some hC.hd
      rw [hc]
      rfl
    refine PySem.W.get_bind I1.kIn J (PySem.W.plainGet_of (hC.get n)).1 (PySem.W.findObj_data hc hP.at_ hP.get hP.tak) (PySem.W.plainGet_of (hC.get n)).2 (wpAny_call (PySem.W.prop_get (s := { s1 with toks := s1.toks + 1 }) I1.kIn hrec ?_))
    have hl := F.len _ _ _ _ q
    have b := hb _ [Value.ref aa] I2.kIn (by simpa using hl)
    rw [List.append_nil] at b
    have rv : Vals [V.ref aa] [Value.ref aa] := .cons (rfl : RelV (.ref aa) (.ref aa)) .nil
    refine codeAny_mono (run_GA0 F hr.in1 rfl b I2 rv q) fun r s' hq => ?_
    match r, hq with
    | .ok (.ret u), ⟨v, H', I3, rv, q3⟩ =>
      have out : handedOut u = pure u := PySem.W.handedOut_of (handed_of rv)
      (show wpAny _ _ (handedOut u) _ _ _; rw [out]; exact wpAny_pure ⟨v, H', I3, rv, q3⟩)
end
end DL

/-! own operators -/
namespace PySem.W
open PySem PySem.Spec PySem.Calls PyProof.Rows
section
variable {prog : Program} {w : World} {A : Around} {E : Value → Shared → Prop} {s : Shared} {K : Frag} {x C L f : Addr} {h₀ : Heap} {m : Str → Option Value} {ox : Obj} {od : Option Obj} {b : Value} {B T : String}
/-- the own method of that name answers -/
theorem try_own {Q : Value → Shared → Prop} {name : Str} (kin : K.In s.heap) (inst : InstAt s.heap x ox C od) (own : findIn K (.ref C) name = some (some (.ref f))) (isF : isFn K (.ref f) = true)
    (ans : wpAny (model prog w) A (call (.ref f) [.ref x, b]) (CmpBack Q) E s) : wpAny (model prog w) A (tryCompare (.ref x) name b) (fun r s' => ∃ v, r = some v ∧ Q v s') E s := by
  simp only [tryCompare]
  refine wpAny_bind (ifBound_K kin inst own isF (wpAny_mono ans ?_ fun _ _ z => z))
  intro v s' back
  cases v <;> first | exact False.elim back | exact wpAny_pure ⟨_, rfl, back⟩
/-- object's != asks the own == -/
theorem inner_ne {Q : Value → Shared → Prop} (hu : A.units + 1 < cLine) (kin : K.In s.heap) (inst : InstAt s.heap x ox C od) (own : findIn K (.ref C) "__eq__" = some (some (.ref f))) (isF : isFn K (.ref f) = true)
    (ans : wpAny (model prog w) A.in1 (call (.ref f) [.ref x, b]) (fun v s' => ∃ k, v = .bool k ∧ Q (.bool (!k)) s') E s) :
    wpAny (model prog w) A.in1 (Builtin.«object.__ne__» ⟨[.ref x, b], []⟩) (fun fin s' => ∃ v, fin = .done (.ret v) ∧ v ≠ .notImplemented ∧ Q v s') E s := by
  delta Builtin.«object.__ne__»
  have asked : wpAny (model prog w) A.in1 (callSpecialIfBound? (.ref x) (Str.ofString "__eq__") [b]) (fun r s' => ∃ k, r = some (.bool k) ∧ Q (.bool (!k)) s') E s :=
    ifBound_K kin inst own isF (wpAny_mono ans (fun v s' ⟨k, e, q⟩ => ⟨k, congrArg some e, q⟩) fun _ _ z => z)
  refine wpAny_bind (wpAny_of_eq (a := (Value.ref x, [b])) (by first | rfl | (simp only [slotArgs]; rfl)) (wpAny_bind (wpAny_cRoomFor hu (wpAny_bind (wpAny_mono asked ?_ fun _ _ z => z)))))
  rintro _ s' ⟨k, rfl, q⟩
  exact wpAny_bind (m := truthy (.bool k)) (wpAny_truthy_bool (wpAny_pure ⟨_, rfl, Value.noConfusion, q⟩))
theorem try_ne {Q : Value → Shared → Prop} (hu : A.units + 1 < cLine) (kin : K.In s.heap) (inst : InstAt s.heap x ox C od) (noNe : findIn K (.ref C) "__ne__" = some (some (.builtin "object.__ne__"))) (own : findIn K (.ref C) "__eq__" = some (some (.ref f))) (isF : isFn K (.ref f) = true)
    (isO : subIn K (.ref C) (.type "object") = some true) (ans : wpAny (model prog w) A.in1 (call (.ref f) [.ref x, b]) (fun v s' => ∃ k, v = .bool k ∧ Q (.bool (!k)) s') E s) : wpAny (model prog w) A (tryCompare (.ref x) "__ne__" b) (fun r s' => ∃ v, r = some v ∧ Q v s') E s := by
  have kind := inst.type (M := model prog w)
  have run : wpAny (model prog w) A (call (.builtin "object.__ne__") [.ref x, b]) (fun v s' => v ≠ .notImplemented ∧ Q v s') E s := by
    apply wpAny_call
    apply codeAny_call_builtin F.cmp_object.ne.plain F.cmpEntry_ne
    apply @check_slot (model prog w) _ _ s "object.__ne__" "object" "__ne__" (.ref x) [b] [] _ F.cmpKind_ne F.cmpSplit_ne (kind.andThen (looks_subIn kin isO)) (F.cmpArgs_ne _ _)
    refine wpAny_mono (inner_ne hu kin inst own isF ans) ?_ fun _ _ z => z
    rintro _ s' ⟨v, rfl, both⟩
    exact both
  have told : wpAny (model prog w) A (call (.builtin "object.__ne__") ([.ref x] ++ [b]) >>= fun v => pure (some v)) (fun r s' => ∃ v, r = some v ∧ v ≠ .notImplemented ∧ Q v s') E s := wpAny_bind (wpAny_mono run (fun v s' both => wpAny_pure ⟨v, rfl, both⟩) fun _ _ z => z)
  simp only [tryCompare, callSpecialIfBound?, bindSpecialIfBound?]
  refine wpAny_bind (wpAny_holding (wpAny_bind (wpAny_bind (wpAny_bind (kind.here ((looks_findIn kin noNe).here ?_))))))
  simp only [F.cmp_object.ne.bind]
  have last : ∀ (r : Option Value) (s' : Shared), (∃ v, r = some v ∧ v ≠ .notImplemented ∧ Q v s') → wpAny (model prog w) A (match r with | some .notImplemented | none => pure none | some v => pure (some v)) (fun r s' => ∃ v, r = some v ∧ Q v s') E s' := by
    rintro _ s' ⟨v, rfl, h1, h2⟩
    cases v <;> first | exact absurd rfl h1 | exact wpAny_pure ⟨_, rfl, h2⟩
  have fin := wpAny_mono told last fun _ _ z => z
  apply wpAny_bind
  apply wpAny_askSetting
  apply wpAny_ite
  split <;> first | exact wpAny_bind (wpAny_pure (wpAny_pure (by exact fin))) | exact wpAny_tryCatch (wpAny_bind (wpAny_pure (wpAny_pure (by exact fin))))
/-- the own side stands at the left -/
theorem cmp_left {op : CmpOp} {Q : Value → Shared → Prop} {tb : Value} (hu : A.units < cLine) (kin : K.In s.heap) (inst : InstAt s.heap x ox C od) (kb : Looks (model prog w) s.heap (typeOf b) tb) (hn : notFirst K C tb = true)
    (one : wpAny (model prog w) A (tryCompare (.ref x) (cmpInfo op).2.1 b) (fun r s' => ∃ v, r = some v ∧ Q v s') E s) : wpAny (model prog w) A (richCompare op (.ref x) b) Q E s := by
  delta richCompare
  dsimp only
  rw [oneThing_ref]
  refine wpAny_holding (wpAny_bind (wpAny_cRoomFor hu (wpAny_bind ((inst.type (M := model prog w)).here (wpAny_bind (kb.here ?_))))))
  split
  · next differ =>
    have isLess : subIn K tb (.ref C) = some false := (Bool.or_eq_true_iff.mp hn).elim (fun same => by simp [eq_of_beq same] at differ) eq_of_beq
    refine wpAny_bind ((looks_subIn kin isLess).here ?_)
    simp only [if_neg Bool.false_ne_true]
    exact wpAny_bind (wpAny_mono one (fun _ s' ⟨v, e, q⟩ => e ▸ wpAny_pure q) fun _ _ z => z)
  · apply wpAny_bind
    apply wpAny_pure
    simp only [if_neg Bool.false_ne_true]
    exact wpAny_bind (wpAny_mono one (fun _ s' ⟨v, e, q⟩ => e ▸ wpAny_pure q) fun _ _ z => z)
/-- the own side stands at the right: the left one declines -/
theorem cmp_right {op : CmpOp} {Q : Value → Shared → Prop} (hu : A.units < cLine) (kin : K.In s.heap) (inst : InstAt s.heap x ox C od) (tb : s.TypeIs b T) (apart : subIn K (.ref C) (.type T) = some false)
    (dec : ∀ R : Option Value → Shared → Prop, R none s → wpAny (model prog w) A (tryCompare b (cmpInfo op).2.1 (.ref x)) R E s) (one : wpAny (model prog w) A (tryCompare (.ref x) (cmpInfo op).2.2 b) (fun r s' => ∃ v, r = some v ∧ Q v s') E s) :
    wpAny (model prog w) A (richCompare op b (.ref x)) Q E s := by
  have differ : (Value.type T != Value.ref C) = true := bne_iff_ne.mpr Value.noConfusion
  delta richCompare
  dsimp only
  rw [tb.oneThing_none]
  refine wpAny_holding (wpAny_bind (wpAny_cRoomFor hu (wpAny_bind (wpAny_typeOf tb (wpAny_bind ((inst.type (M := model prog w)).here ?_))))))
  simp only [differ, ↓reduceIte]
  refine wpAny_bind ((looks_subIn kin apart).here (wpAny_bind (dec _ (wpAny_bind (wpAny_mono one ?_ fun _ _ z => z)))))
  rintro _ s' ⟨v, rfl, q⟩
  exact wpAny_pure q
/-- b + x by the own __radd__: b's kind has no + for numbers, or declines -/
theorem add_right {Q : Value → Shared → Prop} {fp : Addr} {l : Bool} (kin : K.In s.heap) (inst : InstAt s.heap x ox C od) (tb : s.TypeIs b T) (fills : fillsNumberSlot (.type T) "add" = pure l) (first : selfFirst K C = true)
    (plus : findIn K (.ref C) (PySem.dunder "add") = some (some (.ref fp))) (own : findIn K (.ref C) (dunderR "add") = some (some (.ref f))) (isF : isFn K (.ref f) = true) (apart : subIn K (.ref C) (.type T) = some false)
    (dec : l = true → ∀ R : Option Value → Shared → Prop, R none s → wpAny (model prog w) A (tryMethod b (PySem.dunder "add") (.ref x)) R E s) (ans : wpAny (model prog w) A (call (.ref f) [.ref x, b]) (CmpBack Q) E s) : wpAny (model prog w) A (binaryOp .Add b (.ref x)) Q E s := by
  obtain ⟨r, more, looked, line⟩ := ksp_first first
  have rightFills : Looks (model prog w) s.heap (fillsNumberSlot (.ref C) "add") true := fills_K kin looked line plus
  have one := ksp_try kin inst own isF ans
  have differ : (Value.type T == Value.ref C) = false := beq_eq_false_iff_ne.mpr Value.noConfusion
  have noPy : numberSlotInPython (.type T) "add" = pure false := rfl
  have last : ∀ (v? : Option Value) (s' : Shared), (∃ v, v? = some v ∧ Q v s') → ∃ v, v? = some v ∧ Q v s' := fun _ _ z => z
  have way : wpAny (model prog w) A (binaryOp1 "add" b (.ref x)) (fun r s' => ∃ v, r = some v ∧ Q v s') E s := by
    delta binaryOp1
    dsimp only
    refine wpAny_bind (wpAny_typeOf tb (wpAny_bind ((inst.type (M := model prog w)).here (wpAny_bind (wpAny_of_eq fills ?_)))))
    rw [if_neg (Bool.eq_false_iff.mp differ)]
    refine wpAny_bind (rightFills.here ?_)
    cases l with
    | false =>
      simp only [Bool.false_and, Bool.false_eq_true, ↓reduceIte, pure_bind, Bool.not_false, Bool.and_self]
      refine wpAny_bind (wpAny_mono one ?_ fun _ _ z => z)
      rintro _ s' ⟨v, rfl, q⟩
      exact wpAny_bind (wpAny_rule (wpAny_pure ⟨v, rfl, q⟩))
    | true =>
      simp only [Bool.and_self, ↓reduceIte]
      refine wpAny_bind ((looks_subIn kin apart).here ?_)
      simp only [Bool.false_eq_true, ↓reduceIte, pure_bind, Bool.not_false, Bool.and_self, noPy]
      refine wpAny_bind (dec rfl _ (wpAny_bind (wpAny_mono one ?_ fun _ _ z => z)))
      rintro _ s' ⟨v, rfl, q⟩
      exact wpAny_bind (wpAny_rule (wpAny_pure ⟨v, rfl, q⟩))
  delta binaryOp
  refine wpAny_holding (wpAny_bind (wpAny_mono way ?_ fun _ _ z => z))
  rintro _ s' ⟨v, rfl, q⟩
  exact wpAny_pure q
/-- a built-in's method, called on a value of its own kind, declines -/
theorem declines_by {id : String} {name : Str} {B : Builtin} {Q : Value → Shared → Prop} (slot : Slot T name id) (tb : s.TypeIs b T) (entry : entryFor table id = some B) (args : argsOk id ⟨[b, .ref x], []⟩)
    (body : wpAny (model prog w) A.in1 (B ⟨[b, .ref x], []⟩) (fun fin s' => ∃ v, fin = .done (.ret v) ∧ v = .notImplemented ∧ s' = s) E s) (h : Q .notImplemented s) : wpAny (model prog w) A (call (.builtin id) [b, .ref x]) Q E s := by
  apply wpAny_call
  apply codeAny_call_builtin slot.plain entry
  apply slot.check _ _ _ _ _ _ _ _ tb args
  refine wpAny_mono body ?_ fun _ _ z => z
  rintro _ _ ⟨_, rfl, rfl, rfl⟩
  exact h
/-- a number declines an object of the program's own -/
theorem num_add_declines {v : Value} {i : Int} (inst : InstAt s.heap x ox C od) (plain : ox.data = .plain) (self : asInt? v = pure (some i)) :
    wpAny (model prog w) A (Builtin.«int.__add__» ⟨[v, .ref x], []⟩) (fun fin s' => ∃ u, fin = .done (.ret u) ∧ u = .notImplemented ∧ s' = s) E s := by
  have at_ := inst.at_
  have me : Builtin.Int.intOfSelf v = pure i := by (unfold Builtin.Int.intOfSelf; rw [self]; rfl)
  delta Builtin.«int.__add__» Builtin.Int.intBinary
  refine wpAny_bind (wpAny_of_eq (a := (v, [Value.ref x])) (by first | rfl | (simp only [slotArgs]; rfl)) (wpAny_bind (wpAny_of_eq me ?_)))
  refine wpAny_bind (m := asInt? (.ref x)) ?_
  unfold asInt?
  refine wpAny_bind (wpAny_load at_ ?_)
  rw [plain]
  exact wpAny_pure (wpAny_bind (wpAny_rule (wpAny_pure ⟨_, rfl, rfl, rfl⟩)))
end
end PySem.W

namespace DL
open PySem PySem.Spec PyProof.Rows L2
open L2H (RoomH)
/-! ### operations on two values, perhaps with an error -/
abbrev DX2 := D → D → M → DK → DX → Prop
def OpX (X : Cx) (G : CT) (W : WX) (f : Value → Value → Sem Value) (r : DX2) : Prop :=
  ∀ (pins : List (Addr × Obj)) (s : Shared) (σ : L2.St) (H : Hp) (x y : V) (v u : Value) (Q : VK) (F R : Hp) (m : M) (dx dy : D) (Q0 : DK) (x0 : DX), Inv X pins σ H s → RelV x v → RelV y u → Hst G F R H m → Rep G F x dx → Rep G F y dy → r dx dy m Q0 x0 →
    (∀ d m' F' v H', Q0 d m' → Le F F' → Hst G F' R H' m' → Rep G F' v d → Q v H') → (∀ c ys m' F' d H', x0 c ys m' → Le F F' → Hst G F' R H' m' → XD G F' H' c d ys → W (.ref (G c).addr) d σ H') →
    wpAny (model X.prog X.w) X.A (f v u) (EP X pins σ Q) X.xe  s
def xD (r : DX2) (ta tb : DTE) : DTE := fun x ds m Q => ta x ds m fun p m1 => tb x ds m1 fun q m2 => r p q m2 Q (x ds)
section
variable {X : Cx} {G : CT} {W : WX} {hot grd : Bool} {k c : Nat} {f : Addr} {fd : FuncData} {ps : List Str} {sp : DSp} {pos : Pos} {a b e : Expr} {ta tb tc te : DTE}
theorem OpD.x {f : Value → Value → Sem Value} {r : DR2} (h : OpD X G f r) : OpX X G W f (fun p q m Q _ => r p q m Q) := fun pins s σ H x y v u Q F R m dx dy Q0 x0 I rx ry st px py q kq kx =>
  h pins s σ H x y v u Q I rx ry ⟨F, R, m, dx, dy, Q0, st, px, py, q, kq⟩
theorem x_run {f : Value → Value → Sem Value} {r : DX2} (ho : OpX X G W f r) (ha : DE X G W a ta) (hb : DE X G W b tb) {pins : List (Addr × Obj)} {s : Shared} {σ : L2.St} {H : Hp} {Q : VK} (I : Inv X pins σ H s) (h : lE G W (xD r ta tb) σ H Q) :
    wpAny (model X.prog X.w) X.A (eval a X.env) (fun v s₁ => wpAny (model X.prog X.w) X.A (eval b X.env) (fun u s₂ => wpAny (model X.prog X.w) X.A (f v u) (EP X pins σ Q) X.xe s₂) X.xe s₁) X.xe s := by
  obtain ⟨F, R, m, ds, Q0, xx, st, sl, h, xk, kk⟩ := h
  refine binT (R := fun x y H2 => ∃ F2 m2 dx dy, Le F F2 ∧ Hst G F2 R H2 m2 ∧ Rep G F2 x dx ∧ Rep G F2 y dy ∧ r dx dy m2 Q0 (xx ds)) ha hb I ?_ fun v u s2 x y H2 I2 rx ry ⟨F2, m2, dx, dy, l2, s2', px, py, q⟩ => ?_
  · refine ⟨F, R, m, ds, _, xx, st, sl, h, xk, fun p m1 F1 v H1 h1 l1 s1 r1 => ?_⟩
    exact ⟨F1, R, m1, ds, _, xx, s1, sl.le l1, h1, xk.le l1, fun q m2 F2 u H2 h2 l2 s2 r2 => ⟨F2, m2, p, q, l1.trans l2, s2, r1.le l2, r2, h2⟩⟩
  · exact ho pins s2 σ H2 x y v u Q F2 R m2 dx dy Q0 _ I2 rx ry s2' px py q (fun d m' F' v H' q' l' => kk d m' F' v H' q' (l2.trans l')) fun c ys m' F' d H' q' l' s' xd => xk ds c ys m' F' σ d H' q' (l2.trans l') s' (sl.le (l2.trans l')) xd
theorem de_opX {op : Operator} {r : DX2} (ho : OpX X G W (binaryOp op) r) (ha : DE X G W a ta) (hb : DE X G W b tb) : DE X G W (.BinOp a op b pos) (xD r ta tb) :=
  ⟨fun pins s σ H Q I h => wpAny_BinOp (x_run ho ha hb I h)⟩
theorem de_cmpX {op : CmpOp} {r : DX2} (ho : OpX X G W (compareOp op) r) (ha : DE X G W a ta) (hb : DE X G W b tb) (hm : behindInMarks op b = false) : DE X G W (.Compare a [op] [b] pos) (xD r ta tb) :=
  ⟨fun pins s σ H Q I h => wpAny_Compare1 (x_run ho ha hb I h) hm⟩
theorem dt_cmpX {op : CmpOp} {r : DX2} (ho : OpX X G W (compareOp op) r) (ha : DE X G W a ta) (hb : DE X G W b tb) (hm : behindInMarks op b = false) : DT X G W (.Compare a [op] [b] pos) (tB (xD r ta tb)) := by
  constructor
  intro pins s σ H Q I h
  have hw : lE G W (xD r ta tb) σ H (fun v H' => ∃ k, v = .bl k ∧ Q k H') := by
    obtain ⟨F, R, m, ds, Q0, x, st, sl, h, xk, kk⟩ := h
    refine ⟨F, R, m, ds, _, x, st, sl, h, xk, fun d m1 F1 v H1 ⟨b, e, h1⟩ l1 s1 r1 => ?_⟩
    subst e
    cases r1
    exact ⟨b, rfl, kk b m1 F1 H1 h1 l1 s1⟩
  refine wpAny_isTrue_Compare1 (thn (x_run ho ha hb I hw) fun v s1 hv => thn hv fun u s2 hu => thn hu fun c s3 ⟨z, H3, I3, r3, k, e, q3⟩ => ?_) hm
  subst e
  cases r3
  exact wpAny_truthy_bool (⟨H3, I3, q3⟩)
/-! a op1 b op2 c -/
theorem de_chain {op op' : CmpOp} {r r' : DR2} (ho : OpD X G (compareOp op) r) (ho' : OpD X G (compareOp op') r') (ha : DE X G W a ta) (hb : DE X G W b tb) (hc : DE X G W e tc)
    (hm : lastMarks [op, op'] [b, e] = false := by with_unfolding_all rfl) : DE X G W (.Compare a [op, op'] [b, e] pos) (eChain r r' ta tb tc) := (pe_chain ho ho' ha hb hc hm).imp fun σ H Q ⟨F, R, m, ds, Q0, x, st, sl, h, xk, kk⟩ => by
  refine ⟨F, R, m, ds, _, x, st, sl, h, xk, fun p m1 F1 v H1 h1 l1 s1 r1 => ?_⟩
  refine ⟨F1, R, m1, ds, _, x, s1, sl.le l1, h1, xk.le l1, fun q m2 F2 u H2 h2 l2 s2 r2 => ?_⟩
  refine ⟨F2, R, m2, p, q, _, s2, r1.le l2, r2, h2, fun d m3 F3 v3 H3 ⟨b, e, h3⟩ l3 s3 r3 => ?_⟩
  subst e
  cases r3
  refine ⟨b, rfl, ?_⟩
  cases b with
  | false => exact kk _ _ _ _ _ h3 ((l1.trans l2).trans l3) s3 (.bl false)
  | true =>
    refine ⟨F3, R, m3, ds, _, x, s3, sl.le ((l1.trans l2).trans l3), h3, xk.le ((l1.trans l2).trans l3), fun y m4 F4 w4 H4 h4 l4 s4 r4 => ?_⟩
    exact ⟨F4, R, m4, q, y, Q0, s4, r2.le (l3.trans l4), r4, h4, fun d m' F' v' H' hq l st' rp => kk d m' F' v' H' hq ((((l1.trans l2).trans l3).trans l4).trans l) st' rp⟩
/-! own methods behind operators -/
theorem cmpBack {pins : List (Addr × Obj)} {σ : L2.St} {Q : VK} {u : Value} {s : Shared} (h : EP X pins σ Q u s) : PySem.W.CmpBack (EP X pins σ Q) u s := by
  obtain ⟨v, H, I, r, q⟩ := id h
  cases u <;> first | exact h | (exfalso; cases v <;> first | (cases (show _ = _ from r)) | (obtain ⟨_, z⟩ := (show ∃ t, _ = _ from r); cases z))
theorem run_sp {pins : List (Addr × Obj)} {s : Shared} {σ : L2.St} {H : Hp} {vs : List V} {us : List Value} {Q : VK} {F0 R : Hp} {m : M} {xs : List D} {Q0 : DK} {x0 : DX} {A : Around} (F : FnG hot grd X.prog X.w X.K X.mg X.base k f fd ps (spL G sp)) (hr : Rm hot grd k A) (fr : A.frames = X.A.frames) (hb : Binds X.K fd ps []) (tk : Takes X W) (I : Inv X pins σ H s) (r : Vals vs us)
    (st : Hst G F0 R H m) (rp : Reps G F0 vs xs) (q : sp xs m Q0 x0) (kq : ∀ d m' F' v H', Q0 d m' → Le F0 F' → Hst G F' R H' m' → Rep G F' v d → Q v H') (kx : ∀ c ys m' F' d H', x0 c ys m' → Le F0 F' → Hst G F' R H' m' → XD G F' H' c d ys → W (.ref (G c).addr) d σ H') :
    wpAny (model X.prog X.w) A (call (.ref f) us) (EP X pins σ Q) X.xe s := run_G1 F hr fr hb tk I r ⟨F0, R, m, xs, Q0, x0, st, rp, q, kq, kx⟩
theorem refV {a : Addr} : RelV (.ref a) (.ref a) := rfl
theorem _root_.DL.Rm.u0 {A : Around} (r : Rm hot grd k A) : A.units < cLine := by
  have h := r.room.un
  omega
structure Own (K : PySem.W.Frag) (C : Addr) (n : Str) (f : Addr) : Prop where
  (at_ : PySem.W.findIn K (.ref C) n = some (some (.ref f))) (fn : PySem.W.isFn K (.ref f) = true)
/-- both of the one class -/
def rSame (c : Nat) (sp : DSp) : DX2 := fun p q m Q x => (∃ xs, p = .ob c xs) ∧ (∃ ys, q = .ob c ys) ∧ sp [p, q] m Q x
theorem ox_same {op : Operator} (hO : Own X.K (G c).addr (PySem.dunder op.info.2) f) (hc : PySem.W.selfFirst X.K (G c).addr = true) (F : FnG hot grd X.prog X.w X.K X.mg X.base k f fd ps (spL G sp)) (hr : Rm hot grd k X.A) (hb : Binds X.K fd ps []) (tk : Takes X W) : OpX X G W (binaryOp op) (rSame c sp) := by
  rintro pins s σ H x y v u Q F0 R m dx dy Q0 x0 I rx ry st px py ⟨⟨xs, rfl⟩, ⟨ys, rfl⟩, q⟩ kq kx
  have px' := px
  have py' := py
  cases px with
  | @ob a dx _ fs _ hh ee rr =>
    cases py with
    | @ob a' dx' _ fs' _ hh' ee' rr' =>
      cases (show v = (Value.ref a) from rx)
      cases (show u = Value.ref a' from ry)
      obtain ⟨mA, O, _⟩ := ins_get I.hok (st.fz _ _ hh)
      obtain ⟨mB, O', _⟩ := ins_get I.hok (st.fz _ _ hh')
      obtain ⟨od, J, _⟩ := O.look
      obtain ⟨od', J', _⟩ := O'.look
      obtain ⟨m0, hF⟩ := I.fr
      refine PySem.W.binop_K (op := op) hF I.ok.mod.kin J J'.type hc hO.at_ hO.fn (wpAny_mono (run_sp F hr rfl hb tk I (.cons refV (.cons refV .nil)) st (.cons px' (.cons py' .nil)) q kq kx) (fun r s' hq => cmpBack hq) fun _ _ e => e)
/-- a whole number at the right -/
def rInt (c : Nat) (sp : DSp) : DX2 := fun p q m Q x => (∃ xs, p = .ob c xs) ∧ (∃ i, q = .int i) ∧ sp [p, q] m Q x
structure OwnI (K : PySem.W.Frag) (C : Addr) (op : Operator) : Prop where
  r : ∃ rc, PySem.W.findIn K (.ref C) (dunderR op.info.2) = some rc ∧ (rc = none ∨ ∃ g : Addr, rc = some (.ref g))
  i : ∃ fo ro, PySem.W.findIn K (.type "int") (PySem.dunder op.info.2) = some fo ∧ PySem.W.findIn K (.type "int") (dunderR op.info.2) = some ro
  s : PySem.W.subIn K (.type "int") (.ref C) = some false
theorem ox_int {op : Operator} (hO : Own X.K (G c).addr (PySem.dunder op.info.2) f) (hc : PySem.W.selfFirst X.K (G c).addr = true) (hI : OwnI X.K (G c).addr op) (F : FnG hot grd X.prog X.w X.K X.mg X.base k f fd ps (spL G sp)) (hr : Rm hot grd k X.A) (hb : Binds X.K fd ps []) (tk : Takes X W) : OpX X G W (binaryOp op) (rInt c sp) := by
  rintro pins s σ H x y v u Q F0 R m dx dy Q0 x0 I rx ry st px py ⟨⟨xs, rfl⟩, ⟨i, rfl⟩, q⟩ kq kx
  have px' := px
  cases px with
  | @ob a dx _ fs _ hh ee rr =>
    cases py
    cases (show v = (Value.ref a) from rx)
    obtain ⟨t, rfl⟩ := (show ∃ tk, u = Value.int i tk from ry)
    obtain ⟨mA, O, _⟩ := ins_get I.hok (st.fz _ _ hh)
    obtain ⟨od, J, _⟩ := O.look
    obtain ⟨m0, hF⟩ := I.fr
    obtain ⟨rc, h1, h2⟩ := hI.r
    obtain ⟨fo, ro, h3, h4⟩ := hI.i
    refine PySem.W.ksp_binT (T := "int") hF I.ok.mod.kin J rfl hc hO.at_ hO.fn h1 h2 h3 h4 hI.s (wpAny_mono (run_sp F hr rfl hb tk I (.cons refV (.cons ry .nil)) st (.cons px' (.cons (.int i) .nil)) q kq kx) (fun r s' hq => cmpBack hq) fun _ _ e => e)
/-- a whole number at the left of + -/
def rIntL (c : Nat) (sp : DSp) : DX2 := fun p q m Q x => (∃ i, p = .int i) ∧ (∃ ys, q = .ob c ys) ∧ sp [q, p] m Q x
theorem ox_radd {fp : Addr} (hP : PySem.W.findIn X.K (.ref (G c).addr) (PySem.dunder "add") = some (some (.ref fp))) (hO : Own X.K (G c).addr (dunderR "add") f) (hc : PySem.W.selfFirst X.K (G c).addr = true) (hi : PySem.W.subIn X.K (.ref (G c).addr) (.type "int") = some false)
    (F : FnG hot grd X.prog X.w X.K X.mg X.base k f fd ps (spL G sp)) (hr : Rm hot grd k X.A) (hb : Binds X.K fd ps []) (tk : Takes X W) : OpX X G W (binaryOp .Add) (rIntL c sp) := by
  rintro pins s σ H x y v u Q F0 R m dx dy Q0 x0 I rx ry st px py ⟨⟨i, rfl⟩, ⟨ys, rfl⟩, q⟩ kq kx
  have py' := py
  cases py with
  | @ob a dx _ fs _ hh ee rr =>
    cases px
    cases (show u = (Value.ref a) from ry)
    obtain ⟨t, rfl⟩ := (show ∃ t, v = Value.int i t from rx)
    obtain ⟨mA, O, _⟩ := ins_get I.hok (st.fz _ _ hh)
    obtain ⟨od, J, _⟩ := O.look
    have ans := wpAny_mono (run_sp (Q := Q) (pins := pins) F hr rfl hb tk I (.cons refV (.cons rx .nil)) st (.cons py' (.cons (.int i) .nil)) q kq kx) (fun r s' hq => cmpBack hq) fun _ _ e => e
    have self : asInt? (Value.int i t) = pure (some i) := rfl
    apply PySem.W.add_right (T := "int") (l := true) I.kIn J (PySem.typeIs_int s i t) PySem.F.fills_int_add hc hP hO.at_ hO.fn hi (fun _ R hR => ?_) ans
    have body := PySem.W.num_add_declines (prog := X.prog) (w := X.w) (A := X.A.in1) (E := X.xe) J (ox := _) rfl self
    apply wpAny_tryMethod_declines (PySem.typeIs_int s i t) PySem.F.slot_int_add
    exact PySem.W.declines_by PySem.F.slot_int_add (PySem.typeIs_int s i t) PySem.F.entry_int_add (PySem.F.args_int_add_2 _ _) body ⟨rfl, hR⟩
/-! comparisons of two of the class -/
theorem ox_cmp {op : CmpOp} (ho : op = .Lt ∨ op = .LtE ∨ op = .Gt ∨ op = .GtE ∨ op = .Eq) (hO : Own X.K (G c).addr (cmpInfo op).2.1 f) (F : FnG hot grd X.prog X.w X.K X.mg X.base k f fd ps (spL G sp)) (hr : Rm hot grd k X.A) (hb : Binds X.K fd ps []) (tk : Takes X W) : OpX X G W (compareOp op) (rSame c sp) := by
  rintro pins s σ H x y v u Q F0 R m dx dy Q0 x0 I rx ry st px py ⟨⟨xs, rfl⟩, ⟨ys, rfl⟩, q⟩ kq kx
  have px' := px
  have py' := py
  cases px with
  | @ob a dx _ fs _ hh ee rr =>
    cases py with
    | @ob a' dx' _ fs' _ hh' ee' rr' =>
      cases (show v = (Value.ref a) from rx)
      cases (show u = Value.ref a' from ry)
      obtain ⟨mA, O, _⟩ := ins_get I.hok (st.fz _ _ hh)
      obtain ⟨mB, O', _⟩ := ins_get I.hok (st.fz _ _ hh')
      obtain ⟨od, J, _⟩ := O.look
      obtain ⟨od', J', _⟩ := O'.look
      obtain ⟨m0, hF⟩ := I.fr
      have hc : compareOp op = richCompare op := by rcases ho with rfl | rfl | rfl | rfl | rfl <;> rfl
      rw [hc]
      exact PySem.W.cmp_K (op := op) (tb := .ref (G c).addr) hr.u0 hF I.ok.mod.kin J J'.type (by simp [PySem.W.notFirst]) hO.at_ hO.fn (wpAny_mono (run_sp F hr rfl hb tk I (.cons refV (.cons refV .nil)) st (.cons px' (.cons py' .nil)) q kq kx) (fun r s' hq => cmpBack hq) fun _ _ e => e)
/-- the answer turned about -/
def rNe (c : Nat) (sp : DSp) : DX2 := fun p q m Q x => (∃ xs, p = .ob c xs) ∧ (∃ ys, q = .ob c ys) ∧ sp [p, q] m (fun d m' => isB d m' fun b m' => Q (.bl (!b)) m') x
theorem ox_ne (hN : PySem.W.findIn X.K (.ref (G c).addr) "__ne__" = some (some (.builtin "object.__ne__"))) (hO : Own X.K (G c).addr "__eq__" f) (hB : PySem.W.subIn X.K (.ref (G c).addr) (.type "object") = some true)
    (F : FnG hot grd X.prog X.w X.K X.mg X.base k f fd ps (spL G sp)) (hr : Rm hot grd (k + 1) X.A) (hb : Binds X.K fd ps []) (tk : Takes X W) : OpX X G W (compareOp .NotEq) (rNe c sp) := by
  rintro pins s σ H x y v u Q F0 R m dx dy Q0 x0 I rx ry st px py ⟨⟨xs, rfl⟩, ⟨ys, rfl⟩, q⟩ kq kx
  have px' := px
  have py' := py
  cases px with
  | @ob a dx _ fs _ hh ee rr =>
    cases py with
    | @ob a' dx' _ fs' _ hh' ee' rr' =>
      cases (show v = (Value.ref a) from rx)
      cases (show u = Value.ref a' from ry)
      obtain ⟨mA, O, _⟩ := ins_get I.hok (st.fz _ _ hh)
      obtain ⟨mB, O', _⟩ := ins_get I.hok (st.fz _ _ hh')
      obtain ⟨od, J, _⟩ := O.look
      obtain ⟨od', J', _⟩ := O'.look
      refine PySem.W.cmp_left (op := .NotEq) (tb := .ref (G c).addr) hr.u0 I.kIn J J'.type (by simp [PySem.W.notFirst]) (PySem.W.try_ne hr.in1.u0 I.kIn J hN hO.at_ hO.fn hB (wpAny_mono (run_sp (Q := fun w H' => ∃ k, w = .bl k ∧ Q (.bl (!k)) H') F hr.in1 rfl hb tk I (.cons refV (.cons refV .nil)) st (.cons px' (.cons py' .nil)) q ?_ kx) ?_ fun _ _ e => e))
      · rintro d m' F' w H' ⟨b, rfl, h⟩ l s' r
        cases r
        exact ⟨b, rfl, kq _ _ _ _ _ h l s' (.bl _)⟩
      · rintro r s' ⟨w, H', I', rw_, b, rfl, h⟩
        cases rw_
        exact ⟨b, rfl, .bl (!b), H', I', (rfl : RelV (.bl (!b)) (.bool (!b))), h⟩
/-- v in x by the own __contains__ -/
def rIn (c : Nat) (sp : DSp) : DX2 := fun p q m Q x => (∃ ys, q = .ob c ys) ∧ sp [q, p] m (fun d m' => isB d m' fun b m' => Q (.bl b) m') x
theorem ox_in (hO : Own X.K (G c).addr "__contains__" f) (F : FnG hot grd X.prog X.w X.K X.mg X.base k f fd ps (spL G sp)) (hr : Rm hot grd k X.A) (hb : Binds X.K fd ps []) (tk : Takes X W) : OpX X G W (compareOp .In) (rIn c sp) := by
  rintro pins s σ H x y v u Q F0 R m dx dy Q0 x0 I rx ry st px py ⟨⟨ys, rfl⟩, q⟩ kq kx
  have py' := py
  cases py with
  | @ob a' dx' _ fs' _ hh' ee' rr' =>
    cases (show u = Value.ref a' from ry)
    obtain ⟨mB, O', _⟩ := ins_get I.hok (st.fz _ _ hh')
    obtain ⟨od', J', _⟩ := O'.look
    obtain ⟨m0, hF⟩ := I.fr
    refine PySem.W.in_K hF I.ok.mod.kin J' hO.at_ hO.fn (wpAny_mono (run_sp (Q := fun w H' => ∃ k, w = .bl k ∧ Q (.bl k) H') F hr rfl hb tk I (.cons refV (.cons rx .nil)) st (.cons py' (.cons px .nil)) q ?_ kx) ?_ fun _ _ e => e)
    · rintro d m' F' w H' ⟨b, rfl, h⟩ l s' r
      cases r
      exact ⟨b, rfl, kq _ _ _ _ _ h l s' (.bl _)⟩
    · rintro r s' ⟨w, H', I', rw_, b, rfl, h⟩
      cases rw_
      exact wpAny_truthy_bool ⟨.bl b, H', I', (rfl : RelV (.bl b) (.bool b)), h⟩
/-- -x by the own __neg__ -/
def eNegO (c : Nat) (sp : DSp) (ta : DTE) : DTE := fun x ds m Q => ta x ds m fun p m1 => (∃ xs, p = .ob c xs) ∧ sp [p] m1 Q (x ds)
theorem de_negO (hO : Own X.K (G c).addr "__neg__" f) (F : FnG hot grd X.prog X.w X.K X.mg X.base k f fd ps (spL G sp)) (hr : Rm hot grd k X.A) (hb : Binds X.K fd ps []) (tk : Takes X W) (ha : DE X G W a ta) : DE X G W (.UnaryOp .USub a pos) (eNegO c sp ta) := by
  refine ⟨fun pins s σ H Q I ⟨F0, R, m, ds, Q0, xx, st, sl, h, xk, kk⟩ => ?_⟩
  refine UnaryOp_ (thn (ha.run pins s σ H (fun v H1 => ∃ F1 m1 d, Le F0 F1 ∧ Hst G F1 R H1 m1 ∧ Rep G F1 v d ∧ (∃ xs, d = .ob c xs) ∧ sp [d] m1 Q0 (xx ds)) I ⟨F0, R, m, ds, _, xx, st, sl, h, xk, fun d m1 F1 v H1 h1 l1 s1 r1 => ⟨F1, m1, d, l1, s1, r1, h1⟩⟩) fun u s1 ⟨v, H1, I1, rx, F1, m1, d, l1, s1', r1, ⟨xs, e⟩, q⟩ => ?_)
  subst e
  have r1' := r1
  cases r1 with
  | @ob a' dx' _ fs' _ hh' ee' rr' =>
    cases (show u = Value.ref a' from rx)
    obtain ⟨mB, O', _⟩ := ins_get I1.hok (s1'.fz _ _ hh')
    obtain ⟨od', J', _⟩ := O'.look
    obtain ⟨m0, hF⟩ := I1.fr
    refine PySem.W.ksp_neg hF I1.ok.mod.kin J' hO.at_ hO.fn (run_sp F hr rfl hb tk I1 (.cons refV .nil) s1' (.cons r1' .nil) q (fun d m' F' v H' q' l' => kk d m' F' v H' q' (l1.trans l')) fun c ys m' F' d H' q' l' s' xd => xk ds c ys m' F' σ d H' q' (l1.trans l') s' (sl.le (l1.trans l')) xd)
end
end DL

namespace DL
open PySem PySem.Spec PyProof.Rows L2
open L2H (RoomH)
/-! ### texts of data -/
/-- no more than n signs, none too great -/
structure Sh (n : Nat) (x : Str) : Prop where
  len : x.length ≤ n
  cps : ∀ c ∈ x.cps.toList, c < 16 ^ 8
theorem Sh.mono {n k : Nat} {x : Str} (h : Sh n x) (l : n ≤ k) : Sh k x := ⟨Nat.le_trans h.len l, h.cps⟩
theorem Sh.app {n k : Nat} {x y : Str} (h : Sh n x) (g : Sh k y) : Sh (n + k) (x ++ y) := ⟨by rw [strLen_append]; have := h.len; have := g.len; omega, fun c hc => by
  have e : (x ++ y).cps.toList = x.cps.toList ++ y.cps.toList := by
    show (x.cps ++ y.cps).toList = _
    rw [Array.toList_append]
  rw [e] at hc
  rcases List.mem_append.mp hc with q | q
  · exact h.cps c q
  · exact g.cps c q⟩
theorem Sh.lit {n : Nat} {x : Str} (h : (decide (x.length ≤ n) && x.cps.toList.all fun c => decide (c < 16 ^ 8)) = true) : Sh n x := by
  obtain ⟨h1, h2⟩ := Bool.and_eq_true_iff.mp h
  exact ⟨of_decide_eq_true h1, fun c hc => of_decide_eq_true (List.all_eq_true.mp h2 c hc)⟩
theorem Sh.of {n : Nat} {s : String} (h : s.length ≤ n) : Sh n (Str.ofString s) := by
  refine ⟨by rw [PySem.ofString_length]; exact h, fun c hc => ?_⟩
  rw [Str.ofString_eq_toList] at hc
  have e : ((⟨(s.toList.map Char.toNat).toArray⟩ : Str)).cps.toList = s.toList.map Char.toNat := by first | rfl | simp
  rw [e] at hc
  obtain ⟨ch, _, rfl⟩ := List.mem_map.mp hc
  have : ch.val.toNat < 2 ^ 32 := ch.val.toNat_lt
  exact Nat.lt_of_lt_of_le this (by decide)
theorem istr_len {i : Int} (h : Few i) : (toString i).length ≤ 1901 := by
  have e := int_text_length_le (a := i) (k := 1900) (by decide) (PySem.Flt.log2_lt_of (n := i.natAbs) (k := 1900) (by decide) h)
  exact e
theorem Sh.istr {i : Int} (h : Few i) : Sh 1901 (istr i) := Sh.of (istr_len h)
/-- how it is shown -/
def shD (d : D) : Str := (pyD d).shown
mutual
theorem plain_noDict : ∀ d : D, (pyD d).hasDict = false
  | .non | .bl _ | .int _ | .str _ | .ty _ | .ref _ | .dic _ | .ob _ _ | .exc _ _ _ _ | .fn _ _ _ _ _ => by simp only [pyD, PyData.hasDict]
  | .tup xs | .lst xs | .scr xs => by simp only [pyD, PyData.hasDict]; exact plain_noDicts xs
theorem plain_noDicts : ∀ xs : List D, PyData.hasDictAll (pysD xs) = false
  | [] => by simp only [pysD, PyData.hasDictAll]
  | x :: xs => by simp only [pysD, PyData.hasDictAll, plain_noDict x, plain_noDicts xs, Bool.or_self]
end
/-- it can be shown, in n signs, k deep -/
structure RO (k n : Nat) (d : D) : Prop where
  pl : pln d = true
  sh : (pyD d).showable = true
  dp : (pyD d).depth ≤ k
  len : (shD d).length ≤ n
structure ROs (k n : Nat) (ds : List D) : Prop where
  pl : plns ds = true
  sh : PyData.showableAll (pysD ds) = true
  dp : PyData.depthAll (pysD ds) ≤ k
  len : piled (PyData.shownAll (pysD ds)) ≤ n
theorem RO.mono {k k' n n' : Nat} {d : D} (h : RO k n d) (a : k ≤ k') (b : n ≤ n') : RO k' n' d := ⟨h.pl, h.sh, Nat.le_trans h.dp a, Nat.le_trans h.len b⟩
theorem RO.non : RO 0 4 .non := ⟨rfl, rfl, by simp [pyD, PyData.depth], by simp only [shD, pyD, PyData.shown]; decide⟩
theorem RO.bl (b : Bool) : RO 0 5 (.bl b) := ⟨rfl, rfl, by simp [pyD, PyData.depth], by cases b <;> (simp only [shD, pyD, PyData.shown]; decide)⟩
theorem RO.int {i : Int} (h : Few i) : RO 0 1901 (.int i) := ⟨rfl, by simp only [pyD, PyData.showable]; exact decide_eq_true (few_log h), by simp [pyD, PyData.depth], by
  simp only [shD, pyD, PyData.shown]
  exact (Sh.istr h).len⟩
theorem RO.str {n : Nat} {x : Str} (h : Sh n x) : RO 0 (10 * n + 2) (.str x) := ⟨rfl, rfl, by simp [pyD, PyData.depth], by
  simp only [shD, pyD, PyData.shown]
  have := StrLaws.reprText_len x h.cps
  have := h.len
  omega⟩
theorem ROs.nil {k : Nat} : ROs k 0 [] := ⟨rfl, rfl, by simp [pysD, PyData.depthAll], by simp [pysD, PyData.shownAll, piled]⟩
theorem ROs.cons {k n n' : Nat} {d : D} {ds : List D} (h : RO k n d) (r : ROs k n' ds) : ROs k (n + 2 + n') (d :: ds) := ⟨by simp only [plns, h.pl, r.pl, Bool.and_self], by simp only [pysD, PyData.showableAll, h.sh, r.sh, Bool.and_self],
  by simp only [pysD, PyData.depthAll]; have := h.dp; have := r.dp; omega, by
    simp only [pysD, PyData.shownAll, piled_cons]
    have h1 := h.len
    have h2 := r.len
    unfold shD at h1
    omega⟩
theorem ROs.all {k n : Nat} : ∀ {ds : List D}, (∀ d ∈ ds, RO k n d) → ROs k ((n + 2) * ds.length) ds
  | [], _ => ROs.nil
  | d :: ds, h => by
    have h1 := ROs.cons (h d (List.mem_cons_self ..)) (ROs.all fun x hx => h x (List.mem_cons_of_mem _ hx))
    have e : n + 2 + (n + 2) * ds.length = (n + 2) * (d :: ds).length := by simp [Nat.mul_add, Nat.add_comm]
    rw [e] at h1
    exact h1
theorem listText_le (ts : List Str) : (listText ts).length ≤ piled ts + 2 := by
  unfold listText
  rw [strLen_append]
  have e1 : (("]" : String) : Str).length = 1 := rfl
  rw [e1]
  cases ts with
  | nil => show (("[" : String) : Str).length + 1 ≤ _; decide
  | cons t r =>
    show (textFrom 1 (("[" : Str) ++ (if 0 > 0 then ", " else "" : String) ++ t) r).length + 1 ≤ _
    rw [textFrom_length_pos r 1 _ Nat.one_pos, strLen_append, strLen_append, piled_cons]
    have e2 : (("[" : String) : Str).length = 1 := rfl
    have e3 : ((if 0 > 0 then ", " else "" : String) : Str).length = 0 := rfl
    rw [e2, e3]
    omega
theorem tupleText_le (ts : List Str) : (tupleText ts).length ≤ piled ts + 3 := by
  unfold tupleText
  have e1 : ((("(" : String) : Str)).length = 1 := rfl
  simp only [strLen_append]
  have e3 : (((if ts.length == 1 then ",)" else ")" : String) : Str)).length ≤ 2 := by split <;> decide
  rw [e1]
  by_cases h : ts = []
  · subst h
    have e4 : (Str.join ", " []).length = 0 := rfl
    rw [e4]
    have e5 : piled [] = 0 := rfl
    rw [e5]
    omega
  · exact (by have joined := join_length_add ts h; omega)
theorem RO.lst {k n : Nat} {ds : List D} (h : ROs k n ds) : RO (k + 1) (n + 3) (.lst ds) := ⟨h.pl, by simp only [pyD, PyData.showable]; exact h.sh, by simp only [pyD, PyData.depth]; have := h.dp; omega, by
  simp only [shD, pyD, PyData.shown]
  have := listText_le (PyData.shownAll (pysD ds))
  have := h.len
  omega⟩
theorem RO.tup {k n : Nat} {ds : List D} (h : ROs k n ds) : RO (k + 1) (n + 3) (.tup ds) := ⟨h.pl, by simp only [pyD, PyData.showable]; exact h.sh, by simp only [pyD, PyData.depth]; have := h.dp; omega, by
  simp only [shD, pyD, PyData.shown]
  have := tupleText_le (PyData.shownAll (pysD ds))
  have := h.len
  omega⟩
/-- it can be shown -/
def okR (d : D) : Prop := ∃ k n, RO k n d ∧ k ≤ 90 ∧ n ≤ 2 ^ 24
theorem okR.of {k n : Nat} {d : D} (h : RO k n d) (hk : k ≤ 90 := by decide) (hn : n ≤ 2 ^ 24 := by decide) : okR d := ⟨k, n, h, hk, hn⟩
section
variable {X : Cx} {G : CT} {W : WX} {hot grd : Bool} {k c : Nat} {f : Addr} {fd : FuncData} {ps : List Str} {sp : DSp} {pos : Pos} {a b e : Expr} {ta tb tc te : DTE}
def repD : DR := fun xs m Q => match xs with
  | [x] => okR x ∧ Q (.str (shD x)) m
  | _ => False
theorem cd_repr (hr : Rm hot true k X.A) : CallD X G (.builtin "repr") repD := by
  rintro pins s σ H vs us Q I r ⟨F, R, m, xs, Q0, st, rr, h, kk⟩
  match xs, vs, us, r, rr, h with
  | [x], [v], [u], .cons rv .nil, .cons rx .nil, ⟨⟨kd, n, hx, hk, hn⟩, q⟩ =>
    have hsz : (pyD x).shown.length ≤ sizeLine := Nat.le_trans hx.len hn
    have key : ∀ (z : Str) (s' : Shared) (t : Tok), z = shD x → Inv X pins σ H s' → EP X pins σ Q (.str z t) s' := fun z s' t e I' => ⟨.str z, H, I', ⟨t, rfl⟩, by rw [e]; exact kk _ m F _ H q (Le.refl F) st (.str _)⟩
    have hp := dp_of (K := X.K) st.fz rx hx.pl
    have hu := hr.room.un
    have viaRef : ∀ aa, u = .ref aa → wpAny (model X.prog X.w) X.A (call (.builtin "repr") [u]) (EP X pins σ Q) X.xe s := fun aa e => by
      subst e
      obtain ⟨as, hr'⟩ := Dp.reads I (pyD x) v _ hp rv
      exact repr_of_reads' hr' hx.sh (PyData.noDict_hsm (plain_noDict x)) (hr.gd rfl) (by have := hx.dp; omega) (fun _ _ z => z) (fun h' u tk hk' => key _ _ _ rfl (I.kept hk')) hsz
    cases rx with
    | non => cases (show u = Value.none from rv); exact P.repr_of_none (key _ _ _ rfl (I.tok _))
    | bl b => cases (show u = Value.bool b from rv); exact P.repr_of_bool (key _ _ _ (by simp only [shD, pyD, PyData.shown]) (I.tok _))
    | int i =>
      obtain ⟨t, rfl⟩ := (show ∃ t, u = Value.int i t from rv)
      exact P.repr_of_int (by have := hx.sh; simp only [pyD, PyData.showable] at this; exact of_decide_eq_true this) (key _ _ _ (by simp only [shD, pyD, PyData.shown]) (I.tok _))
    | str y =>
      obtain ⟨t, rfl⟩ := (show ∃ t, u = Value.str y t from rv)
      exact P.repr_of_str (key _ _ _ (by simp only [shD, pyD, PyData.shown]) (I.tok _)) (by simp only [pyD, PyData.shown] at hsz; exact hsz)
    | tup h r => exact viaRef _ rv
    | lst h r => exact viaRef _ rv
    | lsz h r => exact viaRef _ rv
    | ty n => exact absurd hx.pl (by simp [pln])
    | ref n => exact absurd hx.pl (by simp [pln])
    | dic h e r => exact absurd hx.pl (by simp [pln])
    | ob h e r => exact absurd hx.pl (by simp [pln])
    | exc h e r => exact absurd hx.pl (by simp [pln])
    | fn h r => exact absurd hx.pl (by simp [pln])
/-! own texts -/
theorem strBack {pins : List (Addr × Obj)} {σ : L2.St} {Q : VK} {u : Value} {s : Shared} (h : EP X pins σ (fun v H' => ∃ y, v = .str y ∧ Q v H') u s) : PySem.W.StrBack (EP X pins σ Q) u s := by
  obtain ⟨v, H, I, r, y, rfl, q⟩ := h
  obtain ⟨t, rfl⟩ := (show ∃ t, u = Value.str y t from r)
  exact ⟨.str y, H, I, ⟨t, rfl⟩, q⟩
def txtO (c : Nat) (sp : DSp) : DR := fun xs m Q => match xs with
  | [x] => (∃ ys, x = .ob c ys) ∧ sp [x] m (fun d m' => ∃ y, d = .str y ∧ Q (.str y) m') (fun _ _ _ => False)
  | _ => False
theorem cd_reprO (hO : Own X.K (G c).addr "__repr__" f) (F : FnG hot grd X.prog X.w X.K X.mg X.base k f fd ps (spL G sp)) (hr : Rm hot grd (k + 1) X.A) (hb : Binds X.K fd ps []) : CallD X G (.builtin "repr") (txtO c sp) := by
  rintro pins s σ H vs us Q I r ⟨F0, R, m, xs, Q0, st, rr, h, kk⟩
  match xs, vs, us, r, rr, h with
  | [x], [v], [u], .cons rv .nil, .cons rx .nil, ⟨⟨ys, e⟩, q⟩ =>
    subst e
    have rx' := rx
    cases rx with
    | @ob a dx _ fs _ hh ee rr =>
      cases (show u = Value.ref a from rv)
      obtain ⟨mA, O, _⟩ := ins_get I.hok (st.fz _ _ hh)
      obtain ⟨od, J, _⟩ := O.look
      obtain ⟨m0, hF⟩ := I.fr
      refine PySem.W.repr_K hr.in1.u0 hF I.ok.mod.kin J hO.at_ hO.fn (wpAny_mono (run_G0 (Q := fun v H' => ∃ y, v = .str y ∧ Q v H') F hr.in1 rfl hb I (.cons refV .nil) (spL_of0 st (.cons rx' .nil) q ?_)) (fun r s' hq => strBack hq) fun _ _ e => e)
      rintro d m' F' w H' ⟨y, rfl, h⟩ l s' r
      cases r
      exact ⟨y, rfl, kk _ _ _ _ _ h l s' (.str _)⟩
theorem cd_strO (hO : Own X.K (G c).addr "__str__" f) (F : FnG hot grd X.prog X.w X.K X.mg X.base k f fd ps (spL G sp)) (hr : Rm hot grd (k + 2) X.A) (hb : Binds X.K fd ps []) : CallD X G (.type "str") (txtO c sp) := by
  rintro pins s σ H vs us Q I r ⟨F0, R, m, xs, Q0, st, rr, h, kk⟩
  match xs, vs, us, r, rr, h with
  | [x], [v], [u], .cons rv .nil, .cons rx .nil, ⟨⟨ys, e⟩, q⟩ =>
    subst e
    have rx' := rx
    cases rx with
    | @ob a dx _ fs _ hh ee rr =>
      cases (show u = Value.ref a from rv)
      obtain ⟨mA, O, _⟩ := ins_get I.hok (st.fz _ _ hh)
      obtain ⟨od, J, _⟩ := O.look
      refine PySem.W.kso_call hr.in1.in1.u0 I.kIn J hO.at_ hO.fn (wpAny_mono (run_G0 (Q := fun v H' => ∃ y, v = .str y ∧ Q v H') F hr.in1.in1 rfl hb I (.cons refV .nil) (spL_of0 st (.cons rx' .nil) q ?_)) (fun r s' hq => strBack hq) fun _ _ e => e)
      rintro d m' F' w H' ⟨y, rfl, h⟩ l s' r
      cases r
      exact ⟨y, rfl, kk _ _ _ _ _ h l s' (.str _)⟩
/-! f-strings -/
def eFmt (te : DTE) : DTE := fun x ds m Q => te x ds m fun d m1 => match d with
  | .str y => y.length ≤ sizeLine ∧ Q (.str y) m1
  | .int i => Few i ∧ Q (.str (istr i)) m1
  | _ => False
theorem de_fmt (he : DE X G W e te) : DE X G W (.FormattedValue e (-1) none pos) (eFmt te) := (pe_fmt he).imp fun σ H Q ⟨F, R, m, ds, Q0, x, st, sl, h, xk, kk⟩ => by
  refine ⟨F, R, m, ds, _, x, st, sl, h, xk, fun d m1 F1 v H1 q l1 s1 r1 => ?_⟩
  cases r1 <;> first | exact False.elim q | skip
  · exact .inr ⟨_, rfl, few_log q.1, kk _ _ _ _ _ q.2 l1 s1 (.str _)⟩
  · exact .inl ⟨_, rfl, q.1, kk _ _ _ _ _ q.2 l1 s1 (.str _)⟩
inductive DJ (X : Cx) (G : CT) (W : WX) : List Expr → List DTE → Prop where
  | nil : DJ X G W [] []
  | cons {e : Expr} {t : DTE} {es : List Expr} {ts : List DTE} (h : DE X G W e t) (r : DJ X G W es ts) : DJ X G W (e :: es) (t :: ts)
theorem DJ.pj : ∀ {es : List Expr} {ts : List DTE}, DJ X G W es ts → PJ X es (ts.map (lE G W))
  | _, _, .nil => .nil
  | _, _, .cons h r => .cons h r.pj
def eJs : List DTE → Str → DTE
  | [], acc => fun _ _ m Q => Q (.str acc) m
  | t :: ts, acc => fun x ds m Q => t x ds m fun d m1 => ∃ y, d = .str y ∧ (acc ++ y).length ≤ sizeLine ∧ eJs ts (acc ++ y) x ds m1 Q
theorem js_imp : ∀ (ts : List DTE) (acc : Str) {σ : L2.St} {H : Hp} {Q : VK}, lE G W (eJs ts acc) σ H Q → tJs (ts.map (lE G W)) acc σ H fun out H1 => Q (.str out) H1
  | [], acc, σ, H, Q, ⟨F, R, m, ds, Q0, x, st, sl, h, xk, kk⟩ => kk _ _ F _ _ h (Le.refl F) st (.str _)
  | t :: ts, acc, σ, H, Q, ⟨F, R, m, ds, Q0, x, st, sl, h, xk, kk⟩ => by
    refine ⟨F, R, m, ds, _, x, st, sl, h, xk, fun d m1 F1 v H1 ⟨y, e, hl, q⟩ l1 s1 r1 => ?_⟩
    subst e
    cases r1
    exact ⟨y, rfl, hl, js_imp ts (acc ++ y) ⟨F1, R, m1, ds, Q0, x, s1, sl.le l1, q, xk.le l1, fun d m' F' v' H' hq l st' rp => kk d m' F' v' H' hq (l1.trans l) st' rp⟩⟩
theorem de_joined {v1 v2 : Expr} {rest : List Expr} {ts : List DTE} (h : DJ X G W (v1 :: v2 :: rest) ts) : DE X G W (.JoinedStr (v1 :: v2 :: rest) pos) (eJs ts Str.empty) := (pe_joined h.pj).imp fun σ H Q hh => js_imp ts Str.empty hh
/-! isinstance -/
structure IsC (K : PySem.W.Frag) (C : Addr) : Prop where
  cl : Cls K C
  (ha : PySem.W.findIn K (.ref C) "__class__" = some (some (.builtin "object.__class__"))) (hn : PySem.W.specialIn K (.builtin "object.__class__") "__get__" = some (some (.builtin "getset_descriptor.__get__"))) (ht : PySem.W.takesIn K (.builtin "object.__class__") = some true) (hm : PySem.W.mroIn K C (.type "object") = some true)
def tyD (G : CT) : D → Option Value
  | .non => some (.type "NoneType")
  | .bl _ => some (.type "bool")
  | .int _ => some (.type "int")
  | .str _ => some (.type "str")
  | .tup _ => some (.type "tuple")
  | .lst _ | .scr _ => some (.type "list")
  | .dic _ => some (.type "dict")
  | .ob c _ => some (.ref (G c).addr)
  | _ => none
def clD : D → Option Value
  | .ty n => some (.type n)
  | .ref a => some (.ref a)
  | _ => none
theorem ty_of {K : PySem.W.Frag} {F H : Hp} {v : V} {x : D} {t : Value} (fz : ∀ a o, F a = some o → H a = some o) (r : Rep G F v x) (h : tyD G x = some t) (hI : ∀ c ys, x = .ob c ys → IsC K (G c).addr) : TyX K H v t := by
  cases r with
  | non => cases h; exact .base .non
  | bl b => cases h; exact .base (.bl b)
  | int i => cases h; exact .base (.int i)
  | str y => cases h; exact .base (.str y)
  | ty n => cases h
  | ref a => cases h
  | tup hh r => cases h; exact .base (.tup (fz _ _ hh))
  | lst hh r => cases h; exact .base (.lst (fz _ _ hh))
  | lsz hh r => cases h; exact .base (.frz (fz _ _ hh))
  | dic hh e r => cases h; exact .fDict (fz _ _ hh)
  | ob hh e r => cases h; have := hI _ _ rfl; exact .base (.ins (fz _ _ hh) this.cl this.ha this.hn this.ht this.hm)
  | exc hh e r => cases h
  | fn hh r => cases h
theorem cl_of {F : Hp} {v : V} {x : D} {u : Value} (r : Rep G F v x) (h : clD x = some u) : ClsV v u := by
  cases r <;> first | (cases h; done) | (cases h; first | exact .ty _ | exact .own _)
def isiD (G : CT) (K : PySem.W.Frag) : DR := fun xs m Q => ∃ x c t u b, xs = [x, c] ∧ tyD G x = some t ∧ clD c = some u ∧ (∀ c ys, x = .ob c ys → IsC K (G c).addr) ∧ PySem.W.kitOne K t u = some b ∧ Q (.bl b) m
theorem cd_isi : CallD X G (.builtin "isinstance") (isiD G X.K) := by
  refine CallR.imp call_isi ?_
  intro vs H Q hh
  obtain ⟨F, R, m, xs, Q0, st, r, h, k⟩ := hh
  obtain ⟨x, c, t, u, b, e, ht, hu, hI, hk, q⟩ := h
  subst e
  cases r with
  | cons r1 r2 =>
    cases r2 with
    | cons r2 r3 =>
      cases r3
      have e1 : Q (.bl b) H := k (.bl b) m F (.bl b) H q (Le.refl F) st (.bl b)
      have e2 := ty_of (K := X.K) st.fz r1 ht hI
      have e3 := cl_of r2 hu
      exact ⟨_, _, t, u, b, rfl, e3, e2, hk, e1⟩
/-! lists that change -/
def eApp (to te : DTE) : DTE := fun x ds m Q => to x ds m fun d m1 => ∃ p xs, d = .ref p ∧ m1 p = some (.lst xs) ∧ te x ds m1 fun y m2 => ∃ zs, m2 p = some (.lst zs) ∧ zs.length < sizeLine ∧ Q .non (mset m2 p (.lst (zs ++ [y])))
theorem de_append {o e : Expr} {to te : DTE} {apos cpos : Pos} (ho : DE X G W o to) (he : DE X G W e te)
    (hbase : attributeBase o "append" X.env (eval o X.env) = eval o X.env := by rfl)
    (hfew : ((backTo cpos (starEach [e] X.env)).all (fun x => !x.1) && (backToKw cpos (keywordEach [] X.env)).all (fun x => x.1.isSome) && decide (([e] : List Expr).length + ([] : List Keyword).length + (if ([] : List Keyword).isEmpty then 0 else 1) < 30)) = true := by rfl) (hline : (apos.endLine == cpos.line) = true := by rfl) (hs : starEach [e] X.env = (false, eval e X.env) :: starEach [] X.env := by rfl) (hplain : (backTo cpos (starEach [] X.env)).any (·.1) = false := by rfl) :
    DE X G W (.Call (.Attribute o "append" apos) [e] [] cpos) (eApp to te) :=
  (pe_bm PySem.F.plainAttrs_list PySem.F.slot_list_append PySem.F.type_list_append mt_append ho (pa_cons he pa_nil hs) hbase hfew hline hs hplain).imp fun σ H Q ⟨F, R, m, ds, Q0, x, st, sl, h, xk, kk⟩ => by
    refine ⟨F, R, m, ds, _, x, st, sl, h, xk, fun d m1 F1 v H1 ⟨p, xs, e, hp, q⟩ l1 s1 r1 => ?_⟩
    subst e
    cases r1
    obtain ⟨_, vs, hv, _⟩ := s1.mt _ _ hp
    refine ⟨.inl ⟨rfl, _, .inl (.inl hv)⟩, F1, R, m1, ds, _, x, s1, sl.le l1, q, xk.le l1, fun y m2 F2 w H2 ⟨zs, hz, hl, q2⟩ l2 s2 r2 => ?_⟩
    obtain ⟨_, ws, hw, rw_⟩ := s2.mt _ _ hz
    refine ⟨p, ws, w, rfl, rfl, hw, by rw [rw_.length]; exact hl, ?_⟩
    exact kk _ _ F2 _ _ q2 (l1.trans l2) (s2.put hz ⟨_, upd_same, rw_.append (.cons r2 .nil)⟩) .non
end
end DL

namespace DL
open PySem PySem.Spec PyProof.Rows L2
open L2H (RoomH)
section
variable {P : Program} {w : World} {mg : Str → Option Value} {base : Heap} {K : PySem.W.Frag}
/-- def f(*v): over data -/
theorem fn_starG {x qual : Str} {st : Stmt} {f : Addr} {fd : FuncData} {N : List Str} {pv : Str} {k : Nat} {G : CT} {sp : DSp} (F : Fun K x qual st f fd) (S : FnScope N [pv] (defScope st))
    (hb : ∀ rest : List Value, bindArgs fd ⟨rest, []⟩ = (newTuple rest >>= fun t => pure [(pv, t)]))
    (hbody : ∀ (cdv : Value) (A : Around) (outer : List Env) (s : Shared) (H : Hp) (E : XK) (xs : List D) (m : M) (Q : DK) (x : DX), Room k (A.deeper (envOfC qual (defScope st) s.heap.objs.size f cdv)) → sp [.tup xs] m Q x →
      ∃ t, DSs (cxOf (L2.CX P w) P w K mg base N qual (defScope st) f cdv A outer s H E) G (fun cls d _ H' => E cls d H') (defBody st) t ∧ t { nx := fun _ m' => Q .non m', rt := Q, ex := fun _ => x } (startD N [.tup xs]) m) :
    FnR P w K mg base (L2.CX P w) (k + 1) f (fun vs H Q E => vs.length ≤ sizeLine ∧ spL G (fun xs m Q x => sp [.tup xs] m Q x) vs H Q E) := by
  obtain ⟨oc, od, kV, doc, pm, an, cdv, ct, osl, hfd, lk, hcd⟩ := F.ex
  subst hfd
  have base := StX.fn_star (CX := L2.CX P w) (ps := []) (pv := pv) (mg := mg) (base := base) (w := w) (P := P) lk hcd S StX.cxUp (fun us rest h => by
      have e : us = [] := List.eq_nil_of_length_eq_zero h
      subst e
      exact hb rest) (k := k) (sp := fun vs H Q E => ∃ p, vs = [.ref p] ∧ ∃ F R m xs Q0 x ws, Hst G F R H m ∧ F p = some (.tup ws) ∧ Reps G F ws xs ∧ sp [.tup xs] m Q0 x ∧ (∀ d m' F' v H', Q0 d m' → Le F F' → Hst G F' R H' m' → Rep G F' v d → Q v H') ∧
        (∀ c ys m' F' d H', x c ys m' → Le F F' → Hst G F' R H' m' → XD G F' H' c d ys → E (.ref (G c).addr) d H'))
    (fun A outer s H vs Q E hr ⟨p, ev, F0, R, m, xs, Q0, x, ws, st0, hp, rw0, h0, kq, kx⟩ => by
      subst ev
      obtain ⟨t, ht, hq⟩ := hbody cdv A outer s H E xs m Q0 x hr h0
      refine ⟨_, ht, F0, R, m, startD N [.tup xs], _, st0, sl_start N (.cons (.tup hp rw0) .nil), hq, fun ds m' F' σ' H' q l s' _ => kq .non m' F' .non H' q l s' .non, fun d m' F' v H' q l s' r => kq d m' F' v H' q l s' r, fun _ _ _ _ _ q => q.elim, fun _ _ _ _ _ q => q.elim,
        fun ds c ys m' F' σ' d H' q l s' _ xd => kx c ys m' F' d H' q l s' xd⟩)
  refine base.imp fun vs H Q E ⟨hz, F0, R, m, xs, Q0, x, st0, r0, h0, kq, kx⟩ => ⟨[], vs, rfl, rfl, hz, fun p hp => ⟨p, rfl, ?_⟩⟩
  have hf := st0.fnone hp
  have l1 := le_upd (o := HO.tup vs) hf
  exact ⟨_, R, m, xs, Q0, x, vs, st0.new hp, upd_same, r0.le l1, h0, fun d m' F' v H' q l => kq d m' F' v H' q (l1.trans l), fun c ys m' F' d H' q l => kx c ys m' F' d H' q (l1.trans l)⟩
end
/-! ### C.m(..), m a static method -/
structure SMet (K : PySem.W.Frag) (C : Addr) (mc : Value) (m : Str) (p g : Addr) : Prop where
  (rd : PySem.W.readsIn K C mc = true) (ga : PySem.W.specialIn K (.ref C) "__getattribute__" = some (some (.builtin "type.__getattribute__")))
  at_ : PySem.W.findCls K (.ref C) mc m = some (.get (.builtin "staticmethod.__get__") (.ref p) .none (.ref C))
  rc : ∃ rest, PySem.W.recIn K p "staticmethod" = some (.ref g :: rest)
  kp : PySem.W.keepIn K (.ref g) = true
section
variable {X : Cx} {G : CT} {W : WX} {hot grd : Bool} {k c : Nat} {f g C pr : Addr} {mc : Value} {fd : FuncData} {ps : List Str} {sp : DSp} {n x : Str} {p pos apos : Pos} {a b e o : Expr} {es : List Expr} {ta : DTA} {te : DTE}
theorem takesC {A : Around} {outer : List Env} {s : Shared} {H : Hp} {E : XK} {P : Program} {w : World} {K : PySem.W.Frag} {mg : Str → Option Value} {base : Heap} {N : List Str} {qual : Str} {scope : Scope} {cd : Value} :
    Takes (cxOf (L2.CX P w) P w K mg base N qual scope f cd A outer s H E) (fun cls d _ H => E cls d H) := takes_of rfl rfl rfl rfl
theorem takesG {hot : Bool} {A : Around} {outer : List Env} {s : Shared} {H : Hp} {E : XK} {P : Program} {w : World} {K : PySem.W.Frag} {mg : Str → Option Value} {base : Heap} {N : List Str} {qual : Str} {scope : Scope} {cd : Value} :
    Takes (cxG hot P w K mg base N qual scope f cd A outer s H E) (fun cls d _ H => E cls d H) := takes_of rfl rfl rfl rfl
def eStat (sp : DSp) (ta : DTA) : DTE := fun x ds m Q => ta x ds m fun xs m1 => xs.length ≤ sizeLine ∧ sp xs m1 Q (x ds)
theorem de_static {pl : Sem Bool} (S : SMet X.K C mc n pr g) (F : FnR X.prog X.w X.K X.mg X.base (L2.CX X.prog X.w) k g (fun vs H Q E => vs.length ≤ sizeLine ∧ spL G sp vs H Q E)) (hr : Room k X.A) (hg : Gl X x) (hm : X.mg x = some (.ref C)) (tk : Takes X W) (ha : DA X G W (e :: es) ta)
    (hdb : (x == ("__debug__" : Str)) = false := by decide) (hst : starEach (e :: es) X.env = (false, eval e X.env) :: starEach es X.env := by rfl) (hpl : (backTo pos (starEach es X.env)).any (·.1) = false := by rfl)
    (ht : eval (.Call (.Attribute (.Name x p) n apos) (e :: es) [] pos) X.env = (do
      let ov ← eval (.Name x p) X.env
      standAt apos.atName
      let (f, first) ← holding [ov] (getMethod ov n pl)
      callWith pos f first (backTo pos (starEach (e :: es) X.env)) (backToKw pos (keywordEach [] X.env))) := by rfl) :
    DE X G W (.Call (.Attribute (.Name x p) n apos) (e :: es) [] pos) (eStat sp ta) := by
  refine ⟨fun pins s σ H Q I ⟨F0, R, m, ds, Q0, xx, st, sl, h, xk, kk⟩ => ?_⟩
  refine PySem.W.methodCall_KW (pl := pl) (ld_glob I hg hm ?_ hdb) ht
  obtain ⟨rest, hrc⟩ := S.rc
  refine PySem.W.method_cls I.kIn S.ga (PySem.W.cls_bind I.kIn S.rd S.at_ (wpAny_call (PySem.W.sm_get (s := { s with toks := s.toks + 1 }) I.kIn hrc (PySem.W.handed_on (v := .ref g) rfl ?_))))
  have I1 := I.tok (s.toks + 1)
  refine PySem.W.callWith_K (h₀ := X.base) I.ok.mod.kin S.kp (thn (ha.run pos pins _ σ H (fun vs H1 => vs.length ≤ sizeLine ∧ spL G sp vs H1 Q (fun cls d H' => W cls d σ H')) I1 ⟨F0, R, m, ds, _, xx, st, sl, h, xk, fun xs m1 F1 vs H1 q l s1 r1 => ⟨by rw [r1.length]; exact q.1, spL_of s1 (sl.le l) r1 q.2 (xk.le l) fun d m' F' v H' q' l' => kk d m' F' v H' q' (l.trans l')⟩⟩) fun us s1 ⟨vs, H1, I2, r, q⟩ => ⟨I2.kIn, ?_⟩) hst hpl
  refine wpAny_call (codeAny_mono (F X.A X.stack s1 H1 us vs Q _ hr I2.env0 r q) fun r s' hq => ?_)
  match r, hq with
  | .error e, hq => exact passAt tk σ pins H1 s1 e s' I2 hq
  | .ok (.ret u), hq => exact I2.after hq
  | .ok .next, hq => exact hq.elim
  | .ok .brk, hq => exact hq.elim
  | .ok .cont, hq => exact hq.elim
/-! ### the greatest, the least -/
def mxL (ns : List Int) : Int := ns.tail.foldl max (ns.headD 0)
def mnL (ns : List Int) : Int := ns.tail.foldl min (ns.headD 0)
theorem foldl_max_ge : ∀ (ns : List Int) (a : Int), a ≤ ns.foldl max a ∧ (∀ y ∈ ns, y ≤ ns.foldl max a) ∧ (ns.foldl max a = a ∨ ns.foldl max a ∈ ns)
  | [], a => ⟨Int.le_refl _, (fun _ h => nomatch h), .inl rfl⟩
  | n :: ns, a => by
    obtain ⟨h1, h2, h3⟩ := foldl_max_ge ns (max a n)
    refine ⟨Int.le_trans (Int.le_max_left ..) h1, fun y hy => ?_, ?_⟩
    · exact (List.mem_cons.mp hy).elim (fun z => Int.le_trans (z ▸ Int.le_max_right a n) h1) (h2 y)
    · rw [List.foldl_cons]
      rcases h3 with h3 | h3
      · by_cases q : a ≤ n
        · right; rw [h3, Int.max_eq_right q]; exact List.mem_cons_self ..
        · left; rw [h3, Int.max_eq_left (by omega)]
      · exact .inr (List.mem_cons_of_mem _ h3)
theorem foldl_min_le : ∀ (ns : List Int) (a : Int), ns.foldl min a ≤ a ∧ (∀ y ∈ ns, ns.foldl min a ≤ y) ∧ (ns.foldl min a = a ∨ ns.foldl min a ∈ ns)
  | [], a => ⟨Int.le_refl _, (fun _ h => nomatch h), .inl rfl⟩
  | n :: ns, a => by
    obtain ⟨h1, h2, h3⟩ := foldl_min_le ns (min a n)
    refine ⟨Int.le_trans h1 (Int.min_le_left ..), fun y hy => ?_, ?_⟩
    · exact (List.mem_cons.mp hy).elim (fun z => Int.le_trans h1 (z ▸ Int.min_le_right a n)) (h2 y)
    · rw [List.foldl_cons]
      rcases h3 with h3 | h3
      · by_cases q : a ≤ n
        · left; rw [h3, Int.min_eq_left q]
        · right; rw [h3, Int.min_eq_right (by omega)]; exact List.mem_cons_self ..
      · exact .inr (List.mem_cons_of_mem _ h3)
theorem mxL_mem {ns : List Int} (h : ns ≠ []) : mxL ns ∈ ns ∧ ∀ y ∈ ns, y ≤ mxL ns := by
  match ns, h with
  | n :: ns, _ =>
    obtain ⟨h1, h2, h3⟩ := foldl_max_ge ns n
    refine ⟨?_, fun y hy => ?_⟩
    · rcases h3 with h3 | h3
      · show ns.foldl max n ∈ _; rw [h3]; exact List.mem_cons_self ..
      · exact List.mem_cons_of_mem _ h3
    · exact (List.mem_cons.mp hy).elim (fun z => z ▸ h1) (h2 y)
theorem mnL_mem {ns : List Int} (h : ns ≠ []) : mnL ns ∈ ns ∧ ∀ y ∈ ns, mnL ns ≤ y := by
  match ns, h with
  | n :: ns, _ =>
    obtain ⟨h1, h2, h3⟩ := foldl_min_le ns n
    refine ⟨?_, fun y hy => ?_⟩
    · rcases h3 with h3 | h3
      · show ns.foldl min n ∈ _; rw [h3]; exact List.mem_cons_self ..
      · exact List.mem_cons_of_mem _ h3
    · exact (List.mem_cons.mp hy).elim (fun z => z ▸ h1) (h2 y)
def mxD : DR := fun xs m Q => (∃ i j : Int, xs = [.int i, .int j] ∧ Q (.int (max i j)) m) ∨ ∃ (ns : List Int), (xs = [.lst (ns.map D.int)] ∨ xs = [.tup (ns.map D.int)]) ∧ ns ≠ [] ∧ Q (.int (mxL ns)) m
def mnD : DR := fun xs m Q => (∃ i j : Int, xs = [.int i, .int j] ∧ Q (.int (min i j)) m) ∨ ∃ (ns : List Int), (xs = [.lst (ns.map D.int)] ∨ xs = [.tup (ns.map D.int)]) ∧ ns ≠ [] ∧ Q (.int (mnL ns)) m
def rMaxT (K : PySem.W.Frag) : List V → Hp → VK → Prop := fun vs H Q => ∃ a ns, vs = [.ref a] ∧ SqT K H a (ns.map V.int) ∧ ns ≠ [] ∧ Q (.int (mxL ns)) H
def rMinT (K : PySem.W.Frag) : List V → Hp → VK → Prop := fun vs H Q => ∃ a ns, vs = [.ref a] ∧ SqT K H a (ns.map V.int) ∧ ns ≠ [] ∧ Q (.int (mnL ns)) H
theorem readsI {h : Heap} : ∀ {ns : List Int} {its : List Value}, Vals (ns.map V.int) its → ReadsAll h its (ns.map PyData.int) []
  | [], _, .nil => .nil
  | n :: ns, _, .cons r rr => by
    obtain ⟨t, e⟩ := (show ∃ t, _ = Value.int n t from r)
    subst e
    exact .cons (as := []) (bs := []) (.int n t) (readsI rr)
theorem depth_ints : ∀ l : List Int, PyData.depthAll (l.map PyData.int) = 0 := fun l => by
  induction l with
  | nil => simp only [List.map_nil, PyData.depthAll]
  | cons a l ih => simp only [List.map_cons, PyData.depthAll, PyData.depth, ih, Nat.max_self]
theorem call_maxT (hc : X.calm = true) (hu : X.A.units + 8 < cLine) : CallR X (.builtin "max") (rMaxT X.K) := by
  rintro pins s σ H vs us Q I r ⟨a, ns, rfl, hs, hne, q⟩
  obtain ⟨its, rv, hl, _⟩ := I.tuple hs
  rw [Vals.ref1 r]
  cases ns with
  | nil => exact absurd rfl hne
  | cons n ns =>
    have e1 : ReadsAll s.heap its.toArray.toList (PyData.int n :: ns.map PyData.int) [] := readsI (ns := n :: ns) rv
    have e2 : PySem.W.AlikeAll (PyData.int n :: ns.map PyData.int) := PySem.W.alikeAll_datum (α := Int) (n :: ns)
    have e3 : X.A.units + 1 + PyData.depthAll (PyData.int n :: ns.map PyData.int) < cLine := by
      have e5 := depth_ints (n :: ns)
      rw [List.map_cons] at e5
      rw [e5]
      omega
    have e4 : s.heap.IsTuple a its.toArray := hl
    refine @PySem.W.max_tuple_data X.prog X.w X.A X.xe s a its.toArray (.int n) (ns.map PyData.int) [] _ (I.ok.hd hc) e4 e1 e2 e3 ?_
    intro i v h' tk bs hi rd hk
    rw [PySem.W.maxD_ints] at rd
    cases rd
    exact ⟨.int _, H, I.kept hk, ⟨_, rfl⟩, q⟩
theorem call_minT (hc : X.calm = true) (hu : X.A.units + 8 < cLine) : CallR X (.builtin "min") (rMinT X.K) := by
  rintro pins s σ H vs us Q I r ⟨a, ns, rfl, hs, hne, q⟩
  obtain ⟨its, rv, hl, _⟩ := I.tuple hs
  rw [Vals.ref1 r]
  cases ns with
  | nil => exact absurd rfl hne
  | cons n ns =>
    have e1 : ReadsAll s.heap its.toArray.toList (PyData.int n :: ns.map PyData.int) [] := readsI (ns := n :: ns) rv
    have e2 : PySem.W.AlikeAll (PyData.int n :: ns.map PyData.int) := PySem.W.alikeAll_datum (α := Int) (n :: ns)
    have e3 : X.A.units + 1 + PyData.depthAll (PyData.int n :: ns.map PyData.int) < cLine := by
      have e5 := depth_ints (n :: ns)
      rw [List.map_cons] at e5
      rw [e5]
      omega
    have e4 : s.heap.IsTuple a its.toArray := hl
    refine @PySem.W.min_tuple_data X.prog X.w X.A X.xe s a its.toArray (.int n) (ns.map PyData.int) [] _ (I.ok.hd hc) e4 e1 e2 e3 ?_
    intro i v h' tk bs hi rd hk
    rw [PySem.W.minD_ints] at rd
    cases rd
    exact ⟨.int _, H, I.kept hk, ⟨_, rfl⟩, q⟩
theorem cd_mx (hc : X.calm = true) (hu : X.A.units + 8 < cLine) : CallD X G (.builtin "max") mxD := CallR.imp (((call_max2 hc).or (cr_max hc)).or (call_maxT hc hu)) fun vs H Q hh => by
  obtain ⟨F, R, m, xs, Q0, st, r, h, k⟩ := hh
  rcases h with ⟨i, j, e, q⟩ | ⟨ns, e, hne, q⟩
  · subst e
    rcases r with _ | ⟨r, rr⟩
    rcases rr with _ | ⟨r', rr⟩
    cases rr
    · cases r; cases r'
      refine .inl (.inl ⟨i, j, rfl, ?_⟩)
      have e : max i j = if j > i then j else i := by split <;> omega
      rw [e] at q
      exact k _ m F _ H q (Le.refl F) st (.int _)
  · rcases e with e | e
    · subst e
      rcases r with _ | ⟨r, rr⟩
      cases rr
      · cases r with
        | @lst a ws _ ha ra =>
          have e2 := reps_ints ra
          subst e2
          refine .inl (.inr ⟨a, ns, rfl, .inl (.inl (st.fz _ _ ha)), (by cases ns; exact absurd rfl hne; exact Nat.succ_pos _), fun kk h1 h2 => ?_⟩)
          obtain ⟨h3, h4⟩ := mxL_mem hne
          have e3 : kk = mxL ns := Int.le_antisymm (h4 _ h1) (h2 _ h3)
          subst e3
          exact k _ m F _ H q (Le.refl F) st (.int _)
    · subst e
      rcases r with _ | ⟨r, rr⟩
      cases rr
      · cases r with
        | @tup a ws _ ha ra =>
          have e2 := reps_ints ra
          subst e2
          exact .inr ⟨a, ns, rfl, .inl (.inl (st.fz _ _ ha)), hne, k _ m F _ H q (Le.refl F) st (.int _)⟩
theorem cd_mn (hc : X.calm = true) (hu : X.A.units + 8 < cLine) : CallD X G (.builtin "min") mnD := CallR.imp (((call_min2 hc).or (cr_min hc)).or (call_minT hc hu)) fun vs H Q hh => by
  obtain ⟨F, R, m, xs, Q0, st, r, h, k⟩ := hh
  rcases h with ⟨i, j, e, q⟩ | ⟨ns, e, hne, q⟩
  · subst e
    rcases r with _ | ⟨r, rr⟩
    rcases rr with _ | ⟨r', rr⟩
    cases rr
    · cases r; cases r'
      refine .inl (.inl ⟨i, j, rfl, ?_⟩)
      have e : min i j = if j < i then j else i := by split <;> omega
      rw [e] at q
      exact k _ m F _ H q (Le.refl F) st (.int _)
  · rcases e with e | e
    · subst e
      rcases r with _ | ⟨r, rr⟩
      cases rr
      · cases r with
        | @lst a ws _ ha ra =>
          have e2 := reps_ints ra
          subst e2
          refine .inl (.inr ⟨a, ns, rfl, .inl (.inl (st.fz _ _ ha)), (by cases ns; exact absurd rfl hne; exact Nat.succ_pos _), fun kk h1 h2 => ?_⟩)
          obtain ⟨h3, h4⟩ := mnL_mem hne
          have e3 : kk = mnL ns := Int.le_antisymm (h2 _ h3) (h4 _ h1)
          subst e3
          exact k _ m F _ H q (Le.refl F) st (.int _)
    · subst e
      rcases r with _ | ⟨r, rr⟩
      cases rr
      · cases r with
        | @tup a ws _ ha ra =>
          have e2 := reps_ints ra
          subst e2
          exact .inr ⟨a, ns, rfl, .inl (.inl (st.fz _ _ ha)), hne, k _ m F _ H q (Le.refl F) st (.int _)⟩
end
end DL

namespace DL
open PySem PySem.Spec PyProof.Rows L2
open L2H (RoomH)
section
variable {X : Cx} {G : CT} {W : WX} {hot grd : Bool} {k c : Nat} {f g C pr : Addr} {fd : FuncData} {ps : List Str} {n x : Str} {p pos apos : Pos} {a b e o : Expr} {es : List Expr} {ta : DTA} {te : DTE}
theorem Rm.u8 {A : Around} (r : Rm hot grd k A) : A.units + 8 < cLine := by have h := r.room.un; omega
theorem Rm.u64 {A : Around} (r : Rm hot grd k A) : A.units + 64 < cLine := by have h := r.room.un; omega
theorem passesG {hot : Bool} {A : Around} {outer : List Env} {s : Shared} {H : Hp} {E : XK} {P : Program} {w : World} {K : PySem.W.Frag} {mg : Str → Option Value} {base : Heap} {N : List Str} {qual : Str} {scope : Scope} {cd : Value} :
    PassesOwn (model P w) (cxG hot P w K mg base N qual scope f cd A outer s H E).A (cxG hot P w K mg base N qual scope f cd A outer s H E).env (cxG hot P w K mg base N qual scope f cd A outer s H E).xe :=
  L2.passes_of (X := cxG hot P w K mg base N qual scope f cd A outer s H E) (K := fun e s'' => L2.CX P w outer H s E e s'') rfl
theorem passesC {A : Around} {outer : List Env} {s : Shared} {H : Hp} {E : XK} {P : Program} {w : World} {K : PySem.W.Frag} {mg : Str → Option Value} {base : Heap} {N : List Str} {qual : Str} {scope : Scope} {cd : Value} :
    PassesOwn (model P w) (cxOf (L2.CX P w) P w K mg base N qual scope f cd A outer s H E).A (cxOf (L2.CX P w) P w K mg base N qual scope f cd A outer s H E).env (cxOf (L2.CX P w) P w K mg base N qual scope f cd A outer s H E).xe :=
  L2.passes_of (X := cxOf (L2.CX P w) P w K mg base N qual scope f cd A outer s H E) (K := fun e s'' => L2.CX P w outer H s E e s'') rfl
/-- {} that stays as it is -/
def eDic0 : DTE := fun _ _ m Q => Q (.dic []) m
/-- what an expression has made is from now on as it is -/
theorem _root_.L2.PE.locks {e : Expr} {t : TE} (h : PE X e t) : PE X e (fun σ H Q => t σ H fun v H1 => ∃ a u, v = .ref a ∧ H1 a = some u ∧ Mut (some u) ∧ ∀ od, Q v (upd H1 a (.frz od u))) := by
  constructor
  intro pins s σ H Q I w
  refine wpAny_mono (h.run pins s σ H _ I w) ?_ fun _ _ z => z
  rintro u s1 ⟨_, H1, I1, r, a, o, rfl, at_, mu, q⟩
  obtain ⟨od, I2⟩ := I1.lock at_ mu
  exact ⟨_, _, I2, r, q od⟩
theorem de_dic0 : DE X G W (.Dict [] [] pos) eDic0 := pe_dnewK.locks.imp fun σ H Q ⟨F, R, m, ds, Q0, x, st, sl, h, xk, kk⟩ => fun p hp =>
  ⟨p, .dK [], rfl, upd_same, True.intro, fun od => (upd_upd (H := H) (a := p) (o := HO.dK []) (u := .frz od (.dK []))) ▸ kk _ _ _ _ _ h (le_upd (st.fnone hp)) (st.new hp) (.dic (o := od) (kvs := []) upd_same rfl .nil)⟩
/-- a list that has changed is from now on as it is -/
def sFrz (i : Nat) (t : DTS) : DTS := fun E ds m => ∃ p xs, ds[i]? = some (some (.ref p)) ∧ m p = some (.lst xs) ∧ t E (ds.set i (some (.lst xs))) (mdel m p)
theorem dss_freeze (i : Nat) {st : List Stmt} {t : DTS} (h : DSs X G W st t) : DSs X G W st (sFrz i t) := h.imp fun D σ H ⟨F, R, m, ds, E, st, sl, ⟨p, xs, hi, hm, h⟩, ok⟩ => by
  obtain ⟨_, vs, hv, rv⟩ := st.mt _ _ hm
  obtain ⟨s2, l2⟩ := st.freeze hm hv
  refine ⟨_, R, _, ds.set i (some (.lst xs)), E, s2, ?_, h, ok.le l2⟩
  obtain ⟨u, hu, ru⟩ := sl.at_ _ _ hi
  cases ru
  have e : σ.set i (some (.ref p)) = σ := by
    apply List.ext_getElem?
    intro j
    by_cases q : i = j
    · subst q
      rw [hu]
      have hl : i < σ.length := by
        rcases Nat.lt_or_ge i σ.length with z | z
        · exact z
        · rw [List.getElem?_eq_none z] at hu; cases hu
      rw [List.getElem?_set_self hl]
    · rw [List.getElem?_set_ne q]
  have := (sl.le l2).set i (v := .ref p) (d := .lst xs) (.lst upd_same (rv.le l2))
  rw [e] at this
  exact this
theorem FnG.at_' {P : Program} {w : World} {K : PySem.W.Frag} {mg : Str → Option Value} {base : Heap} {k : Nat} {f : Addr} {fd : FuncData} {ps : List Str} {sp : Sp} (F : FnG true false P w K mg base k f fd ps sp) : FnG hot grd P w K mg base k f fd ps sp := F.at_
theorem dw_pt {e : Expr} {t : DTT} (h : DW X G W e t) : DT X G W e t := L2.PW.pt h
theorem startD_1 {N : List Str} {x : D} : startD N [x] = some x :: List.replicate (N.length - 1) none := rfl
end
/-! ### the law's end -/
theorem callerA_gd : callerA.guards = some [] := by first | rfl | simp [callerA]
/-- an error that nobody lets out -/
theorem cx_no {P : Program} {w : World} {outer : List Env} {H : Hp} {s : Shared} {e : Value} {s' : Shared} (h : L2.CX P w outer H s (fun _ _ _ => False) e s') : False := by
  obtain ⟨a, B, H', cls, d, ea, fl, hok, ub, na, os, ag, he⟩ := h
  exact he
/-- no list stands in the written part -/
def noLists (K : PySem.W.Frag) : Bool := K.all fun p => !(p.2.cls == Value.type "list")
theorem noLists_at {K : PySem.W.Frag} (h : noLists K = true) {a : Addr} {o : Obj} (e : K.lookup a = some o) : o.cls ≠ .type "list" := by
  have m : (a, o) ∈ K := by
    clear h
    revert e
    show K.lookup a = some o → _
    induction K with
    | nil => intro e; cases e
    | cons p r ih =>
      obtain ⟨b, u⟩ := p
      intro e
      have e' : (match a == b with | true => some u | false => List.lookup a r) = some o := e
      cases q : a == b with
      | true =>
        rw [q] at e'
        cases e'
        cases beq_iff_eq.mp q
        exact List.mem_cons_self ..
      | false =>
        rw [q] at e'
        exact List.mem_cons_of_mem _ (ih e')
  have := List.all_eq_true.mp h _ m
  intro z
  dsimp only at this
  rw [z] at this
  simp at this
theorem callG {P : Program} {w : World} {K : PySem.W.Frag} {mg mb : Str → Option Value} {k : Nat} {fa a : Addr} {fd : FuncData} {x : Str} {G : CT} {sp : DSp} {s₁ : Shared} {vs : List Value} {ns : List Int} (KX : K.In s₁.heap) (hns : s₁.heap.Ns mainGlobals mg) (hb : s₁.heap.Ns builtinsNs mb) (hbb : ∀ x : Str, x ≠ "__name__" → mb x = bootBuiltins x) (hlim : s₁.heap.NoLimit) (hg : s₁.gens = #[])
    (ha : s₁.heap.get? a = some { cls := .type "list", data := .seq vs.toArray }) (hi : IntsAre vs ns) (hl : ns.length ≤ sizeLine) (hr : RoomH k callerA) (hK : noLists K = true)
    (Fp : ∀ base : Heap, K.In base → base.Ns mainGlobals mg → FnG false true P w K mg base k fa fd [x] (spL G sp)) (hbind : ∀ (s : Shared) (u : Value), BindsTo s fd ⟨[u], []⟩ [(x, u)])
    (hsp : ∀ m, sp [.scr (ns.map D.int)] m (fun d _ => d = .bl true) fun _ _ _ => False) : codeAny (model P w) callerA (.call (.ref fa) ⟨[.ref a], []⟩) (fun r s' => r = .ok (.ret (.bool true)) ∧ OldK s₁.heap s'.heap ∧ s'.os = s₁.os ∧ AllBare s'.gens) s₁ := by
  have rv := vals_ints hi
  have hka : ∀ o, K.lookup a = some o → False := fun o e => noLists_at hK e (by have := KX a o e; rw [ha] at this; cases this; rfl)
  let ho : HO := .frz { cls := .type "list", data := .seq vs.toArray } (.lst (ns.map V.int))
  let H : Hp := fun b => if b = a then some ho else none
  have Hat : H a = some ho := if_pos rfl
  have Hno : ∀ {b : Addr}, b ≠ a → H b = none := fun n => if_neg n
  have Hof : ∀ {b : Addr} {u : HO}, H b = some u → b = a ∧ u = ho := fun {b u} e => by
    by_cases q : b = a
    · subst q; rw [Hat] at e; exact ⟨rfl, (Option.some.inj e).symm⟩
    · rw [Hno q] at e; cases e
  have hok : HOk P w H s₁.heap := fun b u e => by
    obtain ⟨rfl, rfl⟩ := Hof e
    exact ⟨ha, List.length_map (as := ns) V.int ▸ hl, vs, _, rv, ha⟩
  have keepB : ∀ {b : Addr} {o : Obj}, s₁.heap.get? b = some o → b ≠ a → (hidT s₁.heap H).get? b = some o := fun e n => hidT_get e (Hno n)
  have nsB : ∀ {b : Addr} {m : Str → Option Value}, s₁.heap.Ns b m → (hidT s₁.heap H).Ns b m := fun {b m} z => by
    obtain ⟨o, es, ep, e, d, r⟩ := z
    refine ⟨o, es, ep, keepB e (fun q => ?_), d, r⟩
    subst q
    rw [ha] at e
    cases e
    cases (show Data.seq vs.toArray _ = Data.dict es ep from d)
  have hKb : K.In (hidT s₁.heap H) := fun b o e => keepB (KX b o e) fun q => by subst q; exact hka o e
  obtain ⟨mc, c1, c2⟩ := hlim
  have hM : Mod K mg (hidT s₁.heap H) := ⟨hKb, nsB hns, ⟨mb, nsB hb, hbb⟩, mc, nsB c1, c2⟩
  have e0 : Env0 P w K mg (hidT s₁.heap H) callerA [] s₁ H := by
    refine ⟨rfl, hM, fun b o e => of_hidT e, Nat.le_of_eq (hidT_size _ _), trivial, fun b hb => ?_, hok, .of_eq hg⟩
    exact absurd (show b ∈ ([] : List Addr) from hb) (by simp)
  have st : Hst G H (fun _ => none) H (fun _ => none) := ⟨fun b u e => e, fun b u e => (nomatch (show (none : Option HO) = some u from e)), fun b u e => (nomatch (show (none : Option MO) = some u from e)), fun b u e => (nomatch (show (none : Option HO) = some u from e))⟩
  have rp : Reps G H [.ref a] [.scr (ns.map D.int)] := .cons (.lsz Hat (Reps.ints ns)) .nil
  have hq : spL G sp [.ref a] H (fun v _ => v = .bl true) (fun _ _ _ => False) := ⟨H, fun _ => none, fun _ => none, _, _, _, st, rp, hsp _, fun d m' F' v H' e _ _ r => by subst e; cases r; rfl, fun c ys m' F' d H' e _ _ _ => e⟩
  refine codeAny_mono ((Fp _ hKb (nsB hns)).go callerA [] s₁ H ⟨[.ref a], []⟩ [.ref a] [.ref a] _ _ ⟨hr, fun _ => by first | rfl | simp [callerA], fun _ => callerA_gd⟩ e0 (hbind s₁ (.ref a)) (.cons (show RelV (.ref a) (.ref a) from rfl) .nil) hq) fun r s' h => ?_
  match r, h with
  | .error e, h => exact (cx_no h).elim
  | .ok .next, h => exact False.elim h
  | .ok .brk, h => exact False.elim h
  | .ok .cont, h => exact False.elim h
  | .ok (.ret u), ⟨v, H', os, bare, un, hok', r', (q : v = .bl true)⟩ =>
    subst q
    cases (show u = Value.bool true from r')
    refine ⟨rfl, OldK.of_keep ?_, os, bare⟩
    intro b o e
    by_cases z : b = a
    · subst z
      have z2 := un.frzs b _ _ Hat
      obtain ⟨e2, _⟩ := hok' b _ z2
      rw [ha] at e
      cases e
      exact e2
    · exact un.keep b o e (Hno z) (by intro y; exact absurd (show b ∈ ([] : List Addr) from y) (by simp)) (by simp)
/-- the goal that k_head leaves, from the law's promise -/
theorem walkG {l : PySem.W.OpenLaw} {n k : Nat} {q : Program} {loose : List Str} {XP : (Str → Option Value) → Heap → Prop} {YP : World → Heap → Prop} {d : DefRec} {K : Params → PySem.W.Frag} {x : Str} {sp : DSp}
    (hn : l.most = some n) (hn2 : n ≤ sizeLine) (hdf : d.params.defaults = []) (hr : RoomH k callerA) (hK : ∀ P, noLists (K P) = true) (hY : ∀ (w : World) (h : Heap), YP w h → (K w.params).In h) (F : ∀ (w : World) (mg : Str → Option Value) (fa : Addr) (h : Heap), (K w.params).In h → h.Ns mainGlobals mg → mg d.name = some (.ref fa) →
      ∃ (fd : FuncData) (G : CT), (∀ (s : Shared) (u : Value), BindsTo s fd ⟨[u], []⟩ [(x, u)]) ∧
        ∀ base : Heap, (K w.params).In base → base.Ns mainGlobals mg → FnG false true l.prog w (K w.params) mg base k fa fd [x] (spL G sp))
    (hsp : ∀ (m : M) (ns : List Int), ns.length ≤ n → (∀ z ∈ ns, Builtin.Int.intBits z ≤ 1048576) → sp [.scr (ns.map D.int)] m (fun d _ => d = .bl true) fun _ _ _ => False) : PySem.W.WalkO q loose XP YP l.row.toRowW d [] (fun f vs => PySem.call f vs) := by
  refine Att.attach_callB hn hdf fun w s₀ s₁ mg mb fa o pm cd doc a vs ns g Y ho hd hcd hmg hobj hints hlen hbits hgen => ?_
  have KX := hY w _ Y
  obtain ⟨fd, G, hb, hF⟩ := F w mg fa _ KX g.T.g hmg
  exact callG KX g.T.g g.T.b g.T.builtins g.T.nolimit hgen hobj hints (Nat.le_trans hlen hn2) hr (hK _) hF hb fun m => hsp m ns hlen hbits
end DL
namespace DL
open PySem L2
theorem takesF {X : Cx} : Takes X WF := fun _ _ ⟨_, _, _, _, _, _, _, _, _, _, _, _, _, _, _, _, w⟩ => False.elim w
end DL

/-! reading lemmas: what the operations do to data that are known -/
namespace DL
open PySem L2
variable {m : M} {Q : DK} {i j : Int} {x y z : D} {xs ys : List D} {s t : Str} {p : Addr} {b : Bool}
theorem addI : addD (.int i) (.int j) m Q = Q (.int (i + j)) m := rfl
theorem addS : addD (.str s) (.str t) m Q = (s.length + t.length ≤ sizeLine ∧ Q (.str (s ++ t)) m) := rfl
theorem addL : addD (.lst xs) (.lst ys) m Q = (xs.length + ys.length ≤ sizeLine ∧ Q (.lst (xs ++ ys)) m) := rfl
theorem subI : subD (.int i) (.int j) m Q = Q (.int (i - j)) m := rfl
theorem negI : negD (.int i) m Q = Q (.int (-i)) m := rfl
theorem mulI : mulD (.int i) (.int j) m Q = (MulOk i j ∧ Q (.int (i * j)) m) := rfl
theorem mulL : mulD (.lst xs) (.int j) m Q = ((j < 2 ^ 62 ∧ -(2 ^ 62) < j ∧ xs.length * j.toNat ≤ sizeLine) ∧ Q (.lst (List.replicate j.toNat xs).flatten) m) := rfl
theorem divI : divD (.int i) (.int j) m Q = ((0 < j ∧ j.natAbs < 2 ^ 8000) ∧ Q (.int (i / j)) m) := rfl
theorem modI : modD (.int i) (.int j) m Q = (0 < j ∧ Q (.int (i % j)) m) := rfl
theorem powI : powD (.int i) (.int j) m Q = ((0 ≤ j ∧ j ≤ 1000000 ∧ i.natAbs < 2 ^ 64) ∧ Q (.int (i ^ j.toNat)) m) := rfl
theorem ltI : ltD (.int i) (.int j) m Q = Q (.bl (decide (i < j))) m := rfl
theorem leI : leD (.int i) (.int j) m Q = Q (.bl (decide (i ≤ j))) m := rfl
theorem gtI : gtD (.int i) (.int j) m Q = Q (.bl (decide (j < i))) m := rfl
theorem geI : geD (.int i) (.int j) m Q = Q (.bl (decide (j ≤ i))) m := rfl
theorem eqI : eqD (.int i) (.int j) m Q = Q (.bl (decide (i = j))) m := by
  have e : eqB (.int i) (.int j) = decide (i = j) := by
    show (i == j) = decide (i = j)
    by_cases h : i = j
    · subst h; simp
    · rw [decide_eq_false h]; exact beq_eq_false_iff_ne.mpr h
  show (true = true ∧ Q (.bl (eqB (.int i) (.int j))) m) = _
  rw [e]
  exact propext ⟨fun h => h.2, fun h => ⟨rfl, h⟩⟩
theorem neI : neD (.int i) (.int j) m Q = Q (.bl (!decide (i = j))) m := by
  have e : eqB (.int i) (.int j) = decide (i = j) := by
    show (i == j) = decide (i = j)
    by_cases h : i = j
    · subst h; simp
    · rw [decide_eq_false h]; exact beq_eq_false_iff_ne.mpr h
  show (true = true ∧ Q (.bl (!eqB (.int i) (.int j))) m) = _
  rw [e]
  exact propext ⟨fun h => h.2, fun h => ⟨rfl, h⟩⟩
theorem str_beq : (s == t) = decide (s = t) := by
  by_cases h : s = t
  · subst h; simp
  · rw [decide_eq_false h]; exact beq_eq_false_iff_ne.mpr h
theorem eqS : eqD (.str s) (.str t) m Q = Q (.bl (decide (s = t))) m := by
  have e : eqB (.str s) (.str t) = decide (s = t) := str_beq
  show (true = true ∧ Q (.bl (eqB (.str s) (.str t))) m) = _
  rw [e]
  exact propext ⟨fun h => h.2, fun h => ⟨rfl, h⟩⟩
theorem neS : neD (.str s) (.str t) m Q = Q (.bl (!decide (s = t))) m := by
  have e : eqB (.str s) (.str t) = decide (s = t) := str_beq
  show (true = true ∧ Q (.bl (!eqB (.str s) (.str t))) m) = _
  rw [e]
  exact propext ⟨fun h => h.2, fun h => ⟨rfl, h⟩⟩
theorem mx2 : mxD [.int i, .int j] m Q = Q (.int (max i j)) m := by
  apply propext
  constructor
  · rintro (⟨i', j', e, q⟩ | ⟨ns, e, _⟩)
    · cases e; exact q
    · rcases e with e | e <;> cases e
  · exact fun q => .inl ⟨i, j, rfl, q⟩
theorem mn2 : mnD [.int i, .int j] m Q = Q (.int (min i j)) m := by
  apply propext
  constructor
  · rintro (⟨i', j', e, q⟩ | ⟨ns, e, _⟩)
    · cases e; exact q
    · rcases e with e | e <;> cases e
  · exact fun q => .inl ⟨i, j, rfl, q⟩
theorem lenL : lenD [.lst xs] m Q = Q (.int xs.length) m := rfl
theorem lenT : lenD [.tup xs] m Q = Q (.int xs.length) m := rfl
theorem lenC : lenD [.scr xs] m Q = Q (.int xs.length) m := rfl
theorem absI : absD [.int i] m Q = Q (.int (if i < 0 then -i else i)) m := rfl
theorem intI : DL.intD [.int i] m Q = Q (.int i) m := rfl
theorem strI : strD [.int i] m Q = (Few i ∧ Q (.str (istr i)) m) := rfl
theorem repX : repD [x] m Q = (okR x ∧ Q (.str (shD x)) m) := rfl
theorem tupL : tupD [.lst xs] m Q = Q (.tup xs) m := rfl
theorem dmI : divmodD [.int i, .int j] m Q = ((0 < j ∧ j.natAbs < 2 ^ 8000) ∧ Q (.tup [.int (i / j), .int (i % j)]) m) := rfl
theorem itG {l : List D} {d : D} (h : atI l i = some d) : (∃ e, atI l i = some e ∧ Q e m) = Q d m := by
  rw [h]
  exact propext ⟨fun ⟨e, h1, h2⟩ => by cases h1; exact h2, fun h2 => ⟨_, rfl, h2⟩⟩
theorem it0 : itD (.tup (x :: xs)) (.int 0) m Q = Q x m := itG (by unfold atI ixN; rw [if_pos (by omega), if_pos (by simp)]; rfl)
theorem it1 : itD (.tup (x :: y :: xs)) (.int 1) m Q = Q y m := itG (by unfold atI ixN; rw [if_pos (by omega), if_pos (by simp; omega)]; rfl)
theorem itL0 : itD (.lst (x :: xs)) (.int 0) m Q = Q x m := itG (by unfold atI ixN; rw [if_pos (by omega), if_pos (by simp)]; rfl)
theorem itR : itD (.ref p) (.int i) m Q = ∃ xs d, m p = some (.lst xs) ∧ atI xs i = some d ∧ Q d m := rfl
theorem itLn {n : Nat} {l : List D} {d : D} (h : l[n]? = some d) : itD (.lst l) (.int (n : Nat)) m Q = Q d m := itG (by
  have hl : n < l.length := (List.getElem?_eq_some_iff.mp h).1
  unfold atI ixN
  rw [if_pos (by omega), if_pos (by omega)]
  show l[((n : Nat) : Int).toNat]? = some d
  rw [Int.toNat_natCast]
  exact h)
theorem itCn {n : Nat} {l : List D} {d : D} (h : l[n]? = some d) : itD (.scr l) (.int (n : Nat)) m Q = Q d m := itLn h
theorem gTp2 {n : Nat} {u v : DTG} {e : EK} {ds : DSt} {Q : DSt → M → Prop} (hn : n = 2) : gTp n (gsCons u (gsCons v gsNil)) e (.tup [x, y]) ds m Q = u e x ds m fun ds1 m1 => v e y ds1 m1 Q := by
  subst hn
  show (2 = 2 ∧ u e x ds m fun ds1 m1 => v e y ds1 m1 fun ds2 m2 => ([] : List D) = [] ∧ Q ds2 m2) = _
  have : (fun ds2 m2 => ([] : List D) = [] ∧ Q ds2 m2) = Q := by funext a b; exact propext ⟨fun h => h.2, fun h => ⟨rfl, h⟩⟩
  rw [this]
  exact propext ⟨fun h => h.2, fun h => ⟨rfl, h⟩⟩
theorem gTp2' {u v : DTG} {e : EK} {ds : DSt} {Q : DSt → M → Prop} : gTp 2 (gsCons u (gsCons v gsNil)) e (.tup [x, y]) ds m Q = u e x ds m fun ds1 m1 => v e y ds1 m1 Q := gTp2 rfl
theorem emp_app (x : Str) : Str.empty ++ x = x := by
  show (⟨(#[] : Array Nat) ++ x.cps⟩ : Str) = x
  rw [Array.empty_append]
theorem fits {n : Nat} {x : Str} (h : Sh n x) (hn : n ≤ 2 ^ 24) : x.length ≤ sizeLine := Nat.le_trans h.len hn
theorem small2 : 2 ≤ sizeLine := by decide
theorem smallN {n : Nat} (h : n ≤ 1000) : n ≤ sizeLine := Nat.le_trans h (by decide)
/-! fields, by their numbers -/
theorem look_eq {ns : List Str} {n : Str} {d : D} {Q : D → Prop} (h : (ns.zip xs).lookup n = some d) : (∃ e, (ns.zip xs).lookup n = some e ∧ Q e) = Q d := by
  rw [h]
  exact propext ⟨fun ⟨e, h1, h2⟩ => by cases h1; exact h2, fun h2 => ⟨_, rfl, h2⟩⟩
/-! comprehensions and loops -/
theorem lc_map {Q : DK} {k : Nat} {te : DTE} {vs : List Nat} {ds : DSt} {f : D → D} : ∀ {xs : List D} (h : ∀ d, d ∈ xs → ∀ (m : M) (Q : DK), Q (f d) m → te noX ((wipeD ds vs).set k (some d)) m Q) (acc : List D) (m : M), Q (.lst (acc ++ xs.map f)) m → lcD (.one k) ttYes te vs ds Q xs acc m
  | [], _, acc, m, q => by simpa [lcD] using q
  | d :: xs, h, acc, m, q => by
    show te noX _ m fun y m2 => lcD (.one k) ttYes te vs ds Q xs (acc ++ [y]) m2
    refine h d (List.mem_cons_self ..) m _ (lc_map (fun e he => h e (List.mem_cons_of_mem _ he)) _ m ?_)
    simpa using q
theorem lc_st {Q : DK} {k : Nat} {te : DTE} {vs : List Nat} {ds : DSt} {S : M → Prop} {R : D → Prop} : ∀ {xs : List D} (h : ∀ d, d ∈ xs → ∀ (m : M) (Q : DK), S m → (∀ y m', R y → S m' → Q y m') → te noX ((wipeD ds vs).set k (some d)) m Q) (acc : List D) (m : M), S m →
    (∀ ys m', ys.length = xs.length → (∀ y ∈ ys, R y) → S m' → Q (.lst (acc ++ ys)) m') → lcD (.one k) ttYes te vs ds Q xs acc m
  | [], _, acc, m, s, q => by
    have := q [] m rfl (fun _ h => nomatch h) s
    simpa [lcD] using this
  | d :: xs, h, acc, m, s, q => by
    show te noX _ m fun y m2 => lcD (.one k) ttYes te vs ds Q xs (acc ++ [y]) m2
    refine h d (List.mem_cons_self ..) m _ s fun y m' hy s' => lc_st (fun e he => h e (List.mem_cons_of_mem _ he)) _ m' s' fun ys m2 hl hys s2 => ?_
    have := q (y :: ys) m2 (by simp [hl]) (fun z hz => by rcases List.mem_cons.mp hz with rfl | hz; exact hy; exact hys z hz) s2
    simpa using this
theorem for_inv {g : DTG} {tb : DTS} {E : DEnds} {I : DSt → M → Prop} : ∀ {xs : List D} (h : ∀ d, d ∈ xs → ∀ (K : DSt → M → Prop) (ds : DSt) (m : M), I ds m → (∀ ds' m', I ds' m' → K ds' m') → g E.ex d ds m fun ds' m' => tb { E with nx := K, ct := K, bk := E.nx } ds' m') (ds : DSt) (m : M), I ds m → (∀ ds m, I ds m → E.nx ds m) → forD g tb E xs ds m
  | [], _, ds, m, i, q => q ds m i
  | d :: xs, h, ds, m, i, q => h d (List.mem_cons_self ..) _ ds m i fun ds' m' i' => for_inv (fun e he => h e (List.mem_cons_of_mem _ he)) ds' m' i' q
theorem okRb {bs : List Bool} (h : bs.length ≤ 1000) : okR (.lst (bs.map D.bl)) := by
  have h1 : ROs 0 ((5 + 2) * (bs.map D.bl).length) (bs.map D.bl) := ROs.all fun d hd => by
    obtain ⟨b, _, rfl⟩ := List.mem_map.mp hd
    exact RO.bl b
  exact ⟨_, _, .lst h1, by decide, by rw [List.length_map]; omega⟩
/-! places in lists -/
section
variable {x0 x1 x2 x3 x4 x5 x6 x7 x8 : D}
theorem itL1 : itD (.lst (x0 :: x1 :: xs)) (.int 1) m Q = Q x1 m := itLn (n := 1) rfl
theorem itL2 : itD (.lst (x0 :: x1 :: x2 :: xs)) (.int 2) m Q = Q x2 m := itLn (n := 2) rfl
theorem itL3 : itD (.lst (x0 :: x1 :: x2 :: x3 :: xs)) (.int 3) m Q = Q x3 m := itLn (n := 3) rfl
theorem itL4 : itD (.lst (x0 :: x1 :: x2 :: x3 :: x4 :: xs)) (.int 4) m Q = Q x4 m := itLn (n := 4) rfl
theorem itL5 : itD (.lst (x0 :: x1 :: x2 :: x3 :: x4 :: x5 :: xs)) (.int 5) m Q = Q x5 m := itLn (n := 5) rfl
theorem itL6 : itD (.lst (x0 :: x1 :: x2 :: x3 :: x4 :: x5 :: x6 :: xs)) (.int 6) m Q = Q x6 m := itLn (n := 6) rfl
theorem itT2 : itD (.tup (x0 :: x1 :: x2 :: xs)) (.int 2) m Q = Q x2 m := itLn (n := 2) rfl
theorem itT3 : itD (.tup (x0 :: x1 :: x2 :: x3 :: xs)) (.int 3) m Q = Q x3 m := itLn (n := 3) rfl
theorem itT4 : itD (.tup (x0 :: x1 :: x2 :: x3 :: x4 :: xs)) (.int 4) m Q = Q x4 m := itLn (n := 4) rfl
end
theorem for_ix {g : DTG} {tb : DTS} {E : DEnds} {I : Nat → DSt → M → Prop} : ∀ {xs : List D} (n : Nat) (h : ∀ i d, xs[i]? = some d → ∀ (K : DSt → M → Prop) (ds : DSt) (m : M), I (n + i) ds m → (∀ ds' m', I (n + i + 1) ds' m' → K ds' m') → g E.ex d ds m fun ds' m' => tb { E with nx := K, ct := K, bk := E.nx } ds' m') (ds : DSt) (m : M), I n ds m → (∀ ds m, I (n + xs.length) ds m → E.nx ds m) → forD g tb E xs ds m
  | [], n, _, ds, m, i, q => q ds m i
  | d :: xs, n, h, ds, m, i, q => h 0 d rfl _ ds m i fun ds' m' i' => for_ix (n + 1) (fun j e he K ds m hi hK => h (j + 1) e he K ds m (by rw [show n + (j + 1) = n + 1 + j by omega]; exact hi) (fun ds' m' hi' => hK ds' m' (by rw [show n + 1 + j + 1 = n + (j + 1) + 1 by omega]; exact hi'))) ds' m' i' fun ds m hi => q ds m (by rw [show n + (d :: xs).length = n + 1 + xs.length by simp; omega]; exact hi)
/-- a proof that two ways share -/
theorem share {R : Int → M → Prop} {goal : Prop} (C : Int → M → Prop) (h1 : (∀ b m1, C b m1 → R b m1) → goal) (h2 : ∀ b m1, C b m1 → R b m1) : goal := h1 h2
theorem rng_at {d : D} {n : Nat} {a : Int} (h : d ∈ rng a n) : ∃ k : Nat, d = .int (a + k) ∧ k < n := by
  unfold rng at h
  obtain ⟨k, hk, rfl⟩ := List.mem_map.mp h
  exact ⟨k, rfl, List.mem_range.mp hk⟩
theorem bls_true : ∀ {zs : List D}, (∀ y ∈ zs, y = .bl true) → ∃ bs : List Bool, zs = bs.map D.bl ∧ bs.all id = true
  | [], _ => ⟨[], rfl, rfl⟩
  | z :: zs, h => by
    obtain ⟨bs, e, a⟩ := bls_true (zs := zs) fun y hy => h y (List.mem_cons_of_mem _ hy)
    exact ⟨true :: bs, by rw [h z (List.mem_cons_self ..), e]; rfl, by simpa using a⟩
end DL

/-! own exception classes over any of the built-ins: making one, its fields -/
namespace PySem
namespace DLX
open PySem.W PySem.Calls PyProof.Rows PySem.HandSPX Builtin Builtin.ObjectAttr
/-- own classes, then the built-in's mro -/
def refsG (T : List Value) : List Value → Bool
  | .ref _ :: r => refsG T r
  | l => l == T
/-- what the tail must be -/
structure TailOk (T : List Value) : Prop where
  noref : ∀ c r, T ≠ .ref c :: r
  pass : ∀ self, refuseLoop self "__setattr__" T = pure ()
  obj : T.contains (.type "object") = true
  ne : T.isEmpty = false
theorem refsG_cases {T : List Value} : ∀ l : List Value, refsG T l = true → (∃ c r, l = .ref c :: r ∧ refsG T r = true) ∨ l = T
  | [], e => Or.inr (eq_of_beq (a := ([] : List Value)) e)
  | v :: r, e => by
    cases v <;> first | exact .inr (beq_iff_eq.mp e) | exact .inl ⟨_, r, rfl, e⟩
theorem refsG_pass {T : List Value} (ok : TailOk T) (self : Value) : ∀ l : List Value, refsG T l = true → refuseLoop self "__setattr__" l = pure () := by
  intro l
  induction l with
  | nil => intro e; have : [] = T := beq_iff_eq.mp e; rw [this]; exact ok.pass self
  | cons v r ih =>
    intro e
    rcases refsG_cases (v :: r) e with ⟨c, r', q, h⟩ | q
    · cases q
      rw [refuseLoop_ref]
      exact ih h
    · rw [q]; exact ok.pass self
theorem refsG_has {T : List Value} (Y : String) : ∀ l : List Value, refsG T l = true → l.contains (.type Y) = T.contains (.type Y) := by
  intro l
  induction l with
  | nil => intro e; have : [] = T := beq_iff_eq.mp e; rw [this]
  | cons v r ih =>
    intro e
    rcases refsG_cases (v :: r) e with ⟨c, r', q, h⟩ | q
    · cases q
      rw [List.contains_cons, ih h]
      rfl
    · rw [q]
theorem refsG_ne {T : List Value} (ok : TailOk T) {l : List Value} (e : refsG T l = true) : l.isEmpty = false := by
  rcases refsG_cases l e with ⟨c, r, q, _⟩ | q
  · rw [q]; rfl
  · rw [q]; exact ok.ne
theorem tail_RT : TailOk [.type "RuntimeError", .type "Exception", .type "BaseException", .type "object"] := ⟨(fun c r z => by cases z), fun self => F.store_RuntimeError.passes self, by decide +kernel, rfl⟩
theorem tail_LK : TailOk [.type "LookupError", .type "Exception", .type "BaseException", .type "object"] := ⟨(fun c r z => by cases z), fun self => F.store_LookupError.passes self, by decide +kernel, rfl⟩
theorem tail_AR : TailOk [.type "ArithmeticError", .type "Exception", .type "BaseException", .type "object"] := ⟨(fun c r z => by cases z), fun self => F.store_ArithmeticError.passes self, by decide +kernel, rfl⟩
theorem tail_VE : TailOk veTail := ⟨(fun c r z => by cases z), fun self => F.store_ValueError.passes self, by decide +kernel, rfl⟩
section
variable {prog : Program} {w : World} {A : Around} {R : Result → Shared → Prop} {K : W.Frag} {T : List Value} {hp : Heap} {g : Array GenState} {d : Drawn} {t : Nat} {os : OsState} {n : Str} {tk : Tok} {v : Value} {x C : Addr} {row : ClassData}
/-- the rest of a storing: the object's own dict takes the value; Done tells of the heap behind it -/
def InOwn (prog : Program) (w : World) (x C : Addr) (n : Str) (tk : Tok) (v : Value) (s : Shared) (Done : Heap → Prop) : Prop :=
  ∀ (B : Around) (Q : PySem.Fin → Shared → Prop) (E : Value → Shared → Prop), (∀ (h' : Heap) (tk' : Nat), Done h' → Q (.done (.ret .none)) { s with heap := h', toks := tk' }) → wpAny (model prog w) B (storeInOwnDict (.ref x) (.ref C) (.str n tk) n v false) Q E s
/-- what all of an own exception's storings have in common -/
theorem osa_any {ox : Obj} {od : Option Obj} {Done : Heap → Prop} (ok : TailOk T) (kin : K.In hp) (inst : W.InstAt hp x ox C od) (hrow : W.clsIn K C = some row) (tail : refsG T row.mro = true) (bare : W.findIn K (.ref C) n = some none)
    (rest : InOwn prog w x C n tk v ⟨hp, g, d, t, os⟩ Done) (hq : ∀ (h' : Heap) (tk' : Nat), Done h' → R (.ok (.ret .none)) ⟨h', g, d, tk', os⟩) : codeAny (model prog w) A (.call (.builtin "object.__setattr__") ⟨[.ref x, .str n tk, v], []⟩) R ⟨hp, g, d, t, os⟩ := by
  have top : W.mroIn K C (.type "object") = some true := by
    unfold W.mroIn
    simp only [hrow, Option.bind_some, refsG_ne ok tail, refsG_has "object" _ tail, ok.obj, Bool.false_eq_true, ↓reduceIte]
  have so := F.store_object
  have kindX := inst.type (M := model prog w)
  apply codeAny_call_builtin so.slot.plain so.entry
  apply @W.check_slot (model prog w) _ _ ⟨hp, g, d, t, os⟩ "object.__setattr__" "object" "__setattr__" (.ref x) [.str n tk, v] [] _ so.kind so.split (kindX.andThen (W.looks_mroIn kin top)) (so.args (.ref x) (.str n tk) v)
  rw [W.osa_eq, refuse_eq]
  have mros : W.Looks (model prog w) hp (mroOf (.ref C)) row.mro := (W.looks_clsIn kin hrow).andThen .now
  refine wpAny_bind (wpAny_bind (kindX.at (wpAny_bind (mros.at ?_))))
  rw [refsG_pass ok (.ref x) row.mro tail]
  have nobody : W.Looks (model prog w) hp (storeTaker? none) none := .now
  exact wpAny_pure (wpAny_bind (kindX.at (wpAny_bind ((W.looks_findIn kin bare).at (wpAny_bind (nobody.at (rest _ _ _ hq)))))))
/-- no field so far: the dict is made -/
theorem inOwn_new {fv : Array Value} (kin : K.In hp) (self : hp.get? x = some { cls := .ref C, data := .fields fv }) (hrow : W.clsIn K C = some row) (own : row.hasDict = true) :
    InOwn prog w x C n tk v ⟨hp, g, d, t, os⟩ fun h' => ∃ dx, hp.objs.size ≤ dx ∧ dx ≠ x ∧ h'.get? x = some { cls := .ref C, dict := some dx, data := .fields fv } ∧ (h'.Ns1 dx fun y => if y = n then some v else none) ∧ ∀ b o, b ≠ x → hp.get? b = some o → h'.get? b = some o := by
  intro B Q E done
  have far : x ≠ hp.objs.size := Nat.ne_of_lt (Heap.lt_size self)
  have ofC : W.Looks (model prog w) hp (classData C) row := W.looks_clsIn kin hrow
  have pushed := fun {b : Addr} {o : Obj} (there : hp.get? b = some o) => Heap.get?_push_of_some { cls := .type "dict", data := .dict #[] } there
  cases row with
  | mk rn rb rm rs rq rd rl ru ra rc rx =>
    cases (show rd = true from own)
    (unfold storeInOwnDict; unfold ownDictForStores)
    repeat (first | (with_reducible refine store_in_new ?_ ?_) | (with_reducible refine wpAny_loadPart_at self ?_) | (with_reducible refine ofC.at ?_) | wp_step)
    · exact ⟨_, #[], _, (Heap.get?_update_ne _ _ _ _ far.symm).trans (Heap.get?_push_at rfl rfl), rfl, fun e he => absurd he (by simp), fun _ => rfl⟩
    · intro h' tk' names only
      refine done h' tk' ⟨hp.objs.size, Nat.le_refl _, far.symm, (only.2 x far).trans (Heap.get?_update_self _ (pushed self) rfl), names, fun b o off there => ?_⟩
      rw [only.2 b (Nat.ne_of_lt (Heap.lt_size there)), Heap.get?_update_ne _ _ _ _ off]
      exact pushed there
/-- the dict is there -/
theorem inOwn_old {fv : Array Value} {dx : Addr} {m0 : Str → Option Value} {nl : List Str} (kin : K.In hp) (self : hp.get? x = some { cls := .ref C, dict := some dx, data := .fields fv }) (names : hp.Ns1 dx m0) (few : Within m0 nl) (line : nl.length ≤ 1000)
    (hrow : W.clsIn K C = some row) (own : row.hasDict = true) :
    InOwn prog w x C n tk v ⟨hp, g, d, t, os⟩ fun h' => (h'.Ns1 dx fun y => if y = n then some v else m0 y) ∧ ∀ b o, b ≠ dx → hp.get? b = some o → h'.get? b = some o := by
  intro B Q E done
  have ofC : W.Looks (model prog w) hp (classData C) row := W.looks_clsIn kin hrow
  cases row with
  | mk rn rb rm rs rq rd rl ru ra rc rx =>
    cases (show rd = true from own)
    (unfold storeInOwnDict; unfold ownDictForStores)
    repeat (first | (with_reducible refine OEX.store_in_old names few line ?_) | (with_reducible refine wpAny_loadPart_at self ?_) | (with_reducible refine ofC.at ?_) | wp_step)
    exact fun h' tk' now only => done h' tk' ⟨now, fun b o off there => (only.2 b off).trans there⟩
end
end DLX
end PySem
namespace DL
open PySem PySem.Spec PyProof.Rows L2
open L2H (RoomH)
/-- an own exception class over the built-in B, in the written part -/
structure OexG (K : PySem.W.Frag) (C : Addr) (B newId initId : String) (T : List Value) : Prop where
  bf : ExcBaseFacts B newId initId T
  tl : DLX.TailOk T
  cls : ∃ nm q N bs bm sn sub ab col dd k0 k1 k2 k3 k5, K.lookup C = some (excClassObj nm q C N bs bm true sn sub ab col dd k0 k1 k2 k3 k5 newId) ∧ DLX.refsG T bm = true
  (sa : PySem.W.findIn K (.ref C) "__setattr__" = some (some (.builtin "object.__setattr__"))) (exC : PySem.W.subIn K (.ref C) (.type "BaseException") = some true) (tyC : PySem.W.typeIn K (.ref C) = some (.type "type")) (kC : PySem.W.keepIn K (.ref C) = true)
section
variable {X : Cx} {pins : List (Addr × Obj)} {σ : L2.St} {H : Hp} {s : Shared} {a C dx : Addr} {f : Str} {y : V} {u : Value} {fs : List (Str × V)} {Q : Unit → Shared → Prop} {E : Value → Shared → Prop} {A : Around} {B newId initId : String} {T : List Value}
/-- the class's own record -/
theorem OexG.row {K : PySem.W.Frag} (Z : OexG K C B newId initId T) : ∃ r, PySem.W.clsIn K C = some r ∧ DLX.refsG T r.mro = true ∧ r.hasDict = true := by
  obtain ⟨nm, q, N, bs, bm, sn, sub, ab, col, dd, k0, k1, k2, k3, k5, looked, tail⟩ := Z.cls
  refine ⟨{ name := nm, bases := bs, mro := .ref C :: bm, ns := N, qualname := q, hasDict := true, slotNames := sn, subclasses := sub, abstract := ab, collection := col, hasDel := false }, ?_, tail, rfl⟩
  unfold PySem.W.clsIn
  rw [looked] <;> rfl
/-- the exception's first field: the heap of readings gets its dict -/
theorem firstField {h' : Heap} {tk' : Nat} (I : Inv X pins σ H s) (e : H a = some (exo a C none)) (ry : RelV y u) (young : s.heap.objs.size ≤ dx) (off : dx ≠ a) (hx : ∃ t0 : Addr, h'.get? a = some { cls := .ref C, dict := some dx, data := .fields #[.ref t0, .none, .none, .none, .bool false, .none] })
    (names : h'.Ns1 dx fun z => if z = f then some u else none) (same : ∀ b o, b ≠ a → s.heap.get? b = some o → h'.get? b = some o) : Inv X pins σ (upd (upd H dx (exd dx [(f, y)])) a (exo a C (some dx))) { s with heap := h', toks := tk' } := by
  obtain ⟨t0, hx⟩ := hx
  have free : H dx = none := I.hok.fresh young
  have offA : ∀ {b : Addr}, H b = none → b ≠ a := fun hb hba => by rw [hba, e] at hb; cases hb
  have offD : ∀ {b : Addr} {o : Obj}, s.heap.get? b = some o → b ≠ dx := fun there => Nat.ne_of_lt (Nat.lt_of_lt_of_le (Heap.lt_size there) young)
  have keeps : ∀ {b : Addr} {o : HO}, b ≠ a → H b = some o → upd (upd H dx (exd dx [(f, y)])) a (exo a C (some dx)) b = some o := fun hb ho => by rw [upd_ne hb, upd_ne (ne_of_none ho free)]; exact ho
  refine I.un (t' := tk') ?_ ?_
  · constructor
    · exact fun b o there out _ _ => same b o (offA out) there
    · exact fun b o there out _ _ => ⟨o.slots, same b o (offA out) there⟩
    · exact fun b o there out _ => by rw [upd_ne (offA out), upd_ne (offD there)]; exact out
    · intro b o there _
      rcases Decidable.em (b = a) with rfl | hb
      · exact ⟨_, hx⟩
      · exact ⟨o, same b o hb there⟩
    · exact fun b xs q => keeps (at_ne e q exo_tup) q
    · exact fun b o w q => keeps (at_ne e q exo_frz) q
    · exact fun b ps q => ⟨#[], by rw [keeps (at_ne e q exo_tbl) q, Array.append_empty]⟩
  · intro b o q
    rcases Decidable.em (b = a) with rfl | hb
    · rw [upd_same] at q
      exact Option.some.inj q ▸ exo_ok hx
    rw [upd_ne hb] at q
    rcases Decidable.em (b = dx) with rfl | hd
    · rw [upd_same] at q
      exact Option.some.inj q ▸ exd_ok names (relO_put (fs := []) ry fun _ => True.intro)
    rw [upd_ne hd] at q
    exact (I.hok b o q).stay (fun c w own there => same c w (own.elim (fun z => z ▸ hb) fun z => at_ne e z exo_own) there) (fun c z => keeps (at_ne e z exo_own) z) fun c xs z => keeps (at_ne e z exo_tup) z
theorem st_new (Z : OexG X.K C B newId initId T) (I : Inv X pins σ H s) (e : H a = some (exo a C none)) (hno : PySem.W.findIn X.K (.ref C) f = some none) (ry : RelV y u)
    (go : ∀ dx s', H dx = none → dx ≠ a → Inv X pins σ (upd (upd H dx (exd dx [(f, y)])) a (exo a C (some dx))) s' → Q () s') : wpAny (model X.prog X.w) A (setAttr (.ref a) f u) Q E s := by
  obtain ⟨r, looked, tail, own⟩ := Z.row
  obtain ⟨t0, at_⟩ := exo_at I.hok e
  obtain ⟨hp, gs, dr, tk, os⟩ := s
  have inst : PySem.W.InstAt hp a { cls := .ref C, dict := none, data := .fields #[.ref t0, .none, .none, .none, .bool false, .none] } C none := ⟨at_, rfl, rfl, True.intro⟩
  refine PySem.W.set_plain I.kIn inst Z.sa (PySem.DLX.osa_any Z.tl I.kIn inst looked tail hno (PySem.DLX.inOwn_new I.kIn at_ looked own) ?_)
  rintro h' tk' ⟨dx, young, off, hx, names, same⟩
  exact go dx _ (I.hok.fresh young) off (firstField I e ry young off ⟨t0, hx⟩ names same)
theorem st_old (Z : OexG X.K C B newId initId T) (I : Inv X pins σ H s) (e : H a = some (exo a C (some dx))) (ed : H dx = some (exd dx fs)) (few : fs.length ≤ 900) (hno : PySem.W.findIn X.K (.ref C) f = some none) (ry : RelV y u)
    (go : ∀ s', Inv X pins σ (upd H dx (exd dx ((f, y) :: fs))) s' → Q () s') : wpAny (model X.prog X.w) A (setAttr (.ref a) f u) Q E s := by
  obtain ⟨r, looked, tail, own⟩ := Z.row
  obtain ⟨t0, at_⟩ := exo_at I.hok e
  obtain ⟨m0, names, rel⟩ := exd_at I.hok ed
  obtain ⟨hp, gs, dr, tk, os⟩ := s
  obtain ⟨od, _, _, atD, _⟩ := names.count (within_of rel)
  have inst : PySem.W.InstAt hp a { cls := .ref C, dict := some dx, data := .fields #[.ref t0, .none, .none, .none, .bool false, .none] } C (some od) := ⟨at_, rfl, rfl, atD⟩
  have line : (fs.map (·.1)).length ≤ 1000 := by rw [List.length_map]; exact Nat.le_trans few (by decide)
  refine PySem.W.set_plain I.kIn inst Z.sa (PySem.DLX.osa_any Z.tl I.kIn inst looked tail hno (PySem.DLX.inOwn_old I.kIn at_ names (within_of rel) line looked own) ?_)
  rintro h' tk' ⟨now, same⟩
  refine go _ (I.write (t' := tk') (x := dx) (e := dx) (o := exd dx ((f, y) :: fs)) (ed ▸ True.intro) (.inl rfl) same ?_ (exd_ok now (relO_put ry rel)))
  exact now.elim fun o both => both.elim fun _ z => z.elim fun _ z => ⟨o, z.1⟩
end
/-- the dict's reading behind self.f = y -/
def FieldPut (C a : Addr) (f : Str) (y : V) (H : Hp) (Q : Hp → Prop) : Prop :=
  (H a = some (exo a C none) ∧ ∀ dx, H dx = none → dx ≠ a → Q (upd (upd H dx (exd dx [(f, y)])) a (exo a C (some dx)))) ∨
  (∃ dx fs, H a = some (exo a C (some dx)) ∧ H dx = some (exd dx fs) ∧ fs.length ≤ 900 ∧ Q (upd H dx (exd dx ((f, y) :: fs))))
/-- self.f = e, in the __init__ of such a class -/
def tStG (C : Addr) (f : Str) (to te : TE) : TS := fun D σ H => te σ H fun y H1 => to σ H1 fun x H2 => ∃ a : Addr, x = .ref a ∧ FieldPut C a f y H2 (D.nx σ)
section
variable {X : Cx} {C : Addr} {o e : Expr} {es : List Expr} {to te : TE} {ta : TA} {f : Str} {p p' pos : Pos} {B newId initId : String} {T : List Value}
theorem ps_stG (Z : OexG X.K C B newId initId T) (hno : PySem.W.findIn X.K (.ref C) f = some none) (ho : PE X o to) (he : PE X e te) (hs : swapsWith e (some (.Attribute o f p')) pos.line X.env = pure false := by rfl) : PS X (.Assign [.Attribute o f p'] e pos) (tStG C f to te) := by
  constructor
  intro pins s σ H D I h
  refine plainObj_wpAny_Assign_Attribute (wpAny_mono (he.run pins s σ H _ I h) ?_ fun _ _ z => z) hs
  rintro v s1 ⟨y, H1, I1, ry, h1⟩
  refine wpAny_mono (ho.run pins s1 σ H1 _ I1 h1) ?_ fun _ _ z => z
  rintro u s2 ⟨_, H2, I2, rx, a, rfl, put⟩
  refine (show u = Value.ref a from rx) ▸ put.elim (fun new => st_new Z I2 new.1 hno ry fun dx s' free off J => ⟨σ, _, J, new.2 dx free off⟩) ?_
  rintro ⟨dx, fs, ea, ed, few, q⟩
  exact st_old Z I2 ea ed few hno ry fun s' J => ⟨σ, _, J, q⟩
/-- what an __init__ that keeps its parameters promises -/
def spKeep (C : Addr) (fl : List Str) : Sp := fun vs H Q _ => ∃ a ys, vs = .ref a :: ys ∧ ys.length = fl.length ∧ H a = some (exo a C none) ∧
  ∀ d H', H d = none → d ≠ a → H' a = some (exo a C (some d)) → H' d = some (exd d ((fl.zip ys).reverse)) → (∀ b, b ≠ a → b ≠ d → H' b = H b) → Q .non H'
/-- the heaps behind a kept exception: told without the object, with its fields -/
theorem kept_eq {H1 H' : Hp} {a d : Addr} {fs : List (Str × V)} (new : H1 a = none) (same : ∀ b, b ≠ a → b ≠ d → H' b = upd H1 a (exo a C none) b) : upd (del H' a) d (.xd fs) = upd H1 d (.xd fs) := by
  funext b
  rcases Decidable.em (b = d) with rfl | hd
  · rw [upd_same, upd_same]
  rw [upd_ne hd, upd_ne hd]
  rcases Decidable.em (b = a) with rfl | ha
  · rw [del_same, new]
  · rw [del_ne ha, same b ha hd, upd_ne ha]
/-- C(e, ..) where C's __init__ keeps its parameters -/
theorem pmkG {x : Str} {fI : Addr} {k : Nat} {fd : FuncData} {ps : List Str} {fl : List Str} {hot grd : Bool} (Z : OexG X.K C B newId initId T) (iC : PySem.W.findIn X.K (.ref C) "__init__" = some (some (.ref fI))) (tI : PySem.W.typeIn X.K (.ref fI) = some (.type "function"))
    (F1 : FnG hot grd X.prog X.w X.K X.mg X.base k fI fd ps (spKeep C fl)) (hr : Rm hot grd (k + 1) X.A) (hb : Binds X.K fd ps []) (hg : Gl X x) (hm : X.mg x = some (.ref C)) (ha : PA X (e :: es) ta)
    (hdb : (x == ("__debug__" : Str)) = false := by decide) (hst : starEach (e :: es) X.env = (false, eval e X.env) :: starEach es X.env := by rfl) (hpl : (backTo pos (starEach es X.env)).any (·.1) = false := by rfl) :
    PMk X (.Call (.Name x p) (e :: es) [] pos) (fun σ H Q => ta σ H fun vs H1 => vs.length ≤ 1000 ∧ vs.length = fl.length ∧ ∀ d, H1 d = none → Q (.ref C) (some d) (upd H1 d (.xd ((fl.zip vs).reverse)))) := by
  intro pins s σ H Q I h
  obtain ⟨nm, q, N, bs, bm, sn, sub, ab, col, dd, k0, k1, k2, k3, k5, looked, tail⟩ := Z.cls
  have args := ha.run pos pins s σ H _ I h
  refine wpAny_Call_Name_kw (ld_glob I hg hm (PySem.W.callWith_K (h₀ := X.base) I.ok.mod.kin Z.kC (wpAny_mono args ?_ fun _ _ z => z) hst hpl) hdb)
  rintro us ⟨hp, gs, dr, tk, os⟩ ⟨vs, H1, I1, r1, short, hlen, q1⟩
  refine ⟨I1.kIn, ?_⟩
  -- the argument tuple stands at the heap's end, the exception behind it
  let a : Addr := hp.objs.size + 1
  let two : Heap := (hp.push (PySem.W.kdv_tup us)).push (PySem.HandSPX.excO C hp.objs.size)
  have below : hp.objs.size ≤ a := Nat.le_add_right _ 1
  have newA : H1 a = none := I1.hok.fresh below
  have kept : ∀ b o, hp.get? b = some o → two.get? b = some o := fun b o there => Heap.get?_push_of_some _ (Heap.get?_push_of_some _ there)
  have standsA : two.get? a = some (PySem.HandSPX.excO C hp.objs.size) := by
    show ((hp.push (PySem.W.kdv_tup us)).push (PySem.HandSPX.excO C hp.objs.size)).get? (hp.objs.size + 1) = _
    heap_get
  have I2 : Inv X pins σ (upd H1 a (exo a C none)) ⟨two, gs, dr, tk, os⟩ := I1.laid (t' := tk) kept below (exo_ok standsA)
  have rows : Vals (V.ref a :: vs) (Value.ref a :: us) := .cons (show RelV (.ref a) (.ref a) from rfl) r1
  have line : us.length ≤ sizeLine := by
    have := Paired.length r1
    rw [sizeLine_eq]
    omega
  have prom : spKeep C fl (V.ref a :: vs) (upd H1 a (exo a C none)) (fun v H2 => v = .non ∧ ∃ (d : Addr) (fs : List (Str × V)), H2 a = some (exo a C (some d)) ∧ H2 d = some (exd d fs) ∧ H1 d = none ∧ Q (.ref C) (some d) (upd (del H2 a) d (.xd fs))) fun _ _ _ => False := by
    refine ⟨a, vs, rfl, hlen, upd_same, fun d H' out off hA hD same => ⟨rfl, d, _, hA, hD, ?_⟩⟩
    rw [upd_ne off] at out
    exact ⟨out, (kept_eq (fs := (fl.zip vs).reverse) newA same) ▸ q1 d out⟩
  have binds := hb _ (Value.ref a :: us) I2.kIn (by rw [List.append_nil, ← rows.length]; exact F1.len _ _ _ _ prom)
  rw [List.append_nil] at binds
  have init := F1.go _ X.stack _ _ _ _ _ _ _ (hr.make C us []) (I2.env0.make C us []) binds rows prom
  refine wpAny_call (PySem.HandSPX.call_own Z.bf (fun Y => PySem.DLX.refsG_has Y bm tail) (I1.kIn _ _ looked) (PySem.W.looks_findIn I1.kIn iC) (fun self => PySem.W.bind_fn I1.kIn self tI) line (codeAny_mono init ?_))
  rintro (er | fl') s2 end_
  · exact (cx_no end_).elim
  · cases fl' with
    | ret u =>
      obtain ⟨_, H2, os2, bare2, un2, hok2, ru, rfl, d, fs, ea, ed, out, q2⟩ := end_
      exact ⟨ru, mk_end (raises_own Z.exC Z.tyC) I1 below kept un2 hok2 os2 bare2 ea ed out q2⟩
    | next => exact (show False from end_).elim
    | brk => exact (show False from end_).elim
    | cont => exact (show False from end_).elim
/-! ### the __init__ itself -/
end
section
variable {hot grd : Bool} {P : Program} {w : World} {K : PySem.W.Frag} {mg : Str → Option Value} {base : Heap}
/-- a def, told of the heap -/
theorem fn_okV {x qual : Str} {st : Stmt} {f : Addr} {fd : FuncData} {N ps : List Str} {k : Nat} {sp : Sp} (F : Fun K x qual st f fd) (S : FnScope N ps (defScope st)) (hlen : ∀ vs H Q E, sp vs H Q E → vs.length = ps.length)
    (hbody : ∀ (cdv : Value) (A : Around) (outer : List Env) (s : Shared) (H : Hp) (E : XK) (vs : List V) (Q : VK), Rm hot grd k (A.deeper (envOfC qual (defScope st) s.heap.objs.size f cdv)) → sp vs H Q E →
      ∃ t, PSs (cxG hot P w K mg base N qual (defScope st) f cdv A outer s H E) (defBody st) t ∧ t { nx := fun _ H' => Q .non H', rt := Q } (L2.start N vs) H) : FnG hot grd P w K mg base (k + 1) f fd ps sp := by
  obtain ⟨oc, od, kV, doc, pm, an, cdv, ct, osl, hfd, lk, hcd⟩ := F.ex
  subst hfd
  refine ⟨hlen, fun A outer s H args us vs Q E hr e0 hb hv hsp => ?_⟩
  have vl : vs.length = ps.length := hlen _ _ _ _ hsp
  have KX : K.In s.heap := e0.mod.kin.keeps fun b o q => (e0.bs b o q).1
  have lim : s.heap.NoLimit := e0.mod.nolimit.keeps fun b o q => (e0.bs b o q).1
  refine codeAny_call_function hr.room.depth (KX f _ lk) rfl S.co S.gen rfl (PySem.W.codeRec_of KX hcd) (hb _ _ _ _ (wpAny_newFunctionEnv_cells S.kind (fun y hy => ?_) fun env he s1 ic => ?_))
  · obtain ⟨n, u⟩ := y
    cases S.par n (List.of_mem_zip hy).1 with
    | inl isLocal => exact .inl isLocal
    | inr isCell => exact .inr ⟨isCell, PySem.W.cellsFrom_some _ _ _ (.inl isCell)⟩
  · subst he
    refine ⟨lim.keeps ic.toInCall.keep, codeAny_func ?_⟩
    have rm : Rm hot grd k (A.deeper (envOfC qual (defScope st) s.heap.objs.size f cdv)) := ⟨hr.room.deeper _, hr.calm, hr.gd⟩
    obtain ⟨t, ht, hq⟩ := hbody cdv A outer s H E vs Q rm hsp
    have e1 : Env0 P w K mg base { A with handled := none } outer s H := ⟨e0.frames, e0.mod, e0.bs, e0.bsz, e0.funs, e0.frf, e0.hok, e0.bare⟩
    have I := inv_cxG (hot := hot) (A := A) (E := E) hr.calm e0 (inv_start (CX := L2.CX P w) S rfl e1 vl hv ic)
    refine wpAny_mono (ht.run [] s1 _ H _ I hq) (fun fl s' hs => ?_) fun e s' hs => hs
    cases fl with
    | ret u => exact let ⟨v, σ', H', J, rv, q⟩ := hs; ⟨v, H', J.os, J.bare, J.base, J.hok, rv, q⟩
    | next => exact let ⟨σ', H', J, q⟩ := hs; ⟨V.non, H', J.os, J.bare, J.base, J.hok, rfl, q⟩
    | brk => exact let ⟨_, _, _, q⟩ := hs; False.elim q
    | cont => exact let ⟨_, _, _, q⟩ := hs; False.elim q
theorem keep_len {C : Addr} {fl ps : List Str} (h : ps.length = fl.length + 1) : ∀ vs H Q E, spKeep C fl vs H Q E → vs.length = ps.length := fun vs H Q E ⟨a, ys, e, hl, _⟩ => by
  rw [e, List.length_cons, hl, h]
theorem keep1 {x1 qual p1 f1 : Str} {st : Stmt} {f C : Addr} {fd : FuncData} {B newId initId : String} {T : List Value} {a1 a2 a3 : Pos} {b1 : Pos} (F : Fun K "__init__" qual st f fd) (S : FnScope ["self", p1] ["self", p1] (defScope st)) (Z : OexG K C B newId initId T) (n1 : PySem.W.findIn K (.ref C) f1 = some none)
    (hb : defBody st = [.Assign [.Attribute (.Name "self" a1) f1 a2] (.Name p1 a3) b1])
    (v0 : Vis (defScope st) "self") (v1 : Vis (defScope st) p1) (d1 : (p1 == ("__debug__" : Str)) = false) (c1 : (p1 == ("__classdict__" : Str)) = false) :
    FnG hot grd P w K mg base 1 f fd ["self", p1] (spKeep C [f1]) := by
  refine fn_okV F S (keep_len rfl) (fun cdv A outer s H E vs Q hr ⟨a, ys, e, hl, ha, q⟩ => ?_)
  subst e
  rw [hb]
  match ys, hl with
  | [y1], _ =>
    refine ⟨_, pss_one (ps_stG Z n1 (pv 0 rfl v0) (pv 1 rfl v1 d1 c1) rfl), ?_⟩
    refine ⟨y1, rfl, .ref a, rfl, a, rfl, .inl ⟨ha, fun dx hd ne => ?_⟩⟩
    exact q dx _ hd ne upd_same (by rw [upd_ne ne, upd_same]; rfl) (fun b z y => by rw [upd_ne z, upd_ne y])
theorem keep2 {qual p1 p2 f1 f2 : Str} {st : Stmt} {f C : Addr} {fd : FuncData} {B newId initId : String} {T : List Value} {a1 a2 a3 a4 a5 a6 : Pos} {b1 b2 : Pos} (F : Fun K "__init__" qual st f fd) (S : FnScope ["self", p1, p2] ["self", p1, p2] (defScope st)) (Z : OexG K C B newId initId T) (n1 : PySem.W.findIn K (.ref C) f1 = some none)
    (n2 : PySem.W.findIn K (.ref C) f2 = some none) (hb : defBody st = [.Assign [.Attribute (.Name "self" a1) f1 a2] (.Name p1 a3) b1, .Assign [.Attribute (.Name "self" a4) f2 a5] (.Name p2 a6) b2])
    (v0 : Vis (defScope st) "self") (v1 : Vis (defScope st) p1) (v2 : Vis (defScope st) p2) (d1 : (p1 == ("__debug__" : Str)) = false) (d2 : (p2 == ("__debug__" : Str)) = false) (c1 : (p1 == ("__classdict__" : Str)) = false) (c2 : (p2 == ("__classdict__" : Str)) = false) :
    FnG hot grd P w K mg base 1 f fd ["self", p1, p2] (spKeep C [f1, f2]) := by
  refine fn_okV F S (keep_len rfl) (fun cdv A outer s H E vs Q hr ⟨a, ys, e, hl, ha, q⟩ => ?_)
  subst e
  rw [hb]
  match ys, hl with
  | [y1, y2], _ =>
    refine ⟨_, pss_cons (ps_stG Z n1 (pv 0 rfl v0) (pv 1 rfl v1 d1 c1) rfl) (pss_one (ps_stG Z n2 (pv 0 rfl v0) (pv 2 rfl v2 d2 c2) rfl)), ?_⟩
    refine ⟨y1, rfl, .ref a, rfl, a, rfl, .inl ⟨ha, fun dx hd ne => ?_⟩⟩
    refine ⟨y2, rfl, .ref a, rfl, a, rfl, .inr ⟨dx, [(f1, y1)], upd_same, by rw [upd_ne ne, upd_same], Nat.le_trans (Nat.le_refl 1) (by decide), ?_⟩⟩
    exact q dx _ hd ne (by rw [upd_ne ne.symm, upd_same]) (by rw [upd_same]; rfl) (fun b z y => by rw [upd_ne y, upd_ne z, upd_ne y])
end
/-! ### raise, over data -/
theorem Reps.rev {G : CT} {F : Hp} {vs : List V} {xs : List D} (r : Reps G F vs xs) : Reps G F vs.reverse xs.reverse := by
  induction vs generalizing xs with
  | nil => cases r; exact .nil
  | cons v vs ih =>
    cases r with
    | cons h t =>
      simpa only [List.reverse_cons] using (ih t).append (.cons h .nil)
def sRaise (c n : Nat) (ta : DTA) : DTS := fun E ds m => ta E.ex ds m fun xs m1 => xs.length = n ∧ E.ex ds c xs.reverse m1
section
variable {X : Cx} {G : CT} {W : WX} {hot grd : Bool} {k c : Nat} {fI : Addr} {fd : FuncData} {ps fl : List Str} {x : Str} {p pos rpos : Pos} {e : Expr} {es : List Expr} {ta : DTA} {B newId initId : String} {T : List Value}
theorem ds_raise (hc : X.calm = true) (tk : Takes X W) (Z : OexG X.K (G c).addr B newId initId T) (iC : PySem.W.findIn X.K (.ref (G c).addr) "__init__" = some (some (.ref fI))) (tI : PySem.W.typeIn X.K (.ref fI) = some (.type "function"))
    (F1 : FnG hot grd X.prog X.w X.K X.mg X.base k fI fd ps (spKeep (G c).addr fl)) (hr : Rm hot grd (k + 1) X.A) (hb : Binds X.K fd ps []) (hg : Gl X x) (hm : X.mg x = some (.ref (G c).addr)) (hfl : (G c).flds = fl.reverse) (hn : fl.length ≤ 1000) (ha : DA X G W (e :: es) ta)
    (hdb : (x == ("__debug__" : Str)) = false := by decide) (hst : starEach (e :: es) X.env = (false, eval e X.env) :: starEach es X.env := by rfl) (hpl : (backTo pos (starEach es X.env)).any (·.1) = false := by rfl) :
    DS X G W (.Raise (some (.Call (.Name x p) (e :: es) [] pos)) none rpos) (sRaise c fl.length ta) :=
  (ps_raise hc tk (pmkG Z iC tI F1 hr hb hg hm ha hdb hst hpl)).imp fun Dd σ H ⟨F, R, m, ds, E, st, sl, h, ok⟩ => by
    refine ⟨F, R, m, ds, _, E.ex, st, sl, h, ok.ex, fun xs m1 F1 vs H1 ⟨hl, q⟩ l1 s1 r1 => ?_⟩
    have hl' : vs.length = fl.length := r1.length.trans hl
    refine ⟨by rw [hl']; exact hn, hl', fun d hd => ?_⟩
    have l2 := le_upd (o := HO.xd ((fl.zip vs).reverse)) (s1.fnone hd)
    refine ok.ex ds c _ m1 _ σ (some d) _ q (l1.trans l2) (s1.new hd) (sl.le (l1.trans l2)) (.inr ⟨d, _, rfl, upd_same, ?_, ?_⟩)
    · rw [List.map_reverse, List.map_fst_zip (by omega), hfl]
    · rw [List.map_reverse, List.map_snd_zip (by omega)]
      exact (r1.le l2).rev
end
end DL

/-! caught exceptions: their class, their fields, try/except as -/
namespace PySem
namespace DLX
open PySem.W PySem.Spec PySem.Calls PyProof.Rows
section
variable {prog : Program} {w : World} {A : Around} {E : Value → Shared → Prop} {s : Shared} {K : Frag} {x D : Addr} {ox od : Obj}
/-- what the written part tells of an own exception class D, for e.__class__ -/
structure ClassRead (K : Frag) (D : Addr) : Prop where
  (ga : findIn K (.ref D) "__getattribute__" = some (some (.builtin "BaseException.__getattribute__"))) (noGa : findIn K (.ref D) "__getattr__" = some none) (isExc : subIn K (.ref D) (.type "BaseException") = some true) (dict : hasDictIn K D = true)
  (cl : findIn K (.ref D) "__class__" = some (some (.builtin "object.__class__"))) (get : specialIn K (.builtin "object.__class__") "__get__" = some (some (.builtin "getset_descriptor.__get__"))) (data : takesIn K (.builtin "object.__class__") = some true) (isObj : mroIn K D (.type "object") = some true)
/-- the built-in's own reading: found in the class, a descriptor that is asked -/
theorem base_reads {Q : Value → Shared → Prop} {hp : Heap} {g : Array GenState} {d : Drawn} {t : Nat} {os : OsState} {tx : Tok} (Z : ClassRead K D) (KX : K.In hp) (J : InstAt hp x ox D (some od)) (h : Q (.ref D) ⟨hp, g, d, t, os⟩) :
    wpAny (model prog w) A (call (.builtin "BaseException.__getattribute__") [.ref x, .str "__class__" tx]) Q E ⟨hp, g, d, t, os⟩ := by
  have kind := J.type (M := model prog w)
  have found : findObj K D (some od) "__class__" = some (.bind (.builtin "getset_descriptor.__get__") (.builtin "object.__class__")) := by
    obtain ⟨r, looked, _⟩ := any_some Z.dict
    exact findObj_data (looked ▸ rfl) Z.cl Z.get Z.data
  have va := PySem.F.excAttr_ValueError.ga
  apply wpAny_call
  apply codeAny_call_builtin va.plain PySem.F.entry_bexc_ga
  apply @check_slot (model prog w) _ _ ⟨hp, g, d, t, os⟩ "BaseException.__getattribute__" "BaseException" "__getattribute__" (.ref x) [.str "__class__" tx] [] _ (by decide +kernel) (by decide +kernel) (kind.andThen (looks_subIn KX Z.isExc)) (PySem.F.args_bexc_ga (.ref x) (.str "__class__" tx))
  delta Builtin.«object.__getattribute__»
  refine wpAny_bind (wpAny_of_eq (a := (Value.ref x, [Value.str "__class__" tx])) (by first | rfl | (simp only [slotArgs]; rfl)) (wpAny_bind (wpAny_pure (wpAny_bind (kind.at (wpAny_bind ((looks_find KX J found).at ?_)))))))
  have asked : wpAny (model prog w) A.in1 (call (.builtin "getset_descriptor.__get__") [.builtin "object.__class__", .ref x, .ref D]) (fun v s' => v = .ref D ∧ s' = ⟨hp, g, d, t, os⟩) (fun _ _ => False) ⟨hp, g, d, t, os⟩ :=
    wpAny_call (class_get (s := ⟨hp, g, d, t, os⟩) (ox := ox) (od := some od) KX J Z.isObj ⟨rfl, rfl⟩)
  refine wpAny_bind (m := holding [Value.builtin "object.__class__"] (call (.builtin "getset_descriptor.__get__") [.builtin "object.__class__", .ref x, .ref D])) (wpAny_holding (wpAny_mono asked ?_ fun _ _ z => z.elim))
  rintro _ _ ⟨rfl, rfl⟩
  exact wpAny_pure h
/-- the class's own __getattribute__ is that built-in -/
theorem own_reads {Q : Value → Shared → Prop} {hp : Heap} {g : Array GenState} {d : Drawn} {t : Nat} {os : OsState} {tx : Tok} (Z : ClassRead K D) (KX : K.In hp) (J : InstAt hp x ox D (some od)) (h : Q (.ref D) ⟨hp, g, d, t, os⟩) :
    wpAny (model prog w) A (getAttrByItsOwn (.ref x) (.str "__class__" tx) (.ref D) (.builtin "BaseException.__getattribute__") false false) Q E ⟨hp, g, d, t, os⟩ := by
  have heapD : onTheHeap (Value.ref D) = true := rfl
  have outside : (false && onTheHeap (Value.builtin "BaseException.__getattribute__")) = false := rfl
  (unfold getAttrByItsOwn; unfold hookBefore)
  rw [if_pos heapD]
  refine wpAny_bind ((looks_findIn (M := model prog w) KX Z.noGa).at (wpAny_bind (wpAny_attempt (wpAny_holding ?_))))
  (unfold callGetattribute; rw [outside, if_neg Bool.false_ne_true]; unfold boundAndCalled)
  have bound := PySem.F.excAttr_ValueError.ga.bind (.ref x)
  rw [bound]
  refine wpAny_bind (wpAny_pure (base_reads (A := A) Z KX J ?_))
  have out : handedOut (Value.ref D) = pure (Value.ref D) := handedOut_of rfl
  (show wpAny (model prog w) A (handedOut (Value.ref D)) Q E _; rw [out]; exact wpAny_pure h)
theorem cls_at {Q : Option Value → Shared → Prop} (Z : ClassRead K D) (KX : K.In s.heap) (J : InstAt s.heap x ox D (some od)) (h : Q (some (.ref D)) { s with toks := s.toks + 1 }) : wpAny (model prog w) A (getAttr? (.ref x) "__class__") Q E s := by
  obtain ⟨hp, g, d, t, os⟩ := s
  have other : (Value.builtin "BaseException.__getattribute__" == Value.builtin "object.__getattribute__") = false := by decide +kernel
  (unfold getAttr?; unfold getAttrBy?; unfold getAttrBy)
  refine wpAny_bind (wpAny_mkText (wpAny_bind (wpAny_attempt (wpAny_holding (wpAny_bind ((J.type (M := model prog w)).at (wpAny_bind ((looks_findIn (M := model prog w) KX Z.ga).at ?_))))))))
  simp only [other, Bool.and_false, Bool.false_eq_true, ↓reduceIte]
  exact own_reads Z KX J (wpAny_pure h)
theorem kit_exc (Z : ClassRead K D) :
    KitX K (.ref x) (.ref D) (fun h => ∃ od, InstAt h x ox D (some od)) := by
  obtain ⟨cdD, hcD, _⟩ := any_some Z.dict
  have hrec : ∃ c' d' cd' sl', K.lookup D = some ⟨c', d', .cls cd', sl'⟩ := by
    unfold clsIn at hcD
    split at hcD
    · rename_i c' d' cd' sl' ho
      exact ⟨c', d', cd', sl', ho⟩
    · cases hcD
  obtain ⟨c', d', cd', sl', ho⟩ := hrec
  refine ⟨fun _ _ _ ⟨_, J⟩ => J.type, fun _ _ KX _ => ?_, fun h tp dd its n sl KX htp => ?_, fun KX ⟨_, J⟩ k => cls_at Z KX J k⟩
  · intro A' Q' E' s' k q
    unfold isType loadHead
    exact wpAny_bind (wpAny_loadPart (k _ _ (KX _ _ ho)) (wpAny_pure q))
  · refine Bool.eq_false_iff.mpr fun q => ?_
    cases Value.ref.inj (beq_iff_eq.mp q)
    cases (KX _ _ ho).symm.trans htp
end
end DLX
end PySem
namespace DL
open PySem PySem.Spec PyProof.Rows L2
open L2H (RoomH)
section
variable {X : Cx} {G : CT} {W : WX} {a dd : Addr} {oe : Obj} {cls : Value} {d : Option Addr} {pn : List (Addr × Obj)} {e : Expr} {te : DTE} {pos : Pos} {n : Str} {c i : Nat}
/-- e.f, e the error that the suite holds -/
def eXf (G : CT) (cls : Value) (d : Option Addr) (a : Addr) (c : Nat) (n : Str) (te : DTE) : DTE := fun x ds m Q => te x ds m fun v m1 => ∃ dd xs u, cls = .ref (G c).addr ∧ d = some dd ∧ v = .exc a dd c xs ∧ ((G c).flds.zip xs).lookup n = some u ∧ Q u m1
theorem de_xf (T : XfC X.K (G c).addr) (hno : PySem.W.findIn X.K (.ref (G c).addr) n = some none) (hz : Zc cls d oe) (hf : ∃ vs, oe.data = .fields vs) (he : DE (X.suite a ((a, oe) :: pn)) G W e te) (hb : attributeBase e n X.env (eval e X.env) = eval e X.env := by rfl) :
    DE (X.suite a ((a, oe) :: pn)) G W (.Attribute e n pos) (eXf G cls d a c n te) := (pe_xf T hno hz hf he hb).imp fun σ H Q ⟨F, R, m, ds, Q0, x, st, sl, h, xk, kk⟩ => by
  refine ⟨F, R, m, ds, _, x, st, sl, h, xk, fun v m1 F1 u H1 ⟨dd, xs, w, e1, e2, e3, lk, q⟩ l1 s1 r1 => ?_⟩
  subst e3
  cases r1 with
  | @exc _ _ _ gs _ hh ee rr =>
    obtain ⟨y, hy, ry⟩ := zip_look ee rr lk
    exact ⟨rfl, e1, dd, gs, y, e2, s1.fz _ _ hh, hy, kk _ _ _ _ _ q l1 s1 ry⟩
/-- isinstance(e, c) and isinstance(e, (c, ..)) -/
def isxD (G : CT) (K : PySem.W.Frag) (cls : Value) (d : Option Addr) (a : Addr) (c : Nat) : DR := fun xs m Q => ∃ dd ys y b, cls = .ref (G c).addr ∧ d = some dd ∧ xs = [.exc a dd c ys, y] ∧
  ((∃ u, clD y = some u ∧ PySem.W.kitOne K (.ref (G c).addr) u = some b) ∨ ∃ cs us, y = .tup cs ∧ cs.map clD = us.map some ∧ PySem.W.kitAny K (.ref (G c).addr) us = some b) ∧ Q (.bl b) m
theorem clDs {F : Hp} : ∀ {vs : List V} {cs : List D} {us : List Value}, Reps G F vs cs → cs.map clD = us.map some → Paired ClsV vs us
  | _, [], [], .nil, _ => .nil
  | _, [], u :: us, .nil, e => by simp at e
  | _, c :: cs, [], _, e => by simp at e
  | v :: vs, c :: cs, u :: us, .cons r rr, e => by
    exact .cons (cl_of r (List.cons.inj e).1) (clDs rr (List.cons.inj e).2)
theorem cd_isx (C : ExcC X.K (G c).addr) (hz : Zc cls d oe) (hf : ∃ vs, oe.data = .fields vs) : CallD (X.suite a ((a, oe) :: pn)) G (.builtin "isinstance") (isxD G X.K cls d a c) := by
  rintro pins s σ H vs us Q I r ⟨F, R, m, xs, Q0, st, rr, ⟨dd, ys, y, b, e1, e2, e3, h, q⟩, kk⟩
  subst e3
  subst e1
  subst e2
  cases rr with
  | cons rx rr =>
    cases rr with
    | cons ry rr =>
      cases rr
      obtain ⟨ux, uy, rfl, vx, vy⟩ := vals2 r
      cases rx with
      | @exc _ _ _ gs _ hh ee rg =>
        cases (show ux = Value.ref a from vx)
        have hget := (I.pin (a, oe) (List.mem_append_left _ List.mem_cons_self)).1
        obtain ⟨fv, hv⟩ := hf
        obtain ⟨mA, hns, _⟩ := (show ObjOk X.prog X.w H s.heap dd (.xd gs) from I.hok dd _ (st.fz _ _ hh))
        obtain ⟨od, ho, _⟩ := lookIn_ns hns
        have J : ∃ od, PySem.W.InstAt s.heap a oe (G c).addr (some od) := by
          refine ⟨od, ?_⟩
          obtain ⟨oc, od', oda, osl⟩ := oe
          obtain ⟨h1, h2⟩ := hz
          dsimp only at h1 h2 hv
          subst h1 h2 hv
          exact ⟨hget, rfl, rfl, ho⟩
        have fin : ∀ tk, EP (X.suite a ((a, oe) :: pn)) pins σ Q (.bool b) { s with toks := tk } := fun tk => ⟨.bl b, H, I.kept (t' := tk) fun _ _ z => z, rfl, kk _ _ F _ _ q (Le.refl F) st (.bl _)⟩
        have kit : PySem.W.KitX X.K (.ref a) (.ref (G c).addr) (fun h => ∃ od, PySem.W.InstAt h a oe (G c).addr (some od)) := PySem.DLX.kit_exc (x := a) (ox := oe) ⟨C.hg, C.hk, C.hs, C.hd, C.ha, C.hn, C.ht, C.hm⟩
        have KX : X.K.In s.heap := I.kIn
        rcases h with ⟨u, hu, hk⟩ | ⟨cs, us, ey, hus, hk⟩
        · have e4 := (cl_of ry hu).eq vy
          subst e4
          exact PySem.W.kia_one kit KX J hk (fun z => nomatch z) fin
        · subst ey
          cases ry with
          | @tup p ws _ hp rc =>
            cases (show uy = Value.ref p from vy)
            obtain ⟨_, its, rv, o, h1, h2, n, h3⟩ := (show ObjOk X.prog X.w H s.heap p (.tup ws) from I.hok p _ (st.fz _ _ hp))
            have e3 := ClsV.all (clDs rc hus) rv
            subst e3
            obtain ⟨oc, od, dt, sl⟩ := o
            dsimp only at h2 h3
            subst h2 h3
            exact PySem.W.kia_tup kit KX J h1 hk (fun z => nomatch z) fin
/-! ### try: .. except C as n: .. -/
def sTry (G : CT) (K : PySem.W.Frag) (cv : Value) (i : Nat) (tb : DTS) (ts : Addr → Value → Option Addr → DTS) : DTS := fun E ds m => tb { E with ex := fun ds1 cn xs m1 => ∃ b, PySem.W.exmOne K (.ref (G cn).addr) cv = some b ∧
  (b = true → (G cn).flds ≠ [] ∧ ∀ a dd, ts a (.ref (G cn).addr) (some dd) { nx := fun ds2 m2 => E.nx (ds2.set i none) m2, rt := E.rt, bk := fun ds2 m2 => E.bk (ds2.set i none) m2, ct := fun ds2 m2 => E.ct (ds2.set i none) m2, ex := fun _ _ _ _ => False } (ds1.set i (some (.exc a dd cn xs))) m1) ∧ (b = false → E.ex ds1 cn xs m1) } ds m
theorem ds_try_as {x n : Str} {cv : Value} {body suite : List Stmt} {b₀ : Stmt} {np pos pos' : Pos} {tb : DTS} {ts : Addr → Value → Option Addr → DTS} (hs : X.stack = X.env :: X.outer) (hf : X.env.frame = some X.env.locals) (hN : X.N.Nodup) (hi : X.N[i]? = some n) (hln : X.env.kindOf n = some .local) (hc : Names X x cv) (tk : Takes X W)
    (hb : ∀ (W : WX) (pn : List (Addr × Obj)) (xe : Value → Shared → Prop), Takes (X.tr pn xe) W → PassesOwn (model X.prog X.w) X.A X.env xe → DSs (X.tr pn xe) G W body tb)
    (hsu : ∀ (a : Addr) (oe : Obj) (cls : Value) (d : Option Addr) (pn : List (Addr × Obj)), Zc cls d oe → (∃ vs, oe.data = .fields vs) → DSs (X.suite a ((a, oe) :: pn)) G WF (b₀ :: suite) (ts a cls d)) :
    DS X G W (.Try body [.ExceptHandler (some (.Name x np)) (some n) (b₀ :: suite) pos'] [] [] pos) (sTry G X.K cv i tb ts) :=
  (ps_try_as (Wout := W) (tb := fun W => lS G W tb) (ts := fun a cls d => lS G WF (ts a cls d)) hs hf hN hi hln hc tk hb hsu).imp fun Dd σ H ⟨F, R, m, ds, E, st, sl, h, ok⟩ => by
    refine ⟨F, R, m, ds, _, st, sl, h, ok.nx, ok.rt, ok.bk, ok.ct, fun ds1 cn xs m1 F1 σ1 d1 H1 ⟨b, hb, hy, hn⟩ l1 s1 sl1 xd => ⟨b, hb, fun e a ha => ?_, fun e => ok.ex _ _ _ _ _ _ _ _ (hn e) l1 s1 sl1 xd⟩⟩
    obtain ⟨hne, q⟩ := hy e
    rcases xd with ⟨e1, e2, e3⟩ | ⟨dd, gs, e1, hh, ee, rr⟩
    · exact absurd e3 hne
    · subst e1
      refine ⟨F1, R, m1, _, _, s1, sl1.set i (.exc hh ee rr), q a dd, fun ds2 m2 F2 σ2 H2 q2 l2 s2 sl2 => ok.nx _ _ _ _ _ q2 (l1.trans l2) s2 (sl2.forget i none), fun d2 m2 F2 v2 H2 q2 l2 s2 r2 => ok.rt _ _ _ _ _ q2 (l1.trans l2) s2 r2,
        fun ds2 m2 F2 σ2 H2 q2 l2 s2 sl2 => ok.bk _ _ _ _ _ q2 (l1.trans l2) s2 (sl2.forget i none), fun ds2 m2 F2 σ2 H2 q2 l2 s2 sl2 => ok.ct _ _ _ _ _ q2 (l1.trans l2) s2 (sl2.forget i none), fun _ _ _ _ _ _ _ _ z => False.elim z⟩
end
end DL
namespace DL
open PySem L2
theorem Rm.suite {hot grd : Bool} {k : Nat} {A : Around} {o : Option Value} (r : Rm hot grd k A) : Rm true grd k (A.mark o) :=
  ⟨⟨r.room.dp, r.room.un⟩, (fun z => nomatch z), r.gd⟩
end DL
namespace DL
open PySem L2
section
variable {K : PySem.W.Frag} {C D : Addr} {b : Bool} {T : String}
theorem kit_rt (h : PySem.W.subIn K (.ref C) (.type T) = some b) (hm : PySem.W.kitMeta T = true) : PySem.W.kitOne K (.ref C) (.type T) = some b := by
  unfold PySem.W.kitOne
  rw [if_neg (by simp)]
  show (if PySem.W.kitMeta T = true then PySem.W.subIn K (.ref C) (.type T) else none) = some b
  rw [if_pos hm]
  exact h
theorem kit_rr1 (h : PySem.W.subIn K (.ref C) (.ref D) = some true) (hc : PySem.W.isClsIn K D = true) (ht : PySem.W.typeIn K (.ref D) = some (.type "type")) : PySem.W.kitOne K (.ref C) (.ref D) = some true := by
  have e2 : ((PySem.W.clsIn K D).isSome && PySem.W.typeIn K (.ref D) == some (.type "type")) = true := by
    have h2' : (PySem.W.clsIn K D).isSome = true := hc
    rw [h2', ht] <;> rfl
  unfold PySem.W.kitOne
  split
  · rfl
  · show (if ((PySem.W.clsIn K D).isSome && PySem.W.typeIn K (.ref D) == some (.type "type")) = true then PySem.W.subIn K (.ref C) (.ref D) else none) = some true
    rw [if_pos e2]
    exact h
theorem kit_rr0 (h : PySem.W.subIn K (.ref C) (.ref D) = some false) (hs : PySem.W.subIn K (.ref C) (.ref C) = some true) (hc : PySem.W.isClsIn K D = true) (ht : PySem.W.typeIn K (.ref D) = some (.type "type")) : PySem.W.kitOne K (.ref C) (.ref D) = some false := by
  have e2 : ((PySem.W.clsIn K D).isSome && PySem.W.typeIn K (.ref D) == some (.type "type")) = true := by
    have h2' : (PySem.W.clsIn K D).isSome = true := hc
    rw [h2', ht] <;> rfl
  have ne : C ≠ D := fun e => by
    subst e
    rw [h] at hs
    cases hs
  unfold PySem.W.kitOne
  rw [if_neg (by simpa using ne)]
  show (if ((PySem.W.clsIn K D).isSome && PySem.W.typeIn K (.ref D) == some (.type "type")) = true then PySem.W.subIn K (.ref C) (.ref D) else none) = some false
  rw [if_pos e2]
  exact h
theorem kitA_cons {t c : Value} {cs : List Value} (h1 : PySem.W.kitOne K t c = some false) (h2 : PySem.W.kitAny K t cs = some b) : PySem.W.kitAny K t (c :: cs) = some b := by
  unfold PySem.W.kitAny
  rw [h1]
  exact h2
theorem kitA_nil {t : Value} : PySem.W.kitAny K t [] = some false := rfl
end
end DL

/-! lambdas without parameters, handed to a def -/
namespace DL
open PySem PySem.Spec PyProof.Rows L2 LamX
section
variable {X : Cx} {G : CT} {pins : List (Addr × Obj)} {σ : L2.St} {F R H : Hp} {m : M} {s : Shared}
theorem upd_swap {H : Hp} {a b : Addr} {x y : HO} (n : a ≠ b) : upd (upd H a x) b y = upd (upd H b y) a x := by
  funext c
  by_cases h1 : c = a
  · subst h1; rw [upd_ne n, upd_same, upd_same]
  · by_cases h2 : c = b
    · subst h2; rw [upd_same, upd_ne h1, upd_same]
    · rw [upd_ne h2, upd_ne h1, upd_ne h1, upd_ne h2]
end
end DL
namespace DL
open PySem PySem.Spec PyProof.Rows L2 LamX
/-! ### what a lambda captured, as data -/
def capD : DSt → List D
  | [] => []
  | none :: ds => capD ds
  | some d :: ds => d :: capD ds
def capV : DSt → L2.St → List V
  | some _ :: ds, some v :: σ => v :: capV ds σ
  | _ :: ds, _ :: σ => capV ds σ
  | _, _ => []
/-- the slots are told -/
def Told : DSt → L2.St → Prop
  | [], [] => True
  | none :: ds, _ :: σ => Told ds σ
  | some _ :: ds, some _ :: σ => Told ds σ
  | _, _ => False
theorem SL.tail {G : CT} {F : Hp} {o : Option D} {ds : DSt} {w : Option V} {σ : L2.St} (s : SL G F (w :: σ) (o :: ds)) : SL G F σ ds := ⟨by have := s.len; simpa using this, fun i d e => by
  obtain ⟨v, h1, h2⟩ := s.at_ (i + 1) d (by simpa using e)
  exact ⟨v, by simpa using h1, h2⟩⟩
theorem SL.told {G : CT} {F : Hp} : ∀ {ds : DSt} {σ : L2.St}, SL G F σ ds → Told ds σ ∧ Reps G F (capV ds σ) (capD ds)
  | [], [], _ => ⟨True.intro, .nil⟩
  | [], _ :: _, s => by have := s.len; simp at this
  | _ :: _, [], s => by have := s.len; simp at this
  | none :: ds, none :: σ, s => s.tail.told
  | none :: ds, some _ :: σ, s => s.tail.told
  | some d :: ds, none :: σ, s => by
    obtain ⟨v, h, _⟩ := s.at_ 0 d rfl
    simp at h
  | some d :: ds, some w :: σ, s => by
    obtain ⟨v, h, r⟩ := s.at_ 0 d rfl
    have e : w = v := by simpa using h
    subst e
    exact ⟨s.tail.told.1, .cons r s.tail.told.2⟩
theorem Told.sl {G : CT} {F : Hp} : ∀ {ds : DSt} {σ : L2.St}, Told ds σ → Reps G F (capV ds σ) (capD ds) → SL G F σ ds
  | [], [], _, _ => ⟨rfl, fun i d e => by simp at e⟩
  | none :: ds, w :: σ, t, r => by
    have t' : Told ds σ := t
    have r' : Reps G F (capV ds σ) (capD ds) := by cases w <;> exact r
    have s := Told.sl t' r'
    refine ⟨by simp [s.len], fun i d e => ?_⟩
    cases i with
    | zero => simp at e
    | succ i =>
      obtain ⟨v, h1, h2⟩ := s.at_ i d (by simpa using e)
      exact ⟨v, by simpa using h1, h2⟩
  | some d :: ds, some w :: σ, t, r => by
    cases r with
    | cons rh rt =>
      have s := Told.sl (ds := ds) (σ := σ) t rt
      refine ⟨by simp [s.len], fun i d' e => ?_⟩
      cases i with
      | zero =>
        have e' : d = d' := by simpa using e
        subst e'
        exact ⟨w, rfl, rh⟩
      | succ i =>
        obtain ⟨v, h1, h2⟩ := s.at_ i d' (by simpa using e)
        exact ⟨v, by simpa using h1, h2⟩
  | some _ :: _, none :: _, t, _ => t.elim
  | [], _ :: _, t, _ => t.elim
  | _ :: _, [], t, _ => by
    cases ‹Option D› <;> exact (show False from t).elim
end DL
/-! ### a lambda is made -/
namespace DL
open PySem PySem.Spec PyProof.Rows L2 LamX
/-- at f stands the lambda that X's def made, k its code object; nobody else knows of it -/
structure LamAt (X : Cx) (params : Arguments) (body : Expr) (scope : Scope) (f k : Addr) (H : Hp) (s : Shared) : Prop where
  stands : ∃ pm ctv, s.heap.get? f = some (PySem.W.kla_obj "<lambda>" (X.env.qual ++ "<lambda>") params body scope (cloFrom X.env.cells scope.names []) pm k ctv)
  alone : H f = none
  nofr : f ∉ frs X.stack
section
variable {X : Cx} {G : CT} {pins : List (Addr × Obj)} {σ : L2.St} {F R H : Hp} {m : M} {s : Shared} {params : Arguments} {body : Expr} {scope : Scope} {pos : Pos} {c P : Addr} {E Q : Value → Shared → Prop}
theorem young_frame (I : Inv X pins σ H s) {b : Addr} (young : s.heap.objs.size ≤ b) : b ∉ frs X.stack := fun there =>
  (List.mem_cons.mp (I.stkSub b there)).elim (fun z => absurd I.lt (Nat.not_lt.mpr (z ▸ young))) (I.nofs young)
/-- the table with one code object more, as data see it -/
theorem held_more {p : Pos} {ps : Array Value} {q : Str} {k : Addr} {T : Hp} (tri : TriplesOk ps.toList) (old : ∀ (p' : Pos) (cv : Value), codeAmong p' ps.toList = some cv → ∃ c, cv = .ref c ∧ F c = some (CodeO c q)) (le : Le F T) (new : T k = some (CodeO k q))
    (at_ : H P = some (.tbl (ps ++ #[rawInt p.line, rawInt p.col, .ref k]))) : Held G T H P (.tbl q) := by
  have flat : (ps ++ #[rawInt p.line, rawInt p.col, .ref k]).toList = ps.toList ++ [rawInt p.line, rawInt p.col, .ref k] := Array.toList_append
  refine ⟨_, at_, flat ▸ PySem.TriplesOk_snoc _ _ _ _ tri, fun p' cv among => ?_⟩
  cases among_app _ tri (flat ▸ among) with
  | inl z => exact (old p' cv z).imp fun c both => ⟨both.1, le _ _ both.2⟩
  | inr z => exact ⟨k, z, new⟩
theorem lam_mk (I : Inv X pins σ H s) (st : Hst G F R H m) (tab : m P = some (.tbl (X.env.qual ++ "<lambda>"))) (B : TabB X.base X.mg c P) (code : X.env.code = .ref c) (plain : defaultsOf params X.env = ([], [])) (caps : ∀ y ∈ scope.names, y.2 = .free → ∃ a, X.env.cells.lookup y.1 = some a)
    (next : ∀ (f k : Addr) (F1 H1 : Hp) (s1 : Shared), Inv X pins σ H1 s1 → Le F F1 → Hst G F1 R H1 m → F1 k = some (CodeO k (X.env.qual ++ "<lambda>")) → LamAt X params body scope f k H1 s1 → Q (.ref f) s1) :
    wpAny (model X.prog X.w) X.A (eval (Expr.Lambda params body scope pos) X.env) Q E s := by
  obtain ⟨noF, ps, tb, tri, old⟩ := st.mt P _ tab
  have row : s.heap.get? P = some { cls := .none, data := .fields ps } := I.hok P (.tbl ps) tb
  have ptb : ∀ {k : Addr}, H k = none → P ≠ k := fun none_ same => by rw [← same, tb] at none_; cases none_
  apply PySem.W.kla_eval plain
  match found : codeAmong pos ps.toList with
  | some cv =>
    obtain ⟨k, rfl, kF⟩ := old pos cv found
    apply PySem.W.kla_makeFunctionHit (closure_ok caps) I.ok.glob (I.mod.glob.keeps I.bk) code (B.code.keeps I.bk) row tri found (B.bm.keeps I.bk)
    intro ctv hp tok same more
    exact next _ k F H _ (I.kept fun b o there => Heap.get?_push_of_some _ (same b o there)) (Le.refl F) st kF ⟨⟨_, ctv, Heap.get?_push_size _ rfl⟩, I.hok.fresh more, young_frame I more⟩
  | none =>
    apply PySem.W.kla_makeFunction (closure_ok caps) I.ok.glob (I.mod.glob.keeps I.bk) code (B.code.keeps I.bk) row tri found B.gP (B.bm.keeps I.bk)
    intro k ctv hp tok same young below rec tabNow
    have more : s.heap.objs.size ≤ hp.objs.size := Nat.le_trans young (Nat.le_of_lt below)
    have kH : H k = none := I.hok.fresh young
    have fH : H hp.objs.size = none := I.hok.fresh more
    have pushed : ∀ {b : Addr} {o : Obj} (x : Obj), hp.get? b = some o → (hp.push x).get? b = some o := fun x there => Heap.get?_push_of_some x there
    obtain ⟨_, oc, vs, tq, ⟨⟩, cAt, cFields, cName⟩ := rec
    let F1 := upd F k (CodeO k (X.env.qual ++ "<lambda>"))
    let tab1 : HO := .tbl (ps ++ #[rawInt pos.line, rawInt pos.col, .ref k])
    have st1 : Hst G F1 R (upd H k (CodeO k (X.env.qual ++ "<lambda>"))) m := st.new kH
    have st2 : Hst G F1 R (upd (upd H k (CodeO k (X.env.qual ++ "<lambda>"))) P tab1) (mset m P (.tbl (X.env.qual ++ "<lambda>"))) := st1.put tab (held_more tri old (le_upd (st.fnone kH)) upd_same upd_same)
    rw [mset_self tab, upd_swap (ptb kH).symm] at st2
    have I2 := inv_table (q := X.env.qual ++ "<lambda>") (more := #[rawInt pos.line, rawInt pos.col, .ref k]) (t' := tok) I tb (fun b o off there => pushed (PySem.W.kla_obj "<lambda>" (X.env.qual ++ "<lambda>") params body scope (cloFrom X.env.cells scope.names []) ((X.mg "__name__").getD .none) k ctv) (same b o off there)) (pushed _ tabNow) young ⟨oc, vs, tq, pushed _ cAt, cFields, cName⟩
    refine next _ k F1 _ _ I2 (le_upd (st.fnone kH)) st2 upd_same ⟨⟨_, ctv, Heap.get?_push_size _ rfl⟩, ?_, young_frame I more⟩
    rw [upd_ne (Nat.ne_of_gt below), upd_ne (ptb fH).symm]
    exact fH
end
/-! ### a lambda is called, by the def that got it -/
theorem Rm.deeper {hot grd : Bool} {k : Nat} {A : Around} (r : Rm hot grd (k + 1) A) (e : Env) : Rm hot grd k (A.deeper e) := ⟨r.room.deeper e, r.calm, r.gd⟩
section
variable {grd : Bool} {X : Cx} {G : CT} {pins : List (Addr × Obj)} {σ : L2.St} {H H₁ : Hp} {s s₁ : Shared} {Eg : XK} {Ng : List Str} {qg : Str} {sg : Scope} {g f c' : Addr} {cdg : Value} {params : Arguments} {body : Expr} {scope : Scope} {k i : Nat} {a : Str} {pn : List (Addr × Obj)} {xe : Value → Shared → Prop} {W : WX} {p1 p2 : Pos}
/-- the context of the def that got the lambda -/
abbrev gotCx (X : Cx) (Ng : List Str) (qg : Str) (sg : Scope) (g : Addr) (cdg : Value) (s : Shared) (H : Hp) (Eg : XK) : Cx := cxG false X.prog X.w X.K X.mg X.base Ng qg sg g cdg X.A X.stack s H Eg
theorem lam_call {tb : XK → TE} (I : Inv X pins σ H s) (L : LamS X.env.scope scope) (la : LamAt X params body scope f c' H s) (tk : Takes ((gotCx X Ng qg sg g cdg s H Eg).tr pn xe) W) (room : Rm false grd (k + 1) (gotCx X Ng qg sg g cdg s H Eg).A)
    (nobind : ∀ (pm ctv : Value), bindArgs (PySem.W.kla_fn "<lambda>" (X.env.qual ++ "<lambda>") params body scope (cloFrom X.env.cells scope.names []) pm (.ref c') ctv) ⟨[], []⟩ = pure [])
    (inside : ∀ (A : Around) (outer : List Env) (sx : Shared) (Hx : Hp) (E : XK), Rm false grd k (A.deeper (lamEnv X scope sx.heap.objs.size f c')) → PE (lamCx X A outer sx Hx E scope f c') body (tb E))
    (slot : Ng[i]? = some a) (vis : Vis sg a) (nd : (a == ("__debug__" : Str)) = false := by decide) (nc : (a == ("__classdict__" : Str)) = false := by decide) :
    PE ((gotCx X Ng qg sg g cdg s H Eg).tr pn xe) (.Call (.Name a p1) [] [] p2) (fun σZ HZ Q => σZ[i]? = some (some (.ref f)) ∧ HZ c' = some (CodeO c' (X.env.qual ++ "<lambda>")) ∧ tb (fun cls d H' => W cls d σZ H') σ HZ Q) := by
  constructor
  rintro pZ sZ σZ HZ Q IZ ⟨slotV, codeV, does⟩
  have nameV := (pe_var (X := (gotCx X Ng qg sg g cdg s H Eg).tr pn xe) (pos := p1) slot vis nd nc).run pZ sZ σZ HZ (fun v H' => v = .ref f ∧ H' = HZ) IZ ⟨_, slotV, rfl, rfl⟩
  refine wpAny_Call_Name_kw (wpAny_mono nameV ?_ fun _ _ z => z)
  rintro u sC ⟨_, HC, IC, ru, rfl, sameH⟩
  obtain rfl := sameH.symm
  cases (show u = Value.ref f from ru)
  obtain ⟨pm, ctv, stood⟩ := la.stands
  have since : Un (frs X.stack) [] H HZ s.heap sC.heap := IC.base
  have stands := since.keep f _ stood la.alone la.nofr List.not_mem_nil
  obtain ⟨⟨oc, vs, tq, cAt, cFields, cName⟩, _, _⟩ := IC.hok c' _ codeV
  apply PySem.W.callWith_F0 ⟨_, _, _, _, stands⟩
  have ran : codeAny (model X.prog X.w) (gotCx X Ng qg sg g cdg s H Eg).A (.call (.ref f) ⟨[], []⟩) (CR (L2.CX X.prog X.w) (gotCx X Ng qg sg g cdg s H Eg).stack X.prog X.w HZ sC Q fun cls d H' => W cls d σZ H') sC := by
    apply PySem.W.kla_callFunE room.r.depth stands rfl L.co L.gen rfl ⟨c', oc, vs, tq, rfl, cAt, cFields, cName⟩
    rw [nobind]
    apply wpAny_pure
    refine wpAny_newFunctionEnv (fun y hy => (L.own y hy).2) (fun y hy => absurd hy List.not_mem_nil) (fun hp names only => ⟨IC.nolimit.fresh _ only, PySem.W.kla_codeExpr ?_⟩) L.kind
    have start := lam_start2 (E := fun cls d H' => W cls d σZ H') (scope := scope) (f := f) (c' := c') (tk := sC.toks + ([] : List (Str × Value)).length) I L IC.env0 room.r.hd since names fun b o there => only.extBut b o (Nat.ne_of_lt (Heap.lt_size there)) (Heap.get?_push_of_some _ there)
    refine wpAny_mono ((inside _ _ sC HZ _ (room.deeper _)).run [] _ _ HZ Q start does) ?_ fun _ _ z => z
    rintro v s' ⟨w, H', J, rw_, q⟩
    exact ⟨w, H', J.os, J.bare, J.base, J.hok, rw_, q⟩
  refine wpAny_call (codeAny_mono ran ?_)
  rintro (e | fl) s' end_
  · exact passAt tk σZ pZ HZ sC e s' IC end_
  · cases fl <;> first | exact IC.after end_ | exact (show False from end_).elim
/-- the same, over data -/
theorem de_act {dsX : DSt} {te : DTE} (told : Told dsX σ) (I : Inv X pins σ H s) (L : LamS X.env.scope scope) (la : LamAt X params body scope f c' H s) (tk : Takes ((gotCx X Ng qg sg g cdg s H Eg).tr pn xe) W) (room : Rm false grd (k + 1) (gotCx X Ng qg sg g cdg s H Eg).A)
    (nobind : ∀ (pm ctv : Value), bindArgs (PySem.W.kla_fn "<lambda>" (X.env.qual ++ "<lambda>") params body scope (cloFrom X.env.cells scope.names []) pm (.ref c') ctv) ⟨[], []⟩ = pure [])
    (inside : ∀ (A : Around) (outer : List Env) (sx : Shared) (Hx : Hp) (E : XK), Rm false grd k (A.deeper (lamEnv X scope sx.heap.objs.size f c')) → DE (lamCx X A outer sx Hx E scope f c') G (fun cls d _ H' => E cls d H') body te)
    (slot : Ng[i]? = some a) (vis : Vis sg a) (nd : (a == ("__debug__" : Str)) = false := by decide) (nc : (a == ("__classdict__" : Str)) = false := by decide) :
    DE ((gotCx X Ng qg sg g cdg s H Eg).tr pn xe) G W (.Call (.Name a p1) [] [] p2) (fun x ds m Q => ds[i]? = some (some (.fn f c' (X.env.qual ++ "<lambda>") (capV dsX σ) (capD dsX))) ∧ te (fun _ => x ds) dsX m Q) :=
  (lam_call (tb := fun E => lE G (fun cls d _ H' => E cls d H') te) I L la tk room nobind inside slot vis nd nc).imp fun σZ HZ Q ⟨F, R, m, ds, Q0, x, st, sl, ⟨hi, q⟩, xk, kk⟩ => by
    obtain ⟨v, at_, rep⟩ := sl.at_ i _ hi
    cases rep with
    | fn codeF caught =>
      exact ⟨at_, st.fz _ _ codeF, F, R, m, dsX, Q0, fun _ => x ds, st, told.sl caught, q, fun _ cn xs m' F' _ d H' z le st' _ xd => xk ds cn xs m' F' σZ d H' z le st' (sl.le le) xd, kk⟩
end
end DL
/-! ### a def gets a lambda -/
namespace DL
open PySem PySem.Spec PyProof.Rows L2 LamX
/-- the reading of what the lambda says: errors, store, continuation -/
abbrev TL := DX → M → DK → Prop
/-- the promise of a def that calls what it got: TT makes of the lambda's reading the reading of the whole -/
def GivesD (X : Cx) (G : CT) (grd : Bool) (k : Nat) (Ng : List Str) (qg : Str) (sg : Scope) (g : Addr) (bg : List Stmt) (a : Str) (TT : TL → M → DK → Prop) : Prop :=
  ∀ (cdg : Value) (s : Shared) (H : Hp) (lam : D) (tl : TL) (m : M) (Q : DK), Rm false grd k (gotCx X Ng qg sg g cdg s H fun _ _ _ => False).A →
    (∀ (pn : List (Addr × Obj)) (xe : Value → Shared → Prop) (W : WX) (p1 p2 : Pos), Takes ((gotCx X Ng qg sg g cdg s H fun _ _ _ => False).tr pn xe) W →
      DE ((gotCx X Ng qg sg g cdg s H fun _ _ _ => False).tr pn xe) G W (.Call (.Name a p1) [] [] p2) (fun x ds m Q => ds[0]? = some (some lam) ∧ tl (x ds) m Q)) →
    TT tl m Q → ∃ t, DSs (gotCx X Ng qg sg g cdg s H fun _ _ _ => False) G (fun _ _ _ _ => False) bg t ∧ t { nx := fun _ m' => Q .non m', rt := Q } (startD Ng [lam]) m
/-- f(lambda: e) -/
def eLam (q : Str) (P : Addr) (TT : TL → M → DK → Prop) (te : DTE) : DTE := fun _ ds m Q => m P = some (.tbl q) ∧ TT (fun x' m' Q' => te (fun _ => x') ds m' Q') m Q
section
variable {X : Cx} {G : CT} {W : WX} {grd : Bool} {k : Nat} {x a q : Str} {g c P : Addr} {stg : Stmt} {fd : FuncData} {Ng : List Str} {TT : TL → M → DK → Prop} {te : DTE} {params : Arguments} {body : Expr} {scope : Scope} {p lpos pos : Pos}
theorem de_lam (Fg : Fun X.K x x stg g fd) (Sg : FnScope Ng [a] (defScope stg)) (gl : Gl X x) (mg : X.mg x = some (.ref g)) (keep : PySem.W.keepIn X.K (.ref g) = true) (bd : Binds X.K fd [a] []) (slot : Ng[0]? = some a) (vis : Vis (defScope stg) a)
    (gives : GivesD X G grd (k + 1) Ng x (defScope stg) g (defBody stg) a TT) (B : TabB X.base X.mg c P) (code : X.env.code = .ref c) (hq : X.env.qual ++ "<lambda>" = q) (L : LamS X.env.scope scope) (plain : defaultsOf params X.env = ([], []))
    (nobind : ∀ (q : Str) (cl : List (Str × Addr)) (pm cv ctv : Value), bindArgs (PySem.W.kla_fn "<lambda>" q params body scope cl pm cv ctv) ⟨[], []⟩ = pure []) (room : Rm false grd (k + 2) X.A)
    (inside : ∀ (A : Around) (outer : List Env) (sx : Shared) (Hx : Hp) (E : XK) (f c' : Addr), Rm false grd k (A.deeper (lamEnv X scope sx.heap.objs.size f c')) → DE (lamCx X A outer sx Hx E scope f c') G (fun cls d _ H' => E cls d H') body te)
    (ndx : (x == ("__debug__" : Str)) = false := by decide) (nd : (a == ("__debug__" : Str)) = false := by decide) (nc : (a == ("__classdict__" : Str)) = false := by decide) :
    DE X G W (.Call (.Name x p) [.Lambda params body scope lpos] [] pos) (eLam q P TT te) := by
  subst hq
  constructor
  rintro pins s σ H Q I ⟨F, R, m, ds, Q0, xx, st, sl, ⟨tab, h⟩, xk, kk⟩
  obtain ⟨told, caught⟩ := sl.told
  obtain ⟨oc, od, kV, doc, pm, an, cdv, ct, osl, rfl, row, codeIn⟩ := Fg.ex
  refine wpAny_Call_Name_kw (ld_glob I gl mg ?_ ndx)
  refine PySem.W.callWith_K (h₀ := X.base) I.ok.mod.kin keep ?_ (by rfl) (by rfl)
  show wpAny _ X.A (spliced ((false, eval (Expr.Lambda params body scope lpos) X.env) :: backTo pos (starEach [] X.env))) _ X.xe s
  refine Calls.spliced_cons (lam_mk I st tab B code plain (L.has I.ok) fun f c' F1 H1 s1 I1 le st1 codeF la => Calls.spliced_nil ⟨I1.kIn, ?_⟩)
  have rg : Rm false grd (k + 1) (X.A.deeper (envOfC x (defScope stg) s1.heap.objs.size g cdv)) := room.deeper _
  obtain ⟨t, ht, hq⟩ := gives cdv s1 H1 (.fn f c' (X.env.qual ++ "<lambda>") (capV ds σ) (capD ds)) (fun x' m' Q' => te (fun _ => x') ds m' Q') m Q0 rg
    (fun pn xe W p1 p2 tk => de_act told I1 L la tk rg (fun _ _ => nobind _ _ _ _ _) (fun A outer sx Hx E rx => inside A outer sx Hx E f c' rx) slot vis nd nc) h
  have ran : codeAny (model X.prog X.w) X.A (.call (.ref g) ⟨[.ref f], []⟩) (CR (L2.CX X.prog X.w) X.stack X.prog X.w H1 s1 Q fun _ _ _ => False) s1 := by
    refine run_ofS (N := Ng) (ps := [a]) (us := [.ref f]) (vs := [.ref f]) row codeIn Sg room.r I1.env0 (bd s1 [.ref f] I1.kIn rfl) (.cons rfl .nil) rfl fun _ => ⟨lS G (fun _ _ _ _ => False) t, ht, ?_⟩
    exact ⟨F1, R, m, _, _, st1, sl_start Ng (.cons (.fn codeF (caught.le le)) .nil), hq, fun ds' m' F' σ' H' z l s' _ => kk _ _ _ _ _ z (le.trans l) s' .non, fun d m' F' v H' z l s' r => kk _ _ _ _ _ z (le.trans l) s' r, fun _ _ _ _ _ z => z.elim, fun _ _ _ _ _ z => z.elim, fun _ _ _ _ _ _ _ _ z => z.elim⟩
  refine wpAny_call (codeAny_mono ran ?_)
  rintro (e | fl) s' end_
  · exact (cx_no end_).elim
  · cases fl <;> first | exact I1.after end_ | exact (show False from end_).elim
end
end DL

/-! try with several clauses, each with a name -/
namespace DL
open PySem PySem.Spec PyProof.Rows L2
section
variable {X : Cx} {pins : List (Addr × Obj)} {σ : L2.St} {H : Hp} {cls : Value} {d : Option Addr} {a : Addr} {B : Heap} {sI s : Shared}
/-- the exception at a has come down to the frame of X, whose heap was told at sI -/
structure Down (X : Cx) (pins : List (Addr × Obj)) (σ : L2.St) (H : Hp) (cls : Value) (d : Option Addr) (a : Addr) (B : Heap) (sI s : Shared) : Prop where
  told : Inv X pins σ H sI
  wide : ∀ b o, sI.heap.get? b = some o → b ∉ frs X.stack → B.get? b = some o
  upto : sI.heap.UpToSlots s.heap
  fly : HandSPX.FlyingZ B (X.env :: X.outer) a (Zc cls d) s.heap
  new : H a = none
  same : s.os = sI.os
  gens : AllBare s.gens
theorem Down.inv (D : Down X pins σ H cls d a B sI s) : Inv X pins σ H s := D.told.landed D.wide D.fly.1 D.upto D.same D.gens
theorem Down.move {h' : Heap} (D : Down X pins σ H cls d a B sI s) (f : HandSPX.FlyingZ B (X.env :: X.outer) a (Zc cls d) h') (u : s.heap.UpToSlots h') : Down X pins σ H cls d a B sI { s with heap := h' } :=
  ⟨D.told, D.wide, D.upto.trans u, f, D.new, D.same, D.gens⟩
/-- the object itself, and the state as the clause's suite sees it -/
theorem Down.seen (D : Down X pins σ H cls d a B sI s) (own : X.env.frame = some X.env.locals) : ∃ oe, s.heap.get? a = some oe ∧ Zc cls d oe ∧ (∃ vs, oe.data = .fields vs) ∧ Inv (X.suite a ((a, oe) :: (X.pn ++ pins))) [] σ H s := by
  obtain ⟨oe, vs, at_, z, isF⟩ := D.fly.there
  have noFrame : a ∉ frs (X.env :: X.outer) := fun there => by
    obtain ⟨_, o, at2, differs⟩ := D.fly.2.2.1.mem there
    exact differs _ ((Option.some.inj (at2.symm.trans at_)) ▸ isF)
  have notL : a ≠ X.env.locals := fun z => noFrame (List.mem_filterMap.mpr ⟨_, List.mem_cons_self, z ▸ own⟩)
  have notF : a ∉ X.fs := fun there => (List.mem_filterMap.mp there).elim fun e both => noFrame (List.mem_filterMap.mpr ⟨e, List.mem_cons_of_mem _ both.1, both.2⟩)
  exact ⟨oe, at_, z, ⟨vs, isF⟩, D.inv.suite at_ isF D.new notL notF⟩
/-- a clause: the class, the name's slot, the suite's reading -/
structure Clause where
  cv : Value
  i : Nat
  ts : Addr → Value → Option Addr → TS
/-- what the clauses wish of the exception, one behind the other -/
def wishes (K : PySem.W.Frag) (out : WX) (D : Ends) : List Clause → WX
  | [] => out
  | c :: r => wAs K c.cv c.i c.ts (wishes K out D r) D
inductive Clauses (X : Cx) : List ExceptHandler → List Clause → Prop
  | nil : Clauses X [] []
  | cons {x n : Str} {c : Clause} {b₀ : Stmt} {suite : List Stmt} {np pos : Pos} {hds : List ExceptHandler} {l : List Clause} (names : Names X x c.cv) (slot : X.N[c.i]? = some n) (local_ : X.env.kindOf n = some .local)
      (reads : ∀ (a : Addr) (oe : Obj) (cls : Value) (d : Option Addr) (pn : List (Addr × Obj)), Zc cls d oe → (∃ vs, oe.data = .fields vs) → PSs (X.suite a ((a, oe) :: pn)) (b₀ :: suite) (c.ts a cls d)) (r : Clauses X hds l) :
      Clauses X (.ExceptHandler (some (.Name x np)) (some n) (b₀ :: suite) pos :: hds) (c :: l)
variable {D : Ends} {out : WX} {hds : List ExceptHandler} {l : List Clause}
/-- no clause is left: it goes on -/
theorem Down.past (Z : Down X pins σ H cls d a B sI s) (stk : X.stack = X.env :: X.outer) (own : X.env.frame = some X.env.locals) (tk : Takes X out) (w : out cls d σ H) : wpAny (model X.prog X.w) X.A (handleBy (.ref a) X.env []) (SP X pins D) X.xe s := by
  apply wpAny_handleBy_nil
  have fl := Z.fly
  obtain ⟨_, _, _, oe, vs, T, _, _, at_, z, isF, second, _⟩ := id fl
  unfold PySem.passOn
  have has : ¬(Value.ref T == Value.none) = true := by simp
  have up : wpAny (model X.prog X.w) X.A (setFlight (.ref a) X.env.frame) (fun _ s4 => wpAny (model X.prog X.w) X.A (throw (.ref a) : Sem Flow) (SP X pins D) X.xe s4) X.xe s := by
    rw [own]
    refine HandSPX.setFlight_upZ fl fun h4 held more => wpAny_throw (tk _ _ ⟨a, B, sI, pins, σ, H, cls, d, rfl, Z.told, Z.wide, Z.upto.trans more, .inr (.inr ?_), Z.new, Z.same, Z.gens, w⟩)
    rw [stk]
    exact held
  refine wpAny_bind (wpAny_field at_ isF second ?_)
  rw [if_neg has]
  first | exact wpAny_bind (wpAny_pure (wpAny_bind up)) | exact wpAny_bind up
/-- behind a suite the name goes -/
theorem suite_end {i : Nat} {n : Str} {pos : Pos} {oe : Obj} {f : Flow} {s6 : Shared} (ok : X.Ok) (nd : X.N.Nodup) (slot : X.N[i]? = some n) (local_ : X.env.kindOf n = some .local)
    (e : SP (X.suite a ((a, oe) :: (X.pn ++ pins))) [] { nx := fun σ' H' => D.nx (σ'.set i none) H', rt := D.rt, bk := fun σ' H' => D.bk (σ'.set i none) H', ct := fun σ' H' => D.ct (σ'.set i none) H' } f s6) :
    wpAny (model X.prog X.w) X.A (do bindName X.env n .none; unbindBehindTheSuite X.env n pos) (fun _ s7 => SP X pins D f s7) X.xe s6 := by
  cases f with
  | ret u => exact e.elim fun v e => e.elim fun σ6 e => e.elim fun H6 e => gone_ok (e.1.unsuite ok) nd slot local_ fun s7 J => ⟨v, _, H6, J, e.2⟩
  | next => exact e.elim fun σ6 e => e.elim fun H6 e => gone_ok (e.1.unsuite ok) nd slot local_ fun s7 J => ⟨_, H6, J, e.2⟩
  | brk => exact e.elim fun σ6 e => e.elim fun H6 e => gone_ok (e.1.unsuite ok) nd slot local_ fun s7 J => ⟨_, H6, J, e.2⟩
  | cont => exact e.elim fun σ6 e => e.elim fun H6 e => gone_ok (e.1.unsuite ok) nd slot local_ fun s7 J => ⟨_, H6, J, e.2⟩
theorem Down.handled (Z : Down X pins σ H cls d a B sI s) (stk : X.stack = X.env :: X.outer) (own : X.env.frame = some X.env.locals) (nd : X.N.Nodup) (tk : Takes X out) (cs : Clauses X hds l) (w : wishes X.K out D l cls d σ H) :
    wpAny (model X.prog X.w) X.A (handleBy (.ref a) X.env hds) (SP X pins D) X.xe s := by
  induction cs with
  | nil => exact Z.past stk own tk w
  | @cons x n c b₀ suite np pos hds' l' names slot local_ reads r ih =>
    obtain ⟨b, isOf, yes, no⟩ := w
    obtain ⟨oe, at_, z, _, S⟩ := Z.seen own
    refine wpAny_handleBy_cons (codeAny_handlers_test ?_) (fun same => by cases same)
    have kind : PySem.W.Looks (model X.prog X.w) s.heap (typeOf (.ref a)) cls := fun A Q E s1 k q => wpAny_typeOf_ref (k _ _ at_) (z.1 ▸ q)
    have fits := PySem.W.exm_one (M := model X.prog X.w) Z.inv.kIn kind isOf
    have look : ∀ {Q E : Value → Shared → Prop}, Q c.cv s → wpAny (model X.prog X.w) (X.A.mark (some (.ref a))) (eval (.Name x np) X.env) Q E s := fun q =>
      names.2.2.elim (fun m => ld_glob (X := X.suite a ((a, oe) :: (X.pn ++ pins))) S names.1 m q names.2.1) fun m => ld_blt (X := X.suite a ((a, oe) :: (X.pn ++ pins))) S names.1 m.1 m.2.1 q m.2.2 names.2.1
    refine look (fits.here ?_)
    cases b with
    | false => exact ih (no rfl)
    | true =>
      apply codeAny_handlers_suite_as
      refine HandSPX.lands_againZ Z.fly fun h4 fl4 up4 => ?_
      have Z4 := Z.move fl4 up4
      obtain ⟨oe4, at4, z4, fs4, S4⟩ := Z4.seen own
      refine store_ok (X := X.suite a ((a, oe4) :: (X.pn ++ pins))) (v := .ref a) S4 nd slot (.inl local_) rfl (fun s5 S5 => ?_) (.inr local_)
      exact wpAny_mono ((reads a oe4 cls d (X.pn ++ pins) z4 fs4).run [] s5 _ H _ S5 (yes rfl a Z.new)) (fun f s6 e => suite_end Z.inv.ok nd slot local_ e) fun _ _ none_ => none_.elim
theorem ps_try_all {body : List Stmt} {pos : Pos} {tb : WX → TS} {h₀ : ExceptHandler} (stk : X.stack = X.env :: X.outer) (own : X.env.frame = some X.env.locals) (nd : X.N.Nodup) (tk : Takes X out)
    (within : ∀ (W : WX) (pn : List (Addr × Obj)) (xe : Value → Shared → Prop), Takes (X.tr pn xe) W → PassesOwn (model X.prog X.w) X.A X.env xe → PSs (X.tr pn xe) body (tb W)) (cs : Clauses X (h₀ :: hds) l) :
    PS X (.Try body (h₀ :: hds) [] [] pos) (fun D σ H => tb (wishes X.K out D l) D σ H) := by
  constructor
  intro pins s σ H D I h
  have frames : X.A.frames = some (X.env :: X.outer) := stk ▸ I.ok.frames
  apply wpAny_Try_except
  let xe : Value → Shared → Prop := fun e s₁ => wpAny (model X.prog X.w) X.A (noteFrame e X.env) (fun _ s₂ => wpAny (model X.prog X.w) X.A (setFlight e none) (fun _ s₃ => wpAny (model X.prog X.w) X.A (handleBy e X.env (h₀ :: hds)) (SP X pins D) X.xe s₃) X.xe s₂) X.xe s₁
  have caught : Takes (X.tr (X.pn ++ pins) xe) (wishes X.K out D l) := by
    rintro _ s' ⟨a, B, sI, _, σ', H', cls, d, rfl, J, wide, upto, sky, new, same, gens, w⟩
    have sky' : Sky B (X.env :: X.outer) a (Zc cls d) X.env.locals s'.heap := stk ▸ sky
    refine Sky.land Zc.steady frames own sky' fun h3 fl3 up3 => ?_
    have Z : Down X pins σ' H' cls d a B sI { s' with heap := h3 } := ⟨J.ofTry I.ok, wide, upto.trans up3, fl3, new, same, gens⟩
    exact Z.handled stk own nd tk cs w
  refine wpAny_mono ((within _ (X.pn ++ pins) xe caught PassesOwn.looking).run [] s σ H D (I.toTry _) h) (fun f s1 e => ?_) fun _ _ z => z
  cases f with
  | ret u => exact e.elim fun v e => e.elim fun σ1 e => e.elim fun H1 e => ⟨v, σ1, H1, e.1.ofTry I.ok, e.2⟩
  | next => exact e.elim fun σ1 e => e.elim fun H1 e => wpAny_execs_nil ⟨σ1, H1, e.1.ofTry I.ok, e.2⟩
  | brk => exact e.elim fun σ1 e => e.elim fun H1 e => ⟨σ1, H1, e.1.ofTry I.ok, e.2⟩
  | cont => exact e.elim fun σ1 e => e.elim fun H1 e => ⟨σ1, H1, e.1.ofTry I.ok, e.2⟩
end
end DL
namespace DL
open PySem PySem.Spec PyProof.Rows L2
/-! ### the same, over data -/
structure DClause where
  cv : Value
  i : Nat
  ts : Addr → Value → Option Addr → DTS
def forgets (E : DEnds) (i : Nat) : DEnds := { nx := fun ds m => E.nx (ds.set i none) m, rt := E.rt, bk := fun ds m => E.bk (ds.set i none) m, ct := fun ds m => E.ct (ds.set i none) m, ex := fun _ _ _ _ => False }
def dWish (G : CT) (K : PySem.W.Frag) (E : DEnds) : List DClause → EK
  | [] => E.ex
  | c :: r => fun ds cn xs m => ∃ b, PySem.W.exmOne K (.ref (G cn).addr) c.cv = some b ∧ (b = true → (G cn).flds ≠ [] ∧ ∀ a dd, c.ts a (.ref (G cn).addr) (some dd) (forgets E c.i) (ds.set c.i (some (.exc a dd cn xs))) m) ∧ (b = false → dWish G K E r ds cn xs m)
def sTryAll (G : CT) (K : PySem.W.Frag) (tb : DTS) (l : List DClause) : DTS := fun E ds m => tb { E with ex := dWish G K E l } ds m
inductive DClauses (X : Cx) (G : CT) : List ExceptHandler → List DClause → Prop
  | nil : DClauses X G [] []
  | cons {x n : Str} {cv : Value} {i : Nat} {ts : Addr → Value → Option Addr → DTS} {b₀ : Stmt} {suite : List Stmt} {np pos : Pos} {hds : List ExceptHandler} {l : List DClause} (names : Names X x cv) (slot : X.N[i]? = some n) (local_ : X.env.kindOf n = some .local)
      (reads : ∀ (a : Addr) (oe : Obj) (cls : Value) (d : Option Addr) (pn : List (Addr × Obj)), Zc cls d oe → (∃ vs, oe.data = .fields vs) → DSs (X.suite a ((a, oe) :: pn)) G WF (b₀ :: suite) (ts a cls d)) (r : DClauses X G hds l) :
      DClauses X G (.ExceptHandler (some (.Name x np)) (some n) (b₀ :: suite) pos :: hds) (⟨cv, i, ts⟩ :: l)
section
variable {X : Cx} {G : CT} {W : WX} {hds : List ExceptHandler} {l : List DClause}
def lowClause (G : CT) (c : DClause) : Clause := ⟨c.cv, c.i, fun a cls d => lS G WF (c.ts a cls d)⟩
theorem DClauses.low (cs : DClauses X G hds l) : Clauses X hds (l.map (lowClause G)) := by
  induction cs with
  | nil => exact .nil
  | cons names slot local_ reads _ ih => exact .cons (c := lowClause G ⟨_, _, _⟩) names slot local_ reads ih
theorem wish_ok {K : PySem.W.Frag} {F R : Hp} {E : DEnds} {Dd : Ends} (ok : EndsOK G W F R E Dd) : ∀ l : List DClause, XOK G (wishes K W Dd (l.map (lowClause G))) F R (dWish G K E l)
  | [] => ok.ex
  | c :: r => fun ds cn xs m1 F1 σ1 d H1 ⟨b, isOf, yes, no⟩ le st sl xd => by
    refine ⟨b, isOf, fun e a free => ?_, fun e => wish_ok ok r ds cn xs m1 F1 σ1 d H1 (no e) le st sl xd⟩
    obtain ⟨some_, q⟩ := yes e
    obtain ⟨_, _, none_⟩ | ⟨dd, gs, rfl, at_, names, reps⟩ := xd
    · exact absurd none_ some_
    · refine ⟨F1, R, m1, _, forgets E c.i, st, sl.set c.i (.exc at_ names reps), q a dd, ?_, ?_, ?_, ?_, fun _ _ _ _ _ _ _ _ z => z.elim⟩
      · exact fun ds2 m2 F2 σ2 H2 z l2 s2 sl2 => ok.nx _ _ _ _ _ z (le.trans l2) s2 (sl2.forget c.i none)
      · exact fun d2 m2 F2 v2 H2 z l2 s2 r2 => ok.rt _ _ _ _ _ z (le.trans l2) s2 r2
      · exact fun ds2 m2 F2 σ2 H2 z l2 s2 sl2 => ok.bk _ _ _ _ _ z (le.trans l2) s2 (sl2.forget c.i none)
      · exact fun ds2 m2 F2 σ2 H2 z l2 s2 sl2 => ok.ct _ _ _ _ _ z (le.trans l2) s2 (sl2.forget c.i none)
theorem ds_try_all {body : List Stmt} {pos : Pos} {tb : DTS} {h₀ : ExceptHandler} (stk : X.stack = X.env :: X.outer) (own : X.env.frame = some X.env.locals) (nd : X.N.Nodup) (tk : Takes X W)
    (within : ∀ (W : WX) (pn : List (Addr × Obj)) (xe : Value → Shared → Prop), Takes (X.tr pn xe) W → PassesOwn (model X.prog X.w) X.A X.env xe → DSs (X.tr pn xe) G W body tb) (cs : DClauses X G (h₀ :: hds) l) :
    DS X G W (.Try body (h₀ :: hds) [] [] pos) (sTryAll G X.K tb l) :=
  (ps_try_all (out := W) (tb := fun W => lS G W tb) stk own nd tk within cs.low).imp fun Dd σ H ⟨F, R, m, ds, E, st, sl, h, ok⟩ => ⟨F, R, m, ds, { E with ex := dWish G X.K E l }, st, sl, h, ok.nx, ok.rt, ok.bk, ok.ct, wish_ok ok l⟩
end
end DL

/-! repr of dicts; {x!r} -/
namespace DL
open PySem PySem.Spec PyProof.Rows L2
def keyP : Key → PyData
  | .inl i => .int i
  | .inr x => .str x
/-- data that may be a dict of flat values -/
def pyX : D → PyData
  | .dic kvs => .dict (kvs.map fun kv => (keyP kv.1, pyD kv.2))
  | d => pyD d
def shX (d : D) : Str := (pyX d).shown
def flats : List (Key × D) → Bool := fun kvs => kvs.all fun kv => flt kv.2
/-- it can be shown -/
def okX (d : D) : Prop := okR d ∨ ∃ kvs, d = .dic kvs ∧ flats kvs = true ∧ (pyX d).showable = true ∧ (pyX d).depth ≤ 90 ∧ (shX d).length ≤ 2 ^ 24
theorem okR.x {d : D} (h : okR d) : pyX d = pyD d := by
  obtain ⟨k, n, r, _⟩ := h
  cases d <;> first | rfl | exact absurd r.pl (by simp [pln])
theorem flat_reads {h : Heap} {G : CT} {F : Hp} {v : V} {u : Value} {d : D} (rv : RelV v u) (rx : Rep G F v d) (f : flt d = true) : Reads h u (pyD d) [] := by
  cases rx <;> first | exact absurd f Bool.false_ne_true | skip
  · cases (show u = Value.none from rv); simp only [pyD]; exact .none
  · cases (show u = Value.bool _ from rv); simp only [pyD]; exact .bool _
  · obtain ⟨t, rfl⟩ := (show ∃ t, u = Value.int _ t from rv); simp only [pyD]; exact .int _ t
  · obtain ⟨t, rfl⟩ := (show ∃ t, u = Value.str _ t from rv); simp only [pyD]; exact .str _ t
theorem readsAll_flat {h : Heap} : ∀ {l : List Value} {ds : List PyData}, l.length = ds.length → (∀ (i : Nat) v d, l[i]? = some v → ds[i]? = some d → Reads h v d []) → ReadsAll h l ds []
  | [], [], _, _ => .nil
  | v :: l, d :: ds, len, each => .cons (as := []) (bs := []) (each 0 v d rfl rfl) (readsAll_flat (Nat.succ.inj len) fun i w e a b => each (i + 1) w e a b)
  | [], _ :: _, len, _ => absurd len (by simp)
  | _ :: _, [], len, _ => absurd len (by simp)
section
variable {X : Cx} {G : CT} {W : WX} {pins : List (Addr × Obj)} {σ : L2.St} {F R H : Hp} {m : M} {s : Shared}
theorem paired_at {α β : Type} {P : α → β → Prop} : ∀ {l : List α} {r : List β} {i : Nat} {b : β}, Paired P l r → r[i]? = some b → ∃ a, l[i]? = some a ∧ P a b
  | _, _, 0, b, .cons p _, e => ⟨_, rfl, (Option.some.inj e) ▸ p⟩
  | _, _, i + 1, b, .cons _ r, e => paired_at (i := i) r e
/-- a dict of flat values, read off the heap -/
theorem dic_reads {a : Addr} {kvs : List (Key × V)} {xs : List (Key × D)} {ob : Obj} (I : Inv X pins σ H s) (at_ : H a = some (.frz ob (.dK kvs))) (keys : kvs.map (·.1) = xs.map (·.1)) (vals : Reps G F (kvs.map (·.2)) (xs.map (·.2))) (f : flats xs = true) :
    Reads s.heap (.ref a) (pyX (.dic xs)) [a] ∧ a ≠ sysModules := by
  obtain ⟨_, _, notSys, vs, pairs, of_⟩ := (show ObjOk X.prog X.w H s.heap a (.frz ob (.dK kvs)) from I.hok a _ at_)
  obtain ⟨es, ep, ⟨o, oAt, oCls, oData⟩, size, each⟩ := Heap.DictOf.raw of_
  have len : xs.length = es.size := by
    have h1 := congrArg List.length keys
    rw [List.length_map, List.length_map] at h1
    rw [size, ← h1]
    exact Paired.length pairs
  have entry : ∀ (i : Nat) (hi : i < es.size), ∃ (k : Key) (d : D), xs[i]? = some (k, d) ∧ keyIs k es[i].key = true ∧ Reads s.heap es[i].val (pyD d) [] := by
    intro i hi
    obtain ⟨⟨k, u⟩, vAt⟩ : ∃ p, vs[i]? = some p := ⟨vs[i]'(size ▸ hi), List.getElem?_eq_getElem (size ▸ hi)⟩
    obtain ⟨⟨k', v⟩, kAt, same, rel⟩ := paired_at pairs vAt
    obtain ⟨⟨k2, d⟩, xAt⟩ : ∃ p, xs[i]? = some p := ⟨xs[i]'(len ▸ hi), List.getElem?_eq_getElem (len ▸ hi)⟩
    have kk : k' = k2 := by
      have h1 : (kvs.map (·.1))[i]? = some k' := by rw [List.getElem?_map, kAt]; rfl
      rw [keys, List.getElem?_map, xAt] at h1
      exact (Option.some.inj h1).symm
    obtain ⟨v', vAt', rep⟩ := vals.get (i := i) (d := d) (by rw [List.getElem?_map, xAt]; rfl)
    rw [List.getElem?_map, kAt] at vAt'
    obtain rfl : v = v' := Option.some.inj vAt'
    obtain ⟨isKey, isVal⟩ := each i hi k u vAt
    refine ⟨k2, d, xAt, ?_, isVal ▸ flat_reads rel rep (List.all_eq_true.mp f _ (List.mem_of_getElem? xAt))⟩
    rw [← kk, show k' = k from same]
    exact isKey
  refine ⟨?_, by simpa using notSys⟩
  refine Reads.dict (kvs := xs.map fun kv => (keyP kv.1, pyD kv.2)) (as := []) (bs := []) oAt oCls.1 oData ?_ ?_
  · refine readsAll_flat (by simp [len]) fun i v d hv hd => ?_
    rw [List.getElem?_map, Option.map_eq_some_iff] at hv hd
    obtain ⟨e, eAt, rfl⟩ := hv
    obtain ⟨pd, pAt, rfl⟩ := hd
    rw [List.getElem?_map, Option.map_eq_some_iff] at pAt
    obtain ⟨⟨k, y⟩, xAt, rfl⟩ := pAt
    obtain ⟨hi, rfl⟩ := List.getElem?_eq_some_iff.mp eAt
    obtain ⟨k2, d2, xAt2, isKey, _⟩ := entry i (by simpa using hi)
    rw [xAt] at xAt2
    cases xAt2
    rw [Array.getElem_toList]
    rcases keyIs_shape isKey with ⟨j, t, rfl, e⟩ | ⟨y, t, rfl, e⟩ <;> rw [e]
    · exact .int j t
    · exact .str y t
  · refine readsAll_flat (by simp [len]) fun i v d hv hd => ?_
    rw [List.getElem?_map, Option.map_eq_some_iff] at hv hd
    obtain ⟨e, eAt, rfl⟩ := hv
    obtain ⟨pd, pAt, rfl⟩ := hd
    rw [List.getElem?_map, Option.map_eq_some_iff] at pAt
    obtain ⟨⟨k, y⟩, xAt, rfl⟩ := pAt
    obtain ⟨hi, rfl⟩ := List.getElem?_eq_some_iff.mp eAt
    obtain ⟨k2, d2, xAt2, _, reads⟩ := entry i (by simpa using hi)
    rw [xAt] at xAt2
    cases xAt2
    rw [Array.getElem_toList]
    exact reads
/-- what can be shown and is no flat thing, read off the heap -/
theorem ref_reads {v : V} {a : Addr} {d : D} (I : Inv X pins σ H s) (st : Hst G F R H m) (rv : RelV v (.ref a)) (rx : Rep G F v d) (ok : okX d) : ∃ as, Reads s.heap (.ref a) (pyX d) as ∧ ((pyX d).hasDict = true → sysModules ∉ as) := by
  rcases ok with ok | ⟨kvs, rfl, f, _⟩
  · obtain ⟨k, n, r, _⟩ := id ok
    obtain ⟨as, reads⟩ := Dp.reads I (pyD d) v _ (dp_of (K := X.K) st.fz rx r.pl) rv
    rw [ok.x]
    exact ⟨as, reads, PyData.noDict_hsm (plain_noDict d)⟩
  · cases rx with
    | dic h e r =>
      cases (show Value.ref a = Value.ref _ from rv)
      obtain ⟨reads, other⟩ := dic_reads I (st.fz _ _ h) e r f
      exact ⟨_, reads, fun _ there => other (List.mem_singleton.mp there).symm⟩
theorem okX.facts {d : D} (ok : okX d) : (pyX d).showable = true ∧ (pyX d).depth ≤ 90 ∧ (pyX d).shown.length ≤ sizeLine := by
  have line : (2 : Nat) ^ 24 ≤ sizeLine := by first | exact Nat.le_refl _ | decide
  rcases ok with ok | ⟨kvs, rfl, _, h1, h2, h3⟩
  · rw [ok.x]
    obtain ⟨k, n, r, hk, hn⟩ := ok
    exact ⟨r.sh, Nat.le_trans r.dp hk, Nat.le_trans (Nat.le_trans r.len hn) line⟩
  · exact ⟨h1, h2, Nat.le_trans h3 line⟩
def repXD : DR := fun xs m Q => ∃ x, xs = [x] ∧ okX x ∧ Q (.str (shX x)) m
theorem cd_reprX {k : Nat} {hot : Bool} (hr : Rm hot true k X.A) : CallD X G (.builtin "repr") repXD := by
  rintro pins s σ H vs us Q I r ⟨F, R, m, xs, Q0, st, rr, ⟨x, rfl, ok, q⟩, kk⟩
  rcases id ok with okr | ⟨kvs, rfl, _⟩
  · refine cd_repr (G := G) hr pins s σ H vs us Q I r ⟨F, R, m, [x], Q0, st, rr, ⟨okr, ?_⟩, kk⟩
    have e : shX x = shD x := congrArg PyData.shown okr.x
    exact e ▸ q
  · cases rr with
    | cons rx rr =>
      cases rr
      cases r with
      | cons rv r =>
        cases r
        rename_i v u
        obtain ⟨a, rfl⟩ : ∃ a : Addr, u = Value.ref a := by cases rx; exact ⟨_, rv⟩
        obtain ⟨as, reads, hsm⟩ := ref_reads I st rv rx ok
        obtain ⟨h1, h2, h3⟩ := ok.facts
        have hu := hr.room.un
        exact repr_of_reads' reads h1 hsm (hr.gd rfl) (by omega) (fun _ _ z => z) (fun h' u tk kept => ⟨.str _, H, I.kept kept, ⟨u, rfl⟩, kk _ m F _ H q (Le.refl F) st (.str _)⟩) h3
/-- {x!r} -/
def eFmtR (te : DTE) : DTE := fun x ds m Q => te x ds m fun d m1 => okX d ∧ Q (.str (shX d)) m1
theorem de_fmtR {k : Nat} {hot : Bool} {e : Expr} {te : DTE} {pos : Pos} (hr : Rm hot true k X.A) (he : DE X G W e te) : DE X G W (.FormattedValue e 114 none pos) (eFmtR te) := by
  constructor
  rintro pins s σ H Q I ⟨F, R, m, ds, Q0, x, st, sl, h, xk, kk⟩
  have run := he.run pins s σ H (fun v H1 => ∃ F1 m1 d, Le F F1 ∧ Hst G F1 R H1 m1 ∧ Rep G F1 v d ∧ okX d ∧ Q0 (.str (shX d)) m1) I ⟨F, R, m, ds, _, x, st, sl, h, xk, fun d m1 F1 v H1 z l s1 r1 => ⟨F1, m1, d, l, s1, r1, z⟩⟩
  refine wpAny_FormattedValue_repr (wpAny_mono run ?_ fun _ _ z => z)
  rintro u s1 ⟨v, H1, I1, rv, F1, m1, d, l, s1', rx, ok, q⟩
  obtain ⟨h1, h2, h3⟩ := ok.facts
  have hu := hr.room.un
  have fin : ∀ (t : Tok) (s' : Shared), Inv X pins σ H1 s' → wpAny (model X.prog X.w) X.A (formatField (.str (shX d) t) Str.empty) (EP X pins σ Q) X.xe s' := fun t s' J =>
    wpAny_formatField_str ⟨.str (shX d), H1, J, ⟨t, rfl⟩, kk _ _ _ _ _ q l s1' (.str _)⟩ ⟨.str (shX d), H1, J.tok _, ⟨_, rfl⟩, kk _ _ _ _ _ q l s1' (.str _)⟩ h3
  have viaRef : ∀ a : Addr, u = .ref a → wpAny (model X.prog X.w) X.A (pyReprObj u) (fun r s₂ => wpAny (model X.prog X.w) X.A (formatField r Str.empty) (EP X pins σ Q) X.xe s₂) X.xe s1 := by
    rintro a rfl
    obtain ⟨as, reads, hsm⟩ := ref_reads I1 s1' rv rx ok
    exact pyReprObj_of_reads reads h1 hsm (hr.gd rfl) (by omega) (fun _ _ z => z) (fun h' t tk kept => fin t _ (I1.kept kept)) h3
  have nope : (match d with | .ty _ | .ref _ | .ob _ _ | .exc _ _ _ _ | .fn _ _ _ _ _ => true | _ => false) = true → False := fun no => by
    rcases ok with ⟨_, _, r, _⟩ | ⟨_, rfl, _⟩
    · have := r.pl
      cases d <;> first | exact Bool.false_ne_true no | exact absurd this (by simp [pln])
    · exact Bool.false_ne_true no
  cases rx with
  | non => cases (show u = Value.none from rv); exact pyReprObj_none (fin _ _ (I1.tok _))
  | bl b =>
    cases (show u = Value.bool b from rv)
    have e : shX (.bl b) = (if b then ("True" : Str) else ("False" : Str)) := by simp only [shX, pyX, pyD, PyData.shown]
    exact pyReprObj_bool (e ▸ fin _ _ (I1.tok _))
  | int i =>
    obtain ⟨t, rfl⟩ := (show ∃ t, u = Value.int i t from rv)
    have e : shX (.int i) = ((toString i : String) : Str) := by simp only [shX, pyX, pyD, PyData.shown]
    simp only [pyX, pyD, PyData.showable] at h1
    exact pyReprObj_int (of_decide_eq_true h1) (e ▸ fin _ _ (I1.tok _))
  | str y =>
    obtain ⟨t, rfl⟩ := (show ∃ t, u = Value.str y t from rv)
    have e : shX (.str y) = reprText y := by simp only [shX, pyX, pyD, PyData.shown]
    exact pyReprObj_str (e ▸ fin _ _ (I1.tok _)) (e ▸ h3)
  | tup h r => exact viaRef _ rv
  | lst h r => exact viaRef _ rv
  | lsz h r => exact viaRef _ rv
  | dic h e r => exact viaRef _ rv
  | ty n => exact (nope rfl).elim
  | ref n => exact (nope rfl).elim
  | ob h e r => exact (nope rfl).elim
  | exc h e r => exact (nope rfl).elim
  | fn h r => exact (nope rfl).elim
end
end DL

/-! repr of a tuple of own objects -/
namespace PySem.W
open PySem PySem.Spec PySem.Calls PyProof.Rows
section
variable {prog : Program} {w : World} {A : Around} {E : Value → Shared → Prop} {s : Shared} {K : Frag} {x C f : Addr} {ox : Obj} {od : Option Obj}
/-- an object of the program's own, shown within another -/
theorem under_own {base : Nat} {Q : Str → Shared → Prop} (line : base ≤ sizeLine) (hu : A.units < cLine) (kin : K.In s.heap) (inst : InstAt s.heap x ox C od) (own : findIn K (.ref C) "__repr__" = some (some (.ref f))) (isF : isFn K (.ref f) = true)
    (ans : wpAny (model prog w) A (call (.ref f) [.ref x]) (fun v s' => ∃ y t, v = .str y t ∧ Q y s') E s) : wpAny (model prog w) A (pyReprUnder base (.ref x)) Q E s := by
  have kind := inst.type (M := model prog w)
  have found := looks_findIn (M := model prog w) kin own
  apply wpAny_pyReprUnder_ref line
  delta pyReprObjUnder pyReprObjBy
  dsimp only
  refine wpAny_bind (wpAny_cRoomFor hu (wpAny_bind (wpAny_bind (kind.here (found.here ?_)))))
  rw [if_neg (show ¬(some (Value.ref f)).isNone = true by simp)]
  have told : wpAny (model prog w) A (call (.ref f) ([.ref x] ++ [])) (fun v s' => ∃ y t, v = .str y t ∧ Q y s') E s := ans
  have fin : wpAny (model prog w) A (call (.ref f) ([.ref x] ++ [])) (fun v s' => wpAny (model prog w) A (pure (some v)) (fun r s' => ∃ y t, r = some (.str y t) ∧ Q y s') E s') E s := by
    refine wpAny_mono told ?_ fun _ _ z => z
    rintro _ s' ⟨y, t, rfl, q⟩
    exact wpAny_pure ⟨y, t, rfl, q⟩
  have asked : wpAny (model prog w) A (callSpecialIfBoundBy? (fun g first => match reprUnder? g, first with | some twin, [self] => call twin [self, rawInt base] | _, _ => call g (first ++ [])) (.ref x) (Str.ofString "__repr__")) (fun r s' => ∃ y t, r = some (.str y t) ∧ Q y s') E s := by
    delta callSpecialIfBoundBy? bindSpecialIfBound?
    refine wpAny_holding (wpAny_bind (wpAny_bind (wpAny_bind (kind.here (found.here (wpAny_bind (wpAny_askSetting (wpAny_ite ?_))))))))
    have bound := bind_fn (M := model prog w) kin (.ref x) (beq_iff_eq.mp isF)
    split
    · exact wpAny_bind (bound.here (wpAny_pure (wpAny_bind (by exact fin))))
    · exact wpAny_tryCatch (wpAny_bind (bound.here (wpAny_pure (wpAny_bind (by exact fin)))))
  refine wpAny_bind (wpAny_mono asked ?_ fun _ _ z => z)
  rintro _ s' ⟨y, t, rfl, q⟩
  refine wpAny_bind (wpAny_isInstance (typeIs_str _ _ _) isSubtype_str_str ?_)
  first | exact wpAny_pure ⟨y, t, rfl, q⟩ | (rw [if_pos rfl]; exact wpAny_pure ⟨y, t, rfl, q⟩)
end
end PySem.W
namespace DL
open PySem PySem.Spec PyProof.Rows L2
/-- the elements' texts, one behind the other -/
def allO (c : Nat) (sp : DSp) : List D → M → (List Str → M → Prop) → Prop
  | [], m, Q => Q [] m
  | d :: r, m, Q => (∃ ys, d = .ob c ys) ∧ sp [d] m (fun z m1 => ∃ y, z = .str y ∧ y.length ≤ 100000 ∧ allO c sp r m1 fun ts m2 => Q (y :: ts) m2) fun _ _ _ => False
/-- repr((a, b, ..)), all of the one class -/
def tupO (c : Nat) (sp : DSp) : DR := fun xs m Q => ∃ ds, xs = [.tup ds] ∧ ds.length ≤ 100 ∧ allO c sp ds m fun ts m1 => (tupleText ts).length ≤ 2 ^ 23 ∧ Q (.str (tupleText ts)) m1
theorem tup_depth {A : Around} {args : Args} : (A.under (.builtin "tuple.__repr__" args)).depth ≤ A.depth + 1 := by
  first | exact Nat.le_refl _ | simp [Around.under, Code.weight, Code.isCreation, Code.isGuard, Code.isCaller, Code.frames, Code.isFrame, guardIds]
theorem tup_frames {A : Around} {args : Args} : (A.under (.builtin "tuple.__repr__" args)).frames = A.frames := by
  first | rfl | simp [Around.under, Code.envs, Code.isFrame, pushEnvs] | (cases A with | mk a b c d e => cases c <;> rfl)
theorem Rm.tup {hot grd : Bool} {k : Nat} {A : Around} (r : Rm hot grd (k + 1) A) (args : Args) : Rm hot false k (A.under (.builtin "tuple.__repr__" args)) :=
  ⟨⟨by have := r.room.dp; have := tup_depth (A := A) (args := args); omega, by have := r.room.un; rw [units_under_tuple_repr]; omega⟩, r.calm, Bool.noConfusion⟩
section
variable {X : Cx} {G : CT} {hot : Bool} {k c : Nat} {f : Addr} {fd : FuncData} {ps : List Str} {sp : DSp} {A : Around} {pins : List (Addr × Obj)} {σ : L2.St}
theorem fold_own (own : Own X.K (G c).addr "__repr__" f) (Fn : FnG hot false X.prog X.w X.K X.mg X.base k f fd ps (spL G sp)) (room : Rm hot false (k + 1) A) (fr : A.frames = X.A.frames) (bd : Binds X.K fd ps []) {F0 R : Hp} {Q : (Array Str × Nat) → Shared → Prop} :
    ∀ (ds : List D) (vs : List V) (us : List Value) (acc : Array Str) (n : Nat) (s : Shared) (H F1 : Hp) (m : M) (Q0 : List Str → M → Prop), Inv X pins σ H s → Le F0 F1 → Hst G F1 R H m → Reps G F1 vs ds → Vals vs us → n + 100002 * ds.length < sizeLine → allO c sp ds m Q0 →
      (∀ (ts : List Str) (n' : Nat) (s' : Shared) (H' F' : Hp) (m' : M), ts.length = ds.length → Inv X pins σ H' s' → Le F0 F' → Hst G F' R H' m' → Q0 ts m' → Q ⟨acc ++ ts.toArray, n'⟩ s') →
      wpAny (model X.prog X.w) A (forIn us (⟨acc, n⟩ : (Array Str × Nat)) tupBody) Q X.xe s
  | [], _, _, acc, n, s, H, F1, m, Q0, I, le, st, .nil, .nil, _, h, go => by
    rw [List.forIn_nil]
    exact wpAny_pure (by simpa using go [] n s H F1 m rfl I le st h)
  | d :: ds, _, _, acc, n, s, H, F1, m, Q0, I, le, st, .cons (v := v) (vs := vs) rx rr, .cons (b := u) (l₂ := us) rv r, line, ⟨⟨ys, isO⟩, h⟩, go => by
    subst isO
    have rx' := rx
    cases rx with
    | @ob a dx _ fs _ hh ee rg =>
      cases (show u = Value.ref a from rv)
      obtain ⟨mA, O, _⟩ := ins_get I.hok (st.fz _ _ hh)
      obtain ⟨od, J, _⟩ := O.look
      rw [List.length_cons] at line
      rw [List.forIn_cons]
      have ans := run_G0 (E := X.xe) (X := X) (A := A) (pins := pins) (σ := σ) (Q := fun v H' => ∃ y, v = .str y ∧ y.length ≤ 100000 ∧ ∃ F' m', Le F1 F' ∧ Hst G F' R H' m' ∧ allO c sp ds m' fun ts m2 => Q0 (y :: ts) m2) (Fn.mono (Nat.le_succ k)) room fr bd I (.cons refV .nil)
        (spL_of0 st (.cons rx' .nil) h (by
          rintro z m' F' w H' ⟨y, rfl, short, more⟩ l s' rz
          cases rz
          exact ⟨y, rfl, short, F', m', l, s', more⟩))
      have shown := PySem.W.under_own (base := n + 1) (Q := fun y s' => y.length ≤ 100000 ∧ ∃ H' F' m', Inv X pins σ H' s' ∧ Le F1 F' ∧ Hst G F' R H' m' ∧ allO c sp ds m' fun ts m2 => Q0 (y :: ts) m2) (by omega) room.u0 I.kIn J own.at_ own.fn (wpAny_mono ans (by
          rintro z s' ⟨w, H', I', rw_, y, rfl, short, F', m', l, st', more⟩
          obtain ⟨t, rfl⟩ := (show ∃ t, z = Value.str y t from rw_)
          exact ⟨y, t, rfl, short, H', F', m', I', l, st', more⟩) fun _ _ z => z)
      refine wpAny_bind (wpAny_bind (wpAny_mono shown ?_ fun _ _ z => z))
      rintro y s' ⟨short, H', F', m', I', l, st', more⟩
      refine wpAny_pure (fold_own own Fn room fr bd ds vs us (acc.push y) (n + (y.length + 2)) s' H' F' m' _ I' (le.trans l) st' (rr.le l) r (by omega) more ?_)
      intro ts n' s2 H2 F2 m2 len I2 l2 st2 q
      have e := go (y :: ts) n' s2 H2 F2 m2 (by simp [len]) I2 l2 st2 q
      simpa using e
theorem cd_tupO (own : Own X.K (G c).addr "__repr__" f) (Fn : FnG hot false X.prog X.w X.K X.mg X.base k f fd ps (spL G sp)) (room : Rm hot true (k + 3) X.A) (bd : Binds X.K fd ps []) : CallD X G (.builtin "repr") (tupO c sp) := by
  rintro pins s σ H vs us Q I r ⟨F0, R, m, xs, Q0, st, rr, ⟨ds, rfl, few, h⟩, kk⟩
  cases rr with
  | cons rx rr =>
    cases rr
    cases r with
    | cons rv r =>
      cases r
      cases rx with
      | @tup p ws _ hp rc =>
        rename_i u
        cases (show u = Value.ref p from rv)
        obtain ⟨_, its, vals, o, at_, cls, n, data⟩ := (show ObjOk X.prog X.w H s.heap p (.tup ws) from I.hok p _ (st.fz _ _ hp))
        have kind : s.TypeIs (.ref p) "tuple" := ⟨o, at_, cls⟩
        have guards : X.A.in1.guards = some [] := room.gd rfl
        have line : 100002 * ds.length < sizeLine := by
          rw [sizeLine_eq]
          omega
        refine call_repr_slot (by have := room.room.un; omega) kind PySem.F.slot_tuple_repr ?_
        apply wpAny_call
        refine codeAny_call_builtin_own (Code.quiet_builtin _ (by decide +kernel)) PySem.F.entry_tuple_repr (PySem.F.slot_tuple_repr.check _ _ _ _ _ _ _ _ kind (PySem.F.args_tuple_repr_1 _) ?_)
        show wpOwn _ _ _ (Builtin.tupleReprAt 0 ⟨[.ref p], []⟩) _ _ _
        rw [tuple_repr_tree, tupleReprUnderWay_eq]
        refine wpOwn_bind (wpOwn_stackTailAny guards (tupGuardF_off _) (tupGuardF_pos _) (wpOwn_of_wpAny ?_))
        show wpAny _ _ (tupleReprRest 0 (.ref p)) _ _ _
        delta tupleReprRest Builtin.Tuple.tupleItemsOf
        refine wpAny_bind (wpAny_bind (wpAny_seqItems at_ data (wpAny_pure ?_)))
        rw [← Array.forIn_toList]
        refine wpAny_bind (fold_own (F0 := F0) own Fn (room.in1.tup _) tup_frames bd ds ws _ #[] 0 s H F0 m _ I (Le.refl F0) st rc (by simpa using vals) (by simpa using line) h ?_)
        rintro ts n' s' H' F' m' len I' le st' ⟨short, q⟩
        have size : its.toArray.size = ts.length := by rw [len, ← rc.length, List.size_toArray]; exact (Paired.length vals).symm
        have whole : (Str.ofString "(" ++ (Str.ofString ", ").join (#[] ++ ts.toArray, n').fst.toList ++ Str.ofString (if (its.toArray.size == 1) = true then ",)" else ")")) = tupleText ts := by simp [tupleText, size]
        rw [whole]
        have small : (tupleText ts).length ≤ sizeLine := by rw [sizeLine_eq]; omega
        have fin : EP X pins σ Q (.str (tupleText ts) s'.toks) { s' with toks := s'.toks + 1 } := ⟨.str _, H', I'.tok _, ⟨_, rfl⟩, kk _ _ _ _ _ q le st' (.str _)⟩
        refine wpAny_bind (wpAny_mkStr ?_ small)
        exact wpAny_pure ⟨_, _, rfl, fin⟩
end
end DL

/-! own operators beside values of any kind -/
namespace PySem.W
open PySem PySem.Spec PySem.Calls PyProof.Rows
section
variable {prog : Program} {w : World} {A : Around} {E : Value → Shared → Prop} {s : Shared} {K : Frag} {x C f : Addr} {ox : Obj} {od : Option Obj} {b tb : Value} {T : String}
/-- what the right side's class tells of an operator's name -/
structure RightKind (prog : Program) (w : World) (h : Heap) (C : Addr) (nm : String) (b tb : Value) : Prop where
  kind : Looks (model prog w) h (typeOf b) tb
  other : (Value.ref C == tb) = false
  fills : ∃ r, Looks (model prog w) h (fillsNumberSlot tb nm) r
  apart : Looks (model prog w) h (isSubtype tb (.ref C)) false
  inPy : ∃ p, Looks (model prog w) h (numberSlotInPython tb nm) p
  back : ∃ o, Looks (model prog w) h (typeLookup tb (dunderR nm)) o
/-- x op b by the own method, whatever b is -/
theorem bin_left {op : Operator} {rc : Option Value} {Q : Value → Shared → Prop} (kin : K.In s.heap) (inst : InstAt s.heap x ox C od) (first : selfFirst K C = true) (own : findIn K (.ref C) (PySem.dunder op.info.2) = some (some (.ref f))) (isF : isFn K (.ref f) = true)
    (refl : findIn K (.ref C) (dunderR op.info.2) = some rc) (plain : rc = none ∨ ∃ g : Addr, rc = some (.ref g)) (R : RightKind prog w s.heap C op.info.2 b tb) (ans : wpAny (model prog w) A (call (.ref f) [.ref x, b]) (CmpBack Q) E s) : wpAny (model prog w) A (binaryOp op (.ref x) b) Q E s := by
  obtain ⟨row, more, looked, line⟩ := ksp_first first
  have kx := inst.type (M := model prog w)
  have fx : Looks (model prog w) s.heap (fillsNumberSlot (.ref C) op.info.2) true := fills_K kin looked line own
  have px : Looks (model prog w) s.heap (numberSlotInPython (.ref C) op.info.2) true := ksp_inPy kin own refl plain
  have one := ksp_try kin inst own isF ans
  obtain ⟨kb, other, ⟨r, fb⟩, apart, ⟨p, pb⟩, ⟨o, bb⟩⟩ := R
  have way : wpAny (model prog w) A (binaryOp1 op.info.2 (.ref x) b) (fun r s' => ∃ v, r = some v ∧ Q v s') E s := by
    have fin : ∀ (k : Option Value → Sem (Option Value)), (∀ v, k (some v) = pure (some v)) → wpAny (model prog w) A (tryMethod (.ref x) (PySem.dunder op.info.2) b >>= k) (fun r s' => ∃ v, r = some v ∧ Q v s') E s := fun k hk => by
      refine wpAny_bind (wpAny_mono one ?_ fun _ _ z => z)
      rintro _ s' ⟨v, rfl, q⟩
      rw [hk]
      exact wpAny_pure ⟨v, rfl, q⟩
    delta binaryOp1
    dsimp only
    refine wpAny_bind (kx.here (wpAny_bind (kb.here (wpAny_bind (fx.here ?_)))))
    rw [if_neg (Bool.eq_false_iff.mp other)]
    refine wpAny_bind (fb.here ?_)
    cases r with
    | false =>
      simp only [Bool.and_false, Bool.false_eq_true, ↓reduceIte, pure_bind, Bool.false_and]
      exact fin _ fun v => rfl
    | true =>
      simp only [Bool.and_self, ↓reduceIte]
      refine wpAny_bind (apart.here ?_)
      simp only [Bool.false_eq_true, ↓reduceIte, pure_bind, Bool.not_false, Bool.and_self]
      refine wpAny_bind (px.here ?_)
      simp only [↓reduceIte]
      refine wpAny_bind (pb.here ?_)
      cases p with
      | false =>
        simp only [Bool.not_false, ↓reduceIte]
        refine wpAny_bind (bb.here ?_)
        exact fin _ fun v => rfl
      | true =>
        simp only [Bool.not_true, Bool.false_eq_true, ↓reduceIte]
        exact fin _ fun v => rfl
  delta binaryOp
  refine wpAny_holding (wpAny_bind (wpAny_mono way ?_ fun _ _ z => z))
  rintro _ s' ⟨v, rfl, q⟩
  exact wpAny_pure q
/-- a built-in kind at the right -/
theorem rightBuiltin {nm : String} {fo ro : Option Value} (kin : K.In s.heap) (kind : s.TypeIs b T) (h1 : findIn K (.type T) (PySem.dunder nm) = some fo) (h2 : findIn K (.type T) (dunderR nm) = some ro) (apart : subIn K (.type T) (.ref C) = some false) (kb : Looks (model prog w) s.heap (typeOf b) (.type T)) : RightKind prog w s.heap C nm b (.type T) :=
  ⟨kb, beq_eq_false_iff_ne.mpr Value.noConfusion, ⟨_, ksp_fillsT kin h1 h2⟩, looks_subIn kin apart, ⟨_, Looks.of_pure rfl⟩, ⟨_, looks_findIn kin h2⟩⟩
end
end PySem.W
namespace DL
open PySem PySem.Spec PyProof.Rows L2
/-! ### kinds -/
def kT : D → Option String
  | .non => some "NoneType"
  | .bl _ => some "bool"
  | .int _ => some "int"
  | .str _ => some "str"
  | .tup _ => some "tuple"
  | .lst _ | .scr _ => some "list"
  | .dic _ => some "dict"
  | _ => none
section
variable {X : Cx} {G : CT} {W : WX} {pins : List (Addr × Obj)} {σ : L2.St} {F R H : Hp} {m : M} {s : Shared} {v : V} {u : Value} {d : D} {T : String}
structure IsKind (X : Cx) (s : Shared) (u : Value) (T : String) : Prop where
  is : s.TypeIs u T
  looks : PySem.W.Looks (model X.prog X.w) s.heap (typeOf u) (.type T)
theorem IsKind.ref {a : Addr} {o : Obj} (at_ : s.heap.get? a = some o) (cls : o.cls = .type T) : IsKind X s (.ref a) T := ⟨⟨o, at_, cls⟩, fun A Q E s1 k q => wpAny_typeOf_ref (k _ _ at_) (cls ▸ q)⟩
theorem kind_of (I : Inv X pins σ H s) (st : Hst G F R H m) (rv : RelV v u) (rx : Rep G F v d) (h : kT d = some T) : IsKind X s u T := by
  cases rx with
  | non => cases (show u = Value.none from rv); cases h; exact ⟨rfl, .of_pure rfl⟩
  | bl b => cases (show u = Value.bool b from rv); cases h; exact ⟨rfl, .of_pure rfl⟩
  | int i => obtain ⟨t, rfl⟩ := (show ∃ t, u = Value.int i t from rv); cases h; exact ⟨rfl, .of_pure rfl⟩
  | str y => obtain ⟨t, rfl⟩ := (show ∃ t, u = Value.str y t from rv); cases h; exact ⟨rfl, .of_pure rfl⟩
  | @tup a vs xs hh r =>
    cases (show u = Value.ref a from rv)
    cases h
    obtain ⟨_, its, _, o, at_, cls, _⟩ := (show ObjOk X.prog X.w H s.heap a (.tup vs) from I.hok a _ (st.fz _ _ hh))
    exact .ref at_ cls
  | @lst a vs xs hh r =>
    cases (show u = Value.ref a from rv)
    cases h
    obtain ⟨_, its, n, _, at_⟩ := (show ObjOk X.prog X.w H s.heap a (.lst vs) from I.hok a _ (st.fz _ _ hh))
    exact .ref at_ rfl
  | @lsz a o vs xs hh r =>
    cases (show u = Value.ref a from rv)
    cases h
    obtain ⟨at_, _, its, n, _, at2⟩ := (show ObjOk X.prog X.w H s.heap a (.frz o (.lst vs)) from I.hok a _ (st.fz _ _ hh))
    exact .ref at2 rfl
  | @dic a ob kvs xs hh e r =>
    cases (show u = Value.ref a from rv)
    cases h
    obtain ⟨_, _, _, _, _, o, _, _, at_, exact_, _⟩ := (show ObjOk X.prog X.w H s.heap a (.frz ob (.dK kvs)) from I.hok a _ (st.fz _ _ hh))
    exact .ref at_ exact_.1
  | ty n => cases h
  | ref a => cases h
  | ob hh e r => cases h
  | exc hh e r => cases h
  | fn hh r => cases h
/-- what the written part tells of the kinds beside the class C, for the operator of name nm -/
structure Beside (K : PySem.W.Frag) (C : Addr) (nm : String) (T : String) : Prop where
  op : ∃ fo, PySem.W.findIn K (.type T) (PySem.dunder nm) = some fo
  ro : ∃ ro, PySem.W.findIn K (.type T) (dunderR nm) = some ro
  apart : PySem.W.subIn K (.type T) (.ref C) = some false
/-- another class at the right -/
structure Beside2 (prog : Program) (w : World) (K : PySem.W.Frag) (C D : Addr) (nm : String) : Prop where
  ne : C ≠ D
  sub : PySem.W.subIn K (.ref D) (.ref C) = some false
  fills : ∃ r, ∀ h : Heap, K.In h → PySem.W.Looks (model prog w) h (fillsNumberSlot (.ref D) nm) r
  inPy : ∃ p, ∀ h : Heap, K.In h → PySem.W.Looks (model prog w) h (numberSlotInPython (.ref D) nm) p
  back : ∃ o, PySem.W.findIn K (.ref D) (dunderR nm) = some o
/-- x op d, x of class c, d of a kind of Ts or of a class of Cs -/
def rAny (c : Nat) (Ts : List String) (Cs : List Nat) (sp : DSp) : DX2 := fun p q m Q x => (∃ xs, p = .ob c xs) ∧ ((∃ T, kT q = some T ∧ T ∈ Ts) ∨ ∃ e ys, q = .ob e ys ∧ (e = c ∨ e ∈ Cs)) ∧ sp [p, q] m Q x
variable {hot grd : Bool} {k c : Nat} {f : Addr} {fd : FuncData} {ps : List Str} {sp : DSp} {Ts : List String} {Cs : List Nat}
theorem ox_any {op : Operator} {rc : Option Value} (hO : Own X.K (G c).addr (PySem.dunder op.info.2) f) (hc : PySem.W.selfFirst X.K (G c).addr = true) (refl : PySem.W.findIn X.K (.ref (G c).addr) (dunderR op.info.2) = some rc) (plain : rc = none ∨ ∃ g : Addr, rc = some (.ref g))
    (hT : ∀ T ∈ Ts, Beside X.K (G c).addr op.info.2 T) (hC : ∀ e ∈ Cs, Beside2 X.prog X.w X.K (G c).addr (G e).addr op.info.2) (Fn : FnG hot grd X.prog X.w X.K X.mg X.base k f fd ps (spL G sp)) (hr : Rm hot grd k X.A) (hb : Binds X.K fd ps []) (tk : Takes X W) : OpX X G W (binaryOp op) (rAny c Ts Cs sp) := by
  rintro pins s σ H x y v u Q F0 R m dx dy Q0 x0 I rx ry st px py ⟨⟨xs, rfl⟩, right, q⟩ kq kx
  have px' := px
  cases px with
  | @ob a dx _ fs _ hh ee rr =>
    cases (show v = .ref a from rx)
    obtain ⟨mA, O, _⟩ := ins_get I.hok (st.fz _ _ hh)
    obtain ⟨od, J, _⟩ := O.look
    have ans := wpAny_mono (run_sp (Q := Q) (pins := pins) Fn hr rfl hb tk I (.cons refV (.cons ry .nil)) st (.cons px' (.cons py .nil)) q kq kx) (fun r s' hq => cmpBack hq) fun _ _ e => e
    rcases right with ⟨T, isT, mem⟩ | ⟨e, ys, rfl, cls⟩
    · have kd := kind_of I st ry py isT
      obtain ⟨⟨fo, h1⟩, ⟨ro, h2⟩, apart⟩ := hT T mem
      exact PySem.W.bin_left I.kIn J hc hO.at_ hO.fn refl plain (PySem.W.rightBuiltin I.kIn kd.is h1 h2 apart kd.looks) ans
    · cases py with
      | @ob a' dx' _ fs' _ hh' ee' rr' =>
        cases (show u = .ref a' from ry)
        obtain ⟨mB, O', _⟩ := ins_get I.hok (st.fz _ _ hh')
        obtain ⟨od', J', _⟩ := O'.look
        rcases cls with rfl | mem
        · obtain ⟨m0, hF⟩ := I.fr
          exact PySem.W.binop_K (op := op) hF I.ok.mod.kin J J'.type hc hO.at_ hO.fn ans
        · obtain ⟨ne, sub, ⟨r, fills⟩, ⟨p, inPy⟩, ⟨o, back⟩⟩ := hC e mem
          refine PySem.W.bin_left I.kIn J hc hO.at_ hO.fn refl plain ⟨J'.type, ?_, ⟨r, fills _ I.kIn⟩, PySem.W.looks_subIn I.kIn sub, ⟨p, inPy _ I.kIn⟩, ⟨o, PySem.W.looks_findIn I.kIn back⟩⟩ ans
          exact beq_eq_false_iff_ne.mpr fun z => ne (Value.ref.inj z)
end
end DL
namespace PySem.W
open PySem PySem.Spec PySem.Calls PyProof.Rows
section
variable {prog : Program} {w : World} {A : Around} {E : Value → Shared → Prop} {s : Shared} {K : Frag} {x C f : Addr} {ox : Obj} {od : Option Obj} {b : Value} {T : String}
/-- a built-in comparison ends with: not for me -/
abbrev Away (prog : Program) (w : World) (A : Around) (E : Value → Shared → Prop) (s : Shared) (B : Builtin) (b : Value) (x : Addr) : Prop :=
  wpAny (model prog w) A (B ⟨[b, .ref x], []⟩) (fun fin s' => ∃ u, fin = .done (.ret u) ∧ u = .notImplemented ∧ s' = s) E s
theorem noInt {Q : Option Int → Shared → Prop} (inst : InstAt s.heap x ox C od) (plain : ox.data = .plain) (h : Q none s) : wpAny (model prog w) A (asInt? (.ref x)) Q E s := by
  have at_ := inst.at_
  unfold asInt?
  refine wpAny_bind (wpAny_load at_ ?_)
  rw [plain]
  exact wpAny_pure h
theorem noStr {Q : Option Str → Shared → Prop} (inst : InstAt s.heap x ox C od) (plain : ox.data = .plain) (h : Q none s) : wpAny (model prog w) A (asStr? (.ref x)) Q E s := by
  have at_ := inst.at_
  unfold asStr?
  refine wpAny_bind (wpAny_load at_ ?_)
  rw [plain]
  exact wpAny_pure h
theorem isNo {S : String} (kin : K.In s.heap) (inst : InstAt s.heap x ox C od) (no : subIn K (.ref C) (.type S) = some false) : Looks (model prog w) s.heap (isInstance (.ref x) (.type S)) false := inst.type.andThen (looks_subIn kin no)
theorem two {β : Type} {n : String} {k : Value × List Value → Sem β} {Q : β → Shared → Prop} (h : wpAny (model prog w) A (k (b, [.ref x])) Q E s) : wpAny (model prog w) A (slotArgs n 1 ⟨[b, .ref x], []⟩ >>= k) Q E s :=
  wpAny_bind (wpAny_of_eq (a := (b, [Value.ref x])) (by first | rfl | (simp only [slotArgs]; rfl)) h)
theorem away_int_eq {i : Int} (inst : InstAt s.heap x ox C od) (plain : ox.data = .plain) (self : asInt? b = pure (some i)) : Away prog w A E s Builtin.«int.__eq__» b x := by
  have me : Builtin.Int.intOfSelf b = pure i := by (unfold Builtin.Int.intOfSelf; rw [self]; rfl)
  refine two (wpAny_bind (wpAny_of_eq me (wpAny_bind (m := asInt? (.ref x)) (noInt inst plain ?_))))
  exact wpAny_bind (wpAny_rule (wpAny_pure ⟨_, rfl, rfl, rfl⟩))
theorem away_int_ne {i : Int} (inst : InstAt s.heap x ox C od) (plain : ox.data = .plain) (self : asInt? b = pure (some i)) : Away prog w A E s Builtin.«int.__ne__» b x := by
  have me : Builtin.Int.intOfSelf b = pure i := by (unfold Builtin.Int.intOfSelf; rw [self]; rfl)
  refine two (wpAny_bind (wpAny_of_eq me (wpAny_bind (m := asInt? (.ref x)) (noInt inst plain ?_))))
  exact wpAny_bind (wpAny_rule (wpAny_pure ⟨_, rfl, rfl, rfl⟩))
theorem away_str_eq {y : Str} {t : Tok} (inst : InstAt s.heap x ox C od) (plain : ox.data = .plain) : Away prog w A E s Builtin.«str.__eq__» (.str y t) x := by
  refine wpAny_bind (wpAny_of_eq (a := (Value.str y t, y, [Value.ref x])) (by first | rfl | (simp only [Builtin.Str.strSlot, slotArgs]; rfl)) (wpAny_bind (m := asStr? (.ref x)) (noStr inst plain ?_)))
  exact wpAny_bind (wpAny_rule (wpAny_pure ⟨_, rfl, rfl, rfl⟩))
theorem away_str_ne {y : Str} {t : Tok} (inst : InstAt s.heap x ox C od) (plain : ox.data = .plain) : Away prog w A E s Builtin.«str.__ne__» (.str y t) x := by
  refine wpAny_bind (wpAny_of_eq (a := (Value.str y t, y, [Value.ref x])) (by first | rfl | (simp only [Builtin.Str.strSlot, slotArgs]; rfl)) (wpAny_bind (m := asStr? (.ref x)) (noStr inst plain ?_)))
  exact wpAny_bind (wpAny_rule (wpAny_pure ⟨_, rfl, rfl, rfl⟩))
theorem away_list_eq {l : Addr} (kin : K.In s.heap) (inst : InstAt s.heap x ox C od) (no : subIn K (.ref C) (.type "list") = some false) : Away prog w A E s Builtin.«list.__eq__» (.ref l) x := by
  refine two (wpAny_bind ((isNo kin inst no).here ?_))
  exact wpAny_pure ⟨_, rfl, rfl, rfl⟩
theorem away_list_ne {l : Addr} (kin : K.In s.heap) (inst : InstAt s.heap x ox C od) (no : subIn K (.ref C) (.type "list") = some false) : Away prog w A E s Builtin.«list.__ne__» (.ref l) x := by
  refine two (wpAny_bind ((isNo kin inst no).here ?_))
  exact wpAny_pure ⟨_, rfl, rfl, rfl⟩
theorem away_tuple_eq {l : Addr} (kin : K.In s.heap) (inst : InstAt s.heap x ox C od) (no : subIn K (.ref C) (.type "tuple") = some false) : Away prog w A E s Builtin.«tuple.__eq__» (.ref l) x := by
  refine two (wpAny_bind ((isNo kin inst no).here ?_))
  exact wpAny_pure ⟨_, rfl, rfl, rfl⟩
theorem away_tuple_ne {l : Addr} (kin : K.In s.heap) (inst : InstAt s.heap x ox C od) (no : subIn K (.ref C) (.type "tuple") = some false) : Away prog w A E s Builtin.«tuple.__ne__» (.ref l) x := by
  refine two (wpAny_bind ((isNo kin inst no).here ?_))
  exact wpAny_pure ⟨_, rfl, rfl, rfl⟩
theorem dict_two {β : Type} {l : Addr} {n : String} {k : Value × Value → Sem β} {Q : β → Shared → Prop} (is : s.TypeIs (.ref l) "dict") (h : wpAny (model prog w) A (k (.ref l, .ref x)) Q E s) : wpAny (model prog w) A (Builtin.Dict.dictSlotArgs n ⟨[.ref l, .ref x], []⟩ >>= k) Q E s := by
  delta Builtin.Dict.dictSlotArgs
  refine wpAny_bind (wpAny_bind (wpAny_notOrdered_dict is (two (wpAny_pure h))))
theorem away_dict_eq {l : Addr} (is : s.TypeIs (.ref l) "dict") (kin : K.In s.heap) (inst : InstAt s.heap x ox C od) (no : subIn K (.ref C) (.type "dict") = some false) : Away prog w A E s Builtin.«dict.__eq__» (.ref l) x := by
  refine dict_two is (wpAny_bind ((isNo kin inst no).here ?_))
  exact wpAny_bind (wpAny_rule (wpAny_pure ⟨_, rfl, rfl, rfl⟩))
theorem away_dict_ne {l : Addr} (is : s.TypeIs (.ref l) "dict") (kin : K.In s.heap) (inst : InstAt s.heap x ox C od) (no : subIn K (.ref C) (.type "dict") = some false) : Away prog w A E s Builtin.«dict.__ne__» (.ref l) x := by
  refine dict_two is (wpAny_bind ((isNo kin inst no).here ?_))
  exact wpAny_bind (wpAny_rule (wpAny_pure ⟨_, rfl, rfl, rfl⟩))
theorem away_none_eq : Away prog w A E s Builtin.«NoneType.__eq__» .none x := two (wpAny_pure ⟨_, rfl, by simp, rfl⟩)
theorem away_none_ne : Away prog w A E s Builtin.«NoneType.__ne__» .none x := two (wpAny_pure ⟨_, rfl, by simp, rfl⟩)
end
end PySem.W
namespace DL
open PySem PySem.Spec PyProof.Rows L2
section
variable {X : Cx} {G : CT} {W : WX} {pins : List (Addr × Obj)} {σ : L2.St} {F R H : Hp} {m : M} {s : Shared} {v : V} {u : Value} {d : D} {T : String} {x C : Addr} {ox : Obj} {od : Option Obj} {A : Around} {E : Value → Shared → Prop}
/-- what the class C is not -/
structure NoBuiltin (K : PySem.W.Frag) (C : Addr) : Prop where
  (list : PySem.W.subIn K (.ref C) (.type "list") = some false) (tuple : PySem.W.subIn K (.ref C) (.type "tuple") = some false) (dict : PySem.W.subIn K (.ref C) (.type "dict") = some false)
  (int : PySem.W.subIn K (.ref C) (.type "int") = some false) (bool : PySem.W.subIn K (.ref C) (.type "bool") = some false) (str : PySem.W.subIn K (.ref C) (.type "str") = some false) (none : PySem.W.subIn K (.ref C) (.type "NoneType") = some false)
theorem NoBuiltin.of {K : PySem.W.Frag} (N : NoBuiltin K C) (h : kT d = some T) : PySem.W.subIn K (.ref C) (.type T) = some false := by
  cases d <;> cases h <;> first | exact N.list | exact N.tuple | exact N.dict | exact N.int | exact N.bool | exact N.str | exact N.none
theorem eq_declines (I : Inv X pins σ H s) (st : Hst G F R H m) (rv : RelV v u) (rx : Rep G F v d) (h : kT d = some T) (N : NoBuiltin X.K C) (inst : PySem.W.InstAt s.heap x ox C od) (plain : ox.data = .plain) {Q : Option Value → Shared → Prop} (q : Q none s) :
    wpAny (model X.prog X.w) A (tryCompare u (cmpInfo .Eq).2.1 (.ref x)) Q E s := by
  have kd := kind_of I st rv rx h
  have kin := I.kIn
  cases rx with
  | non => cases (show u = Value.none from rv); cases h; exact wpAny_tryCompare_declines kd.is PySem.F.slot_NoneType_eq (PySem.W.declines_by PySem.F.slot_NoneType_eq kd.is PySem.F.entry_NoneType_eq (PySem.F.args_NoneType_eq_2 _ _) PySem.W.away_none_eq ⟨rfl, q⟩)
  | bl b => cases (show u = Value.bool b from rv); cases h; exact wpAny_tryCompare_declines kd.is PySem.F.slot_bool_eq (PySem.W.declines_by PySem.F.slot_bool_eq kd.is PySem.F.entry_int_eq (PySem.F.args_int_eq_2 _ _) (PySem.W.away_int_eq inst plain rfl) ⟨rfl, q⟩)
  | int i => obtain ⟨t, rfl⟩ := (show ∃ t, u = Value.int i t from rv); cases h; exact wpAny_tryCompare_declines kd.is PySem.F.slot_int_eq (PySem.W.declines_by PySem.F.slot_int_eq kd.is PySem.F.entry_int_eq (PySem.F.args_int_eq_2 _ _) (PySem.W.away_int_eq inst plain rfl) ⟨rfl, q⟩)
  | str y => obtain ⟨t, rfl⟩ := (show ∃ t, u = Value.str y t from rv); cases h; exact wpAny_tryCompare_declines kd.is PySem.F.slot_str_eq (PySem.W.declines_by PySem.F.slot_str_eq kd.is PySem.F.entry_str_eq (PySem.F.args_str_eq_2 _ _) (PySem.W.away_str_eq inst plain) ⟨rfl, q⟩)
  | @tup a vs xs hh r => cases (show u = Value.ref a from rv); cases h; exact wpAny_tryCompare_declines kd.is PySem.F.slot_tuple_eq (PySem.W.declines_by PySem.F.slot_tuple_eq kd.is PySem.F.entry_tuple_eq (PySem.F.args_tuple_eq_2 _ _) (PySem.W.away_tuple_eq kin inst N.tuple) ⟨rfl, q⟩)
  | @lst a vs xs hh r => cases (show u = Value.ref a from rv); cases h; exact wpAny_tryCompare_declines kd.is PySem.F.slot_list_eq (PySem.W.declines_by PySem.F.slot_list_eq kd.is PySem.F.entry_list_eq (PySem.F.args_list_eq_2 _ _) (PySem.W.away_list_eq kin inst N.list) ⟨rfl, q⟩)
  | @lsz a o vs xs hh r => cases (show u = Value.ref a from rv); cases h; exact wpAny_tryCompare_declines kd.is PySem.F.slot_list_eq (PySem.W.declines_by PySem.F.slot_list_eq kd.is PySem.F.entry_list_eq (PySem.F.args_list_eq_2 _ _) (PySem.W.away_list_eq kin inst N.list) ⟨rfl, q⟩)
  | @dic a ob kvs xs hh e r => cases (show u = Value.ref a from rv); cases h; exact wpAny_tryCompare_declines kd.is PySem.F.slot_dict_eq (PySem.W.declines_by PySem.F.slot_dict_eq kd.is PySem.F.entry_dict_eq (PySem.F.args_dict_eq_2 _ _) (PySem.W.away_dict_eq kd.is kin inst N.dict) ⟨rfl, q⟩)
  | ty n => cases h
  | ref a => cases h
  | ob hh e r => cases h
  | exc hh e r => cases h
  | fn hh r => cases h
theorem ne_declines (I : Inv X pins σ H s) (st : Hst G F R H m) (rv : RelV v u) (rx : Rep G F v d) (h : kT d = some T) (N : NoBuiltin X.K C) (inst : PySem.W.InstAt s.heap x ox C od) (plain : ox.data = .plain) {Q : Option Value → Shared → Prop} (q : Q none s) :
    wpAny (model X.prog X.w) A (tryCompare u (cmpInfo .NotEq).2.1 (.ref x)) Q E s := by
  have kd := kind_of I st rv rx h
  have kin := I.kIn
  cases rx with
  | non => cases (show u = Value.none from rv); cases h; exact wpAny_tryCompare_declines kd.is PySem.F.slot_NoneType_ne (PySem.W.declines_by PySem.F.slot_NoneType_ne kd.is PySem.F.entry_NoneType_ne (PySem.F.args_NoneType_ne_2 _ _) PySem.W.away_none_ne ⟨rfl, q⟩)
  | bl b => cases (show u = Value.bool b from rv); cases h; exact wpAny_tryCompare_declines kd.is PySem.F.slot_bool_ne (PySem.W.declines_by PySem.F.slot_bool_ne kd.is PySem.F.entry_int_ne (PySem.F.args_int_ne_2 _ _) (PySem.W.away_int_ne inst plain rfl) ⟨rfl, q⟩)
  | int i => obtain ⟨t, rfl⟩ := (show ∃ t, u = Value.int i t from rv); cases h; exact wpAny_tryCompare_declines kd.is PySem.F.slot_int_ne (PySem.W.declines_by PySem.F.slot_int_ne kd.is PySem.F.entry_int_ne (PySem.F.args_int_ne_2 _ _) (PySem.W.away_int_ne inst plain rfl) ⟨rfl, q⟩)
  | str y => obtain ⟨t, rfl⟩ := (show ∃ t, u = Value.str y t from rv); cases h; exact wpAny_tryCompare_declines kd.is PySem.F.slot_str_ne (PySem.W.declines_by PySem.F.slot_str_ne kd.is PySem.F.entry_str_ne (PySem.F.args_str_ne_2 _ _) (PySem.W.away_str_ne inst plain) ⟨rfl, q⟩)
  | @tup a vs xs hh r => cases (show u = Value.ref a from rv); cases h; exact wpAny_tryCompare_declines kd.is PySem.F.slot_tuple_ne (PySem.W.declines_by PySem.F.slot_tuple_ne kd.is PySem.F.entry_tuple_ne (PySem.F.args_tuple_ne_2 _ _) (PySem.W.away_tuple_ne kin inst N.tuple) ⟨rfl, q⟩)
  | @lst a vs xs hh r => cases (show u = Value.ref a from rv); cases h; exact wpAny_tryCompare_declines kd.is PySem.F.slot_list_ne (PySem.W.declines_by PySem.F.slot_list_ne kd.is PySem.F.entry_list_ne (PySem.F.args_list_ne_2 _ _) (PySem.W.away_list_ne kin inst N.list) ⟨rfl, q⟩)
  | @lsz a o vs xs hh r => cases (show u = Value.ref a from rv); cases h; exact wpAny_tryCompare_declines kd.is PySem.F.slot_list_ne (PySem.W.declines_by PySem.F.slot_list_ne kd.is PySem.F.entry_list_ne (PySem.F.args_list_ne_2 _ _) (PySem.W.away_list_ne kin inst N.list) ⟨rfl, q⟩)
  | @dic a ob kvs xs hh e r => cases (show u = Value.ref a from rv); cases h; exact wpAny_tryCompare_declines kd.is PySem.F.slot_dict_ne (PySem.W.declines_by PySem.F.slot_dict_ne kd.is PySem.F.entry_dict_ne (PySem.F.args_dict_ne_2 _ _) (PySem.W.away_dict_ne kd.is kin inst N.dict) ⟨rfl, q⟩)
  | ty n => cases h
  | ref a => cases h
  | ob hh e r => cases h
  | exc hh e r => cases h
  | fn hh r => cases h
end
end DL
namespace DL
open PySem PySem.Spec PyProof.Rows L2
section
variable {X : Cx} {G : CT} {W : WX} {hot grd : Bool} {k c : Nat} {f : Addr} {fd : FuncData} {ps : List Str} {sp : DSp}
/-- beside which values an own comparison of class c is asked -/
structure CmpBeside (K : PySem.W.Frag) (G : CT) (c : Nat) (Ts : List String) (Cs : List Nat) : Prop where
  kinds : ∀ T ∈ Ts, PySem.W.subIn K (.type T) (.ref (G c).addr) = some false
  classes : ∀ e ∈ Cs, PySem.W.subIn K (.ref (G e).addr) (.ref (G c).addr) = some false
def besides (c : Nat) (Ts : List String) (Cs : List Nat) (q : D) : Prop := (∃ T, kT q = some T ∧ T ∈ Ts) ∨ ∃ e ys, q = .ob e ys ∧ (e = c ∨ e ∈ Cs)
variable {Ts : List String} {Cs : List Nat}
theorem right_kind {pins : List (Addr × Obj)} {σ : L2.St} {F R H : Hp} {m : M} {s : Shared} {y : V} {u : Value} {dy : D} (N : CmpBeside X.K G c Ts Cs) (I : Inv X pins σ H s) (st : Hst G F R H m) (ry : RelV y u) (py : Rep G F y dy) (b : besides c Ts Cs dy) :
    ∃ tb, PySem.W.Looks (model X.prog X.w) s.heap (typeOf u) tb ∧ PySem.W.notFirst X.K (G c).addr tb = true := by
  rcases b with ⟨T, isT, mem⟩ | ⟨e, ys, rfl, cls⟩
  · exact ⟨_, (kind_of I st ry py isT).looks, by simp [PySem.W.notFirst, N.kinds T mem]⟩
  · cases py with
    | @ob a' dx' _ fs' _ hh' ee' rr' =>
      cases (show u = .ref a' from ry)
      obtain ⟨mB, O', _⟩ := ins_get I.hok (st.fz _ _ hh')
      obtain ⟨od', J', _⟩ := O'.look
      refine ⟨_, J'.type, ?_⟩
      rcases cls with rfl | mem
      · simp [PySem.W.notFirst]
      · simp [PySem.W.notFirst, N.classes e mem]
def rEqL (c : Nat) (Ts : List String) (Cs : List Nat) (sp : DSp) : DX2 := fun p q m Q x => (∃ xs, p = .ob c xs) ∧ besides c Ts Cs q ∧ sp [p, q] m Q x
def rNeL (c : Nat) (Ts : List String) (Cs : List Nat) (sp : DSp) : DX2 := fun p q m Q x => (∃ xs, p = .ob c xs) ∧ besides c Ts Cs q ∧ sp [p, q] m (fun d m' => isB d m' fun b m' => Q (.bl (!b)) m') x
theorem ox_eqL (hO : Own X.K (G c).addr "__eq__" f) (N : CmpBeside X.K G c Ts Cs) (Fn : FnG hot grd X.prog X.w X.K X.mg X.base k f fd ps (spL G sp)) (hr : Rm hot grd k X.A) (hb : Binds X.K fd ps []) (tk : Takes X W) : OpX X G W (compareOp .Eq) (rEqL c Ts Cs sp) := by
  rintro pins s σ H x y v u Q F0 R m dx dy Q0 x0 I rx ry st px py ⟨⟨xs, rfl⟩, right, q⟩ kq kx
  have px' := px
  cases px with
  | @ob a dx _ fs _ hh ee rr =>
    cases (show v = .ref a from rx)
    obtain ⟨mA, O, _⟩ := ins_get I.hok (st.fz _ _ hh)
    obtain ⟨od, J, _⟩ := O.look
    obtain ⟨tb, kb, nf⟩ := right_kind N I st ry py right
    have ans := wpAny_mono (run_sp (Q := Q) (pins := pins) Fn hr rfl hb tk I (.cons refV (.cons ry .nil)) st (.cons px' (.cons py .nil)) q kq kx) (fun r s' hq => cmpBack hq) fun _ _ e => e
    exact PySem.W.cmp_left (op := .Eq) hr.u0 I.kIn J kb nf (PySem.W.try_own I.kIn J hO.at_ hO.fn ans)
theorem not_back {pins : List (Addr × Obj)} {σ : L2.St} {Q : VK} {r : Value} {s' : Shared} (h : EP X pins σ (fun w H' => ∃ k, w = .bl k ∧ Q (.bl (!k)) H') r s') : ∃ k, r = .bool k ∧ EP X pins σ Q (.bool (!k)) s' := by
  obtain ⟨w, H', I', rw_, b, rfl, h⟩ := h
  cases (show r = Value.bool b from rw_)
  exact ⟨b, rfl, .bl (!b), H', I', rfl, h⟩
theorem ox_neL (hN : PySem.W.findIn X.K (.ref (G c).addr) "__ne__" = some (some (.builtin "object.__ne__"))) (hO : Own X.K (G c).addr "__eq__" f) (hB : PySem.W.subIn X.K (.ref (G c).addr) (.type "object") = some true) (N : CmpBeside X.K G c Ts Cs)
    (Fn : FnG hot grd X.prog X.w X.K X.mg X.base k f fd ps (spL G sp)) (hr : Rm hot grd (k + 1) X.A) (hb : Binds X.K fd ps []) (tk : Takes X W) : OpX X G W (compareOp .NotEq) (rNeL c Ts Cs sp) := by
  rintro pins s σ H x y v u Q F0 R m dx dy Q0 x0 I rx ry st px py ⟨⟨xs, rfl⟩, right, q⟩ kq kx
  have px' := px
  cases px with
  | @ob a dx _ fs _ hh ee rr =>
    cases (show v = .ref a from rx)
    obtain ⟨mA, O, _⟩ := ins_get I.hok (st.fz _ _ hh)
    obtain ⟨od, J, _⟩ := O.look
    obtain ⟨tb, kb, nf⟩ := right_kind N I st ry py right
    have ans := run_sp (pins := pins) (Q := fun w H' => ∃ k, w = .bl k ∧ Q (.bl (!k)) H') Fn hr.in1 rfl hb tk I (.cons refV (.cons ry .nil)) st (.cons px' (.cons py .nil)) q (fun d m' F' w H' z l s' r => by
      obtain ⟨b, rfl, h⟩ := z
      cases r
      exact ⟨b, rfl, kq _ _ _ _ _ h l s' (.bl _)⟩) kx
    exact PySem.W.cmp_left (op := .NotEq) hr.u0 I.kIn J kb nf (PySem.W.try_ne hr.in1.u0 I.kIn J hN hO.at_ hO.fn hB (wpAny_mono ans (fun r s' h => not_back h) fun _ _ e => e))
/-- the own object stands at the right -/
def rEqR (c : Nat) (sp : DSp) : DX2 := fun p q m Q x => (∃ T, kT p = some T) ∧ (∃ ys, q = .ob c ys) ∧ sp [q, p] m Q x
def rNeR (c : Nat) (sp : DSp) : DX2 := fun p q m Q x => (∃ T, kT p = some T) ∧ (∃ ys, q = .ob c ys) ∧ sp [q, p] m (fun d m' => isB d m' fun b m' => Q (.bl (!b)) m') x
theorem ox_eqR (hO : Own X.K (G c).addr "__eq__" f) (N : NoBuiltin X.K (G c).addr) (Fn : FnG hot grd X.prog X.w X.K X.mg X.base k f fd ps (spL G sp)) (hr : Rm hot grd k X.A) (hb : Binds X.K fd ps []) (tk : Takes X W) : OpX X G W (compareOp .Eq) (rEqR c sp) := by
  rintro pins s σ H x y v u Q F0 R m dx dy Q0 x0 I rx ry st px py ⟨⟨T, isT⟩, ⟨ys, rfl⟩, q⟩ kq kx
  have py' := py
  cases py with
  | @ob a dx _ fs _ hh ee rr =>
    cases (show u = .ref a from ry)
    obtain ⟨mA, O, _⟩ := ins_get I.hok (st.fz _ _ hh)
    obtain ⟨od, J, _⟩ := O.look
    have kd := kind_of I st rx px isT
    have ans := wpAny_mono (run_sp (Q := Q) (pins := pins) Fn hr rfl hb tk I (.cons refV (.cons rx .nil)) st (.cons py' (.cons px .nil)) q kq kx) (fun r s' hq => cmpBack hq) fun _ _ e => e
    exact PySem.W.cmp_right (op := .Eq) hr.u0 I.kIn J kd.is (N.of isT) (fun R' z => eq_declines I st rx px isT N J rfl z) (PySem.W.try_own I.kIn J hO.at_ hO.fn ans)
theorem ox_neR (hN : PySem.W.findIn X.K (.ref (G c).addr) "__ne__" = some (some (.builtin "object.__ne__"))) (hO : Own X.K (G c).addr "__eq__" f) (hB : PySem.W.subIn X.K (.ref (G c).addr) (.type "object") = some true) (N : NoBuiltin X.K (G c).addr)
    (Fn : FnG hot grd X.prog X.w X.K X.mg X.base k f fd ps (spL G sp)) (hr : Rm hot grd (k + 1) X.A) (hb : Binds X.K fd ps []) (tk : Takes X W) : OpX X G W (compareOp .NotEq) (rNeR c sp) := by
  rintro pins s σ H x y v u Q F0 R m dx dy Q0 x0 I rx ry st px py ⟨⟨T, isT⟩, ⟨ys, rfl⟩, q⟩ kq kx
  have py' := py
  cases py with
  | @ob a dx _ fs _ hh ee rr =>
    cases (show u = .ref a from ry)
    obtain ⟨mA, O, _⟩ := ins_get I.hok (st.fz _ _ hh)
    obtain ⟨od, J, _⟩ := O.look
    have kd := kind_of I st rx px isT
    have ans := run_sp (pins := pins) (Q := fun w H' => ∃ k, w = .bl k ∧ Q (.bl (!k)) H') Fn hr.in1 rfl hb tk I (.cons refV (.cons rx .nil)) st (.cons py' (.cons px .nil)) q (fun d m' F' w H' z l s' r => by
      obtain ⟨b, rfl, h⟩ := z
      cases r
      exact ⟨b, rfl, kq _ _ _ _ _ h l s' (.bl _)⟩) kx
    exact PySem.W.cmp_right (op := .NotEq) hr.u0 I.kIn J kd.is (N.of isT) (fun R' z => ne_declines I st rx px isT N J rfl z) (PySem.W.try_ne hr.in1.u0 I.kIn J hN hO.at_ hO.fn hB (wpAny_mono ans (fun r s' h => not_back h) fun _ _ e => e))
/-! + with the own object at the right -/
def addFills : String → Bool := fun T => T == "int" || T == "bool"
def rAddR (c : Nat) (sp : DSp) : DX2 := fun p q m Q x => (∃ T, kT p = some T) ∧ (∃ ys, q = .ob c ys) ∧ sp [q, p] m Q x
theorem fills_add : ∀ {d : D} {T : String}, kT d = some T → fillsNumberSlot (.type T) "add" = pure (addFills T) := by
  intro d T h
  cases d <;> cases h <;> first | exact PySem.F.fills_int_add | exact PySem.F.fills_bool_add | rfl | (unfold fillsNumberSlot; rfl)
end
end DL
namespace DL
open PySem PySem.Spec PyProof.Rows L2
section
variable {X : Cx} {G : CT} {W : WX} {hot grd : Bool} {k c : Nat} {f : Addr} {fd : FuncData} {ps : List Str} {sp : DSp}
theorem add_declines {pins : List (Addr × Obj)} {σ : L2.St} {F R H : Hp} {m : M} {s : Shared} {v : V} {u : Value} {d : D} {T : String} {x C : Addr} {ox : Obj} {od : Option Obj} {A : Around} {E : Value → Shared → Prop} (I : Inv X pins σ H s) (st : Hst G F R H m) (rv : RelV v u) (rx : Rep G F v d) (h : kT d = some T)
    (num : addFills T = true) (inst : PySem.W.InstAt s.heap x ox C od) (plain : ox.data = .plain) {Q : Option Value → Shared → Prop} (q : Q none s) : wpAny (model X.prog X.w) A (tryMethod u (PySem.dunder "add") (.ref x)) Q E s := by
  have kd := kind_of I st rv rx h
  cases rx with
  | bl b =>
    cases (show u = Value.bool b from rv)
    cases h
    have self : asInt? (Value.bool b) = pure (some (if b then 1 else 0)) := rfl
    have body := PySem.W.num_add_declines (prog := X.prog) (w := X.w) (A := A.in1) (E := E) inst plain self
    apply wpAny_tryMethod_declines kd.is PySem.F.slot_bool_add
    exact PySem.W.declines_by PySem.F.slot_bool_add kd.is PySem.F.entry_int_add (PySem.F.args_int_add_2 _ _) body ⟨rfl, q⟩
  | int i =>
    obtain ⟨t, rfl⟩ := (show ∃ t, u = Value.int i t from rv)
    cases h
    have self : asInt? (Value.int i t) = pure (some i) := rfl
    have body := PySem.W.num_add_declines (prog := X.prog) (w := X.w) (A := A.in1) (E := E) inst plain self
    apply wpAny_tryMethod_declines kd.is PySem.F.slot_int_add
    exact PySem.W.declines_by PySem.F.slot_int_add kd.is PySem.F.entry_int_add (PySem.F.args_int_add_2 _ _) body ⟨rfl, q⟩
  | _ => cases h <;> exact absurd num (by decide)
theorem ox_addR {fp : Addr} (hP : PySem.W.findIn X.K (.ref (G c).addr) (PySem.dunder "add") = some (some (.ref fp))) (hO : Own X.K (G c).addr (dunderR "add") f) (hc : PySem.W.selfFirst X.K (G c).addr = true) (N : NoBuiltin X.K (G c).addr)
    (Fn : FnG hot grd X.prog X.w X.K X.mg X.base k f fd ps (spL G sp)) (hr : Rm hot grd k X.A) (hb : Binds X.K fd ps []) (tk : Takes X W) : OpX X G W (binaryOp .Add) (rAddR c sp) := by
  rintro pins s σ H x y v u Q F0 R m dx dy Q0 x0 I rx ry st px py ⟨⟨T, isT⟩, ⟨ys, rfl⟩, q⟩ kq kx
  have py' := py
  cases py with
  | @ob a dx _ fs _ hh ee rr =>
    cases (show u = .ref a from ry)
    obtain ⟨mA, O, _⟩ := ins_get I.hok (st.fz _ _ hh)
    obtain ⟨od, J, _⟩ := O.look
    have kd := kind_of I st rx px isT
    have ans := wpAny_mono (run_sp (Q := Q) (pins := pins) Fn hr rfl hb tk I (.cons refV (.cons rx .nil)) st (.cons py' (.cons px .nil)) q kq kx) (fun r s' hq => cmpBack hq) fun _ _ e => e
    apply PySem.W.add_right (l := addFills T) I.kIn J kd.is (fills_add isT) hc hP hO.at_ hO.fn (N.of isT) (fun num R' z => add_declines I st rx px isT num J rfl z) ans
end
end DL

/-! dicts over data -/
namespace DL
open PySem PySem.Spec PyProof.Rows L2
/-! ### keys -/
def keyD : D → Option Key
  | .int i => some (.inl i)
  | .str x => some (.inr x)
  | _ => none
def dKey : Key → D
  | .inl i => .int i
  | .inr x => .str x
theorem key_v {G : CT} {F : Hp} {v : V} {d : D} {k : Key} (r : Rep G F v d) (h : keyD d = some k) : v = kV k := by
  cases r <;> cases h <;> rfl
theorem key_rep {G : CT} {F : Hp} (k : Key) : Rep G F (kV k) (dKey k) := by
  cases k with
  | inl i => exact .int i
  | inr x => exact .str x
theorem keys_v {G : CT} {F : Hp} : ∀ {vs : List V} {ds : List D} {ks : List Key}, Reps G F vs ds → ds.map keyD = ks.map some → vs = ks.map kV
  | [], [], [], .nil, _ => rfl
  | v :: vs, d :: ds, k :: ks, .cons r rr, h => by
    obtain ⟨h1, h2⟩ := List.cons.inj h
    rw [key_v r h1, keys_v rr h2]
    rfl
  | _, [], _ :: _, _, h => by cases h
  | _, _ :: _, [], _, h => by cases h
/-- what a list of pairs holds at a key -/
def lookK {κ : Type} [DecidableEq κ] (kvs : List (κ × D)) (k : κ) : Option D := (kvs.find? fun kv => decide (kv.1 = k)).map (·.2)
def setK {κ : Type} [DecidableEq κ] (kvs : List (κ × D)) (k : κ) (d : D) : List (κ × D) :=
  if kvs.any fun kv => decide (kv.1 = k) then kvs.map fun kv => if kv.1 = k then (kv.1, d) else kv else kvs ++ [(k, d)]
def RepO (G : CT) (F : Hp) : Option V → Option D → Prop
  | some v, some d => Rep G F v d
  | none, none => True
  | _, _ => False
theorem look_rep {κ : Type} [DecidableEq κ] {G : CT} {F : Hp} (k : κ) : ∀ {vs : List (κ × V)} {xs : List (κ × D)}, vs.map (·.1) = xs.map (·.1) → Reps G F (vs.map (·.2)) (xs.map (·.2)) → RepO G F (valV vs k) (lookK xs k)
  | [], [], _, _ => True.intro
  | p :: vs, q :: xs, e, .cons r rr => by
    obtain ⟨e1, e2⟩ := List.cons.inj e
    have ih := look_rep k (vs := vs) (xs := xs) e2 rr
    by_cases h : p.1 = k
    · have h2 : q.1 = k := (show p.1 = q.1 from e1).symm.trans h
      have a : valV (p :: vs) k = some p.2 := valV_pos h
      have b : lookK (q :: xs) k = some q.2 := by simp [lookK, h2]
      rw [a, b]
      exact r
    · have h2 : ¬q.1 = k := fun z => h ((show p.1 = q.1 from e1).trans z)
      have a : valV (p :: vs) k = valV vs k := valV_neg h
      have b : lookK (q :: xs) k = lookK xs k := by simp [lookK, h2]
      rw [a, b]
      exact ih
  | [], _ :: _, e, _ => by cases e
  | _ :: _, [], e, _ => by cases e
theorem RepO.some_ {G : CT} {F : Hp} {o : Option V} {d : D} (r : RepO G F o (some d)) : ∃ v, o = some v ∧ Rep G F v d := by
  cases o with
  | none => exact False.elim r
  | some v => exact ⟨v, rfl, r⟩
theorem RepO.isSome {G : CT} {F : Hp} {o : Option V} {p : Option D} (r : RepO G F o p) : o.isSome = p.isSome := by
  cases o <;> cases p <;> first | rfl | exact False.elim r
theorem repl_rep {κ : Type} [DecidableEq κ] {G : CT} {F : Hp} (k : κ) {v : V} {d : D} (r : Rep G F v d) : ∀ {vs : List (κ × V)} {xs : List (κ × D)}, vs.map (·.1) = xs.map (·.1) → Reps G F (vs.map (·.2)) (xs.map (·.2)) →
    (vs.map fun kv => if kv.1 = k then (kv.1, v) else kv).map (·.1) = (xs.map fun kv => if kv.1 = k then (kv.1, d) else kv).map (·.1) ∧ Reps G F ((vs.map fun kv => if kv.1 = k then (kv.1, v) else kv).map (·.2)) ((xs.map fun kv => if kv.1 = k then (kv.1, d) else kv).map (·.2))
  | [], [], _, _ => ⟨rfl, .nil⟩
  | p :: vs, q :: xs, e, .cons r1 r2 => by
    obtain ⟨e1, e2⟩ := List.cons.inj e
    obtain ⟨i1, i2⟩ := repl_rep k r (vs := vs) (xs := xs) e2 r2
    have hk : p.1 = q.1 := e1
    simp only [List.map_cons]
    by_cases h : p.1 = k
    · rw [if_pos h, if_pos (hk.symm.trans h)]
      exact ⟨by rw [i1, hk], .cons r i2⟩
    · rw [if_neg h, if_neg fun z => h (hk.trans z)]
      exact ⟨by rw [i1, hk], .cons r1 i2⟩
  | [], _ :: _, e, _ => by cases e
  | _ :: _, [], e, _ => by cases e
theorem any_key {κ : Type} [DecidableEq κ] (k : κ) : ∀ {vs : List (κ × V)} {xs : List (κ × D)}, vs.map (·.1) = xs.map (·.1) → (vs.any fun kv => decide (kv.1 = k)) = xs.any fun kv => decide (kv.1 = k)
  | [], [], _ => rfl
  | p :: vs, q :: xs, e => by
    obtain ⟨e1, e2⟩ := List.cons.inj e
    rw [List.any_cons, List.any_cons, any_key k (vs := vs) (xs := xs) e2, show p.1 = q.1 from e1]
  | [], _ :: _, e => by cases e
  | _ :: _, [], e => by cases e
theorem put_keys {κ : Type} [DecidableEq κ] {G : CT} {F : Hp} (k : κ) {v : V} {d : D} (r : Rep G F v d) {vs : List (κ × V)} {xs : List (κ × D)} (e : vs.map (·.1) = xs.map (·.1)) (rr : Reps G F (vs.map (·.2)) (xs.map (·.2))) :
    (putK vs k v).map (·.1) = (setK xs k d).map (·.1) ∧ Reps G F ((putK vs k v).map (·.2)) ((setK xs k d).map (·.2)) := by
  unfold putK setK
  rw [any_key k e]
  split
  · exact repl_rep k r e rr
  · refine ⟨by simp [e], ?_⟩
    rw [List.map_append, List.map_append]
    exact rr.append (.cons r .nil)
section
variable {X : Cx} {G : CT} {W : WX} {a b e : Expr} {ta tb te : DTE} {pos : Pos}
/-! ### k in d, d[k] -/
/-- a dict that stands still, or one of tuple keys that changes -/
def hasD (x y : D) (m : M) (Q : Bool → Prop) : Prop :=
  (∃ kvs k, y = .dic kvs ∧ keyD x = some k ∧ Q (lookK kvs k).isSome) ∨ ∃ p kvs xs ks, y = .ref p ∧ m p = some (.tdc kvs) ∧ x = .tup xs ∧ xs.map keyD = ks.map some ∧ Q (lookK kvs ks).isSome
def inKD : DR2 := fun x y m Q => hasD x y m fun b => Q (.bl b) m
def ninKD : DR2 := fun x y m Q => hasD x y m fun b => Q (.bl (!b)) m
theorem has_get {F R H : Hp} {m : M} {x y : V} {dx dy : D} {Q : Bool → Prop} (st : Hst G F R H m) (rx : Rep G F x dx) (ry : Rep G F y dy) (h : hasD dx dy m Q) : ∃ a o, y = .ref a ∧ DGet H a x o ∧ Q o.isSome := by
  rcases h with ⟨kvs, k, rfl, hk, q⟩ | ⟨p, kvs, xs, ks, rfl, hm, rfl, hk, q⟩
  · cases ry with
    | @dic a ob vs _ hh ee rr =>
      refine ⟨a, valV vs k, rfl, .inl ⟨vs, k, .inr ⟨ob, st.fz _ _ hh⟩, key_v rx hk, rfl⟩, ?_⟩
      rw [(look_rep k ee rr).isSome]
      exact q
  · cases ry
    obtain ⟨_, vs, hv, ee, rr⟩ := st.mt _ _ hm
    cases rx with
    | @tup c ws _ hc rc =>
      refine ⟨p, valV vs ks, rfl, .inr ⟨vs, ks, c, .inl hv, rfl, keys_v rc hk ▸ st.fz _ _ hc, rfl⟩, ?_⟩
      rw [(look_rep ks ee rr).isSome]
      exact q
theorem od_inK (hu : X.A.units + 1 < cLine) : OpD X G (compareOp .In) inKD := by
  rintro pins s σ H x y v u Q I rx ry ⟨F, R, m, dx, dy, Q0, st, px, py, h, kk⟩
  obtain ⟨c, o, rfl, get, q⟩ := has_get st px py h
  obtain rfl : u = .ref c := ry
  exact d_in hu I get rx fun s' J => ⟨.bl o.isSome, H, J, rfl, kk _ m F _ H q (Le.refl F) st (.bl _)⟩
theorem od_ninK (hu : X.A.units + 1 < cLine) : OpD X G (compareOp .NotIn) ninKD := by
  rintro pins s σ H x y v u Q I rx ry ⟨F, R, m, dx, dy, Q0, st, px, py, h, kk⟩
  obtain ⟨c, o, rfl, get, q⟩ := has_get st px py h
  obtain rfl : u = .ref c := ry
  exact d_notIn hu I get rx fun s' J => ⟨.bl (!o.isSome), H, J, rfl, kk _ m F _ H q (Le.refl F) st (.bl _)⟩
/-- in, whatever stands at the right -/
def inAll : DR2 := fun x y m Q => inD x y m Q ∨ inKD x y m Q
def ninAll : DR2 := fun x y m Q => ninD x y m Q ∨ ninKD x y m Q
theorem OpD.or {f : Value → Value → Sem Value} {r r' : DR2} (h : OpD X G f r) (h' : OpD X G f r') : OpD X G f (fun x y m Q => r x y m Q ∨ r' x y m Q) := OpR.imp (OpR.or h h') fun x y H Q ⟨F, R, m, dx, dy, Q0, st, px, py, q, kk⟩ =>
  q.imp (fun q => ⟨F, R, m, dx, dy, Q0, st, px, py, q, kk⟩) fun q => ⟨F, R, m, dx, dy, Q0, st, px, py, q, kk⟩
theorem od_inAll (hu : X.A.units + 1 < cLine) : OpD X G (compareOp .In) inAll := OpD.or od_in (od_inK hu)
theorem od_ninAll (hu : X.A.units + 1 < cLine) : OpD X G (compareOp .NotIn) ninAll := OpD.or od_notin (od_ninK hu)
/-- d[k] -/
def itKD : DR2 := fun x y m Q => ∃ kvs k d, x = .dic kvs ∧ keyD y = some k ∧ lookK kvs k = some d ∧ Q d m
theorem DE.or {t t' : DTE} (h : DE X G W e t) (h' : DE X G W e t') : DE X G W e (fun x ds m Q => t x ds m Q ∨ t' x ds m Q) := ⟨fun pins s σ H Q I ⟨F, R, m, ds, Q0, x, st, sl, q, xk, kk⟩ =>
  q.elim (fun q => h.run pins s σ H Q I ⟨F, R, m, ds, Q0, x, st, sl, q, xk, kk⟩) fun q => h'.run pins s σ H Q I ⟨F, R, m, ds, Q0, x, st, sl, q, xk, kk⟩⟩
theorem de_ixK (hu : X.A.units + 1 < cLine) (ha : DE X G W a ta) (hb : DE X G W b tb) (hs : PlainIx b) : DE X G W (.Subscript a b pos) (bD itKD ta tb) := (pe_dget hu ha hb hs).imp fun σ H Q ⟨F, R, m, ds, Q0, x, st, sl, t, xk, kk⟩ => by
  refine ⟨F, R, m, ds, _, x, st, sl, t, xk, fun p m1 F1 v H1 h1 l1 s1 r1 => ?_⟩
  refine ⟨F1, R, m1, ds, _, x, s1, sl.le l1, h1, xk.le l1, fun q m2 F2 u H2 ⟨kvs, k, d, isD, hk, look, h2⟩ l2 s2 r2 => ?_⟩
  subst isD
  cases r1 with
  | @dic c ob vs _ hh ee rr =>
    obtain ⟨w, there, rep⟩ := RepO.some_ (look ▸ look_rep k ee rr)
    exact ⟨c, w, rfl, .inl ⟨vs, k, .inr ⟨ob, s2.fz _ _ (l2 _ _ hh)⟩, key_v r2 hk, there.symm⟩, kk _ m2 F2 w H2 h2 (l1.trans l2) s2 (rep.le l2)⟩
/-- x[i], whatever x is -/
def eIxAll (ta tb : DTE) : DTE := fun x ds m Q => bD itD ta tb x ds m Q ∨ bD itKD ta tb x ds m Q
theorem de_ixAll (hu : X.A.units + 1 < cLine) (ha : DE X G W a ta) (hb : DE X G W b tb) (hs : PlainIx b) : DE X G W (.Subscript a b pos) (eIxAll ta tb) := DE.or (de_ix ha hb hs) (de_ixK hu ha hb hs)
/-! ### d[k] = v, tuple keys -/
theorem d_setTup {pins : List (Addr × Obj)} {σ : L2.St} {H : Hp} {s : Shared} {p c : Addr} {vs : List (List Key × V)} {ks : List Key} {v : V} {w : Value} {Q : Unit → Shared → Prop} (hu : X.A.units + 1 < cLine) (I : Inv X pins σ H s) (at_ : H p = some (.dT vs)) (key : H c = some (.tup (ks.map kV))) (few : vs.length < sizeLine) (rv : RelV v w)
    (h : ∀ s', Inv X pins σ (upd H p (.dT (putK vs ks v))) s' → Q () s') : wpAny (model X.prog X.w) X.A (setItem (.ref p) (.ref c) w) Q X.xe s :=
  d_setItem hu I (DPut.t at_ key few) (show RelV (.ref c) (.ref c) from rfl) rv h
/-- for k in d -/
def iKeysD (te : DTE) : DTI := fun x ds m Q => te x ds m fun d m1 => ∃ kvs, d = .dic kvs ∧ Q (kvs.map fun kv => dKey kv.1) m1
theorem gives_keys {F : Hp} {d : Addr} {o : Obj} {vs : List (Key × V)} {xs : List (Key × D)} (h : F d = some (.frz o (.dK vs))) (e : vs.map (·.1) = xs.map (·.1)) : Gives G F (Itk d o vs) (xs.map fun kv => dKey kv.1) := by
  have len : vs.length = xs.length := by simpa using congrArg List.length e
  intro F' R' m' H' l st i
  have at_ : H' d = some (.frz o (.dK vs)) := st.fz _ _ (l _ _ h)
  refine ⟨fun hi => ⟨at_, by rw [len]; simpa using hi⟩, fun y hy => ?_⟩
  rw [List.getElem?_map, Option.map_eq_some_iff] at hy
  obtain ⟨kd, hk, rfl⟩ := hy
  have hi : i < vs.length := by rw [len]; exact (List.getElem?_eq_some_iff.mp hk).1
  refine ⟨⟨at_, hi⟩, ?_⟩
  rintro v H3 ⟨rfl, k, w, there, rfl⟩
  refine ⟨F', Le.refl _, st, ?_⟩
  have same : k = kd.1 := by
    have h1 : (vs.map (·.1))[i]? = some k := by rw [List.getElem?_map, there]; rfl
    rw [e, List.getElem?_map, hk] at h1
    exact (Option.some.inj h1).symm
  rw [same]
  exact key_rep kd.1
theorem di_keys {tg : Expr} (he : DE X G W e te) : DI X G W tg e (iKeysD te) := ⟨_, pi_keys he, fun σ H Rr ⟨F, R, m, ds, Q0, x, st, sl, h, xk, k⟩ => by
  refine ⟨F, R, m, ds, _, x, st, sl, h, xk, fun d m1 F1 v H1 ⟨kvs, isD, q⟩ l1 s1 r1 => ?_⟩
  subst isD
  cases r1 with
  | @dic p o vs xs hp ee r => exact ⟨p, o, rfl, .inl ⟨vs, s1.fz _ _ hp, k _ m1 F1 H1 _ q l1 s1 (gives_keys hp ee)⟩⟩⟩
end
end DL
namespace DL
open PySem PySem.Spec PyProof.Rows L2
/-! ### {k: v, ..} -/
def dPairs : List (DTE × DTE) → EK → DSt → M → (List (Key × D) → M → Prop) → Prop
  | [], _, _, m, Q => Q [] m
  | t :: r, x, ds, m, Q => t.1 x ds m fun k m1 => ∃ kk, keyD k = some kk ∧ t.2 x ds m1 fun v m2 => dPairs r x ds m2 fun kvs m3 => Q ((kk, v) :: kvs) m3
def mergeD (kvs more : List (Key × D)) : List (Key × D) := more.foldl (fun acc kv => setK acc kv.1 kv.2) kvs
def eDisp (trs : List (DTE × DTE)) : DTE := fun x ds m Q => dPairs trs x ds m fun kvs m1 => kvs.length ≤ 15 ∧ Q (.dic (mergeD [] kvs)) m1
inductive DPs (X : Cx) (G : CT) (W : WX) : List (Option Expr) → List Expr → List (DTE × DTE) → Prop
  | nil : DPs X G W [] [] []
  | cons {k v : Expr} {ks : List (Option Expr)} {vs : List Expr} {tk tv : DTE} {trs : List (DTE × DTE)} (hk : DE X G W k tk) (hv : DE X G W v tv) (r : DPs X G W ks vs trs) : DPs X G W (some k :: ks) (v :: vs) ((tk, tv) :: trs)
theorem merge_rep {G : CT} {F : Hp} : ∀ {vm : List (Key × V)} {xm : List (Key × D)} {va : List (Key × V)} {xa : List (Key × D)}, vm.map (·.1) = xm.map (·.1) → Reps G F (vm.map (·.2)) (xm.map (·.2)) → va.map (·.1) = xa.map (·.1) → Reps G F (va.map (·.2)) (xa.map (·.2)) →
    (mergeK va vm).map (·.1) = (mergeD xa xm).map (·.1) ∧ Reps G F ((mergeK va vm).map (·.2)) ((mergeD xa xm).map (·.2))
  | [], [], _, _, _, _, e, r => ⟨e, r⟩
  | p :: vm, q :: xm, va, xa, em, .cons r1 r2, e, r => by
    obtain ⟨e1, e2⟩ := List.cons.inj em
    obtain ⟨i1, i2⟩ := put_keys q.1 r1 e r
    have same : mergeK va (p :: vm) = mergeK (putK va q.1 p.2) vm := by rw [← show p.1 = q.1 from e1]; rfl
    rw [same]
    exact merge_rep (vm := vm) (xm := xm) e2 r2 i1 i2
  | [], _ :: _, _, _, em, _, _, _ => by cases em
  | _ :: _, [], _, _, em, _, _, _ => by cases em
section
variable {X : Cx} {G : CT} {W : WX} {pos : Pos} {keys : List (Option Expr)} {values : List Expr} {trs : List (DTE × DTE)}
def lowT (G : CT) (W : WX) (p : DTE × DTE) : TE × TE := (lE G W p.1, lE G W p.2)
theorem DPs.low (h : DPs X G W keys values trs) : PPs X pos keys values (trs.map (lowT G W)) := by
  induction h with
  | nil => exact pps_nil
  | cons hk hv _ ih => exact pps_cons hk hv ih
theorem pairs_imp : ∀ {trs : List (DTE × DTE)} {F R : Hp} {m : M} {ds : DSt} {x : EK} {σ : L2.St} {H : Hp} {Q0 : List (Key × D) → M → Prop} {Q : List (V × V) → Hp → Prop}, Hst G F R H m → SL G F σ ds → XOK G W F R x → dPairs trs x ds m Q0 →
    (∀ (kvs : List (Key × D)) m' F' (vs : List (Key × V)) H', Q0 kvs m' → Le F F' → Hst G F' R H' m' → vs.map (·.1) = kvs.map (·.1) → Reps G F' (vs.map (·.2)) (kvs.map (·.2)) → Q (vs.map fun kv => (kV kv.1, kv.2)) H') → tPairs (trs.map (lowT G W)) σ H Q
  | [], F, R, m, ds, x, σ, H, Q0, Q, st, sl, xk, h, go => go [] m F [] H h (Le.refl F) st rfl .nil
  | t :: r, F, R, m, ds, x, σ, H, Q0, Q, st, sl, xk, h, go => by
    refine ⟨F, R, m, ds, _, x, st, sl, h, xk, fun k m1 F1 kv H1 ⟨kk, isK, h1⟩ l1 s1 rk => ?_⟩
    refine ⟨F1, R, m1, ds, _, x, s1, sl.le l1, h1, xk.le l1, fun v m2 F2 vv H2 h2 l2 s2 rv => ?_⟩
    refine pairs_imp s2 (sl.le (l1.trans l2)) (xk.le (l1.trans l2)) h2 fun kvs m3 F3 vs H3 q l3 s3 e3 r3 => ?_
    rw [key_v rk isK]
    exact go ((kk, v) :: kvs) m3 F3 ((kk, vv) :: vs) H3 q ((l1.trans l2).trans l3) s3 (by simp [e3]) (.cons (rv.le l3) r3)
theorem Hst.lessR {F R H : Hp} {m : M} {p : Addr} {o : HO} (s : Hst G F (upd R p o) H m) (h : R p = none) : Hst G F R H m := ⟨s.fz, fun a v e => s.rs a v (by rw [upd_ne (ne_of_none e h)]; exact e), s.mt, fun a v e => s.nt a v (by rw [upd_ne (ne_of_none e h)]; exact e)⟩
theorem de_disp (h : DPs X G W keys values trs) (hall : keys.all (·.isSome) = true) (hl : keys.length = values.length) (h0 : keys ≠ []) (h15 : keys.length ≤ 15) : DE X G W (.Dict keys values pos) (eDisp trs) :=
  (pe_disp h.low hall hl h0 h15).locks.imp fun σ H Q ⟨F, R, m, ds, Q0, x, st, sl, t, xk, kk⟩ => fun p free => by
    have noR : R p = none := st.rnone free
    have xk2 : XOK G W F (upd R p (.dK [])) x := fun ds1 c xs m1 F1 σ1 d H1 z l s sl1 xd => by
      exact xk ds1 c xs m1 F1 σ1 d H1 z l (s.lessR noR) sl1 xd
    refine pairs_imp (st.newR free) sl xk2 t fun kvs m1 F1 vs H1 ⟨few, q⟩ l1 s1 e1 r1 => ?_
    have at_ : H1 p = some (.dK []) := (s1.rs p _ upd_same).1
    have len : vs.length = kvs.length := by simpa using congrArg List.length e1
    refine ⟨at_, vs, rfl, by omega, p, _, rfl, upd_same, True.intro, fun od => ?_⟩
    rw [upd_upd]
    obtain ⟨i1, i2⟩ := merge_rep (va := []) (xa := []) e1 r1 rfl .nil
    obtain ⟨s2, l2⟩ := (s1.putR (o' := .frz od (.dK (mergeK [] vs)))).thawR noR
    exact kk _ _ _ _ _ q (l1.trans l2) s2 (.dic upd_same i1 (i2.le l2))
end
end DL
namespace DL
open PySem PySem.Spec PyProof.Rows L2
/-! ### {k: v for x in ..} -/
def dcD (tg : Tgt) (tt : DTT) (tk tv : DTE) (vs : List Nat) (ds : DSt) (Q : DK) : List D → List (Key × D) → M → Prop
  | [], acc, m => Q (.dic acc) m
  | d :: r, acc, m => tg.put d (wipeD ds vs) fun ds2 => tt noX ds2 m fun b m1 => if b = true then tk noX ds2 m1 fun y m2 => tv noX ds2 m2 fun z m3 => ∃ k, keyD y = some k ∧ dcD tg tt tk tv vs ds Q r (setK acc k z) m3 else dcD tg tt tk tv vs ds Q r acc m1
def eDc (ti : DTI) (tg : Tgt) (tt : DTT) (tk tv : DTE) (vs : List Nat) : DTE := fun x ds m Q => ti x ds m fun xs m1 => xs.length < sizeLine ∧ dcD tg tt tk tv vs ds Q xs [] m1
theorem setK_len {κ : Type} [DecidableEq κ] (acc : List (κ × D)) (k : κ) (d : D) : (setK acc k d).length ≤ acc.length + 1 := by
  unfold setK
  split <;> simp
section
variable {X : Cx} {G : CT} {W : WX}
theorem dc_imp {tg it : Expr} {ti : DTI} {tgt : Tgt} {tt : DTT} {tk tv : DTE} {vs : List Nat} {wi : TI} (hv : ∀ i ∈ tgt.ix, i ∈ vs)
    (hw : ∀ σ H Rr, (∃ F R m ds Q0 x, Hst G F R H m ∧ SL G F σ ds ∧ ti x ds m Q0 ∧ XOK G W F R x ∧ ∀ xs m' F' H' J, Q0 xs m' → Le F F' → Hst G F' R H' m' → Gives G F' J xs → Rr J H') → wi σ H Rr)
    {σ : L2.St} {H : Hp} {Q : VK} (h : lE G W (eDc ti tgt tt tk tv vs) σ H Q) :
    tDc wi (tgt.tg X.K) (lT G WF tt) (lE G WF tk) (lE G WF tv) vs σ H (fun v H1 => ∃ a u, v = .ref a ∧ H1 a = some u ∧ Mut (some u) ∧ ∀ od, Q v (upd H1 a (.frz od u))) := by
  obtain ⟨F, R, m, ds, Q0, x, st, sl, h, xk, kk⟩ := h
  refine hw σ H _ ⟨F, R, m, ds, _, x, st, sl, h, xk, fun xs m1 F1 H1 J ⟨small, q⟩ l1 s1 gv => fun p free => ?_⟩
  have noR : R p = none := s1.rnone free
  -- after i turns the new dict holds the pairs acc
  let At : Nat → List (Key × D) → Hp → Prop := fun i acc H' => ∃ F' m' vacc, acc.length ≤ i ∧ Le F1 F' ∧ Hst G F' (upd R p (.dK vacc)) H' m' ∧ vacc.map (·.1) = acc.map (·.1) ∧ Reps G F' (vacc.map (·.2)) (acc.map (·.2)) ∧ dcD tgt tt tk tv vs ds Q0 (xs.drop i) acc m'
  refine ⟨fun i n H' => n = xs.length - i ∧ i ≤ xs.length ∧ ∃ acc, At i acc H', ⟨xs.length, by simp, Nat.zero_le _, [], F1, m1, [], Nat.le_refl _, Le.refl _, s1.newR free, rfl, .nil, q⟩, ?_⟩
  rintro i n H' ⟨rfl, hi, acc, F', m', vacc, few, le, s', same, reps, todo⟩
  obtain ⟨stops, turns⟩ := gv F' _ m' H' le s' i
  by_cases more : i < xs.length
  · obtain ⟨goes, yields⟩ := turns xs[i] (by simp [more])
    rw [List.drop_eq_getElem_cons more] at todo
    refine .inr ⟨goes, fun H2 => ∃ acc2, At (i + 1) acc2 H2, fun H2 next => ⟨xs.length - (i + 1), by omega, rfl, more, next⟩, fun v H3 y => ?_⟩
    obtain ⟨F3, l3, s3, rep⟩ := yields v H3 y
    have whole : Le F F3 := (l1.trans le).trans l3
    have wiped : SL G F3 (L2.wipe σ vs) (wipeD ds vs) := (sl.le whole).wipe vs
    -- the turn's rest, from its own slots
    have turn : ∀ (σ2 : L2.St) (ds2 : DSt), SL G F3 σ2 ds2 → L2.wipe σ2 vs = L2.wipe σ vs →
        (tt noX ds2 m' fun b ma => if b = true then tk noX ds2 ma fun y mb => tv noX ds2 mb fun z mc => ∃ k, keyD y = some k ∧ dcD tgt tt tk tv vs ds Q0 (xs.drop (i + 1)) (setK acc k z) mc else dcD tgt tt tk tv vs ds Q0 (xs.drop (i + 1)) acc ma) →
        L2.wipe σ2 vs = L2.wipe σ vs ∧ lT G WF tt σ2 H3 fun b H4 => if b = true then lE G WF tk σ2 H4 fun y H5 => lE G WF tv σ2 H5 fun z H6 => ∃ kvs k, y = kV k ∧ H6 p = some (.dK kvs) ∧ kvs.length < sizeLine ∧ ∃ acc2, At (i + 1) acc2 (upd H6 p (.dK (putK kvs k z))) else ∃ acc2, At (i + 1) acc2 H4 := by
      intro σ2 ds2 sl2 wipes t2
      refine ⟨wipes, F3, _, m', ds2, _, noX, s3, sl2, t2, noX_ok, fun b m4 F4 H4 q4 l4 s4 => ?_⟩
      cases b with
      | false => exact ⟨acc, F4, m4, vacc, Nat.le_succ_of_le few, (le.trans l3).trans l4, s4, same, (reps.le l3).le l4, q4⟩
      | true =>
        refine ⟨F4, _, m4, ds2, _, noX, s4, sl2.le l4, q4, noX_ok, fun y m5 F5 yv H5 q5 l5 s5 ry => ?_⟩
        refine ⟨F5, _, m5, ds2, _, noX, s5, (sl2.le l4).le l5, q5, noX_ok, fun z m6 F6 zv H6 ⟨k, isK, q6⟩ l6 s6 rz => ?_⟩
        have at_ : H6 p = some (.dK vacc) := (s6.rs p _ upd_same).1
        have len : vacc.length = acc.length := by simpa using congrArg List.length same
        obtain ⟨i1, i2⟩ := put_keys k rz same ((((reps.le l3).le l4).le l5).le l6)
        have grown := setK_len acc k z
        exact ⟨vacc, k, key_v ry isK, at_, by omega, setK acc k z, F6, m6, putK vacc k zv, by omega, (((le.trans l3).trans l4).trans l5).trans l6, s6.putR, i1, i2, q6⟩
    cases tgt with
    | one a => exact turn _ _ (wiped.set a rep) (wipe_set1 (hv a (by simp [Tgt.ix]))) todo
    | two a b =>
      have ina : a ∈ vs := hv a (by simp [Tgt.ix])
      have inb : b ∈ vs := hv b (by simp [Tgt.ix])
      generalize xs[i] = d at todo rep
      match d, rep, todo with
      | .tup [_, _], .tup hp (.cons ra (.cons rb .nil)), todo =>
        refine ⟨_, _, rfl, .inl (.inl (s3.fz _ _ hp)), rfl, _, _, rfl, _, _, rfl, rfl, ?_⟩
        exact turn _ _ ((wiped.set a ra).set b rb) (wipe_set2 ina inb) todo
  · obtain rfl : i = xs.length := Nat.le_antisymm hi (Nat.not_lt.mp more)
    rw [List.drop_length] at todo
    refine .inl ⟨stops (Nat.le_refl _), p, _, rfl, (s'.rs p _ upd_same).1, True.intro, fun od => ?_⟩
    obtain ⟨s6, l6⟩ := (s'.putR (o' := .frz od (.dK vacc))).thawR noR
    exact kk _ m' _ _ _ todo ((l1.trans le).trans l6) s6 (.dic upd_same same (reps.le l6))
theorem de_dc {kx vx tg it : Expr} {ifs : List Expr} {scope : Scope} {own : List (Str × Nat)} {pos : Pos} {ti : DTI} {tgt : Tgt} {tt : DTT} {tk tv : DTE} (calm : X.calm = true) (nd : X.N.Nodup) (hv : ∀ i ∈ tgt.ix, i ∈ own.map (·.2)) (hi : DI X G W tg it ti) (ok : BlkOk X.N X.env.scope scope own)
    (hg : ∀ (s : Shared) (H : Hp) (C : Addr) (cl : List (Str × Addr)) (fp : List Addr), PG (X.blk s H scope (compEnvC scope cl C X.env) fp) tg (tgt.tg X.K)) (ht : ∀ (s : Shared) (H : Hp) (C : Addr) (cl : List (Str × Addr)) (fp : List Addr), DTs (X.blk s H scope (compEnvC scope cl C X.env) fp) G ifs tt)
    (hk : ∀ (s : Shared) (H : Hp) (C : Addr) (cl : List (Str × Addr)) (fp : List Addr), DE (X.blk s H scope (compEnvC scope cl C X.env) fp) G WF kx tk) (he : ∀ (s : Shared) (H : Hp) (C : Addr) (cl : List (Str × Addr)) (fp : List Addr), DE (X.blk s H scope (compEnvC scope cl C X.env) fp) G WF vx tv)
    (hs : ∀ x, foldedSetIterable it X.env x = pure x := by intro _; rfl) : DE X G W (.DictComp kx vx [⟨tg, it, ifs, 0⟩] scope pos) (eDc ti tgt tt tk tv (own.map (·.2))) := by
  obtain ⟨wi, hi, hw⟩ := hi
  exact (pe_dc calm nd hi ok hg ht hk he hs).locks.imp fun σ H Q h => dc_imp (X := X) (tg := tg) (it := it) hv hw h
end
end DL
namespace DL
open PySem PySem.Spec PyProof.Rows L2
section
variable {X : Cx} {G : CT} {W : WX} {e : Expr} {te : DTE}
/-! ### sorted texts -/
/-- a new list of texts, sorted -/
def sortS (ks : List Str) (m : M) (Q : DK) : Prop := ks.length < 64 ∧ ∀ ys : List Str, ys.Perm ks → sortedS ys = true → Q (.lst (ys.map D.str)) m
def sortSD : DR := fun xs m Q => (∃ kvs ks, xs = [.dic kvs] ∧ kvs.map (·.1) = ks.map Sum.inr ∧ sortS ks m Q) ∨ ∃ ks : List Str, xs = [.lst (ks.map D.str)] ∧ sortS ks m Q
theorem strs_v {F : Hp} : ∀ {vs : List V} {ks : List Str}, Reps G F vs (ks.map D.str) → vs = ks.map V.str
  | [], [], .nil => rfl
  | _ :: _, _ :: _, .cons r rr => by
    cases r
    rw [strs_v rr]
    rfl
theorem strs_rep {F : Hp} : ∀ ks : List Str, Reps G F (ks.map V.str) (ks.map D.str)
  | [] => .nil
  | k :: ks => .cons (.str k) (strs_rep ks)
theorem cd_sortS (calm : X.calm = true) : CallD X G (.builtin "sorted") sortSD := CallR.imp ((call_sortedD calm).or cr_sortedS) fun vs H Q hh => by
  obtain ⟨F, R, m, xs, Q0, st, r, h, kk⟩ := hh
  have fin : ∀ (ks ys : List Str) (p : Addr), sortS ks m Q0 → ys.Perm ks → sortedS ys = true → H p = none → Q (.ref p) (upd H p (.lst (ys.map V.str))) := fun ks ys p h perm s free =>
    kk _ m _ _ _ (h.2 ys perm s) (le_upd (st.fnone free)) (st.new free) (.lst upd_same (strs_rep ys))
  rcases h with ⟨kvs, ks, rfl, keys, h⟩ | ⟨ks, rfl, h⟩
  · cases r with
    | cons r rr =>
      cases rr
      cases r with
      | @dic a ob vs _ hh ee rv => exact .inl ⟨a, vs, ks, rfl, .inr ⟨ob, st.fz _ _ hh⟩, ee.trans keys, h.1, fun ys p => fin ks ys p h⟩
  · cases r with
    | cons r rr =>
      cases rr
      cases r with
      | @lst a vs _ hh rv => exact .inr ⟨a, ks, rfl, .inl (.inl (strs_v rv ▸ st.fz _ _ hh)), h.1, fun ys p => fin ks ys p h⟩
/-! ### tuples compared: (number, text) -/
end
end DL

/-! zip of sequences of any kind, made a list or a dict -/
namespace PySem.W
open PySem PySem.Spec PySem.Calls PyProof.Rows
section
variable {prog : Program} {w : World} {A : Around} {E : Value → Shared → Prop} {s : Shared} {z TI TO T i1 i2 : Addr} {fp1 fp2 : List Addr} {n1 n2 i : Nat} {P1 P2 : Nat → Value → Prop} {St1 St2 : Nat → Heap → Prop} {f : Bool} {oT : Obj}
/-- the next pair, the one before it still held -/
theorem zipH_item {Q : Value → Shared → Prop} (S : ZipSep2 z TI TO i1 i2 fp1 fp2) (D1 : Draws prog w A i1 fp1 n1 P1 St1) (D2 : Draws prog w A i2 fp2 n2 P2 St2) (hz : IsZipHeld s.heap z TI TO T f) (hT : s.heap.get? T = some oT) (ins : IsTupOf2 s.heap TI (.ref i1) (.ref i2))
    (st1 : St1 i s.heap) (st2 : St2 i s.heap) (lt1 : i < n1) (lt2 : i < n2)
    (go : ∀ x1 x2 h' tk, P1 i x1 → P2 i x2 → IsZipHeld h' z TI TO T true → St1 (i + 1) h' → St2 (i + 1) h' → IsTupOf2 h' s.heap.objs.size x1 x2 → h'.objs.size = s.heap.objs.size + 1 → (∀ c o, c ≠ z → c ≠ i1 → c ≠ i2 → s.heap.get? c = some o → h'.get? c = some o) →
      Q (.ref s.heap.objs.size) { s with heap := h', toks := tk }) : wpAny (model prog w) A (Builtin.«zip.__next__» ⟨[.ref z], []⟩) (fun fin s' => ∃ v, fin = .done (.ret v) ∧ Q v s') E s := by
  obtain ⟨hp, g, d, tk0, os⟩ := s
  refine wpAny_bind (m := field (.ref z) 2) (wpAny_field hz rfl (x := .bool false) rfl (wpAny_bind (m := field (.ref z) 3) (wpAny_field hz rfl (x := .ref TI) rfl (wpAny_bind (wpAny_seqItems ins rfl ?_)))))
  refine wpAny_bind (m := Builtin.SmallTypes.ownedTupleIsFree (.ref z)) (wpAny_tupleHeld_zip hz hT fun h1 hz1 same1 => ?_)
  rw [if_neg Bool.false_ne_true]
  refine wpAny_bind ?_
  rw [← Array.forIn_toList]
  simp only [List.forIn_cons, List.forIn_nil]
  have same1 : Heap.SameBut z hp h1 := same1
  refine wpAny_bind (wpAny_bind (wpAny_holding (wpAny_bind (m := Builtin.SmallTypes.nextOf (.ref i1)) (D1.item i ⟨h1, g, d, tk0, os⟩ _ _ lt1 (D1.over st1 same1 S.zf1) fun x1 h2 tk1 hx1 st1' same2 => wpAny_pure (wpAny_pure ?_)))))
  have same2 : Heap.SameBut i1 h1 h2 := same2
  refine wpAny_bind (wpAny_bind (wpAny_holding (wpAny_bind (m := Builtin.SmallTypes.nextOf (.ref i2)) (D2.item i ⟨h2, g, d, tk1, os⟩ _ _ lt2 (D2.over (D2.over st2 same1 S.zf2) same2 S.sep1_2) fun x2 h3 tk2 hx2 st2' same3 => wpAny_pure (wpAny_pure (wpAny_pure ?_))))))
  have same3 : Heap.SameBut i2 h2 h3 := same3
  refine wpAny_bind (m := newTuple [x1, x2]) (wpAny_newTuple (wpAny_pure ⟨_, rfl, ?_⟩))
  have size : h3.objs.size = hp.objs.size := by rw [same3.1, same2.1, same1.1]
  have keep : ∀ c o, c ≠ z → c ≠ i1 → c ≠ i2 → hp.get? c = some o → h3.get? c = some o := fun c o c0 c1 c2 e => same3.extBut _ _ c2 (same2.extBut _ _ c1 (same1.extBut _ _ c0 e))
  have zz : IsZipHeld h3 z TI TO T true := same3.extBut _ _ S.zi2 (same2.extBut _ _ S.zi1 hz1)
  have more : ∀ {c : Addr} {o : Obj}, h3.get? c = some o → (h3.push { cls := .type "tuple", data := .seq #[x1, x2] }).get? c = some o := fun e => Heap.get?_push_of_some _ e
  have pair : IsTupOf2 (h3.push { cls := .type "tuple", data := .seq #[x1, x2] }) h3.objs.size x1 x2 := Heap.get?_push_size _ rfl
  have grown : (h3.push { cls := .type "tuple", data := .seq #[x1, x2] }).objs.size = h3.objs.size + 1 := Heap.size_push ..
  show Q (.ref h3.objs.size) _
  rw [size] at pair grown ⊢
  exact go x1 x2 _ tk2 hx1 hx2 (more zz) (D1.frame _ _ _ (D1.over st1' same3 S.sep2_1) fun b _ o e => more e) (D2.frame _ _ _ st2' fun b _ o e => more e) pair grown fun c o c0 c1 c2 e => more (keep c o c0 c1 c2 e)
theorem zipH_end {Q : PySem.Fin → Shared → Prop} (S : ZipSep2 z TI TO i1 i2 fp1 fp2) (D1 : Draws prog w A i1 fp1 n1 P1 St1) (D2 : Draws prog w A i2 fp2 n2 P2 St2) (hz : IsZipHeld s.heap z TI TO T f) (hT : s.heap.get? T = some oT) (ins : IsTupOf2 s.heap TI (.ref i1) (.ref i2))
    (st1 : St1 i s.heap) (st2 : St2 i s.heap) (le1 : i ≤ n1) (le2 : i ≤ n2) (last : i = n1 ∨ i = n2)
    (go : ∀ h' tk e, (∀ c o, c ≠ z → c ≠ i1 → c ≠ i2 → s.heap.get? c = some o → h'.get? c = some o) → (∃ o, h'.get? e = some o ∧ o.cls = .type "StopIteration") → E (.ref e) { s with heap := h', toks := tk }) :
    wpAny (model prog w) A (Builtin.«zip.__next__» ⟨[.ref z], []⟩) Q E s := by
  obtain ⟨hp, g, d, tk0, os⟩ := s
  refine wpAny_bind (m := field (.ref z) 2) (wpAny_field hz rfl (x := .bool false) rfl (wpAny_bind (m := field (.ref z) 3) (wpAny_field hz rfl (x := .ref TI) rfl (wpAny_bind (wpAny_seqItems ins rfl ?_)))))
  refine wpAny_bind (m := Builtin.SmallTypes.ownedTupleIsFree (.ref z)) (wpAny_tupleHeld_zip hz hT fun h1 hz1 same1 => ?_)
  rw [if_neg Bool.false_ne_true]
  refine wpAny_bind ?_
  rw [← Array.forIn_toList]
  simp only [List.forIn_cons, List.forIn_nil]
  have same1 : Heap.SameBut z hp h1 := same1
  rcases Nat.lt_or_ge i n1 with lt1 | ge1
  · refine wpAny_bind (wpAny_bind (wpAny_holding (wpAny_bind (m := Builtin.SmallTypes.nextOf (.ref i1)) (D1.item i ⟨h1, g, d, tk0, os⟩ _ _ lt1 (D1.over st1 same1 S.zf1) fun x1 h2 tk1 hx1 st1' same2 => wpAny_pure (wpAny_pure ?_)))))
    have same2 : Heap.SameBut i1 h1 h2 := same2
    obtain rfl : i = n2 := by omega
    refine wpAny_bind (wpAny_bind (wpAny_holding (wpAny_bind (m := Builtin.SmallTypes.nextOf (.ref i2)) (D2.done ⟨h2, g, d, tk1, os⟩ _ _ (D2.over (D2.over st2 same1 S.zf2) same2 S.sep1_2) fun h3 e ext stop => ?_))))
    exact go h3 tk1 e (fun c o c0 c1 c2 there => ext c o c2 (same2.extBut _ _ c1 (same1.extBut _ _ c0 there))) stop
  · obtain rfl : i = n1 := by omega
    refine wpAny_bind (wpAny_bind (wpAny_holding (wpAny_bind (m := Builtin.SmallTypes.nextOf (.ref i1)) (D1.done ⟨h1, g, d, tk0, os⟩ _ _ (D1.over st1 same1 S.zf1) fun h3 e ext stop => ?_))))
    exact go h3 tk0 e (fun c o c0 c1 c2 there => ext c o c1 (same1.extBut _ _ c0 there)) stop
theorem pyNext_zipH_item {Q : Option Value → Shared → Prop} (S : ZipSep2 z TI TO i1 i2 fp1 fp2) (D1 : Draws prog w A.in1 i1 fp1 n1 P1 St1) (D2 : Draws prog w A.in1 i2 fp2 n2 P2 St2) (hz : IsZipHeld s.heap z TI TO T f) (hT : s.heap.get? T = some oT) (ins : IsTupOf2 s.heap TI (.ref i1) (.ref i2))
    (st1 : St1 i s.heap) (st2 : St2 i s.heap) (lt1 : i < n1) (lt2 : i < n2)
    (go : ∀ x1 x2 h' tk, P1 i x1 → P2 i x2 → IsZipHeld h' z TI TO T true → St1 (i + 1) h' → St2 (i + 1) h' → IsTupOf2 h' s.heap.objs.size x1 x2 → h'.objs.size = s.heap.objs.size + 1 → (∀ c o, c ≠ z → c ≠ i1 → c ≠ i2 → s.heap.get? c = some o → h'.get? c = some o) →
      Q (some (.ref s.heap.objs.size)) { s with heap := h', toks := tk }) : wpAny (model prog w) A (pyNext (.ref z)) Q E s := by
  have kind : s.TypeIs (.ref z) "zip" := ⟨_, hz, rfl⟩
  unfold pyNext
  refine wpAny_bind (wpAny_attempt (wpAny_callSpecial?_slot (name := Str.ofString "__next__") kind PySem.F.slot_zip_next (wpAny_call_entry PySem.F.slot_zip_next kind PySem.F.entry_zip_next (zipH_item S D1 D2 hz hT ins st1 st2 lt1 lt2 fun x1 x2 h' tk a b c d e f g k => wpAny_pure ?_) (PySem.F.args_zip_next_1 _))))
  exact go x1 x2 h' tk a b c d e f g k
theorem pyNext_zipH_end {Q : Option Value → Shared → Prop} (S : ZipSep2 z TI TO i1 i2 fp1 fp2) (D1 : Draws prog w A.in1 i1 fp1 n1 P1 St1) (D2 : Draws prog w A.in1 i2 fp2 n2 P2 St2) (hz : IsZipHeld s.heap z TI TO T f) (hT : s.heap.get? T = some oT) (ins : IsTupOf2 s.heap TI (.ref i1) (.ref i2))
    (st1 : St1 i s.heap) (st2 : St2 i s.heap) (le1 : i ≤ n1) (le2 : i ≤ n2) (last : i = n1 ∨ i = n2) (go : ∀ h' tk, (∀ c o, c ≠ z → c ≠ i1 → c ≠ i2 → s.heap.get? c = some o → h'.get? c = some o) → Q none { s with heap := h', toks := tk }) : wpAny (model prog w) A (pyNext (.ref z)) Q E s := by
  have kind : s.TypeIs (.ref z) "zip" := ⟨_, hz, rfl⟩
  unfold pyNext
  refine wpAny_bind (wpAny_attempt (wpAny_callSpecial?_slot (name := Str.ofString "__next__") kind PySem.F.slot_zip_next (wpAny_call_entry PySem.F.slot_zip_next kind PySem.F.entry_zip_next (zipH_end S D1 D2 hz hT ins st1 st2 le1 le2 last fun h' tk e kept stop => ?_) (PySem.F.args_zip_next_1 _))))
  obtain ⟨o, at_, cls⟩ := stop
  refine wpAny_bind (wpAny_isInstance (T := "StopIteration") (b := true) ⟨o, at_, cls⟩ isSubtype_stop ?_)
  exact wpAny_pure (go h' tk kept)
/-- how a zip stands behind i pairs; apart from it nobody may lie in off -/
def ZipAt (z TI TO i1 i2 : Addr) (St1 St2 : Nat → Heap → Prop) (off : Addr → Prop) (i : Nat) (h : Heap) : Prop :=
  IsTupOf2 h TI (.ref i1) (.ref i2) ∧ St1 i h ∧ St2 i h ∧ ((IsZip h z TI TO .none ∧ ∃ a b, IsTupOf2 h TO a b) ∨ ∃ T f oT, IsZipHeld h z TI TO T f ∧ h.get? T = some oT ∧ T ≠ z ∧ T ≠ i1 ∧ T ≠ i2 ∧ off T)
theorem zipAt_item {Q : Option Value → Shared → Prop} {off : Addr → Prop} (S : ZipSep2 z TI TO i1 i2 fp1 fp2) (D1 : Draws prog w A.in1 i1 fp1 n1 P1 St1) (D2 : Draws prog w A.in1 i2 fp2 n2 P2 St2) (st : ZipAt z TI TO i1 i2 St1 St2 off i s.heap) (lt1 : i < n1) (lt2 : i < n2) (young : off s.heap.objs.size)
    (go : ∀ x1 x2 h' tk, P1 i x1 → P2 i x2 → ZipAt z TI TO i1 i2 St1 St2 off (i + 1) h' → IsTupOf2 h' s.heap.objs.size x1 x2 → h'.objs.size = s.heap.objs.size + 1 → (∀ c o, c ≠ z → c ≠ TO → c ≠ i1 → c ≠ i2 → s.heap.get? c = some o → h'.get? c = some o) →
      Q (some (.ref s.heap.objs.size)) { s with heap := h', toks := tk }) : wpAny (model prog w) A (pyNext (.ref z)) Q E s := by
  obtain ⟨ins, st1, st2, held⟩ := st
  obtain ⟨o1, at1⟩ := D1.live _ _ st1
  obtain ⟨o2, at2⟩ := D2.live _ _ st2
  have above : ∀ {c : Addr} {o : Obj}, s.heap.get? c = some o → s.heap.objs.size ≠ c := fun there => Nat.ne_of_gt (Heap.lt_size there)
  rcases held with ⟨hz, a, b, hTO⟩ | ⟨T, f, oT, hz, hT, q1, q2, q3, q4⟩
  · refine wpAny_pyNext_zipD2_item S D1 D2 hz ins hTO st1 st2 lt1 lt2 fun x1 x2 h' tk p1 p2 hz' hTO' st1' st2' pair size keep => ?_
    exact go x1 x2 h' tk p1 p2 ⟨keep _ _ S.TIz S.TITO S.TIi1 S.TIi2 ins, st1', st2', .inr ⟨s.heap.objs.size, false, _, hz', pair, above hz, above at1, above at2, young⟩⟩ pair size keep
  · refine pyNext_zipH_item S D1 D2 hz hT ins st1 st2 lt1 lt2 fun x1 x2 h' tk p1 p2 hz' st1' st2' pair size keep => ?_
    exact go x1 x2 h' tk p1 p2 ⟨keep _ _ S.TIz S.TIi1 S.TIi2 ins, st1', st2', .inr ⟨T, true, oT, hz', keep _ _ q1 q2 q3 hT, q1, q2, q3, q4⟩⟩ pair size fun c o c0 _ c1 c2 there => keep c o c0 c1 c2 there
theorem zipAt_end {Q : Option Value → Shared → Prop} {off : Addr → Prop} (S : ZipSep2 z TI TO i1 i2 fp1 fp2) (D1 : Draws prog w A.in1 i1 fp1 n1 P1 St1) (D2 : Draws prog w A.in1 i2 fp2 n2 P2 St2) (st : ZipAt z TI TO i1 i2 St1 St2 off i s.heap) (le1 : i ≤ n1) (le2 : i ≤ n2) (last : i = n1 ∨ i = n2)
    (go : ∀ h' tk, (∀ c o, c ≠ z → c ≠ TO → c ≠ i1 → c ≠ i2 → s.heap.get? c = some o → h'.get? c = some o) → Q none { s with heap := h', toks := tk }) : wpAny (model prog w) A (pyNext (.ref z)) Q E s := by
  obtain ⟨ins, st1, st2, held⟩ := st
  rcases held with ⟨hz, a, b, hTO⟩ | ⟨T, f, oT, hz, hT, q1, q2, q3, q4⟩
  · exact wpAny_pyNext_zipD2_end S D1 D2 hz ins hTO st1 st2 le1 le2 last go
  · exact pyNext_zipH_end S D1 D2 hz hT ins st1 st2 le1 le2 last fun h' tk keep => go h' tk fun c o c0 _ c1 c2 there => keep c o c0 c1 c2 there
theorem ZipAt.stay {off : Addr → Prop} {d : Addr} {h h' : Heap} (S : ZipSep2 z TI TO i1 i2 fp1 fp2) (D1 : Draws prog w A i1 fp1 n1 P1 St1) (D2 : Draws prog w A i2 fp2 n2 P2 St2) (st : ZipAt z TI TO i1 i2 St1 St2 off i h) (hoff : ∀ T, off T → T ≠ d) (dz : d ≠ z) (dTI : d ≠ TI) (dTO : d ≠ TO) (d1 : d ∉ fp1) (d2 : d ∉ fp2)
    (keep : ∀ b o, b ≠ d → h.get? b = some o → h'.get? b = some o) : ZipAt z TI TO i1 i2 St1 St2 off i h' := by
  obtain ⟨ins, st1, st2, held⟩ := st
  refine ⟨keep _ _ dTI.symm ins, D1.frame _ _ _ st1 fun b hb o there => keep b o (fun e => d1 (e ▸ hb)) there, D2.frame _ _ _ st2 fun b hb o there => keep b o (fun e => d2 (e ▸ hb)) there, ?_⟩
  rcases held with ⟨hz, a, b, hTO⟩ | ⟨T, f, oT, hz, hT, q1, q2, q3, q4⟩
  · exact .inl ⟨keep _ _ dz.symm hz, a, b, keep _ _ dTO.symm hTO⟩
  · exact .inr ⟨T, f, oT, keep _ _ dz.symm hz, keep _ _ (hoff T q4) hT, q1, q2, q3, q4⟩
/-! ### dict(zip(..)) -/
theorem zip_pairs (S : ZipSep2 z TI TO i1 i2 fp1 fp2) (D1 : ∀ A : Around, A.handled = none → Draws prog w A i1 fp1 n1 P1 St1) (D2 : ∀ A : Around, A.handled = none → Draws prog w A i2 fp2 n2 P2 St2) (live1 : ∀ h, St1 0 h → ∀ b ∈ fp1, ∃ o, h.get? b = some o) (live2 : ∀ h, St2 0 h → ∀ b ∈ fp2, ∃ o, h.get? b = some o) :
    PairArg prog w "zip" z (z :: TI :: TO :: (fp1 ++ fp2)) [z, TO, i1, i2] (min n1 n2) (fun i k v => P1 i k ∧ P2 i v) (fun h => IsZip h z TI TO .none ∧ IsTupOf2 h TI (.ref i1) (.ref i2) ∧ (∃ a b, IsTupOf2 h TO a b) ∧ St1 0 h ∧ St2 0 h) where
  type := fun s ok => ⟨_, ok.1, rfl⟩
  notDict := by decide
  keep := fun h h' ⟨hz, ins, ⟨a, b, hTO⟩, st1, st2⟩ k => ⟨k _ _ hz, k _ _ ins, ⟨a, b, k _ _ hTO⟩, (D1 {} rfl).frame _ _ _ st1 fun b _ o => k b o, (D2 {} rfl).frame _ _ _ st2 fun b _ o => k b o⟩
  there := fun h ⟨hz, ins, ⟨a, c, hTO⟩, st1, st2⟩ b hb => by
    simp only [List.mem_cons, List.mem_append] at hb
    rcases hb with rfl | rfl | rfl | hb | hb
    · exact ⟨_, hz⟩
    · exact ⟨_, ins⟩
    · exact ⟨_, hTO⟩
    · exact live1 h st1 b hb
    · exact live2 h st2 b hb
  sub := fun b hb => by
    simp only [List.mem_cons, List.not_mem_nil, or_false] at hb
    simp only [List.mem_cons, List.mem_append]
    rcases hb with rfl | rfl | rfl | rfl
    · exact .inl rfl
    · exact .inr (.inr (.inl rfl))
    · exact .inr (.inr (.inr (.inl S.mem1)))
    · exact .inr (.inr (.inr (.inr S.mem2)))
  noKeys := fun A s Q E calm ok h => getAttrOr_miss_zip ok.1 rfl rfl rfl zip_no_keys (by decide +kernel) calm h
  iter := fun A s d Q E calm ⟨hz, ins, ⟨a, b, hTO⟩, st1, st2⟩ below off h => by
    simp only [List.mem_cons, List.mem_append, not_or] at off
    obtain ⟨dz, dTI, dTO, d1, d2⟩ := off
    have ne1 : d ≠ i1 := fun e => d1 (e ▸ S.mem1)
    have ne2 : d ≠ i2 := fun e => d2 (e ▸ S.mem2)
    refine wpAny_pyIter_zip hz (h z [z, TO, i1, i2] (ZipAt z TI TO i1 i2 St1 St2 fun T => T ≠ d) s.heap s.toks ?_ ⟨ins, st1, st2, .inl ⟨hz, a, b, hTO⟩⟩ (fun _ _ e => e) fun b hb => .inl hb)
    exact {
      off := by simp only [List.mem_cons, List.not_mem_nil, or_false, not_or]; exact ⟨dz, dTO, ne1, ne2⟩
      frame := fun i h1 h2 st k => st.stay S (D1 A calm) (D2 A calm) (fun T q => q) dz dTI dTO d1 d2 k
      item := fun i s1 Q1 E1 lt st ds go => zipAt_item S (D1 A.in1 calm) (D2 A.in1 calm) st (Nat.lt_of_lt_of_le lt (Nat.min_le_left ..)) (Nat.lt_of_lt_of_le lt (Nat.min_le_right ..)) (Nat.ne_of_gt ds) fun x1 x2 h' tk p1 p2 st' pair _ keep =>
        go _ x1 x2 h' tk ⟨p1, p2⟩ (.inl ⟨_, pair, rfl, _, rfl⟩) st' fun c o nw there => keep c o (fun e => nw (by simp [e])) (fun e => nw (by simp [e])) (fun e => nw (by simp [e])) (fun e => nw (by simp [e])) there
      done := fun s1 Q1 E1 st go => zipAt_end S (D1 A.in1 calm) (D2 A.in1 calm) st (Nat.min_le_left ..) (Nat.min_le_right ..) (by omega) fun h' tk keep =>
        go h' tk fun c o nw there => keep c o (fun e => nw (by simp [e])) (fun e => nw (by simp [e])) (fun e => nw (by simp [e])) (fun e => nw (by simp [e])) there }
end
end PySem.W
namespace PySem.W
open PySem PySem.Spec PySem.Calls PyProof.Rows
/-! ### list(zip(..)) -/
theorem zip_nolen : typeLookup (.type "zip") "__len__" = pure none := by rw [typeLookup_type, builtinLookup_eq_fast]; kernel_rfl
theorem zip_nohint : typeLookup (.type "zip") "__length_hint__" = pure none := by rw [typeLookup_type, builtinLookup_eq_fast]; kernel_rfl
section
variable {prog : Program} {w : World} {A : Around} {E : Value → Shared → Prop} {s : Shared} {z TI TO L N i1 i2 : Addr} {fp1 fp2 : List Addr} {n1 n2 : Nat} {P1 P2 : Nat → Value → Prop} {St1 St2 : Nat → Heap → Prop} {R : Result → Shared → Prop}
/-- the pairs that a zip gave, by their addresses -/
def PairsAt (P1 P2 : Nat → Value → Prop) (off : Addr → Prop) (Ts : List Addr) (h : Heap) : Prop := ∀ j T, Ts[j]? = some T → (∃ x y, P1 j x ∧ P2 j y ∧ IsTupOf2 h T x y) ∧ off T
theorem PairsAt.keep {off : Addr → Prop} {Ts : List Addr} {h h' : Heap} (p : PairsAt P1 P2 off Ts h) (k : ∀ b o, off b → h.get? b = some o → h'.get? b = some o) : PairsAt P1 P2 off Ts h' := fun j T at_ =>
  let ⟨⟨x, y, p1, p2, there⟩, o⟩ := p j T at_
  ⟨⟨x, y, p1, p2, k _ _ o there⟩, o⟩
/-- away from the list and the zip's cells, and new -/
def Away5 (L z TO i1 i2 N : Addr) (T : Addr) : Prop := T ≠ L ∧ T ≠ z ∧ T ≠ TO ∧ T ≠ i1 ∧ T ≠ i2 ∧ N ≤ T
abbrev lstAt (h : Heap) (L : Addr) (Ts : List Addr) (c : Nat) : Prop := h.get? L = some { cls := .type "list", data := .seq (Ts.map Value.ref).toArray c }
theorem zip_fills (S : ZipSep2 z TI TO i1 i2 fp1 fp2) (D1 : ∀ A : Around, A.handled = none → Draws prog w A i1 fp1 n1 P1 St1) (D2 : ∀ A : Around, A.handled = none → Draws prog w A i2 fp2 n2 P2 St2) (calm : A.handled = none) (Lz : L ≠ z) (LTI : L ≠ TI) (LTO : L ≠ TO) (L1 : L ∉ fp1) (L2 : L ∉ fp2) (oldTO : TO < N) (res : Value) (line : min n1 n2 ≤ sizeLine) :
    ∀ (k : Nat) (s : Shared) (Ts : List Addr) (c : Nat), min n1 n2 - Ts.length = k → Ts.length ≤ min n1 n2 → ZipAt z TI TO i1 i2 St1 St2 (Away5 L z TO i1 i2 N) Ts.length s.heap → PairsAt P1 P2 (Away5 L z TO i1 i2 N) Ts s.heap → lstAt s.heap L Ts c → N ≤ s.heap.objs.size →
      (∀ (h' : Heap) (tk : Nat) (Ts' : List Addr) (c' : Nat), Ts'.length = min n1 n2 → PairsAt P1 P2 (Away5 L z TO i1 i2 N) Ts' h' → lstAt h' L Ts' c' → (∀ b o, b ≠ L → b ≠ z → b ≠ TO → b ≠ i1 → b ≠ i2 → s.heap.get? b = some o → h'.get? b = some o) → R (.ok (.ret res)) { s with heap := h', toks := tk }) →
      codeAny (model prog w) A (.builtin "list.extend.loop" ⟨[.ref L, .ref z, res], []⟩) R s := by
  have l1 : L ≠ i1 := fun e => L1 (e ▸ S.mem1)
  have l2 : L ≠ i2 := fun e => L2 (e ▸ S.mem2)
  intro k
  induction k with
  | zero =>
    intro s Ts c rest le st pairs lst _ go
    refine codeAny_builtin PySem.F.entry_extend_loop ?_
    rw [Around.under_plainId PySem.F.plain_extend_loop _]
    refine wpAny_bind (m := pyNext (.ref z)) (zipAt_end S (D1 A.in1.in1 calm) (D2 A.in1.in1 calm) st (Nat.le_trans le (Nat.min_le_left ..)) (Nat.le_trans le (Nat.min_le_right ..)) (by rcases Nat.le_total n1 n2 with q | q <;> simp only [Nat.min_eq_left q, Nat.min_eq_right q] at rest le <;> omega) fun h' tk keep => ?_)
    exact wpAny_pure (go h' tk Ts c (by omega) (pairs.keep fun b o q there => keep b o q.2.1 q.2.2.1 q.2.2.2.1 q.2.2.2.2.1 there) (keep _ _ Lz LTO l1 l2 lst) fun b o _ b0 bT b1 b2 there => keep b o b0 bT b1 b2 there)
  | succ k ih =>
    intro s Ts c rest le st pairs lst above go
    have below : ∀ {b : Addr} {o : Obj}, s.heap.get? b = some o → s.heap.objs.size ≠ b := fun there => Nat.ne_of_gt (Heap.lt_size there)
    obtain ⟨o1, at1⟩ := (D1 A calm).live _ _ st.2.1
    obtain ⟨o2, at2⟩ := (D2 A calm).live _ _ st.2.2.1
    have zAt : ∃ o, s.heap.get? z = some o := by
      rcases st.2.2.2 with ⟨hz, _⟩ | ⟨_, _, _, hz, _⟩ <;> exact ⟨_, hz⟩
    obtain ⟨oz, hz⟩ := zAt
    have young : Away5 L z TO i1 i2 N s.heap.objs.size := ⟨below lst, below hz, Nat.ne_of_gt (Nat.lt_of_lt_of_le oldTO above), below at1, below at2, above⟩
    refine codeAny_builtin PySem.F.entry_extend_loop ?_
    rw [Around.under_plainId PySem.F.plain_extend_loop _]
    refine wpAny_bind (m := pyNext (.ref z)) (zipAt_item S (D1 A.in1.in1 calm) (D2 A.in1.in1 calm) st (Nat.lt_of_lt_of_le (by omega : Ts.length < min n1 n2) (Nat.min_le_left ..)) (Nat.lt_of_lt_of_le (by omega : Ts.length < min n1 n2) (Nat.min_le_right ..)) young fun x1 x2 h' tk p1 p2 st' pair size keep => ?_)
    have lst' : lstAt h' L Ts c := keep _ _ Lz LTO l1 l2 lst
    show wpAny _ A.in1 (updateSeq L (·.push (.ref s.heap.objs.size)) >>= _) _ _ _
    have shorter : Ts.length + 1 ≤ min n1 n2 := by omega
    have written : ∀ b o, b ≠ L → h'.get? b = some o → (h'.update L (Obj.mapSeq (·.push (Value.ref s.heap.objs.size)))).get? b = some o := fun b o off there => (Heap.get?_update_other _ _ (Ne.symm off)).trans there
    have lst2 : lstAt (h'.update L (Obj.mapSeq (·.push (Value.ref s.heap.objs.size)))) L (Ts ++ [s.heap.objs.size]) _ := (Heap.get?_update_self _ lst' rfl).trans (by simp [Obj.mapSeq]; rfl)
    have next := ih { s with heap := h'.update L (Obj.mapSeq (·.push (Value.ref s.heap.objs.size))), toks := tk } (Ts ++ [s.heap.objs.size]) _ (by rw [List.length_append, List.length_singleton]; omega) (by rw [List.length_append, List.length_singleton]; omega)
      (by
        rw [List.length_append, List.length_singleton]
        exact st'.stay S (D1 A calm) (D2 A calm) (fun T q => q.1) Lz LTI LTO L1 L2 written)
      (fun j T at_ => by
        rcases Nat.lt_or_ge j Ts.length with lt | ge
        · rw [List.getElem?_append_left lt] at at_
          exact (pairs.keep fun b o q there => written b o q.1 (keep b o q.2.1 q.2.2.1 q.2.2.2.1 q.2.2.2.2.1 there)) j T at_
        · rw [List.getElem?_append_right ge] at at_
          obtain ⟨e0, e1⟩ := List.getElem?_eq_some_iff.mp at_
          have j0 : j = Ts.length := by simp at e0; omega
          subst j0
          simp at e1
          subst e1
          exact ⟨⟨x1, x2, p1, p2, written _ _ young.1 pair⟩, young⟩)
      lst2 (by show N ≤ (h'.update L _).objs.size; rw [Heap.size_update, size]; exact Nat.le_succ_of_le above)
      (fun h2 tk2 Ts2 c2 len pairs2 lst3 keep2 => go h2 tk2 Ts2 c2 len pairs2 lst3 fun b o b0 bz bT b1 b2 there => keep2 b o b0 bz bT b1 b2 (written b o b0 (keep b o bz bT b1 b2 there)))
    refine wpAny_bind (wpAny_updateSeq lst' rfl (wpAny_pure ⟨plainId_quiet PySem.F.plain_extend_loop _, next⟩) ?_ ?_)
    · simp only [List.size_toArray, List.length_map]; omega
    · simp only [Array.size_push, List.size_toArray, List.length_map]; omega
end
end PySem.W
namespace PySem.W
open PySem PySem.Spec PySem.Calls PyProof.Rows
section
variable {prog : Program} {w : World} {A : Around} {E : Value → Shared → Prop} {s : Shared} {z TI TO L i1 i2 : Addr} {fp1 fp2 : List Addr} {n1 n2 : Nat} {P1 P2 : Nat → Value → Prop} {St1 St2 : Nat → Heap → Prop} {R : Result → Shared → Prop}
/-- the extending of a list that stands empty -/
theorem zip_extends (S : ZipSep2 z TI TO i1 i2 fp1 fp2) (D1 : ∀ A : Around, A.handled = none → Draws prog w A i1 fp1 n1 P1 St1) (D2 : ∀ A : Around, A.handled = none → Draws prog w A i2 fp2 n2 P2 St2) (calm : A.handled = none) (Lz : L ≠ z) (LTI : L ≠ TI) (LTO : L ≠ TO) (L1 : L ∉ fp1) (L2 : L ∉ fp2) (oldTO : TO < s.heap.objs.size) (line : min n1 n2 ≤ sizeLine)
    (hz : IsZip s.heap z TI TO .none) (ins : IsTupOf2 s.heap TI (.ref i1) (.ref i2)) (hTO : ∃ a b, IsTupOf2 s.heap TO a b) (st1 : St1 0 s.heap) (st2 : St2 0 s.heap) {c0 : Nat} (empty : lstAt s.heap L [] c0) (res : Value)
    (go : ∀ (h' : Heap) (tk : Nat) (Ts : List Addr) (c' : Nat), Ts.length = min n1 n2 → PairsAt P1 P2 (Away5 L z TO i1 i2 s.heap.objs.size) Ts h' → lstAt h' L Ts c' → (∀ b o, b ≠ L → b ≠ z → b ≠ TO → b ≠ i1 → b ≠ i2 → s.heap.get? b = some o → h'.get? b = some o) → R (.ok (.ret res)) { s with heap := h', toks := tk }) :
    wpAny (model prog w) A.in1 (Builtin.List.listExtendWith (.ref L) (.ref z) res) (fun fin s' => match fin with | .done f => R (.ok f) s' | .again c' => c'.quiet = true ∧ codeAny (model prog w) A c' R s') (fun e s' => R (.error e) s') s := by
  have kind : s.TypeIs (.ref z) "zip" := ⟨_, hz, rfl⟩
  have other : Builtin.List.listSameRef (.ref L) (.ref z) = false := by simp [Builtin.List.listSameRef, Lz]
  obtain ⟨a, b, hTO⟩ := hTO
  delta Builtin.List.listExtendWith
  refine wpAny_bind (wpAny_typeOf kind ?_)
  rw [other]
  simp only [show (Value.type "zip" == Value.type "list") = false from rfl, show (Value.type "zip" == Value.type "tuple") = false from rfl, Bool.or_false, Bool.false_eq_true, ↓reduceIte]
  refine wpAny_bind (wpAny_pyIter_zip hz (wpAny_bind (wpAny_holding ?_)))
  unfold Builtin.List.listLengthHint
  refine wpAny_bind (wpAny_specialOf kind zip_nolen (wpAny_bind (m := specialOf (Value.ref z) (Str.ofString "__length_hint__")) (wpAny_specialOf kind zip_nohint (wpAny_pure ?_))))
  have start : ∀ (h : Heap) (c : Nat), (∀ b o, b ≠ L → s.heap.get? b = some o → h.get? b = some o) → h.objs.size = s.heap.objs.size → lstAt h L [] c → codeAny (model prog w) A (.builtin "list.extend.loop" ⟨[.ref L, .ref z, res], []⟩) R { s with heap := h } := fun h c keep size lst =>
    zip_fills S D1 D2 calm Lz LTI LTO L1 L2 oldTO res line _ { s with heap := h } [] c rfl (Nat.zero_le _) ⟨keep _ _ LTI.symm ins, (D1 A calm).frame _ _ _ st1 fun b hb o there => keep b o (fun e => L1 (e ▸ hb)) there, (D2 A calm).frame _ _ _ st2 fun b hb o there => keep b o (fun e => L2 (e ▸ hb)) there, .inl ⟨keep _ _ Lz.symm hz, a, b, keep _ _ LTO.symm hTO⟩⟩
      (fun j T at_ => by simp at at_) lst (Nat.le_of_eq size.symm) fun h' tk Ts c' len pairs lst' kept => go h' tk Ts c' len pairs lst' fun b o b0 bz bT b1 b2 there => kept b o b0 bz bT b1 b2 (keep b o b0 there)
  refine wpAny_ite_split (fun _ => ?_) fun _ => wpAny_pure ⟨plainId_quiet PySem.F.plain_extend_loop _, start s.heap c0 (fun _ _ _ e => e) rfl empty⟩
  refine wpAny_bind (wpAny_rule (wpAny_bind ?_))
  show wpAny _ _ (updateSeq L (·.push .none) >>= fun _ => updateSeq L (·.pop)) _ _ _
  have at2 := Heap.get?_update_self (Obj.mapSeq (·.push Value.none)) empty rfl
  refine wpAny_bind (wpAny_updateSeq empty rfl (wpAny_updateSeq (hz := by seq_fits) at2 rfl (wpAny_pure ⟨plainId_quiet PySem.F.plain_extend_loop _, start _ _ (fun b o off there => ?_) ?_ (Heap.get?_update_self (Obj.mapSeq (·.pop)) at2 rfl)⟩)))
  · exact (Heap.get?_update_other _ _ (Ne.symm off)).trans ((Heap.get?_update_other _ _ (Ne.symm off)).trans there)
  · rw [Heap.size_update, Heap.size_update]
theorem call_list_zip {Q : Value → Shared → Prop} (S : ZipSep2 z TI TO i1 i2 fp1 fp2) (D1 : ∀ A : Around, A.handled = none → Draws prog w A i1 fp1 n1 P1 St1) (D2 : ∀ A : Around, A.handled = none → Draws prog w A i2 fp2 n2 P2 St2) (calm : A.handled = none) (oldz : z < s.heap.objs.size) (oldTI : TI < s.heap.objs.size) (oldTO : TO < s.heap.objs.size)
    (old1 : ∀ b ∈ fp1, b < s.heap.objs.size) (old2 : ∀ b ∈ fp2, b < s.heap.objs.size) (line : min n1 n2 ≤ sizeLine) (hz : IsZip s.heap z TI TO .none) (ins : IsTupOf2 s.heap TI (.ref i1) (.ref i2)) (hTO : ∃ a b, IsTupOf2 s.heap TO a b) (st1 : St1 0 s.heap) (st2 : St2 0 s.heap)
    (go : ∀ (h' : Heap) (tk : Nat) (Ts : List Addr) (c' : Nat), Ts.length = min n1 n2 → PairsAt P1 P2 (Away5 s.heap.objs.size z TO i1 i2 (s.heap.objs.size + 1)) Ts h' → lstAt h' s.heap.objs.size Ts c' → (∀ b o, b ≠ z → b ≠ TO → b ≠ i1 → b ≠ i2 → s.heap.get? b = some o → h'.get? b = some o) →
      Q (.ref s.heap.objs.size) { s with heap := h', toks := tk }) : wpAny (model prog w) A (call (.type "list") [.ref z]) Q E s := by
  have gone : ∀ {b : Addr}, b < s.heap.objs.size → s.heap.objs.size ≠ b := fun lt => Nat.ne_of_gt lt
  refine callType_codes (Q₁ := fun obj s₁ => obj = .ref s.heap.objs.size ∧ s₁ = { s with heap := s.heap.push { cls := .type "list", data := .seq #[] } }) PySem.F.called_list (PySem.F.typeCall_list_1 _) PySem.F.entry_list_init (code_list_new _ ⟨rfl, rfl⟩) ?_
  rintro _ _ ⟨rfl, rfl⟩
  have up : ∀ {b : Addr} {o : Obj}, s.heap.get? b = some o → (s.heap.push { cls := .type "list", data := .seq #[] }).get? b = some o := fun there => Heap.get?_push_of_some _ there
  have new : (s.heap.push { cls := .type "list", data := .seq #[] }).get? s.heap.objs.size = some { cls := .type "list", data := .seq #[] } := Heap.get?_push_size _ rfl
  have size : (s.heap.push { cls := .type "list", data := .seq #[] }).objs.size = s.heap.objs.size + 1 := Heap.size_push ..
  refine ⟨⟨_, new, rfl⟩, PySem.F.args_list_init_2 _ _, ?_⟩
  refine wpAny_bind (m := Builtin.List.listItems (.ref s.heap.objs.size)) ?_
  unfold Builtin.List.listItems
  refine wpAny_bind (wpAny_seqItems new rfl (wpAny_pure ?_))
  show wpAny _ _ (updateSeq s.heap.objs.size (fun _ => #[]) >>= fun _ => letGo (#[] : Array Value).toList.reverse >>= fun _ => Builtin.List.listExtendWith (.ref s.heap.objs.size) (.ref z) .none) _ _ _
  have again := Heap.get?_update_self (Obj.mapSeq (fun _ => (#[] : Array Value))) new rfl
  have up2 : ∀ {b : Addr} {o : Obj}, b ≠ s.heap.objs.size → s.heap.get? b = some o → ((s.heap.push { cls := .type "list", data := .seq #[] }).update s.heap.objs.size (Obj.mapSeq (fun _ => (#[] : Array Value)))).get? b = some o := fun off there => (Heap.get?_update_other _ _ (Ne.symm off)).trans (up there)
  have off : ∀ {b : Addr} {o : Obj}, s.heap.get? b = some o → b ≠ s.heap.objs.size := fun there => Nat.ne_of_lt (Heap.lt_size there)
  obtain ⟨a, b, hTO⟩ := hTO
  refine wpAny_bind (wpAny_updateSeq new rfl (wpAny_bind (wpAny_letGo ?_)))
  refine zip_extends (A := A.in1) (s := { s with heap := (s.heap.push { cls := .type "list", data := .seq #[] }).update s.heap.objs.size (Obj.mapSeq (fun _ => (#[] : Array Value))) }) S D1 D2 calm (gone oldz) (gone oldTI) (gone oldTO) (fun m => gone (old1 _ m) rfl) (fun m => gone (old2 _ m) rfl) ?_ line
    (up2 (off hz) hz) (up2 (off ins) ins) ⟨a, b, up2 (off hTO) hTO⟩ ((D1 A calm).frame _ _ _ st1 fun c _ o there => up2 (off there) there) ((D2 A calm).frame _ _ _ st2 fun c _ o there => up2 (off there) there) again .none ?_
  · show TO < ((s.heap.push { cls := .type "list", data := .seq #[] }).update s.heap.objs.size (Obj.mapSeq (fun _ => (#[] : Array Value)))).objs.size
    rw [Heap.size_update, size]
    exact Nat.lt_succ_of_lt oldTO
  · intro h' tk Ts c' len pairs lst kept
    have pairs' : PairsAt P1 P2 (Away5 s.heap.objs.size z TO i1 i2 (s.heap.objs.size + 1)) Ts h' := fun j T at_ => by
      obtain ⟨p, q⟩ := pairs j T at_
      refine ⟨p, q.1, q.2.1, q.2.2.1, q.2.2.2.1, q.2.2.2.2.1, ?_⟩
      have above := q.2.2.2.2.2
      show s.heap.objs.size + 1 ≤ T
      have e : ((s.heap.push { cls := .type "list", data := .seq #[] }).update s.heap.objs.size (Obj.mapSeq (fun _ => (#[] : Array Value)))).objs.size = s.heap.objs.size + 1 := by rw [Heap.size_update, size]
      exact e ▸ above
    exact ⟨rfl, go h' tk Ts c' len pairs' lst fun c o c0 cT c1 c2 there => kept c o (off there) c0 cT c1 c2 (up2 (off there) there)⟩
end
end PySem.W
namespace DL
open PySem PySem.Spec PyProof.Rows L2
section
variable {X : Cx} {G : CT} {W : WX} {pins : List (Addr × Obj)} {σ : L2.St} {F R H H' : Hp} {m : M} {s : Shared}
/-- several new objects at once -/
theorem inv_grown {h' : Heap} {tk : Nat} (I : Inv X pins σ H s) (k : ∀ b o, s.heap.get? b = some o → h'.get? b = some o) (old : ∀ b u, H b = some u → H' b = some u) (fresh : ∀ b, b < s.heap.objs.size → H b = none → H' b = none)
    (new : ∀ b u, H b = none → H' b = some u → ObjOk X.prog X.w H' h' b u) : Inv X pins σ H' { s with heap := h', toks := tk } := by
  refine I.un (t' := tk) ?_ ?_
  · constructor
    · exact fun b o there _ _ _ => k b o there
    · exact fun b o there _ _ _ => ⟨o.slots, k b o there⟩
    · exact fun b o there none_ _ => fresh b (Heap.lt_size there) none_
    · exact fun b o there _ => ⟨o, k b o there⟩
    · exact fun b xs q => old b _ q
    · exact fun b o u q => old b _ q
    · exact fun b ps q => ⟨#[], by rw [old b _ q, Array.append_empty]⟩
  · intro b u q
    cases e : H b with
    | none => exact new b u e q
    | some v =>
      obtain rfl : v = u := Option.some.inj ((old b v e).symm.trans q)
      exact (I.hok b v e).stay (fun c w _ there => k c w there) (fun c z => old c _ z) fun c xs z => old c _ z
/-- the part that stays, with what is new -/
def newF (F H H' : Hp) : Hp := fun b => match F b with
  | some u => some u
  | none => match H b with
    | some _ => none
    | none => H' b
theorem newF_le : Le F (newF F H H') := fun b u e => by unfold newF; rw [e]
theorem newF_at {b : Addr} {u : HO} (st : Hst G F R H m) (e : H b = none) (h : H' b = some u) : newF F H H' b = some u := by
  unfold newF
  rw [st.fnone e, e]
  exact h
theorem Hst.many (st : Hst G F R H m) (old : ∀ b u, H b = some u → H' b = some u) : Hst G (newF F H H') R H' m := by
  have out : ∀ {a : Addr} {u : HO}, F a = none → H a = some u → newF F H H' a = none := fun {a u} f h => by unfold newF; rw [f, h]
  refine ⟨fun a u e => ?_, fun a u e => ?_, fun a u e => ?_, st.nt⟩
  · unfold newF at e
    cases f : F a with
    | some v =>
      rw [f] at e
      exact old a u (st.fz a u (f.trans e))
    | none =>
      rw [f] at e
      cases h : H a with
      | some v => rw [h] at e; cases e
      | none => rw [h] at e; exact e
  · obtain ⟨h1, h2, h3⟩ := st.rs a u e
    exact ⟨old a u h1, out h2 h1, h3⟩
  · obtain ⟨h1, held⟩ := st.mt a u e
    obtain ⟨v, hv⟩ := held.some
    exact ⟨out h1 hv, held.le newF_le ((old a v hv).trans hv.symm)⟩
theorem relV_fun {v v' : V} {u : Value} (r : L2.RelV v u) (r' : L2.RelV v' u) : v = v' := by
  have back : ∀ {v : V} {u : Value}, L2.RelV v u → (match u with | .none => some V.non | .bool b => some (.bl b) | .int i _ => some (.int i) | .str x _ => some (.str x) | .bytes b _ => some (.byt b) | .float b _ => some (.flt b) | .type n => some (.ty n) | .ref a => some (.ref a) | _ => none) = some v := fun {v u} r => by
    cases v <;> simp only [L2.RelV] at r <;> first
      | (subst r; rfl)
      | (obtain ⟨t, rfl⟩ := r; rfl)
  exact Option.some.inj ((back r).symm.trans (back r'))
/-! ### lists and tuples as sources -/
def seqD : D → Option (List D)
  | .lst xs | .scr xs | .tup xs => some xs
  | _ => none
structure Src (prog : Program) (w : World) (h : Heap) (l : Addr) (its : List Value) (o : Obj) (Hq : Heap → Prop) (St : Addr → Nat → Heap → Prop) : Prop where
  begins : Begins (.ref l) o Hq
  now : Hq h
  stay : ∀ h' : Heap, (∀ c o, h.get? c = some o → h'.get? c = some o) → Hq h'
  old : l < h.objs.size
  draws : ∀ (A : Around) (it : Addr), A.handled = none → l ≠ it → Draws prog w A it [it, l] its.length (fun i v => its[i]? = some v) (St it)
  start : ∀ (it : Addr) (h' : Heap), h'.get? it = some o → Hq h' → St it 0 h'
  live : ∀ (it i : Nat) (h' : Heap), St it i h' → ∀ b ∈ [it, l], ∃ q, h'.get? b = some q
theorem seq_src {v : V} {u : Value} {d : D} {ds : List D} (I : Inv X pins σ H s) (st : Hst G F R H m) (rv : L2.RelV v u) (rx : Rep G F v d) (h : seqD d = some ds) :
    ∃ l its vs o Hq St, u = .ref l ∧ Vals vs its ∧ Reps G F vs ds ∧ its.length ≤ sizeLine ∧ Src X.prog X.w s.heap l its o Hq St := by
  have ofList : ∀ (a : Addr) (vs : List V) (its : List Value), Vals vs its → s.heap.IsList a its.toArray → Src X.prog X.w s.heap a its { cls := .type "list_iterator", data := .fields #[.ref a, .int 0 0] } (fun h => h.IsList a its.toArray) (fun it i h => h.IsListIter it a i ∧ h.IsList a its.toArray) := fun a vs its r at_ =>
    ⟨begins_list a _, at_, (fun h' k => let ⟨o, e, r⟩ := at_; ⟨o, k _ _ e, r⟩), (let ⟨_, e, _⟩ := at_; Heap.lt_size e), fun A it calm ne => by simpa using Draws.list calm it a ne its.toArray, fun it h' e q => ⟨⟨_, e, rfl, rfl⟩, q⟩, fun it i h' ⟨⟨o1, e1, _⟩, ⟨o2, e2, _⟩⟩ b hb => by
      rcases List.mem_cons.mp hb with rfl | hb
      · exact ⟨o1, e1⟩
      · exact List.mem_singleton.mp hb ▸ ⟨o2, e2⟩⟩
  cases rx <;> cases h
  · rename_i a vs hh r
    obtain rfl : u = .ref a := rv
    obtain ⟨small, its, vals, o, at_, cls, n, data⟩ := (show ObjOk X.prog X.w H s.heap a (.tup vs) from I.hok a _ (st.fz _ _ hh))
    have tup : s.heap.IsTuple a its.toArray := ⟨o, at_, cls, n, data⟩
    refine ⟨a, its, vs, _, _, fun it i h => h.IsTupleIter it a i ∧ h.IsTuple a its.toArray, rfl, vals, r, Paired.length vals ▸ small, begins_tuple a its.toArray, tup, (fun h' k => let ⟨o, e, r⟩ := tup; ⟨o, k _ _ e, r⟩), Heap.lt_size at_, fun A it calm ne => by simpa using Draws.tuple calm it a ne its.toArray, fun it h' e q => ⟨⟨_, e, rfl, rfl⟩, q⟩, fun it i h' ⟨⟨o1, e1, _⟩, ⟨o2, e2, _⟩⟩ b hb => ?_⟩
    rcases List.mem_cons.mp hb with rfl | hb
    · exact ⟨o1, e1⟩
    · exact List.mem_singleton.mp hb ▸ ⟨o2, e2⟩
  · rename_i a vs hh r
    obtain rfl : u = .ref a := rv
    obtain ⟨small, its, n, vals, at_⟩ := (show ObjOk X.prog X.w H s.heap a (.lst vs) from I.hok a _ (st.fz _ _ hh))
    exact ⟨a, its, vs, _, _, _, rfl, vals, r, Paired.length vals ▸ small, ofList a vs its vals ⟨_, at_, rfl, _, rfl⟩⟩
  · rename_i a o vs hh r
    obtain rfl : u = .ref a := rv
    obtain ⟨_, small, its, n, vals, at_⟩ := (show ObjOk X.prog X.w H s.heap a (.frz o (.lst vs)) from I.hok a _ (st.fz _ _ hh))
    exact ⟨a, its, vs, _, _, _, rfl, vals, r, Paired.length vals ▸ small, ofList a vs its vals ⟨_, at_, rfl, _, rfl⟩⟩
end
end DL

/-! small rules: either of two, isinstance with a tuple, lists of other lengths, unpacking of lists, calls without arguments -/
namespace DL
open PySem PySem.Spec PyProof.Rows L2
section
variable {X : Cx} {G : CT} {W : WX} {pos : Pos}
theorem CallD.or {f : Value} {r r' : DR} (h : CallD X G f r) (h' : CallD X G f r') : CallD X G f (fun xs m Q => r xs m Q ∨ r' xs m Q) :=
  CallR.imp (CallR.or h h') fun vs H Q ⟨F, R, m, xs, Q0, st, rr, q, kk⟩ => q.elim (fun q => .inl ⟨F, R, m, xs, Q0, st, rr, q, kk⟩) fun q => .inr ⟨F, R, m, xs, Q0, st, rr, q, kk⟩
theorem OpX.or {f : Value → Value → Sem Value} {r r' : DX2} (h : OpX X G W f r) (h' : OpX X G W f r') : OpX X G W f (fun x y m Q E => r x y m Q E ∨ r' x y m Q E) := by
  intro pins s σ H x y v u Q F R m dx dy Q0 x0 I rx ry st px py q kq kx
  cases q with
  | inl q => exact h pins s σ H x y v u Q F R m dx dy Q0 x0 I rx ry st px py q kq kx
  | inr q => exact h' pins s σ H x y v u Q F R m dx dy Q0 x0 I rx ry st px py q kq kx
/-! ### isinstance(x, (c, ..)) -/
def isiTD (G : CT) (K : PySem.W.Frag) : DR := fun xs m Q => ∃ x cs t us b, xs = [x, .tup cs] ∧ tyD G x = some t ∧ cs.map clD = us.map some ∧ (∀ c ys, x = .ob c ys → IsC K (G c).addr) ∧ PySem.W.kitAny K t us = some b ∧ Q (.bl b) m
theorem cd_isiT : CallD X G (.builtin "isinstance") (isiTD G X.K) := by
  refine CallR.imp call_isiT ?_
  rintro vs H Q ⟨F, R, m, xs, Q0, st, r, ⟨x, cs, t, us, b, rfl, kind, named, own, ans, q⟩, kk⟩
  cases r with
  | cons r1 r =>
    cases r with
    | cons r2 r =>
      cases r
      cases r2 with
      | @tup tp ws _ hp rc => exact ⟨_, tp, ws, t, us, b, rfl, st.fz _ _ hp, clDs rc named, ty_of (K := X.K) st.fz r1 kind own, ans, kk _ m F _ H q (Le.refl F) st (.bl b)⟩
/-! ### == of lists that are not as long as each other -/
def lstD : D → Option (List D)
  | .lst xs | .scr xs => some xs
  | _ => none
theorem lst_rd {F H : Hp} {v : V} {d : D} {xs : List D} (fz : ∀ a o, F a = some o → H a = some o) (r : Rep G F v d) (h : lstD d = some xs) : ∃ a vs, v = .ref a ∧ Rd H a (.lst vs) ∧ vs.length = xs.length := by
  cases r <;> cases h
  · rename_i a vs hh rr
    exact ⟨a, vs, rfl, .inl (fz _ _ hh), rr.length⟩
  · rename_i a o vs hh rr
    exact ⟨a, vs, rfl, .inr ⟨o, fz _ _ hh⟩, rr.length⟩
def eqLen : DR2 := fun x y m Q => ∃ xs ys, lstD x = some xs ∧ lstD y = some ys ∧ xs.length ≠ ys.length ∧ Q (.bl false) m
def neLen : DR2 := fun x y m Q => ∃ xs ys, lstD x = some xs ∧ lstD y = some ys ∧ xs.length ≠ ys.length ∧ Q (.bl true) m
section
variable {pins : List (Addr × Obj)} {σ : L2.St} {H F : Hp} {s : Shared} {x y : V} {v u : Value} {dx dy : D} {xs ys : List D}
theorem two_lists (I : Inv X pins σ H s) (fz : ∀ a o, F a = some o → H a = some o) (rx : L2.RelV x v) (ry : L2.RelV y u) (px : Rep G F x dx) (py : Rep G F y dy) (h1 : lstD dx = some xs) (h2 : lstD dy = some ys) (ne : xs.length ≠ ys.length) :
    ∃ (l b : Addr) (items items2 : Array Value), v = .ref l ∧ u = .ref b ∧ s.heap.IsList l items ∧ s.heap.IsList b items2 ∧ (items.size != items2.size) = true := by
  obtain ⟨a, vs, rfl, rd1, n1⟩ := lst_rd fz px h1
  obtain ⟨a', vs', rfl, rd2, n2⟩ := lst_rd fz py h2
  cases (show v = Value.ref a from rx)
  cases (show u = Value.ref a' from ry)
  obtain ⟨its, r1, pl1, _⟩ := I.list (.inl rd1)
  obtain ⟨its', r2, pl2, _⟩ := I.list (.inl rd2)
  refine ⟨a, a', its.toArray, its'.toArray, rfl, rfl, pl1.isList, pl2.isList, ?_⟩
  have e1 := Paired.length r1
  have e2 := Paired.length r2
  simp only [List.size_toArray, bne_iff_ne, ne_eq]
  omega
end
theorem od_eqLen (hu : X.A.units < cLine) : OpD X G (compareOp .Eq) eqLen := by
  rintro pins s σ H x y v u Q I rx ry ⟨F, R, m, dx, dy, Q0, st, px, py, ⟨xs, ys, h1, h2, ne, q⟩, kk⟩
  obtain ⟨l, b, its, its', rfl, rfl, i1, i2, off⟩ := two_lists I st.fz rx ry px py h1 h2 ne
  exact SeqAt.RcAt.lists_lengths i1 i2 off hu _ _ _ _ ⟨.bl false, H, I, rfl, kk _ m F _ H q (Le.refl F) st (.bl _)⟩
theorem od_neLen (hu : X.A.units < cLine) : OpD X G (compareOp .NotEq) neLen := by
  rintro pins s σ H x y v u Q I rx ry ⟨F, R, m, dx, dy, Q0, st, px, py, ⟨xs, ys, h1, h2, ne, q⟩, kk⟩
  obtain ⟨l, b, its, its', rfl, rfl, i1, i2, off⟩ := two_lists I st.fz rx ry px py h1 h2 ne
  exact SeqAt.RcNeAt.lists_lengths i1 i2 off hu _ _ _ _ ⟨.bl true, H, I, rfl, kk _ m F _ H q (Le.refl F) st (.bl _)⟩
/-! ### a, b, .. = a list -/
def gSq (n : Nat) (t : DTGs) : DTG := fun x d ds m Q => match d with
  | .lst xs => xs.length = n ∧ t x xs ds m Q
  | _ => False
theorem dg_lst {es : List Expr} {k : Nat} {t : DTGs} {n : Nat} (hc : X.calm = true) (h : DGs X G W es t) (hn : (assignEach es X.env).length = n := by rfl) (hst : (assignEach es X.env).findIdx? (·.1) = none := by rfl) : DG X G W (.Tuple es k pos) (gSq n t) :=
  (pg_lst hc h hn hst).imp fun v σ H Q ⟨F, R, m, ds, d, Q0, x, st, sl, r, h, xk, kk⟩ => by
    cases r with
    | @lst a vs xs ha r => exact ⟨a, vs, rfl, .inl (.inl (st.fz _ _ ha)), r.length.trans h.1, F, R, m, ds, xs, Q0, x, st, sl, r, h.2, xk, kk⟩
    | _ => exact h.elim
end
end DL
namespace DL
open PySem PySem.Spec PyProof.Rows L2
section
variable {X : Cx} {G : CT} {W : WX} {k : Nat} {g C pr : Addr} {mc : Value} {x n : Str} {p apos pos : Pos} {sp : DSp}
/-- C.f() -/
theorem de_static0 {pl : Sem Bool} (S : SMet X.K C mc n pr g) (F : FnR X.prog X.w X.K X.mg X.base (L2.CX X.prog X.w) k g (fun vs H Q E => vs.length ≤ sizeLine ∧ spL G sp vs H Q E)) (hr : Room k X.A) (hg : Gl X x) (hm : X.mg x = some (.ref C)) (tk : Takes X W)
    (hdb : (x == ("__debug__" : Str)) = false := by decide)
    (ht : eval (.Call (.Attribute (.Name x p) n apos) [] [] pos) X.env = (do
      let ov ← eval (.Name x p) X.env
      standAt apos.atName
      let (f, first) ← holding [ov] (getMethod ov n pl)
      callWith pos f first (backTo pos (starEach [] X.env)) (backToKw pos (keywordEach [] X.env))) := by rfl) :
    DE X G W (.Call (.Attribute (.Name x p) n apos) [] [] pos) (fun x ds m Q => sp [] m Q (x ds)) := by
  constructor
  rintro pins s σ H Q I ⟨F0, R, m, ds, Q0, xx, st, sl, h, xk, kk⟩
  refine PySem.W.methodCall_KW (pl := pl) (ld_glob I hg hm ?_ hdb) ht
  obtain ⟨rest, hrc⟩ := S.rc
  refine PySem.W.method_cls I.kIn S.ga (PySem.W.cls_bind I.kIn S.rd S.at_ (wpAny_call (PySem.W.sm_get (s := { s with toks := s.toks + 1 }) I.kIn hrc (PySem.W.handed_on (v := .ref g) rfl ?_))))
  have I1 := I.tok (s.toks + 1)
  have told : spL G sp [] H Q (fun cls d H' => W cls d σ H') := spL_of st sl .nil h xk fun d m' F' v H' q l => kk d m' F' v H' q l
  apply PySem.W.callWith_K0 I1.kIn S.kp
  refine wpAny_call (codeAny_mono (F X.A X.stack _ H [] [] Q _ hr I1.env0 .nil ⟨Nat.zero_le _, told⟩) ?_)
  rintro (e | fl) s' end_
  · exact passAt tk σ pins H _ e s' I1 end_
  · cases fl <;> first | exact I1.after end_ | exact (show False from end_).elim
end
end DL
namespace DL
open PySem PySem.Spec PyProof.Rows L2 LamX
/-- inside a lambda -/
theorem takesL {X : Cx} {A : Around} {outer : List Env} {s : Shared} {H : Hp} {E : XK} {scope : Scope} {f c : Addr} : Takes (lamCx X A outer s H E scope f c) (fun cls d _ H' => E cls d H') := takes_of rfl rfl rfl rfl
theorem FnG.hotter {hot grd : Bool} {P : Program} {w : World} {K : PySem.W.Frag} {mg : Str → Option Value} {base : Heap} {k : Nat} {f : Addr} {fd : FuncData} {ps : List Str} {sp : Sp} (F : FnG true grd P w K mg base k f fd ps sp) : FnG hot grd P w K mg base k f fd ps sp :=
  ⟨F.len, fun A o s H args us vs Q E hr => F.go A o s H args us vs Q E hr.hotF⟩
end DL
namespace DL
open PySem PySem.Spec PyProof.Rows L2
theorem CallD.imp {X : Cx} {G : CT} {f : Value} {r r' : DR} (h : CallD X G f r) (i : ∀ xs m Q, r' xs m Q → r xs m Q) : CallD X G f r' :=
  CallR.imp h fun vs H Q ⟨F, R, m, xs, Q0, st, rr, q, kk⟩ => ⟨F, R, m, xs, Q0, st, rr, i _ _ _ q, kk⟩
end DL

/-! a class at the right that has no such operator; the law's end with tables of code objects -/
namespace PySem.W
open PySem PySem.Spec PySem.Calls PyProof.Rows
/-- the class stands right above object -/
def overObj (K : Frag) (C : Addr) : Bool := (clsIn K C).any fun cd => cd.mro == [.ref C, .type "object"]
section
variable {M : Model} {K : Frag} {C : Addr} {h : Heap} {nm : String}
theorem overObj_at (e : overObj K C = true) : ∃ cd, clsIn K C = some cd ∧ cd.mro = [.ref C, .type "object"] := by
  obtain ⟨cd, at_, same⟩ := any_some e
  exact ⟨cd, at_, beq_iff_eq.mp same⟩
/-- neither the class nor object fills the slot -/
theorem no_fills (X : K.In h) (over : overObj K C = true) (h1 : findIn K (.ref C) (PySem.dunder nm) = some none) (h2 : findIn K (.ref C) (dunderR nm) = some none) (o1 : findIn K (.type "object") (PySem.dunder nm) = some none) (o2 : findIn K (.type "object") (dunderR nm) = some none) :
    Looks M h (fillsNumberSlot (.ref C) nm) false := by
  obtain ⟨cd, at_, mro⟩ := overObj_at over
  intro A Q E s k q
  unfold fillsNumberSlot
  refine wpAny_bind ((looks_clsIn X at_).andThen (f := fun cd => pure cd.mro) .now A _ E s k ?_)
  rw [mro, List.anyM_cons]
  refine wpAny_bind ?_
  show wpAny M A (List.anyM _ [PySem.dunder nm, dunderR nm]) _ _ _
  rw [List.anyM_cons]
  refine wpAny_bind (wpAny_bind (looks_findIn X h1 A _ E s k ?_))
  refine wpAny_pure ?_
  rw [if_neg Bool.false_ne_true, List.anyM_cons]
  refine wpAny_bind (wpAny_bind (looks_findIn X h2 A _ E s k ?_))
  refine wpAny_pure ?_
  rw [if_neg Bool.false_ne_true, List.anyM_nil]
  refine wpAny_pure ?_
  rw [if_neg Bool.false_ne_true, List.anyM_cons]
  refine wpAny_bind ?_
  refine wpAny_bind (looks_findIn X o1 A _ E s k (wpAny_bind (looks_findIn X o2 A _ E s k (wpAny_pure ?_))))
  rw [if_neg (by simp), List.anyM_nil]
  exact wpAny_pure q
theorem no_inPy (X : K.In h) (h1 : findIn K (.ref C) (PySem.dunder nm) = some none) (h2 : findIn K (.ref C) (dunderR nm) = some none) : Looks M h (numberSlotInPython (.ref C) nm) false := by
  intro A Q E s k q
  unfold numberSlotInPython
  refine wpAny_bind (looks_findIn X h1 A _ E s k (wpAny_bind (wpAny_pure ?_)))
  refine wpAny_bind (looks_findIn X h2 A _ E s k (wpAny_bind (wpAny_pure ?_)))
  rw [if_neg (by simp)]
  refine wpAny_bind (looks_findIn X h1 A _ E s k ?_)
  rw [if_pos (show (!isSeqSlot none) = true from rfl)]
  exact wpAny_pure q
end
end PySem.W
namespace DL
open PySem PySem.Spec PyProof.Rows L2
section
variable {K : PySem.W.Frag} {C D f : Addr} {nm : String}
theorem beside2_no (ne : C ≠ D) (sub : PySem.W.subIn K (.ref D) (.ref C) = some false) (over : PySem.W.overObj K D = true) (h1 : PySem.W.findIn K (.ref D) (PySem.dunder nm) = some none) (h2 : PySem.W.findIn K (.ref D) (dunderR nm) = some none) (o1 : PySem.W.findIn K (.type "object") (PySem.dunder nm) = some none) (o2 : PySem.W.findIn K (.type "object") (dunderR nm) = some none)
    (P : Program) (w : World) : Beside2 P w K C D nm := ⟨ne, sub, ⟨false, fun h X => PySem.W.no_fills X over h1 h2 o1 o2⟩, ⟨false, fun h X => PySem.W.no_inPy X h1 h2⟩, ⟨_, h2⟩⟩
theorem beside2_own {rc : Option Value} (ne : C ≠ D) (sub : PySem.W.subIn K (.ref D) (.ref C) = some false) (over : PySem.W.overObj K D = true) (h1 : PySem.W.findIn K (.ref D) (PySem.dunder nm) = some (some (.ref f))) (h2 : PySem.W.findIn K (.ref D) (dunderR nm) = some rc) (plain : rc = none ∨ ∃ g : Addr, rc = some (.ref g))
    (P : Program) (w : World) : Beside2 P w K C D nm := by
  obtain ⟨cd, at_, mro⟩ := PySem.W.overObj_at over
  exact ⟨ne, sub, ⟨true, fun h X => PySem.W.fills_K X at_ mro h1⟩, ⟨true, fun h X => PySem.W.ksp_inPy X h1 h2 plain⟩, ⟨_, h2⟩⟩
end
end DL
namespace PySem.W
open PySem
/-- the table that a code object of the written part names -/
def tabF (K : Frag) (c : Addr) : Option Addr := match K.lookup c with
  | some o => (match o.data with
    | .fields vs => (match (vs[11]? : Option Value) with
      | some (.ref P) => some P
      | _ => none)
    | _ => none)
  | none => none
theorem tabF_at {K : Frag} {h : Heap} {c t P : Addr} {ps : Array Value} (X : K.In h) (e : tabF K c = some t) (at_ : h.TableAt c P ps) : P = t := by
  obtain ⟨⟨o, vs, e1, _, e3, e4⟩, _⟩ := at_
  unfold tabF at e
  split at e
  · rename_i o' found
    have same := X c o' found
    rw [e1] at same
    cases same
    rw [e3] at e
    dsimp only at e
    rw [e4] at e
    exact Option.some.inj e
  · cases e
end PySem.W
namespace DL
open PySem PySem.Spec PyProof.Rows L2 LamX
theorem lookup_mem {K : PySem.W.Frag} {a : Addr} {o : Obj} (e : K.lookup a = some o) : (a, o) ∈ K := by
  induction K with
  | nil => cases e
  | cons p r ih =>
    obtain ⟨b, u⟩ := p
    cases q : a == b with
    | true =>
      have e' : (match a == b with | true => some u | false => List.lookup a r) = some o := e
      rw [q] at e'
      cases e'
      cases beq_iff_eq.mp q
      exact List.mem_cons_self ..
    | false =>
      have e' : (match a == b with | true => some u | false => List.lookup a r) = some o := e
      rw [q] at e'
      exact List.mem_cons_of_mem _ (ih e')
section
variable {P : Program} {w : World} {K : PySem.W.Frag} {mg mb : Str → Option Value} {k : Nat} {fa a : Addr} {fd : FuncData} {x : Str} {G : CT} {sp : DSp} {s₁ : Shared} {vs : List Value} {ns : List Int}
/-- the abstract heap at the law's start: the script, and the tables, all empty -/
def startH (a : Addr) (ho : HO) (ts : List Addr) : Hp := fun b => if b = a then some ho else if b ∈ ts then some (.tbl #[]) else none
theorem startH_cases {a b : Addr} {ho u : HO} {ts : List Addr} (e : startH a ho ts b = some u) : (b = a ∧ u = ho) ∨ (b ≠ a ∧ b ∈ ts ∧ u = .tbl #[]) := by
  unfold startH at e
  split at e
  · rename_i z
    exact .inl ⟨z, (Option.some.inj e).symm⟩
  · rename_i z
    split at e
    · rename_i z'
      exact .inr ⟨z, z', (Option.some.inj e).symm⟩
    · cases e
theorem callTG {cs : List (Addr × Addr × Str)} (KX : K.In s₁.heap) (hns : s₁.heap.Ns mainGlobals mg) (hb : s₁.heap.Ns builtinsNs mb) (hbb : ∀ x : Str, x ≠ "__name__" → mb x = bootBuiltins x) (hlim : s₁.heap.NoLimit) (hg : s₁.gens = #[])
    (hbm : ∃ (bm : Addr) (ob : Obj), mg "__builtins__" = some (.ref bm) ∧ bm ≠ builtinsNs ∧ s₁.heap.get? bm = some ob ∧ ob.cls = .type "module" ∧ ob.dict = some builtinsNs ∧ ob.data = .plain)
    (ha : s₁.heap.get? a = some { cls := .type "list", data := .seq vs.toArray }) (hi : IntsAre vs ns) (hl : ns.length ≤ sizeLine) (hr : L2H.RoomH k callerA) (noL : noLists K = true) (nT : ∀ p ∈ cs, K.lookup p.2.1 = none)
    (tabs : ∀ p ∈ cs, PySem.W.CodeHd s₁.heap p.1 p.2.1 ∧ s₁.heap.get? p.2.1 = some { cls := .none, data := .fields #[] }) (one : ∀ p ∈ cs, ∀ q ∈ cs, p.2.1 = q.2.1 → p.2.2 = q.2.2)
    (Fp : ∀ base : Heap, K.In base → base.Ns mainGlobals mg → (∀ p ∈ cs, TabB base mg p.1 p.2.1) → FnG false true P w K mg base k fa fd [x] (spL G sp)) (hbind : ∀ (s : Shared) (u : Value), BindsTo s fd ⟨[u], []⟩ [(x, u)])
    (hsp : ∀ m : M, (∀ p ∈ cs, m p.2.1 = some (.tbl p.2.2)) → sp [.scr (ns.map D.int)] m (fun d _ => d = .bl true) fun _ _ _ => False) :
    codeAny (model P w) callerA (.call (.ref fa) ⟨[.ref a], []⟩) (fun r s' => r = .ok (.ret (.bool true)) ∧ OldK s₁.heap s'.heap ∧ s'.os = s₁.os ∧ AllBare s'.gens) s₁ := by
  have rv := vals_ints hi
  let ts : List Addr := cs.map fun p => p.2.1
  let ho : HO := .frz { cls := .type "list", data := .seq vs.toArray } (.lst (ns.map V.int))
  let H : Hp := startH a ho ts
  have tabAt : ∀ b ∈ ts, s₁.heap.get? b = some { cls := .none, data := .fields #[] } := fun b m => by
    obtain ⟨p, there, rfl⟩ := List.mem_map.mp m
    exact (tabs p there).2
  have off : a ∉ ts := fun m => by
    have e := ha.symm.trans (tabAt a m)
    cases e
  have Hat : H a = some ho := if_pos rfl
  have Htab : ∀ b ∈ ts, H b = some (.tbl #[]) := fun b m => (if_neg (fun e : b = a => off (e ▸ m))).trans (if_pos m)
  have isData : ∀ {b : Addr} {u : HO} {o : Obj}, H b = some u → s₁.heap.get? b = some o → (∃ its n, o.data = .seq its n) ∨ o.data = .fields #[] := fun {b u o} e there => by
    rcases startH_cases e with ⟨rfl, _⟩ | ⟨_, m, _⟩
    · rw [ha] at there; cases there; exact .inl ⟨_, _, rfl⟩
    · rw [tabAt b m] at there; cases there; exact .inr rfl
  have open_ : ∀ {b : Addr} {o : Obj}, s₁.heap.get? b = some o → (∀ its n, o.data ≠ .seq its n) → o.data ≠ .fields #[] → (hidT s₁.heap H).get? b = some o := fun {b o} there n1 n2 => by
    refine hidT_get there ?_
    cases e : H b with
    | none => rfl
    | some u =>
      rcases isData e there with ⟨its, n, d⟩ | d
      · exact (n1 _ _ d).elim
      · exact (n2 d).elim
  have hok : HOk P w H s₁.heap := fun b u e => by
    rcases startH_cases e with ⟨rfl, rfl⟩ | ⟨_, m, rfl⟩
    · exact ⟨ha, List.length_map (as := ns) V.int ▸ hl, vs, _, rv, ha⟩
    · exact tabAt b m
  have nsB : ∀ {b : Addr} {m : Str → Option Value}, s₁.heap.Ns b m → (hidT s₁.heap H).Ns b m := fun {b m} z => by
    obtain ⟨o, es, ep, e, d, r⟩ := z
    exact ⟨o, es, ep, open_ e (fun its n z => by rw [d] at z; cases z) (fun z => by rw [d] at z; cases z), d, r⟩
  have hKb : K.In (hidT s₁.heap H) := fun b o e => by
    refine hidT_get (KX b o e) ?_
    cases q : H b with
    | none => rfl
    | some u =>
      have there := KX b o e
      rcases startH_cases q with ⟨rfl, _⟩ | ⟨_, m, _⟩
      · rw [ha] at there; cases there; exact (noLists_at noL e rfl).elim
      · obtain ⟨p, hp, rfl⟩ := List.mem_map.mp m
        rw [nT p hp] at e
        cases e
  obtain ⟨mc, c1, c2⟩ := hlim
  have hM : Mod K mg (hidT s₁.heap H) := ⟨hKb, nsB hns, ⟨mb, nsB hb, hbb⟩, mc, nsB c1, c2⟩
  have e0 : Env0 P w K mg (hidT s₁.heap H) callerA [] s₁ H := by
    refine ⟨rfl, hM, fun b o e => of_hidT e, Nat.le_of_eq (hidT_size _ _), trivial, fun b hb => ?_, hok, .of_eq hg⟩
    exact absurd (show b ∈ ([] : List Addr) from hb) (by simp)
  have TB : ∀ p ∈ cs, TabB (hidT s₁.heap H) mg p.1 p.2.1 := fun p there => by
    obtain ⟨⟨o, us, file, tf, flags, tg, inF, text, tt, e1, r1, r2, r3, more⟩, row⟩ := tabs p there
    have full : o.data ≠ .fields #[] := fun z => by
      rw [r2] at z
      cases z
      simp at r3
    refine ⟨⟨o, us, file, tf, flags, tg, inF, text, tt, open_ e1 (fun its n z => by rw [r2] at z; cases z) full, r1, r2, r3, more⟩, ?_, fun z => ?_⟩
    · obtain ⟨bm, ob, b1, b2, b3, b4, b5, b6⟩ := hbm
      refine ⟨bm, ob, b1, b2, fun q => ?_, fun q => ?_, open_ b3 (fun its n z => by rw [b6] at z; cases z) (fun z => by rw [b6] at z; cases z), b4, b5, b6⟩
      · obtain ⟨o, es, ep, e, hd, _⟩ := hns
        rw [← q, b3] at e
        cases e
        rw [b6] at hd
        cases hd
      · rw [← q, b3] at row
        cases row
        cases b6
    · obtain ⟨o, es, ep, e, hd, _⟩ := hns
      rw [z, row] at e
      cases e
      cases hd
  let F0 : Hp := fun b => if b = a then some ho else none
  let m0 : M := fun b => (cs.find? fun p => p.2.1 == b).map fun p => .tbl p.2.2
  have m0c : ∀ {b : Addr} {u : MO}, m0 b = some u → ∃ p ∈ cs, p.2.1 = b ∧ u = .tbl p.2.2 := fun {b u} e => by
    obtain ⟨p, found, rfl⟩ := Option.map_eq_some_iff.mp e
    exact ⟨p, List.mem_of_find?_eq_some found, by simpa using List.find?_some found, rfl⟩
  have m0at : ∀ p ∈ cs, m0 p.2.1 = some (.tbl p.2.2) := fun p there => by
    cases e : cs.find? (fun q => q.2.1 == p.2.1) with
    | none => exact absurd (List.find?_eq_none.mp e p there) (by simp)
    | some q =>
      have same : q.2.1 = p.2.1 := by simpa using List.find?_some e
      show (cs.find? (fun q => q.2.1 == p.2.1)).map _ = _
      rw [e]
      exact congrArg (fun n => some (MO.tbl n)) (one q (List.mem_of_find?_eq_some e) p there same)
  have F0c : ∀ {b : Addr} {u : HO}, F0 b = some u → b = a ∧ u = ho := fun {b u} e => by
    by_cases z : b = a
    · have e' := (if_pos z).symm.trans e
      exact ⟨z, (Option.some.inj e').symm⟩
    · have e' := (if_neg z).symm.trans e
      cases e'
  have st : Hst G F0 (fun _ => none) H m0 := by
    refine ⟨fun b u e => ?_, fun b u e => (nomatch (show (none : Option HO) = some u from e)), fun b u e => ?_, fun b u e => (nomatch (show (none : Option HO) = some u from e))⟩
    · obtain ⟨rfl, rfl⟩ := F0c e
      exact Hat
    · obtain ⟨p, there, rfl, rfl⟩ := m0c e
      have isT : p.2.1 ∈ ts := List.mem_map.mpr ⟨p, there, rfl⟩
      refine ⟨if_neg fun z : p.2.1 = a => off (z ▸ isT), #[], Htab _ isT, True.intro, fun pos cv z => ?_⟩
      cases z
  have rp : Reps G F0 [.ref a] [.scr (ns.map D.int)] := .cons (.lsz (if_pos rfl) (Reps.ints ns)) .nil
  have hq : spL G sp [.ref a] H (fun v _ => v = .bl true) (fun _ _ _ => False) := ⟨F0, fun _ => none, m0, _, _, _, st, rp, hsp m0 m0at, fun d m' F' v H' e _ _ r => by subst e; cases r; rfl, fun c ys m' F' d H' e _ _ _ => e⟩
  have ran := (Fp _ hKb (nsB hns) TB).go callerA [] s₁ H ⟨[.ref a], []⟩ [.ref a] [.ref a] _ _ ⟨hr, fun _ => by first | rfl | simp [callerA], fun _ => callerA_gd⟩ e0 (hbind s₁ (.ref a)) (.cons (show RelV (.ref a) (.ref a) from rfl) .nil) hq
  refine codeAny_mono ran ?_
  rintro (e | fl) s' end_
  · exact (cx_no end_).elim
  · cases fl <;> first | exact (show False from end_).elim | skip
    obtain ⟨v, H', os, bare, un, hok', rv', q⟩ := end_
    obtain rfl : v = .bl true := q
    cases (show _ = Value.bool true from rv')
    have kept : ∀ b o, b ∉ ts → s₁.heap.get? b = some o → s'.heap.get? b = some o := fun b o nt there => by
      cases e : H b with
      | none => exact un.keep b o there e (by intro z; exact absurd (show b ∈ ([] : List Addr) from z) (by simp)) (by simp)
      | some u =>
        rcases startH_cases e with ⟨rfl, rfl⟩ | ⟨_, m, _⟩
        · obtain ⟨e2, _⟩ := hok' _ _ (un.frzs _ _ _ e)
          rw [ha] at there
          cases there
          exact e2
        · exact absurd m nt
    have grew : ∀ b ∈ ts, ∃ more : Array Value, s'.heap.get? b = some { cls := .none, data := .fields more } := fun b m => by
      obtain ⟨more, z⟩ := un.tbls b #[] (Htab b m)
      exact ⟨_, hok' b _ z⟩
    refine ⟨rfl, ⟨fun b o there => ?_, fun b o there => ?_⟩, os, bare⟩
    · by_cases m : b ∈ ts
      · obtain ⟨p, hp, rfl⟩ := List.mem_map.mp m
        obtain ⟨more, now⟩ := grew _ m
        have was := tabAt _ m
        rw [there] at was
        cases was
        exact .inr (.inl ⟨((tabs p hp).1.tab (tabs p hp).2).isCodeTable, rfl, #[], more, rfl, by rw [Array.empty_append]; exact now⟩)
      · exact .inl (kept b o m there)
    · by_cases m : b ∈ ts
      · obtain ⟨more, now⟩ := grew b m
        exact ⟨_, now⟩
      · exact ⟨o, kept b o m there⟩
end
/-- the goal that k_head leaves, from the law's promise, where defs make lambdas -/
theorem walkTG {l : PySem.W.OpenLaw} {n k : Nat} {q : Program} {loose : List Str} {XP : (Str → Option Value) → Heap → Prop} {YP : World → Heap → Prop} {d : DefRec} {K : Params → PySem.W.Frag} {x : Str} (makers : List Str) (recs : ∀ y ∈ makers, ((recsOf q).any fun e => e.name == y) = true)
    (hn : l.most = some n) (hn2 : n ≤ sizeLine) (hdf : d.params.defaults = []) (hr : L2H.RoomH k callerA) (noL : ∀ P, noLists (K P) = true) (hY : ∀ (w : World) (h : Heap), YP w h → (K w.params).In h)
    (F : ∀ (w : World) (mg : Str → Option Value) (fa : Addr) (h : Heap), (K w.params).In h → h.Ns mainGlobals mg → mg d.name = some (.ref fa) → (∀ y ∈ makers, ∃ (a : Addr) (o : Obj) (fd : FuncData) (c t : Addr), mg y = some (.ref a) ∧ h.get? a = some o ∧ o.data = .func fd ∧ fd.code = .ref c ∧ PySem.W.CodeHd h c t ∧ h.TableAt c t #[]) →
      ∃ (fd : FuncData) (G : CT) (sp : DSp) (cs : List (Addr × Addr × Str)), (∀ (s : Shared) (u : Value), BindsTo s fd ⟨[u], []⟩ [(x, u)]) ∧ (∀ p ∈ cs, PySem.W.CodeHd h p.1 p.2.1 ∧ h.TableAt p.1 p.2.1 #[]) ∧ (∀ p ∈ cs, (K w.params).lookup p.2.1 = none) ∧ (∀ p ∈ cs, ∀ q ∈ cs, p.2.1 = q.2.1 → p.2.2 = q.2.2) ∧
        (∀ (m : M) (ns : List Int), (∀ p ∈ cs, m p.2.1 = some (.tbl p.2.2)) → ns.length ≤ n → (∀ z ∈ ns, Builtin.Int.intBits z ≤ 1048576) → sp [.scr (ns.map D.int)] m (fun d _ => d = .bl true) fun _ _ _ => False) ∧
        ∀ base : Heap, (K w.params).In base → base.Ns mainGlobals mg → (∀ p ∈ cs, TabB base mg p.1 p.2.1) → FnG false true l.prog w (K w.params) mg base k fa fd [x] (spL G sp)) :
    PySem.W.WalkO q loose XP YP l.row.toRowW d [] (fun f vs => PySem.call f vs) := by
  refine Att.attach_callB hn hdf fun w s₀ s₁ mg mb fa o pm cd doc a vs ns g Y ho hd hcd hmg hobj hints hlen hbits hgen => ?_
  have KX := hY w _ Y
  obtain ⟨fd, G, sp, cs, hb, tabs, nT, one, hsp, hF⟩ := F w mg fa _ KX g.T.g hmg fun y there => by
    obtain ⟨e, mem, same⟩ := List.any_eq_true.mp (recs y there)
    obtain ⟨a', o', fd', c, t, h1, h2, h3, h4, h5, h6⟩ := g.T.tab e mem
    rw [beq_iff_eq.mp same] at h1
    exact ⟨a', o', fd', c, t, h1, h2, h3, h4, .of h5 h6, h6⟩
  exact callTG KX g.T.g g.T.b g.T.builtins g.T.nolimit hgen g.T.bmain hobj hints (Nat.le_trans hlen hn2) hr (noL _) nT (fun p hp => ⟨(tabs p hp).1, (tabs p hp).2.2⟩) one hF hb fun m hm => hsp m ns hm hlen hbits
end DL
namespace DL
open PySem PySem.Spec PyProof.Rows L2 LamX
/-- a maker's code object and its table, from what the top tells -/
theorem maker_at {K : PySem.W.Frag} {h : Heap} {mg : Str → Option Value} {y : Str} {f c t : Addr} {oc : Value} {od : Option Addr} {fd : FuncData} {sl : Array (Option Value)} (X : K.In h) (hm : mg y = some (.ref f)) (lk : K.lookup f = some ⟨oc, od, .func fd, sl⟩) (hc : fd.code = .ref c) (tf : PySem.W.tabF K c = some t)
    (tab : ∃ (a : Addr) (o : Obj) (fd : FuncData) (c t : Addr), mg y = some (.ref a) ∧ h.get? a = some o ∧ o.data = .func fd ∧ fd.code = .ref c ∧ PySem.W.CodeHd h c t ∧ h.TableAt c t #[]) : PySem.W.CodeHd h c t ∧ h.TableAt c t #[] := by
  obtain ⟨a, o, fd', c', t', h1, h2, h3, h4, h5, h6⟩ := tab
  rw [hm] at h1
  cases h1
  have e := X f _ lk
  rw [h2] at e
  cases e
  cases h3
  rw [hc] at h4
  cases h4
  obtain rfl := PySem.W.tabF_at X tf h6
  exact ⟨h5, h6⟩
end DL
namespace PySem.W
open PySem
theorem tabF_of {K : Frag} {c t : Addr} {e : Value} {dd : Option Addr} {vs : Array Value} {sl : Array (Option Value)} (h : K.lookup c = some ⟨e, dd, .fields vs, sl⟩) (ht : (vs[11]? : Option Value) = some (.ref t)) : tabF K c = some t := by
  unfold tabF
  rw [h]
  dsimp only
  rw [ht]
theorem overObj_of {K : Frag} {C : Addr} {c : Value} {dd : Option Addr} {cd : ClassData} {sl : Array (Option Value)} (h : K.lookup C = some ⟨c, dd, .cls cd, sl⟩) (m : cd.mro = [.ref C, .type "object"]) : overObj K C = true := by
  unfold overObj clsIn
  rw [h]
  simp [m]
end PySem.W

/-! the texts of integers tell them apart -/
namespace DL
open PySem PySem.Spec PyProof.Rows L2
/-- the signs of a text -/
abbrev sg (x : Str) : List Nat := x.cps.toList
theorem sg_inj {x y : Str} (h : sg x = sg y) : x = y := str_eq_of_lists h
theorem sg_app (x y : Str) : sg (x ++ y) = sg x ++ sg y := by
  show (x.cps ++ y.cps).toList = _
  exact Array.toList_append
theorem sg_istr (i : Int) : sg (istr i) = (toString i).toList.map Char.toNat := signs_ofString _
/-- digits, or the minus -/
def numSign (c : Nat) : Bool := (decide (48 ≤ c) && decide (c ≤ 57)) || decide (c = 45)
theorem istr_signs (i : Int) : ∀ c ∈ sg (istr i), numSign c = true := by
  intro c mem
  rw [sg_istr, List.mem_map] at mem
  obtain ⟨ch, there, rfl⟩ := mem
  rcases int_sign i ch there with dig | rfl
  · obtain ⟨h1, h2⟩ := digit_range dig
    simp [numSign, h1, h2]
  · decide
theorem sg_nat (n : Nat) : sg (istr (n : Int)) = (Nat.toDigits 10 n).map Char.toNat := PySem.W.KIN.signs_num n
theorem sg_neg (n : Nat) : sg (istr (Int.negSucc n)) = 45 :: (Nat.toDigits 10 (n + 1)).map Char.toNat := by
  rw [sg_istr, Int.toString_eq_repr, Int.repr_eq_if, if_neg (by omega), String.toList_append, List.map_append, Nat.toList_repr]
  rfl
theorem nat_no_minus (n : Nat) : ∀ c ∈ (Nat.toDigits 10 n).map Char.toNat, 48 ≤ c := by
  intro c mem
  obtain ⟨ch, there, rfl⟩ := List.mem_map.mp mem
  exact (digit_range (Nat.isDigit_of_mem_toDigits (by decide) (by decide) there)).1
theorem istr_inj {i j : Int} (h : istr i = istr j) : i = j := by
  have e : sg (istr i) = sg (istr j) := by rw [h]
  have apart : ∀ (n k : Nat), (Nat.toDigits 10 n).map Char.toNat = 45 :: (Nat.toDigits 10 (k + 1)).map Char.toNat → False := fun n k z => by
    have := nat_no_minus n 45 (z ▸ List.mem_cons_self ..)
    omega
  cases i with
  | ofNat n =>
    cases j with
    | ofNat k =>
      have e' := ((sg_nat n).symm.trans e).trans (sg_nat k)
      have v := congrArg PySem.NumText.digitsVal e'
      rw [PySem.W.KIN.val_back, PySem.W.KIN.val_back] at v
      rw [v]
    | negSucc k => exact (apart n k (((sg_nat n).symm.trans e).trans (sg_neg k))).elim
  | negSucc n =>
    cases j with
    | ofNat k => exact (apart k n ((((sg_neg n).symm.trans e).trans (sg_nat k)).symm)).elim
    | negSucc k =>
      have e' := (List.cons.inj (((sg_neg n).symm.trans e).trans (sg_neg k))).2
      have v := congrArg PySem.NumText.digitsVal e'
      rw [PySem.W.KIN.val_back, PySem.W.KIN.val_back] at v
      have : n = k := by omega
      rw [this]
/-- two lists with the same first sign that neither front part has -/
theorem split_at {c : Nat} : ∀ {as bs xs ys : List Nat}, c ∉ as → c ∉ bs → as ++ c :: xs = bs ++ c :: ys → as = bs ∧ xs = ys
  | [], [], _, _, _, _, h => ⟨rfl, (List.cons.inj h).2⟩
  | [], b :: bs, _, _, _, no, h => absurd (List.mem_cons.mpr (.inl (List.cons.inj h).1)) no
  | a :: as, [], _, _, no, _, h => absurd (List.mem_cons.mpr (.inl (List.cons.inj h).1.symm)) no
  | a :: as, b :: bs, _, _, n1, n2, h => by
    obtain ⟨h1, h2⟩ := List.cons.inj h
    obtain ⟨e1, e2⟩ := split_at (fun z => n1 (List.mem_cons_of_mem _ z)) (fun z => n2 (List.mem_cons_of_mem _ z)) h2
    exact ⟨by rw [h1, e1], e2⟩
theorem istr_not {c : Nat} (i : Int) (no : numSign c = false) : c ∉ sg (istr i) := fun m => by
  rw [istr_signs i c m] at no
  cases no
/-- f"{a}, {b}" with something ahead and behind -/
theorem pair_text {p q : Str} {l h l2 h2 : Int} (e : p ++ istr l ++ ", " ++ istr h ++ q = p ++ istr l2 ++ ", " ++ istr h2 ++ q) : l = l2 ∧ h = h2 := by
  have e1 : sg (p ++ istr l ++ ", " ++ istr h ++ q) = sg (p ++ istr l2 ++ ", " ++ istr h2 ++ q) := by rw [e]
  simp only [sg_app, List.append_assoc] at e1
  have e2 := List.append_cancel_left e1
  have comma : sg (", " : Str) = [44, 32] := by decide +kernel
  rw [comma] at e2
  obtain ⟨e3, e4⟩ := split_at (istr_not l (by decide)) (istr_not l2 (by decide)) e2
  have e5 : sg (istr h) = sg (istr h2) := List.append_cancel_right (bs := sg q) (List.cons.inj e4).2
  exact ⟨istr_inj (sg_inj e3), istr_inj (sg_inj e5)⟩
end DL

/-! what repr shows has proper signs only -/
namespace DL
open PySem PySem.Spec PyProof.Rows L2
/-- proper signs -/
def Oks (x : Str) : Prop := PyData.strOk x = true
theorem oks_iff {x : Str} : Oks x ↔ ∀ c ∈ sg x, c < 0x110000 := by
  unfold Oks PyData.strOk
  rw [Array.all_eq_true']
  constructor
  · intro h c m
    simpa using h c (Array.mem_toList_iff.mp m)
  · intro h c m
    simpa using h c (Array.mem_toList_iff.mpr m)
theorem Oks.app {x y : Str} (h : Oks x) (k : Oks y) : Oks (x ++ y) := by
  rw [oks_iff] at *
  intro c m
  rw [sg_app, List.mem_append] at m
  exact m.elim (h c) (k c)
theorem oks_istr (i : Int) : Oks (istr i) := oks_iff.mpr fun c m => by
  have := istr_signs i c m
  simp only [numSign, Bool.or_eq_true, Bool.and_eq_true, decide_eq_true_eq] at this
  omega
theorem oks_lit {x : Str} (h : PyData.strOk x = true) : Oks x := h
theorem char_ok (ch : Char) : ch.toNat < 0x110000 := by
  rcases ch.valid with h | ⟨_, h⟩
  · exact Nat.lt_trans h (by decide)
  · exact h
theorem sign_ok {q c : Nat} (hq : q < 0x110000) (hc : c < 0x110000) : ∀ d ∈ Builtin.Str.reprChar q c, d < 0x110000 := by
  have hex : ∀ (w : Nat) (d : Nat), d ∈ List.replicate (w - ((Nat.toDigits 16 c).map Char.toNat).length) 48 ++ (Nat.toDigits 16 c).map Char.toNat → d < 0x110000 := fun w d m => by
    rcases List.mem_append.mp m with m | m
    · rw [(List.mem_replicate.mp m).2]; decide
    · obtain ⟨ch, _, rfl⟩ := List.mem_map.mp m
      exact char_ok ch
  intro d m
  unfold Builtin.Str.reprChar at m
  dsimp only at m
  repeat' split at m
  all_goals first
    | (simp only [List.mem_cons, List.not_mem_nil, or_false] at m; rcases m with rfl | rfl <;> first | exact hc | decide)
    | (simp only [List.mem_cons, List.not_mem_nil, or_false] at m; subst m; exact hc)
    | (rcases List.mem_append.mp m with m | m
       · simp only [List.mem_cons, List.not_mem_nil, or_false] at m; rcases m with rfl | rfl <;> decide
       · exact hex _ _ m)
theorem fold_ok {q : Nat} (hq : q < 0x110000) : ∀ (l : List Nat) (acc : Array Nat), (∀ c ∈ l, c < 0x110000) → (∀ c ∈ acc.toList, c < 0x110000) → ∀ c ∈ (l.foldl (fun out c => out ++ (Builtin.Str.reprChar q c).toArray) acc).toList, c < 0x110000
  | [], acc, _, h => h
  | d :: l, acc, hl, h => by
    refine fold_ok hq l _ (fun c m => hl c (List.mem_cons_of_mem _ m)) fun c m => ?_
    rw [Array.toList_append, List.mem_append] at m
    rcases m with m | m
    · exact h c m
    · exact sign_ok hq (hl d (List.mem_cons_self ..)) c m
theorem quote_ok (x : Str) : reprQuote x < 0x110000 := by
  unfold reprQuote
  split <;> decide
theorem oks_repr {x : Str} (h : Oks x) : Oks (reprText x) := oks_iff.mpr fun c m => by
  have m' : c ∈ ((x.cps.foldl (fun out c => out ++ (Builtin.Str.reprChar (reprQuote x) c).toArray) #[reprQuote x]).push (reprQuote x)).toList := m
  rw [Array.toList_push, List.mem_append] at m'
  rcases m' with m' | m'
  · rw [← Array.foldl_toList] at m'
    refine fold_ok (quote_ok x) _ _ (oks_iff.mp h) (fun c m => ?_) c m'
    have e : c = reprQuote x := by simpa using m
    rw [e]
    exact quote_ok x
  · have e : c = reprQuote x := by simpa using m'
    rw [e]
    exact quote_ok x
theorem oks_join {sep : Str} (hs : Oks sep) : ∀ {ts : List Str}, (∀ t ∈ ts, Oks t) → Oks (Str.join sep ts)
  | [], _ => oks_lit (x := Str.empty) (by decide +kernel)
  | [x], h => h x (List.mem_cons_self ..)
  | x :: y :: r, h => ((h x (List.mem_cons_self ..)).app hs).app (oks_join hs fun t m => h t (List.mem_cons_of_mem _ m))
theorem oks_from : ∀ (ts : List Str) (k : Nat) (acc : Str), Oks acc → (∀ t ∈ ts, Oks t) → Oks (textFrom k acc ts)
  | [], _, _, h, _ => h
  | t :: ts, k, acc, h, r => by
    refine oks_from ts (k + 1) _ ((h.app ?_).app (r t (List.mem_cons_self ..))) fun u m => r u (List.mem_cons_of_mem _ m)
    split <;> exact oks_lit (by decide +kernel)
theorem oks_list {ts : List Str} (h : ∀ t ∈ ts, Oks t) : Oks (listText ts) := (oks_from ts 0 _ (oks_lit (by decide +kernel)) h).app (oks_lit (by decide +kernel))
theorem oks_tuple {ts : List Str} (h : ∀ t ∈ ts, Oks t) : Oks (tupleText ts) := by
  unfold tupleText
  refine ((oks_lit (by decide +kernel)).app (oks_join (oks_lit (by decide +kernel)) h)).app ?_
  split <;> exact oks_lit (by decide +kernel)
theorem oks_dict {ts : List Str} (h : ∀ t ∈ ts, Oks t) : Oks (dictText ts) := ((oks_lit (by decide +kernel)).app (oks_join (oks_lit (by decide +kernel)) h)).app (oks_lit (by decide +kernel))
mutual
theorem oks_shown : ∀ d : PyData, d.canLay0 = true → Oks d.shown
  | .none, _ => oks_lit (by decide +kernel)
  | .bool true, _ => oks_lit (by decide +kernel)
  | .bool false, _ => oks_lit (by decide +kernel)
  | .int i, _ => by simp only [PyData.shown]; exact oks_istr i
  | .str x, h => by simp only [PyData.shown]; exact oks_repr (oks_lit (by simpa [PyData.canLay0] using h))
  | .list xs, h => by simp only [PyData.shown]; exact oks_list (oks_shownAll xs (by simpa [PyData.canLay0] using h))
  | .tuple xs, h => by simp only [PyData.shown]; exact oks_tuple (oks_shownAll xs (by simpa [PyData.canLay0] using h))
  | .dict _, h => by simp [PyData.canLay0] at h
theorem oks_shownAll : ∀ ds : List PyData, PyData.canLayAll0 ds = true → ∀ t ∈ PyData.shownAll ds, Oks t
  | [], _ => by simp [PyData.shownAll]
  | d :: ds, h => by
    obtain ⟨h1, h2⟩ := Bool.and_eq_true_iff.mp (show (d.canLay0 && PyData.canLayAll0 ds) = true by simpa [PyData.canLayAll0] using h)
    intro t m
    simp only [PyData.shownAll, List.mem_cons] at m
    rcases m with rfl | m
    · exact oks_shown d h1
    · exact oks_shownAll ds h2 t m
end
end DL
namespace DL
open PySem PySem.Spec PyProof.Rows L2
mutual
theorem eqv_self : ∀ d : PyData, d.canLay0 = true → PyData.eqv d d = true
  | .none, _ => by simp [PyData.eqv]
  | .bool _, _ => by simp [PyData.eqv]
  | .int _, _ => by simp [PyData.eqv]
  | .str _, _ => by simp [PyData.eqv]
  | .list xs, h => by simp only [PyData.eqv]; exact eqvs_self xs (by simpa [PyData.canLay0] using h)
  | .tuple xs, h => by simp only [PyData.eqv]; exact eqvs_self xs (by simpa [PyData.canLay0] using h)
  | .dict _, h => by simp [PyData.canLay0] at h
theorem eqvs_self : ∀ ds : List PyData, PyData.canLayAll0 ds = true → PyData.eqvAll ds ds = true
  | [], _ => by simp [PyData.eqvAll]
  | d :: ds, h => by
    obtain ⟨h1, h2⟩ := Bool.and_eq_true_iff.mp (show (d.canLay0 && PyData.canLayAll0 ds) = true by simpa [PyData.canLayAll0] using h)
    simp only [PyData.eqvAll, eqv_self d h1, eqvs_self ds h2, Bool.and_self]
end
/-- plain data that can be compared; k: how deep -/
structure Pn (k : Nat) (d : D) : Prop where
  pl : pln d = true
  lay : (pyD d).canLay0 = true
  dp : (pyD d).depth ≤ k
structure Pns (k : Nat) (ds : List D) : Prop where
  pl : plns ds = true
  lay : PyData.canLayAll0 (pysD ds) = true
  dp : PyData.depthAll (pysD ds) ≤ k
theorem Pn.non : Pn 0 .non := ⟨rfl, rfl, by simp [pyD, PyData.depth]⟩
theorem Pn.bl (b : Bool) : Pn 0 (.bl b) := ⟨rfl, rfl, by simp [pyD, PyData.depth]⟩
theorem Pn.int (i : Int) : Pn 0 (.int i) := ⟨rfl, rfl, by simp [pyD, PyData.depth]⟩
theorem Pn.str {x : Str} (h : Oks x) : Pn 0 (.str x) := ⟨rfl, by simp only [pyD, PyData.canLay0]; exact h, by simp [pyD, PyData.depth]⟩
theorem Pn.mono {k j : Nat} {d : D} (h : Pn k d) (l : k ≤ j) : Pn j d := ⟨h.pl, h.lay, Nat.le_trans h.dp l⟩
theorem Pns.nil {k : Nat} : Pns k [] := ⟨rfl, rfl, by simp [pysD, PyData.depthAll]⟩
theorem Pns.cons {k : Nat} {d : D} {ds : List D} (h : Pn k d) (r : Pns k ds) : Pns k (d :: ds) :=
  ⟨by simp only [plns, h.pl, r.pl, Bool.and_self], by simp only [pysD, PyData.canLayAll0, h.lay, r.lay, Bool.and_self], by simp only [pysD, PyData.depthAll]; have := h.dp; have := r.dp; omega⟩
theorem Pn.lst {k : Nat} {ds : List D} (h : Pns k ds) : Pn (k + 1) (.lst ds) := ⟨h.pl, by simp only [pyD, PyData.canLay0]; exact h.lay, by simp only [pyD, PyData.depth]; have := h.dp; omega⟩
theorem Pn.tup {k : Nat} {ds : List D} (h : Pns k ds) : Pn (k + 1) (.tup ds) := ⟨h.pl, by simp only [pyD, PyData.canLay0]; exact h.lay, by simp only [pyD, PyData.depth]; have := h.dp; omega⟩
theorem Pn.ok {k : Nat} {d : D} (h : Pn k d) (hk : k ≤ 64) (no : scl d = false) : eqOk d d = true ∧ eqB d d = true := by
  have c : ¬ (scl d && scl d) = true := by simp [no]
  have s : SeqAt.shaped (pyD d) = true := by
    unfold SeqAt.shaped
    rw [h.lay, decide_eq_true (Nat.le_trans h.dp hk)]
    rfl
  refine ⟨?_, ?_⟩
  · unfold eqOk
    rw [if_neg c, h.pl, s]
    rfl
  · unfold eqB
    rw [if_neg c]
    exact eqv_self _ h.lay
end DL

/-! signs of a text one by one, constants of a class, dicts with tuple keys that change, two loops in a comprehension -/
namespace DL
open PySem PySem.Spec PyProof.Rows L2 ClX
section
variable {X : Cx} {G : CT} {W : WX} {e o i : Expr} {te to ti : DTE} {pos : Pos}
/-! ### for c in text -/
abbrev signD (x : Str) : List D := x.cps.toList.map fun c => D.str ⟨#[c]⟩
def iSigns (te : DTE) : DTI := fun x ds m Q => te x ds m fun d m1 => ∃ y, d = .str y ∧ Q (signD y) m1
theorem gives_signs {F : Hp} {x : Str} : Gives G F (Its x) (signD x) := by
  intro F' R' m' H' l st i
  refine ⟨fun hi => show x.cps.size ≤ i by simpa using hi, fun d hd => ?_⟩
  rw [List.getElem?_map, Option.map_eq_some_iff] at hd
  obtain ⟨c, hc, rfl⟩ := hd
  obtain ⟨lt, at_⟩ := List.getElem?_eq_some_iff.mp hc
  refine ⟨show i < x.cps.size by simpa using lt, fun v H3 ⟨e, c', hc', ev⟩ => ?_⟩
  subst e ev
  have same : c' = c := by
    rw [Array.getElem?_toList] at hc
    exact Option.some.inj (hc'.symm.trans hc)
  subst same
  exact ⟨F', Le.refl _, st, .str _⟩
theorem di_signs {tg : Expr} (he : DE X G W e te) : DI X G W tg e (iSigns te) := ⟨_, pi_str he, fun σ H Rr ⟨F, R, m, ds, Q0, x, st, sl, h, xk, k⟩ => by
  refine ⟨F, R, m, ds, _, x, st, sl, h, xk, fun d m1 F1 v H1 ⟨y, isD, q⟩ l1 s1 r1 => ?_⟩
  subst isD
  cases r1
  exact ⟨y, rfl, k _ m1 F1 H1 _ q l1 s1 gives_signs⟩⟩
/-! ### C.f, a constant of the class -/
theorem de_cval {C : Addr} {mc : Value} {f : Str} {v : V} {u : Value} {d : D} {x : Str} {p : Pos} (r : CRead X.K C mc) (k : CVal X.K C mc f v u) (hg : Gl X x) (hm : X.mg x = some (.ref C)) (rep : ∀ F, Rep G F v d) (hdb : (x == ("__debug__" : Str)) = false := by decide)
    (hb : attributeBase (.Name x p) f X.env (eval (.Name x p) X.env) = eval (.Name x p) X.env := by rfl) : DE X G W (.Attribute (.Name x p) f pos) (fun _ _ m Q => Q d m) :=
  (pe_cval (pe_glob (v := .ref C) hg hm rfl hdb) hb).imp fun σ H Q ⟨F, R, m, ds, Q0, xx, st, sl, q, xk, kk⟩ =>
    ⟨C, mc, v, u, rfl, r, k, kk d m F v H q (Le.refl F) st (rep F)⟩
/-! ### {} that gets tuple keys -/
def eDicT : DTE := fun _ _ m Q => ∀ p, m p = none → Q (.ref p) (mset m p (.tdc []))
theorem de_dicT : DE X G W (.Dict [] [] pos) eDicT := pe_dnewT.imp fun σ H Q ⟨F, R, m, ds, Q0, xx, st, sl, h, xk, kk⟩ p hp =>
  kk _ _ _ _ _ (h p (st.mnone hp)) (Le.refl F) (st.newM hp ⟨[], upd_same, rfl, .nil⟩) (.ref p)
/-- d[k] = v, k a tuple -/
def gIxT (to ti : DTE) : DTG := fun x d ds m Q => to x ds m fun o m1 => ti x ds m1 fun k m2 => ∃ (p : Addr) (kvs : List (List Key × D)) (xs : List D) (ks : List Key), o = .ref p ∧ k = .tup xs ∧ xs.map keyD = ks.map some ∧ m2 p = some (.tdc kvs) ∧ kvs.length < sizeLine ∧ Q ds (mset m2 p (.tdc (setK kvs ks d)))
theorem set_dput (hu : X.A.units + 1 < cLine) : PSet X fun o i v H Q => ∃ p H', o = .ref p ∧ DPut H p i v H' ∧ Q H' := by
  rintro pins s σ H o i v ov iv u Q I ro ri rv ⟨p, H', rfl, put, q⟩
  cases (show ov = Value.ref p from ro)
  exact d_setItem hu I put ri rv fun s' J => ⟨H', J, q⟩
theorem dg_ixT (hu : X.A.units + 1 < cLine) (ho : DE X G W o to) (hi : DE X G W i ti)
    (ha : ∀ v, assign (.Subscript o i pos) X.env v = (do let ob ← holding [v] (eval o X.env); let ix ← holding [v, ob] (eval i X.env); standAt pos; holding [v, ob, ix] (setItem ob ix v); release [v, ob, ix] []) := by intro _; rfl) : DG X G W (.Subscript o i pos) (gIxT to ti) :=
  (pg_sub ho hi (set_dput hu) ha).imp fun v σ H Q ⟨F, R, m, ds, d, Q0, x, st, sl, r, h, xk, k⟩ => by
    refine ⟨F, R, m, ds, _, x, st, sl, h, xk, fun o m1 F1 ov H1 h1 l1 s1 r1 => ?_⟩
    refine ⟨F1, R, m1, ds, _, x, s1, sl.le l1, h1, xk.le l1, fun kk m2 F2 iv H2 ⟨p, kvs, xs, ks, e1, e2, ek, hm, few, q⟩ l2 s2 r2 => ?_⟩
    subst e1; subst e2
    cases r1
    obtain ⟨_, vs, hv, ee, rr⟩ := s2.mt p _ hm
    cases r2 with
    | @tup c ws _ hc rc =>
      obtain ⟨k1, k2⟩ := put_keys ks (r.le (l1.trans l2)) ee rr
      refine ⟨p, _, rfl, DPut.t hv (keys_v rc ek ▸ s2.fz _ _ hc) ?_, ?_⟩
      · have := congrArg List.length ee
        rw [List.length_map, List.length_map] at this
        omega
      · exact k _ _ _ _ _ q (l1.trans l2) (s2.put hm ⟨_, upd_same, k1, k2⟩) ((sl.le l1).le l2)
end
/-! ### [y for a in xs for b in ys if ..]: the inner ones tuples -/
def lc2In (b : Nat) (tt1 : DTT) (te : DTE) (vs1 : List Nat) (ds2 : DSt) (K : List D → M → Prop) : List D → List D → M → Prop
  | [], acc, m => K acc m
  | d :: r, acc, m => tt1 noX ((wipeD ds2 vs1).set b (some d)) m fun c m1 => if c = true then te noX ((wipeD ds2 vs1).set b (some d)) m1 fun y m2 => acc.length < sizeLine ∧ lc2In b tt1 te vs1 ds2 K r (acc ++ [y]) m2 else lc2In b tt1 te vs1 ds2 K r acc m1
def lc2Out (a : Nat) (tt : DTT) (t1 : DTE) (b : Nat) (tt1 : DTT) (te : DTE) (vs vs1 : List Nat) (ds : DSt) (Q : DK) : List D → List D → M → Prop
  | [], acc, m => Q (.lst acc) m
  | d :: r, acc, m => tt noX ((wipeD ds vs).set a (some d)) m fun c m1 => if c = true then t1 noX ((wipeD ds vs).set a (some d)) m1 fun z m2 => ∃ ys, z = .tup ys ∧ lc2In b tt1 te vs1 ((wipeD ds vs).set a (some d)) (fun acc' m3 => lc2Out a tt t1 b tt1 te vs vs1 ds Q r acc' m3) ys acc m2
    else lc2Out a tt t1 b tt1 te vs vs1 ds Q r acc m1
def eLc2 (ti : DTI) (a : Nat) (tt : DTT) (t1 : DTE) (b : Nat) (tt1 : DTT) (te : DTE) (vs vs1 : List Nat) : DTE := fun x ds m Q => ti x ds m fun xs m1 => lc2Out a tt t1 b tt1 te vs vs1 ds Q xs [] m1
end DL
namespace DL
open PySem PySem.Spec PyProof.Rows L2
section
variable {X : Cx} {G : CT} {W : WX}
theorem lc2_imp {ti : DTI} {a b : Nat} {tt tt1 : DTT} {t1 te : DTE} {vs vs1 : List Nat} {wi : TI} (hv : a ∈ vs) (hv1 : b ∈ vs1)
    (hw : ∀ σ H Rr, (∃ F R m ds Q0 x, Hst G F R H m ∧ SL G F σ ds ∧ ti x ds m Q0 ∧ XOK G W F R x ∧ ∀ xs m' F' H' J, Q0 xs m' → Le F F' → Hst G F' R H' m' → Gives G F' J xs → Rr J H') → wi σ H Rr)
    {σ : L2.St} {H : Hp} {Q : VK} (h : lE G W (eLc2 ti a tt t1 b tt1 te vs vs1) σ H Q) : tLc2 wi (Tgt.tg X.K (.one a)) (lT G WF tt) (iTup X.K (lE G WF t1)) (Tgt.tg X.K (.one b)) (lT G WF tt1) (lE G WF te) vs vs1 σ H Q := by
  obtain ⟨F, R, m, ds, Q0, x, st, sl, h, xk, k⟩ := h
  refine hw σ H _ ⟨F, R, m, ds, _, x, st, sl, h, xk, fun xs m1 F1 H1 J q l1 s1 gv => fun Dl hD => ?_⟩
  have hR : R Dl = none := s1.rnone hD
  let Mid : List D → Hp → Prop := fun rest H' => ∃ F' m' accV acc, Le F1 F' ∧ Hst G F' (upd R Dl (.lst accV)) H' m' ∧ Reps G F' accV acc ∧ lc2Out a tt t1 b tt1 te vs vs1 ds Q0 rest acc m'
  refine ⟨fun i n H' => n = xs.length - i ∧ i ≤ xs.length ∧ Mid (xs.drop i) H', ⟨xs.length, by simp, Nat.zero_le _, F1, m1, [], [], Le.refl _, s1.newR hD, .nil, by simpa using q⟩, ?_⟩
  rintro i n H' ⟨rfl, hi, F', m', accV, acc, l', s', ra, f⟩
  obtain ⟨g1, g2⟩ := gv F' _ m' H' l' s' i
  by_cases hlt : i < xs.length
  · obtain ⟨hgo, hy⟩ := g2 xs[i] (by simp [hlt])
    rw [List.drop_eq_getElem_cons hlt] at f
    refine .inr ⟨hgo, fun H2 => Mid (xs.drop (i + 1)) H2, fun H2 mid => ⟨xs.length - (i + 1), by omega, rfl, hlt, mid⟩, fun v H3 y => ?_⟩
    obtain ⟨F3, l3, s3, r3⟩ := hy v H3 y
    have slA : SL G F3 ((L2.wipe σ vs).set a (some v)) ((wipeD ds vs).set a (some xs[i])) := ((sl.le ((l1.trans l').trans l3)).wipe vs).set a r3
    refine ⟨wipe_set1 hv, F3, _, m', _, _, noX, s3, slA, f, noX_ok, fun c m4 F4 H4 q4 l4 s4 => ?_⟩
    cases c with
    | false => exact ⟨F4, m4, accV, acc, (l'.trans l3).trans l4, s4, (ra.le l3).le l4, q4⟩
    | true =>
      refine ⟨F4, _, m4, _, _, noX, s4, slA.le l4, q4, noX_ok, fun z m5 F5 u5 H5 ⟨ys, isD, q5⟩ l5 s5 r5 => ?_⟩
      subst isD
      cases r5 with
      | @tup p ws _ hp rw_ =>
        refine ⟨p, rfl, ⟨ws, .inl (.inl (s5.fz _ _ hp))⟩, ?_⟩
        have gv1 : Gives G F5 (Itt X.K p) ys := gives_tup hp rw_
        have lB : Le F1 F5 := ((l'.trans l3).trans l4).trans l5
        let In : List D → Hp → Prop := fun rest H6 => ∃ F6 m6 accV6 acc6, Le F5 F6 ∧ Hst G F6 (upd R Dl (.lst accV6)) H6 m6 ∧ Reps G F6 accV6 acc6 ∧
          lc2In b tt1 te vs1 ((wipeD ds vs).set a (some xs[i])) (fun acc' m3 => lc2Out a tt t1 b tt1 te vs vs1 ds Q0 (xs.drop (i + 1)) acc' m3) rest acc6 m6
        refine ⟨fun j k H6 => k = ys.length - j ∧ j ≤ ys.length ∧ In (ys.drop j) H6, ⟨ys.length, by simp, Nat.zero_le _, F5, m5, accV, acc, Le.refl _, s5, ((ra.le l3).le l4).le l5, by simpa using q5⟩, ?_⟩
        rintro j n H6 ⟨rfl, hj, F6, m6, accV6, acc6, l6, s6, ra6, f6⟩
        obtain ⟨g3, g4⟩ := gv1 F6 _ m6 H6 l6 s6 j
        by_cases jlt : j < ys.length
        · obtain ⟨go1, hy1⟩ := g4 ys[j] (by simp [jlt])
          rw [List.drop_eq_getElem_cons jlt] at f6
          refine .inr ⟨go1, fun H7 => In (ys.drop (j + 1)) H7, fun H7 mid => ⟨ys.length - (j + 1), by omega, rfl, jlt, mid⟩, fun v2 H7 y2 => ?_⟩
          obtain ⟨F7, l7, s7, r7⟩ := hy1 v2 H7 y2
          have slB : SL G F7 ((L2.wipe ((L2.wipe σ vs).set a (some v)) vs1).set b (some v2)) ((wipeD ((wipeD ds vs).set a (some xs[i])) vs1).set b (some ys[j])) := ((slA.le (((l4.trans l5).trans l6).trans l7)).wipe vs1).set b r7
          refine ⟨wipe_set1 hv1, F7, _, m6, _, _, noX, s7, slB, f6, noX_ok, fun c8 m8 F8 H8 q8 l8 s8 => ?_⟩
          cases c8 with
          | false => exact ⟨F8, m8, accV6, acc6, l6.trans (l7.trans l8), s8, (ra6.le l7).le l8, q8⟩
          | true =>
            refine ⟨F8, _, m8, _, _, noX, s8, slB.le l8, q8, noX_ok, fun y9 m9 F9 u9 H9 ⟨few, q9⟩ l9 s9 r9 => ?_⟩
            refine ⟨accV6, (s9.rs Dl _ upd_same).1, by rw [ra6.length]; exact few, F9, m9, accV6 ++ [u9], acc6 ++ [y9], (l6.trans (l7.trans l8)).trans l9, s9.putR, (((ra6.le l7).le l8).le l9).append (.cons r9 .nil), q9⟩
        · have e : j = ys.length := by omega
          subst e
          rw [List.drop_length] at f6
          exact .inl ⟨g3 (Nat.le_refl _), F6, m6, accV6, acc6, lB.trans l6, s6, ra6, f6⟩
  · have e : i = xs.length := by omega
    subst e
    rw [List.drop_length] at f
    obtain ⟨s6, l6⟩ := s'.thawR hR
    exact .inl ⟨g1 (Nat.le_refl _), k _ m' _ _ H' f ((l1.trans l').trans l6) s6 (.lst upd_same (ra.le l6))⟩
/-- [y for a in xs if .. for b in ys if ..], each ys a tuple -/
theorem de_lc2 {elt tg it tg1 it1 : Expr} {ifs ifs1 : List Expr} {scope : Scope} {own : List (Str × Nat)} {vs1 : List Nat} {pos : Pos} {ti : DTI} {a b : Nat} {tt tt1 : DTT} {t1 te : DTE} (hc : X.calm = true) (hN : X.N.Nodup) (ha : a ∈ own.map (·.2)) (hb : b ∈ vs1) (hv : ∀ i ∈ vs1, i ∈ own.map (·.2)) (hi : DI X G W tg it ti) (ok : BlkOk X.N X.env.scope scope own)
    (hg : ∀ (s : Shared) (H : Hp) (C : Addr) (cl : List (Str × Addr)) (fp : List Addr), PG (X.blk s H scope (compEnvC scope cl C X.env) fp) tg (Tgt.tg X.K (.one a)))
    (ht : ∀ (s : Shared) (H : Hp) (C : Addr) (cl : List (Str × Addr)) (fp : List Addr), DTs (X.blk s H scope (compEnvC scope cl C X.env) fp) G ifs tt)
    (hi1 : ∀ (s : Shared) (H : Hp) (C : Addr) (cl : List (Str × Addr)) (fp : List Addr), DE (X.blk s H scope (compEnvC scope cl C X.env) fp) G WF it1 t1)
    (hg1 : ∀ (s : Shared) (H : Hp) (C : Addr) (cl : List (Str × Addr)) (fp : List Addr), PG (X.blk s H scope (compEnvC scope cl C X.env) fp) tg1 (Tgt.tg X.K (.one b)))
    (ht1 : ∀ (s : Shared) (H : Hp) (C : Addr) (cl : List (Str × Addr)) (fp : List Addr), DTs (X.blk s H scope (compEnvC scope cl C X.env) fp) G ifs1 tt1)
    (he : ∀ (s : Shared) (H : Hp) (C : Addr) (cl : List (Str × Addr)) (fp : List Addr), DE (X.blk s H scope (compEnvC scope cl C X.env) fp) G WF elt te) (hs : ∀ x, foldedSetIterable it X.env x = pure x := by intro _; rfl) (hs1 : ∀ env x, foldedSetIterable it1 env x = pure x := by intro _ _; rfl) :
    DE X G W (.ListComp elt [⟨tg, it, ifs, 0⟩, ⟨tg1, it1, ifs1, 0⟩] scope pos) (eLc2 ti a tt t1 b tt1 te (own.map (·.2)) vs1) := by
  obtain ⟨wi, hi, hw⟩ := hi
  exact (pe_lc2 hc hN hi ok hv hg ht (fun s H C cl fp => pi_tup (X := X.blk s H scope (compEnvC scope cl C X.env) fp) (hi1 s H C cl fp)) hg1 ht1 he hs hs1).imp fun σ H Q h => lc2_imp (X := X) ha hb hw h
end
end DL
namespace DL
open PySem PySem.Spec PyProof.Rows L2 ClX
section
variable {P : Program} {w : World} {mg : Str → Option Value} {base : Heap} {K : PySem.W.Frag}
/-! ### def f(a, *v) -/
/-- what the first argument and the others become -/
def headSp (sp : DSp) : DSp := fun xs m Q x => match xs with
  | y :: r => sp [y, .tup r] m Q x
  | [] => False
theorem fn_starG1 {x qual : Str} {st : Stmt} {f : Addr} {fd : FuncData} {N : List Str} {pa pv : Str} {k : Nat} {G : CT} {sp : DSp} (F : Fun K x qual st f fd) (S : FnScope N [pa, pv] (defScope st))
    (hb : ∀ (u : Value) (rest : List Value), bindArgs fd ⟨u :: rest, []⟩ = (newTuple rest >>= fun t => pure [(pa, u), (pv, t)]))
    (hbody : ∀ (cdv : Value) (A : Around) (outer : List Env) (s : Shared) (H : Hp) (E : XK) (y : D) (xs : List D) (m : M) (Q : DK) (x : DX), Room k (A.deeper (envOfC qual (defScope st) s.heap.objs.size f cdv)) → sp [y, .tup xs] m Q x →
      ∃ t, DSs (cxOf (L2.CX P w) P w K mg base N qual (defScope st) f cdv A outer s H E) G (fun cls d _ H' => E cls d H') (defBody st) t ∧ t { nx := fun _ m' => Q .non m', rt := Q, ex := fun _ => x } (startD N [y, .tup xs]) m) :
    FnR P w K mg base (L2.CX P w) (k + 1) f (fun vs H Q E => vs.length ≤ sizeLine ∧ spL G (headSp sp) vs H Q E) := by
  obtain ⟨oc, od, kV, doc, pm, an, cdv, ct, osl, isFd, lk, hcd⟩ := F.ex
  subst isFd
  have star := StX.fn_star (CX := L2.CX P w) (ps := [pa]) (pv := pv) (mg := mg) (base := base) (w := w) (P := P) lk hcd S StX.cxUp (fun us rest h => by
      match us, h with
      | [u], _ => exact hb u rest) (k := k) (sp := fun vs H Q E => ∃ v p, vs = [v, .ref p] ∧ ∃ F R m y xs Q0 x ws, Hst G F R H m ∧ F p = some (.tup ws) ∧ Rep G F v y ∧ Reps G F ws xs ∧ sp [y, .tup xs] m Q0 x ∧ (∀ d m' F' v H', Q0 d m' → Le F F' → Hst G F' R H' m' → Rep G F' v d → Q v H') ∧
        (∀ c ys m' F' d H', x c ys m' → Le F F' → Hst G F' R H' m' → XD G F' H' c d ys → E (.ref (G c).addr) d H'))
    (fun A outer s H vs Q E hr ⟨v, p, isVs, F0, R, m, y, xs, Q0, x, ws, st0, hp, ry, rws, h0, kq, kx⟩ => by
      subst isVs
      obtain ⟨t, ht, hq⟩ := hbody cdv A outer s H E y xs m Q0 x hr h0
      exact ⟨_, ht, F0, R, m, startD N [y, .tup xs], _, st0, sl_start N (.cons ry (.cons (.tup hp rws) .nil)), hq, fun ds m' F' σ' H' q l s' _ => kq .non m' F' .non H' q l s' .non, fun d m' F' v H' q l s' r => kq d m' F' v H' q l s' r, fun _ _ _ _ _ q => q.elim, fun _ _ _ _ _ q => q.elim,
        fun ds c ys m' F' σ' d H' q l s' _ xd => kx c ys m' F' d H' q l s' xd⟩)
  refine star.imp fun vs H Q E ⟨few, F0, R, m, xs, Q0, x, st0, r0, h0, kq, kx⟩ => ?_
  match vs, xs, r0, h0, few with
  | [], [], .nil, h0, _ => exact h0.elim
  | v :: ws, y :: r, .cons r1 r2, h0, few =>
    refine ⟨[v], ws, rfl, rfl, Nat.le_of_succ_le few, fun p hp => ⟨v, p, rfl, ?_⟩⟩
    have l1 := le_upd (o := HO.tup ws) (st0.fnone hp)
    exact ⟨_, R, m, y, r, Q0, x, ws, st0.new hp, upd_same, r1.le l1, r2.le l1, h0, fun d m' F' v H' q l => kq d m' F' v H' q (l1.trans l), fun c ys m' F' d H' q l => kx c ys m' F' d H' q (l1.trans l)⟩
end
section
variable {X : Cx} {G : CT} {W : WX} {hot grd : Bool} {k c i : Nat} {C g f pr : Addr} {mc : Value} {fd : FuncData} {ps : List Str} {sp : DSp} {n x : Str} {p pos apos : Pos} {e : Expr} {es : List Expr} {ta : DTA}
/-- C.m(..), m a class method -/
def eCMet (C : Addr) (sp : DSp) (ta : DTA) : DTE := fun x ds m Q => ta x ds m fun xs m1 => xs.length + 1 ≤ sizeLine ∧ sp (.ref C :: xs) m1 Q (x ds)
theorem de_cmeth {pl : Sem Bool} (r : CRead X.K C mc) (cm : CMet X.K C mc n pr g) (F : FnR X.prog X.w X.K X.mg X.base (L2.CX X.prog X.w) k g (fun vs H Q E => vs.length ≤ sizeLine ∧ spL G sp vs H Q E)) (hr : Room k X.A) (hg : Gl X x) (hm : X.mg x = some (.ref C)) (tk : Takes X W) (ha : DA X G W (e :: es) ta)
    (hdb : (x == ("__debug__" : Str)) = false := by decide) (hst : starEach (e :: es) X.env = (false, eval e X.env) :: starEach es X.env := by rfl) (hpl : (backTo pos (starEach es X.env)).any (·.1) = false := by rfl)
    (ht : eval (.Call (.Attribute (.Name x p) n apos) (e :: es) [] pos) X.env = (do
      let ov ← eval (.Name x p) X.env
      standAt apos.atName
      let (f, first) ← holding [ov] (getMethod ov n pl)
      callWith pos f first (backTo pos (starEach (e :: es) X.env)) (backToKw pos (keywordEach [] X.env))) := by rfl) :
    DE X G W (.Call (.Attribute (.Name x p) n apos) (e :: es) [] pos) (eCMet C sp ta) := by
  constructor
  rintro pins s σ H Q I ⟨F0, R, m, ds, Q0, xx, st, sl, h, xk, kk⟩
  refine PySem.W.methodCall_KW (pl := pl) (ld_glob I hg hm ?_ hdb) ht
  refine getmethcm_ok I r cm fun s2 I2 => ?_
  have args := ha.run pos _ s2 σ H (fun vs H1 => (V.ref C :: vs).length ≤ sizeLine ∧ spL G sp (.ref C :: vs) H1 Q (fun cls d H' => W cls d σ H')) I2 ⟨F0, R, m, ds, _, xx, st, sl, h, xk, fun xs m1 F1 vs H1 q l s1 r1 => by
    refine ⟨by rw [List.length_cons, r1.length]; exact q.1, spL_of s1 (sl.le l) (.cons (.ref C) r1) q.2 (xk.le l) fun d m' F' v H' q' l' => kk d m' F' v H' q' (l.trans l')⟩⟩
  refine callwith_cm I2 (base_none I (Nat.le_refl _)) cm.fi (thn args fun us s3 ⟨vs, H2, I3, rv, q⟩ => ⟨⟨pin_at I3, I3.kIn⟩, ?_⟩) hst hpl
  refine thn (Q := EP X ((s.heap.objs.size, PySem.W.methodObj (.ref g) (.ref C)) :: pins) σ Q) (wpAny_call (PySem.W.method_call (pin_at I3) (codeAny_mono (F X.A X.stack s3 H2 (.ref C :: us) (.ref C :: vs) Q _ hr I3.env0 (.cons rfl rv) q) fun r s' hq => ?_))) fun _ _ y => unpinE y
  match r, hq with
  | .error e, hq => exact passAt tk σ _ H2 s3 e s' I3 hq
  | .ok (.ret u), hq => exact I3.after hq
  | .ok .next, hq => exact hq.elim
  | .ok .brk, hq => exact hq.elim
  | .ok .cont, hq => exact hq.elim
end
end DL

/-! list(zip(a, b)), dict(zip(a, b)) -/
namespace DL
open PySem PySem.Spec PyProof.Rows L2
/-- the tuples at Ts -/
def pairH (Ts : List Addr) (prs : List (V × V)) (b : Addr) : Option HO := ((Ts.zip prs).lookup b).map fun p => .tup [p.1, p.2]
theorem look_ix {b : Addr} {p : V × V} : ∀ {Ts : List Addr} {prs : List (V × V)}, (Ts.zip prs).lookup b = some p → ∃ i : Nat, Ts[i]? = some b ∧ prs[i]? = some p
  | [], _, h => by simp at h
  | _ :: _, [], h => by simp at h
  | T :: Ts, q :: prs, h => by
    rw [List.zip_cons_cons, List.lookup_cons] at h
    split at h
    · rename_i e
      cases h
      exact ⟨0, by simpa using (beq_iff_eq.mp e).symm, rfl⟩
    · obtain ⟨i, h1, h2⟩ := look_ix h
      exact ⟨i + 1, by simpa using h1, by simpa using h2⟩
theorem look_there {b : Addr} : ∀ {Ts : List Addr} {prs : List (V × V)} {i : Nat}, Ts.length = prs.length → Ts[i]? = some b → ∃ p, (Ts.zip prs).lookup b = some p
  | [], _, _, _, h => by simp at h
  | _ :: _, [], _, e, _ => by simp at e
  | T :: Ts, q :: prs, i, e, h => by
    rw [List.zip_cons_cons, List.lookup_cons]
    split
    · exact ⟨_, rfl⟩
    · rename_i ne
      cases i with
      | zero =>
        have : T = b := by simpa using h
        rw [this] at ne
        simp at ne
      | succ i => exact look_there (i := i) (by simpa using e) (by simpa using h)
theorem Reps.of_get {G : CT} {F : Hp} : ∀ {vs : List V} {ds : List D}, vs.length = ds.length → (∀ (i : Nat) v d, vs[i]? = some v → ds[i]? = some d → Rep G F v d) → Reps G F vs ds
  | [], [], _, _ => .nil
  | v :: vs, d :: ds, e, h => .cons (h 0 v d rfl rfl) (Reps.of_get (by simpa using e) fun i w x a b => h (i + 1) w x (by simpa using a) (by simpa using b))
  | [], _ :: _, e, _ => by simp at e
  | _ :: _, [], e, _ => by simp at e
/-- the pairs that zip tells -/
def zipD (xs ys : List D) : List D := List.zipWith (fun x y => D.tup [x, y]) xs ys
def eLZip (ta : DTA) : DTE := fun x ds m Q => ta x ds m fun zs m1 => ∃ d1 d2 xs ys, zs = [d1, d2] ∧ seqD d1 = some xs ∧ seqD d2 = some ys ∧ Q (.lst (zipD xs ys)) m1
section
variable {X : Cx} {G : CT} {W : WX} {a b : Expr} {ta : DTA} {p1 p2 pos1 pos2 : Pos}
theorem boot_list' : bootBuiltins "list" = some (.type "list") := by decide +kernel
theorem boot_zip' : bootBuiltins "zip" = some (.type "zip") := by decide +kernel
theorem boot_dict' : bootBuiltins "dict" = some (.type "dict") := by decide +kernel
/-- a zip that has just been made of two lists or tuples -/
structure Zipped (prog : Program) (w : World) (h0 h' : Heap) (vs1 vs2 : List V) (l1 l2 : Addr) (its1 its2 : List Value) (St1 St2 : Nat → Heap → Prop) : Prop where
  old1 : l1 < h0.objs.size
  old2 : l2 < h0.objs.size
  val1 : Vals vs1 its1
  val2 : Vals vs2 its2
  few : min its1.length its2.length ≤ sizeLine
  draw1 : ∀ A : Around, A.handled = none → Draws prog w A h0.objs.size [h0.objs.size, l1] its1.length (fun i v => its1[i]? = some v) St1
  draw2 : ∀ A : Around, A.handled = none → Draws prog w A (h0.objs.size + 1) [h0.objs.size + 1, l2] its2.length (fun i v => its2[i]? = some v) St2
  start1 : St1 0 h'
  start2 : St2 0 h'
  live1 : ∀ h, St1 0 h → ∀ b ∈ [h0.objs.size, l1], ∃ o, h.get? b = some o
  live2 : ∀ h, St2 0 h → ∀ b ∈ [h0.objs.size + 1, l2], ∃ o, h.get? b = some o
  zip : IsZip h' (h0.objs.size + 4) (h0.objs.size + 2) (h0.objs.size + 3) .none
  its : IsTupOf2 h' (h0.objs.size + 2) (.ref h0.objs.size) (.ref (h0.objs.size + 1))
  out : IsTupOf2 h' (h0.objs.size + 3) .none .none
  size : h'.objs.size = h0.objs.size + 5
  keep : ∀ c o, h0.get? c = some o → h'.get? c = some o
theorem zip_call {pins : List (Addr × Obj)} {σ : L2.St} {F R H : Hp} {m : M} {s : Shared} {vs : List V} {us : List Value} {d1 d2 : D} {xs ys : List D} {Q : Value → Shared → Prop} {A : Around} {E : Value → Shared → Prop} (I : Inv X pins σ H s) (st : Hst G F R H m) (rv : Vals vs us) (r : Reps G F vs [d1, d2]) (e1 : seqD d1 = some xs) (e2 : seqD d2 = some ys)
    (go : ∀ (h' : Heap) (vs1 vs2 : List V) (l1 l2 : Addr) (its1 its2 : List Value) (St1 St2 : Nat → Heap → Prop), Reps G F vs1 xs → Reps G F vs2 ys → Zipped X.prog X.w s.heap h' vs1 vs2 l1 l2 its1 its2 St1 St2 → Q (.ref (s.heap.objs.size + 4)) { s with heap := h' }) :
    wpAny (model X.prog X.w) A (call (.type "zip") us) Q E s := by
  cases r with
  | cons r1 r =>
    cases r with
    | cons r2 r =>
      cases r
      cases rv with
      | cons v1 rv =>
        cases rv with
        | cons v2 rv =>
          cases rv
          obtain ⟨l1, its1, vs1, o1, Hq1, St1, rfl, val1, rep1, few1, S1⟩ := seq_src I st v1 r1 e1
          obtain ⟨l2, its2, vs2, o2, Hq2, St2, rfl, val2, rep2, few2, S2⟩ := seq_src I st v2 r2 e2
          refine PySem.zip_begins2 S1.begins S2.begins S1.now S2.now fun h' isZ ins out g1 g2 size keep => ?_
          refine go h' vs1 vs2 l1 l2 its1 its2 (St1 s.heap.objs.size) (St2 (s.heap.objs.size + 1)) rep1 rep2 ⟨S1.old, S2.old, val1, val2, Nat.le_trans (Nat.min_le_left ..) few1, ?_, ?_, ?_, ?_, ?_, ?_, isZ, ins, out, size, keep⟩
          · exact fun A calm => S1.draws A _ calm (Nat.ne_of_lt S1.old)
          · exact fun A calm => S2.draws A _ calm (Nat.ne_of_lt (Nat.lt_succ_of_lt S2.old))
          · exact S1.start _ _ g1 (S1.stay _ keep)
          · exact S2.start _ _ g2 (S2.stay _ keep)
          · exact fun h st => S1.live _ _ _ st
          · exact fun h st => S2.live _ _ _ st
/-- the list of the new tuples, over data -/
theorem zip_listed {pins : List (Addr × Obj)} {σ : L2.St} {F R H : Hp} {m : M} {s : Shared} {h' h2 : Heap} {tk c' : Nat} {vs1 vs2 : List V} {l1 l2 : Addr} {its1 its2 : List Value} {St1 St2 : Nat → Heap → Prop} {xs ys : List D} {Ts : List Addr} {Q : VK} (I : Inv X pins σ H s) (st : Hst G F R H m) (rep1 : Reps G F vs1 xs) (rep2 : Reps G F vs2 ys)
    (Z : Zipped X.prog X.w s.heap h' vs1 vs2 l1 l2 its1 its2 St1 St2) (len : Ts.length = min its1.length its2.length) (pairs : PySem.W.PairsAt (fun i v => its1[i]? = some v) (fun i v => its2[i]? = some v) (PySem.W.Away5 h'.objs.size (s.heap.objs.size + 4) (s.heap.objs.size + 3) s.heap.objs.size (s.heap.objs.size + 1) (h'.objs.size + 1)) Ts h2)
    (lst : PySem.W.lstAt h2 h'.objs.size Ts c') (kept : ∀ b o, b ≠ s.heap.objs.size + 4 → b ≠ s.heap.objs.size + 3 → b ≠ s.heap.objs.size → b ≠ s.heap.objs.size + 1 → h'.get? b = some o → h2.get? b = some o)
    (fin : ∀ {F' : Hp} {v : V} {H' : Hp}, Le F F' → Hst G F' R H' m → Rep G F' v (.lst (zipD xs ys)) → Q v H') : EP X pins σ Q (.ref h'.objs.size) { s with heap := h2, toks := tk } := by
  have n1 := Paired.length Z.val1
  have n2 := Paired.length Z.val2
  have k1 := rep1.length
  have k2 := rep2.length
  have plen : Ts.length = (vs1.zip vs2).length := by rw [List.length_zip, len, n1, n2]
  let H2 : Hp := fun b => if b = h'.objs.size then some (.lst (Ts.map V.ref)) else match pairH Ts (vs1.zip vs2) b with
    | some u => some u
    | none => H b
  have big : s.heap.objs.size < h'.objs.size := by rw [Z.size]; exact Nat.lt_add_of_pos_right (by decide)
  have above : ∀ {i : Nat} {T : Addr}, Ts[i]? = some T → h'.objs.size < T := fun {i T} e => (pairs i T e).2.2.2.2.2.2
  have oldH : ∀ {b : Addr} {u : HO}, H b = some u → b < s.heap.objs.size := fun {b u} e => (I.hok b u e).lt
  have atL : H2 h'.objs.size = some (.lst (Ts.map V.ref)) := if_pos rfl
  have inTs : ∀ {b : Addr} {u : HO}, pairH Ts (vs1.zip vs2) b = some u → ∃ (i : Nat) (p : V × V), Ts[i]? = some b ∧ (vs1.zip vs2)[i]? = some p ∧ u = .tup [p.1, p.2] := fun {b u} e => by
    obtain ⟨p, found, rfl⟩ := Option.map_eq_some_iff.mp e
    obtain ⟨i, h1, h2⟩ := look_ix found
    exact ⟨i, p, h1, h2, rfl⟩
  have zipAt : ∀ {i : Nat} {p : V × V}, (vs1.zip vs2)[i]? = some p → vs1[i]? = some p.1 ∧ vs2[i]? = some p.2 := fun {i p} e => List.getElem?_zip_eq_some.mp e
  have below : ∀ {b : Addr}, b < s.heap.objs.size → H2 b = H b := fun {b} lt => by
    have ne : b ≠ h'.objs.size := Nat.ne_of_lt (Nat.lt_trans lt big)
    show (if b = h'.objs.size then _ else _) = _
    rw [if_neg ne]
    cases e : pairH Ts (vs1.zip vs2) b with
    | none => rfl
    | some u =>
      obtain ⟨i, p, h1, _⟩ := inTs e
      exact absurd (above h1) (Nat.not_lt.mpr (Nat.le_of_lt (Nat.lt_trans lt big)))
  have old : ∀ b u, H b = some u → H2 b = some u := fun b u e => (below (oldH e)).trans e
  have noH : ∀ {b : Addr}, s.heap.objs.size ≤ b → H b = none := fun le => I.hok.fresh le
  have tupAt : ∀ {i : Nat} {T : Addr} {v1 v2 : V}, Ts[i]? = some T → vs1[i]? = some v1 → vs2[i]? = some v2 → H2 T = some (.tup [v1, v2]) := fun {i T v1 v2} hT h1 h2 => by
    have gt := above hT
    show (if T = h'.objs.size then _ else _) = _
    rw [if_neg (Nat.ne_of_gt gt)]
    obtain ⟨p, found⟩ := look_there plen hT
    obtain ⟨j, hj, pj⟩ := look_ix found
    obtain ⟨q1, q2⟩ := zipAt pj
    obtain ⟨⟨x, y, x1, y1, t1⟩, _⟩ := pairs i T hT
    obtain ⟨⟨x', y', x2, y2, t2⟩, _⟩ := pairs j T hj
    have t3 := Eq.trans (Eq.symm t1) t2
    cases t3
    obtain ⟨u1, a1, r1⟩ := paired_at Z.val1 x1
    obtain ⟨u2, a2, r2⟩ := paired_at Z.val2 y1
    obtain ⟨w1, b1, s1⟩ := paired_at Z.val1 x2
    obtain ⟨w2, b2, s2⟩ := paired_at Z.val2 y2
    rw [h1] at a1; cases a1
    rw [h2] at a2; cases a2
    rw [q1] at b1; cases b1
    rw [q2] at b2; cases b2
    have e : pairH Ts (vs1.zip vs2) T = some (.tup [p.1, p.2]) := by unfold pairH; rw [found]; rfl
    rw [e, relV_fun s1 r1, relV_fun s2 r2]
  have J : Inv X pins σ H2 { s with heap := h2, toks := tk } := by
    refine inv_grown I (fun b o there => ?_) old (fun b lt e => (below lt).trans e) (fun b u e e2 => ?_)
    · have lt := Heap.lt_size there
      exact kept b o (Nat.ne_of_lt (Nat.lt_add_right _ lt)) (Nat.ne_of_lt (Nat.lt_add_right _ lt)) (Nat.ne_of_lt lt) (Nat.ne_of_lt (Nat.lt_add_right _ lt)) (Z.keep b o there)
    · by_cases c : b = h'.objs.size
      · subst c
        rw [atL] at e2
        cases e2
        refine ⟨by rw [List.length_map, len]; exact Z.few, Ts.map Value.ref, c', ?_, lst⟩
        clear atL tupAt below old inTs
        have all : ∀ l : List Addr, Vals (l.map V.ref) (l.map Value.ref) := fun l => by
          induction l with
          | nil => exact .nil
          | cons t l ih => exact .cons rfl ih
        exact all Ts
      · have e3 : (match pairH Ts (vs1.zip vs2) b with | some u => some u | none => H b) = some u := (if_neg c).symm.trans e2
        cases e4 : pairH Ts (vs1.zip vs2) b with
        | none => rw [e4, e] at e3; cases e3
        | some u' =>
          rw [e4] at e3
          cases e3
          obtain ⟨i, p, h1, hp, rfl⟩ := inTs e4
          obtain ⟨q1, q2⟩ := zipAt hp
          obtain ⟨⟨x, y, x1, y1, t1⟩, _⟩ := pairs i b h1
          obtain ⟨u1, a1, r1⟩ := paired_at Z.val1 x1
          obtain ⟨u2, a2, r2⟩ := paired_at Z.val2 y1
          rw [q1] at a1; cases a1
          rw [q2] at a2; cases a2
          exact ⟨small2, [x, y], .cons r1 (.cons r2 .nil), _, t1, rfl, _, rfl⟩
  have st2 : Hst G (newF F H H2) R H2 m := st.many old
  have rep : Rep G (newF F H H2) (.ref h'.objs.size) (.lst (zipD xs ys)) := by
    refine .lst (newF_at st (noH (Nat.le_of_lt big)) atL) (Reps.of_get ?_ fun i v d hv hd => ?_)
    · rw [List.length_map, len]
      unfold zipD
      rw [List.length_zipWith, ← n1, ← n2, k1, k2]
    · unfold zipD at hd
      obtain ⟨x, y, hx, hy, rfl⟩ := List.getElem?_zipWith_eq_some.mp hd
      rw [List.getElem?_map, Option.map_eq_some_iff] at hv
      obtain ⟨T, hT, rfl⟩ := hv
      obtain ⟨v1, h1, r1⟩ := rep1.get hx
      obtain ⟨v2, h2, r2⟩ := rep2.get hy
      exact .tup (newF_at st (noH (Nat.le_of_lt (Nat.lt_trans big (above hT)))) (tupAt hT h1 h2)) (.cons (r1.le newF_le) (.cons (r2.le newF_le) .nil))
  exact ⟨.ref h'.objs.size, H2, J, rfl, fin newF_le st2 rep⟩
theorem de_lzip (calm : X.A.handled = none) (gl : Gl X "list") (ml : X.mg "list" = none) (gz : Gl X "zip") (mz : X.mg "zip" = none) (ha : DA X G W [a, b] ta)
    (hs : starEach [a, b] X.env = (false, eval a X.env) :: starEach [b] X.env := by rfl) (hp : (backTo pos2 (starEach [b] X.env)).any (·.1) = false := by rfl)
    (hs1 : starEach [Expr.Call (.Name "zip" p2) [a, b] [] pos2] X.env = (false, eval (Expr.Call (.Name "zip" p2) [a, b] [] pos2) X.env) :: starEach [] X.env := by rfl) :
    DE X G W (.Call (.Name "list" p1) [.Call (.Name "zip" p2) [a, b] [] pos2] [] pos1) (eLZip ta) := by
  constructor
  rintro pins s σ H Q I ⟨F, R, m, ds, Q0, x, st, sl, h, xk, kk⟩
  refine wpAny_Call_Name_kw (ld_blt I gl ml boot_list' ?_ (by decide) (by decide))
  refine PyProof.Rows.callWith_type1 ?_ hs1 (by rfl)
  rw [hs1]
  refine Calls.spliced_cons ?_
  refine wpAny_Call_Name_kw (ld_blt I gz mz boot_zip' ?_ (by decide) (by decide))
  refine PyProof.Rows.callWith_type1 (thn (ha.run pos2 pins s σ H _ I ⟨F, R, m, ds, _, x, st, sl, h, xk, fun zs m1 F1 vs H1 q l s1 r => show (∃ F1 m1 zs, Le F F1 ∧ Hst G F1 R H1 m1 ∧ Reps G F1 vs zs ∧ ∃ d1 d2 xs ys, zs = [d1, d2] ∧ seqD d1 = some xs ∧ seqD d2 = some ys ∧ Q0 (.lst (zipD xs ys)) m1) from ⟨F1, m1, zs, l, s1, r, q⟩⟩) ?_) hs hp
  rintro us s1 ⟨vs, H1, I1, rv, F1, m1, zs, l1, st1, reps, d1, d2, xs, ys, rfl, e1, e2, q⟩
  refine zip_call I1 st1 rv reps e1 e2 fun h' vs1 vs2 a1 a2 its1 its2 St1 St2 rep1 rep2 Z => Calls.spliced_nil ?_
  have lt : ∀ k : Nat, k < 5 → s1.heap.objs.size + k < h'.objs.size := fun k hk => by rw [Z.size]; exact Nat.add_lt_add_left hk _
  have S := PySem.zip_sep2 (N := s1.heap.objs.size) (fp1 := [a1]) (fp2 := [a2]) (fun b hb => List.mem_singleton.mp hb ▸ Z.old1) (fun b hb => List.mem_singleton.mp hb ▸ Z.old2)
  refine PySem.W.call_list_zip (s := { s1 with heap := h' }) S Z.draw1 Z.draw2 calm (lt 4 (by decide)) (lt 2 (by decide)) (lt 3 (by decide)) (fun b hb => ?_) (fun b hb => ?_) Z.few Z.zip Z.its ⟨_, _, Z.out⟩ Z.start1 Z.start2 fun h2 tk Ts c' len pairs lst kept => ?_
  · rcases List.mem_cons.mp hb with rfl | hb
    · exact lt 0 (by decide)
    · exact List.mem_singleton.mp hb ▸ Nat.lt_trans Z.old1 (lt 0 (by decide))
  · rcases List.mem_cons.mp hb with rfl | hb
    · exact lt 1 (by decide)
    · exact List.mem_singleton.mp hb ▸ Nat.lt_trans Z.old2 (lt 0 (by decide))
  exact zip_listed (s := s1) (h' := h') (tk := tk) I1 st1 rep1 rep2 Z len pairs lst kept fun l2 s2 r2 => kk _ _ _ _ _ q (l1.trans l2) s2 r2
/-- dict(zip(a, b)), the keys integers or texts -/
def eDZip (ta : DTA) : DTE := fun x ds m Q => ta x ds m fun zs m1 => ∃ (d1 d2 : D) (xs ys : List D) (ks : List Key), zs = [d1, d2] ∧ seqD d1 = some xs ∧ seqD d2 = some ys ∧ xs.map keyD = ks.map some ∧ xs.length = ys.length ∧ Q (.dic (mergeD [] (ks.zip ys))) m1
theorem keys_vs {F : Hp} : ∀ {vs : List V} {xs : List D} {ks : List Key}, Reps G F vs xs → xs.map keyD = ks.map some → vs = ks.map kV
  | [], [], [], _, _ => rfl
  | v :: vs, x :: xs, k :: ks, .cons r1 r2, e => by
    obtain ⟨h1, h2⟩ := List.cons.inj e
    rw [key_v r1 h1, keys_vs r2 h2]
    rfl
  | [], [], _ :: _, _, e => by simp at e
  | _ :: _, _ :: _, [], _, e => by simp at e
theorem key_is {k : Key} {u : Value} (r : L2.RelV (kV k) u) : keyIs k u = true := by
  cases k with
  | inl i => obtain ⟨t, rfl⟩ := (show ∃ t, u = Value.int i t from r); exact keyIs_int i t
  | inr x => obtain ⟨t, rfl⟩ := (show ∃ t, u = Value.str x t from r); exact keyIs_str x t
theorem kv_zip : ∀ {ks : List Key} {vs : List V} {its : List Value}, Vals vs its → KV (ks.zip vs) (ks.zip its)
  | [], _, _, _ => .nil
  | _ :: _, [], [], .nil => .nil
  | k :: ks, v :: vs, u :: its, .cons r rr => .cons ⟨rfl, r⟩ (kv_zip rr)
theorem zip_keys {α β : Type} : ∀ {ks : List Key} {as : List α} {bs : List β}, as.length = bs.length → (ks.zip as).map (·.1) = (ks.zip bs).map (·.1)
  | [], _, _, _ => rfl
  | _ :: _, [], [], _ => rfl
  | k :: ks, a :: as, b :: bs, e => by
    rw [List.zip_cons_cons, List.zip_cons_cons, List.map_cons, List.map_cons, zip_keys (by simpa using e)]
  | _ :: _, [], _ :: _, e => by simp at e
  | _ :: _, _ :: _, [], e => by simp at e
theorem zip_vals {F : Hp} : ∀ {ks : List Key} {vs : List V} {ds : List D}, Reps G F vs ds → Reps G F ((ks.zip vs).map (·.2)) ((ks.zip ds).map (·.2))
  | [], _, _, _ => .nil
  | _ :: _, [], [], .nil => .nil
  | k :: ks, v :: vs, d :: ds, .cons r rr => .cons r (zip_vals rr)
theorem de_dzip (calm : X.A.handled = none) (gl : Gl X "dict") (ml : X.mg "dict" = none) (gz : Gl X "zip") (mz : X.mg "zip" = none) (ha : DA X G W [a, b] ta)
    (hs : starEach [a, b] X.env = (false, eval a X.env) :: starEach [b] X.env := by rfl) (hp : (backTo pos2 (starEach [b] X.env)).any (·.1) = false := by rfl)
    (hs1 : starEach [Expr.Call (.Name "zip" p2) [a, b] [] pos2] X.env = (false, eval (Expr.Call (.Name "zip" p2) [a, b] [] pos2) X.env) :: starEach [] X.env := by rfl) :
    DE X G W (.Call (.Name "dict" p1) [.Call (.Name "zip" p2) [a, b] [] pos2] [] pos1) (eDZip ta) := by
  constructor
  rintro pins s σ H Q I ⟨F, R, m, ds, Q0, x, st, sl, h, xk, kk⟩
  refine wpAny_Call_Name_kw (ld_blt I gl ml boot_dict' ?_ (by decide) (by decide))
  refine PyProof.Rows.callWith_type1 ?_ hs1 (by rfl)
  rw [hs1]
  refine Calls.spliced_cons ?_
  refine wpAny_Call_Name_kw (ld_blt I gz mz boot_zip' ?_ (by decide) (by decide))
  refine PyProof.Rows.callWith_type1 (thn (ha.run pos2 pins s σ H _ I ⟨F, R, m, ds, _, x, st, sl, h, xk, fun zs m1 F1 vs H1 q l s1 r => show (∃ F1 m1 zs, Le F F1 ∧ Hst G F1 R H1 m1 ∧ Reps G F1 vs zs ∧ ∃ (d1 d2 : D) (xs ys : List D) (ks : List Key), zs = [d1, d2] ∧ seqD d1 = some xs ∧ seqD d2 = some ys ∧ xs.map keyD = ks.map some ∧ xs.length = ys.length ∧ Q0 (.dic (mergeD [] (ks.zip ys))) m1) from ⟨F1, m1, zs, l, s1, r, q⟩⟩) ?_) hs hp
  rintro us s1 ⟨vs, H1, I1, rv, F1, m1, zs, l1, st1, reps, d1, d2, xs, ys, ks, rfl, e1, e2, isK, same, q⟩
  refine zip_call I1 st1 rv reps e1 e2 fun h' vs1 vs2 a1 a2 its1 its2 St1 St2 rep1 rep2 Z => Calls.spliced_nil ?_
  have S := PySem.zip_sep2 (N := s1.heap.objs.size) (fp1 := [a1]) (fp2 := [a2]) (fun b hb => List.mem_singleton.mp hb ▸ Z.old1) (fun b hb => List.mem_singleton.mp hb ▸ Z.old2)
  have n1 := Paired.length Z.val1
  have n2 := Paired.length Z.val2
  have k1 := rep1.length
  have k2 := rep2.length
  have kl : xs.length = ks.length := by simpa using congrArg List.length isK
  have hv1 := keys_vs rep1 isK
  subst hv1
  have have_ : PairsHave (mixKind X.prog X.w) (min its1.length its2.length) (fun i k v => its1[i]? = some k ∧ its2[i]? = some v) (ks.zip its2) := by
    refine ⟨by rw [List.length_zip, ← n1, ← n2, k1, k2, kl], fun i key v ⟨h1, h2⟩ => ?_⟩
    obtain ⟨kv, hk, rk⟩ := paired_at Z.val1 h1
    rw [List.getElem?_map, Option.map_eq_some_iff] at hk
    obtain ⟨k, hk, rfl⟩ := hk
    exact ⟨k, List.getElem?_zip_eq_some.mpr ⟨hk, h2⟩, key_is rk⟩
  refine call_dict_pairs (s := { s1 with heap := h' }) (PySem.W.zip_pairs S Z.draw1 Z.draw2 Z.live1 Z.live2) calm ⟨Z.zip, Z.its, ⟨_, _, Z.out⟩, Z.start1, Z.start2⟩ have_ Z.few fun h2 tk of_ kept => ?_
  obtain ⟨es, ep, ⟨o, oAt, _⟩, _⟩ := id (Heap.DictOf.raw of_)
  have big : s1.heap.objs.size < h'.objs.size := by rw [Z.size]; exact Nat.lt_add_of_pos_right (by decide)
  have notSys : (h'.objs.size == sysModules) = false := beq_eq_false_iff_ne.mpr (Nat.ne_of_gt (Nat.lt_trans I1.big big))
  have noL : H1 h'.objs.size = none := I1.hok.fresh (Nat.le_of_lt big)
  have few : (mergeK [] (ks.zip vs2)).length ≤ sizeLine := by
    have h1 := length_mergeK (ks.zip vs2) []
    have h2 := Z.few
    rw [List.length_zip] at h1
    rw [List.length_map] at n1
    simp only [List.length_nil] at h1
    omega
  let H2 : Hp := upd H1 h'.objs.size (.frz o (.dK (mergeK [] (ks.zip vs2))))
  have old : ∀ b u, H1 b = some u → H2 b = some u := fun b u e => (upd_ne (ne_of_none e noL)).trans e
  have J : Inv X pins σ H2 { s1 with heap := h2, toks := tk } := by
    refine inv_grown I1 (fun b u there => ?_) old (fun b lt e => (upd_ne (Nat.ne_of_lt (Nat.lt_trans lt big))).trans e) (fun b u e e2 => ?_)
    · have lt := Heap.lt_size there
      refine kept b u (fun m => ?_) (Z.keep b u there)
      simp only [List.mem_cons, List.not_mem_nil, or_false] at m
      rcases m with e | e | e | e
      · exact Nat.ne_of_lt (Nat.lt_add_right _ lt) e
      · exact Nat.ne_of_lt (Nat.lt_add_right _ lt) e
      · exact Nat.ne_of_lt lt e
      · exact Nat.ne_of_lt (Nat.lt_add_right _ lt) e
    · by_cases c : b = h'.objs.size
      · subst c
        rw [show H2 h'.objs.size = _ from upd_same] at e2
        cases e2
        exact ⟨oAt, dk_new few notSys (KV.merge (kv_zip Z.val2) .nil) of_⟩
      · rw [show H2 b = H1 b from upd_ne c, e] at e2
        cases e2
  obtain ⟨m1_, m2_⟩ := merge_rep (F := newF F1 H1 H2) (vm := ks.zip vs2) (xm := ks.zip ys) (va := []) (xa := []) (zip_keys k2) (zip_vals (rep2.le newF_le)) rfl .nil
  exact ⟨.ref h'.objs.size, H2, J, rfl, kk _ _ _ _ _ q (l1.trans newF_le) (st1.many old) (.dic (newF_at st1 noL upd_same) m1_ m2_)⟩
end
end DL

/-! a class that a local name holds, defs with defaults, sorted dicts of tuples -/
namespace DL
open PySem PySem.Spec PyProof.Rows L2
section
variable {X : Cx} {G : CT} {W : WX} {hot grd : Bool} {k c i : Nat} {f : Addr} {fd : FuncData} {ps : List Str} {sp : DSp} {x : Str} {p pos : Pos} {e : Expr} {es : List Expr} {ta : DTA}
/-- c(..), the class in the i-th slot -/
def eMakeL (i : Nat) (c : Nat) (C : Addr) (flds : List Str) (sp : DSp) (ta : DTA) : DTE := fun x ds m Q => ds[i]? = some (some (.ref C)) ∧ ta x ds m fun xs m1 => mkD c flds sp xs m1 Q (x ds)
theorem de_makeL (slot : X.N[i]? = some x) (vis : Vis X.env.scope x) (Mm : Mk X.K (G c).addr f) (F : FnG hot grd X.prog X.w X.K X.mg X.base k f fd ps (spL G sp)) (hr : Rm hot grd (k + 1) X.A) (hb : Binds X.K fd ps []) (tk : Takes X W) (ha : DA X G W (e :: es) ta)
    (hdb : (x == ("__debug__" : Str)) = false := by decide) (hcd : (x == ("__classdict__" : Str)) = false := by decide) (he : starEach (e :: es) X.env = (false, eval e X.env) :: starEach es X.env := by rfl) (hpl : (backTo pos (starEach es X.env)).any (·.1) = false := by rfl) :
    DE X G W (.Call (.Name x p) (e :: es) [] pos) (eMakeL i c (G c).addr (G c).flds sp ta) := by
  constructor
  rintro pins s σ H Q I ⟨F0, R, m, ds, Q0, xx, st, sl, ⟨at_, h⟩, xk, kk⟩
  obtain ⟨v, hv, rv⟩ := sl.at_ i _ at_
  cases rv
  have named := (pe_var (X := X) (pos := p) slot vis hdb hcd).run pins s σ H (fun v H' => v = .ref (G c).addr ∧ H' = H) I ⟨_, hv, rfl, rfl⟩
  refine wpAny_Call_Name_kw (wpAny_mono named ?_ fun _ _ z => z)
  rintro u s0 ⟨_, H0, I0, ru, rfl, sameH⟩
  obtain rfl := sameH.symm
  cases (show u = Value.ref (G c).addr from ru)
  have args := ha.run pos pins s0 σ H (fun vs H1 => ∀ x dx, H1 x = none → H1 dx = none → dx ≠ x → spL G sp (.ref x :: vs) (upd (upd H1 dx (.own x)) x (.ins (G c).addr dx [])) (fun v H2 => v = .non ∧ Q (.ref x) H2) (fun cls d H' => W cls d σ H')) I0
    ⟨F0, R, m, ds, _, xx, st, sl, h, xk, fun xs m1 F1 vs H1 q l s1 r1 => mk_imp s1 r1 q (fun d m' F' v H' q' l' => kk d m' F' v H' q' (l.trans l')) fun c ys m' F' d H' q' l' s' xd => xk ds c ys m' F' σ d H' q' (l.trans l') s' (sl.le (l.trans l')) xd⟩
  refine PySem.W.callWith_K (h₀ := X.base) I0.ok.mod.kin Mm.kp (thn args fun us s1 ⟨vs, H1, I1, r, q⟩ => ⟨I1.kIn, ?_⟩) he hpl
  have full : (vs.length + 1) = ps.length := by
    have := F.len _ _ _ _ (q (s1.heap.objs.size + 1) s1.heap.objs.size (I1.hok.fresh (Nat.le_succ _)) (I1.hok.fresh (Nat.le_refl _)) (Nat.ne_of_lt (Nat.lt_succ_self _)))
    simpa using this
  have bound := Binds.kw hb
  rw [← full] at bound
  exact run_mk (ws := []) (zs := []) (ks := []) (ix := []) Mm F hr bound tk I1 r rfl .nil rfl (by intro x dx h1 h2 h3; simpa [pick] using q x dx h1 h2 h3)
end
end DL

/-! sorted(d), d a dict whose keys are pairs of texts -/
namespace DL
open PySem PySem.Spec PyProof.Rows L2
section
variable {G : CT} {F R H : Hp} {m : M}
/-- F, and all the tuples that stand in H -/
def tupF (F H : Hp) : Hp := fun b => match F b with
  | some o => some o
  | none => match H b with
    | some (.tup xs) => some (.tup xs)
    | _ => none
theorem tupF_at {b : Addr} {xs : List V} (st : Hst G F R H m) (e : H b = some (.tup xs)) : tupF F H b = some (.tup xs) := by
  unfold tupF
  cases f : F b with
  | some o =>
    have := st.fz b o f
    rw [e] at this
    exact this.symm
  | none => rw [e]
theorem tupF_le : Le F (tupF F H) := fun b o e => by unfold tupF; rw [e]
theorem tupF_out {b : Addr} {o : HO} (f : F b = none) (h : H b = some o) (no : ∀ xs, o ≠ .tup xs) : tupF F H b = none := by
  unfold tupF
  rw [f, h]
  cases o <;> first | rfl | exact absurd rfl (no _)
theorem held_noTup {b : Addr} : ∀ {o : MO}, Held G F H b o → ∃ u, H b = some u ∧ ∀ xs, u ≠ .tup xs
  | .lst _, ⟨_, h, _⟩ => ⟨_, h, fun _ z => nomatch z⟩
  | .dic _, ⟨_, h, _⟩ => ⟨_, h, fun _ z => nomatch z⟩
  | .tdc _, ⟨_, h, _⟩ => ⟨_, h, fun _ z => nomatch z⟩
  | .ob _ _, ⟨_, _, h, _⟩ => ⟨_, h, fun _ z => nomatch z⟩
  | .tbl _, ⟨_, h, _⟩ => ⟨_, h, fun _ z => nomatch z⟩
theorem Hst.tups (st : Hst G F R H m) : Hst G (tupF F H) R H m := by
  refine ⟨fun b o e => ?_, fun b o e => ?_, fun b o e => ?_, st.nt⟩
  · unfold tupF at e
    cases f : F b with
    | some u =>
      rw [f] at e
      exact st.fz b o (f.trans e)
    | none =>
      rw [f] at e
      cases h : H b with
      | none => rw [h] at e; cases e
      | some u =>
        rw [h] at e
        cases u <;> first | exact e | cases e
  · obtain ⟨h1, h2, h3⟩ := st.rs b o e
    exact ⟨h1, tupF_out h2 h1 (st.nt b o e), h3⟩
  · obtain ⟨h1, h2⟩ := st.mt b o e
    obtain ⟨u, hu, no⟩ := held_noTup h2
    exact ⟨tupF_out h1 hu no, h2.le tupF_le rfl⟩
end
abbrev S2 := Str × Str
def encS2 (p : S2) : PyData := .tuple [.str p.1, .str p.2]
def keyS2 (p : S2) : List Key := [.inr p.1, .inr p.2]
def tupS2 (p : S2) : D := .tup [.str p.1, .str p.2]
def sortS2 (ps : List S2) : List S2 := ps.mergeSort (PySem.W.dataLe false encS2)
def AtS2 (H : Hp) (v : Value) (p : S2) : Prop := ∃ b, v = .ref b ∧ H b = some (.tup [.str p.1, .str p.2])
theorem at_keys {H : Hp} : ∀ {kvs : List (List Key × V)} {xs : List (List Key × Addr × Value)} {ps : List S2}, KT H kvs xs → kvs.map (·.1) = ps.map keyS2 → PySem.W.EachIs (AtS2 H) (xs.map fun x => Value.ref x.2.1) ps
  | [], [], [], _, _ => .nil
  | _ :: _, _ :: _, p :: ps, .cons h t, e => by
    obtain ⟨e1, e2⟩ := List.cons.inj (show _ :: _ = keyS2 p :: ps.map keyS2 from e)
    refine .cons ⟨_, rfl, ?_⟩ (at_keys t e2)
    have := h.2.1
    rw [show (_ : List Key × V).1 = keyS2 p from e1] at this
    exact this
  | [], [], _ :: _, _, e => by simp at e
  | _ :: _, _ :: _, [], _, e => by simp at e
theorem keys_at_len {H : Hp} {kvs : List (List Key × V)} {xs : List (List Key × Addr × Value)} (h : KT H kvs xs) : kvs.length = xs.length := Paired.length h
theorem refs_of {H : Hp} : ∀ {vs : List Value} {ps : List S2}, PySem.W.EachIs (AtS2 H) vs ps → ∃ bs : List Addr, vs = bs.map Value.ref ∧ ∀ {G : CT} {F : Hp}, (∀ b xs, H b = some (.tup xs) → F b = some (.tup xs)) → Reps G F (bs.map V.ref) (ps.map tupS2)
  | _, _, .nil => ⟨[], rfl, fun _ => .nil⟩
  | _, _, .cons ⟨b, e, h⟩ t => by
    obtain ⟨bs, e2, k⟩ := refs_of t
    exact ⟨b :: bs, by rw [e, e2]; rfl, fun l => .cons (.tup (l _ _ h) (.cons (.str _) (.cons (.str _) .nil))) (k l)⟩
theorem reads_pair {P : Program} {w : World} {H : Hp} {h : Heap} (ok : HOk P w H h) {v : Value} {p : S2} (x : AtS2 H v p) : Reads h v (encS2 p) [] := by
  obtain ⟨b, rfl, e⟩ := x
  obtain ⟨_, its, r, o, h1, h2, n, h3⟩ := (show ObjOk P w H h b (.tup [.str p.1, .str p.2]) from ok b _ e)
  cases r with
  | cons r1 r =>
    cases r with
    | cons r2 r =>
      cases r
      obtain ⟨t1, rfl⟩ := (show ∃ t, _ = Value.str p.1 t from r1)
      obtain ⟨t2, rfl⟩ := (show ∃ t, _ = Value.str p.2 t from r2)
      have both : ReadsAll h [Value.str p.1 t1, Value.str p.2 t2] [PyData.str p.1, PyData.str p.2] ([] ++ ([] ++ [])) := .cons (.str _ _) (.cons (.str _ _) .nil)
      exact .tuple h1 h2 h3 both
theorem alike_S2 (p q : S2) : PySem.W.alike (encS2 p) (encS2 q) = true := by simp [encS2, PySem.W.alike, PySem.W.alikeAll]
/-- a dict's keys, drawn one by one -/
theorem keys_drawn {P : Program} {w : World} {α : Type} [DecidableEq α] {knd : HeapKind P w α} {es : Array DictEntry} {ks : List (α × Addr × Value)} {acc : Array Value} (he : es.toList = ks.map (entryOfKey knd)) (got : ItemsOf (fun i v => ∃ en : DictEntry, es[i]? = some en ∧ v = en.key) acc es.size) : acc.toList = ks.map fun x => Value.ref x.2.1 := by
  have size : es.size = ks.length := size_of_entries he
  refine List.ext_getElem (by rw [List.length_map, Array.length_toList, got.1, size]) fun j lt1 lt2 => ?_
  have at_ : acc[j]? = some acc.toList[j] := by rw [← Array.getElem?_toList]; exact List.getElem?_eq_getElem lt1
  obtain ⟨en, there, is⟩ := got.2 j _ at_
  have lt3 : j < ks.length := by simpa using lt2
  rw [entry_at he j, List.getElem?_eq_getElem lt3] at there
  rw [is, ← Option.some.inj there, List.getElem_map]
  rfl
section
variable {X : Cx}
/-- a new list of such pairs, put in order -/
theorem pairs_ordered {pins : List (Addr × Obj)} {σ : L2.St} {H : Hp} {s : Shared} {A : Around} {E : Value → Shared → Prop} {us : List Value} {ps : List S2} {Q : Value → Shared → Prop} (I : Inv X pins σ H s) (here : PySem.W.EachIs (AtS2 H) us ps) (few : ps.length ≤ sizeLine) (hu : A.units + 2 < cLine)
    (go : ∀ (bs : List Addr) (h2 : Heap), (∀ {G : CT} {F : Hp}, (∀ b xs, H b = some (.tup xs) → F b = some (.tup xs)) → Reps G F (bs.map V.ref) ((sortS2 ps).map tupS2)) → Inv X pins σ (upd H s.heap.objs.size (.lst (bs.map V.ref))) { s with heap := h2 } → Q .none { s with heap := h2 }) :
    wpAny (model X.prog X.w) A (call (.builtin "list.sort") [.ref s.heap.objs.size]) Q E { s with heap := s.heap.push (seqObj "list" us.toArray 0) } := by
  have top : (s.heap.push (seqObj "list" us.toArray 0)).get? s.heap.objs.size = some (seqObj "list" us.toArray 0) := Heap.get?_push_size _ rfl
  have kept : ∀ b o, s.heap.get? b = some o → (s.heap.push (seqObj "list" us.toArray 0)).get? b = some o := fun b o e => Heap.get?_push_of_some _ e
  refine PySem.W.list_sort_data (enc := encS2) (R := AtS2 H) (s := { s with heap := s.heap.push (seqObj "list" us.toArray 0) }) top here (here.mono fun v p x => ⟨[], reads_pair (I.kept (t' := s.toks) kept).hok x, by simp⟩)
    (PySem.W.AllAlike.of alike_S2) (PySem.W.Sortable.tuples fun p => ⟨_, _, rfl⟩) few (fun p _ => ?_) fun out len outs => ?_
  · rw [show (encS2 p).depth = 1 by simp [encS2, PyData.depth, PyData.depthAll]]
    omega
  · obtain ⟨bs, rfl, reps⟩ := refs_of outs
    obtain ⟨c, at_⟩ := PyProof.Rows.sortedHeap_at (out := (bs.map Value.ref).toArray) top
    refine go bs _ reps (I.laid (t' := s.toks) (fun b o e => ?_) (Nat.le_refl _) (show ObjOk X.prog X.w _ _ _ (.lst (bs.map V.ref)) from ⟨?_, _, c, vals_refs bs, at_⟩))
    · have lt := Heap.lt_size e
      rw [PyProof.Rows.sortedHeap_old (Nat.ne_of_lt lt) (by rw [size_push']; exact Nat.lt_succ_of_lt lt)]
      exact kept b o e
    · rw [List.length_map] at len
      rw [List.length_map, len]
      exact few
theorem call_sortT (calm : X.calm = true) (hu : X.A.units + 64 < cLine) : CallR X (.builtin "sorted") (fun xs H Q => ∃ (a : Addr) (kvs : List (List Key × V)) (ps : List S2), xs = [.ref a] ∧ H a = some (.dT kvs) ∧ kvs.map (·.1) = ps.map keyS2 ∧
    ∀ (bs : List Addr) p, (∀ {G : CT} {F : Hp}, (∀ b xs, H b = some (.tup xs) → F b = some (.tup xs)) → Reps G F (bs.map V.ref) ((sortS2 ps).map tupS2)) → H p = none → Q (.ref p) (upd H p (.lst (bs.map V.ref)))) := by
  rintro pins s σ H xs us Q I r ⟨d, kvs, ps, rfl, hd, keys, q⟩
  obtain ⟨u, rfl, rx⟩ := r.one
  cases rx
  obtain ⟨z, hs, ks, pr, o, es, ep, ho, hx, hdt, he, -⟩ := (show ObjOk X.prog X.w H s.heap d (.dT kvs) from I.hok d _ hd)
  have same := keys_at_len pr
  have few : es.size ≤ sizeLine := by rw [size_of_entries he, ← same]; exact z
  refine Calls.call_function_entry kind_sorted plain_sorted entry_sorted
    (args_sorted1 _) ?_
  unfold Builtin.«sorted»
  refine wpAny_bind (m := checkCount "sorted" 1 1 _) (wpAny_pure (wpAny_bind (PySem.W.kdu_collect (A := X.A.in1) (kdl_raw hs hx hdt) (I.ok.hd calm) ho few fun h' tk acc hk got => ?_)))
  have here := at_keys pr keys
  rw [← keys_drawn he got] at here
  have many : ps.length ≤ sizeLine := by rw [← here.length, Array.length_toList, got.1]; exact few
  have J : Inv X pins σ H { s with heap := h', toks := tk } := I.kept hk
  refine wpAny_bind (wpAny_newList ?_ (by rw [here.length]; exact many))
  refine wpAny_bind (wpAny_holding (pairs_ordered J here many (by rw [Around.in1_units]; omega) fun bs h2 reps J2 => ?_))
  exact wpAny_pure ⟨_, rfl, .ref h'.objs.size, _, J2, rfl, q bs _ reps (J.hok.fresh (Nat.le_refl _))⟩
end
section
variable {X : Cx} {G : CT}
def sortTD : DR := fun xs m Q => ∃ p kvs ps, xs = [.ref p] ∧ m p = some (.tdc kvs) ∧ kvs.map (·.1) = ps.map keyS2 ∧ Q (.lst ((sortS2 ps).map tupS2)) m
theorem cd_sortT (calm : X.calm = true) (hu : X.A.units + 64 < cLine) : CallD X G (.builtin "sorted") sortTD := CallR.imp (call_sortT calm hu) fun vs H Q hh => by
  obtain ⟨F, R, m, xs, Q0, st, r, ⟨p, kvs, ps, rfl, hm, keys, h⟩, kk⟩ := hh
  cases r with
  | cons r rr =>
    cases rr
    cases r
    obtain ⟨_, vs, hv, ee, rr⟩ := st.mt p _ hm
    refine ⟨p, vs, ps, rfl, hv, ee.trans keys, fun bs x reps free => ?_⟩
    have l2 := le_upd (o := HO.lst (bs.map V.ref)) (st.tups.fnone free)
    exact kk _ m _ _ _ h (tupF_le.trans l2) (st.tups.new free) (.lst upd_same ((reps fun b xs e => tupF_at st e).le l2))
end
end DL

/-! defs with defaults; globals that are texts or numbers; objects that are let go -/
namespace DL
open PySem PySem.Spec PyProof.Rows L2 ClX
section
variable {hot grd : Bool} {P : Program} {w : World} {K : PySem.W.Frag} {mg : Str → Option Value} {base : Heap}
/-- a def that has defaults -/
abbrev DefD (K : PySem.W.Frag) (x qual : Str) (st : Stmt) (dvs : List V) (f : Addr) (fd : FuncData) : Prop := FunD K x qual (defArgs st) (defBody st) (defScope st) dvs [] f fd
theorem fn_okD {x qual : Str} {st : Stmt} {dvs : List V} {f : Addr} {fd : FuncData} {N ps : List Str} {k : Nat} {G : CT} {sp : DSp} (F : DefD K x qual st dvs f fd) (S : FnScope N ps (defScope st)) (hlen : ∀ xs m Q x, sp xs m Q x → xs.length = ps.length)
    (hbody : ∀ (cdv : Value) (A : Around) (outer : List Env) (s : Shared) (H : Hp) (E : XK) (xs : List D) (m : M) (Q : DK) (x : DX), Rm hot grd k (A.deeper (envOfC qual (defScope st) s.heap.objs.size f cdv)) → sp xs m Q x →
      ∃ t, DSs (cxG hot P w K mg base N qual (defScope st) f cdv A outer s H E) G (fun cls d _ H' => E cls d H') (defBody st) t ∧ t { nx := fun _ m' => Q .non m', rt := Q, ex := fun _ => x } (startD N xs) m) : FnG hot grd P w K mg base (k + 1) f fd ps (spL G sp) :=
  let ⟨_, _, _, _, _, _, _, cdv, _, _, hfd, lk, hcd, _, _⟩ := F.ex
  fn_coreG hfd lk hcd S hlen (hbody cdv)
theorem def_mk {x qual : Str} {st : Stmt} {f T : Addr} {oc : Value} {od an : Option Addr} {osl : Array (Option Value)} {kV doc pm cdv ct : Value} {dvs : List V} {o : Obj} {its : List Value} {n : Nat} (l : K.lookup f = some ⟨oc, od, .func (PySem.W.fnOf x qual (defArgs st) (defBody st) (defScope st) (.ref T) kV doc pm an cdv ct), osl⟩)
    (c : PySem.W.codeIn K cdv qual = true) (k : PySem.W.keepIn K (.ref f) = true) (lT : K.lookup T = some o) (oT : o.data = .seq its.toArray n) (r : Vals dvs its) (some_ : dvs ≠ []) :
    DefD K x qual st dvs f (PySem.W.fnOf x qual (defArgs st) (defBody st) (defScope st) (.ref T) kV doc pm an cdv ct) :=
  ⟨⟨oc, od, .ref T, kV, doc, pm, an, cdv, ct, osl, rfl, l, c, .inr ⟨some_, T, o, its, n, rfl, lT, oT, r⟩, .inl rfl⟩, k⟩
/-- all parameters are given -/
theorem given_all {x qual : Str} {st : Stmt} {dvs : List V} {f : Addr} {fd : FuncData} {ps : List Str} (F : DefD K x qual st dvs f fd) (some_ : dvs ≠ [])
    (h : ∀ (T : Addr) (kV doc pm : Value) (an : Option Addr) (cdv ct : Value) (us its : List Value), us.length = ps.length → its.length = dvs.length →
      ∃ k, bindArgs (PySem.W.fnOf x qual (defArgs st) (defBody st) (defScope st) (.ref T) kV doc pm an cdv ct) ⟨us, []⟩ = seqItems? (.ref T) >>= k ∧ k (some its.toArray) = pure (ps.zip us)) : Binds K fd ps [] := by
  obtain ⟨ds, r, b⟩ := FunD.binds1 (ps := ps) F ps.length dvs.length some_ (by simp) fun T kV doc pm an cdv ct us its h1 h2 => by
    obtain ⟨k, e1, e2⟩ := h T kV doc pm an cdv ct us its h1 h2
    refine ⟨k, e1, ?_⟩
    rw [← h2, List.drop_length, List.append_nil]
    exact e2
  rw [List.drop_length] at r
  cases r
  exact b
end
section
variable {X : Cx} {G : CT} {W : WX} {e : Expr} {te : DTE}
theorem _root_.DL.Rm.u1 {hot grd : Bool} {k : Nat} {A : Around} (r : Rm hot grd k A) : A.units + 1 < cLine := by have h := r.u64; omega
/-- a global that is a text -/
theorem de_globS {x y : Str} {pos : Pos} (hm : ∃ t, X.mg x = some (.str y t)) (hg : Gl X x) (hdb : (x == ("__debug__" : Str)) = false := by decide) : DE X G W (.Name x pos) (fun _ _ m Q => Q (.str y) m) := by
  obtain ⟨t, e⟩ := hm
  exact de_c (pe_glob (v := .str y) hg e ⟨t, rfl⟩ hdb) (fun _ => .str _)
/-- .. a number -/
theorem de_globI {x : Str} {i : Int} {pos : Pos} (hm : ∃ t, X.mg x = some (.int i t)) (hg : Gl X x) (hdb : (x == ("__debug__" : Str)) = false := by decide) : DE X G W (.Name x pos) (fun _ _ m Q => Q (.int i) m) := by
  obtain ⟨t, e⟩ := hm
  exact de_c (pe_glob (v := .int i) hg e ⟨t, rfl⟩ hdb) (fun _ => .int _)
/-- a constant of a class -/
theorem de_cvalE {C : Addr} {mc : Value} {f : Str} {v : V} {d : D} {x : Str} {p pos : Pos} (r : CRead X.K C mc) (k : ∃ u, CVal X.K C mc f v u) (hg : Gl X x) (hm : X.mg x = some (.ref C)) (rep : ∀ F, Rep G F v d) (hdb : (x == ("__debug__" : Str)) = false := by decide)
    (hb : attributeBase (.Name x p) f X.env (eval (.Name x p) X.env) = eval (.Name x p) X.env := by rfl) : DE X G W (.Attribute (.Name x p) f pos) (fun _ _ m Q => Q d m) :=
  let ⟨_, k⟩ := k
  de_cval r k hg hm rep hdb hb
/-- what the i-th slot holds is let go behind e -/
def eGone (i : Nat) (te : DTE) : DTE := fun x ds m Q => te x ds m fun d m1 => ∃ p, ds[i]? = some (some (.ref p)) ∧ Q d (mdel m1 p)
theorem de_gone (i : Nat) (h : DE X G W e te) : DE X G W e (eGone i te) := h.imp fun σ H Q ⟨F, R, m, ds, Q0, x, st, sl, t, xk, kk⟩ =>
  ⟨F, R, m, ds, _, x, st, sl, t, xk, fun d m1 F1 v H1 ⟨p, _, q⟩ l s1 r => kk d _ F1 v H1 q l (s1.drop p) r⟩
end
end DL
namespace DL
open PySem PySem.Spec PyProof.Rows L2
section
variable {X : Cx} {G : CT} {W : WX} {a b e : Expr} {ta tb tc : DTE} {pos : Pos}
/-- a op1 b op2 c as a test -/
theorem dt_chain {op op' : CmpOp} {r r' : DR2} (ho : OpD X G (compareOp op) r) (ho' : OpD X G (compareOp op') r') (ha : DE X G W a ta) (hb : DE X G W b tb) (hc : DE X G W e tc)
    (hm : lastMarks [op, op'] [b, e] = false := by with_unfolding_all rfl) : DT X G W (.Compare a [op, op'] [b, e] pos) (DL.tB (eChain r r' ta tb tc)) := (pt_chain ho ho' ha hb hc hm).imp fun σ H Q ⟨F, R, m, ds, Q0, x, st, sl, h, xk, kk⟩ => by
  refine ⟨F, R, m, ds, _, x, st, sl, h, xk, fun p m1 F1 v H1 h1 l1 s1 r1 => ?_⟩
  refine ⟨F1, R, m1, ds, _, x, s1, sl.le l1, h1, xk.le l1, fun q m2 F2 u H2 h2 l2 s2 r2 => ?_⟩
  refine ⟨F2, R, m2, p, q, _, s2, r1.le l2, r2, h2, fun d m3 F3 v3 H3 ⟨b, e, h3⟩ l3 s3 r3 => ?_⟩
  subst e
  cases r3
  refine ⟨b, rfl, ?_⟩
  cases b with
  | false =>
    obtain ⟨k, e, q⟩ := h3
    cases e
    exact ⟨false, rfl, kk _ _ _ _ q ((l1.trans l2).trans l3) s3⟩
  | true =>
    refine ⟨F3, R, m3, ds, _, x, s3, sl.le ((l1.trans l2).trans l3), h3, xk.le ((l1.trans l2).trans l3), fun y m4 F4 w4 H4 h4 l4 s4 r4 => ?_⟩
    refine ⟨F4, R, m4, q, y, _, s4, r2.le (l3.trans l4), r4, h4, fun d m' F' v' H' ⟨k, e, hq⟩ l st' rp => ?_⟩
    subst e
    cases rp
    exact ⟨k, rfl, kk k m' F' H' hq ((((l1.trans l2).trans l3).trans l4).trans l) st'⟩
end
end DL

/-! the head by one run: what the top leaves, told by truths over a part of the heap -/
namespace DH
open PySem PySem.W PySem.Spec PyProof.Rows L2 He He5
/-! ### the part of the heap that is looked at: no empty tables, no lists -/
def notList (q : Addr × Obj) : Bool := !(q.2.cls == Value.type "list")
def part (g : Addr → Option Obj) (n : List Addr) : Frag := (frT g n).filter notList
theorem find_less {p : Addr × Obj → Bool} {a : Addr} : ∀ {l : List (Addr × Obj)} {o : Obj}, (a, o) ∈ l.filter p → (a, o) ∈ l := fun h => (List.mem_filter.mp h).1
theorem mem_look {a : Addr} {o : Obj} : ∀ {l : List (Addr × Obj)}, l.lookup a = some o → (a, o) ∈ l := lookup_mem
theorem look_none {a : Addr} : ∀ {l : List (Addr × Obj)}, l.lookup a = none → ∀ o, (a, o) ∉ l
  | [], _, o => by simp
  | (b, u) :: r, h, o => by
    rw [List.lookup_cons] at h
    cases e : a == b with
    | true => rw [e] at h; cases h
    | false =>
      rw [e] at h
      have ih := look_none (l := r) h o
      intro m
      rcases List.mem_cons.mp m with z | z
      · cases z
        simp at e
      · exact ih z
theorem none_look {a : Addr} : ∀ {l : List (Addr × Obj)}, (∀ o, (a, o) ∉ l) → l.lookup a = none
  | [], _ => rfl
  | (b, u) :: r, h => by
    rw [List.lookup_cons]
    cases e : a == b with
    | true =>
      have : a = b := beq_iff_eq.mp e
      subst this
      exact absurd (List.mem_cons_self ..) (h u)
    | false => exact none_look fun o m => h o (List.mem_cons_of_mem _ m)
theorem part_in {h : Heap} {n : List Addr} : (part h.get? n).In h := fun a o e => (frT_in : (frT h.get? n).In h) a o (by
  have m := find_less (mem_look (show ((frT h.get? n).filter notList).lookup a = some o from e))
  unfold frT at m
  have g := frG_mem (find_less m)
  cases q : (frT h.get? n).lookup a with
  | some u =>
    have e2 := (frT_mem (g := h.get?) q).1
    have e3 : h.get? a = some o := g
    rw [e3] at e2
    exact e2.symm ▸ rfl
  | none => exact absurd (show (a, o) ∈ frT h.get? n from m) (look_none q o))
theorem part_noLists {g : Addr → Option Obj} {n : List Addr} : DL.noLists (part g n) = true := by
  unfold DL.noLists part
  rw [List.all_eq_true]
  intro q m
  exact (List.mem_filter.mp m).2
theorem part_none {g : Addr → Option Obj} {n : List Addr} {a : Addr} {o : Obj} (h : g a = some o) (e : emptyTab o = true) : (part g n).lookup a = none := by
  refine none_look fun u m => ?_
  have m2 := find_less m
  exact look_none (frT_none (as := n) h e) u m2
/-! ### what is told -/
/-- where a def's code object and its table stand -/
abbrev Mk2 : Type := Frag → Addr × Addr
def tabB (g : Addr → Option Obj) (K : Frag) (f : Mk2) : Bool := codeHdIn K (f K).1 (f K).2 && (match g (f K).2 with
  | some o => emptyTab o
  | none => false)
structure Says (fn : List DefA) (tf : List Mk2) (ex : Frag → Bool) (h : Heap) (K : Frag) : Prop where
  nol : DL.noLists K = true
  fns : fn.map (fun d => fnA K (d.at_ K)) = fn.map DefA.val
  oks : ∀ d ∈ fn, d.ok K = true
  more : ex K = true
  hd : ∀ f ∈ tf, codeHdIn K (f K).1 (f K).2 = true
  out : ∀ f ∈ tf, K.lookup (f K).2 = none
  empty : ∀ f ∈ tf, h.get? (f K).2 = some { cls := .none, data := .fields #[] }
def obsK (fn : List DefA) (tf : List Mk2) (ex : Frag → Bool) (g : Addr → Option Obj) (K : Frag) : AlD := ((ex K && fn.all fun d => d.ok K) && tf.all fun f => tabB g K f, fn.map fun d => fnA K (d.at_ K))
def obs (n : List Addr) (fn : List DefA) (tf : List Mk2) (ex : Frag → Bool) (g : Addr → Option Obj) : AlD := obsK fn tf ex g (part g n)
theorem says_of {n : List Addr} {fn : List DefA} {tf : List Mk2} {ex : Frag → Bool} {h : Heap} (e : obs n fn tf ex h.get? = valA fn) : Says fn tf ex h (part h.get? n) := by
  have e1 : ((ex (part h.get? n) && fn.all fun d => d.ok (part h.get? n)) && tf.all fun f => tabB h.get? (part h.get? n) f) = true := congrArg (fun z : AlD => z.1) e
  have e2 : fn.map (fun d => fnA (part h.get? n) (d.at_ (part h.get? n))) = fn.map DefA.val := congrArg (fun z : AlD => z.2) e
  obtain ⟨e3, e4⟩ := ba e1
  obtain ⟨e5, e6⟩ := ba e3
  have key : ∀ f ∈ tf, codeHdIn (part h.get? n) (f (part h.get? n)).1 (f (part h.get? n)).2 = true ∧ ∃ o, h.get? (f (part h.get? n)).2 = some o ∧ emptyTab o = true := fun f m => by
    obtain ⟨k1, k2⟩ := ba (List.all_eq_true.mp e4 f m)
    refine ⟨k1, ?_⟩
    cases q : h.get? (f (part h.get? n)).2 with
    | none => rw [q] at k2; cases k2
    | some o => rw [q] at k2; exact ⟨o, rfl, k2⟩
  exact ⟨part_noLists, e2, fun d m => List.all_eq_true.mp e6 d m, e5, fun f m => (key f m).1, fun f m => by
    obtain ⟨_, o, q, z⟩ := key f m
    exact part_none q z, fun f m => by
    obtain ⟨_, o, q, z⟩ := key f m
    rw [q, emptyTab_eq z]⟩
def hook (n : List Addr) (fn : List DefA) (tf : List Mk2) (ex : Frag → Bool) : Hook where
  α := AlD
  obs := fun s => obs n fn tf ex s.heap.get?
  val := fun _ => valA fn
  says := fun _ h => ∃ K : Frag, K.In h ∧ Says fn tf ex h K
  of := fun _ _ e => ⟨_, part_in, says_of e⟩
  keeps := fun _ _ _ ⟨K, inH, c⟩ k => ⟨K, Frag.In.keeps inH k, ⟨c.nol, c.fns, c.oks, c.more, c.hd, c.out, fun f m => k _ _ (c.empty f m)⟩⟩
theorem obs_eq {n : List Addr} {fn : List DefA} {tf : List Mk2} {ex : Frag → Bool} {g : Addr → Option Obj} {s : Shared} (h : ∀ a, g a = s.heap.get? a) : obs n fn tf ex g = (hook n fn tf ex).obs s := by
  have e : g = s.heap.get? := funext h
  rw [e] <;> rfl
section
variable {fn : List DefA} {tf : List Mk2} {ex : Frag → Bool} {K : Frag} {h : Heap}
theorem Says.def_ (c : Says fn tf ex h K) (i : Nat) {d : DefA} (e : fn[i]? = some d := by rfl) : ∃ fd, L2.FunD K d.name d.qual d.params d.body d.scope (d.dvs K) (d.kws K) (d.at_ K) fd := by
  have e2 : (fn.map fun d => fnA K (d.at_ K))[i]? = (fn.map DefA.val)[i]? := by rw [c.fns]
  rw [List.getElem?_map, List.getElem?_map, e] at e2
  exact DefA.funD (Option.some.inj e2) (c.oks d (List.mem_of_getElem? e))
end
/-! ### truths about K -/
def recB (K : Frag) (p : Addr) (T : String) (f : Addr) : Bool := match recIn K p T with
  | some (.ref g :: _) => decide (g = f)
  | _ => false
theorem recB_ok {K : Frag} {p f : Addr} {T : String} (h : recB K p T f = true) : ∃ r, recIn K p T = some (.ref f :: r) := by
  unfold recB at h
  split at h
  · rename_i g r e
    rw [e, of_decide_eq_true h]
    exact ⟨r, rfl⟩
  · cases h
def rf (K : Frag) (p : Addr) (T : String) : Addr := match recIn K p T with
  | some (.ref f :: _) => f
  | _ => 0
def getB (K : Frag) (C : Addr) (m : Str) (id : String) (p : Addr) : Bool := match findCls K (.ref C) (.type "type") m with
  | some (.get (.builtin g) (.ref p') .none (.ref D)) => decide (g = id) && (decide (p' = p) && decide (D = C))
  | _ => false
theorem getB_ok {K : Frag} {C p : Addr} {m : Str} {id : String} (h : getB K C m id p = true) : findCls K (.ref C) (.type "type") m = some (.get (.builtin id) (.ref p) .none (.ref C)) := by
  unfold getB at h
  split at h
  · rename_i g p' D e
    obtain ⟨k1, k⟩ := ba h
    obtain ⟨k2, k3⟩ := ba k
    rw [e, of_decide_eq_true k1, of_decide_eq_true k2, of_decide_eq_true k3]
  · cases h
def cvB (K : Frag) (C : Addr) (m : Str) (i : Int) : Bool := match findCls K (.ref C) (.type "type") m with
  | some (.val (.int j _)) => decide (j = i)
  | _ => false
theorem cvB_ok {K : Frag} {C : Addr} {m : Str} {i : Int} (h : cvB K C m i = true) : ∃ t, findCls K (.ref C) (.type "type") m = some (.val (.int i t)) := by
  unfold cvB at h
  split at h
  · rename_i j t e
    rw [e, of_decide_eq_true h]
    exact ⟨t, rfl⟩
  · cases h
def refB (K : Frag) (C : Addr) (m : Str) : Bool := match findIn K (.ref C) m with
  | some (some (.ref _)) => true
  | _ => false
theorem refB_ok {K : Frag} {C : Addr} {m : Str} (h : refB K C m = true) : ∃ g, findIn K (.ref C) m = some (some (.ref g)) := by
  unfold refB at h
  split at h
  · rename_i g e
    exact ⟨g, e⟩
  · cases h
theorem some_ok {α : Type} {o : Option α} (h : o.isSome = true) : ∃ x, o = some x := Option.isSome_iff_exists.mp h
/-- an exception class of the program -/
def excB (K : Frag) (C : Addr) (id : String) (T : List Value) : Bool := match K.lookup C with
  | some ⟨.type "type", _, .cls cd, sl⟩ => (match cd.mro, sl.toList with
    | .ref C' :: bm, [_, _, _, _, some (.builtin n), _] => decide (C' = C) && (decide (n = id) && (cd.hasDict && (!cd.hasDel && DLX.refsG T bm)))
    | _, _ => false)
  | _ => false
theorem excB_ok {K : Frag} {C : Addr} {id : String} {T : List Value} (h : excB K C id T = true) : ∃ nm q N bs bm sn sub ab col dd k0 k1 k2 k3 k5, K.lookup C = some (excClassObj nm q C N bs bm true sn sub ab col dd k0 k1 k2 k3 k5 id) ∧ DLX.refsG T bm = true := by
  unfold excB at h
  split at h
  · rename_i dd cd sl e
    split at h
    · rename_i C' bm k0 k1 k2 k3 n k5 e1 e2
      obtain ⟨h1, h⟩ := ba h
      obtain ⟨h2, h⟩ := ba h
      obtain ⟨h3, h⟩ := ba h
      obtain ⟨h4, h5⟩ := ba h
      have e3 : sl = #[k0, k1, k2, k3, some (.builtin n), k5] := by
        cases sl
        exact congrArg Array.mk e2
      have e4 := of_decide_eq_true h1
      have e5 := of_decide_eq_true h2
      subst e4 e5 e3
      obtain ⟨nm, bs, mro, ns, qn, hdct, sn, sub, ab, col, del⟩ := cd
      simp only at e1 h3 h4
      subst e1 h3
      have h4 : del = false := by cases del <;> first | rfl | cases h4
      subst h4
      exact ⟨nm, qn, ns, bs, bm, sn, sub, ab, col, dd, k0, k1, k2, k3, k5, e, h5⟩
    · cases h
  · cases h
/-! ### defs -/
section
variable {K : Frag} {x qual : Str} {st : Stmt} {f : Addr} {fd : FuncData}
theorem fun_ (F : FunD K x qual (L2.defArgs st) (L2.defBody st) (L2.defScope st) [] [] f fd) : L2.Fun K x qual st f fd := fun_of F
theorem star0 {v : Str} (F : L2.Fun K x qual st f fd) (h : ∀ (kV doc pm : Value) (an : Option Addr) (cdv ct : Value) (rest : List Value), bindArgs (fnOf x qual (L2.defArgs st) (L2.defBody st) (L2.defScope st) .none kV doc pm an cdv ct) ⟨rest, []⟩ = (newTuple rest >>= fun t => pure [(v, t)])) :
    ∀ rest : List Value, bindArgs fd ⟨rest, []⟩ = (newTuple rest >>= fun t => pure [(v, t)]) := by
  obtain ⟨oc, od, kV, doc, pm, an, cdv, ct, osl, rfl, _, _⟩ := F.ex
  exact h kV doc pm an cdv ct
theorem star1 {u v : Str} (F : L2.Fun K x qual st f fd) (h : ∀ (kV doc pm : Value) (an : Option Addr) (cdv ct : Value) (y : Value) (rest : List Value), bindArgs (fnOf x qual (L2.defArgs st) (L2.defBody st) (L2.defScope st) .none kV doc pm an cdv ct) ⟨y :: rest, []⟩ = (newTuple rest >>= fun t => pure [(u, y), (v, t)])) :
    ∀ (y : Value) (rest : List Value), bindArgs fd ⟨y :: rest, []⟩ = (newTuple rest >>= fun t => pure [(u, y), (v, t)]) := by
  obtain ⟨oc, od, kV, doc, pm, an, cdv, ct, osl, rfl, _, _⟩ := F.ex
  exact h kV doc pm an cdv ct
theorem kwb {ps ks : List Str} {n : Nat} {ix : List Nat} (F : L2.Fun K x qual st f fd) (h : ∀ (kV doc pm : Value) (an : Option Addr) (cdv ct : Value) (us ws : List Value), us.length = n → ws.length = ks.length → bindArgs (fnOf x qual (L2.defArgs st) (L2.defBody st) (L2.defScope st) .none kV doc pm an cdv ct) ⟨us, ks.zip ws⟩ = pure (ps.zip (us ++ DL.pick ix ws))) : DL.KwB K fd ps n ks ix := by
  obtain ⟨oc, od, kV, doc, pm, an, cdv, ct, osl, rfl, _, _⟩ := F.ex
  exact ⟨fun s us ws _ h1 h2 => .of_eq (h kV doc pm an cdv ct us ws h1 h2)⟩
/-- a def that makes lambdas: its code object -/
theorem made {p : Str × Option Str} (F : L2.Fun K x qual st f fd) (e : fAd K p = f) : DL.FunC K x qual st f fd (codeOf K p) := by
  obtain ⟨oc, od, kV, doc, pm, an, cdv, ct, osl, rfl, lk, hcd⟩ := F.ex
  obtain ⟨c, rfl⟩ := codeIn_ref hcd
  have e2 : codeOf K p = c := codeOf_eq (e ▸ lk) rfl
  rw [e2]
  exact ⟨⟨oc, od, kV, doc, pm, an, ct, osl, rfl, lk, hcd⟩, F.kp⟩
end
/-! ### the end -/
theorem walk {l : OpenLaw} {n k : Nat} {m0 : List Addr} {q : Program} {loose : List Str} {XP : (Str → Option Value) → Heap → Prop} {fn : List DefA} {tf : List Mk2} {ex : Frag → Bool} {d : DefRec} {x : Str}
    (hn : l.most = some n) (hn2 : n ≤ sizeLine) (hdf : d.params.defaults = []) (hr : L2H.RoomH k callerA)
    (F : ∀ (w : World) (mg : Str → Option Value) (fa : Addr) (h : Heap) (K : Frag), K.In h → h.Ns mainGlobals mg → mg d.name = some (.ref fa) → Says fn tf ex h K →
      ∃ (fd : FuncData) (G : DL.CT) (sp : DL.DSp) (cs : List (Addr × Addr × Str)), (∀ (s : Shared) (u : Value), BindsTo s fd ⟨[u], []⟩ [(x, u)]) ∧ (∀ p ∈ cs, ∃ f ∈ tf, (p.1, p.2.1) = f K) ∧ (∀ p ∈ cs, ∀ q ∈ cs, p.2.1 = q.2.1 → p.2.2 = q.2.2) ∧
        (∀ (m : DL.M) (ns : List Int), (∀ p ∈ cs, m p.2.1 = some (.tbl p.2.2)) → ns.length ≤ n → (∀ z ∈ ns, Builtin.Int.intBits z ≤ 1048576) → sp [.scr (ns.map DL.D.int)] m (fun d _ => d = .bl true) fun _ _ _ => False) ∧
        ∀ base : Heap, K.In base → base.Ns mainGlobals mg → (∀ p ∈ cs, LamX.TabB base mg p.1 p.2.1) → DL.FnG false true l.prog w K mg base k fa fd [x] (DL.spL G sp)) :
    WalkO q loose XP (hook m0 fn tf ex).says l.row.toRowW d [] (fun f vs => PySem.call f vs) := by
  refine Att.attach_callB hn hdf fun w s₀ s₁ mg mb fa o pm cd doc a vs ns g Y ho hd hcd hmg hobj hints hlen hbits hgen => ?_
  obtain ⟨K, KX, c⟩ := Y
  obtain ⟨fd, G, sp, cs, hb, tabs, one, hsp, hF⟩ := F w mg fa _ K KX g.T.g hmg c
  have at_ : ∀ p ∈ cs, CodeHd s₁.heap p.1 p.2.1 ∧ s₁.heap.get? p.2.1 = some { cls := .none, data := .fields #[] } ∧ K.lookup p.2.1 = none := fun p m => by
    obtain ⟨f, hf, e⟩ := tabs p m
    have e1 : p.1 = (f K).1 := congrArg (fun z => z.1) e
    have e2 : p.2.1 = (f K).2 := congrArg (fun z => z.2) e
    rw [e1, e2]
    exact ⟨codeHd_of_K KX (c.hd f hf), c.empty f hf, c.out f hf⟩
  exact DL.callTG KX g.T.g g.T.b g.T.builtins g.T.nolimit hgen g.T.bmain hobj hints (Nat.le_trans hlen hn2) hr c.nol (fun p m => (at_ p m).2.2) (fun p m => ⟨(at_ p m).1, (at_ p m).2.1⟩) one hF hb fun m hm => hsp m ns hm hlen hbits
end DH

namespace LawK
open PySem PySem.Spec PyProof.Rows L2 LamX ClX DL
def top (i : Nat) : Stmt := PySem.Challenge.pw_abreast_k12_spans_refused.main.body.getD i (.Pass ⟨0, 0, 0, 0⟩)
abbrev s_is_integer : Stmt := (top 20)
def N_is_integer : List Str := ["value"]
theorem sc_is_integer : FnScope ["value"] ["value"] (defScope s_is_integer) := ⟨rfl, rfl, rfl, by decide +kernel, rfl, by decide +kernel, by decide +kernel⟩
abbrev s_InvalidLevel___init__ : Stmt := (inClass (top 3) 0)
def N_InvalidLevel___init__ : List Str := ["self", "value"]
theorem sc_InvalidLevel___init__ : FnScope ["self", "value"] ["self", "value"] (defScope s_InvalidLevel___init__) := ⟨rfl, rfl, rfl, by decide +kernel, rfl, by decide +kernel, by decide +kernel⟩
abbrev s_InvalidSpan___init__ : Stmt := (inClass (top 4) 0)
def N_InvalidSpan___init__ : List Str := ["self", "value"]
theorem sc_InvalidSpan___init__ : FnScope ["self", "value"] ["self", "value"] (defScope s_InvalidSpan___init__) := ⟨rfl, rfl, rfl, by decide +kernel, rfl, by decide +kernel, by decide +kernel⟩
abbrev s_EmptySpan___init__ : Stmt := (inClass (top 5) 0)
def N_EmptySpan___init__ : List Str := ["self", "least", "greatest"]
theorem sc_EmptySpan___init__ : FnScope ["self", "least", "greatest"] ["self", "least", "greatest"] (defScope s_EmptySpan___init__) := ⟨rfl, rfl, rfl, by decide +kernel, rfl, by decide +kernel, by decide +kernel⟩
abbrev s_Apart___init__ : Stmt := (inClass (top 12) 0)
def N_Apart___init__ : List Str := ["self", "one", "other"]
theorem sc_Apart___init__ : FnScope ["self", "one", "other"] ["self", "one", "other"] (defScope s_Apart___init__) := ⟨rfl, rfl, rfl, by decide +kernel, rfl, by decide +kernel, by decide +kernel⟩
abbrev s_want_level : Stmt := (top 23)
def N_want_level : List Str := ["value"]
theorem sc_want_level : FnScope ["value"] ["value"] (defScope s_want_level) := ⟨rfl, rfl, rfl, by decide +kernel, rfl, by decide +kernel, by decide +kernel⟩
abbrev s_want_span : Stmt := (top 26)
def N_want_span : List Str := ["value"]
theorem sc_want_span : FnScope ["value"] ["value"] (defScope s_want_span) := ⟨rfl, rfl, rfl, by decide +kernel, rfl, by decide +kernel, by decide +kernel⟩
abbrev s_Span___init__ : Stmt := (inClass (top 25) 0)
def N_Span___init__ : List Str := ["self", "low", "high"]
theorem sc_Span___init__ : FnScope ["self", "low", "high"] ["self", "low", "high"] (defScope s_Span___init__) := ⟨rfl, rfl, rfl, by decide +kernel, rfl, by decide +kernel, by decide +kernel⟩
abbrev s_Span_around : Stmt := (inClass (top 25) 1)
def N_Span_around : List Str := ["numbers", "number"]
theorem sc_Span_around : FnScope ["numbers", "number"] ["numbers"] (defScope s_Span_around) := ⟨rfl, rfl, rfl, by decide +kernel, rfl, by decide +kernel, by decide +kernel⟩
abbrev s_Span_low : Stmt := (inClass (top 25) 2)
def N_Span_low : List Str := ["self"]
theorem sc_Span_low : FnScope ["self"] ["self"] (defScope s_Span_low) := ⟨rfl, rfl, rfl, by decide +kernel, rfl, by decide +kernel, by decide +kernel⟩
abbrev s_Span_high : Stmt := (inClass (top 25) 3)
def N_Span_high : List Str := ["self"]
theorem sc_Span_high : FnScope ["self"] ["self"] (defScope s_Span_high) := ⟨rfl, rfl, rfl, by decide +kernel, rfl, by decide +kernel, by decide +kernel⟩
abbrev s_Span_is_within : Stmt := (inClass (top 25) 5)
def N_Span_is_within : List Str := ["self", "other"]
theorem sc_Span_is_within : FnScope ["self", "other"] ["self", "other"] (defScope s_Span_is_within) := ⟨rfl, rfl, rfl, by decide +kernel, rfl, by decide +kernel, by decide +kernel⟩
abbrev s_Span___and__ : Stmt := (inClass (top 25) 7)
def N_Span___and__ : List Str := ["self", "other"]
theorem sc_Span___and__ : FnScope ["self", "other"] ["self", "other"] (defScope s_Span___and__) := ⟨rfl, rfl, rfl, by decide +kernel, rfl, by decide +kernel, by decide +kernel⟩
abbrev s_Span___or__ : Stmt := (inClass (top 25) 8)
def N_Span___or__ : List Str := ["self", "other"]
theorem sc_Span___or__ : FnScope ["self", "other"] ["self", "other"] (defScope s_Span___or__) := ⟨rfl, rfl, rfl, by decide +kernel, rfl, by decide +kernel, by decide +kernel⟩
abbrev s_Span___add__ : Stmt := (inClass (top 25) 9)
def N_Span___add__ : List Str := ["self", "number"]
theorem sc_Span___add__ : FnScope ["self", "number"] ["self", "number"] (defScope s_Span___add__) := ⟨rfl, rfl, rfl, by decide +kernel, rfl, by decide +kernel, by decide +kernel⟩
abbrev s_Span___radd__ : Stmt := (inClass (top 25) 10)
def N_Span___radd__ : List Str := ["self", "number"]
theorem sc_Span___radd__ : FnScope ["self", "number"] ["self", "number"] (defScope s_Span___radd__) := ⟨rfl, rfl, rfl, by decide +kernel, rfl, by decide +kernel, by decide +kernel⟩
abbrev s_Span___sub__ : Stmt := (inClass (top 25) 11)
def N_Span___sub__ : List Str := ["self", "number"]
theorem sc_Span___sub__ : FnScope ["self", "number"] ["self", "number"] (defScope s_Span___sub__) := ⟨rfl, rfl, rfl, by decide +kernel, rfl, by decide +kernel, by decide +kernel⟩
abbrev s_Span___eq__ : Stmt := (inClass (top 25) 17)
def N_Span___eq__ : List Str := ["self", "other"]
theorem sc_Span___eq__ : FnScope ["self", "other"] ["self", "other"] (defScope s_Span___eq__) := ⟨rfl, rfl, rfl, by decide +kernel, rfl, by decide +kernel, by decide +kernel⟩
abbrev s_Span___repr__ : Stmt := (inClass (top 25) 19)
def N_Span___repr__ : List Str := ["self"]
theorem sc_Span___repr__ : FnScope ["self"] ["self"] (defScope s_Span___repr__) := ⟨rfl, rfl, rfl, by decide +kernel, rfl, by decide +kernel, by decide +kernel⟩
abbrev s_is_list : Stmt := (top 21)
def N_is_list : List Str := ["value"]
theorem sc_is_list : FnScope ["value"] ["value"] (defScope s_is_list) := ⟨rfl, rfl, rfl, by decide +kernel, rfl, by decide +kernel, by decide +kernel⟩
abbrev s_is_name : Stmt := (top 22)
def N_is_name : List Str := ["value", "sign"]
theorem sc_is_name : FnScope ["value", "sign"] ["value"] (defScope s_is_name) := ⟨rfl, rfl, rfl, by decide +kernel, rfl, by decide +kernel, by decide +kernel⟩
abbrev s_is_pair : Stmt := (top 28)
def N_is_pair : List Str := ["levels", "value", "one", "other", "name"]
theorem sc_is_pair : FnScope ["levels", "value", "one", "other", "name"] ["levels", "value"] (defScope s_is_pair) := ⟨rfl, rfl, rfl, by decide +kernel, rfl, by decide +kernel, by decide +kernel⟩
abbrev s_told_edge : Stmt := (top 29)
def N_told_edge : List Str := ["levels", "one", "other"]
theorem sc_told_edge : FnScope ["levels", "one", "other"] ["levels", "one", "other"] (defScope s_told_edge) := ⟨rfl, rfl, rfl, by decide +kernel, rfl, by decide +kernel, by decide +kernel⟩
abbrev s_checked_levels : Stmt := (top 30)
def N_checked_levels : List Str := ["nodes", "name"]
theorem sc_checked_levels : FnScope ["nodes", "name"] ["nodes"] (defScope s_checked_levels) := ⟨rfl, rfl, rfl, by decide +kernel, rfl, by decide +kernel, by decide +kernel⟩
abbrev s_checked_edges : Stmt := (top 31)
def N_checked_edges : List Str := ["levels", "edges", "found", "position", "edge"]
theorem sc_checked_edges : FnScope ["levels", "edges", "found", "position", "edge"] ["levels", "edges"] (defScope s_checked_edges) := ⟨rfl, rfl, rfl, by decide +kernel, rfl, by decide +kernel, by decide +kernel⟩
abbrev s_neighbours_in : Stmt := (top 33)
def N_neighbours_in : List Str := ["name", "edges", "edge", "other"]
theorem sc_neighbours_in : FnScope ["name", "edges", "edge", "other"] ["name", "edges"] (defScope s_neighbours_in) := ⟨rfl, rfl, rfl, by decide +kernel, rfl, by decide +kernel, by decide +kernel⟩
abbrev s_Net___init__ : Stmt := (inClass (top 34) 2)
def N_Net___init__ : List Str := ["self", "nodes", "edges", "levels", "pairs", "name"]
theorem sc_Net___init__ : FnScope ["self", "nodes", "edges", "levels", "pairs", "name"] ["self", "nodes", "edges"] (defScope s_Net___init__) := ⟨rfl, rfl, rfl, by decide +kernel, rfl, by decide +kernel, by decide +kernel⟩
abbrev s_Net_path : Stmt := (inClass (top 34) 3)
def N_Net_path : List Str := ["cls", "levels", "level", "names", "number"]
theorem sc_Net_path : FnScope ["cls", "levels", "level", "names", "number"] ["cls", "levels"] (defScope s_Net_path) := ⟨rfl, rfl, rfl, by decide +kernel, rfl, by decide +kernel, by decide +kernel⟩
abbrev s_Net___eq__ : Stmt := (inClass (top 34) 21)
def N_Net___eq__ : List Str := ["self", "other"]
theorem sc_Net___eq__ : FnScope ["self", "other"] ["self", "other"] (defScope s_Net___eq__) := ⟨rfl, rfl, rfl, by decide +kernel, rfl, by decide +kernel, by decide +kernel⟩
abbrev s_Net___repr__ : Stmt := (inClass (top 34) 22)
def N_Net___repr__ : List Str := ["self"]
theorem sc_Net___repr__ : FnScope ["self"] ["self"] (defScope s_Net___repr__) := ⟨rfl, rfl, rfl, by decide +kernel, rfl, by decide +kernel, by decide +kernel⟩
abbrev s__law_pot : Stmt := (top 37)
def N__law_pot : List Str := ["_law_script", "_law_k", "_law_cell"]
theorem sc__law_pot : FnScope ["_law_script", "_law_k", "_law_cell"] ["_law_script", "_law_k"] (defScope s__law_pot) := ⟨rfl, rfl, rfl, by decide +kernel, rfl, by decide +kernel, by decide +kernel⟩
abbrev s__law_draw : Stmt := (top 38)
def N__law_draw : List Str := ["_law_pot_here", "_law_many", "_law_digit"]
theorem sc__law_draw : FnScope ["_law_pot_here", "_law_many", "_law_digit"] ["_law_pot_here", "_law_many"] (defScope s__law_draw) := ⟨rfl, rfl, rfl, by decide +kernel, rfl, by decide +kernel, by decide +kernel⟩
abbrev s__law_pick : Stmt := (top 39)
def N__law_pick : List Str := ["_law_pot_here", "_law_some"]
theorem sc__law_pick : FnScope ["_law_pot_here", "_law_some"] ["_law_pot_here", "_law_some"] (defScope s__law_pick) := ⟨rfl, rfl, rfl, by decide +kernel, rfl, by decide +kernel, by decide +kernel⟩
abbrev s__law_number : Stmt := (top 40)
def N__law_number : List Str := ["_law_pot_here", "_law_far"]
theorem sc__law_number : FnScope ["_law_pot_here", "_law_far"] ["_law_pot_here"] (defScope s__law_number) := ⟨rfl, rfl, rfl, by decide +kernel, rfl, by decide +kernel, by decide +kernel⟩
abbrev s__law_thing : Stmt := (top 41)
def N__law_thing : List Str := ["_law_pot_here", "_law_base", "_law_near", "_law_some"]
theorem sc__law_thing : FnScope ["_law_pot_here", "_law_base", "_law_near", "_law_some"] ["_law_pot_here", "_law_base"] (defScope s__law_thing) := ⟨rfl, rfl, rfl, by decide +kernel, rfl, by decide +kernel, by decide +kernel⟩
abbrev s__law_whole : Stmt := (top 42)
def N__law_whole : List Str := ["_law_thing_here"]
theorem sc__law_whole : FnScope ["_law_thing_here"] ["_law_thing_here"] (defScope s__law_whole) := ⟨rfl, rfl, rfl, by decide +kernel, rfl, by decide +kernel, by decide +kernel⟩
abbrev s__law_told : Stmt := (top 43)
def N__law_told : List Str := ["_law_call", "_law_told_here", "e", "_law_fits"]
theorem sc__law_told : FnScope ["_law_call", "_law_told_here", "e", "_law_fits"] ["_law_call"] (defScope s__law_told) := ⟨rfl, rfl, rfl, by decide +kernel, rfl, by decide +kernel, by decide +kernel⟩
abbrev s__law_shown : Stmt := (top 44)
def N__law_shown : List Str := ["_law_least", "_law_most"]
theorem sc__law_shown : FnScope ["_law_least", "_law_most"] ["_law_least", "_law_most"] (defScope s__law_shown) := ⟨rfl, rfl, rfl, by decide +kernel, rfl, by decide +kernel, by decide +kernel⟩
abbrev s__law_due_span : Stmt := (top 45)
def N__law_due_span : List Str := ["_law_this", "_law_mate", "_law_thing_here"]
theorem sc__law_due_span : FnScope ["_law_this", "_law_mate", "_law_thing_here"] ["_law_this", "_law_mate"] (defScope s__law_due_span) := ⟨rfl, rfl, rfl, by decide +kernel, rfl, by decide +kernel, by decide +kernel⟩
abbrev s__law_span_right : Stmt := (top 46)
def N__law_span_right : List Str := ["_law_this", "_law_mate", "_law_due"]
theorem sc__law_span_right : FnScope ["_law_this", "_law_mate", "_law_due"] ["_law_this", "_law_mate"] (defScope s__law_span_right) := ⟨rfl, rfl, rfl, by decide +kernel, rfl, by decide +kernel, by decide +kernel⟩
abbrev s__law_around_right : Stmt := (top 47)
def N__law_around_right : List Str := ["_law_things", "_law_odd", "_law_due", "_law_one", "_law_two", "_law_three", "_law_four", "_law_five", "_law_six", "_law_seven", "_law_thing_here"]
theorem sc__law_around_right : FnScope ["_law_things", "_law_odd", "_law_due", "_law_one", "_law_two", "_law_three", "_law_four", "_law_five", "_law_six", "_law_seven", "_law_thing_here"] ["_law_things"] (defScope s__law_around_right) := ⟨rfl, rfl, rfl, by decide +kernel, rfl, by decide +kernel, by decide +kernel⟩
abbrev s__law_moved_right : Stmt := (top 48)
def N__law_moved_right : List Str := ["_law_made", "_law_thing_here", "_law_dues", "_law_least", "_law_most"]
theorem sc__law_moved_right : FnScope ["_law_made", "_law_thing_here", "_law_dues", "_law_least", "_law_most"] ["_law_made", "_law_thing_here"] (defScope s__law_moved_right) := ⟨rfl, rfl, rfl, by decide +kernel, rfl, by decide +kernel, by decide +kernel⟩
abbrev s__law_joined_right : Stmt := (top 49)
def N__law_joined_right : List Str := ["_law_made", "_law_thing_here", "_law_due", "_law_dues", "_law_told_here", "_law_first", "_law_second", "_law_within", "_law_least", "_law_most"]
theorem sc__law_joined_right : FnScope ["_law_made", "_law_thing_here", "_law_due", "_law_dues", "_law_told_here", "_law_first", "_law_second", "_law_within", "_law_least", "_law_most"] ["_law_made", "_law_thing_here"] (defScope s__law_joined_right) := ⟨rfl, rfl, rfl, by decide +kernel, rfl, by decide +kernel, by decide +kernel⟩
abbrev s__law_unlike_right : Stmt := (top 50)
def N__law_unlike_right : List Str := ["_law_made", "_law_thing_here", "_law_some"]
theorem sc__law_unlike_right : FnScope ["_law_made", "_law_thing_here", "_law_some"] ["_law_made", "_law_thing_here"] (defScope s__law_unlike_right) := ⟨rfl, rfl, rfl, by decide +kernel, rfl, by decide +kernel, by decide +kernel⟩
abbrev s__law_apart_right : Stmt := (top 51)
def N__law_apart_right : List Str := ["_law_pot_here", "_law_base", "_law_told_here", "_law_dues", "_law_gap", "_law_wide", "_law_this", "_law_mate"]
theorem sc__law_apart_right : FnScope ["_law_pot_here", "_law_base", "_law_told_here", "_law_dues", "_law_gap", "_law_wide", "_law_this", "_law_mate"] ["_law_pot_here", "_law_base"] (defScope s__law_apart_right) := ⟨rfl, rfl, rfl, by decide +kernel, rfl, by decide +kernel, by decide +kernel⟩
abbrev s__law_right : Stmt := (top 52)
def N__law_right : List Str := ["_law_pot_here", "_law_base", "_law_kept", "_law_things", "_law_many", "_law_made", "_law_least", "_law_k", "_law_thing_here", "_law_turn"]
theorem sc__law_right : FnScope ["_law_pot_here", "_law_base", "_law_kept", "_law_things", "_law_many", "_law_made", "_law_least", "_law_k", "_law_thing_here", "_law_turn"] ["_law_pot_here"] (defScope s__law_right) := ⟨rfl, rfl, rfl, by decide +kernel, rfl, by decide +kernel, by decide +kernel⟩
abbrev s_law : Stmt := (top 53)
def N_law : List Str := ["_law_script", "_law_k"]
theorem sc_law : FnScope ["_law_script", "_law_k"] ["_law_script"] (defScope s_law) := ⟨rfl, rfl, rfl, by decide +kernel, rfl, by decide +kernel, by decide +kernel⟩
def kTs : List String := ["NoneType", "bool", "int", "str", "tuple", "list", "dict"]
/-- where things stand -/
structure Ad where
  (Span Net InvalidLevel InvalidSpan EmptySpan Apart StateError AbreastError MissingError LimitError f_is_integer f_InvalidLevel___init__ f_InvalidSpan___init__ f_EmptySpan___init__ f_Apart___init__ f_want_level f_want_span f_Span___init__ f_Span_around p_Span_around f_Span_low p_Span_low f_Span_high p_Span_high f_Span_is_within f_Span___and__ f_Span___or__ f_Span___add__ f_Span___radd__ f_Span___sub__ f_Span___eq__ f_Span___repr__ f_is_list f_is_name f_is_pair f_told_edge f_checked_levels f_checked_edges f_neighbours_in f_Net___init__ dt_Net___init__ dx0_Net___init__ f_Net_path p_Net_path f_Net___eq__ f_Net___repr__ f__law_pot f__law_draw f__law_pick f__law_number f__law_thing f__law_whole f__law_told f__law_shown f__law_due_span f__law_span_right c__law_span_right t__law_span_right f__law_around_right c__law_around_right t__law_around_right f__law_moved_right c__law_moved_right t__law_moved_right f__law_joined_right c__law_joined_right t__law_joined_right f__law_unlike_right f__law_apart_right c__law_apart_right t__law_apart_right f__law_right f_law : Addr)
/-- the function objects -/
structure Fd where
  (f_is_integer f_InvalidLevel___init__ f_InvalidSpan___init__ f_EmptySpan___init__ f_Apart___init__ f_want_level f_want_span f_Span___init__ f_Span_around f_Span_low f_Span_high f_Span_is_within f_Span___and__ f_Span___or__ f_Span___add__ f_Span___radd__ f_Span___sub__ f_Span___eq__ f_Span___repr__ f_is_list f_is_name f_is_pair f_told_edge f_checked_levels f_checked_edges f_neighbours_in f_Net___init__ f_Net_path f_Net___eq__ f_Net___repr__ f__law_pot f__law_draw f__law_pick f__law_number f__law_thing f__law_whole f__law_told f__law_shown f__law_due_span f__law_span_right f__law_around_right f__law_moved_right f__law_joined_right f__law_unlike_right f__law_apart_right f__law_right f_law : FuncData)
def G (a : Ad) : CT := fun c => match c with
  | 0 => ⟨a.Span, ["own_low", "own_high"]⟩
  | 1 => ⟨a.InvalidLevel, ["value"]⟩
  | 2 => ⟨a.InvalidSpan, ["value"]⟩
  | 3 => ⟨a.EmptySpan, ["greatest", "least"]⟩
  | 4 => ⟨a.Apart, ["other", "one"]⟩
  | 5 => ⟨a.Net, ["own_levels", "own_edges", "own_near"]⟩
  | _ => ⟨0, []⟩
theorem kit_tr0 {K : PySem.W.Frag} {T : String} {D : Addr} (h : PySem.W.subIn K (.type T) (.ref D) = some false) (hc : PySem.W.isClsIn K D = true) (ht : PySem.W.typeIn K (.ref D) = some (.type "type")) : PySem.W.kitOne K (.type T) (.ref D) = some false := by
  have e2 : ((PySem.W.clsIn K D).isSome && PySem.W.typeIn K (.ref D) == some (.type "type")) = true := by
    have h2' : (PySem.W.clsIn K D).isSome = true := hc
    rw [h2', ht] <;> rfl
  unfold PySem.W.kitOne
  rw [if_neg (by simp)]
  show (if ((PySem.W.clsIn K D).isSome && PySem.W.typeIn K (.ref D) == some (.type "type")) = true then PySem.W.subIn K (.type T) (.ref D) else none) = some false
  rw [if_pos e2]
  exact h
structure Tx (K : PySem.W.Frag) (mg : Str → Option Value) (base : Heap) (a : Ad) (d : Fd) : Prop where
  m_Span : mg "Span" = some (.ref a.Span)
  m_Net : mg "Net" = some (.ref a.Net)
  m_InvalidLevel : mg "InvalidLevel" = some (.ref a.InvalidLevel)
  m_InvalidSpan : mg "InvalidSpan" = some (.ref a.InvalidSpan)
  m_EmptySpan : mg "EmptySpan" = some (.ref a.EmptySpan)
  m_Apart : mg "Apart" = some (.ref a.Apart)
  m_StateError : mg "StateError" = some (.ref a.StateError)
  m_AbreastError : mg "AbreastError" = some (.ref a.AbreastError)
  m_MissingError : mg "MissingError" = some (.ref a.MissingError)
  m_LimitError : mg "LimitError" = some (.ref a.LimitError)
  F_is_integer : Fun K "is_integer" "is_integer" s_is_integer a.f_is_integer d.f_is_integer
  m_is_integer : mg "is_integer" = some (.ref a.f_is_integer)
  b_is_integer : Binds K d.f_is_integer ["value"] []
  F_InvalidLevel___init__ : Fun K "__init__" "InvalidLevel.__init__" s_InvalidLevel___init__ a.f_InvalidLevel___init__ d.f_InvalidLevel___init__
  b_InvalidLevel___init__ : Binds K d.f_InvalidLevel___init__ ["self", "value"] []
  F_InvalidSpan___init__ : Fun K "__init__" "InvalidSpan.__init__" s_InvalidSpan___init__ a.f_InvalidSpan___init__ d.f_InvalidSpan___init__
  b_InvalidSpan___init__ : Binds K d.f_InvalidSpan___init__ ["self", "value"] []
  F_EmptySpan___init__ : Fun K "__init__" "EmptySpan.__init__" s_EmptySpan___init__ a.f_EmptySpan___init__ d.f_EmptySpan___init__
  b_EmptySpan___init__ : Binds K d.f_EmptySpan___init__ ["self", "least", "greatest"] []
  F_Apart___init__ : Fun K "__init__" "Apart.__init__" s_Apart___init__ a.f_Apart___init__ d.f_Apart___init__
  b_Apart___init__ : Binds K d.f_Apart___init__ ["self", "one", "other"] []
  F_want_level : Fun K "want_level" "want_level" s_want_level a.f_want_level d.f_want_level
  m_want_level : mg "want_level" = some (.ref a.f_want_level)
  b_want_level : Binds K d.f_want_level ["value"] []
  F_want_span : Fun K "want_span" "want_span" s_want_span a.f_want_span d.f_want_span
  m_want_span : mg "want_span" = some (.ref a.f_want_span)
  b_want_span : Binds K d.f_want_span ["value"] []
  F_Span___init__ : Fun K "__init__" "Span.__init__" s_Span___init__ a.f_Span___init__ d.f_Span___init__
  b_Span___init__ : Binds K d.f_Span___init__ ["self", "low", "high"] []
  F_Span_around : Fun K "around" "Span.around" s_Span_around a.f_Span_around d.f_Span_around
  s_Span_around : SMet K a.Span (.type "type") "around" a.p_Span_around a.f_Span_around
  b_Span_around : ∀ rest : List Value, bindArgs d.f_Span_around ⟨rest, []⟩ = (newTuple rest >>= fun t => pure [(("numbers" : Str), t)])
  F_Span_low : Fun K "low" "Span.low" s_Span_low a.f_Span_low d.f_Span_low
  p_Span_low : PropOf K a.Span "low" a.p_Span_low a.f_Span_low
  b_Span_low : Binds K d.f_Span_low ["self"] []
  F_Span_high : Fun K "high" "Span.high" s_Span_high a.f_Span_high d.f_Span_high
  p_Span_high : PropOf K a.Span "high" a.p_Span_high a.f_Span_high
  b_Span_high : Binds K d.f_Span_high ["self"] []
  F_Span_is_within : Fun K "is_within" "Span.is_within" s_Span_is_within a.f_Span_is_within d.f_Span_is_within
  me_Span_is_within : Meth K a.Span "is_within" a.f_Span_is_within
  b_Span_is_within : Binds K d.f_Span_is_within ["self", "other"] []
  F_Span___and__ : Fun K "__and__" "Span.__and__" s_Span___and__ a.f_Span___and__ d.f_Span___and__
  o_Span___and__ : Own K a.Span "__and__" a.f_Span___and__
  b_Span___and__ : Binds K d.f_Span___and__ ["self", "other"] []
  F_Span___or__ : Fun K "__or__" "Span.__or__" s_Span___or__ a.f_Span___or__ d.f_Span___or__
  o_Span___or__ : Own K a.Span "__or__" a.f_Span___or__
  b_Span___or__ : Binds K d.f_Span___or__ ["self", "other"] []
  F_Span___add__ : Fun K "__add__" "Span.__add__" s_Span___add__ a.f_Span___add__ d.f_Span___add__
  o_Span___add__ : Own K a.Span "__add__" a.f_Span___add__
  b_Span___add__ : Binds K d.f_Span___add__ ["self", "number"] []
  F_Span___radd__ : Fun K "__radd__" "Span.__radd__" s_Span___radd__ a.f_Span___radd__ d.f_Span___radd__
  o_Span___radd__ : Own K a.Span "__radd__" a.f_Span___radd__
  b_Span___radd__ : Binds K d.f_Span___radd__ ["self", "number"] []
  F_Span___sub__ : Fun K "__sub__" "Span.__sub__" s_Span___sub__ a.f_Span___sub__ d.f_Span___sub__
  o_Span___sub__ : Own K a.Span "__sub__" a.f_Span___sub__
  b_Span___sub__ : Binds K d.f_Span___sub__ ["self", "number"] []
  F_Span___eq__ : Fun K "__eq__" "Span.__eq__" s_Span___eq__ a.f_Span___eq__ d.f_Span___eq__
  o_Span___eq__ : Own K a.Span "__eq__" a.f_Span___eq__
  b_Span___eq__ : Binds K d.f_Span___eq__ ["self", "other"] []
  F_Span___repr__ : Fun K "__repr__" "Span.__repr__" s_Span___repr__ a.f_Span___repr__ d.f_Span___repr__
  o_Span___repr__ : Own K a.Span "__repr__" a.f_Span___repr__
  b_Span___repr__ : Binds K d.f_Span___repr__ ["self"] []
  F_is_list : Fun K "is_list" "is_list" s_is_list a.f_is_list d.f_is_list
  m_is_list : mg "is_list" = some (.ref a.f_is_list)
  b_is_list : Binds K d.f_is_list ["value"] []
  F_is_name : Fun K "is_name" "is_name" s_is_name a.f_is_name d.f_is_name
  m_is_name : mg "is_name" = some (.ref a.f_is_name)
  b_is_name : Binds K d.f_is_name ["value"] []
  F_is_pair : Fun K "is_pair" "is_pair" s_is_pair a.f_is_pair d.f_is_pair
  m_is_pair : mg "is_pair" = some (.ref a.f_is_pair)
  b_is_pair : Binds K d.f_is_pair ["levels", "value"] []
  F_told_edge : Fun K "told_edge" "told_edge" s_told_edge a.f_told_edge d.f_told_edge
  m_told_edge : mg "told_edge" = some (.ref a.f_told_edge)
  b_told_edge : Binds K d.f_told_edge ["levels", "one", "other"] []
  F_checked_levels : Fun K "checked_levels" "checked_levels" s_checked_levels a.f_checked_levels d.f_checked_levels
  m_checked_levels : mg "checked_levels" = some (.ref a.f_checked_levels)
  b_checked_levels : Binds K d.f_checked_levels ["nodes"] []
  F_checked_edges : Fun K "checked_edges" "checked_edges" s_checked_edges a.f_checked_edges d.f_checked_edges
  m_checked_edges : mg "checked_edges" = some (.ref a.f_checked_edges)
  b_checked_edges : Binds K d.f_checked_edges ["levels", "edges"] []
  F_neighbours_in : Fun K "neighbours_in" "neighbours_in" s_neighbours_in a.f_neighbours_in d.f_neighbours_in
  m_neighbours_in : mg "neighbours_in" = some (.ref a.f_neighbours_in)
  b_neighbours_in : Binds K d.f_neighbours_in ["name", "edges"] []
  F_Net___init__ : DefD K "__init__" "Net.__init__" s_Net___init__ [.ref a.dx0_Net___init__] a.f_Net___init__ d.f_Net___init__
  b_Net___init__ : Binds K d.f_Net___init__ ["self", "nodes", "edges"] []
  F_Net_path : Fun K "path" "Net.path" s_Net_path a.f_Net_path d.f_Net_path
  cm_Net_path : CMet K a.Net (.type "type") "path" a.p_Net_path a.f_Net_path
  cr_Net : CRead K a.Net (.type "type")
  b_Net_path : ∀ (u : Value) (rest : List Value), bindArgs d.f_Net_path ⟨u :: rest, []⟩ = (newTuple rest >>= fun t => pure [(("cls" : Str), u), (("levels" : Str), t)])
  F_Net___eq__ : Fun K "__eq__" "Net.__eq__" s_Net___eq__ a.f_Net___eq__ d.f_Net___eq__
  o_Net___eq__ : Own K a.Net "__eq__" a.f_Net___eq__
  b_Net___eq__ : Binds K d.f_Net___eq__ ["self", "other"] []
  F_Net___repr__ : Fun K "__repr__" "Net.__repr__" s_Net___repr__ a.f_Net___repr__ d.f_Net___repr__
  o_Net___repr__ : Own K a.Net "__repr__" a.f_Net___repr__
  b_Net___repr__ : Binds K d.f_Net___repr__ ["self"] []
  F__law_pot : Fun K "_law_pot" "_law_pot" s__law_pot a.f__law_pot d.f__law_pot
  m__law_pot : mg "_law_pot" = some (.ref a.f__law_pot)
  b__law_pot : Binds K d.f__law_pot ["_law_script", "_law_k"] []
  F__law_draw : Fun K "_law_draw" "_law_draw" s__law_draw a.f__law_draw d.f__law_draw
  m__law_draw : mg "_law_draw" = some (.ref a.f__law_draw)
  b__law_draw : Binds K d.f__law_draw ["_law_pot_here", "_law_many"] []
  F__law_pick : Fun K "_law_pick" "_law_pick" s__law_pick a.f__law_pick d.f__law_pick
  m__law_pick : mg "_law_pick" = some (.ref a.f__law_pick)
  b__law_pick : Binds K d.f__law_pick ["_law_pot_here", "_law_some"] []
  F__law_number : Fun K "_law_number" "_law_number" s__law_number a.f__law_number d.f__law_number
  m__law_number : mg "_law_number" = some (.ref a.f__law_number)
  b__law_number : Binds K d.f__law_number ["_law_pot_here"] []
  F__law_thing : Fun K "_law_thing" "_law_thing" s__law_thing a.f__law_thing d.f__law_thing
  m__law_thing : mg "_law_thing" = some (.ref a.f__law_thing)
  b__law_thing : Binds K d.f__law_thing ["_law_pot_here", "_law_base"] []
  F__law_whole : Fun K "_law_whole" "_law_whole" s__law_whole a.f__law_whole d.f__law_whole
  m__law_whole : mg "_law_whole" = some (.ref a.f__law_whole)
  b__law_whole : Binds K d.f__law_whole ["_law_thing_here"] []
  F__law_told : Fun K "_law_told" "_law_told" s__law_told a.f__law_told d.f__law_told
  m__law_told : mg "_law_told" = some (.ref a.f__law_told)
  b__law_told : Binds K d.f__law_told ["_law_call"] []
  F__law_shown : Fun K "_law_shown" "_law_shown" s__law_shown a.f__law_shown d.f__law_shown
  m__law_shown : mg "_law_shown" = some (.ref a.f__law_shown)
  b__law_shown : Binds K d.f__law_shown ["_law_least", "_law_most"] []
  F__law_due_span : Fun K "_law_due_span" "_law_due_span" s__law_due_span a.f__law_due_span d.f__law_due_span
  m__law_due_span : mg "_law_due_span" = some (.ref a.f__law_due_span)
  b__law_due_span : Binds K d.f__law_due_span ["_law_this", "_law_mate"] []
  FC__law_span_right : FunC K "_law_span_right" "_law_span_right" s__law_span_right a.f__law_span_right d.f__law_span_right a.c__law_span_right
  tb__law_span_right : TabB base mg a.c__law_span_right a.t__law_span_right
  F__law_span_right : Fun K "_law_span_right" "_law_span_right" s__law_span_right a.f__law_span_right d.f__law_span_right
  m__law_span_right : mg "_law_span_right" = some (.ref a.f__law_span_right)
  b__law_span_right : Binds K d.f__law_span_right ["_law_this", "_law_mate"] []
  FC__law_around_right : FunC K "_law_around_right" "_law_around_right" s__law_around_right a.f__law_around_right d.f__law_around_right a.c__law_around_right
  tb__law_around_right : TabB base mg a.c__law_around_right a.t__law_around_right
  F__law_around_right : Fun K "_law_around_right" "_law_around_right" s__law_around_right a.f__law_around_right d.f__law_around_right
  m__law_around_right : mg "_law_around_right" = some (.ref a.f__law_around_right)
  b__law_around_right : Binds K d.f__law_around_right ["_law_things"] []
  FC__law_moved_right : FunC K "_law_moved_right" "_law_moved_right" s__law_moved_right a.f__law_moved_right d.f__law_moved_right a.c__law_moved_right
  tb__law_moved_right : TabB base mg a.c__law_moved_right a.t__law_moved_right
  F__law_moved_right : Fun K "_law_moved_right" "_law_moved_right" s__law_moved_right a.f__law_moved_right d.f__law_moved_right
  m__law_moved_right : mg "_law_moved_right" = some (.ref a.f__law_moved_right)
  b__law_moved_right : Binds K d.f__law_moved_right ["_law_made", "_law_thing_here"] []
  FC__law_joined_right : FunC K "_law_joined_right" "_law_joined_right" s__law_joined_right a.f__law_joined_right d.f__law_joined_right a.c__law_joined_right
  tb__law_joined_right : TabB base mg a.c__law_joined_right a.t__law_joined_right
  F__law_joined_right : Fun K "_law_joined_right" "_law_joined_right" s__law_joined_right a.f__law_joined_right d.f__law_joined_right
  m__law_joined_right : mg "_law_joined_right" = some (.ref a.f__law_joined_right)
  b__law_joined_right : Binds K d.f__law_joined_right ["_law_made", "_law_thing_here"] []
  F__law_unlike_right : Fun K "_law_unlike_right" "_law_unlike_right" s__law_unlike_right a.f__law_unlike_right d.f__law_unlike_right
  m__law_unlike_right : mg "_law_unlike_right" = some (.ref a.f__law_unlike_right)
  b__law_unlike_right : Binds K d.f__law_unlike_right ["_law_made", "_law_thing_here"] []
  FC__law_apart_right : FunC K "_law_apart_right" "_law_apart_right" s__law_apart_right a.f__law_apart_right d.f__law_apart_right a.c__law_apart_right
  tb__law_apart_right : TabB base mg a.c__law_apart_right a.t__law_apart_right
  F__law_apart_right : Fun K "_law_apart_right" "_law_apart_right" s__law_apart_right a.f__law_apart_right d.f__law_apart_right
  m__law_apart_right : mg "_law_apart_right" = some (.ref a.f__law_apart_right)
  b__law_apart_right : Binds K d.f__law_apart_right ["_law_pot_here", "_law_base"] []
  F__law_right : Fun K "_law_right" "_law_right" s__law_right a.f__law_right d.f__law_right
  m__law_right : mg "_law_right" = some (.ref a.f__law_right)
  b__law_right : Binds K d.f__law_right ["_law_pot_here"] []
  F_law : Fun K "law" "law" s_law a.f_law d.f_law
  m_law : mg "law" = some (.ref a.f_law)
  b_law : Binds K d.f_law ["_law_script"] []
  bk_Span___init__ : KwB K d.f_Span___init__ ["self", "low", "high"] 1 ["high", "low"] [1, 0]
  bk_Span_is_within : KwB K d.f_Span_is_within ["self", "other"] 1 ["other"] [0]
  m_LETTERS : ∃ t, mg "LETTERS" = some (.str "abcdefghijklmnopqrstuvwxyz" t)
  m_DIGITS : ∃ t, mg "DIGITS" = some (.str "0123456789" t)
  m_MOST_SIGNS : ∃ t, mg "MOST_SIGNS" = some (.int 8 t)
  cv_Net_MOST_EDGES : ∃ u, CVal K a.Net (.type "type") "MOST_EDGES" (.int 120) u
  cv_Net_MOST_NODES : ∃ u, CVal K a.Net (.type "type") "MOST_NODES" (.int 60) u
  ki_Span_NoneType : PySem.W.kitOne K (.ref a.Span) (.type "NoneType") = some false
  kj_NoneType_Span : PySem.W.kitOne K (.type "NoneType") (.ref a.Span) = some false
  ki_Span_bool : PySem.W.kitOne K (.ref a.Span) (.type "bool") = some false
  kj_bool_Span : PySem.W.kitOne K (.type "bool") (.ref a.Span) = some false
  ki_Span_int : PySem.W.kitOne K (.ref a.Span) (.type "int") = some false
  kj_int_Span : PySem.W.kitOne K (.type "int") (.ref a.Span) = some false
  ki_Span_str : PySem.W.kitOne K (.ref a.Span) (.type "str") = some false
  kj_str_Span : PySem.W.kitOne K (.type "str") (.ref a.Span) = some false
  ki_Span_tuple : PySem.W.kitOne K (.ref a.Span) (.type "tuple") = some false
  kj_tuple_Span : PySem.W.kitOne K (.type "tuple") (.ref a.Span) = some false
  ki_Span_list : PySem.W.kitOne K (.ref a.Span) (.type "list") = some false
  kj_list_Span : PySem.W.kitOne K (.type "list") (.ref a.Span) = some false
  ki_Span_dict : PySem.W.kitOne K (.ref a.Span) (.type "dict") = some false
  kj_dict_Span : PySem.W.kitOne K (.type "dict") (.ref a.Span) = some false
  n_Span_own_low : NoAttr K a.Span "own_low"
  n_Span_own_high : NoAttr K a.Span "own_high"
  c_Span : Cls K a.Span
  is_Span : IsC K a.Span
  M_Span : Mk K a.Span a.f_Span___init__
  sf_Span : PySem.W.selfFirst K a.Span = true
  ne_Span : PySem.W.findIn K (.ref a.Span) "__ne__" = some (some (.builtin "object.__ne__"))
  ob_Span : PySem.W.subIn K (.ref a.Span) (.type "object") = some true
  nB_Span : NoBuiltin K a.Span
  kk_Net_Span : PySem.W.kitOne K (.ref a.Net) (.ref a.Span) = some false
  nb_Span : CmpBeside K (G a) 0 kTs [5]
  ki_Net_NoneType : PySem.W.kitOne K (.ref a.Net) (.type "NoneType") = some false
  kj_NoneType_Net : PySem.W.kitOne K (.type "NoneType") (.ref a.Net) = some false
  ki_Net_bool : PySem.W.kitOne K (.ref a.Net) (.type "bool") = some false
  kj_bool_Net : PySem.W.kitOne K (.type "bool") (.ref a.Net) = some false
  ki_Net_int : PySem.W.kitOne K (.ref a.Net) (.type "int") = some false
  kj_int_Net : PySem.W.kitOne K (.type "int") (.ref a.Net) = some false
  ki_Net_str : PySem.W.kitOne K (.ref a.Net) (.type "str") = some false
  kj_str_Net : PySem.W.kitOne K (.type "str") (.ref a.Net) = some false
  ki_Net_tuple : PySem.W.kitOne K (.ref a.Net) (.type "tuple") = some false
  kj_tuple_Net : PySem.W.kitOne K (.type "tuple") (.ref a.Net) = some false
  ki_Net_list : PySem.W.kitOne K (.ref a.Net) (.type "list") = some false
  kj_list_Net : PySem.W.kitOne K (.type "list") (.ref a.Net) = some false
  ki_Net_dict : PySem.W.kitOne K (.ref a.Net) (.type "dict") = some false
  kj_dict_Net : PySem.W.kitOne K (.type "dict") (.ref a.Net) = some false
  n_Net_own_levels : NoAttr K a.Net "own_levels"
  n_Net_own_edges : NoAttr K a.Net "own_edges"
  n_Net_own_near : NoAttr K a.Net "own_near"
  c_Net : Cls K a.Net
  is_Net : IsC K a.Net
  M_Net : Mk K a.Net a.f_Net___init__
  sf_Net : PySem.W.selfFirst K a.Net = true
  ne_Net : PySem.W.findIn K (.ref a.Net) "__ne__" = some (some (.builtin "object.__ne__"))
  ob_Net : PySem.W.subIn K (.ref a.Net) (.type "object") = some true
  nB_Net : NoBuiltin K a.Net
  kk_Span_Net : PySem.W.kitOne K (.ref a.Span) (.ref a.Net) = some false
  nb_Net : CmpBeside K (G a) 5 kTs [0]
  by_Span_add : ∀ T ∈ kTs, Beside K a.Span "add" T
  rf_Span_add : PySem.W.findIn K (.ref a.Span) (dunderR "add") = some (some (.ref a.f_Span___radd__))
  rp_Span_add : ((some (.ref a.f_Span___radd__) : Option Value) = none ∨ ∃ g : Addr, (some (.ref a.f_Span___radd__) : Option Value) = some (.ref g))
  b2_Span_add : ∀ (P : Program) (w : World), ∀ e ∈ ([5] : List Nat), Beside2 P w K a.Span ((G a) e).addr "add"
  by_Span_sub : ∀ T ∈ kTs, Beside K a.Span "sub" T
  rf_Span_sub : PySem.W.findIn K (.ref a.Span) (dunderR "sub") = some none
  rp_Span_sub : ((none : Option Value) = none ∨ ∃ g : Addr, (none : Option Value) = some (.ref g))
  b2_Span_sub : ∀ (P : Program) (w : World), ∀ e ∈ ([5] : List Nat), Beside2 P w K a.Span ((G a) e).addr "sub"
  by_Span_and : ∀ T ∈ kTs, Beside K a.Span "and" T
  rf_Span_and : PySem.W.findIn K (.ref a.Span) (dunderR "and") = some none
  rp_Span_and : ((none : Option Value) = none ∨ ∃ g : Addr, (none : Option Value) = some (.ref g))
  b2_Span_and : ∀ (P : Program) (w : World), ∀ e ∈ ([5] : List Nat), Beside2 P w K a.Span ((G a) e).addr "and"
  by_Span_or : ∀ T ∈ kTs, Beside K a.Span "or" T
  rf_Span_or : PySem.W.findIn K (.ref a.Span) (dunderR "or") = some none
  rp_Span_or : ((none : Option Value) = none ∨ ∃ g : Addr, (none : Option Value) = some (.ref g))
  b2_Span_or : ∀ (P : Program) (w : World), ∀ e ∈ ([5] : List Nat), Beside2 P w K a.Span ((G a) e).addr "or"
  Z_InvalidLevel : OexG K a.InvalidLevel "ValueError" "ValueError.__new__" "ValueError.__init__" [.type "ValueError", .type "Exception", .type "BaseException", .type "object"]
  iC_InvalidLevel : PySem.W.findIn K (.ref a.InvalidLevel) "__init__" = some (some (.ref a.f_InvalidLevel___init__))
  tI_InvalidLevel : PySem.W.typeIn K (.ref a.f_InvalidLevel___init__) = some (.type "function")
  n_InvalidLevel_value : PySem.W.findIn K (.ref a.InvalidLevel) "value" = some none
  x_InvalidLevel : XfC K a.InvalidLevel
  q_InvalidLevel : ExcC K a.InvalidLevel
  ke_InvalidLevel_AbreastError : PySem.W.kitOne K (.ref a.InvalidLevel) (.ref a.AbreastError) = some true
  ex_InvalidLevel_InvalidLevel : PySem.W.exmOne K (.ref a.InvalidLevel) (.ref a.InvalidLevel) = some true
  ex_InvalidLevel_InvalidSpan : PySem.W.exmOne K (.ref a.InvalidLevel) (.ref a.InvalidSpan) = some false
  ex_InvalidLevel_EmptySpan : PySem.W.exmOne K (.ref a.InvalidLevel) (.ref a.EmptySpan) = some false
  ex_InvalidLevel_Apart : PySem.W.exmOne K (.ref a.InvalidLevel) (.ref a.Apart) = some false
  Z_InvalidSpan : OexG K a.InvalidSpan "ValueError" "ValueError.__new__" "ValueError.__init__" [.type "ValueError", .type "Exception", .type "BaseException", .type "object"]
  iC_InvalidSpan : PySem.W.findIn K (.ref a.InvalidSpan) "__init__" = some (some (.ref a.f_InvalidSpan___init__))
  tI_InvalidSpan : PySem.W.typeIn K (.ref a.f_InvalidSpan___init__) = some (.type "function")
  n_InvalidSpan_value : PySem.W.findIn K (.ref a.InvalidSpan) "value" = some none
  x_InvalidSpan : XfC K a.InvalidSpan
  q_InvalidSpan : ExcC K a.InvalidSpan
  ke_InvalidSpan_AbreastError : PySem.W.kitOne K (.ref a.InvalidSpan) (.ref a.AbreastError) = some true
  ex_InvalidSpan_InvalidLevel : PySem.W.exmOne K (.ref a.InvalidSpan) (.ref a.InvalidLevel) = some false
  ex_InvalidSpan_InvalidSpan : PySem.W.exmOne K (.ref a.InvalidSpan) (.ref a.InvalidSpan) = some true
  ex_InvalidSpan_EmptySpan : PySem.W.exmOne K (.ref a.InvalidSpan) (.ref a.EmptySpan) = some false
  ex_InvalidSpan_Apart : PySem.W.exmOne K (.ref a.InvalidSpan) (.ref a.Apart) = some false
  Z_EmptySpan : OexG K a.EmptySpan "ValueError" "ValueError.__new__" "ValueError.__init__" [.type "ValueError", .type "Exception", .type "BaseException", .type "object"]
  iC_EmptySpan : PySem.W.findIn K (.ref a.EmptySpan) "__init__" = some (some (.ref a.f_EmptySpan___init__))
  tI_EmptySpan : PySem.W.typeIn K (.ref a.f_EmptySpan___init__) = some (.type "function")
  n_EmptySpan_greatest : PySem.W.findIn K (.ref a.EmptySpan) "greatest" = some none
  n_EmptySpan_least : PySem.W.findIn K (.ref a.EmptySpan) "least" = some none
  x_EmptySpan : XfC K a.EmptySpan
  q_EmptySpan : ExcC K a.EmptySpan
  ke_EmptySpan_AbreastError : PySem.W.kitOne K (.ref a.EmptySpan) (.ref a.AbreastError) = some true
  ex_EmptySpan_InvalidLevel : PySem.W.exmOne K (.ref a.EmptySpan) (.ref a.InvalidLevel) = some false
  ex_EmptySpan_InvalidSpan : PySem.W.exmOne K (.ref a.EmptySpan) (.ref a.InvalidSpan) = some false
  ex_EmptySpan_EmptySpan : PySem.W.exmOne K (.ref a.EmptySpan) (.ref a.EmptySpan) = some true
  ex_EmptySpan_Apart : PySem.W.exmOne K (.ref a.EmptySpan) (.ref a.Apart) = some false
  Z_Apart : OexG K a.Apart "RuntimeError" "RuntimeError.__new__" "RuntimeError.__init__" [.type "RuntimeError", .type "Exception", .type "BaseException", .type "object"]
  iC_Apart : PySem.W.findIn K (.ref a.Apart) "__init__" = some (some (.ref a.f_Apart___init__))
  tI_Apart : PySem.W.typeIn K (.ref a.f_Apart___init__) = some (.type "function")
  n_Apart_other : PySem.W.findIn K (.ref a.Apart) "other" = some none
  n_Apart_one : PySem.W.findIn K (.ref a.Apart) "one" = some none
  x_Apart : XfC K a.Apart
  q_Apart : ExcC K a.Apart
  ke_Apart_StateError : PySem.W.kitOne K (.ref a.Apart) (.ref a.StateError) = some true
  ke_Apart_AbreastError : PySem.W.kitOne K (.ref a.Apart) (.ref a.AbreastError) = some false
  ke_Apart_MissingError : PySem.W.kitOne K (.ref a.Apart) (.ref a.MissingError) = some false
  ke_Apart_LimitError : PySem.W.kitOne K (.ref a.Apart) (.ref a.LimitError) = some false
  ex_Apart_InvalidLevel : PySem.W.exmOne K (.ref a.Apart) (.ref a.InvalidLevel) = some false
  ex_Apart_InvalidSpan : PySem.W.exmOne K (.ref a.Apart) (.ref a.InvalidSpan) = some false
  ex_Apart_EmptySpan : PySem.W.exmOne K (.ref a.Apart) (.ref a.EmptySpan) = some false
  ex_Apart_Apart : PySem.W.exmOne K (.ref a.Apart) (.ref a.Apart) = some true
  z_isinstance : mg "isinstance" = none
  z_min : mg "min" = none
  z_max : mg "max" = none
  z_len : mg "len" = none
  z_abs : mg "abs" = none
  z_int : mg "int" = none
  z_divmod : mg "divmod" = none
  z_str : mg "str" = none
  z_repr : mg "repr" = none
  z_range : mg "range" = none
  z_all : mg "all" = none
  z_enumerate : mg "enumerate" = none
  z_bool : mg "bool" = none
  z_list : mg "list" = none
  z_tuple : mg "tuple" = none
  z_dict : mg "dict" = none
  z_sorted : mg "sorted" = none
  z_zip : mg "zip" = none
section
variable {P : Program} {w : World} {K : PySem.W.Frag} {mg : Str → Option Value} {base : Heap} {a : Ad} {d : Fd}
def adK (K : PySem.W.Frag) : Ad := {
  Span := He.ga K "Span",
  Net := He.ga K "Net",
  InvalidLevel := He.ga K "InvalidLevel",
  InvalidSpan := He.ga K "InvalidSpan",
  EmptySpan := He.ga K "EmptySpan",
  Apart := He.ga K "Apart",
  StateError := He.ga K "StateError",
  AbreastError := He.ga K "AbreastError",
  MissingError := He.ga K "MissingError",
  LimitError := He.ga K "LimitError",
  f_is_integer := He.ga K "is_integer",
  f_InvalidLevel___init__ := He.ma K (He.ga K "InvalidLevel") "__init__",
  f_InvalidSpan___init__ := He.ma K (He.ga K "InvalidSpan") "__init__",
  f_EmptySpan___init__ := He.ma K (He.ga K "EmptySpan") "__init__",
  f_Apart___init__ := He.ma K (He.ga K "Apart") "__init__",
  f_want_level := He.ga K "want_level",
  f_want_span := He.ga K "want_span",
  f_Span___init__ := He.ma K (He.ga K "Span") "__init__",
  f_Span_around := DH.rf K (He.ma K (He.ga K "Span") "around") "staticmethod",
  p_Span_around := He.ma K (He.ga K "Span") "around",
  f_Span_low := DH.rf K (He.ma K (He.ga K "Span") "low") "property",
  p_Span_low := He.ma K (He.ga K "Span") "low",
  f_Span_high := DH.rf K (He.ma K (He.ga K "Span") "high") "property",
  p_Span_high := He.ma K (He.ga K "Span") "high",
  f_Span_is_within := He.ma K (He.ga K "Span") "is_within",
  f_Span___and__ := He.ma K (He.ga K "Span") "__and__",
  f_Span___or__ := He.ma K (He.ga K "Span") "__or__",
  f_Span___add__ := He.ma K (He.ga K "Span") "__add__",
  f_Span___radd__ := He.ma K (He.ga K "Span") "__radd__",
  f_Span___sub__ := He.ma K (He.ga K "Span") "__sub__",
  f_Span___eq__ := He.ma K (He.ga K "Span") "__eq__",
  f_Span___repr__ := He.ma K (He.ga K "Span") "__repr__",
  f_is_list := He.ga K "is_list",
  f_is_name := He.ga K "is_name",
  f_is_pair := He.ga K "is_pair",
  f_told_edge := He.ga K "told_edge",
  f_checked_levels := He.ga K "checked_levels",
  f_checked_edges := He.ga K "checked_edges",
  f_neighbours_in := He.ga K "neighbours_in",
  f_Net___init__ := He.ma K (He.ga K "Net") "__init__",
  dt_Net___init__ := 0,
  dx0_Net___init__ := He.dflAt ("Net", some "__init__") 0 K,
  f_Net_path := DH.rf K (He.ma K (He.ga K "Net") "path") "classmethod",
  p_Net_path := He.ma K (He.ga K "Net") "path",
  f_Net___eq__ := He.ma K (He.ga K "Net") "__eq__",
  f_Net___repr__ := He.ma K (He.ga K "Net") "__repr__",
  f__law_pot := He.ga K "_law_pot",
  f__law_draw := He.ga K "_law_draw",
  f__law_pick := He.ga K "_law_pick",
  f__law_number := He.ga K "_law_number",
  f__law_thing := He.ga K "_law_thing",
  f__law_whole := He.ga K "_law_whole",
  f__law_told := He.ga K "_law_told",
  f__law_shown := He.ga K "_law_shown",
  f__law_due_span := He.ga K "_law_due_span",
  f__law_span_right := He.ga K "_law_span_right",
  c__law_span_right := He.codeOf K ("_law_span_right", none),
  t__law_span_right := He.tabOf K (He.codeOf K ("_law_span_right", none)),
  f__law_around_right := He.ga K "_law_around_right",
  c__law_around_right := He.codeOf K ("_law_around_right", none),
  t__law_around_right := He.tabOf K (He.codeOf K ("_law_around_right", none)),
  f__law_moved_right := He.ga K "_law_moved_right",
  c__law_moved_right := He.codeOf K ("_law_moved_right", none),
  t__law_moved_right := He.tabOf K (He.codeOf K ("_law_moved_right", none)),
  f__law_joined_right := He.ga K "_law_joined_right",
  c__law_joined_right := He.codeOf K ("_law_joined_right", none),
  t__law_joined_right := He.tabOf K (He.codeOf K ("_law_joined_right", none)),
  f__law_unlike_right := He.ga K "_law_unlike_right",
  f__law_apart_right := He.ga K "_law_apart_right",
  c__law_apart_right := He.codeOf K ("_law_apart_right", none),
  t__law_apart_right := He.tabOf K (He.codeOf K ("_law_apart_right", none)),
  f__law_right := He.ga K "_law_right",
  f_law := He.ga K "law" }
def dA_is_integer : He5.DefA := ⟨fun K => (adK K).f_is_integer, "is_integer", "is_integer", defArgs s_is_integer, defBody s_is_integer, defScope s_is_integer, [], []⟩
def dA_InvalidLevel___init__ : He5.DefA := ⟨fun K => (adK K).f_InvalidLevel___init__, "__init__", "InvalidLevel.__init__", defArgs s_InvalidLevel___init__, defBody s_InvalidLevel___init__, defScope s_InvalidLevel___init__, [], []⟩
def dA_InvalidSpan___init__ : He5.DefA := ⟨fun K => (adK K).f_InvalidSpan___init__, "__init__", "InvalidSpan.__init__", defArgs s_InvalidSpan___init__, defBody s_InvalidSpan___init__, defScope s_InvalidSpan___init__, [], []⟩
def dA_EmptySpan___init__ : He5.DefA := ⟨fun K => (adK K).f_EmptySpan___init__, "__init__", "EmptySpan.__init__", defArgs s_EmptySpan___init__, defBody s_EmptySpan___init__, defScope s_EmptySpan___init__, [], []⟩
def dA_Apart___init__ : He5.DefA := ⟨fun K => (adK K).f_Apart___init__, "__init__", "Apart.__init__", defArgs s_Apart___init__, defBody s_Apart___init__, defScope s_Apart___init__, [], []⟩
def dA_want_level : He5.DefA := ⟨fun K => (adK K).f_want_level, "want_level", "want_level", defArgs s_want_level, defBody s_want_level, defScope s_want_level, [], []⟩
def dA_want_span : He5.DefA := ⟨fun K => (adK K).f_want_span, "want_span", "want_span", defArgs s_want_span, defBody s_want_span, defScope s_want_span, [], []⟩
def dA_Span___init__ : He5.DefA := ⟨fun K => (adK K).f_Span___init__, "__init__", "Span.__init__", defArgs s_Span___init__, defBody s_Span___init__, defScope s_Span___init__, [], []⟩
def dA_Span_around : He5.DefA := ⟨fun K => (adK K).f_Span_around, "around", "Span.around", defArgs s_Span_around, defBody s_Span_around, defScope s_Span_around, [], []⟩
def dA_Span_low : He5.DefA := ⟨fun K => (adK K).f_Span_low, "low", "Span.low", defArgs s_Span_low, defBody s_Span_low, defScope s_Span_low, [], []⟩
def dA_Span_high : He5.DefA := ⟨fun K => (adK K).f_Span_high, "high", "Span.high", defArgs s_Span_high, defBody s_Span_high, defScope s_Span_high, [], []⟩
def dA_Span_is_within : He5.DefA := ⟨fun K => (adK K).f_Span_is_within, "is_within", "Span.is_within", defArgs s_Span_is_within, defBody s_Span_is_within, defScope s_Span_is_within, [], []⟩
def dA_Span___and__ : He5.DefA := ⟨fun K => (adK K).f_Span___and__, "__and__", "Span.__and__", defArgs s_Span___and__, defBody s_Span___and__, defScope s_Span___and__, [], []⟩
def dA_Span___or__ : He5.DefA := ⟨fun K => (adK K).f_Span___or__, "__or__", "Span.__or__", defArgs s_Span___or__, defBody s_Span___or__, defScope s_Span___or__, [], []⟩
def dA_Span___add__ : He5.DefA := ⟨fun K => (adK K).f_Span___add__, "__add__", "Span.__add__", defArgs s_Span___add__, defBody s_Span___add__, defScope s_Span___add__, [], []⟩
def dA_Span___radd__ : He5.DefA := ⟨fun K => (adK K).f_Span___radd__, "__radd__", "Span.__radd__", defArgs s_Span___radd__, defBody s_Span___radd__, defScope s_Span___radd__, [], []⟩
def dA_Span___sub__ : He5.DefA := ⟨fun K => (adK K).f_Span___sub__, "__sub__", "Span.__sub__", defArgs s_Span___sub__, defBody s_Span___sub__, defScope s_Span___sub__, [], []⟩
def dA_Span___eq__ : He5.DefA := ⟨fun K => (adK K).f_Span___eq__, "__eq__", "Span.__eq__", defArgs s_Span___eq__, defBody s_Span___eq__, defScope s_Span___eq__, [], []⟩
def dA_Span___repr__ : He5.DefA := ⟨fun K => (adK K).f_Span___repr__, "__repr__", "Span.__repr__", defArgs s_Span___repr__, defBody s_Span___repr__, defScope s_Span___repr__, [], []⟩
def dA_is_list : He5.DefA := ⟨fun K => (adK K).f_is_list, "is_list", "is_list", defArgs s_is_list, defBody s_is_list, defScope s_is_list, [], []⟩
def dA_is_name : He5.DefA := ⟨fun K => (adK K).f_is_name, "is_name", "is_name", defArgs s_is_name, defBody s_is_name, defScope s_is_name, [], []⟩
def dA_is_pair : He5.DefA := ⟨fun K => (adK K).f_is_pair, "is_pair", "is_pair", defArgs s_is_pair, defBody s_is_pair, defScope s_is_pair, [], []⟩
def dA_told_edge : He5.DefA := ⟨fun K => (adK K).f_told_edge, "told_edge", "told_edge", defArgs s_told_edge, defBody s_told_edge, defScope s_told_edge, [], []⟩
def dA_checked_levels : He5.DefA := ⟨fun K => (adK K).f_checked_levels, "checked_levels", "checked_levels", defArgs s_checked_levels, defBody s_checked_levels, defScope s_checked_levels, [], []⟩
def dA_checked_edges : He5.DefA := ⟨fun K => (adK K).f_checked_edges, "checked_edges", "checked_edges", defArgs s_checked_edges, defBody s_checked_edges, defScope s_checked_edges, [], []⟩
def dA_neighbours_in : He5.DefA := ⟨fun K => (adK K).f_neighbours_in, "neighbours_in", "neighbours_in", defArgs s_neighbours_in, defBody s_neighbours_in, defScope s_neighbours_in, [], []⟩
def dA_Net___init__ : He5.DefA := ⟨fun K => (adK K).f_Net___init__, "__init__", "Net.__init__", defArgs s_Net___init__, defBody s_Net___init__, defScope s_Net___init__, [.adr fun K => (adK K).dx0_Net___init__], []⟩
def dA_Net_path : He5.DefA := ⟨fun K => (adK K).f_Net_path, "path", "Net.path", defArgs s_Net_path, defBody s_Net_path, defScope s_Net_path, [], []⟩
def dA_Net___eq__ : He5.DefA := ⟨fun K => (adK K).f_Net___eq__, "__eq__", "Net.__eq__", defArgs s_Net___eq__, defBody s_Net___eq__, defScope s_Net___eq__, [], []⟩
def dA_Net___repr__ : He5.DefA := ⟨fun K => (adK K).f_Net___repr__, "__repr__", "Net.__repr__", defArgs s_Net___repr__, defBody s_Net___repr__, defScope s_Net___repr__, [], []⟩
def dA__law_pot : He5.DefA := ⟨fun K => (adK K).f__law_pot, "_law_pot", "_law_pot", defArgs s__law_pot, defBody s__law_pot, defScope s__law_pot, [], []⟩
def dA__law_draw : He5.DefA := ⟨fun K => (adK K).f__law_draw, "_law_draw", "_law_draw", defArgs s__law_draw, defBody s__law_draw, defScope s__law_draw, [], []⟩
def dA__law_pick : He5.DefA := ⟨fun K => (adK K).f__law_pick, "_law_pick", "_law_pick", defArgs s__law_pick, defBody s__law_pick, defScope s__law_pick, [], []⟩
def dA__law_number : He5.DefA := ⟨fun K => (adK K).f__law_number, "_law_number", "_law_number", defArgs s__law_number, defBody s__law_number, defScope s__law_number, [], []⟩
def dA__law_thing : He5.DefA := ⟨fun K => (adK K).f__law_thing, "_law_thing", "_law_thing", defArgs s__law_thing, defBody s__law_thing, defScope s__law_thing, [], []⟩
def dA__law_whole : He5.DefA := ⟨fun K => (adK K).f__law_whole, "_law_whole", "_law_whole", defArgs s__law_whole, defBody s__law_whole, defScope s__law_whole, [], []⟩
def dA__law_told : He5.DefA := ⟨fun K => (adK K).f__law_told, "_law_told", "_law_told", defArgs s__law_told, defBody s__law_told, defScope s__law_told, [], []⟩
def dA__law_shown : He5.DefA := ⟨fun K => (adK K).f__law_shown, "_law_shown", "_law_shown", defArgs s__law_shown, defBody s__law_shown, defScope s__law_shown, [], []⟩
def dA__law_due_span : He5.DefA := ⟨fun K => (adK K).f__law_due_span, "_law_due_span", "_law_due_span", defArgs s__law_due_span, defBody s__law_due_span, defScope s__law_due_span, [], []⟩
def dA__law_span_right : He5.DefA := ⟨fun K => (adK K).f__law_span_right, "_law_span_right", "_law_span_right", defArgs s__law_span_right, defBody s__law_span_right, defScope s__law_span_right, [], []⟩
def dA__law_around_right : He5.DefA := ⟨fun K => (adK K).f__law_around_right, "_law_around_right", "_law_around_right", defArgs s__law_around_right, defBody s__law_around_right, defScope s__law_around_right, [], []⟩
def dA__law_moved_right : He5.DefA := ⟨fun K => (adK K).f__law_moved_right, "_law_moved_right", "_law_moved_right", defArgs s__law_moved_right, defBody s__law_moved_right, defScope s__law_moved_right, [], []⟩
def dA__law_joined_right : He5.DefA := ⟨fun K => (adK K).f__law_joined_right, "_law_joined_right", "_law_joined_right", defArgs s__law_joined_right, defBody s__law_joined_right, defScope s__law_joined_right, [], []⟩
def dA__law_unlike_right : He5.DefA := ⟨fun K => (adK K).f__law_unlike_right, "_law_unlike_right", "_law_unlike_right", defArgs s__law_unlike_right, defBody s__law_unlike_right, defScope s__law_unlike_right, [], []⟩
def dA__law_apart_right : He5.DefA := ⟨fun K => (adK K).f__law_apart_right, "_law_apart_right", "_law_apart_right", defArgs s__law_apart_right, defBody s__law_apart_right, defScope s__law_apart_right, [], []⟩
def dA__law_right : He5.DefA := ⟨fun K => (adK K).f__law_right, "_law_right", "_law_right", defArgs s__law_right, defBody s__law_right, defScope s__law_right, [], []⟩
def dA_law : He5.DefA := ⟨fun K => (adK K).f_law, "law", "law", defArgs s_law, defBody s_law, defScope s_law, [], []⟩
def fnL : List He5.DefA := [dA_is_integer, dA_InvalidLevel___init__, dA_InvalidSpan___init__, dA_EmptySpan___init__, dA_Apart___init__, dA_want_level, dA_want_span, dA_Span___init__, dA_Span_around, dA_Span_low, dA_Span_high, dA_Span_is_within, dA_Span___and__, dA_Span___or__, dA_Span___add__, dA_Span___radd__, dA_Span___sub__, dA_Span___eq__, dA_Span___repr__, dA_is_list, dA_is_name, dA_is_pair, dA_told_edge, dA_checked_levels, dA_checked_edges, dA_neighbours_in, dA_Net___init__, dA_Net_path, dA_Net___eq__, dA_Net___repr__, dA__law_pot, dA__law_draw, dA__law_pick, dA__law_number, dA__law_thing, dA__law_whole, dA__law_told, dA__law_shown, dA__law_due_span, dA__law_span_right, dA__law_around_right, dA__law_moved_right, dA__law_joined_right, dA__law_unlike_right, dA__law_apart_right, dA__law_right, dA_law]
def tfL : List DH.Mk2 := [(fun K => ((adK K).c__law_span_right, (adK K).t__law_span_right)), (fun K => ((adK K).c__law_around_right, (adK K).t__law_around_right)), (fun K => ((adK K).c__law_moved_right, (adK K).t__law_moved_right)), (fun K => ((adK K).c__law_joined_right, (adK K).t__law_joined_right)), (fun K => ((adK K).c__law_apart_right, (adK K).t__law_apart_right))]
def ex_0 (K : PySem.W.Frag) : Bool := decide (PySem.W.nsIn K mainGlobals "Span" = some (some (.ref (adK K).Span))) && (decide (PySem.W.nsIn K mainGlobals "Net" = some (some (.ref (adK K).Net))) && (decide (PySem.W.nsIn K mainGlobals "InvalidLevel" = some (some (.ref (adK K).InvalidLevel))) && (decide (PySem.W.nsIn K mainGlobals "InvalidSpan" = some (some (.ref (adK K).InvalidSpan))) && (decide (PySem.W.nsIn K mainGlobals "EmptySpan" = some (some (.ref (adK K).EmptySpan))) && (decide (PySem.W.nsIn K mainGlobals "Apart" = some (some (.ref (adK K).Apart))) && (decide (PySem.W.nsIn K mainGlobals "StateError" = some (some (.ref (adK K).StateError))) && (decide (PySem.W.nsIn K mainGlobals "AbreastError" = some (some (.ref (adK K).AbreastError))) && (decide (PySem.W.nsIn K mainGlobals "MissingError" = some (some (.ref (adK K).MissingError))) && (decide (PySem.W.nsIn K mainGlobals "LimitError" = some (some (.ref (adK K).LimitError))) && (decide (PySem.W.nsIn K mainGlobals "is_integer" = some (some (.ref (adK K).f_is_integer))) && (decide (PySem.W.findIn K (.ref (adK K).InvalidLevel) "__init__" = some (some (.ref (adK K).f_InvalidLevel___init__))) && (decide (PySem.W.isFn K (.ref (adK K).f_InvalidLevel___init__) = true) && (decide (PySem.W.findIn K (.ref (adK K).InvalidSpan) "__init__" = some (some (.ref (adK K).f_InvalidSpan___init__))) && (decide (PySem.W.isFn K (.ref (adK K).f_InvalidSpan___init__) = true) && (decide (PySem.W.findIn K (.ref (adK K).EmptySpan) "__init__" = some (some (.ref (adK K).f_EmptySpan___init__))) && (decide (PySem.W.isFn K (.ref (adK K).f_EmptySpan___init__) = true) && (decide (PySem.W.findIn K (.ref (adK K).Apart) "__init__" = some (some (.ref (adK K).f_Apart___init__))) && (decide (PySem.W.isFn K (.ref (adK K).f_Apart___init__) = true) && (decide (PySem.W.nsIn K mainGlobals "want_level" = some (some (.ref (adK K).f_want_level))))))))))))))))))))))
def ex_1 (K : PySem.W.Frag) : Bool := decide (PySem.W.nsIn K mainGlobals "want_span" = some (some (.ref (adK K).f_want_span))) && (decide (PySem.W.findIn K (.ref (adK K).Span) "__init__" = some (some (.ref (adK K).f_Span___init__))) && (decide (PySem.W.isFn K (.ref (adK K).f_Span___init__) = true) && (DH.getB K (adK K).Span "around" "staticmethod.__get__" (adK K).p_Span_around && (DH.recB K (adK K).p_Span_around "staticmethod" (adK K).f_Span_around && (decide (PySem.W.readsIn K (adK K).Span (.type "type") = true) && (decide (PySem.W.specialIn K (.ref (adK K).Span) "__getattribute__" = some (some (.builtin "type.__getattribute__"))) && (decide (PySem.W.findIn K (.ref (adK K).Span) "low" = some (some (.ref (adK K).p_Span_low))) && (DH.recB K (adK K).p_Span_low "property" (adK K).f_Span_low && (decide (PySem.W.specialIn K (.ref (adK K).p_Span_low) "__get__" = some (some (.builtin "property.__get__"))) && (decide (PySem.W.takesIn K (.ref (adK K).p_Span_low) = some true) && (decide (PySem.W.findIn K (.ref (adK K).Span) "high" = some (some (.ref (adK K).p_Span_high))) && (DH.recB K (adK K).p_Span_high "property" (adK K).f_Span_high && (decide (PySem.W.specialIn K (.ref (adK K).p_Span_high) "__get__" = some (some (.builtin "property.__get__"))) && (decide (PySem.W.takesIn K (.ref (adK K).p_Span_high) = some true) && (decide (PySem.W.findIn K (.ref (adK K).Span) "is_within" = some (some (.ref (adK K).f_Span_is_within))) && (decide (PySem.W.isFn K (.ref (adK K).f_Span_is_within) = true) && (decide (PySem.W.findIn K (.ref (adK K).Span) "__and__" = some (some (.ref (adK K).f_Span___and__))) && (decide (PySem.W.isFn K (.ref (adK K).f_Span___and__) = true) && (decide (PySem.W.findIn K (.ref (adK K).Span) "__or__" = some (some (.ref (adK K).f_Span___or__))))))))))))))))))))))
def ex_2 (K : PySem.W.Frag) : Bool := decide (PySem.W.isFn K (.ref (adK K).f_Span___or__) = true) && (decide (PySem.W.findIn K (.ref (adK K).Span) "__add__" = some (some (.ref (adK K).f_Span___add__))) && (decide (PySem.W.isFn K (.ref (adK K).f_Span___add__) = true) && (decide (PySem.W.findIn K (.ref (adK K).Span) "__radd__" = some (some (.ref (adK K).f_Span___radd__))) && (decide (PySem.W.isFn K (.ref (adK K).f_Span___radd__) = true) && (decide (PySem.W.findIn K (.ref (adK K).Span) "__sub__" = some (some (.ref (adK K).f_Span___sub__))) && (decide (PySem.W.isFn K (.ref (adK K).f_Span___sub__) = true) && (decide (PySem.W.findIn K (.ref (adK K).Span) "__eq__" = some (some (.ref (adK K).f_Span___eq__))) && (decide (PySem.W.isFn K (.ref (adK K).f_Span___eq__) = true) && (decide (PySem.W.findIn K (.ref (adK K).Span) "__repr__" = some (some (.ref (adK K).f_Span___repr__))) && (decide (PySem.W.isFn K (.ref (adK K).f_Span___repr__) = true) && (decide (PySem.W.nsIn K mainGlobals "is_list" = some (some (.ref (adK K).f_is_list))) && (decide (PySem.W.nsIn K mainGlobals "is_name" = some (some (.ref (adK K).f_is_name))) && (decide (PySem.W.nsIn K mainGlobals "is_pair" = some (some (.ref (adK K).f_is_pair))) && (decide (PySem.W.nsIn K mainGlobals "told_edge" = some (some (.ref (adK K).f_told_edge))) && (decide (PySem.W.nsIn K mainGlobals "checked_levels" = some (some (.ref (adK K).f_checked_levels))) && (decide (PySem.W.nsIn K mainGlobals "checked_edges" = some (some (.ref (adK K).f_checked_edges))) && (decide (PySem.W.nsIn K mainGlobals "neighbours_in" = some (some (.ref (adK K).f_neighbours_in))) && (decide (PySem.W.findIn K (.ref (adK K).Net) "__init__" = some (some (.ref (adK K).f_Net___init__))) && (decide (PySem.W.isFn K (.ref (adK K).f_Net___init__) = true))))))))))))))))))))
def ex_3 (K : PySem.W.Frag) : Bool := DH.getB K (adK K).Net "path" "classmethod.__get__" (adK K).p_Net_path && (DH.recB K (adK K).p_Net_path "classmethod" (adK K).f_Net_path && (decide (PySem.W.fnIn K (adK K).f_Net_path = true) && (decide (PySem.W.readsIn K (adK K).Net (.type "type") = true) && (decide (PySem.W.specialIn K (.ref (adK K).Net) "__getattribute__" = some (some (.builtin "type.__getattribute__"))) && (decide (PySem.W.findIn K (.ref (adK K).Net) "__eq__" = some (some (.ref (adK K).f_Net___eq__))) && (decide (PySem.W.isFn K (.ref (adK K).f_Net___eq__) = true) && (decide (PySem.W.findIn K (.ref (adK K).Net) "__repr__" = some (some (.ref (adK K).f_Net___repr__))) && (decide (PySem.W.isFn K (.ref (adK K).f_Net___repr__) = true) && (decide (PySem.W.nsIn K mainGlobals "_law_pot" = some (some (.ref (adK K).f__law_pot))) && (decide (PySem.W.nsIn K mainGlobals "_law_draw" = some (some (.ref (adK K).f__law_draw))) && (decide (PySem.W.nsIn K mainGlobals "_law_pick" = some (some (.ref (adK K).f__law_pick))) && (decide (PySem.W.nsIn K mainGlobals "_law_number" = some (some (.ref (adK K).f__law_number))) && (decide (PySem.W.nsIn K mainGlobals "_law_thing" = some (some (.ref (adK K).f__law_thing))) && (decide (PySem.W.nsIn K mainGlobals "_law_whole" = some (some (.ref (adK K).f__law_whole))) && (decide (PySem.W.nsIn K mainGlobals "_law_told" = some (some (.ref (adK K).f__law_told))) && (decide (PySem.W.nsIn K mainGlobals "_law_shown" = some (some (.ref (adK K).f__law_shown))) && (decide (PySem.W.nsIn K mainGlobals "_law_due_span" = some (some (.ref (adK K).f__law_due_span))) && (decide (PySem.W.nsIn K mainGlobals "_law_span_right" = some (some (.ref (adK K).f__law_span_right))) && (decide (PySem.W.nsIn K mainGlobals "_law_around_right" = some (some (.ref (adK K).f__law_around_right))))))))))))))))))))))
def ex_4 (K : PySem.W.Frag) : Bool := decide (PySem.W.nsIn K mainGlobals "_law_moved_right" = some (some (.ref (adK K).f__law_moved_right))) && (decide (PySem.W.nsIn K mainGlobals "_law_joined_right" = some (some (.ref (adK K).f__law_joined_right))) && (decide (PySem.W.nsIn K mainGlobals "_law_unlike_right" = some (some (.ref (adK K).f__law_unlike_right))) && (decide (PySem.W.nsIn K mainGlobals "_law_apart_right" = some (some (.ref (adK K).f__law_apart_right))) && (decide (PySem.W.nsIn K mainGlobals "_law_right" = some (some (.ref (adK K).f__law_right))) && (decide (PySem.W.nsIn K mainGlobals "law" = some (some (.ref (adK K).f_law))) && ((He.Fa.str "LETTERS" "abcdefghijklmnopqrstuvwxyz").ok K && ((He.Fa.str "DIGITS" "0123456789").ok K && ((He.Fa.int "MOST_SIGNS" 8).ok K && (DH.cvB K (adK K).Net "MOST_EDGES" 120 && (DH.cvB K (adK K).Net "MOST_NODES" 60 && (decide (PySem.W.plainGet K (adK K).Span Str.empty = true) && (decide (PySem.W.hasDictIn K (adK K).Span = true) && (decide (PySem.W.plainOver K (adK K).Span = true) && (decide (PySem.W.findIn K (.ref (adK K).Span) "__setattr__" = some (some (.builtin "object.__setattr__"))) && (decide (PySem.W.findIn K (.ref (adK K).Span) "__class__" = some (some (.builtin "object.__class__"))) && (decide (PySem.W.mroIn K (adK K).Span (.type "object") = some true) && (decide (PySem.W.makesIn K (adK K).Span = true) && (decide (PySem.W.keepIn K (.ref (adK K).Span) = true) && (decide (PySem.W.selfFirst K (adK K).Span = true))))))))))))))))))))
def ex_5 (K : PySem.W.Frag) : Bool := decide (PySem.W.findIn K (.ref (adK K).Span) "__ne__" = some (some (.builtin "object.__ne__"))) && (decide (PySem.W.subIn K (.ref (adK K).Span) (.type "object") = some true) && (decide (PySem.W.isClsIn K (adK K).Span = true) && (decide (PySem.W.typeIn K (.ref (adK K).Span) = some (.type "type")) && (decide (PySem.W.subIn K (.ref (adK K).Span) (.ref (adK K).Span) = some true) && (decide (PySem.W.subIn K (.ref (adK K).Span) (.type "NoneType") = some false) && (decide (PySem.W.subIn K (.type "NoneType") (.ref (adK K).Span) = some false) && (decide (PySem.W.subIn K (.ref (adK K).Span) (.type "bool") = some false) && (decide (PySem.W.subIn K (.type "bool") (.ref (adK K).Span) = some false) && (decide (PySem.W.subIn K (.ref (adK K).Span) (.type "int") = some false) && (decide (PySem.W.subIn K (.type "int") (.ref (adK K).Span) = some false) && (decide (PySem.W.subIn K (.ref (adK K).Span) (.type "str") = some false) && (decide (PySem.W.subIn K (.type "str") (.ref (adK K).Span) = some false) && (decide (PySem.W.subIn K (.ref (adK K).Span) (.type "tuple") = some false) && (decide (PySem.W.subIn K (.type "tuple") (.ref (adK K).Span) = some false) && (decide (PySem.W.subIn K (.ref (adK K).Span) (.type "list") = some false) && (decide (PySem.W.subIn K (.type "list") (.ref (adK K).Span) = some false) && (decide (PySem.W.subIn K (.ref (adK K).Span) (.type "dict") = some false) && (decide (PySem.W.subIn K (.type "dict") (.ref (adK K).Span) = some false) && (decide (PySem.W.findIn K (.ref (adK K).Span) "own_low" = some none))))))))))))))))))))
def ex_6 (K : PySem.W.Frag) : Bool := decide (PySem.W.findIn K (.ref (adK K).Span) "own_high" = some none) && (decide (PySem.W.subIn K (.ref (adK K).Net) (.ref (adK K).Span) = some false) && (decide (PySem.W.plainGet K (adK K).Net Str.empty = true) && (decide (PySem.W.hasDictIn K (adK K).Net = true) && (decide (PySem.W.plainOver K (adK K).Net = true) && (decide (PySem.W.findIn K (.ref (adK K).Net) "__setattr__" = some (some (.builtin "object.__setattr__"))) && (decide (PySem.W.findIn K (.ref (adK K).Net) "__class__" = some (some (.builtin "object.__class__"))) && (decide (PySem.W.mroIn K (adK K).Net (.type "object") = some true) && (decide (PySem.W.makesIn K (adK K).Net = true) && (decide (PySem.W.keepIn K (.ref (adK K).Net) = true) && (decide (PySem.W.selfFirst K (adK K).Net = true) && (decide (PySem.W.findIn K (.ref (adK K).Net) "__ne__" = some (some (.builtin "object.__ne__"))) && (decide (PySem.W.subIn K (.ref (adK K).Net) (.type "object") = some true) && (decide (PySem.W.isClsIn K (adK K).Net = true) && (decide (PySem.W.typeIn K (.ref (adK K).Net) = some (.type "type")) && (decide (PySem.W.subIn K (.ref (adK K).Net) (.ref (adK K).Net) = some true) && (decide (PySem.W.subIn K (.ref (adK K).Net) (.type "NoneType") = some false) && (decide (PySem.W.subIn K (.type "NoneType") (.ref (adK K).Net) = some false) && (decide (PySem.W.subIn K (.ref (adK K).Net) (.type "bool") = some false) && (decide (PySem.W.subIn K (.type "bool") (.ref (adK K).Net) = some false))))))))))))))))))))
def ex_7 (K : PySem.W.Frag) : Bool := decide (PySem.W.subIn K (.ref (adK K).Net) (.type "int") = some false) && (decide (PySem.W.subIn K (.type "int") (.ref (adK K).Net) = some false) && (decide (PySem.W.subIn K (.ref (adK K).Net) (.type "str") = some false) && (decide (PySem.W.subIn K (.type "str") (.ref (adK K).Net) = some false) && (decide (PySem.W.subIn K (.ref (adK K).Net) (.type "tuple") = some false) && (decide (PySem.W.subIn K (.type "tuple") (.ref (adK K).Net) = some false) && (decide (PySem.W.subIn K (.ref (adK K).Net) (.type "list") = some false) && (decide (PySem.W.subIn K (.type "list") (.ref (adK K).Net) = some false) && (decide (PySem.W.subIn K (.ref (adK K).Net) (.type "dict") = some false) && (decide (PySem.W.subIn K (.type "dict") (.ref (adK K).Net) = some false) && (decide (PySem.W.findIn K (.ref (adK K).Net) "own_levels" = some none) && (decide (PySem.W.findIn K (.ref (adK K).Net) "own_edges" = some none) && (decide (PySem.W.findIn K (.ref (adK K).Net) "own_near" = some none) && (decide (PySem.W.subIn K (.ref (adK K).Span) (.ref (adK K).Net) = some false) && (decide (PySem.W.specialIn K (.builtin "object.__class__") "__get__" = some (some (.builtin "getset_descriptor.__get__"))) && (decide (PySem.W.takesIn K (.builtin "object.__class__") = some true) && ((PySem.W.findIn K (.type "NoneType") "__add__").isSome && ((PySem.W.findIn K (.type "NoneType") "__radd__").isSome && ((PySem.W.findIn K (.type "bool") "__add__").isSome && ((PySem.W.findIn K (.type "bool") "__radd__").isSome)))))))))))))))))))
def ex_8 (K : PySem.W.Frag) : Bool := (PySem.W.findIn K (.type "int") "__add__").isSome && ((PySem.W.findIn K (.type "int") "__radd__").isSome && ((PySem.W.findIn K (.type "str") "__add__").isSome && ((PySem.W.findIn K (.type "str") "__radd__").isSome && ((PySem.W.findIn K (.type "tuple") "__add__").isSome && ((PySem.W.findIn K (.type "tuple") "__radd__").isSome && ((PySem.W.findIn K (.type "list") "__add__").isSome && ((PySem.W.findIn K (.type "list") "__radd__").isSome && ((PySem.W.findIn K (.type "dict") "__add__").isSome && ((PySem.W.findIn K (.type "dict") "__radd__").isSome && (decide (PySem.W.findIn K (.type "object") "__add__" = some none) && (decide (PySem.W.findIn K (.type "object") "__radd__" = some none) && (PySem.W.overObj K (adK K).Net && (decide ((adK K).Span ≠ (adK K).Net) && (DH.refB K (adK K).Net "__add__" && (DH.refB K (adK K).Net "__radd__" && ((PySem.W.findIn K (.type "NoneType") "__sub__").isSome && ((PySem.W.findIn K (.type "NoneType") "__rsub__").isSome && ((PySem.W.findIn K (.type "bool") "__sub__").isSome && ((PySem.W.findIn K (.type "bool") "__rsub__").isSome)))))))))))))))))))
def ex_9 (K : PySem.W.Frag) : Bool := (PySem.W.findIn K (.type "int") "__sub__").isSome && ((PySem.W.findIn K (.type "int") "__rsub__").isSome && ((PySem.W.findIn K (.type "str") "__sub__").isSome && ((PySem.W.findIn K (.type "str") "__rsub__").isSome && ((PySem.W.findIn K (.type "tuple") "__sub__").isSome && ((PySem.W.findIn K (.type "tuple") "__rsub__").isSome && ((PySem.W.findIn K (.type "list") "__sub__").isSome && ((PySem.W.findIn K (.type "list") "__rsub__").isSome && ((PySem.W.findIn K (.type "dict") "__sub__").isSome && ((PySem.W.findIn K (.type "dict") "__rsub__").isSome && (decide (PySem.W.findIn K (.ref (adK K).Span) "__rsub__" = some none) && (decide (PySem.W.findIn K (.type "object") "__sub__" = some none) && (decide (PySem.W.findIn K (.type "object") "__rsub__" = some none) && (decide (PySem.W.findIn K (.ref (adK K).Net) "__sub__" = some none) && (decide (PySem.W.findIn K (.ref (adK K).Net) "__rsub__" = some none) && ((PySem.W.findIn K (.type "NoneType") "__and__").isSome && ((PySem.W.findIn K (.type "NoneType") "__rand__").isSome && ((PySem.W.findIn K (.type "bool") "__and__").isSome && ((PySem.W.findIn K (.type "bool") "__rand__").isSome && ((PySem.W.findIn K (.type "int") "__and__").isSome)))))))))))))))))))
def ex_10 (K : PySem.W.Frag) : Bool := (PySem.W.findIn K (.type "int") "__rand__").isSome && ((PySem.W.findIn K (.type "str") "__and__").isSome && ((PySem.W.findIn K (.type "str") "__rand__").isSome && ((PySem.W.findIn K (.type "tuple") "__and__").isSome && ((PySem.W.findIn K (.type "tuple") "__rand__").isSome && ((PySem.W.findIn K (.type "list") "__and__").isSome && ((PySem.W.findIn K (.type "list") "__rand__").isSome && ((PySem.W.findIn K (.type "dict") "__and__").isSome && ((PySem.W.findIn K (.type "dict") "__rand__").isSome && (decide (PySem.W.findIn K (.ref (adK K).Span) "__rand__" = some none) && (decide (PySem.W.findIn K (.type "object") "__and__" = some none) && (decide (PySem.W.findIn K (.type "object") "__rand__" = some none) && (decide (PySem.W.findIn K (.ref (adK K).Net) "__and__" = some none) && (decide (PySem.W.findIn K (.ref (adK K).Net) "__rand__" = some none) && ((PySem.W.findIn K (.type "NoneType") "__or__").isSome && ((PySem.W.findIn K (.type "NoneType") "__ror__").isSome && ((PySem.W.findIn K (.type "bool") "__or__").isSome && ((PySem.W.findIn K (.type "bool") "__ror__").isSome && ((PySem.W.findIn K (.type "int") "__or__").isSome && ((PySem.W.findIn K (.type "int") "__ror__").isSome)))))))))))))))))))
def ex_11 (K : PySem.W.Frag) : Bool := (PySem.W.findIn K (.type "str") "__or__").isSome && ((PySem.W.findIn K (.type "str") "__ror__").isSome && ((PySem.W.findIn K (.type "tuple") "__or__").isSome && ((PySem.W.findIn K (.type "tuple") "__ror__").isSome && ((PySem.W.findIn K (.type "list") "__or__").isSome && ((PySem.W.findIn K (.type "list") "__ror__").isSome && ((PySem.W.findIn K (.type "dict") "__or__").isSome && ((PySem.W.findIn K (.type "dict") "__ror__").isSome && (decide (PySem.W.findIn K (.ref (adK K).Span) "__ror__" = some none) && (decide (PySem.W.findIn K (.type "object") "__or__" = some none) && (decide (PySem.W.findIn K (.type "object") "__ror__" = some none) && (DH.refB K (adK K).Net "__or__" && (decide (PySem.W.findIn K (.ref (adK K).Net) "__ror__" = some none) && (DH.excB K (adK K).InvalidLevel "ValueError.__new__" [.type "ValueError", .type "Exception", .type "BaseException", .type "object"] && (decide (PySem.W.findIn K (.ref (adK K).InvalidLevel) "__setattr__" = some (some (.builtin "object.__setattr__"))) && (decide (PySem.W.subIn K (.ref (adK K).InvalidLevel) (.type "BaseException") = some true) && (decide (PySem.W.typeIn K (.ref (adK K).InvalidLevel) = some (.type "type")) && (decide (PySem.W.keepIn K (.ref (adK K).InvalidLevel) = true) && (decide (PySem.W.typeIn K (.ref (adK K).f_InvalidLevel___init__) = some (.type "function")) && (decide (PySem.W.findIn K (.ref (adK K).InvalidLevel) "__getattribute__" = some (some (.builtin "BaseException.__getattribute__"))))))))))))))))))))))
def ex_12 (K : PySem.W.Frag) : Bool := decide (PySem.W.findIn K (.ref (adK K).InvalidLevel) "__getattr__" = some none) && (decide (PySem.W.hasDictIn K (adK K).InvalidLevel = true) && (decide (PySem.W.findIn K (.ref (adK K).InvalidLevel) "__class__" = some (some (.builtin "object.__class__"))) && (decide (PySem.W.mroIn K (adK K).InvalidLevel (.type "object") = some true) && (decide (PySem.W.subIn K (.ref (adK K).InvalidLevel) (.ref (adK K).InvalidLevel) = some true) && (decide (PySem.W.findIn K (.ref (adK K).InvalidLevel) "value" = some none) && (decide (PySem.W.isClsIn K (adK K).AbreastError = true) && (decide (PySem.W.typeIn K (.ref (adK K).AbreastError) = some (.type "type")) && (decide (PySem.W.subIn K (.ref (adK K).InvalidLevel) (.ref (adK K).AbreastError) = some true) && (decide (PySem.W.subIn K (.ref (adK K).InvalidLevel) (.ref (adK K).InvalidSpan) = some false) && (decide (PySem.W.subIn K (.ref (adK K).InvalidLevel) (.ref (adK K).EmptySpan) = some false) && (decide (PySem.W.subIn K (.ref (adK K).InvalidLevel) (.ref (adK K).Apart) = some false) && (DH.excB K (adK K).InvalidSpan "ValueError.__new__" [.type "ValueError", .type "Exception", .type "BaseException", .type "object"] && (decide (PySem.W.findIn K (.ref (adK K).InvalidSpan) "__setattr__" = some (some (.builtin "object.__setattr__"))) && (decide (PySem.W.subIn K (.ref (adK K).InvalidSpan) (.type "BaseException") = some true) && (decide (PySem.W.typeIn K (.ref (adK K).InvalidSpan) = some (.type "type")) && (decide (PySem.W.keepIn K (.ref (adK K).InvalidSpan) = true) && (decide (PySem.W.typeIn K (.ref (adK K).f_InvalidSpan___init__) = some (.type "function")) && (decide (PySem.W.findIn K (.ref (adK K).InvalidSpan) "__getattribute__" = some (some (.builtin "BaseException.__getattribute__"))) && (decide (PySem.W.findIn K (.ref (adK K).InvalidSpan) "__getattr__" = some none))))))))))))))))))))
def ex_13 (K : PySem.W.Frag) : Bool := decide (PySem.W.hasDictIn K (adK K).InvalidSpan = true) && (decide (PySem.W.findIn K (.ref (adK K).InvalidSpan) "__class__" = some (some (.builtin "object.__class__"))) && (decide (PySem.W.mroIn K (adK K).InvalidSpan (.type "object") = some true) && (decide (PySem.W.subIn K (.ref (adK K).InvalidSpan) (.ref (adK K).InvalidSpan) = some true) && (decide (PySem.W.findIn K (.ref (adK K).InvalidSpan) "value" = some none) && (decide (PySem.W.subIn K (.ref (adK K).InvalidSpan) (.ref (adK K).AbreastError) = some true) && (decide (PySem.W.subIn K (.ref (adK K).InvalidSpan) (.ref (adK K).InvalidLevel) = some false) && (decide (PySem.W.subIn K (.ref (adK K).InvalidSpan) (.ref (adK K).EmptySpan) = some false) && (decide (PySem.W.subIn K (.ref (adK K).InvalidSpan) (.ref (adK K).Apart) = some false) && (DH.excB K (adK K).EmptySpan "ValueError.__new__" [.type "ValueError", .type "Exception", .type "BaseException", .type "object"] && (decide (PySem.W.findIn K (.ref (adK K).EmptySpan) "__setattr__" = some (some (.builtin "object.__setattr__"))) && (decide (PySem.W.subIn K (.ref (adK K).EmptySpan) (.type "BaseException") = some true) && (decide (PySem.W.typeIn K (.ref (adK K).EmptySpan) = some (.type "type")) && (decide (PySem.W.keepIn K (.ref (adK K).EmptySpan) = true) && (decide (PySem.W.typeIn K (.ref (adK K).f_EmptySpan___init__) = some (.type "function")) && (decide (PySem.W.findIn K (.ref (adK K).EmptySpan) "__getattribute__" = some (some (.builtin "BaseException.__getattribute__"))) && (decide (PySem.W.findIn K (.ref (adK K).EmptySpan) "__getattr__" = some none) && (decide (PySem.W.hasDictIn K (adK K).EmptySpan = true) && (decide (PySem.W.findIn K (.ref (adK K).EmptySpan) "__class__" = some (some (.builtin "object.__class__"))) && (decide (PySem.W.mroIn K (adK K).EmptySpan (.type "object") = some true))))))))))))))))))))
def ex_14 (K : PySem.W.Frag) : Bool := decide (PySem.W.subIn K (.ref (adK K).EmptySpan) (.ref (adK K).EmptySpan) = some true) && (decide (PySem.W.findIn K (.ref (adK K).EmptySpan) "greatest" = some none) && (decide (PySem.W.findIn K (.ref (adK K).EmptySpan) "least" = some none) && (decide (PySem.W.subIn K (.ref (adK K).EmptySpan) (.ref (adK K).AbreastError) = some true) && (decide (PySem.W.subIn K (.ref (adK K).EmptySpan) (.ref (adK K).InvalidLevel) = some false) && (decide (PySem.W.subIn K (.ref (adK K).EmptySpan) (.ref (adK K).InvalidSpan) = some false) && (decide (PySem.W.subIn K (.ref (adK K).EmptySpan) (.ref (adK K).Apart) = some false) && (DH.excB K (adK K).Apart "RuntimeError.__new__" [.type "RuntimeError", .type "Exception", .type "BaseException", .type "object"] && (decide (PySem.W.findIn K (.ref (adK K).Apart) "__setattr__" = some (some (.builtin "object.__setattr__"))) && (decide (PySem.W.subIn K (.ref (adK K).Apart) (.type "BaseException") = some true) && (decide (PySem.W.typeIn K (.ref (adK K).Apart) = some (.type "type")) && (decide (PySem.W.keepIn K (.ref (adK K).Apart) = true) && (decide (PySem.W.typeIn K (.ref (adK K).f_Apart___init__) = some (.type "function")) && (decide (PySem.W.findIn K (.ref (adK K).Apart) "__getattribute__" = some (some (.builtin "BaseException.__getattribute__"))) && (decide (PySem.W.findIn K (.ref (adK K).Apart) "__getattr__" = some none) && (decide (PySem.W.hasDictIn K (adK K).Apart = true) && (decide (PySem.W.findIn K (.ref (adK K).Apart) "__class__" = some (some (.builtin "object.__class__"))) && (decide (PySem.W.mroIn K (adK K).Apart (.type "object") = some true) && (decide (PySem.W.subIn K (.ref (adK K).Apart) (.ref (adK K).Apart) = some true) && (decide (PySem.W.findIn K (.ref (adK K).Apart) "other" = some none))))))))))))))))))))
def ex_15 (K : PySem.W.Frag) : Bool := decide (PySem.W.findIn K (.ref (adK K).Apart) "one" = some none) && (decide (PySem.W.isClsIn K (adK K).StateError = true) && (decide (PySem.W.typeIn K (.ref (adK K).StateError) = some (.type "type")) && (decide (PySem.W.subIn K (.ref (adK K).Apart) (.ref (adK K).StateError) = some true) && (decide (PySem.W.subIn K (.ref (adK K).Apart) (.ref (adK K).AbreastError) = some false) && (decide (PySem.W.isClsIn K (adK K).MissingError = true) && (decide (PySem.W.typeIn K (.ref (adK K).MissingError) = some (.type "type")) && (decide (PySem.W.subIn K (.ref (adK K).Apart) (.ref (adK K).MissingError) = some false) && (decide (PySem.W.isClsIn K (adK K).LimitError = true) && (decide (PySem.W.typeIn K (.ref (adK K).LimitError) = some (.type "type")) && (decide (PySem.W.subIn K (.ref (adK K).Apart) (.ref (adK K).LimitError) = some false) && (decide (PySem.W.subIn K (.ref (adK K).Apart) (.ref (adK K).InvalidLevel) = some false) && (decide (PySem.W.subIn K (.ref (adK K).Apart) (.ref (adK K).InvalidSpan) = some false) && (decide (PySem.W.subIn K (.ref (adK K).Apart) (.ref (adK K).EmptySpan) = some false) && (decide (PySem.W.nsIn K mainGlobals "isinstance" = some none) && (decide (PySem.W.nsIn K mainGlobals "min" = some none) && (decide (PySem.W.nsIn K mainGlobals "max" = some none) && (decide (PySem.W.nsIn K mainGlobals "len" = some none) && (decide (PySem.W.nsIn K mainGlobals "abs" = some none) && (decide (PySem.W.nsIn K mainGlobals "int" = some none))))))))))))))))))))
def ex_16 (K : PySem.W.Frag) : Bool := decide (PySem.W.nsIn K mainGlobals "divmod" = some none) && (decide (PySem.W.nsIn K mainGlobals "str" = some none) && (decide (PySem.W.nsIn K mainGlobals "repr" = some none) && (decide (PySem.W.nsIn K mainGlobals "range" = some none) && (decide (PySem.W.nsIn K mainGlobals "all" = some none) && (decide (PySem.W.nsIn K mainGlobals "enumerate" = some none) && (decide (PySem.W.nsIn K mainGlobals "bool" = some none) && (decide (PySem.W.nsIn K mainGlobals "list" = some none) && (decide (PySem.W.nsIn K mainGlobals "tuple" = some none) && (decide (PySem.W.nsIn K mainGlobals "dict" = some none) && (decide (PySem.W.nsIn K mainGlobals "sorted" = some none) && (decide (PySem.W.nsIn K mainGlobals "zip" = some none) && (decide ((adK K).t__law_span_right ≠ (adK K).t__law_around_right) && (decide ((adK K).t__law_span_right ≠ (adK K).t__law_moved_right) && (decide ((adK K).t__law_span_right ≠ (adK K).t__law_joined_right) && (decide ((adK K).t__law_span_right ≠ (adK K).t__law_apart_right) && (decide ((adK K).t__law_around_right ≠ (adK K).t__law_moved_right) && (decide ((adK K).t__law_around_right ≠ (adK K).t__law_joined_right) && (decide ((adK K).t__law_around_right ≠ (adK K).t__law_apart_right) && (decide ((adK K).t__law_moved_right ≠ (adK K).t__law_joined_right))))))))))))))))))))
def ex_17 (K : PySem.W.Frag) : Bool := decide ((adK K).t__law_moved_right ≠ (adK K).t__law_apart_right) && (decide ((adK K).t__law_joined_right ≠ (adK K).t__law_apart_right))
def exL (K : PySem.W.Frag) : Bool := ex_0 K && (ex_1 K && (ex_2 K && (ex_3 K && (ex_4 K && (ex_5 K && (ex_6 K && (ex_7 K && (ex_8 K && (ex_9 K && (ex_10 K && (ex_11 K && (ex_12 K && (ex_13 K && (ex_14 K && (ex_15 K && (ex_16 K && (ex_17 K)))))))))))))))))
def nam_0 : List PySem.Str := ["_wall", "__name__", "AbreastError", "InvalidLevel", "InvalidSpan", "EmptySpan", "InvalidNodes", "InvalidEdges", "InvalidNet", "MissingError", "UnknownNode", "StateError", "Apart", "NameTaken", "LimitError"]
def nam_1 : List PySem.Str := ["TooMany", "LETTERS", "DIGITS", "MOST_SIGNS", "is_integer", "is_list", "is_name", "want_level", "Span", "want_span", "is_pair", "told_edge", "checked_levels", "checked_edges", "first_shared"]
def nam_2 : List PySem.Str := ["neighbours_in", "Net", "want_net", "_law_pot", "_law_draw", "_law_pick", "_law_number", "_law_thing", "_law_whole", "_law_told", "_law_shown", "_law_due_span", "_law_span_right", "_law_around_right", "_law_moved_right"]
def nam_3 : List PySem.Str := ["_law_joined_right", "_law_unlike_right", "_law_apart_right", "_law_right"]
def asL : List Addr := [3, 6, 4, 21, 31, 51, 70, 89, 108, 127, 146, 158, 178, 190, 210, 229, 241, 261, 270, 277, 282, 289, 445, 456, 461, 468, 473, 480, 487, 492, 645, 656, 663, 670, 677, 684, 691, 698, 705, 712, 719, 726, 731, 738, 745, 752, 759, 764, 769, 0, 20, 30, 50, 69, 88, 107, 126, 145, 157, 177, 189, 209, 228, 240, 260, 269, 276, 281, 288, 444, 455, 460, 467, 472, 479, 486, 491, 644, 655, 662, 669, 676, 683, 690, 697, 704, 711, 718, 725, 730, 737, 744, 751, 758, 763, 768, 15, 17, 18, 19, 29, 32, 48, 49, 67, 68, 86, 87, 105, 106, 124, 125, 143, 144, 156, 159, 175, 176, 188, 191, 207, 208, 226, 227, 239, 242, 258, 259, 264, 266, 267, 268, 271, 273, 274, 275, 278, 280, 283, 285, 286, 287, 303, 312, 321, 329, 337, 344, 351, 358, 365, 372, 379, 386, 393, 400, 407, 414, 421, 428, 435, 442, 443, 446, 447, 450, 452, 453, 454, 457, 459, 462, 464, 465, 466, 469, 471, 474, 476, 477, 478, 481, 483, 484, 485, 488, 490, 506, 513, 522, 529, 536, 543, 550, 557, 564, 571, 578, 585, 592, 599, 606, 611, 616, 621, 628, 635, 642, 643, 646, 647, 650, 652, 653, 654, 657, 659, 660, 661, 664, 666, 667, 668, 671, 673, 674, 675, 678, 680, 681, 682, 685, 687, 688, 689, 692, 694, 695, 696, 699, 701, 702, 703, 706, 708, 709, 710, 713, 715, 716, 717, 720, 722, 723, 724, 727, 729, 732, 734, 735, 736, 739, 741, 742, 743, 746, 748, 749, 750, 753, 755, 756, 757, 760, 762, 765, 767, 47, 66, 85, 104, 123, 142, 174, 206, 225, 257, 302, 310, 311, 320, 328, 336, 343, 350, 357, 364, 371, 378, 385, 392, 399, 406, 413, 420, 427, 434, 441, 505, 501, 511, 512, 521, 528, 535, 542, 549, 556, 563, 570, 577, 584, 591, 598, 605, 610, 615, 620, 627, 634, 641, 42, 44, 45, 46, 61, 63, 64, 65, 80, 82, 83, 84, 99, 101, 102, 103, 118, 120, 121, 122, 137, 139, 140, 141, 169, 171, 172, 173, 201, 203, 204, 205, 220, 222, 223, 224, 252, 254, 255, 256, 297, 299, 300, 301, 309, 313, 319, 327, 335, 338, 340, 341, 342, 345, 347, 348, 349, 352, 354, 355, 356, 359, 361, 362, 363, 366, 368, 369, 370, 373, 375, 376, 377, 380, 382, 383, 384, 387, 389, 390, 391, 394, 396, 397, 398, 401, 403, 404, 405, 408, 410, 411, 412, 415, 417, 418, 419, 422, 424, 425, 426, 429, 431, 432, 433, 436, 438, 439, 440, 502, 504, 500, 510, 514, 520, 523, 525, 526, 527, 530, 532, 533, 534, 537, 539, 540, 541, 544, 546, 547, 548, 551, 553, 554, 555, 558, 560, 561, 562, 565, 567, 568, 569, 572, 574, 575, 576, 579, 581, 582, 583, 586, 588, 589, 590, 593, 595, 596, 597, 600, 602, 603, 604, 607, 609, 612, 614, 617, 619, 622, 624, 625, 626, 629, 631, 632, 633, 636, 638, 639, 640, 2]
def namL : List PySem.Str := nam_0 ++ nam_1 ++ nam_2 ++ nam_3
abbrev RR : PySem.W.OpenRow := PySem.W.OpenLaw.row PySem.Challenge.rw_abreast_k12_spans_refused
abbrev hk : PySem.W.Hook := DH.hook asL fnL tfL exL
def ob (s : PySem.W.SharedT) : He.AlD := DH.obs asL fnL tfL exL (HandSHeadRun.getT s)
theorem ob_eq (s : PySem.W.SharedT) : ob s = hk.obs s.abs := DH.obs_eq (HandSHeadRun.getT_eq s)
set_option maxHeartbeats 0 in
theorem run (w : World) : HandSHeadRun.RunEq RR (PySem.W.view RR.prog [53]) hk ob 8000 namL w := by
  intro os
  kernel_rfl

/-! ### data -/
abbrev spv (l h : Int) : D := .ob 0 [.int l, .int h]
abbrev netD : D := .ob 5 [.dic [(.inr "p0", .int 0), (.inr "p1", .int 1)], .lst [.tup [.str "p0", .str "p1"]], .dic [(.inr "p0", .lst [.str "p1"]), (.inr "p1", .lst [.str "p0"])]]
def okV : D → Prop
  | .ty _ | .ref _ | .exc _ _ _ _ | .fn _ _ _ _ _ => False
  | .ob c ys => (c = 0 ∧ ∃ l h : Int, ys = [.int l, .int h] ∧ l ≤ h) ∨ (c = 5 ∧ .ob c ys = netD)
  | _ => True
def isIB : D → Bool
  | .int _ | .bl _ => true
  | _ => false
def isBo : D → Bool
  | .bl _ => true
  | _ => false
def isI : D → Bool
  | .int _ => true
  | _ => false
def isO (n : Nat) : D → Bool
  | .ob c _ => decide (c = n)
  | _ => false
theorem okV_sp {l h : Int} (le : l ≤ h) : okV (spv l h) := .inl ⟨rfl, l, h, rfl, le⟩
theorem okV_net : okV netD := .inr ⟨rfl, rfl⟩
/-- the kinds of the values that are no objects -/
theorem okV_kind {v : D} (ok : okV v) (no : ∀ c ys, v ≠ .ob c ys) : ∃ t, tyD (G a) v = some (.type t) ∧ kT v = some t ∧ t ∈ kTs := by
  cases v with
  | ob c ys => exact absurd rfl (no c ys)
  | ty n => exact ok.elim
  | ref n => exact ok.elim
  | exc _ _ _ _ => exact ok.elim
  | fn _ _ _ _ _ => exact ok.elim
  | _ => exact ⟨_, rfl, rfl, by decide⟩
theorem okV_ob {c : Nat} {ys : List D} (ok : okV (.ob c ys)) : (∃ l h, D.ob c ys = spv l h ∧ l ≤ h) ∨ D.ob c ys = netD := by
  rcases ok with ⟨rfl, l, h, rfl, le⟩ | ⟨rfl, e⟩
  · exact .inl ⟨l, h, rfl, le⟩
  · exact .inr e
theorem isi_bi (T : Tx K mg base a d) {v : D} {t : String} {b : Bool} (h : okV v) (hk : (∃ c ys, v = .ob c ys) → PySem.W.kitOne K (.ref a.Span) (.type t) = some b ∧ PySem.W.kitOne K (.ref a.Net) (.type t) = some b) (hb : ∀ u, tyD (G a) v = some (.type u) → kitB u t = some b) {m : M} {Q : DK} (q : Q (.bl b) m) : isiD (G a) K [v, .ty t] m Q := by
  by_cases isOb : ∃ c ys, v = .ob c ys
  · obtain ⟨c, ys, rfl⟩ := isOb
    obtain ⟨k1, k2⟩ := hk ⟨c, ys, rfl⟩
    rcases okV_ob h with ⟨l, h, e, _⟩ | e <;> cases e
    · exact ⟨_, _, _, _, _, rfl, rfl, rfl, (fun c ys z => by cases z; exact T.is_Span), k1, q⟩
    · exact ⟨_, _, _, _, _, rfl, rfl, rfl, (fun c ys z => by cases z; exact T.is_Net), k2, q⟩
  · obtain ⟨u, e, _, _⟩ := okV_kind (a := a) h fun c ys z => isOb ⟨c, ys, z⟩
    exact ⟨_, _, _, _, _, rfl, e, rfl, (fun c ys z => absurd ⟨c, ys, z⟩ isOb), kit_ty (hb u e), q⟩
theorem isi_int (T : Tx K mg base a d) {v : D} (h : okV v) {m : M} {Q : DK} (q : Q (.bl (isIB v)) m) : isiD (G a) K [v, .ty "int"] m Q :=
  isi_bi T h (fun ⟨c, ys, e⟩ => by subst e; exact ⟨T.ki_Span_int, T.ki_Net_int⟩) (fun u e => by cases v <;> first | exact h.elim | (cases e; simp only [isIB]; decide +kernel) | cases e) q
theorem isi_bool (T : Tx K mg base a d) {v : D} (h : okV v) {m : M} {Q : DK} (q : Q (.bl (isBo v)) m) : isiD (G a) K [v, .ty "bool"] m Q :=
  isi_bi T h (fun ⟨c, ys, e⟩ => by subst e; exact ⟨T.ki_Span_bool, T.ki_Net_bool⟩) (fun u e => by cases v <;> first | exact h.elim | (cases e; simp only [isBo]; decide +kernel) | cases e) q
theorem kj_Span (T : Tx K mg base a d) : ∀ t ∈ kTs, PySem.W.kitOne K (.type t) (.ref a.Span) = some false := by
  intro t h
  simp only [kTs, List.mem_cons, List.not_mem_nil, or_false] at h
  rcases h with rfl | rfl | rfl | rfl | rfl | rfl | rfl <;> first | exact T.kj_NoneType_Span | exact T.kj_bool_Span | exact T.kj_int_Span | exact T.kj_str_Span | exact T.kj_tuple_Span | exact T.kj_list_Span | exact T.kj_dict_Span
theorem kj_Net (T : Tx K mg base a d) : ∀ t ∈ kTs, PySem.W.kitOne K (.type t) (.ref a.Net) = some false := by
  intro t h
  simp only [kTs, List.mem_cons, List.not_mem_nil, or_false] at h
  rcases h with rfl | rfl | rfl | rfl | rfl | rfl | rfl <;> first | exact T.kj_NoneType_Net | exact T.kj_bool_Net | exact T.kj_int_Net | exact T.kj_str_Net | exact T.kj_tuple_Net | exact T.kj_list_Net | exact T.kj_dict_Net
theorem kit_self {x : Addr} : PySem.W.kitOne K (.ref x) (.ref x) = some true := by
  show (if (Value.ref x == Value.ref x) = true then some true else _) = some true
  rw [if_pos (by simp)]
theorem ty_ok (T : Tx K mg base a d) {v : D} (h : okV v) : ∃ t b b2, tyD (G a) v = some t ∧ (∀ c ys, v = .ob c ys → IsC K ((G a) c).addr) ∧ PySem.W.kitOne K t (.ref a.Span) = some b ∧ PySem.W.kitOne K t (.ref a.Net) = some b2 ∧ b = isO 0 v ∧ b2 = isO 5 v := by
  by_cases isOb : ∃ c ys, v = .ob c ys
  · obtain ⟨c, ys, rfl⟩ := isOb
    rcases okV_ob h with ⟨l, h, e, _⟩ | e <;> cases e
    · exact ⟨_, _, _, rfl, (fun c ys z => by cases z; exact T.is_Span), kit_self, T.kk_Span_Net, rfl, rfl⟩
    · exact ⟨_, _, _, rfl, (fun c ys z => by cases z; exact T.is_Net), T.kk_Net_Span, kit_self, rfl, rfl⟩
  · obtain ⟨u, e, _, m⟩ := okV_kind (a := a) h fun c ys z => isOb ⟨c, ys, z⟩
    refine ⟨_, _, _, e, (fun c ys z => absurd ⟨c, ys, z⟩ isOb), kj_Span T u m, kj_Net T u m, ?_, ?_⟩ <;> (cases v <;> first | rfl | exact absurd ⟨_, _, rfl⟩ isOb)
theorem isi_span (T : Tx K mg base a d) {v : D} (h : okV v) {m : M} {Q : DK} (q : Q (.bl (isO 0 v)) m) : isiD (G a) K [v, .ref a.Span] m Q := by
  obtain ⟨t, b, b2, h1, h2, h3, h4, rfl, rfl⟩ := ty_ok T h
  exact ⟨_, _, t, _, _, rfl, h1, rfl, h2, h3, q⟩
theorem isi_net (T : Tx K mg base a d) {v : D} (h : okV v) {m : M} {Q : DK} (q : Q (.bl (isO 5 v)) m) : isiD (G a) K [v, .ref a.Net] m Q := by
  obtain ⟨t, b, b2, h1, h2, h3, h4, rfl, rfl⟩ := ty_ok T h
  exact ⟨_, _, t, _, _, rfl, h1, rfl, h2, h4, q⟩
theorem isi_both (T : Tx K mg base a d) {v : D} (h : okV v) {m : M} {Q : DK} (q : Q (.bl (isO 0 v || isO 5 v)) m) : isiTD (G a) K [v, .tup [.ref a.Span, .ref a.Net]] m Q := by
  obtain ⟨t, b, b2, h1, h2, h3, h4, e1, e2⟩ := ty_ok T h
  refine ⟨v, [.ref a.Span, .ref a.Net], t, [.ref a.Span, .ref a.Net], _, rfl, h1, rfl, h2, ?_, q⟩
  rw [← e1, ← e2]
  refine kitAny_cons (b := b) h3 (fun e => ?_) (fun e => by rw [e]; rfl)
  rw [e]
  refine kitAny_cons (b := b2) h4 (fun e => ?_) (fun e => by rw [e]; rfl)
  rw [e]
  exact kitAny_nil
theorem lk_low {a : Ad} {l h : D} : (((G a) 0).flds.zip [l, h]).lookup ("own_low" : Str) = some l := by rfl
theorem lk_high {a : Ad} {l h : D} : (((G a) 0).flds.zip [l, h]).lookup ("own_high" : Str) = some h := by rfl
theorem put_high {l h : D} : putD ("own_high" : Str) h (putD ("own_low" : Str) l []) = [(("own_low" : Str), l), (("own_high" : Str), h)] := by
  show (if ("own_low" : Str) = "own_high" then _ else (("own_low" : Str), l) :: putD "own_high" h []) = _
  rw [if_neg (by decide +kernel)]
  rfl
/-! ### what repr tells -/
def repS (l h : Int) : Str := "Span(" ++ istr l ++ ", " ++ istr h ++ ")"
def netT : Str := "Net(" ++ shX (.dic [(.inr "p0", .int 0), (.inr "p1", .int 1)]) ++ ", " ++ shX (.lst [.tup [.str "p0", .str "p1"]]) ++ ")"
inductive Say : D → Str → Prop
  | plain {v : D} (h : okX v) (s : Oks (shX v)) : Say v (shX v)
  | span {l h : Int} (f1 : Few l) (f2 : Few h) : Say (spv l h) (repS l h)
  | net : Say netD netT
  | two {l h l2 h2 : Int} (f1 : Few l) (f2 : Few h) (f3 : Few l2) (f4 : Few h2) : Say (.tup [spv l h, spv l2 h2]) (tupleText [repS l h, repS l2 h2])
theorem oks_repS {l h : Int} : Oks (repS l h) := ((((oks_lit (by decide +kernel)).app (oks_istr l)).app (oks_lit (by decide +kernel))).app (oks_istr h)).app (oks_lit (by decide +kernel))
theorem Say.oks {v : D} {t : Str} (h : Say v t) : Oks t := by
  cases h with
  | plain _ s => exact s
  | span => exact oks_repS
  | net => exact oks_lit (by decide +kernel)
  | two =>
    refine oks_tuple fun t m => ?_
    simp only [List.mem_cons, List.not_mem_nil, or_false] at m
    rcases m with rfl | rfl <;> exact oks_repS
def anyR : DR := fun xs m Q => ∃ v t, xs = [v] ∧ Say v t ∧ Q (.str t) m
/-! ### promises -/
def s_isint : DSp := fun xs m Q _ => ∃ v, xs = [v] ∧ okV v ∧ Q (.bl (isI v)) m
def s_wlev : DSp := fun xs m Q x => ∃ v, xs = [v] ∧ okV v ∧ (if isI v = true then Q .non m else x 1 [v] m)
def s_wspan : DSp := fun xs m Q x => ∃ v, xs = [v] ∧ okV v ∧ (if isO 0 v = true then Q .non m else x 2 [v] m)
def s_init : DSp := fun xs m Q x => ∃ p u v, xs = [.ref p, u, v] ∧ okV u ∧ okV v ∧ m p = some (.ob 0 []) ∧ (isI u = false → x 1 [u] m) ∧ (isI u = true → isI v = false → x 1 [v] m) ∧
  ∀ l h, u = .int l → v = .int h → (h < l → x 3 [.int h, .int l] m) ∧ (l ≤ h → Q .non (mset m p (.ob 0 [("own_low", .int l), ("own_high", .int h)])))
def s_get (f : Int → Int → D) : DSp := fun xs m Q _ => ∃ l h, xs = [spv l h] ∧ Q (f l h) m
def s_two (f : Int → Int → Int → Int → D) : DSp := fun xs m Q x => ∃ l h v, xs = [spv l h, v] ∧ l ≤ h ∧ okV v ∧ (isO 0 v = false → x 2 [v] m) ∧ ∀ l2 h2, v = spv l2 h2 → l2 ≤ h2 → Q (f l h l2 h2) m
def s_int (f : Int → Int → Int → D) : DSp := fun xs m Q x => ∃ l h v, xs = [spv l h, v] ∧ l ≤ h ∧ okV v ∧ (isI v = false → x 1 [v] m) ∧ ∀ n, v = .int n → Q (f l h n) m
def aprt (l h l2 h2 : Int) : Prop := l2 > h ∨ l > h2
instance {l h l2 h2 : Int} : Decidable (aprt l h l2 h2) := by unfold aprt; infer_instance
def s_and : DSp := fun xs m Q x => ∃ l h v, xs = [spv l h, v] ∧ l ≤ h ∧ okV v ∧ (isO 0 v = false → x 2 [v] m) ∧ ∀ l2 h2, v = spv l2 h2 → l2 ≤ h2 → (if aprt l h l2 h2 then x 4 [spv l2 h2, spv l h] m else Q (spv (max l l2) (min h h2)) m)
def eqSp (l h : Int) : D → Bool
  | .ob 0 [.int l2, .int h2] => decide (l = l2) && decide (h = h2)
  | _ => false
def s_eq : DSp := fun xs m Q _ => ∃ l h v, xs = [spv l h, v] ∧ okV v ∧ Q (.bl (eqSp l h v)) m
def s_txt (f : Int → Int → Str) : DSp := fun xs m Q _ => ∃ l h, xs = [spv l h] ∧ Few l ∧ Few h ∧ Q (.str (f l h)) m
def s_around : DSp := fun xs m Q x => (∀ v ∈ xs, okV v) ∧ xs.length ≤ 100 ∧ (∀ v, xs.find? (fun v => !isI v) = some v → x 1 [v] m) ∧ (xs = [] → x 3 [.non, .non] m) ∧ ∀ ns : List Int, xs = ns.map D.int → ns ≠ [] → Q (spv (mnL ns) (mxL ns)) m
def s_neq : DSp := fun xs m Q _ => ∃ v, xs = [netD, v] ∧ okV v ∧ isO 5 v = false ∧ Q (.bl false) m
def s_nrep : DSp := fun xs m Q _ => xs = [netD] ∧ Q (.str netT) m
/-! the law's own -/
def PotV (a b : Int) : Prop := 0 ≤ a ∧ 0 ≤ b ∧ b < 2 ^ 32
def potM (a b : Int) : MO := .lst [.int a, .int b]
def Pot (p : Addr) (m : M) : Prop := ∃ a b, m p = some (potM a b) ∧ PotV a b
def Pst (p : Addr) (m m' : M) : Prop := ∃ a b, PotV a b ∧ m' = mset m p (potM a b)
theorem Pst.pot {p : Addr} {m m' : M} : Pst p m m' → Pot p m' := fun ⟨a, b, h, e⟩ => ⟨a, b, by rw [e]; exact mset_same, h⟩
theorem Pst.trans {p : Addr} {m m1 m2 : M} : Pst p m m1 → Pst p m1 m2 → Pst p m m2 := fun ⟨a, b, h, e⟩ ⟨c, d, h2, e2⟩ => ⟨c, d, h2, by rw [e2, e, mset_mset]⟩
theorem Pot.refl {p : Addr} {m : M} : Pot p m → Pst p m m := fun ⟨a, b, h, v⟩ => ⟨a, b, v, (mset_self h).symm⟩
def Sm (i : Int) : Prop := -(10 ^ 60) ≤ i ∧ i ≤ 10 ^ 60
theorem Sm.few {i : Int} (h : Sm i) : Few i := by
  unfold Few
  have : i.natAbs ≤ 10 ^ 60 := by have := h.1; have := h.2; omega
  exact Nat.lt_of_le_of_lt this (by decide +kernel)
/-- the tables of code objects of the defs that make lambdas -/
def Tbs (a : Ad) (m : M) : Prop := m a.t__law_span_right = some (.tbl "_law_span_right.<locals>.<lambda>") ∧ m a.t__law_around_right = some (.tbl "_law_around_right.<locals>.<lambda>") ∧ m a.t__law_moved_right = some (.tbl "_law_moved_right.<locals>.<lambda>") ∧ m a.t__law_joined_right = some (.tbl "_law_joined_right.<locals>.<lambda>") ∧ m a.t__law_apart_right = some (.tbl "_law_apart_right.<locals>.<lambda>")
theorem Pst.tbs {a : Ad} {p : Addr} {m m' : M} (t : Tbs a m) (hp : Pot p m) (s : Pst p m m') : Tbs a m' := by
  obtain ⟨x, y, hp, _⟩ := hp
  obtain ⟨x', y', _, rfl⟩ := s
  have keep : ∀ {t : Addr} {q : Str}, m t = some (.tbl q) → mset m p (potM x' y') t = some (.tbl q) := fun {t q} e => by
    rw [mset_ne]
    · exact e
    · intro z
      subst z
      rw [hp] at e
      cases e
  unfold Tbs at t ⊢
  obtain ⟨t0, t1, t2, t3, t4⟩ := t
  exact ⟨keep t0, keep t1, keep t2, keep t3, keep t4⟩

/-- what the law's told makes of an error -/
def errT (Q : D → M → Prop) : DX := fun c xs m =>
  (c = 1 ∧ ∃ v t, xs = [v] ∧ Say v t ∧ Q (.lst [.str "level", .str t, .bl true]) m) ∨ (c = 2 ∧ ∃ v t, xs = [v] ∧ Say v t ∧ Q (.lst [.str "span", .str t, .bl true]) m) ∨
  (c = 3 ∧ ∃ u v t, xs = [v, u] ∧ Say (.tup [u, v]) t ∧ Q (.lst [.str "empty", .str t, .bl true]) m) ∨ (c = 4 ∧ ∃ u v t, xs = [v, u] ∧ Say (.tup [u, v]) t ∧ Q (.lst [.str "apart", .str t, .bl true]) m)
theorem len1 {xs : List D} {v : D} (e : xs = [v]) : xs.length = 1 := by rw [e]; rfl
theorem len2 {xs : List D} {v w : D} (e : xs = [v, w]) : xs.length = 2 := by rw [e]; rfl
theorem len3 {xs : List D} {v w u : D} (e : xs = [v, w, u]) : xs.length = 3 := by rw [e]; rfl

/-! ### Net.path(0, 1) -/
abbrev lvD : D := .dic [(.inr "p0", .int 0), (.inr "p1", .int 1)]
abbrev edD : D := .tup [.str "p0", .str "p1"]
abbrev edsD : D := .lst [edD]
abbrev nrD : D := .dic [(.inr "p0", .lst [.str "p1"]), (.inr "p1", .lst [.str "p0"])]
def s_islist : DSp := fun xs m Q _ => xs = [edsD] ∧ Q (.bl true) m
def ltS : Str := "abcdefghijklmnopqrstuvwxyz"
def dgS : Str := "0123456789"
/-- a text's signs and length are those of a name -/
def isNm (x : Str) : Bool := if 1 ≤ x.length ∧ x.length ≤ 8 then (match x.cps.toList[0]? with | some c => subS ⟨#[c]⟩ ltS | none => false) && x.cps.toList.all (fun c => subS ⟨#[c]⟩ ltS || subS ⟨#[c]⟩ dgS) else false
def s_isname : DSp := fun xs m Q _ => ∃ x : Str, xs = [.str x] ∧ x.length ≤ sizeLine ∧ Q (.bl (isNm x)) m
theorem isi_str {m : M} {Q : DK} {x : Str} {t : String} {b : Bool} (h : kitB "str" t = some b) (q : Q (.bl b) m) : isiD (G a) K [.str x, .ty t] m Q := ⟨_, _, _, _, _, rfl, rfl, rfl, (fun c ys z => by cases z), kit_ty h, q⟩
theorem isi_tup {m : M} {Q : DK} {ys : List D} {t : String} {b : Bool} (h : kitB "tuple" t = some b) (q : Q (.bl b) m) : isiD (G a) K [.tup ys, .ty t] m Q := ⟨_, _, _, _, _, rfl, rfl, rfl, (fun c ys z => by cases z), kit_ty h, q⟩
theorem isi_dic {m : M} {Q : DK} {ys : List (Key × D)} {t : String} {b : Bool} (h : kitB "dict" t = some b) (q : Q (.bl b) m) : isiD (G a) K [.dic ys, .ty t] m Q := ⟨_, _, _, _, _, rfl, rfl, rfl, (fun c ys z => by cases z), kit_ty h, q⟩
theorem perm2 {α : Type} {x y : α} {ys : List α} (h : ys.Perm [x, y]) : ys = [x, y] ∨ ys = [y, x] := by
  have l := h.length_eq
  match ys, l with
  | [u, v], _ =>
    have h1 : u ∈ [x, y] := h.mem_iff.mp (by simp)
    have h2 : v ∈ [x, y] := h.mem_iff.mp (by simp)
    have h3 : x ∈ [u, v] := h.mem_iff.mpr (by simp)
    have h4 : y ∈ [u, v] := h.mem_iff.mpr (by simp)
    simp only [List.mem_cons, List.not_mem_nil, or_false] at h1 h2 h3 h4
    rcases h1 with rfl | rfl <;> rcases h2 with rfl | rfl <;> simp_all
def s_ispair : DSp := fun xs m Q _ => xs = [lvD, edD] ∧ Q (.bl true) m
def s_told : DSp := fun xs m Q _ => xs = [lvD, .str "p0", .str "p1"] ∧ Q edD m
def s_clev : DSp := fun xs m Q _ => xs = [lvD] ∧ Q lvD m
def s_cedg : DSp := fun xs m Q _ => xs = [lvD, edsD] ∧ Q edsD m
def s_near : DSp := fun xs m Q _ => ∃ x y : Str, xs = [.str x, edsD] ∧ (x = "p0" ∧ y = "p1" ∨ x = "p1" ∧ y = "p0") ∧ Q (.lst [.str y]) m
def s_ninit : DSp := fun xs m Q _ => ∃ p, xs = [.ref p, lvD, edsD] ∧ m p = some (.ob 5 []) ∧ Q .non (mset m p (.ob 5 [("own_levels", lvD), ("own_edges", edsD), ("own_near", nrD)]))
theorem atI_first {α : Type} {xs : List α} (h : 0 < xs.length) : atI xs 0 = some xs[0] := by
  unfold atI ixN
  simp [h]
theorem lv_0 : lookK [((.inr "p0" : Key), D.int 0), (.inr "p1", .int 1)] (.inr "p0") = some (.int 0) := by rfl
theorem lv_1 : lookK [((.inr "p0" : Key), D.int 0), (.inr "p1", .int 1)] (.inr "p1") = some (.int 1) := by rfl
def ed2 : S2 := ("p0", "p1")
def s_path (a : Ad) : DSp := fun xs m Q _ => xs = [.ref a.Net, .tup [.int 0, .int 1]] ∧ Q netD m

theorem lk_lev {a : Ad} {x y z : D} : (((G a) 5).flds.zip [x, y, z]).lookup ("own_levels" : Str) = some x := by rfl
theorem lk_edg {a : Ad} {x y z : D} : (((G a) 5).flds.zip [x, y, z]).lookup ("own_edges" : Str) = some y := by rfl
theorem okX_lev : okX (.dic [(.inr "p0", .int 0), (.inr "p1", .int 1)]) := .inr ⟨_, rfl, rfl, by decide +kernel, by decide +kernel, by decide +kernel⟩
theorem okX_edg : okX (.lst [.tup [.str "p0", .str "p1"]]) := .inl (okR.of (.lst (ROs.cons (.tup (ROs.cons (RO.str (Sh.lit (n := 2) (x := "p0") (by decide +kernel))) (ROs.cons (RO.str (Sh.lit (n := 2) (x := "p1") (by decide +kernel))) ROs.nil))) ROs.nil)))
theorem repS_sh {l h : Int} (f1 : Few l) (f2 : Few h) : Sh 3810 (repS l h) := by
  have p1 := Sh.lit (n := 5) (x := "Span(") (by decide +kernel)
  have p2 := Sh.lit (n := 2) (x := ", ") (by decide +kernel)
  have p3 := Sh.lit (n := 1) (x := ")") (by decide +kernel)
  exact ((((p1.app (Sh.istr f1)).app p2).app (Sh.istr f2)).app p3).mono (by decide)
theorem two_len {x y : Str} (h1 : x.length ≤ 100000) (h2 : y.length ≤ 100000) : (tupleText [x, y]).length ≤ 2 ^ 23 := by
  have j := join_length_add [x, y] (by simp)
  simp only [piled, List.map_cons, List.map_nil, List.sum_cons, List.sum_nil] at j
  unfold tupleText
  rw [strLen_append, strLen_append]
  have e1 : ("(" : Str).length = 1 := by decide +kernel
  have e2 : (Str.ofString (if ([x, y].length == 1) = true then ",)" else ")")).length = 1 := by
    rw [if_neg (by simp)]
    decide +kernel
  rw [e1, e2]
  omega
theorem iteT' {c : Prop} [Decidable c] {p q : Prop} (h : c) (k : p) : if c then p else q := by rw [if_pos h]; exact k
theorem isO_span {v : D} (ok : okV v) (e : isO 0 v = true) : ∃ l h, v = spv l h ∧ l ≤ h := by
  cases v <;> first | cases e | skip
  rcases okV_ob ok with ⟨l, h, z, le⟩ | z
  · exact ⟨l, h, z, le⟩
  · cases z; cases e
theorem ints_of : ∀ {xs : List D}, xs.find? (fun v => !isI v) = none → ∃ ns : List Int, xs = ns.map D.int
  | [], _ => ⟨[], rfl⟩
  | v :: xs, h => by
    have h1 := List.find?_eq_none.mp h
    have e : isI v = true := by simpa using h1 v (List.mem_cons_self ..)
    obtain ⟨ns, rfl⟩ := ints_of (xs := xs) (List.find?_eq_none.mpr fun u hu => h1 u (List.mem_cons_of_mem _ hu))
    obtain ⟨i, rfl⟩ : ∃ i, v = .int i := by cases v <;> first | exact ⟨_, rfl⟩ | cases e
    exact ⟨i :: ns, rfl⟩
theorem mk_span {l h : Int} (e : l ≤ h) {m : M} {Q : DK} {x : DX} (q : Q (spv l h) m) : mkD 0 ((G a) 0).flds s_init [.int l, .int h] m Q x := by
  intro p hp
  refine ⟨p, .int l, .int h, rfl, True.intro, True.intro, mset_same, (fun z => by cases z), (fun _ z => by cases z), fun l' h' e1 e2 => ?_⟩
  cases e1; cases e2
  refine ⟨fun z => absurd z (by omega), fun _ => ⟨rfl, _, mset_same, rfl, ?_⟩⟩
  rw [mset_mset, mdel_mset hp]
  exact q
theorem eqB2 {i j k l : Int} : eqB (.tup [.int i, .int j]) (.tup [.int k, .int l]) = (decide (i = k) && decide (j = l)) := by
  show PyData.eqv (.tuple [.int i, .int j]) (.tuple [.int k, .int l]) = _
  simp only [PyData.eqv, PyData.eqvAll]
  have e : ∀ a b : Int, (a == b) = decide (a = b) := fun a b => by
    by_cases h : a = b
    · subst h; simp
    · rw [decide_eq_false h]; exact beq_eq_false_iff_ne.mpr h
  simp only [e, Bool.and_true]

/-! the law's promises -/
def s_pot : DSp := fun xs m Q _ => ∃ (ns : List Int) (k : Int), xs = [.scr (ns.map D.int), .int k] ∧ 0 ≤ k ∧ k < 5 ∧ ∀ p a b, m p = none → PotV a b → Q (.ref p) (mset m p (potM a b))
def s_draw : DSp := fun xs m Q _ => ∃ (p : Addr) (n : Int), xs = [.ref p, .int n] ∧ 0 < n ∧ n ≤ 10 ^ 15 ∧ Pot p m ∧ ∀ i m', 0 ≤ i → i < n → Pst p m m' → Q (.int i) m'
def s_pick : DSp := fun xs m Q _ => ∃ (p : Addr) (vs : List D), xs = [.ref p, .lst vs] ∧ vs ≠ [] ∧ vs.length ≤ 1000 ∧ Pot p m ∧ ∀ v m', v ∈ vs → Pst p m m' → Q v m'
def s_num : DSp := fun xs m Q _ => ∃ p : Addr, xs = [.ref p] ∧ Pot p m ∧ ∀ i m', -(10 ^ 30) ≤ i → i ≤ 10 ^ 30 → Pst p m m' → Q (.int i) m'
/-- a value of the law -/
def Th (v : D) : Prop := okV v ∧ (∃ t, Say v t) ∧ (∀ i, v = .int i → -(10 ^ 31) ≤ i ∧ i ≤ 10 ^ 31) ∧ ∀ l h, v = spv l h → -(10 ^ 31) ≤ l ∧ h ≤ 10 ^ 31
def s_thing : DSp := fun xs m Q _ => ∃ (p : Addr) (b : Int), xs = [.ref p, .int b] ∧ (-(10 ^ 30) ≤ b ∧ b ≤ 10 ^ 30) ∧ Pot p m ∧ ∀ v m', Th v → Pst p m m' → Q v m'
def s_whole : DSp := fun xs m Q _ => ∃ v, xs = [v] ∧ Th v ∧ Q (.bl (isI v)) m
def s_shown : DSp := fun xs m Q _ => ∃ l h, xs = [.int l, .int h] ∧ Few l ∧ Few h ∧ Q (.str (repS l h)) m

theorem fits2 {n : Nat} {x y : Str} (h : Sh n (x ++ y)) (hn : n ≤ 2 ^ 24) : x.length + y.length ≤ sizeLine := by
  have := fits h hn
  rwa [strLen_append] at this
theorem th_int {n : Int} (few : Few n) (b : -(10 ^ 31) ≤ n ∧ n ≤ 10 ^ 31) : Th (.int n) := ⟨True.intro, ⟨_, .plain (.inl (okR.of (RO.int few))) (oks_shown _ rfl)⟩, (fun i e => by cases e; exact b), fun _ _ z => by cases z⟩
theorem th_span {l h : Int} (le : l ≤ h) (f1 : Few l) (f2 : Few h) (b1 : -(10 ^ 31) ≤ l) (b2 : h ≤ 10 ^ 31) : Th (spv l h) := ⟨okV_sp le, ⟨_, .span f1 f2⟩, (fun _ z => by cases z), fun l' h' z => by cases z; exact ⟨b1, b2⟩⟩
theorem th_plain {v : D} (ok : okV v) (x : okX v) (s : Oks (shX v)) (n : ∀ i, v ≠ .int i) (o : ∀ c ys, v ≠ .ob c ys) : Th v := ⟨ok, ⟨_, .plain x s⟩, fun i e => absurd e (n i), fun l h e => absurd e (o _ _)⟩
theorem okX_dic1 {i : Int} (f : Few i) : okX (.dic [(.inl i, .int i)]) := by
  refine .inr ⟨_, rfl, rfl, ?_, ?_, ?_⟩
  · simp only [pyX, keyP, pyD, List.map_cons, List.map_nil, PyData.showable, PyData.showableKv, Bool.and_true, Bool.and_self]
    exact decide_eq_true (few_log f)
  · simp only [pyX, keyP, pyD, List.map_cons, List.map_nil]
    simp [PyData.depth, PyData.depthKv]
  · have s := (Sh.istr f).app ((Sh.lit (n := 2) (x := ": ") (by decide +kernel)).app (Sh.istr f))
    have l := s.len
    rw [strLen_append, strLen_append] at l
    have j := join_length_add [istr i ++ ": " ++ istr i] (by simp)
    simp only [piled, List.map_cons, List.map_nil, List.sum_cons, List.sum_nil, strLen_append] at j
    have e : shX (.dic [(.inl i, .int i)]) = dictText [istr i ++ ": " ++ istr i] := by simp only [shX, pyX, keyP, pyD, List.map_cons, List.map_nil, PyData.shown, PyData.shownKv]; rfl
    have e1 : ("{" : Str).length = 1 := by decide +kernel
    have e2 : ("}" : Str).length = 1 := by decide +kernel
    rw [e]
    unfold dictText
    rw [strLen_append, strLen_append, e1, e2]
    omega
theorem oks_dic1 (i : Int) : Oks (shX (.dic [(.inl i, .int i)])) := by
  have e : shX (.dic [(.inl i, .int i)]) = dictText [istr i ++ ": " ++ istr i] := by simp only [shX, pyX, keyP, pyD, List.map_cons, List.map_nil, PyData.shown, PyData.shownKv]; rfl
  rw [e]
  refine oks_dict fun t m => ?_
  rw [List.mem_singleton.mp m]
  exact ((oks_istr i).app (oks_lit (by decide +kernel))).app (oks_istr i)
theorem istr_ne (i : Int) {x : Str} (c : Nat) (h : c ∈ sg x) (no : numSign c = false) : istr i ≠ x := fun e => istr_not i no (e ▸ h)
theorem str_off {x y : Str} (h : y ≠ x) : (x == y) = false := by rw [DL.str_beq, decide_eq_false (fun e => h e.symm)]

/-! what is due -/
abbrev lvl (t : Str) : D := .lst [.str "level", .str t, .bl true]
abbrev mde (t : Str) : D := .lst [.str "made", .str t]
def dueIs (u v d : D) : Prop := (isI u = false ∧ ∃ t, Say u t ∧ d = lvl t) ∨ (isI u = true ∧ isI v = false ∧ ∃ t, Say v t ∧ d = lvl t) ∨
  ∃ l h, u = .int l ∧ v = .int h ∧ ((h < l ∧ ∃ t, Say (.tup [.int l, .int h]) t ∧ d = .lst [.str "empty", .str t, .bl true]) ∨ (l ≤ h ∧ Few l ∧ Few h ∧ d = mde (repS l h)))
def Pl (d : D) : Prop := eqOk d d = true ∧ eqB d d = true
theorem lay2 {x y : Str} (h1 : Oks x) (h2 : Oks y) : (PyData.list [.str x, .str y]).canLay0 = true ∧ decide ((PyData.list [.str x, .str y]).depth ≤ 64) = true := by
  constructor
  · simp [PyData.canLay0, PyData.canLayAll0]
    exact ⟨h1, h2⟩
  · simp [PyData.depth, PyData.depthAll]
theorem lay3 {x y : Str} {b : Bool} (h1 : Oks x) (h2 : Oks y) : (PyData.list [.str x, .str y, .bool b]).canLay0 = true ∧ decide ((PyData.list [.str x, .str y, .bool b]).depth ≤ 64) = true := by
  constructor
  · simp [PyData.canLay0, PyData.canLayAll0]
    exact ⟨h1, h2⟩
  · simp [PyData.depth, PyData.depthAll]
theorem pl2 (x y : Str) (h1 : Oks x) (h2 : Oks y) : Pl (.lst [.str x, .str y]) := ⟨by simp [eqOk, scl, pln, plns, pyD, pysD, SeqAt.shaped]; exact lay2 h1 h2, by show PyData.eqv (.list [.str x, .str y]) (.list [.str x, .str y]) = true; simp [PyData.eqv, PyData.eqvAll]⟩
theorem pl3 (x y : Str) (b : Bool) (h1 : Oks x) (h2 : Oks y) : Pl (.lst [.str x, .str y, .bl b]) := ⟨by simp [eqOk, scl, pln, plns, pyD, pysD, SeqAt.shaped]; exact lay3 h1 h2, by show PyData.eqv (.list [.str x, .str y, .bool b]) (.list [.str x, .str y, .bool b]) = true; simp [PyData.eqv, PyData.eqvAll]⟩
theorem Pl.eq {d : D} (p : Pl d) {m : M} {Q : DK} (q : Q (.bl true) m) : eqD d d m Q := ⟨p.1, by rw [p.2]; exact q⟩
theorem Pl.ne {d : D} (p : Pl d) {m : M} {Q : DK} (q : Q (.bl false) m) : neD d d m Q := ⟨p.1, by rw [p.2]; exact q⟩
theorem dueIs.pl {u v d : D} (h : dueIs u v d) : Pl d := by
  rcases h with ⟨_, t, say, rfl⟩ | ⟨_, _, t, say, rfl⟩ | ⟨l, h, _, _, ⟨_, t, say, rfl⟩ | ⟨_, _, _, rfl⟩⟩
  · exact pl3 _ _ _ (oks_lit (by decide +kernel)) say.oks
  · exact pl3 _ _ _ (oks_lit (by decide +kernel)) say.oks
  · exact pl3 _ _ _ (oks_lit (by decide +kernel)) say.oks
  · exact pl2 _ _ (oks_lit (by decide +kernel)) oks_repS
def s_due : DSp := fun xs m Q _ => ∃ u v, xs = [u, v] ∧ Th u ∧ Th v ∧ ∀ d, dueIs u v d → Q d m
theorem Th.few {i : Int} (h : Th (.int i)) : Few i := Sm.few (by have := h.2.2.1 i rfl; unfold Sm; omega)
theorem mk_any {u v : D} {m : M} {Q : DK} {x : DX} (ou : okV u) (ov : okV v) (h1 : isI u = false → x 1 [u] m) (h2 : isI u = true → isI v = false → x 1 [v] m) (h3 : ∀ l h, u = .int l → v = .int h → (h < l → x 3 [.int h, .int l] m) ∧ (l ≤ h → Q (spv l h) m)) : mkD 0 ((G a) 0).flds s_init [u, v] m Q x := by
  intro p hp
  have back : mdel (mset m p (.ob 0 [])) p = m := mdel_mset hp
  refine ⟨p, u, v, rfl, ou, ov, mset_same, fun e => ?_, fun e1 e2 => ?_, fun l h e1 e2 => ⟨fun c => ?_, fun c => ⟨rfl, _, mset_same, rfl, ?_⟩⟩⟩
  · show x 1 [u] (mdel _ p); rw [back]; exact h1 e
  · show x 1 [v] (mdel _ p); rw [back]; exact h2 e1 e2
  · show x 3 _ (mdel _ p); rw [back]; exact (h3 l h e1 e2).1 c
  · rw [mset_mset, mdel_mset hp]; exact (h3 l h e1 e2).2 c

def s_sr (a : Ad) : DSp := fun xs m Q _ => ∃ u v, xs = [u, v] ∧ Th u ∧ Th v ∧ Tbs a m ∧ Q (.bl true) m

def s_ar (a : Ad) : DSp := fun xs m Q _ => ∃ vs, xs = [.lst vs] ∧ (∀ v ∈ vs, Th v) ∧ (vs.length ≤ 4 ∨ vs.length = 7) ∧ Tbs a m ∧ Q (.bl true) m
def s_mv (a : Ad) : DSp := fun xs m Q _ => ∃ l h v, xs = [spv l h, v] ∧ l ≤ h ∧ (-(10 ^ 31) ≤ l ∧ h ≤ 10 ^ 31) ∧ Th v ∧ Tbs a m ∧ Q (.bl true) m
def s_jn (a : Ad) : DSp := fun xs m Q _ => ∃ l h v, xs = [spv l h, v] ∧ l ≤ h ∧ (-(10 ^ 31) ≤ l ∧ h ≤ 10 ^ 31) ∧ Th v ∧ Tbs a m ∧ Q (.bl true) m
def s_un (a : Ad) : DSp := fun xs m Q _ => ∃ l h v, xs = [spv l h, v] ∧ l ≤ h ∧ (-(10 ^ 31) ≤ l ∧ h ≤ 10 ^ 31) ∧ Th v ∧ Q (.bl true) m
def s_ap (a : Ad) : DSp := fun xs m Q _ => ∃ (p : Addr) (b : Int), xs = [.ref p, .int b] ∧ (-(10 ^ 30) ≤ b ∧ b ≤ 10 ^ 30) ∧ Pot p m ∧ Tbs a m ∧ ∀ m', Pst p m m' → Q (.bl true) m'
def s_right (a : Ad) : DSp := fun xs m Q _ => ∃ p : Addr, xs = [.ref p] ∧ Pot p m ∧ Tbs a m ∧ ∀ m', Pst p m m' → Q (.bl true) m'
def s_lw (a : Ad) : DSp := fun xs m Q _ => ∃ ns : List Int, xs = [.scr (ns.map D.int)] ∧ ns.length ≤ 63 ∧ Tbs a m ∧ ∀ m', Q (.bl true) m'

theorem share2 {R : D → D → Prop} {goal : Prop} (C : D → D → Prop) (h1 : (∀ b e, C b e → R b e) → goal) (h2 : ∀ b e, C b e → R b e) : goal := h1 h2
theorem lc_keep {Q : DK} {k : Nat} {tt : DTT} {te : DTE} {vs : List Nat} {ds : DSt} {p : D → Bool} : ∀ {xs : List D} (ht : ∀ d, d ∈ xs → ∀ (m : M) (Q : Bool → M → Prop), Q (p d) m → tt noX ((wipeD ds vs).set k (some d)) m Q) (he : ∀ (d : D) (m : M) (Q : DK), Q d m → te noX ((wipeD ds vs).set k (some d)) m Q) (acc : List D) (m : M),
    Q (.lst (acc ++ xs.filter p)) m → lcD (.one k) tt te vs ds Q xs acc m
  | [], _, _, acc, m, q => by simpa [lcD] using q
  | d :: xs, ht, he, acc, m, q => by
    refine ht d (List.mem_cons_self ..) m _ ?_
    have more : ∀ (acc : List D), Q (.lst (acc ++ xs.filter p)) m → lcD (.one k) tt te vs ds Q xs acc m := fun acc q => lc_keep (fun e h => ht e (List.mem_cons_of_mem _ h)) he acc m q
    cases e : p d with
    | true => exact iteT (he d m _ (more _ (by rw [List.filter_cons_of_pos (by rw [e])] at q; simpa using q)))
    | false => exact iteF (more _ (by rw [List.filter_cons_of_neg (by rw [e]; simp)] at q; exact q))
def dueAr (vs : List D) (due : D) : Prop := (∃ o t, vs.find? (fun v => !isI v) = some o ∧ Say o t ∧ due = lvl t) ∨ (vs = [] ∧ due = .lst [.str "empty", .str "(None, None)", .bl true]) ∨
  ∃ ns : List Int, vs = ns.map D.int ∧ ns ≠ [] ∧ Few (mnL ns) ∧ Few (mxL ns) ∧ due = mde (repS (mnL ns) (mxL ns))

theorem eqD_nil {vs : List D} (e : vs = []) {m : M} {Q : DK} (q : Q (.bl true) m) : eqD (.lst vs) (.lst []) m Q := by
  subst e
  exact ⟨rfl, q⟩
theorem dueAr.pl {vs : List D} {due : D} (h : dueAr vs due) : Pl due := by
  rcases h with ⟨_, t, _, say, rfl⟩ | ⟨_, rfl⟩ | ⟨_, _, _, _, _, rfl⟩
  · exact pl3 _ _ _ (oks_lit (by decide +kernel)) say.oks
  · exact pl3 _ _ _ (oks_lit (by decide +kernel)) (oks_lit (by decide +kernel))
  · exact pl2 _ _ (oks_lit (by decide +kernel)) oks_repS

def dueMv (l h : Int) (v d0 d1 : D) : Prop := (isI v = false ∧ ∃ t, Say v t ∧ d0 = lvl t ∧ d1 = lvl t) ∨ ∃ n, v = .int n ∧ Few (l + n) ∧ Few (h + n) ∧ Few (l - n) ∧ Few (h - n) ∧ d0 = mde (repS (l + n) (h + n)) ∧ d1 = mde (repS (l - n) (h - n))
theorem dueMv.pl {l h : Int} {v d0 d1 : D} (k : dueMv l h v d0 d1) : Pl d0 ∧ Pl d1 := by
  rcases k with ⟨_, t, say, rfl, rfl⟩ | ⟨n, _, _, _, _, _, rfl, rfl⟩
  · exact ⟨pl3 _ _ _ (oks_lit (by decide +kernel)) say.oks, pl3 _ _ _ (oks_lit (by decide +kernel)) say.oks⟩
  · exact ⟨pl2 _ _ (oks_lit (by decide +kernel)) oks_repS, pl2 _ _ (oks_lit (by decide +kernel)) oks_repS⟩
theorem addV {l n : Int} {v : D} (e : v = .int n) {m : M} {Q : DK} (q : Q (.int (l + n)) m) : addD (.int l) v m Q := by subst e; exact q
theorem subV {l n : Int} {v : D} (e : v = .int n) {m : M} {Q : DK} (q : Q (.int (l - n)) m) : subD (.int l) v m Q := by subst e; exact q
theorem beside0 {v : D} (ok : okV v) : (∃ T, kT v = some T ∧ T ∈ kTs) ∨ ∃ e ys, v = .ob e ys ∧ (e = 0 ∨ e ∈ [5]) := by
  cases v with
  | ob c ys =>
    rcases okV_ob ok with ⟨l, h, e, _⟩ | e <;> cases e
    · exact .inr ⟨_, _, rfl, .inl rfl⟩
    · exact .inr ⟨_, _, rfl, .inr (by simp)⟩
  | ty n => exact ok.elim
  | ref n => exact ok.elim
  | exc _ _ _ _ => exact ok.elim
  | fn _ _ _ _ _ => exact ok.elim
  | _ => exact .inl ⟨_, rfl, by decide⟩

theorem share6 {R : D → D → D → Option D → Option D → Option D → Option D → Option D → Prop} {goal : Prop} (C : D → D → D → Option D → Option D → Option D → Option D → Option D → Prop) (h1 : (∀ a b c d e f g i, C a b c d e f g i → R a b c d e f g i) → goal) (h2 : ∀ a b c d e f g i, C a b c d e f g i → R a b c d e f g i) : goal := h1 h2
abbrev spn (t : Str) : D := .lst [.str "span", .str t, .bl true]
def dueJn (l h : Int) (v d0 d1 d2 : D) : Prop := (isO 0 v = false ∧ ∃ t, Say v t ∧ d0 = spn t ∧ d1 = spn t ∧ d2 = spn t) ∨
  ∃ l2 h2, v = spv l2 h2 ∧ l2 ≤ h2 ∧ ((aprt l h l2 h2 ∧ ∃ t, Say (.tup [spv l h, v]) t ∧ d0 = .lst [.str "apart", .str t, .bl true]) ∨ (¬ aprt l h l2 h2 ∧ Few (max l l2) ∧ Few (min h h2) ∧ d0 = mde (repS (max l l2) (min h h2)))) ∧
    Few (min l l2) ∧ Few (max h h2) ∧ d1 = mde (repS (min l l2) (max h h2)) ∧ ∃ t, Say (.bl (decide (l2 ≤ l) && decide (h ≤ h2))) t ∧ d2 = mde t

theorem get_eq {f : Int → Int → D} {l h : Int} {m : M} {Q : DK} {x : DX} : s_get f [.ob 0 [.int l, .int h]] m Q x = Q (f l h) m := propext ⟨fun ⟨_, _, e, h1⟩ => by cases e; exact h1, fun h1 => ⟨_, _, rfl, h1⟩⟩
theorem get_of {v : D} {l h : Int} (e : v = spv l h) {f : Int → Int → D} {m : M} {Q : DK} {x : DX} : (∃ ys, v = .ob 0 ys ∧ s_get f [.ob 0 ys] m Q x) = Q (f l h) m := by
  subst e
  refine propext ⟨fun ⟨ys, e, h1⟩ => ?_, fun h1 => ⟨_, rfl, _, _, rfl, h1⟩⟩
  cases e
  rwa [get_eq] at h1
theorem mxl2 {i j : Int} {m : M} {Q : DK} : mxD [.lst [.int i, .int j]] m Q = Q (.int (max i j)) m := by
  refine propext ⟨fun h => ?_, fun q => .inr ⟨[i, j], .inl rfl, by simp, q⟩⟩
  rcases h with ⟨_, _, e, _⟩ | ⟨ns, e, _, q⟩
  · cases e
  · rcases e with e | e
    · have e' := (List.cons.inj e).1
      injection e' with e'
      match ns, e' with
      | [a, b], e' =>
        obtain ⟨h1, h2⟩ := List.cons.inj e'
        cases h1
        cases (List.cons.inj h2).1
        exact q
    · cases e
theorem mnl2 {i j : Int} {m : M} {Q : DK} : mnD [.lst [.int i, .int j]] m Q = Q (.int (min i j)) m := by
  refine propext ⟨fun h => ?_, fun q => .inr ⟨[i, j], .inl rfl, by simp, q⟩⟩
  rcases h with ⟨_, _, e, _⟩ | ⟨ns, e, _, q⟩
  · cases e
  · rcases e with e | e
    · have e' := (List.cons.inj e).1
      injection e' with e'
      match ns, e' with
      | [a, b], e' =>
        obtain ⟨h1, h2⟩ := List.cons.inj e'
        cases h1
        cases (List.cons.inj h2).1
        exact q
    · cases e

theorem sayB (b : Bool) : Say (.bl b) (shX (.bl b)) := .plain (.inl (okR.of (RO.bl b))) (oks_shown _ rfl)
theorem sayE {b c : Bool} (e : c = b) : Say (.bl c) (shX (.bl b)) := by subst e; exact sayB _

theorem lay_bls : ∀ bs : List Bool, (pyX (.lst (bs.map D.bl))).canLay0 = true := fun bs => by
  simp only [pyX, pyD, PyData.canLay0]
  induction bs with
  | nil => rfl
  | cons b bs ih => simp only [List.map_cons, pysD, pyD, PyData.canLayAll0, PyData.canLay0, ih, Bool.and_self]

theorem it_any {xs : List D} {j : Int} {m : M} {Q : DK} (h1 : -(xs.length : Int) ≤ j) (h2 : j < xs.length) (q : ∀ y ∈ xs, Q y m) : itD (.lst xs) (.int j) m Q := by
  have key : ∃ k, ixN xs.length j = some k ∧ k < xs.length := by
    unfold ixN
    by_cases c : 0 ≤ j
    · rw [if_pos c, if_pos h2]
      exact ⟨_, rfl, by omega⟩
    · rw [if_neg c, if_pos h1]
      exact ⟨_, rfl, by omega⟩
  obtain ⟨k, e, lt⟩ := key
  refine ⟨xs[k], ?_, q _ (List.getElem_mem lt)⟩
  unfold atI
  rw [e]
  exact List.getElem?_eq_getElem lt
theorem sl_lst {xs : List D} {lo hi : Option Int} {m : M} {Q : DK} : slD (.lst xs) lo hi m Q = Q (.lst (DL.cutD xs lo hi)) m := rfl
theorem cut_mem {xs : List D} {lo hi : Option Int} {v : D} (h : v ∈ DL.cutD xs lo hi) : v ∈ xs := List.mem_of_mem_drop (List.mem_of_mem_take h)
theorem cut_len {xs : List D} {i : Nat} {g : Int} (g0 : 0 ≤ g) (g1 : g < 4)   : (DL.cutD xs (some (i : Int)) (some ((i : Int) + 1 + g))).length ≤ 4 := by
  unfold DL.cutD HT.sIx
  dsimp only
  rw [List.length_take, List.length_drop, if_neg (by omega), if_neg (by omega)]
  omega
theorem cut_first {xs : List D} {n : Nat} (h : n ≤ xs.length) : (DL.cutD xs none (some (n : Int))).length = n := by
  unfold DL.cutD HT.sIx
  dsimp only
  rw [List.length_take, List.length_drop, if_neg (by omega)]
  omega

theorem Tbs.new {a : Ad} {m : M} {p : Addr} {u : MO} (t : Tbs a m) (hp : m p = none) : Tbs a (mset m p u) := by
  have keep : ∀ {t : Addr} {q : Str}, m t = some (.tbl q) → mset m p u t = some (.tbl q) := fun {t q} e => by
    rw [mset_ne]
    · exact e
    · intro z
      rw [z, hp] at e
      cases e
  unfold Tbs at t ⊢
  obtain ⟨t0, t1, t2, t3, t4⟩ := t
  exact ⟨keep t0, keep t1, keep t2, keep t3, keep t4⟩

theorem ok_is_integer (T : Tx K mg base a d) : FnG false false P w K mg base 1 a.f_is_integer d.f_is_integer ["value"] (spL (G a) s_isint) := by
  refine fn_okG T.F_is_integer sc_is_integer (fun _ _ _ _ ⟨_, e, _⟩ => len1 e) (fun cdv A outer s H E xs m Q x hr h => ⟨_, (dss_one (ds_ret (de_and (de_callB cd_isi (by rfl) T.z_isinstance boot_isinstance (da_cons (de_nm (pv 0)) (da_cons (de_c (pe_bltn (v := .ty _) (by rfl) T.z_int boot_int rfl) (fun _ => .ty _)) da_nil))) (de_one (de_not (de_callB cd_isi (by rfl) T.z_isinstance boot_isinstance (da_cons (de_nm (pv 0)) (da_cons (de_c (pe_bltn (v := .ty _) (by rfl) T.z_bool boot_bool rfl) (fun _ => .ty _)) da_nil)))))))), ?_⟩)
  obtain ⟨v, rfl, ok, q⟩ := h
  simp only [sSeq, sAsg, gNm, sRet, sRetN, bD, xD, nmD, startD, sIf, DL.tB, DL.tNot, DL.tAnd, DL.tOr, eAnd, eOr, eNot, eIf, isB, sDrop, sNext, sPar, eTup, eLst, eCall, eCB, aNil, aCons, eFld, eFldM, eProp, eMeth, eMethK, eMake, eMakeK, eUn, sFldM, sRaise, addI, addS, addL, subI, negI, mulI, mulL, divI, modI, powI, eqI, neI, eqS, neS, lenL, lenT, lenC, absI, intI, strI, repX, dmI, it0, it1, itL0, itL1, itL2, itL3, itL4, itL5, itL6, itR, eStat, oNone, oSome, eSl, gTp2', gIx, eLstM, eApp, DL.rIn, DL.rNe, eFmt, eJs, eDic0, sNever, mx2, mn2, ltI, leI, gtI, geI, eChain, decide_eq_true_eq, List.map_cons, List.map_nil, List.length_cons, List.length_nil, Nat.reduceAdd, Nat.reduceSub, List.replicate_succ, List.replicate_zero, List.cons_append, List.nil_append, List.getElem?_cons_zero, List.getElem?_cons_succ, List.reverse_cons, List.reverse_nil, Option.some.injEq, exists_eq_left', List.set_cons_zero, List.set_cons_succ, if_true, if_false, Bool.false_eq_true, reduceIte, and_self, true_and, D.bl.injEq, D.ob.injEq, D.int.injEq, D.str.injEq, D.tup.injEq, exists_and_left, exists_eq_left, reduceCtorEq, and_true, lk_low, lk_high, exists_eq', and_self]
  refine isi_int T ok ⟨_, rfl, ?_⟩
  cases v <;> first | exact ok.elim | (exact iteT (isi_bool T ok ⟨_, rfl, q⟩)) | (exact iteF q)
theorem ok_InvalidLevel___init__ {hot grd : Bool} (T : Tx K mg base a d) : FnG hot grd P w K mg base 1 a.f_InvalidLevel___init__ d.f_InvalidLevel___init__ ["self", "value"] (spKeep a.InvalidLevel ["value"]) := keep1 (x1 := "") T.F_InvalidLevel___init__ sc_InvalidLevel___init__ T.Z_InvalidLevel T.n_InvalidLevel_value rfl (.inl rfl) (.inl rfl) rfl rfl
theorem ok_InvalidSpan___init__ {hot grd : Bool} (T : Tx K mg base a d) : FnG hot grd P w K mg base 1 a.f_InvalidSpan___init__ d.f_InvalidSpan___init__ ["self", "value"] (spKeep a.InvalidSpan ["value"]) := keep1 (x1 := "") T.F_InvalidSpan___init__ sc_InvalidSpan___init__ T.Z_InvalidSpan T.n_InvalidSpan_value rfl (.inl rfl) (.inl rfl) rfl rfl
theorem ok_EmptySpan___init__ {hot grd : Bool} (T : Tx K mg base a d) : FnG hot grd P w K mg base 1 a.f_EmptySpan___init__ d.f_EmptySpan___init__ ["self", "least", "greatest"] (spKeep a.EmptySpan ["least", "greatest"]) := keep2 T.F_EmptySpan___init__ sc_EmptySpan___init__ T.Z_EmptySpan T.n_EmptySpan_least T.n_EmptySpan_greatest rfl (.inl rfl) (.inl rfl) (.inl rfl) rfl rfl rfl rfl
theorem ok_Apart___init__ {hot grd : Bool} (T : Tx K mg base a d) : FnG hot grd P w K mg base 1 a.f_Apart___init__ d.f_Apart___init__ ["self", "one", "other"] (spKeep a.Apart ["one", "other"]) := keep2 T.F_Apart___init__ sc_Apart___init__ T.Z_Apart T.n_Apart_one T.n_Apart_other rfl (.inl rfl) (.inl rfl) (.inl rfl) rfl rfl rfl rfl
theorem ok_want_level (T : Tx K mg base a d) : FnG false false P w K mg base 3 a.f_want_level d.f_want_level ["value"] (spL (G a) s_wlev) := by
  refine fn_okG T.F_want_level sc_want_level (fun _ _ _ _ ⟨_, e, _⟩ => len1 e) (fun cdv A outer s H E xs m Q x hr h => ⟨_, (dss_one (ds_if (dt_not (dt_val (de_call (ok_is_integer T) (hr.mono (show 1 ≤ _ by decide)) (by rfl) T.m_is_integer T.F_is_integer.kp T.b_is_integer takesG (da_cons (de_nm (pv 0)) da_nil)))) (dss_one (ds_raise (c := 1) rfl takesG T.Z_InvalidLevel T.iC_InvalidLevel T.tI_InvalidLevel (ok_InvalidLevel___init__ (hot := false) (grd := false) T) (hr.mono (show 2 ≤ _ by decide)) T.b_InvalidLevel___init__ (by rfl) T.m_InvalidLevel rfl (by decide) (da_cons (de_nm (pv 0)) da_nil))) dss_nil)), ?_⟩)
  obtain ⟨v, rfl, ok, q⟩ := h
  simp only [sSeq, sAsg, gNm, sRet, sRetN, bD, xD, nmD, startD, sIf, DL.tB, DL.tNot, DL.tAnd, DL.tOr, eAnd, eOr, eNot, eIf, isB, sDrop, sNext, sPar, eTup, eLst, eCall, eCB, aNil, aCons, eFld, eFldM, eProp, eMeth, eMethK, eMake, eMakeK, eUn, sFldM, sRaise, addI, addS, addL, subI, negI, mulI, mulL, divI, modI, powI, eqI, neI, eqS, neS, lenL, lenT, lenC, absI, intI, strI, repX, dmI, it0, it1, itL0, itL1, itL2, itL3, itL4, itL5, itL6, itR, eStat, oNone, oSome, eSl, gTp2', gIx, eLstM, eApp, DL.rIn, DL.rNe, eFmt, eJs, eDic0, sNever, mx2, mn2, ltI, leI, gtI, geI, eChain, decide_eq_true_eq, List.map_cons, List.map_nil, List.length_cons, List.length_nil, Nat.reduceAdd, Nat.reduceSub, List.replicate_succ, List.replicate_zero, List.cons_append, List.nil_append, List.getElem?_cons_zero, List.getElem?_cons_succ, List.reverse_cons, List.reverse_nil, Option.some.injEq, exists_eq_left', List.set_cons_zero, List.set_cons_succ, if_true, if_false, Bool.false_eq_true, reduceIte, and_self, true_and, D.bl.injEq, D.ob.injEq, D.int.injEq, D.str.injEq, D.tup.injEq, exists_and_left, exists_eq_left, reduceCtorEq, and_true, lk_low, lk_high, exists_eq', and_self]
  refine ⟨v, rfl, ok, _, rfl, ?_⟩
  cases e : isI v with
  | true => rw [e] at q; exact q
  | false => rw [e] at q; exact q
theorem ok_want_span (T : Tx K mg base a d) : FnG false false P w K mg base 3 a.f_want_span d.f_want_span ["value"] (spL (G a) s_wspan) := by
  refine fn_okG T.F_want_span sc_want_span (fun _ _ _ _ ⟨_, e, _⟩ => len1 e) (fun cdv A outer s H E xs m Q x hr h => ⟨_, (dss_one (ds_if (dt_not (dt_val (de_callB cd_isi (by rfl) T.z_isinstance boot_isinstance (da_cons (de_nm (pv 0)) (da_cons (de_c (pe_glob (v := .ref _) (by rfl) T.m_Span rfl) (fun _ => .ref _)) da_nil))))) (dss_one (ds_raise (c := 2) rfl takesG T.Z_InvalidSpan T.iC_InvalidSpan T.tI_InvalidSpan (ok_InvalidSpan___init__ (hot := false) (grd := false) T) (hr.mono (show 2 ≤ _ by decide)) T.b_InvalidSpan___init__ (by rfl) T.m_InvalidSpan rfl (by decide) (da_cons (de_nm (pv 0)) da_nil))) dss_nil)), ?_⟩)
  obtain ⟨v, rfl, ok, q⟩ := h
  simp only [sSeq, sAsg, gNm, sRet, sRetN, bD, xD, nmD, startD, sIf, DL.tB, DL.tNot, DL.tAnd, DL.tOr, eAnd, eOr, eNot, eIf, isB, sDrop, sNext, sPar, eTup, eLst, eCall, eCB, aNil, aCons, eFld, eFldM, eProp, eMeth, eMethK, eMake, eMakeK, eUn, sFldM, sRaise, addI, addS, addL, subI, negI, mulI, mulL, divI, modI, powI, eqI, neI, eqS, neS, lenL, lenT, lenC, absI, intI, strI, repX, dmI, it0, it1, itL0, itL1, itL2, itL3, itL4, itL5, itL6, itR, eStat, oNone, oSome, eSl, gTp2', gIx, eLstM, eApp, DL.rIn, DL.rNe, eFmt, eJs, eDic0, sNever, mx2, mn2, ltI, leI, gtI, geI, eChain, decide_eq_true_eq, List.map_cons, List.map_nil, List.length_cons, List.length_nil, Nat.reduceAdd, Nat.reduceSub, List.replicate_succ, List.replicate_zero, List.cons_append, List.nil_append, List.getElem?_cons_zero, List.getElem?_cons_succ, List.reverse_cons, List.reverse_nil, Option.some.injEq, exists_eq_left', List.set_cons_zero, List.set_cons_succ, if_true, if_false, Bool.false_eq_true, reduceIte, and_self, true_and, D.bl.injEq, D.ob.injEq, D.int.injEq, D.str.injEq, D.tup.injEq, exists_and_left, exists_eq_left, reduceCtorEq, and_true, lk_low, lk_high, exists_eq', and_self]
  refine isi_span T ok ⟨_, rfl, ?_⟩
  cases e : isO 0 v with
  | true => rw [e] at q; exact q
  | false => rw [e] at q; exact q
theorem ok_Span___init__ (T : Tx K mg base a d) : FnG false false P w K mg base 4 a.f_Span___init__ d.f_Span___init__ ["self", "low", "high"] (spL (G a) s_init) := by
  refine fn_okG T.F_Span___init__ sc_Span___init__ (fun _ _ _ _ ⟨_, _, _, e, _⟩ => len3 e) (fun cdv A outer s H E xs m Q x hr h => ⟨_, (dss_cons (ds_expr (de_call (ok_want_level T) (hr.mono (show 3 ≤ _ by decide)) (by rfl) T.m_want_level T.F_want_level.kp T.b_want_level takesG (da_cons (de_nm (pv 1)) da_nil))) (dss_cons (ds_expr (de_call (ok_want_level T) (hr.mono (show 3 ≤ _ by decide)) (by rfl) T.m_want_level T.F_want_level.kp T.b_want_level takesG (da_cons (de_nm (pv 2)) da_nil))) (dss_cons (ds_if (dt_cmp (od_gt hr.u0) (de_nm (pv 1)) (de_nm (pv 2)) (nomark _)) (dss_one (ds_raise (c := 3) rfl takesG T.Z_EmptySpan T.iC_EmptySpan T.tI_EmptySpan (ok_EmptySpan___init__ (hot := false) (grd := false) T) (hr.mono (show 2 ≤ _ by decide)) T.b_EmptySpan___init__ (by rfl) T.m_EmptySpan rfl (by decide) (da_cons (de_nm (pv 1)) (da_cons (de_nm (pv 2)) da_nil)))) dss_nil) (dss_cons (ds_fld (c := 0) T.c_Span T.n_Span_own_low (de_nm (pv 0)) (de_nm (pv 1))) (dss_one (ds_fld (c := 0) T.c_Span T.n_Span_own_high (de_nm (pv 0)) (de_nm (pv 2)))))))), ?_⟩)
  obtain ⟨p, u, v, rfl, ou, ov, hp, x1, x2, q⟩ := h
  simp only [sSeq, sAsg, gNm, sRet, sRetN, bD, xD, nmD, startD, sIf, DL.tB, DL.tNot, DL.tAnd, DL.tOr, eAnd, eOr, eNot, eIf, isB, sDrop, sNext, sPar, eTup, eLst, eCall, eCB, aNil, aCons, eFld, eFldM, eProp, eMeth, eMethK, eMake, eMakeK, eUn, sFldM, sRaise, addI, addS, addL, subI, negI, mulI, mulL, divI, modI, powI, eqI, neI, eqS, neS, lenL, lenT, lenC, absI, intI, strI, repX, dmI, it0, it1, itL0, itL1, itL2, itL3, itL4, itL5, itL6, itR, eStat, oNone, oSome, eSl, gTp2', gIx, eLstM, eApp, DL.rIn, DL.rNe, eFmt, eJs, eDic0, sNever, mx2, mn2, ltI, leI, gtI, geI, eChain, decide_eq_true_eq, List.map_cons, List.map_nil, List.length_cons, List.length_nil, Nat.reduceAdd, Nat.reduceSub, List.replicate_succ, List.replicate_zero, List.cons_append, List.nil_append, List.getElem?_cons_zero, List.getElem?_cons_succ, List.reverse_cons, List.reverse_nil, Option.some.injEq, exists_eq_left', List.set_cons_zero, List.set_cons_succ, if_true, if_false, Bool.false_eq_true, reduceIte, and_self, true_and, D.bl.injEq, D.ob.injEq, D.int.injEq, D.str.injEq, D.tup.injEq, exists_and_left, exists_eq_left, reduceCtorEq, and_true, lk_low, lk_high, exists_eq', and_self]
  refine ⟨u, rfl, ou, ?_⟩
  cases e1 : isI u with
  | false => exact x1 e1
  | true =>
    refine ⟨v, rfl, ov, ?_⟩
    cases e2 : isI v with
    | false => exact x2 e1 e2
    | true =>
      obtain ⟨l, rfl⟩ : ∃ l, u = .int l := by cases u <;> first | exact ⟨_, rfl⟩ | cases e1
      obtain ⟨h, rfl⟩ : ∃ h, v = .int h := by cases v <;> first | exact ⟨_, rfl⟩ | cases e2
      obtain ⟨y1, y2⟩ := q l h rfl rfl
      simp only [sSeq, sAsg, gNm, sRet, sRetN, bD, xD, nmD, startD, sIf, DL.tB, DL.tNot, DL.tAnd, DL.tOr, eAnd, eOr, eNot, eIf, isB, sDrop, sNext, sPar, eTup, eLst, eCall, eCB, aNil, aCons, eFld, eFldM, eProp, eMeth, eMethK, eMake, eMakeK, eUn, sFldM, sRaise, addI, addS, addL, subI, negI, mulI, mulL, divI, modI, powI, eqI, neI, eqS, neS, lenL, lenT, lenC, absI, intI, strI, repX, dmI, it0, it1, itL0, itL1, itL2, itL3, itL4, itL5, itL6, itR, eStat, oNone, oSome, eSl, gTp2', gIx, eLstM, eApp, DL.rIn, DL.rNe, eFmt, eJs, eDic0, sNever, mx2, mn2, ltI, leI, gtI, geI, eChain, decide_eq_true_eq, List.map_cons, List.map_nil, List.length_cons, List.length_nil, Nat.reduceAdd, Nat.reduceSub, List.replicate_succ, List.replicate_zero, List.cons_append, List.nil_append, List.getElem?_cons_zero, List.getElem?_cons_succ, List.reverse_cons, List.reverse_nil, Option.some.injEq, exists_eq_left', List.set_cons_zero, List.set_cons_succ, if_true, if_false, Bool.false_eq_true, reduceIte, and_self, true_and, D.bl.injEq, D.ob.injEq, D.int.injEq, D.str.injEq, D.tup.injEq, exists_and_left, exists_eq_left, reduceCtorEq, and_true, lk_low, lk_high, exists_eq', and_self]
      by_cases c : h < l
      · rw [if_pos c]
        exact y1 c
      · rw [if_neg c]
        refine ⟨p, rfl, _, hp, (show 0 < 1000 by decide), p, rfl, _, mset_same, (show 1 < 1000 by decide), ?_⟩
        rw [mset_mset, put_high]
        exact y2 (by omega)
theorem ok_Span_around (T : Tx K mg base a d) : FnR P w K mg base (L2.CX P w) 6 a.f_Span_around (fun vs H Q E => vs.length ≤ sizeLine ∧ spL (G a) s_around vs H Q E) := by
  refine fn_starG T.F_Span_around sc_Span_around T.b_Span_around (sp := fun xs => match xs with | [.tup ys] => s_around ys | _ => fun _ _ _ => False) (fun cdv A outer s H E xs m Q x hr h => ?_)
  have hr2 : Rm false false 5 _ := ⟨⟨hr.dp, hr.un⟩, fun _ => hr.hd, (fun z => nomatch z)⟩
  refine ⟨_, (dss_cons (ds_for passesC rfl (di_tup (de_nm (pv 0))) (dg_name (pg_name (i := 1) sc_Span_around.nd rfl (Or.inl rfl))) (dss_one (ds_expr (de_call (ok_want_level T) (hr2.mono (show 3 ≤ _ by decide)) (by rfl) T.m_want_level T.F_want_level.kp T.b_want_level takesC (da_cons (de_nm (pv 1)) da_nil))))) (dss_cons (ds_if (dt_cmp (od_eq hr2.u64) (de_callB (cd_len) (by rfl) T.z_len boot_len (da_cons (de_nm (pv 0)) da_nil)) (de_c pe_int (fun _ => .int _)) (nomark _)) (dss_one (ds_raise (c := 3) rfl takesC T.Z_EmptySpan T.iC_EmptySpan T.tI_EmptySpan (ok_EmptySpan___init__ (hot := false) (grd := false) T) (hr2.mono (show 2 ≤ _ by decide)) T.b_EmptySpan___init__ (by rfl) T.m_EmptySpan rfl (by decide) (da_cons (de_c pe_non (fun _ => .non)) (da_cons (de_c pe_non (fun _ => .non)) da_nil)))) dss_nil) (dss_one (ds_ret (de_make (c := 0) T.M_Span (ok_Span___init__ T) (hr2.mono (show 5 ≤ _ by decide)) (by rfl) T.m_Span T.b_Span___init__ takesC (da_cons (de_callB (cd_mn (by rfl) hr2.u8) (by rfl) T.z_min boot_min (da_cons (de_nm (pv 0)) da_nil)) (da_cons (de_callB (cd_mx (by rfl) hr2.u8) (by rfl) T.z_max boot_max (da_cons (de_nm (pv 0)) da_nil)) da_nil))))))), ?_⟩
  obtain ⟨ok, hl, x1, x2, q⟩ := h
  simp only [sSeq, sAsg, gNm, sRet, sRetN, bD, xD, nmD, startD, sIf, DL.tB, DL.tNot, DL.tAnd, DL.tOr, eAnd, eOr, eNot, eIf, isB, sDrop, sNext, sPar, eTup, eLst, eCall, eCB, aNil, aCons, eFld, eFldM, eProp, eMeth, eMethK, eMake, eMakeK, eUn, sFldM, sRaise, addI, addS, addL, subI, negI, mulI, mulL, divI, modI, powI, eqI, neI, eqS, neS, lenL, lenT, lenC, absI, intI, strI, repX, dmI, it0, it1, itL0, itL1, itL2, itL3, itL4, itL5, itL6, itR, eStat, oNone, oSome, eSl, gTp2', gIx, eLstM, eApp, DL.rIn, DL.rNe, eFmt, eJs, eDic0, sNever, mx2, mn2, ltI, leI, gtI, geI, eChain, decide_eq_true_eq, List.map_cons, List.map_nil, List.length_cons, List.length_nil, Nat.reduceAdd, Nat.reduceSub, List.replicate_succ, List.replicate_zero, List.cons_append, List.nil_append, List.getElem?_cons_zero, List.getElem?_cons_succ, List.reverse_cons, List.reverse_nil, Option.some.injEq, exists_eq_left', List.set_cons_zero, List.set_cons_succ, if_true, if_false, Bool.false_eq_true, reduceIte, and_self, true_and, D.bl.injEq, D.ob.injEq, D.int.injEq, D.str.injEq, D.tup.injEq, exists_and_left, exists_eq_left, reduceCtorEq, and_true, lk_low, lk_high, exists_eq', and_self]
  have key : ∀ (E : DEnds) (vs : List D) (ds : DSt), (∀ v ∈ vs, okV v) → (∀ v, vs.find? (fun v => !isI v) = some v → ∀ ds', E.ex ds' 1 [v] m) → (vs.find? (fun v => !isI v) = none → ∀ ds', (ds'[0]? = ds[0]? ∧ ds'.length = ds.length) → E.nx ds' m) → 1 < ds.length → forD (gNm 1) (sDrop (eCall s_wlev (aCons (fun x ds m Q => nmD 1 ds m Q) aNil))) E vs ds m := by
    intro E vs
    induction vs with
    | nil => exact fun ds _ _ h _ => h rfl ds ⟨rfl, rfl⟩
    | cons v vs ih =>
      intro ds ok bad good hl
      refine ⟨v, by rw [List.getElem?_set_self hl], ?_⟩
      refine ⟨v, rfl, ok v (List.mem_cons_self ..), ?_⟩
      cases e : isI v with
      | true =>
        have same : (v :: vs).find? (fun v => !isI v) = vs.find? (fun v => !isI v) := by rw [List.find?_cons_of_neg]; simp [e]
        rw [same] at bad good
        exact ih _ (fun u hu => ok u (List.mem_cons_of_mem _ hu)) bad (fun z ds' hd => good z ds' ⟨hd.1.trans (by rw [List.getElem?_set_ne (by decide)]), hd.2.trans (by rw [List.length_set])⟩) (by rw [List.length_set]; exact hl)
      | false => exact bad v (by rw [List.find?_cons_of_pos]; simp [e]) _
  refine ⟨_, rfl, key _ xs _ ok (fun v hv _ => x1 v hv) (fun none_ ds' hd => ?_) (show 1 < 2 by decide)⟩
  have h0 : ds'[0]? = some (some (D.tup xs)) := hd.1
  simp only [sSeq, sAsg, gNm, sRet, sRetN, bD, xD, nmD, startD, sIf, DL.tB, DL.tNot, DL.tAnd, DL.tOr, eAnd, eOr, eNot, eIf, isB, sDrop, sNext, sPar, eTup, eLst, eCall, eCB, aNil, aCons, eFld, eFldM, eProp, eMeth, eMethK, eMake, eMakeK, eUn, sFldM, sRaise, addI, addS, addL, subI, negI, mulI, mulL, divI, modI, powI, eqI, neI, eqS, neS, lenL, lenT, lenC, absI, intI, strI, repX, dmI, it0, it1, itL0, itL1, itL2, itL3, itL4, itL5, itL6, itR, eStat, oNone, oSome, eSl, gTp2', gIx, eLstM, eApp, DL.rIn, DL.rNe, eFmt, eJs, eDic0, sNever, mx2, mn2, ltI, leI, gtI, geI, eChain, decide_eq_true_eq, List.map_cons, List.map_nil, List.length_cons, List.length_nil, Nat.reduceAdd, Nat.reduceSub, List.replicate_succ, List.replicate_zero, List.cons_append, List.nil_append, List.getElem?_cons_zero, List.getElem?_cons_succ, List.reverse_cons, List.reverse_nil, Option.some.injEq, exists_eq_left', List.set_cons_zero, List.set_cons_succ, if_true, if_false, Bool.false_eq_true, reduceIte, and_self, true_and, D.bl.injEq, D.ob.injEq, D.int.injEq, D.str.injEq, D.tup.injEq, exists_and_left, exists_eq_left, reduceCtorEq, and_true, lk_low, lk_high, exists_eq', and_self, h0]
  by_cases c : xs = []
  · subst c
    exact iteT' (show (([] : List D).length : Int) = 0 from rfl) (x2 rfl)
  · obtain ⟨ns, rfl⟩ := ints_of none_
    have hne : ns ≠ [] := fun z => c (by rw [z]; rfl)
    rw [if_neg (show ¬ (((ns.map D.int).length : Nat) : Int) = 0 by rw [List.length_map]; cases ns with | nil => exact absurd rfl hne | cons n ns => simp; omega)]
    refine (.inr ⟨ns, .inr rfl, hne, .inr ⟨ns, .inr rfl, hne, mk_span ?_ (q ns rfl hne)⟩⟩)
    obtain ⟨a1, a2⟩ := mnL_mem hne
    exact (mxL_mem hne).2 _ a1
theorem ok_Span_low (T : Tx K mg base a d) : FnG false false P w K mg base 1 a.f_Span_low d.f_Span_low ["self"] (spL (G a) (s_get (fun l _ => .int l))) := by
  refine fn_okG T.F_Span_low sc_Span_low (fun _ _ _ _ ⟨_, _, e, _⟩ => len1 e) (fun cdv A outer s H E xs m Q x hr h => ⟨_, (dss_one (ds_ret (de_fld (c := 0) T.c_Span T.n_Span_own_low (de_nm (pv 0))))), ?_⟩)
  obtain ⟨l, h, rfl, q⟩ := h
  simp only [sSeq, sAsg, gNm, sRet, sRetN, bD, xD, nmD, startD, sIf, DL.tB, DL.tNot, DL.tAnd, DL.tOr, eAnd, eOr, eNot, eIf, isB, sDrop, sNext, sPar, eTup, eLst, eCall, eCB, aNil, aCons, eFld, eFldM, eProp, eMeth, eMethK, eMake, eMakeK, eUn, sFldM, sRaise, addI, addS, addL, subI, negI, mulI, mulL, divI, modI, powI, eqI, neI, eqS, neS, lenL, lenT, lenC, absI, intI, strI, repX, dmI, it0, it1, itL0, itL1, itL2, itL3, itL4, itL5, itL6, itR, eStat, oNone, oSome, eSl, gTp2', gIx, eLstM, eApp, DL.rIn, DL.rNe, eFmt, eJs, eDic0, sNever, mx2, mn2, ltI, leI, gtI, geI, eChain, decide_eq_true_eq, List.map_cons, List.map_nil, List.length_cons, List.length_nil, Nat.reduceAdd, Nat.reduceSub, List.replicate_succ, List.replicate_zero, List.cons_append, List.nil_append, List.getElem?_cons_zero, List.getElem?_cons_succ, List.reverse_cons, List.reverse_nil, Option.some.injEq, exists_eq_left', List.set_cons_zero, List.set_cons_succ, if_true, if_false, Bool.false_eq_true, reduceIte, and_self, true_and, D.bl.injEq, D.ob.injEq, D.int.injEq, D.str.injEq, D.tup.injEq, exists_and_left, exists_eq_left, reduceCtorEq, and_true, lk_low, lk_high, exists_eq', and_self]
  exact q
theorem ok_Span_high (T : Tx K mg base a d) : FnG false false P w K mg base 1 a.f_Span_high d.f_Span_high ["self"] (spL (G a) (s_get (fun _ h => .int h))) := by
  refine fn_okG T.F_Span_high sc_Span_high (fun _ _ _ _ ⟨_, _, e, _⟩ => len1 e) (fun cdv A outer s H E xs m Q x hr h => ⟨_, (dss_one (ds_ret (de_fld (c := 0) T.c_Span T.n_Span_own_high (de_nm (pv 0))))), ?_⟩)
  obtain ⟨l, h, rfl, q⟩ := h
  simp only [sSeq, sAsg, gNm, sRet, sRetN, bD, xD, nmD, startD, sIf, DL.tB, DL.tNot, DL.tAnd, DL.tOr, eAnd, eOr, eNot, eIf, isB, sDrop, sNext, sPar, eTup, eLst, eCall, eCB, aNil, aCons, eFld, eFldM, eProp, eMeth, eMethK, eMake, eMakeK, eUn, sFldM, sRaise, addI, addS, addL, subI, negI, mulI, mulL, divI, modI, powI, eqI, neI, eqS, neS, lenL, lenT, lenC, absI, intI, strI, repX, dmI, it0, it1, itL0, itL1, itL2, itL3, itL4, itL5, itL6, itR, eStat, oNone, oSome, eSl, gTp2', gIx, eLstM, eApp, DL.rIn, DL.rNe, eFmt, eJs, eDic0, sNever, mx2, mn2, ltI, leI, gtI, geI, eChain, decide_eq_true_eq, List.map_cons, List.map_nil, List.length_cons, List.length_nil, Nat.reduceAdd, Nat.reduceSub, List.replicate_succ, List.replicate_zero, List.cons_append, List.nil_append, List.getElem?_cons_zero, List.getElem?_cons_succ, List.reverse_cons, List.reverse_nil, Option.some.injEq, exists_eq_left', List.set_cons_zero, List.set_cons_succ, if_true, if_false, Bool.false_eq_true, reduceIte, and_self, true_and, D.bl.injEq, D.ob.injEq, D.int.injEq, D.str.injEq, D.tup.injEq, exists_and_left, exists_eq_left, reduceCtorEq, and_true, lk_low, lk_high, exists_eq', and_self]
  exact q
theorem ok_Span_is_within (T : Tx K mg base a d) : FnG false false P w K mg base 4 a.f_Span_is_within d.f_Span_is_within ["self", "other"] (spL (G a) (s_two fun l h l2 h2 => .bl (decide (l2 ≤ l) && decide (h ≤ h2)))) := by
  refine fn_okG T.F_Span_is_within sc_Span_is_within (fun _ _ _ _ ⟨_, _, _, e, _⟩ => len2 e) (fun cdv A outer s H E xs m Q x hr h => ⟨_, (dss_cons (ds_expr (de_call (ok_want_span T) (hr.mono (show 3 ≤ _ by decide)) (by rfl) T.m_want_span T.F_want_span.kp T.b_want_span takesG (da_cons (de_nm (pv 1)) da_nil))) (dss_one (ds_ret (de_and (de_cmp (od_le hr.u0) (de_fld (c := 0) T.c_Span T.n_Span_own_low (de_nm (pv 1))) (de_fld (c := 0) T.c_Span T.n_Span_own_low (de_nm (pv 0))) (nomark _)) (de_one (de_cmp (od_le hr.u0) (de_fld (c := 0) T.c_Span T.n_Span_own_high (de_nm (pv 0))) (de_fld (c := 0) T.c_Span T.n_Span_own_high (de_nm (pv 1))) (nomark _))))))), ?_⟩)
  obtain ⟨l, h, v, rfl, le1, ov, x2, q⟩ := h
  simp only [sSeq, sAsg, gNm, sRet, sRetN, bD, xD, nmD, startD, sIf, DL.tB, DL.tNot, DL.tAnd, DL.tOr, eAnd, eOr, eNot, eIf, isB, sDrop, sNext, sPar, eTup, eLst, eCall, eCB, aNil, aCons, eFld, eFldM, eProp, eMeth, eMethK, eMake, eMakeK, eUn, sFldM, sRaise, addI, addS, addL, subI, negI, mulI, mulL, divI, modI, powI, eqI, neI, eqS, neS, lenL, lenT, lenC, absI, intI, strI, repX, dmI, it0, it1, itL0, itL1, itL2, itL3, itL4, itL5, itL6, itR, eStat, oNone, oSome, eSl, gTp2', gIx, eLstM, eApp, DL.rIn, DL.rNe, eFmt, eJs, eDic0, sNever, mx2, mn2, ltI, leI, gtI, geI, eChain, decide_eq_true_eq, List.map_cons, List.map_nil, List.length_cons, List.length_nil, Nat.reduceAdd, Nat.reduceSub, List.replicate_succ, List.replicate_zero, List.cons_append, List.nil_append, List.getElem?_cons_zero, List.getElem?_cons_succ, List.reverse_cons, List.reverse_nil, Option.some.injEq, exists_eq_left', List.set_cons_zero, List.set_cons_succ, if_true, if_false, Bool.false_eq_true, reduceIte, and_self, true_and, D.bl.injEq, D.ob.injEq, D.int.injEq, D.str.injEq, D.tup.injEq, exists_and_left, exists_eq_left, reduceCtorEq, and_true, lk_low, lk_high, exists_eq', and_self]
  refine ⟨v, rfl, ov, ?_⟩
  cases e : isO 0 v with
  | false => exact x2 e
  | true =>
    obtain ⟨l2, h2, rfl, le2⟩ := isO_span ov e
    have q := q l2 h2 rfl le2
    rw [if_pos rfl]
    simp only [sSeq, sAsg, gNm, sRet, sRetN, bD, xD, nmD, startD, sIf, DL.tB, DL.tNot, DL.tAnd, DL.tOr, eAnd, eOr, eNot, eIf, isB, sDrop, sNext, sPar, eTup, eLst, eCall, eCB, aNil, aCons, eFld, eFldM, eProp, eMeth, eMethK, eMake, eMakeK, eUn, sFldM, sRaise, addI, addS, addL, subI, negI, mulI, mulL, divI, modI, powI, eqI, neI, eqS, neS, lenL, lenT, lenC, absI, intI, strI, repX, dmI, it0, it1, itL0, itL1, itL2, itL3, itL4, itL5, itL6, itR, eStat, oNone, oSome, eSl, gTp2', gIx, eLstM, eApp, DL.rIn, DL.rNe, eFmt, eJs, eDic0, sNever, mx2, mn2, ltI, leI, gtI, geI, eChain, decide_eq_true_eq, List.map_cons, List.map_nil, List.length_cons, List.length_nil, Nat.reduceAdd, Nat.reduceSub, List.replicate_succ, List.replicate_zero, List.cons_append, List.nil_append, List.getElem?_cons_zero, List.getElem?_cons_succ, List.reverse_cons, List.reverse_nil, Option.some.injEq, exists_eq_left', List.set_cons_zero, List.set_cons_succ, if_true, if_false, Bool.false_eq_true, reduceIte, and_self, true_and, D.bl.injEq, D.ob.injEq, D.int.injEq, D.str.injEq, D.tup.injEq, exists_and_left, exists_eq_left, reduceCtorEq, and_true, lk_low, lk_high, exists_eq', and_self]
    dsimp only at q
    by_cases c : l2 ≤ l
    · rw [if_pos c]
      rw [decide_eq_true c] at q
      exact q
    · rw [if_neg c]
      rw [decide_eq_false c] at q
      exact q
theorem ok_Span___and__ (T : Tx K mg base a d) : FnG false false P w K mg base 6 a.f_Span___and__ d.f_Span___and__ ["self", "other"] (spL (G a) s_and) := by
  refine fn_okG T.F_Span___and__ sc_Span___and__ (fun _ _ _ _ ⟨_, _, _, e, _⟩ => len2 e) (fun cdv A outer s H E xs m Q x hr h => ⟨_, (dss_cons (ds_expr (de_call (ok_want_span T) (hr.mono (show 3 ≤ _ by decide)) (by rfl) T.m_want_span T.F_want_span.kp T.b_want_span takesG (da_cons (de_nm (pv 1)) da_nil))) (dss_cons (ds_if (dw_pt (dw_or (dt_cmp (od_gt hr.u0) (de_fld (c := 0) T.c_Span T.n_Span_own_low (de_nm (pv 1))) (de_fld (c := 0) T.c_Span T.n_Span_own_high (de_nm (pv 0))) (nomark _)) (dw_or1 (dt_cmp (od_gt hr.u0) (de_fld (c := 0) T.c_Span T.n_Span_own_low (de_nm (pv 0))) (de_fld (c := 0) T.c_Span T.n_Span_own_high (de_nm (pv 1))) (nomark _))))) (dss_one (ds_raise (c := 4) rfl takesG T.Z_Apart T.iC_Apart T.tI_Apart (ok_Apart___init__ (hot := false) (grd := false) T) (hr.mono (show 2 ≤ _ by decide)) T.b_Apart___init__ (by rfl) T.m_Apart rfl (by decide) (da_cons (de_nm (pv 0)) (da_cons (de_nm (pv 1)) da_nil)))) dss_nil) (dss_one (ds_ret (de_make (c := 0) T.M_Span (ok_Span___init__ T) (hr.mono (show 5 ≤ _ by decide)) (by rfl) T.m_Span T.b_Span___init__ takesG (da_cons (de_callB (cd_mx (by rfl) hr.u8) (by rfl) T.z_max boot_max (da_cons (de_fld (c := 0) T.c_Span T.n_Span_own_low (de_nm (pv 0))) (da_cons (de_fld (c := 0) T.c_Span T.n_Span_own_low (de_nm (pv 1))) da_nil))) (da_cons (de_callB (cd_mn (by rfl) hr.u8) (by rfl) T.z_min boot_min (da_cons (de_fld (c := 0) T.c_Span T.n_Span_own_high (de_nm (pv 0))) (da_cons (de_fld (c := 0) T.c_Span T.n_Span_own_high (de_nm (pv 1))) da_nil))) da_nil))))))), ?_⟩)
  obtain ⟨l, h, v, rfl, le1, ov, x2, q⟩ := h
  simp only [sSeq, sAsg, gNm, sRet, sRetN, bD, xD, nmD, startD, sIf, DL.tB, DL.tNot, DL.tAnd, DL.tOr, eAnd, eOr, eNot, eIf, isB, sDrop, sNext, sPar, eTup, eLst, eCall, eCB, aNil, aCons, eFld, eFldM, eProp, eMeth, eMethK, eMake, eMakeK, eUn, sFldM, sRaise, addI, addS, addL, subI, negI, mulI, mulL, divI, modI, powI, eqI, neI, eqS, neS, lenL, lenT, lenC, absI, intI, strI, repX, dmI, it0, it1, itL0, itL1, itL2, itL3, itL4, itL5, itL6, itR, eStat, oNone, oSome, eSl, gTp2', gIx, eLstM, eApp, DL.rIn, DL.rNe, eFmt, eJs, eDic0, sNever, mx2, mn2, ltI, leI, gtI, geI, eChain, decide_eq_true_eq, List.map_cons, List.map_nil, List.length_cons, List.length_nil, Nat.reduceAdd, Nat.reduceSub, List.replicate_succ, List.replicate_zero, List.cons_append, List.nil_append, List.getElem?_cons_zero, List.getElem?_cons_succ, List.reverse_cons, List.reverse_nil, Option.some.injEq, exists_eq_left', List.set_cons_zero, List.set_cons_succ, if_true, if_false, Bool.false_eq_true, reduceIte, and_self, true_and, D.bl.injEq, D.ob.injEq, D.int.injEq, D.str.injEq, D.tup.injEq, exists_and_left, exists_eq_left, reduceCtorEq, and_true, lk_low, lk_high, exists_eq', and_self]
  refine ⟨v, rfl, ov, ?_⟩
  cases e : isO 0 v with
  | false => exact x2 e
  | true =>
    obtain ⟨l2, h2, rfl, le2⟩ := isO_span ov e
    have q := q l2 h2 rfl le2
    rw [if_pos rfl]
    simp only [sSeq, sAsg, gNm, sRet, sRetN, bD, xD, nmD, startD, sIf, DL.tB, DL.tNot, DL.tAnd, DL.tOr, eAnd, eOr, eNot, eIf, isB, sDrop, sNext, sPar, eTup, eLst, eCall, eCB, aNil, aCons, eFld, eFldM, eProp, eMeth, eMethK, eMake, eMakeK, eUn, sFldM, sRaise, addI, addS, addL, subI, negI, mulI, mulL, divI, modI, powI, eqI, neI, eqS, neS, lenL, lenT, lenC, absI, intI, strI, repX, dmI, it0, it1, itL0, itL1, itL2, itL3, itL4, itL5, itL6, itR, eStat, oNone, oSome, eSl, gTp2', gIx, eLstM, eApp, DL.rIn, DL.rNe, eFmt, eJs, eDic0, sNever, mx2, mn2, ltI, leI, gtI, geI, eChain, decide_eq_true_eq, List.map_cons, List.map_nil, List.length_cons, List.length_nil, Nat.reduceAdd, Nat.reduceSub, List.replicate_succ, List.replicate_zero, List.cons_append, List.nil_append, List.getElem?_cons_zero, List.getElem?_cons_succ, List.reverse_cons, List.reverse_nil, Option.some.injEq, exists_eq_left', List.set_cons_zero, List.set_cons_succ, if_true, if_false, Bool.false_eq_true, reduceIte, and_self, true_and, D.bl.injEq, D.ob.injEq, D.int.injEq, D.str.injEq, D.tup.injEq, exists_and_left, exists_eq_left, reduceCtorEq, and_true, lk_low, lk_high, exists_eq', and_self]
    by_cases c : aprt l h l2 h2
    · rw [if_pos c] at q
      unfold aprt at c
      by_cases c1 : h < l2
      · rw [if_pos c1]
        exact q
      · rw [if_neg c1, if_pos (show h2 < l by omega)]
        exact q
    · rw [if_neg c] at q
      unfold aprt at c
      rw [if_neg (show ¬ h < l2 by omega), if_neg (show ¬ h2 < l by omega)]
      exact mk_span (by omega) q
theorem ok_Span___or__ (T : Tx K mg base a d) : FnG false false P w K mg base 6 a.f_Span___or__ d.f_Span___or__ ["self", "other"] (spL (G a) (s_two fun l h l2 h2 => spv (min l l2) (max h h2))) := by
  refine fn_okG T.F_Span___or__ sc_Span___or__ (fun _ _ _ _ ⟨_, _, _, e, _⟩ => len2 e) (fun cdv A outer s H E xs m Q x hr h => ⟨_, (dss_cons (ds_expr (de_call (ok_want_span T) (hr.mono (show 3 ≤ _ by decide)) (by rfl) T.m_want_span T.F_want_span.kp T.b_want_span takesG (da_cons (de_nm (pv 1)) da_nil))) (dss_one (ds_ret (de_make (c := 0) T.M_Span (ok_Span___init__ T) (hr.mono (show 5 ≤ _ by decide)) (by rfl) T.m_Span T.b_Span___init__ takesG (da_cons (de_callB (cd_mn (by rfl) hr.u8) (by rfl) T.z_min boot_min (da_cons (de_fld (c := 0) T.c_Span T.n_Span_own_low (de_nm (pv 0))) (da_cons (de_fld (c := 0) T.c_Span T.n_Span_own_low (de_nm (pv 1))) da_nil))) (da_cons (de_callB (cd_mx (by rfl) hr.u8) (by rfl) T.z_max boot_max (da_cons (de_fld (c := 0) T.c_Span T.n_Span_own_high (de_nm (pv 0))) (da_cons (de_fld (c := 0) T.c_Span T.n_Span_own_high (de_nm (pv 1))) da_nil))) da_nil)))))), ?_⟩)
  obtain ⟨l, h, v, rfl, le1, ov, x2, q⟩ := h
  simp only [sSeq, sAsg, gNm, sRet, sRetN, bD, xD, nmD, startD, sIf, DL.tB, DL.tNot, DL.tAnd, DL.tOr, eAnd, eOr, eNot, eIf, isB, sDrop, sNext, sPar, eTup, eLst, eCall, eCB, aNil, aCons, eFld, eFldM, eProp, eMeth, eMethK, eMake, eMakeK, eUn, sFldM, sRaise, addI, addS, addL, subI, negI, mulI, mulL, divI, modI, powI, eqI, neI, eqS, neS, lenL, lenT, lenC, absI, intI, strI, repX, dmI, it0, it1, itL0, itL1, itL2, itL3, itL4, itL5, itL6, itR, eStat, oNone, oSome, eSl, gTp2', gIx, eLstM, eApp, DL.rIn, DL.rNe, eFmt, eJs, eDic0, sNever, mx2, mn2, ltI, leI, gtI, geI, eChain, decide_eq_true_eq, List.map_cons, List.map_nil, List.length_cons, List.length_nil, Nat.reduceAdd, Nat.reduceSub, List.replicate_succ, List.replicate_zero, List.cons_append, List.nil_append, List.getElem?_cons_zero, List.getElem?_cons_succ, List.reverse_cons, List.reverse_nil, Option.some.injEq, exists_eq_left', List.set_cons_zero, List.set_cons_succ, if_true, if_false, Bool.false_eq_true, reduceIte, and_self, true_and, D.bl.injEq, D.ob.injEq, D.int.injEq, D.str.injEq, D.tup.injEq, exists_and_left, exists_eq_left, reduceCtorEq, and_true, lk_low, lk_high, exists_eq', and_self]
  refine ⟨v, rfl, ov, ?_⟩
  cases e : isO 0 v with
  | false => exact x2 e
  | true =>
    obtain ⟨l2, h2, rfl, le2⟩ := isO_span ov e
    have q := q l2 h2 rfl le2
    rw [if_pos rfl]
    simp only [sSeq, sAsg, gNm, sRet, sRetN, bD, xD, nmD, startD, sIf, DL.tB, DL.tNot, DL.tAnd, DL.tOr, eAnd, eOr, eNot, eIf, isB, sDrop, sNext, sPar, eTup, eLst, eCall, eCB, aNil, aCons, eFld, eFldM, eProp, eMeth, eMethK, eMake, eMakeK, eUn, sFldM, sRaise, addI, addS, addL, subI, negI, mulI, mulL, divI, modI, powI, eqI, neI, eqS, neS, lenL, lenT, lenC, absI, intI, strI, repX, dmI, it0, it1, itL0, itL1, itL2, itL3, itL4, itL5, itL6, itR, eStat, oNone, oSome, eSl, gTp2', gIx, eLstM, eApp, DL.rIn, DL.rNe, eFmt, eJs, eDic0, sNever, mx2, mn2, ltI, leI, gtI, geI, eChain, decide_eq_true_eq, List.map_cons, List.map_nil, List.length_cons, List.length_nil, Nat.reduceAdd, Nat.reduceSub, List.replicate_succ, List.replicate_zero, List.cons_append, List.nil_append, List.getElem?_cons_zero, List.getElem?_cons_succ, List.reverse_cons, List.reverse_nil, Option.some.injEq, exists_eq_left', List.set_cons_zero, List.set_cons_succ, if_true, if_false, Bool.false_eq_true, reduceIte, and_self, true_and, D.bl.injEq, D.ob.injEq, D.int.injEq, D.str.injEq, D.tup.injEq, exists_and_left, exists_eq_left, reduceCtorEq, and_true, lk_low, lk_high, exists_eq', and_self]
    exact mk_span (by omega) q
theorem ok_Span___add__ (T : Tx K mg base a d) : FnG false false P w K mg base 6 a.f_Span___add__ d.f_Span___add__ ["self", "number"] (spL (G a) (s_int (fun l h n => spv (l + n) (h + n)))) := by
  refine fn_okG T.F_Span___add__ sc_Span___add__ (fun _ _ _ _ ⟨_, _, _, e, _⟩ => len2 e) (fun cdv A outer s H E xs m Q x hr h => ⟨_, (dss_cons (ds_expr (de_call (ok_want_level T) (hr.mono (show 3 ≤ _ by decide)) (by rfl) T.m_want_level T.F_want_level.kp T.b_want_level takesG (da_cons (de_nm (pv 1)) da_nil))) (dss_one (ds_ret (de_make (c := 0) T.M_Span (ok_Span___init__ T) (hr.mono (show 5 ≤ _ by decide)) (by rfl) T.m_Span T.b_Span___init__ takesG (da_cons (de_op od_add (de_fld (c := 0) T.c_Span T.n_Span_own_low (de_nm (pv 0))) (de_nm (pv 1))) (da_cons (de_op od_add (de_fld (c := 0) T.c_Span T.n_Span_own_high (de_nm (pv 0))) (de_nm (pv 1))) da_nil)))))), ?_⟩)
  obtain ⟨l, h, v, rfl, le, ov, x1, q⟩ := h
  simp only [sSeq, sAsg, gNm, sRet, sRetN, bD, xD, nmD, startD, sIf, DL.tB, DL.tNot, DL.tAnd, DL.tOr, eAnd, eOr, eNot, eIf, isB, sDrop, sNext, sPar, eTup, eLst, eCall, eCB, aNil, aCons, eFld, eFldM, eProp, eMeth, eMethK, eMake, eMakeK, eUn, sFldM, sRaise, addI, addS, addL, subI, negI, mulI, mulL, divI, modI, powI, eqI, neI, eqS, neS, lenL, lenT, lenC, absI, intI, strI, repX, dmI, it0, it1, itL0, itL1, itL2, itL3, itL4, itL5, itL6, itR, eStat, oNone, oSome, eSl, gTp2', gIx, eLstM, eApp, DL.rIn, DL.rNe, eFmt, eJs, eDic0, sNever, mx2, mn2, ltI, leI, gtI, geI, eChain, decide_eq_true_eq, List.map_cons, List.map_nil, List.length_cons, List.length_nil, Nat.reduceAdd, Nat.reduceSub, List.replicate_succ, List.replicate_zero, List.cons_append, List.nil_append, List.getElem?_cons_zero, List.getElem?_cons_succ, List.reverse_cons, List.reverse_nil, Option.some.injEq, exists_eq_left', List.set_cons_zero, List.set_cons_succ, if_true, if_false, Bool.false_eq_true, reduceIte, and_self, true_and, D.bl.injEq, D.ob.injEq, D.int.injEq, D.str.injEq, D.tup.injEq, exists_and_left, exists_eq_left, reduceCtorEq, and_true, lk_low, lk_high, exists_eq', and_self]
  refine ⟨v, rfl, ov, ?_⟩
  cases e : isI v with
  | false => exact x1 e
  | true =>
    obtain ⟨n, rfl⟩ : ∃ n, v = .int n := by cases v <;> first | exact ⟨_, rfl⟩ | cases e
    rw [if_pos rfl]
    simp only [sSeq, sAsg, gNm, sRet, sRetN, bD, xD, nmD, startD, sIf, DL.tB, DL.tNot, DL.tAnd, DL.tOr, eAnd, eOr, eNot, eIf, isB, sDrop, sNext, sPar, eTup, eLst, eCall, eCB, aNil, aCons, eFld, eFldM, eProp, eMeth, eMethK, eMake, eMakeK, eUn, sFldM, sRaise, addI, addS, addL, subI, negI, mulI, mulL, divI, modI, powI, eqI, neI, eqS, neS, lenL, lenT, lenC, absI, intI, strI, repX, dmI, it0, it1, itL0, itL1, itL2, itL3, itL4, itL5, itL6, itR, eStat, oNone, oSome, eSl, gTp2', gIx, eLstM, eApp, DL.rIn, DL.rNe, eFmt, eJs, eDic0, sNever, mx2, mn2, ltI, leI, gtI, geI, eChain, decide_eq_true_eq, List.map_cons, List.map_nil, List.length_cons, List.length_nil, Nat.reduceAdd, Nat.reduceSub, List.replicate_succ, List.replicate_zero, List.cons_append, List.nil_append, List.getElem?_cons_zero, List.getElem?_cons_succ, List.reverse_cons, List.reverse_nil, Option.some.injEq, exists_eq_left', List.set_cons_zero, List.set_cons_succ, if_true, if_false, Bool.false_eq_true, reduceIte, and_self, true_and, D.bl.injEq, D.ob.injEq, D.int.injEq, D.str.injEq, D.tup.injEq, exists_and_left, exists_eq_left, reduceCtorEq, and_true, lk_low, lk_high, exists_eq', and_self]
    exact mk_span (by omega) (q n rfl)
theorem ok_Span___radd__ (T : Tx K mg base a d) : FnG false false P w K mg base 6 a.f_Span___radd__ d.f_Span___radd__ ["self", "number"] (spL (G a) (s_int (fun l h n => spv (l + n) (h + n)))) := by
  refine fn_okG T.F_Span___radd__ sc_Span___radd__ (fun _ _ _ _ ⟨_, _, _, e, _⟩ => len2 e) (fun cdv A outer s H E xs m Q x hr h => ⟨_, (dss_cons (ds_expr (de_call (ok_want_level T) (hr.mono (show 3 ≤ _ by decide)) (by rfl) T.m_want_level T.F_want_level.kp T.b_want_level takesG (da_cons (de_nm (pv 1)) da_nil))) (dss_one (ds_ret (de_make (c := 0) T.M_Span (ok_Span___init__ T) (hr.mono (show 5 ≤ _ by decide)) (by rfl) T.m_Span T.b_Span___init__ takesG (da_cons (de_op od_add (de_fld (c := 0) T.c_Span T.n_Span_own_low (de_nm (pv 0))) (de_nm (pv 1))) (da_cons (de_op od_add (de_fld (c := 0) T.c_Span T.n_Span_own_high (de_nm (pv 0))) (de_nm (pv 1))) da_nil)))))), ?_⟩)
  obtain ⟨l, h, v, rfl, le, ov, x1, q⟩ := h
  simp only [sSeq, sAsg, gNm, sRet, sRetN, bD, xD, nmD, startD, sIf, DL.tB, DL.tNot, DL.tAnd, DL.tOr, eAnd, eOr, eNot, eIf, isB, sDrop, sNext, sPar, eTup, eLst, eCall, eCB, aNil, aCons, eFld, eFldM, eProp, eMeth, eMethK, eMake, eMakeK, eUn, sFldM, sRaise, addI, addS, addL, subI, negI, mulI, mulL, divI, modI, powI, eqI, neI, eqS, neS, lenL, lenT, lenC, absI, intI, strI, repX, dmI, it0, it1, itL0, itL1, itL2, itL3, itL4, itL5, itL6, itR, eStat, oNone, oSome, eSl, gTp2', gIx, eLstM, eApp, DL.rIn, DL.rNe, eFmt, eJs, eDic0, sNever, mx2, mn2, ltI, leI, gtI, geI, eChain, decide_eq_true_eq, List.map_cons, List.map_nil, List.length_cons, List.length_nil, Nat.reduceAdd, Nat.reduceSub, List.replicate_succ, List.replicate_zero, List.cons_append, List.nil_append, List.getElem?_cons_zero, List.getElem?_cons_succ, List.reverse_cons, List.reverse_nil, Option.some.injEq, exists_eq_left', List.set_cons_zero, List.set_cons_succ, if_true, if_false, Bool.false_eq_true, reduceIte, and_self, true_and, D.bl.injEq, D.ob.injEq, D.int.injEq, D.str.injEq, D.tup.injEq, exists_and_left, exists_eq_left, reduceCtorEq, and_true, lk_low, lk_high, exists_eq', and_self]
  refine ⟨v, rfl, ov, ?_⟩
  cases e : isI v with
  | false => exact x1 e
  | true =>
    obtain ⟨n, rfl⟩ : ∃ n, v = .int n := by cases v <;> first | exact ⟨_, rfl⟩ | cases e
    rw [if_pos rfl]
    simp only [sSeq, sAsg, gNm, sRet, sRetN, bD, xD, nmD, startD, sIf, DL.tB, DL.tNot, DL.tAnd, DL.tOr, eAnd, eOr, eNot, eIf, isB, sDrop, sNext, sPar, eTup, eLst, eCall, eCB, aNil, aCons, eFld, eFldM, eProp, eMeth, eMethK, eMake, eMakeK, eUn, sFldM, sRaise, addI, addS, addL, subI, negI, mulI, mulL, divI, modI, powI, eqI, neI, eqS, neS, lenL, lenT, lenC, absI, intI, strI, repX, dmI, it0, it1, itL0, itL1, itL2, itL3, itL4, itL5, itL6, itR, eStat, oNone, oSome, eSl, gTp2', gIx, eLstM, eApp, DL.rIn, DL.rNe, eFmt, eJs, eDic0, sNever, mx2, mn2, ltI, leI, gtI, geI, eChain, decide_eq_true_eq, List.map_cons, List.map_nil, List.length_cons, List.length_nil, Nat.reduceAdd, Nat.reduceSub, List.replicate_succ, List.replicate_zero, List.cons_append, List.nil_append, List.getElem?_cons_zero, List.getElem?_cons_succ, List.reverse_cons, List.reverse_nil, Option.some.injEq, exists_eq_left', List.set_cons_zero, List.set_cons_succ, if_true, if_false, Bool.false_eq_true, reduceIte, and_self, true_and, D.bl.injEq, D.ob.injEq, D.int.injEq, D.str.injEq, D.tup.injEq, exists_and_left, exists_eq_left, reduceCtorEq, and_true, lk_low, lk_high, exists_eq', and_self]
    exact mk_span (by omega) (q n rfl)
theorem ok_Span___sub__ (T : Tx K mg base a d) : FnG false false P w K mg base 6 a.f_Span___sub__ d.f_Span___sub__ ["self", "number"] (spL (G a) (s_int (fun l h n => spv (l - n) (h - n)))) := by
  refine fn_okG T.F_Span___sub__ sc_Span___sub__ (fun _ _ _ _ ⟨_, _, _, e, _⟩ => len2 e) (fun cdv A outer s H E xs m Q x hr h => ⟨_, (dss_cons (ds_expr (de_call (ok_want_level T) (hr.mono (show 3 ≤ _ by decide)) (by rfl) T.m_want_level T.F_want_level.kp T.b_want_level takesG (da_cons (de_nm (pv 1)) da_nil))) (dss_one (ds_ret (de_make (c := 0) T.M_Span (ok_Span___init__ T) (hr.mono (show 5 ≤ _ by decide)) (by rfl) T.m_Span T.b_Span___init__ takesG (da_cons (de_op od_sub (de_fld (c := 0) T.c_Span T.n_Span_own_low (de_nm (pv 0))) (de_nm (pv 1))) (da_cons (de_op od_sub (de_fld (c := 0) T.c_Span T.n_Span_own_high (de_nm (pv 0))) (de_nm (pv 1))) da_nil)))))), ?_⟩)
  obtain ⟨l, h, v, rfl, le, ov, x1, q⟩ := h
  simp only [sSeq, sAsg, gNm, sRet, sRetN, bD, xD, nmD, startD, sIf, DL.tB, DL.tNot, DL.tAnd, DL.tOr, eAnd, eOr, eNot, eIf, isB, sDrop, sNext, sPar, eTup, eLst, eCall, eCB, aNil, aCons, eFld, eFldM, eProp, eMeth, eMethK, eMake, eMakeK, eUn, sFldM, sRaise, addI, addS, addL, subI, negI, mulI, mulL, divI, modI, powI, eqI, neI, eqS, neS, lenL, lenT, lenC, absI, intI, strI, repX, dmI, it0, it1, itL0, itL1, itL2, itL3, itL4, itL5, itL6, itR, eStat, oNone, oSome, eSl, gTp2', gIx, eLstM, eApp, DL.rIn, DL.rNe, eFmt, eJs, eDic0, sNever, mx2, mn2, ltI, leI, gtI, geI, eChain, decide_eq_true_eq, List.map_cons, List.map_nil, List.length_cons, List.length_nil, Nat.reduceAdd, Nat.reduceSub, List.replicate_succ, List.replicate_zero, List.cons_append, List.nil_append, List.getElem?_cons_zero, List.getElem?_cons_succ, List.reverse_cons, List.reverse_nil, Option.some.injEq, exists_eq_left', List.set_cons_zero, List.set_cons_succ, if_true, if_false, Bool.false_eq_true, reduceIte, and_self, true_and, D.bl.injEq, D.ob.injEq, D.int.injEq, D.str.injEq, D.tup.injEq, exists_and_left, exists_eq_left, reduceCtorEq, and_true, lk_low, lk_high, exists_eq', and_self]
  refine ⟨v, rfl, ov, ?_⟩
  cases e : isI v with
  | false => exact x1 e
  | true =>
    obtain ⟨n, rfl⟩ : ∃ n, v = .int n := by cases v <;> first | exact ⟨_, rfl⟩ | cases e
    rw [if_pos rfl]
    simp only [sSeq, sAsg, gNm, sRet, sRetN, bD, xD, nmD, startD, sIf, DL.tB, DL.tNot, DL.tAnd, DL.tOr, eAnd, eOr, eNot, eIf, isB, sDrop, sNext, sPar, eTup, eLst, eCall, eCB, aNil, aCons, eFld, eFldM, eProp, eMeth, eMethK, eMake, eMakeK, eUn, sFldM, sRaise, addI, addS, addL, subI, negI, mulI, mulL, divI, modI, powI, eqI, neI, eqS, neS, lenL, lenT, lenC, absI, intI, strI, repX, dmI, it0, it1, itL0, itL1, itL2, itL3, itL4, itL5, itL6, itR, eStat, oNone, oSome, eSl, gTp2', gIx, eLstM, eApp, DL.rIn, DL.rNe, eFmt, eJs, eDic0, sNever, mx2, mn2, ltI, leI, gtI, geI, eChain, decide_eq_true_eq, List.map_cons, List.map_nil, List.length_cons, List.length_nil, Nat.reduceAdd, Nat.reduceSub, List.replicate_succ, List.replicate_zero, List.cons_append, List.nil_append, List.getElem?_cons_zero, List.getElem?_cons_succ, List.reverse_cons, List.reverse_nil, Option.some.injEq, exists_eq_left', List.set_cons_zero, List.set_cons_succ, if_true, if_false, Bool.false_eq_true, reduceIte, and_self, true_and, D.bl.injEq, D.ob.injEq, D.int.injEq, D.str.injEq, D.tup.injEq, exists_and_left, exists_eq_left, reduceCtorEq, and_true, lk_low, lk_high, exists_eq', and_self]
    exact mk_span (by omega) (q n rfl)
theorem ok_Span___eq__ (T : Tx K mg base a d) : FnG false false P w K mg base 1 a.f_Span___eq__ d.f_Span___eq__ ["self", "other"] (spL (G a) s_eq) := by
  refine fn_okG T.F_Span___eq__ sc_Span___eq__ (fun _ _ _ _ ⟨_, _, _, e, _⟩ => len2 e) (fun cdv A outer s H E xs m Q x hr h => ⟨_, (dss_one (ds_ret (de_and (de_callB cd_isi (by rfl) T.z_isinstance boot_isinstance (da_cons (de_nm (pv 1)) (da_cons (de_c (pe_glob (v := .ref _) (by rfl) T.m_Span rfl) (fun _ => .ref _)) da_nil))) (de_one (de_cmp (od_eq hr.u64) (de_tup (da_cons (de_fld (c := 0) T.c_Span T.n_Span_own_low (de_nm (pv 0))) (da_cons (de_fld (c := 0) T.c_Span T.n_Span_own_high (de_nm (pv 0))) da_nil))) (de_tup (da_cons (de_fld (c := 0) T.c_Span T.n_Span_own_low (de_nm (pv 1))) (da_cons (de_fld (c := 0) T.c_Span T.n_Span_own_high (de_nm (pv 1))) da_nil))) (nomark _)))))), ?_⟩)
  obtain ⟨l, h, v, rfl, ov, q⟩ := h
  simp only [sSeq, sAsg, gNm, sRet, sRetN, bD, xD, nmD, startD, sIf, DL.tB, DL.tNot, DL.tAnd, DL.tOr, eAnd, eOr, eNot, eIf, isB, sDrop, sNext, sPar, eTup, eLst, eCall, eCB, aNil, aCons, eFld, eFldM, eProp, eMeth, eMethK, eMake, eMakeK, eUn, sFldM, sRaise, addI, addS, addL, subI, negI, mulI, mulL, divI, modI, powI, eqI, neI, eqS, neS, lenL, lenT, lenC, absI, intI, strI, repX, dmI, it0, it1, itL0, itL1, itL2, itL3, itL4, itL5, itL6, itR, eStat, oNone, oSome, eSl, gTp2', gIx, eLstM, eApp, DL.rIn, DL.rNe, eFmt, eJs, eDic0, sNever, mx2, mn2, ltI, leI, gtI, geI, eChain, decide_eq_true_eq, List.map_cons, List.map_nil, List.length_cons, List.length_nil, Nat.reduceAdd, Nat.reduceSub, List.replicate_succ, List.replicate_zero, List.cons_append, List.nil_append, List.getElem?_cons_zero, List.getElem?_cons_succ, List.reverse_cons, List.reverse_nil, Option.some.injEq, exists_eq_left', List.set_cons_zero, List.set_cons_succ, if_true, if_false, Bool.false_eq_true, reduceIte, and_self, true_and, D.bl.injEq, D.ob.injEq, D.int.injEq, D.str.injEq, D.tup.injEq, exists_and_left, exists_eq_left, reduceCtorEq, and_true, lk_low, lk_high, exists_eq', and_self]
  refine isi_span T ov ⟨_, rfl, ?_⟩
  cases e : isO 0 v with
  | false =>
    refine iteF ?_
    have e2 : eqSp l h v = false := by
      cases v <;> first | rfl | skip
      rcases okV_ob ov with ⟨l2, h2, z, _⟩ | z
      · cases z; cases e
      · cases z; rfl
    rwa [e2] at q
  | true =>
    obtain ⟨l2, h2, rfl, le2⟩ := isO_span ov e
    refine iteT ?_
    simp only [sSeq, sAsg, gNm, sRet, sRetN, bD, xD, nmD, startD, sIf, DL.tB, DL.tNot, DL.tAnd, DL.tOr, eAnd, eOr, eNot, eIf, isB, sDrop, sNext, sPar, eTup, eLst, eCall, eCB, aNil, aCons, eFld, eFldM, eProp, eMeth, eMethK, eMake, eMakeK, eUn, sFldM, sRaise, addI, addS, addL, subI, negI, mulI, mulL, divI, modI, powI, eqI, neI, eqS, neS, lenL, lenT, lenC, absI, intI, strI, repX, dmI, it0, it1, itL0, itL1, itL2, itL3, itL4, itL5, itL6, itR, eStat, oNone, oSome, eSl, gTp2', gIx, eLstM, eApp, DL.rIn, DL.rNe, eFmt, eJs, eDic0, sNever, mx2, mn2, ltI, leI, gtI, geI, eChain, decide_eq_true_eq, List.map_cons, List.map_nil, List.length_cons, List.length_nil, Nat.reduceAdd, Nat.reduceSub, List.replicate_succ, List.replicate_zero, List.cons_append, List.nil_append, List.getElem?_cons_zero, List.getElem?_cons_succ, List.reverse_cons, List.reverse_nil, Option.some.injEq, exists_eq_left', List.set_cons_zero, List.set_cons_succ, if_true, if_false, Bool.false_eq_true, reduceIte, and_self, true_and, D.bl.injEq, D.ob.injEq, D.int.injEq, D.str.injEq, D.tup.injEq, exists_and_left, exists_eq_left, reduceCtorEq, and_true, lk_low, lk_high, exists_eq', and_self]
    refine ⟨small2, small2, rfl, ?_⟩
    rw [eqB2]
    exact q
theorem ok_Span___repr__ (T : Tx K mg base a d) : FnG true false P w K mg base 1 a.f_Span___repr__ d.f_Span___repr__ ["self"] (spL (G a) (s_txt repS)) := by
  refine fn_okG T.F_Span___repr__ sc_Span___repr__ (fun _ _ _ _ ⟨_, _, e, _⟩ => len1 e) (fun cdv A outer s H E xs m Q x hr h => ⟨_, (dss_one (ds_ret (de_joined (DJ.cons (de_c pe_str (fun _ => .str _)) (DJ.cons (de_fmt (de_fld (c := 0) T.c_Span T.n_Span_own_low (de_nm (pv 0)))) (DJ.cons (de_c pe_str (fun _ => .str _)) (DJ.cons (de_fmt (de_fld (c := 0) T.c_Span T.n_Span_own_high (de_nm (pv 0)))) (DJ.cons (de_c pe_str (fun _ => .str _)) DJ.nil)))))))), ?_⟩)
  obtain ⟨l, h, rfl, fl, fh, q⟩ := h
  simp only [sSeq, sAsg, gNm, sRet, sRetN, bD, xD, nmD, startD, sIf, DL.tB, DL.tNot, DL.tAnd, DL.tOr, eAnd, eOr, eNot, eIf, isB, sDrop, sNext, sPar, eTup, eLst, eCall, eCB, aNil, aCons, eFld, eFldM, eProp, eMeth, eMethK, eMake, eMakeK, eUn, sFldM, sRaise, addI, addS, addL, subI, negI, mulI, mulL, divI, modI, powI, eqI, neI, eqS, neS, lenL, lenT, lenC, absI, intI, strI, repX, dmI, it0, it1, itL0, itL1, itL2, itL3, itL4, itL5, itL6, itR, eStat, oNone, oSome, eSl, gTp2', gIx, eLstM, eApp, DL.rIn, DL.rNe, eFmt, eJs, eDic0, sNever, mx2, mn2, ltI, leI, gtI, geI, eChain, decide_eq_true_eq, List.map_cons, List.map_nil, List.length_cons, List.length_nil, Nat.reduceAdd, Nat.reduceSub, List.replicate_succ, List.replicate_zero, List.cons_append, List.nil_append, List.getElem?_cons_zero, List.getElem?_cons_succ, List.reverse_cons, List.reverse_nil, Option.some.injEq, exists_eq_left', List.set_cons_zero, List.set_cons_succ, if_true, if_false, Bool.false_eq_true, reduceIte, and_self, true_and, D.bl.injEq, D.ob.injEq, D.int.injEq, D.str.injEq, D.tup.injEq, exists_and_left, exists_eq_left, reduceCtorEq, and_true, lk_low, lk_high, exists_eq', and_self]
  simp only [emp_app]
  have s0 := Sh.lit (n := 5) (x := "Span(") (by decide +kernel)
  have s1 := s0.app (Sh.istr fl)
  have s2 := s1.app (Sh.lit (n := 2) (x := ", ") (by decide +kernel))
  have s3 := s2.app (Sh.istr fh)
  have s4 := s3.app (Sh.lit (n := 1) (x := ")") (by decide +kernel))
  exact ⟨fits s0 (by decide), fl, fits s1 (by decide), fits s2 (by decide), fh, fits s3 (by decide), fits s4 (by decide), q⟩
theorem ok_is_list (T : Tx K mg base a d) : FnG false false P w K mg base 1 a.f_is_list d.f_is_list ["value"] (spL (G a) s_islist) := by
  refine fn_okG T.F_is_list sc_is_list (fun _ _ _ _ ⟨e, _⟩ => len1 e) (fun cdv A outer s H E xs m Q x hr h => ⟨_, (dss_one (ds_ret (de_callB cd_isiT (by rfl) T.z_isinstance boot_isinstance (da_cons (de_nm (pv 0)) (da_cons (de_tup (da_cons (de_c (pe_bltn (v := .ty _) (by rfl) T.z_list boot_list rfl) (fun _ => .ty _)) (da_cons (de_c (pe_bltn (v := .ty _) (by rfl) T.z_tuple boot_tuple rfl) (fun _ => .ty _)) da_nil))) da_nil))))), ?_⟩)
  obtain ⟨rfl, q⟩ := h
  simp only [sSeq, sAsg, gNm, sRet, sRetN, bD, xD, nmD, startD, sIf, DL.tB, DL.tNot, DL.tAnd, DL.tOr, eAnd, eOr, eNot, eIf, isB, sDrop, sNext, sPar, eTup, eLst, eCall, eCB, aNil, aCons, eFld, eFldM, eProp, eMeth, eMethK, eMake, eMakeK, eUn, sFldM, sRaise, addI, addS, addL, subI, negI, mulI, mulL, divI, modI, powI, eqI, neI, eqS, neS, lenL, lenT, lenC, absI, intI, strI, repX, dmI, it0, it1, itL0, itL1, itL2, itL3, itL4, itL5, itL6, itR, eStat, oNone, oSome, eSl, gTp2', gIx, eLstM, eApp, DL.rIn, DL.rNe, eFmt, eJs, eDic0, sNever, mx2, mn2, ltI, leI, gtI, geI, eChain, decide_eq_true_eq, List.map_cons, List.map_nil, List.length_cons, List.length_nil, Nat.reduceAdd, Nat.reduceSub, List.replicate_succ, List.replicate_zero, List.cons_append, List.nil_append, List.getElem?_cons_zero, List.getElem?_cons_succ, List.reverse_cons, List.reverse_nil, Option.some.injEq, exists_eq_left', List.set_cons_zero, List.set_cons_succ, if_true, if_false, Bool.false_eq_true, reduceIte, and_self, true_and, D.bl.injEq, D.ob.injEq, D.int.injEq, D.str.injEq, D.tup.injEq, exists_and_left, exists_eq_left, reduceCtorEq, and_true, lk_low, lk_high, exists_eq', and_self, headSp, eCMet, eMakeL, eDZip, eLZip, eLc, lcD, eDc, dcD, eLc2, lc2Out, lc2In, Tgt.put, iSigns, iKeysD, iTupD, iLst, iEnm, iR1, eDicT, gIxT, eGone, inKD, hasD, itKD, keyD, ttYes]
  exact ⟨small2, edsD, _, _, [.type "list", .type "tuple"], true, rfl, rfl, rfl, (fun c ys z => by cases z), kitAny_cons (b := true) (kit_ty (by decide +kernel)) (fun z => nomatch z) (fun _ => rfl), q⟩
theorem ok_is_name (T : Tx K mg base a d) : FnG false false P w K mg base 1 a.f_is_name d.f_is_name ["value"] (spL (G a) s_isname) := by
  refine fn_okG T.F_is_name sc_is_name (fun _ _ _ _ ⟨_, e, _⟩ => len1 e) (fun cdv A outer s H E xs m Q x hr h => ⟨_, (dss_cons (ds_if (dw_pt (dw_or (dt_not (dt_val (de_callB cd_isi (by rfl) T.z_isinstance boot_isinstance (da_cons (de_nm (pv 0)) (da_cons (de_c (pe_bltn (v := .ty _) (by rfl) T.z_str boot_str rfl) (fun _ => .ty _)) da_nil))))) (dw_or1 (dt_not (dt_chain (od_le hr.u0) (od_le hr.u0) (de_c pe_int (fun _ => .int _)) (de_callB (cd_len) (by rfl) T.z_len boot_len (da_cons (de_nm (pv 0)) da_nil)) (de_globI T.m_MOST_SIGNS (by rfl))))))) (dss_one (ds_ret (de_c pe_bl (fun _ => .bl _)))) dss_nil) (dss_one (ds_ret (de_and (de_cmp od_in (de_ix (de_nm (pv 0)) (de_c pe_int (fun _ => .int _)) (fun _ _ => rfl)) (de_globS T.m_LETTERS (by rfl)) (by with_unfolding_all rfl)) (de_one (de_callB (cd_all (by rfl)) (by rfl) T.z_all boot_all (da_cons (de_lc (own := [("sign", 1)]) (tgt := .one 1) rfl sc_is_name.nd (by decide) (di_signs (de_nm (pv 0))) (blkOk_by (own := [("sign", 1)]) (N := N_is_name) (sc := defScope s_is_name) (by decide +kernel)) (fun _ _ _ _ _ => pg_name (i := 1) sc_is_name.nd rfl (Or.inl rfl)) (fun _ _ _ _ _ => dts_nil) (fun _ _ _ _ _ => (de_or (de_cmp od_in (de_nm (pv 1)) (de_globS T.m_LETTERS (by rfl)) (by with_unfolding_all rfl)) (de_one (de_cmp od_in (de_nm (pv 1)) (de_globS T.m_DIGITS (by rfl)) (by with_unfolding_all rfl)))))) da_nil))))))), ?_⟩)
  obtain ⟨x, rfl, small, q⟩ := h
  simp only [sSeq, sAsg, gNm, sRet, sRetN, bD, xD, nmD, startD, sIf, DL.tB, DL.tNot, DL.tAnd, DL.tOr, eAnd, eOr, eNot, eIf, isB, sDrop, sNext, sPar, eTup, eLst, eCall, eCB, aNil, aCons, eFld, eFldM, eProp, eMeth, eMethK, eMake, eMakeK, eUn, sFldM, sRaise, addI, addS, addL, subI, negI, mulI, mulL, divI, modI, powI, eqI, neI, eqS, neS, lenL, lenT, lenC, absI, intI, strI, repX, dmI, it0, it1, itL0, itL1, itL2, itL3, itL4, itL5, itL6, itR, eStat, oNone, oSome, eSl, gTp2', gIx, eLstM, eApp, DL.rIn, DL.rNe, eFmt, eJs, eDic0, sNever, mx2, mn2, ltI, leI, gtI, geI, eChain, decide_eq_true_eq, List.map_cons, List.map_nil, List.length_cons, List.length_nil, Nat.reduceAdd, Nat.reduceSub, List.replicate_succ, List.replicate_zero, List.cons_append, List.nil_append, List.getElem?_cons_zero, List.getElem?_cons_succ, List.reverse_cons, List.reverse_nil, Option.some.injEq, exists_eq_left', List.set_cons_zero, List.set_cons_succ, if_true, if_false, Bool.false_eq_true, reduceIte, and_self, true_and, D.bl.injEq, D.ob.injEq, D.int.injEq, D.str.injEq, D.tup.injEq, exists_and_left, exists_eq_left, reduceCtorEq, and_true, lk_low, lk_high, exists_eq', and_self, headSp, eCMet, eMakeL, eDZip, eLZip, eLc, lcD, eDc, dcD, eLc2, lc2Out, lc2In, Tgt.put, iSigns, iKeysD, iTupD, iLst, iEnm, iR1, eDicT, gIxT, eGone, inKD, hasD, itKD, keyD, ttYes]
  refine isi_str (b := true) (by decide +kernel) ⟨_, rfl, iteF ⟨small, ?_⟩⟩
  simp only [leI]
  unfold isNm at q
  have emp : ¬(1 ≤ x.length) → Q (.bl false) m := fun c => by rw [if_neg fun z => c z.1] at q; exact q
  have long : ¬(x.length ≤ 8) → Q (.bl false) m := fun c => by rw [if_neg fun z => c z.2] at q; exact q
  refine ⟨_, rfl, ?_⟩
  by_cases c1 : (1 : Int) ≤ (x.length : Nat)
  · rw [decide_eq_true c1]
    refine iteT ⟨_, rfl, ?_⟩
    by_cases c2 : ((x.length : Nat) : Int) ≤ 8
    · rw [decide_eq_true c2]
      have n1 : 1 ≤ x.length := by omega
      have n2 : x.length ≤ 8 := by omega
      rw [if_pos ⟨n1, n2⟩] at q
      have lt : 0 < x.cps.toList.length := by
        have : x.length = x.cps.toList.length := by simp [Str.length]
        omega
      have first : x.cps.toList[0]? = some x.cps.toList[0] := List.getElem?_eq_getElem lt
      rw [first] at q
      refine iteF ⟨small, x.cps.toList[0], ?_, ?_⟩
      · exact atI_first lt
      · refine ⟨_, rfl, ?_⟩
        show (if subS ⟨#[x.cps.toList[0]]⟩ ltS = true then _ else _)
        cases e : subS ⟨#[x.cps.toList[0]]⟩ ltS with
        | false =>
          rw [show (match some x.cps.toList[0] with | some c => subS ⟨#[c]⟩ ltS | none => false) = subS ⟨#[x.cps.toList[0]]⟩ ltS from rfl, e] at q
          exact iteF q
        | true =>
          rw [show (match some x.cps.toList[0] with | some c => subS ⟨#[c]⟩ ltS | none => false) = subS ⟨#[x.cps.toList[0]]⟩ ltS from rfl, e, Bool.true_and] at q
          refine iteT ⟨?_, ?_⟩
          · rw [List.length_map, ← show x.length = x.cps.toList.length by simp [Str.length]]
            exact Nat.lt_of_le_of_lt n2 (by decide)
          · refine lc_map (f := fun d => match d with | .str y => .bl (subS y ltS || subS y dgS) | d => d) (fun d hd m Q q => ?_) [] m ?_
            · obtain ⟨c, _, rfl⟩ := List.mem_map.mp hd
              have q : Q (.bl (subS ⟨#[c]⟩ ltS || subS ⟨#[c]⟩ dgS)) m := q
              refine ⟨_, rfl, _, rfl, ?_⟩
              show (if subS ⟨#[c]⟩ ltS = true then _ else _)
              cases z : subS ⟨#[c]⟩ ltS with
              | true =>
                rw [z] at q
                exact q
              | false =>
                rw [z] at q
                exact ⟨_, rfl, q⟩
            · refine ⟨x.cps.toList.map fun c => subS ⟨#[c]⟩ ltS || subS ⟨#[c]⟩ dgS, ?_, ?_⟩
              · simp only [List.nil_append, List.map_map]
                rfl
              · rw [List.all_map]
                exact q
    · rw [decide_eq_false c2]
      exact iteT (long (by omega))
  · rw [decide_eq_false c1]
    exact iteF (iteT (emp (by omega)))
theorem ok_is_pair (T : Tx K mg base a d) : FnG false false P w K mg base 2 a.f_is_pair d.f_is_pair ["levels", "value"] (spL (G a) s_ispair) := by
  refine fn_okG T.F_is_pair sc_is_pair (fun _ _ _ _ ⟨e, _⟩ => len2 e) (fun cdv A outer s H E xs m Q x hr h => ⟨_, (dss_cons (ds_if (dw_pt (dw_or (dt_not (dt_val (de_callB cd_isi (by rfl) T.z_isinstance boot_isinstance (da_cons (de_nm (pv 1)) (da_cons (de_c (pe_bltn (v := .ty _) (by rfl) T.z_tuple boot_tuple rfl) (fun _ => .ty _)) da_nil))))) (dw_or (dt_cmp (od_ne hr.u64) (de_callB (cd_len) (by rfl) T.z_len boot_len (da_cons (de_nm (pv 1)) da_nil)) (de_c pe_int (fun _ => .int _)) (nomark _)) (dw_or1 (dt_not (dt_val (de_callB (cd_all (by rfl)) (by rfl) T.z_all boot_all (da_cons (de_lc (own := [("name", 4)]) (tgt := .one 4) rfl sc_is_pair.nd (by decide) (di_tup (de_nm (pv 1))) (blkOk_by (own := [("name", 4)]) (N := N_is_pair) (sc := defScope s_is_pair) (by decide +kernel)) (fun _ _ _ _ _ => pg_name (i := 4) sc_is_pair.nd rfl (Or.inl rfl)) (fun _ _ _ _ _ => dts_nil) (fun _ _ _ _ _ => (de_call (ok_is_name T) (hr.mono (show 1 ≤ _ by decide)) (by rfl) T.m_is_name T.F_is_name.kp T.b_is_name takesF (da_cons (de_nm (pv 4)) da_nil)))) da_nil)))))))) (dss_one (ds_ret (de_c pe_bl (fun _ => .bl _)))) dss_nil) (dss_cons (ds_asg (de_nm (pv 1)) (dg_tup (n := 2) rfl (dgs_cons (dg_name (pg_name (i := 2) sc_is_pair.nd rfl (Or.inl rfl))) (dgs_cons (dg_name (pg_name (i := 3) sc_is_pair.nd rfl (Or.inl rfl))) dgs_nil)))) (dss_one (ds_ret (de_and (de_cmp (od_ne hr.u64) (de_nm (pv 2)) (de_nm (pv 3)) (nomark _)) (de_and (de_cmp (od_inK hr.u1) (de_nm (pv 2)) (de_nm (pv 0)) (by with_unfolding_all rfl)) (de_one (de_cmp (od_inK hr.u1) (de_nm (pv 3)) (de_nm (pv 0)) (by with_unfolding_all rfl))))))))), ?_⟩)
  obtain ⟨rfl, q⟩ := h
  simp only [sSeq, sAsg, gNm, sRet, sRetN, bD, xD, nmD, startD, sIf, DL.tB, DL.tNot, DL.tAnd, DL.tOr, eAnd, eOr, eNot, eIf, isB, sDrop, sNext, sPar, eTup, eLst, eCall, eCB, aNil, aCons, eFld, eFldM, eProp, eMeth, eMethK, eMake, eMakeK, eUn, sFldM, sRaise, addI, addS, addL, subI, negI, mulI, mulL, divI, modI, powI, eqI, neI, eqS, neS, lenL, lenT, lenC, absI, intI, strI, repX, dmI, it0, it1, itL0, itL1, itL2, itL3, itL4, itL5, itL6, itR, eStat, oNone, oSome, eSl, gTp2', gIx, eLstM, eApp, DL.rIn, DL.rNe, eFmt, eJs, eDic0, sNever, mx2, mn2, ltI, leI, gtI, geI, eChain, decide_eq_true_eq, List.map_cons, List.map_nil, List.length_cons, List.length_nil, Nat.reduceAdd, Nat.reduceSub, List.replicate_succ, List.replicate_zero, List.cons_append, List.nil_append, List.getElem?_cons_zero, List.getElem?_cons_succ, List.reverse_cons, List.reverse_nil, Option.some.injEq, exists_eq_left', List.set_cons_zero, List.set_cons_succ, if_true, if_false, Bool.false_eq_true, reduceIte, and_self, true_and, D.bl.injEq, D.ob.injEq, D.int.injEq, D.str.injEq, D.tup.injEq, exists_and_left, exists_eq_left, reduceCtorEq, and_true, lk_low, lk_high, exists_eq', and_self, headSp, eCMet, eMakeL, eDZip, eLZip, eLc, lcD, eDc, dcD, eLc2, lc2Out, lc2In, Tgt.put, iSigns, iKeysD, iTupD, iLst, iEnm, iR1, eDicT, gIxT, eGone, inKD, hasD, itKD, keyD, ttYes]
  refine isi_tup (b := true) (by decide +kernel) ⟨_, rfl, iteF ?_⟩
  rw [if_neg (by decide)]
  refine ⟨by decide, _, rfl, _, rfl, smallN (by decide +kernel), _, rfl, _, rfl, smallN (by decide +kernel), [isNm "p0", isNm "p1"], rfl, _, rfl, ?_⟩
  rw [if_neg (by decide +kernel), if_pos (by decide +kernel)]
  refine .inl ⟨_, rfl, ?_⟩
  rw [if_pos (by decide +kernel)]
  refine .inl ⟨_, rfl, ?_⟩
  rw [show (lookK [((.inr "p0" : Key), D.int 0), (.inr "p1", .int 1)] (.inr "p1")).isSome = true by decide +kernel]
  exact q
theorem ok_told_edge (T : Tx K mg base a d) : FnG false false P w K mg base 1 a.f_told_edge d.f_told_edge ["levels", "one", "other"] (spL (G a) s_told) := by
  refine fn_okG T.F_told_edge sc_told_edge (fun _ _ _ _ ⟨e, _⟩ => len3 e) (fun cdv A outer s H E xs m Q x hr h => ⟨_, (dss_one (ds_ret (de_if (dt_cmp (od_lt hr.u0) (de_tup (da_cons (de_ixK hr.u1 (de_nm (pv 0)) (de_nm (pv 1)) (fun _ _ => rfl)) (da_cons (de_nm (pv 1)) da_nil))) (de_tup (da_cons (de_ixK hr.u1 (de_nm (pv 0)) (de_nm (pv 2)) (fun _ _ => rfl)) (da_cons (de_nm (pv 2)) da_nil))) (nomark _)) (de_tup (da_cons (de_nm (pv 1)) (da_cons (de_nm (pv 2)) da_nil))) (de_tup (da_cons (de_nm (pv 2)) (da_cons (de_nm (pv 1)) da_nil)))))), ?_⟩)
  obtain ⟨rfl, q⟩ := h
  simp only [sSeq, sAsg, gNm, sRet, sRetN, bD, xD, nmD, startD, sIf, DL.tB, DL.tNot, DL.tAnd, DL.tOr, eAnd, eOr, eNot, eIf, isB, sDrop, sNext, sPar, eTup, eLst, eCall, eCB, aNil, aCons, eFld, eFldM, eProp, eMeth, eMethK, eMake, eMakeK, eUn, sFldM, sRaise, addI, addS, addL, subI, negI, mulI, mulL, divI, modI, powI, eqI, neI, eqS, neS, lenL, lenT, lenC, absI, intI, strI, repX, dmI, it0, it1, itL0, itL1, itL2, itL3, itL4, itL5, itL6, itR, eStat, oNone, oSome, eSl, gTp2', gIx, eLstM, eApp, DL.rIn, DL.rNe, eFmt, eJs, eDic0, sNever, mx2, mn2, ltI, leI, gtI, geI, eChain, decide_eq_true_eq, List.map_cons, List.map_nil, List.length_cons, List.length_nil, Nat.reduceAdd, Nat.reduceSub, List.replicate_succ, List.replicate_zero, List.cons_append, List.nil_append, List.getElem?_cons_zero, List.getElem?_cons_succ, List.reverse_cons, List.reverse_nil, Option.some.injEq, exists_eq_left', List.set_cons_zero, List.set_cons_succ, if_true, if_false, Bool.false_eq_true, reduceIte, and_self, true_and, D.bl.injEq, D.ob.injEq, D.int.injEq, D.str.injEq, D.tup.injEq, exists_and_left, exists_eq_left, reduceCtorEq, and_true, lk_low, lk_high, exists_eq', and_self, headSp, eCMet, eMakeL, eDZip, eLZip, eLc, lcD, eDc, dcD, eLc2, lc2Out, lc2In, Tgt.put, iSigns, iKeysD, iTupD, iLst, iEnm, iR1, eDicT, gIxT, eGone, inKD, hasD, itKD, keyD, ttYes]
  refine ⟨_, rfl, .int 0, lv_0, small2, _, rfl, .int 1, lv_1, small2, ?_⟩
  refine ⟨by decide +kernel, _, rfl, ?_⟩
  rw [if_pos (by decide +kernel)]
  exact ⟨small2, q⟩
theorem ok_checked_levels (T : Tx K mg base a d) : FnG false false P w K mg base 2 a.f_checked_levels d.f_checked_levels ["nodes"] (spL (G a) s_clev) := by
  refine fn_okG T.F_checked_levels sc_checked_levels (fun _ _ _ _ ⟨e, _⟩ => len1 e) (fun cdv A outer s H E xs m Q x hr h => ⟨_, (dss_cons (ds_if (dw_pt (dw_or (dt_not (dt_val (de_callB cd_isi (by rfl) T.z_isinstance boot_isinstance (da_cons (de_nm (pv 0)) (da_cons (de_c (pe_bltn (v := .ty _) (by rfl) T.z_dict boot_dict rfl) (fun _ => .ty _)) da_nil))))) (dw_or (dt_cmp (od_eq hr.u64) (de_callB (cd_len) (by rfl) T.z_len boot_len (da_cons (de_nm (pv 0)) da_nil)) (de_c pe_int (fun _ => .int _)) (nomark _)) (dw_or1 (dt_not (dt_val (de_callB (cd_all (by rfl)) (by rfl) T.z_all boot_all (da_cons (de_lc (own := [("name", 1)]) (tgt := .one 1) rfl sc_checked_levels.nd (by decide) (di_keys (de_nm (pv 0))) (blkOk_by (own := [("name", 1)]) (N := N_checked_levels) (sc := defScope s_checked_levels) (by decide +kernel)) (fun _ _ _ _ _ => pg_name (i := 1) sc_checked_levels.nd rfl (Or.inl rfl)) (fun _ _ _ _ _ => dts_nil) (fun _ _ _ _ _ => (de_call (ok_is_name T) (hr.mono (show 1 ≤ _ by decide)) (by rfl) T.m_is_name T.F_is_name.kp T.b_is_name takesF (da_cons (de_nm (pv 1)) da_nil)))) da_nil)))))))) (dss_one ds_never) dss_nil) (dss_cons (ds_for passesG rfl (di_list (de_callB (cd_sortS (by rfl)) (by rfl) T.z_sorted boot_sorted (da_cons (de_nm (pv 0)) da_nil))) (dg_name (pg_name (i := 1) sc_checked_levels.nd rfl (Or.inl rfl))) (dss_one (ds_if (dt_not (dt_val (de_call (ok_is_integer T) (hr.mono (show 1 ≤ _ by decide)) (by rfl) T.m_is_integer T.F_is_integer.kp T.b_is_integer takesG (da_cons (de_ixK hr.u1 (de_nm (pv 0)) (de_nm (pv 1)) (fun _ _ => rfl)) da_nil)))) (dss_one ds_never) dss_nil))) (dss_one (ds_ret (de_dc (own := [("name", 1)]) (tgt := .one 1) rfl sc_checked_levels.nd (by decide) (di_list (de_callB (cd_sortS (by rfl)) (by rfl) T.z_sorted boot_sorted (da_cons (de_nm (pv 0)) da_nil))) (blkOk_by (own := [("name", 1)]) (N := N_checked_levels) (sc := defScope s_checked_levels) (by decide +kernel)) (fun _ _ _ _ _ => pg_name (i := 1) sc_checked_levels.nd rfl (Or.inl rfl)) (fun _ _ _ _ _ => dts_nil) (fun _ _ _ _ _ => (de_nm (pv 1))) (fun _ _ _ _ _ => (de_ixK hr.u1 (de_nm (pv 0)) (de_nm (pv 1)) (fun _ _ => rfl)))))))), ?_⟩)
  obtain ⟨rfl, q⟩ := h
  simp only [sSeq, sAsg, gNm, sRet, sRetN, bD, xD, nmD, startD, sIf, DL.tB, DL.tNot, DL.tAnd, DL.tOr, eAnd, eOr, eNot, eIf, isB, sDrop, sNext, sPar, eTup, eLst, eCall, eCB, aNil, aCons, eFld, eFldM, eProp, eMeth, eMethK, eMake, eMakeK, eUn, sFldM, sRaise, addI, addS, addL, subI, negI, mulI, mulL, divI, modI, powI, eqI, neI, eqS, neS, lenL, lenT, lenC, absI, intI, strI, repX, dmI, it0, it1, itL0, itL1, itL2, itL3, itL4, itL5, itL6, itR, eStat, oNone, oSome, eSl, gTp2', gIx, eLstM, eApp, DL.rIn, DL.rNe, eFmt, eJs, eDic0, sNever, mx2, mn2, ltI, leI, gtI, geI, eChain, decide_eq_true_eq, List.map_cons, List.map_nil, List.length_cons, List.length_nil, Nat.reduceAdd, Nat.reduceSub, List.replicate_succ, List.replicate_zero, List.cons_append, List.nil_append, List.getElem?_cons_zero, List.getElem?_cons_succ, List.reverse_cons, List.reverse_nil, Option.some.injEq, exists_eq_left', List.set_cons_zero, List.set_cons_succ, if_true, if_false, Bool.false_eq_true, reduceIte, and_self, true_and, D.bl.injEq, D.ob.injEq, D.int.injEq, D.str.injEq, D.tup.injEq, exists_and_left, exists_eq_left, reduceCtorEq, and_true, lk_low, lk_high, exists_eq', and_self, headSp, eCMet, eMakeL, eDZip, eLZip, eLc, lcD, eDc, dcD, eLc2, lc2Out, lc2In, Tgt.put, iSigns, iKeysD, iTupD, iLst, iEnm, iR1, eDicT, gIxT, eGone, inKD, hasD, itKD, keyD, ttYes]
  refine isi_dic (b := true) (by decide +kernel) ⟨_, rfl, iteF ?_⟩
  refine ⟨by decide +kernel, _, rfl, ?_⟩
  rw [if_neg (by decide +kernel)]
  refine ⟨_, rfl, by decide, ?_⟩
  show lcD _ _ _ _ _ _ [.str "p0", .str "p1"] [] m
  simp only [sFor, forD, sSeq, sAsg, gNm, sRet, sRetN, bD, xD, nmD, startD, sIf, DL.tB, DL.tNot, DL.tAnd, DL.tOr, eAnd, eOr, eNot, eIf, isB, sDrop, sNext, sPar, eTup, eLst, eCall, eCB, aNil, aCons, eFld, eFldM, eProp, eMeth, eMethK, eMake, eMakeK, eUn, sFldM, sRaise, addI, addS, addL, subI, negI, mulI, mulL, divI, modI, powI, eqI, neI, eqS, neS, lenL, lenT, lenC, absI, intI, strI, repX, dmI, it0, it1, itL0, itL1, itL2, itL3, itL4, itL5, itL6, itR, eStat, oNone, oSome, eSl, gTp2', gIx, eLstM, eApp, DL.rIn, DL.rNe, eFmt, eJs, eDic0, sNever, mx2, mn2, ltI, leI, gtI, geI, eChain, decide_eq_true_eq, List.map_cons, List.map_nil, List.length_cons, List.length_nil, Nat.reduceAdd, Nat.reduceSub, List.replicate_succ, List.replicate_zero, List.cons_append, List.nil_append, List.getElem?_cons_zero, List.getElem?_cons_succ, List.reverse_cons, List.reverse_nil, Option.some.injEq, exists_eq_left', List.set_cons_zero, List.set_cons_succ, if_true, if_false, Bool.false_eq_true, reduceIte, and_self, true_and, D.bl.injEq, D.ob.injEq, D.int.injEq, D.str.injEq, D.tup.injEq, exists_and_left, exists_eq_left, reduceCtorEq, and_true, lk_low, lk_high, exists_eq', and_self, headSp, eCMet, eMakeL, eDZip, eLZip, eLc, lcD, eDc, dcD, eLc2, lc2Out, lc2In, Tgt.put, iSigns, iKeysD, iTupD, iLst, iEnm, iR1, eDicT, gIxT, eGone, inKD, hasD, itKD, keyD, ttYes]
  refine ⟨_, rfl, _, rfl, smallN (by decide +kernel), _, rfl, _, rfl, smallN (by decide +kernel), [isNm "p0", isNm "p1"], rfl, _, rfl, ?_⟩
  rw [if_neg (by decide +kernel)]
  refine .inl ⟨_, ["p0", "p1"], rfl, rfl, by decide, fun ys perm srt => ?_⟩
  rcases perm2 perm with rfl | rfl
  · simp only [sFor, forD, sSeq, sAsg, gNm, sRet, sRetN, bD, xD, nmD, startD, sIf, DL.tB, DL.tNot, DL.tAnd, DL.tOr, eAnd, eOr, eNot, eIf, isB, sDrop, sNext, sPar, eTup, eLst, eCall, eCB, aNil, aCons, eFld, eFldM, eProp, eMeth, eMethK, eMake, eMakeK, eUn, sFldM, sRaise, addI, addS, addL, subI, negI, mulI, mulL, divI, modI, powI, eqI, neI, eqS, neS, lenL, lenT, lenC, absI, intI, strI, repX, dmI, it0, it1, itL0, itL1, itL2, itL3, itL4, itL5, itL6, itR, eStat, oNone, oSome, eSl, gTp2', gIx, eLstM, eApp, DL.rIn, DL.rNe, eFmt, eJs, eDic0, sNever, mx2, mn2, ltI, leI, gtI, geI, eChain, decide_eq_true_eq, List.map_cons, List.map_nil, List.length_cons, List.length_nil, Nat.reduceAdd, Nat.reduceSub, List.replicate_succ, List.replicate_zero, List.cons_append, List.nil_append, List.getElem?_cons_zero, List.getElem?_cons_succ, List.reverse_cons, List.reverse_nil, Option.some.injEq, exists_eq_left', List.set_cons_zero, List.set_cons_succ, if_true, if_false, Bool.false_eq_true, reduceIte, and_self, true_and, D.bl.injEq, D.ob.injEq, D.int.injEq, D.str.injEq, D.tup.injEq, exists_and_left, exists_eq_left, reduceCtorEq, and_true, lk_low, lk_high, exists_eq', and_self, headSp, eCMet, eMakeL, eDZip, eLZip, eLc, lcD, eDc, dcD, eLc2, lc2Out, lc2In, Tgt.put, iSigns, iKeysD, iTupD, iLst, iEnm, iR1, eDicT, gIxT, eGone, inKD, hasD, itKD, keyD, ttYes]
    refine ⟨_, rfl, .int 0, lv_0, _, rfl, True.intro, _, rfl, iteF ?_⟩
    refine ⟨_, rfl, .int 1, lv_1, _, rfl, True.intro, _, rfl, iteF ?_⟩
    refine .inl ⟨_, ["p0", "p1"], rfl, rfl, by decide, fun ys perm srt => ?_⟩
    rcases perm2 perm with rfl | rfl
    · simp only [sFor, forD, sSeq, sAsg, gNm, sRet, sRetN, bD, xD, nmD, startD, sIf, DL.tB, DL.tNot, DL.tAnd, DL.tOr, eAnd, eOr, eNot, eIf, isB, sDrop, sNext, sPar, eTup, eLst, eCall, eCB, aNil, aCons, eFld, eFldM, eProp, eMeth, eMethK, eMake, eMakeK, eUn, sFldM, sRaise, addI, addS, addL, subI, negI, mulI, mulL, divI, modI, powI, eqI, neI, eqS, neS, lenL, lenT, lenC, absI, intI, strI, repX, dmI, it0, it1, itL0, itL1, itL2, itL3, itL4, itL5, itL6, itR, eStat, oNone, oSome, eSl, gTp2', gIx, eLstM, eApp, DL.rIn, DL.rNe, eFmt, eJs, eDic0, sNever, mx2, mn2, ltI, leI, gtI, geI, eChain, decide_eq_true_eq, List.map_cons, List.map_nil, List.length_cons, List.length_nil, Nat.reduceAdd, Nat.reduceSub, List.replicate_succ, List.replicate_zero, List.cons_append, List.nil_append, List.getElem?_cons_zero, List.getElem?_cons_succ, List.reverse_cons, List.reverse_nil, Option.some.injEq, exists_eq_left', List.set_cons_zero, List.set_cons_succ, if_true, if_false, Bool.false_eq_true, reduceIte, and_self, true_and, D.bl.injEq, D.ob.injEq, D.int.injEq, D.str.injEq, D.tup.injEq, exists_and_left, exists_eq_left, reduceCtorEq, and_true, lk_low, lk_high, exists_eq', and_self, headSp, eCMet, eMakeL, eDZip, eLZip, eLc, lcD, eDc, dcD, eLc2, lc2Out, lc2In, Tgt.put, iSigns, iKeysD, iTupD, iLst, iEnm, iR1, eDicT, gIxT, eGone, inKD, hasD, itKD, keyD, ttYes]
      refine ⟨by decide, _, rfl, _, rfl, _, rfl, _, rfl, _, rfl, .int 0, lv_0, _, rfl, _, rfl, _, rfl, _, rfl, _, rfl, _, rfl, .int 1, lv_1, _, rfl, ?_⟩
      exact q
    · exact absurd srt (by decide +kernel)
  · exact absurd srt (by decide +kernel)
theorem ok_checked_edges (T : Tx K mg base a d) : FnG false false P w K mg base 3 a.f_checked_edges d.f_checked_edges ["levels", "edges"] (spL (G a) s_cedg) := by
  refine fn_okG T.F_checked_edges sc_checked_edges (fun _ _ _ _ ⟨e, _⟩ => len2 e) (fun cdv A outer s H E xs m Q x hr h => ⟨_, (dss_cons (ds_if (dt_not (dt_val (de_call (ok_is_list T) (hr.mono (show 1 ≤ _ by decide)) (by rfl) T.m_is_list T.F_is_list.kp T.b_is_list takesG (da_cons (de_nm (pv 1)) da_nil)))) (dss_one ds_never) dss_nil) (dss_cons (ds_set (i := 2) (ps_set (i := 2) sc_checked_edges.nd rfl (Or.inl rfl)) de_dicT) (dss_cons (ds_for passesG rfl (di_enum (by rfl) T.z_enumerate (da_cons (de_nm (pv 1)) da_nil)) (dg_tup (n := 2) rfl (dgs_cons (dg_name (pg_name (i := 3) sc_checked_edges.nd rfl (Or.inl rfl))) (dgs_cons (dg_name (pg_name (i := 4) sc_checked_edges.nd rfl (Or.inl rfl))) dgs_nil))) (dss_cons (ds_if (dw_pt (dw_or (dt_not (dt_val (de_call (ok_is_pair T) (hr.mono (show 2 ≤ _ by decide)) (by rfl) T.m_is_pair T.F_is_pair.kp T.b_is_pair takesG (da_cons (de_nm (pv 0)) (da_cons (de_nm (pv 4)) da_nil))))) (dw_or1 (dt_cmp (od_inK hr.u1) (de_call (ok_told_edge T) (hr.mono (show 1 ≤ _ by decide)) (by rfl) T.m_told_edge T.F_told_edge.kp T.b_told_edge takesG (da_cons (de_nm (pv 0)) (da_cons (de_ix (de_nm (pv 4)) (de_c pe_int (fun _ => .int _)) (fun _ _ => rfl)) (da_cons (de_ix (de_nm (pv 4)) (de_c pe_int (fun _ => .int _)) (fun _ _ => rfl)) da_nil)))) (de_nm (pv 2)) (by with_unfolding_all rfl))))) (dss_one ds_never) dss_nil) (dss_one (ds_asg (de_c pe_bl (fun _ => .bl _)) (dg_ixT hr.u1 (de_nm (pv 2)) (de_call (ok_told_edge T) (hr.mono (show 1 ≤ _ by decide)) (by rfl) T.m_told_edge T.F_told_edge.kp T.b_told_edge takesG (da_cons (de_nm (pv 0)) (da_cons (de_ix (de_nm (pv 4)) (de_c pe_int (fun _ => .int _)) (fun _ _ => rfl)) (da_cons (de_ix (de_nm (pv 4)) (de_c pe_int (fun _ => .int _)) (fun _ _ => rfl)) da_nil))))))))) (dss_one (ds_ret (de_gone 2 (de_callB (cd_sortT (by rfl) hr.u64) (by rfl) T.z_sorted boot_sorted (da_cons (de_nm (pv 2)) da_nil)))))))), ?_⟩)
  obtain ⟨rfl, q⟩ := h
  simp only [sSeq, sAsg, gNm, sRet, sRetN, bD, xD, nmD, startD, sIf, DL.tB, DL.tNot, DL.tAnd, DL.tOr, eAnd, eOr, eNot, eIf, isB, sDrop, sNext, sPar, eTup, eLst, eCall, eCB, aNil, aCons, eFld, eFldM, eProp, eMeth, eMethK, eMake, eMakeK, eUn, sFldM, sRaise, addI, addS, addL, subI, negI, mulI, mulL, divI, modI, powI, eqI, neI, eqS, neS, lenL, lenT, lenC, absI, intI, strI, repX, dmI, it0, it1, itL0, itL1, itL2, itL3, itL4, itL5, itL6, itR, eStat, oNone, oSome, eSl, gTp2', gIx, eLstM, eApp, DL.rIn, DL.rNe, eFmt, eJs, eDic0, sNever, mx2, mn2, ltI, leI, gtI, geI, eChain, decide_eq_true_eq, List.map_cons, List.map_nil, List.length_cons, List.length_nil, Nat.reduceAdd, Nat.reduceSub, List.replicate_succ, List.replicate_zero, List.cons_append, List.nil_append, List.getElem?_cons_zero, List.getElem?_cons_succ, List.reverse_cons, List.reverse_nil, Option.some.injEq, exists_eq_left', List.set_cons_zero, List.set_cons_succ, if_true, if_false, Bool.false_eq_true, reduceIte, and_self, true_and, D.bl.injEq, D.ob.injEq, D.int.injEq, D.str.injEq, D.tup.injEq, exists_and_left, exists_eq_left, reduceCtorEq, and_true, lk_low, lk_high, exists_eq', and_self, headSp, eCMet, eMakeL, eDZip, eLZip, eLc, lcD, eDc, dcD, eLc2, lc2Out, lc2In, Tgt.put, iSigns, iKeysD, iTupD, iLst, iEnm, iR1, eDicT, gIxT, eGone, inKD, hasD, itKD, keyD, ttYes]
  refine ⟨rfl, _, rfl, iteF fun p free => ?_⟩
  simp only [sFor, forD, sSeq, sAsg, gNm, sRet, sRetN, bD, xD, nmD, startD, sIf, DL.tB, DL.tNot, DL.tAnd, DL.tOr, eAnd, eOr, eNot, eIf, isB, sDrop, sNext, sPar, eTup, eLst, eCall, eCB, aNil, aCons, eFld, eFldM, eProp, eMeth, eMethK, eMake, eMakeK, eUn, sFldM, sRaise, addI, addS, addL, subI, negI, mulI, mulL, divI, modI, powI, eqI, neI, eqS, neS, lenL, lenT, lenC, absI, intI, strI, repX, dmI, it0, it1, itL0, itL1, itL2, itL3, itL4, itL5, itL6, itR, eStat, oNone, oSome, eSl, gTp2', gIx, eLstM, eApp, DL.rIn, DL.rNe, eFmt, eJs, eDic0, sNever, mx2, mn2, ltI, leI, gtI, geI, eChain, decide_eq_true_eq, List.map_cons, List.map_nil, List.length_cons, List.length_nil, Nat.reduceAdd, Nat.reduceSub, List.replicate_succ, List.replicate_zero, List.cons_append, List.nil_append, List.getElem?_cons_zero, List.getElem?_cons_succ, List.reverse_cons, List.reverse_nil, Option.some.injEq, exists_eq_left', List.set_cons_zero, List.set_cons_succ, if_true, if_false, Bool.false_eq_true, reduceIte, and_self, true_and, D.bl.injEq, D.ob.injEq, D.int.injEq, D.str.injEq, D.tup.injEq, exists_and_left, exists_eq_left, reduceCtorEq, and_true, lk_low, lk_high, exists_eq', and_self, headSp, eCMet, eMakeL, eDZip, eLZip, eLc, lcD, eDc, dcD, eLc2, lc2Out, lc2In, Tgt.put, iSigns, iKeysD, iTupD, iLst, iEnm, iR1, eDicT, gIxT, eGone, inKD, hasD, itKD, keyD, ttYes]
  rw [show enumD [edD] = [D.tup [.int 0, edD]] from rfl]
  simp only [sFor, forD, sSeq, sAsg, gNm, sRet, sRetN, bD, xD, nmD, startD, sIf, DL.tB, DL.tNot, DL.tAnd, DL.tOr, eAnd, eOr, eNot, eIf, isB, sDrop, sNext, sPar, eTup, eLst, eCall, eCB, aNil, aCons, eFld, eFldM, eProp, eMeth, eMethK, eMake, eMakeK, eUn, sFldM, sRaise, addI, addS, addL, subI, negI, mulI, mulL, divI, modI, powI, eqI, neI, eqS, neS, lenL, lenT, lenC, absI, intI, strI, repX, dmI, it0, it1, itL0, itL1, itL2, itL3, itL4, itL5, itL6, itR, eStat, oNone, oSome, eSl, gTp2', gIx, eLstM, eApp, DL.rIn, DL.rNe, eFmt, eJs, eDic0, sNever, mx2, mn2, ltI, leI, gtI, geI, eChain, decide_eq_true_eq, List.map_cons, List.map_nil, List.length_cons, List.length_nil, Nat.reduceAdd, Nat.reduceSub, List.replicate_succ, List.replicate_zero, List.cons_append, List.nil_append, List.getElem?_cons_zero, List.getElem?_cons_succ, List.reverse_cons, List.reverse_nil, Option.some.injEq, exists_eq_left', List.set_cons_zero, List.set_cons_succ, if_true, if_false, Bool.false_eq_true, reduceIte, and_self, true_and, D.bl.injEq, D.ob.injEq, D.int.injEq, D.str.injEq, D.tup.injEq, exists_and_left, exists_eq_left, reduceCtorEq, and_true, lk_low, lk_high, exists_eq', and_self, headSp, eCMet, eMakeL, eDZip, eLZip, eLc, lcD, eDc, dcD, eLc2, lc2Out, lc2In, Tgt.put, iSigns, iKeysD, iTupD, iLst, iEnm, iR1, eDicT, gIxT, eGone, inKD, hasD, itKD, keyD, ttYes]
  refine ⟨rfl, _, rfl, iteF ⟨rfl, .inr ⟨p, rfl, _, mset_same, _, rfl, [.inr "p0", .inr "p1"], rfl, iteF ?_⟩⟩⟩
  refine ⟨rfl, p, rfl, [], _, rfl, [.inr "p0", .inr "p1"], rfl, mset_same, by decide, ?_⟩
  refine ⟨p, _, [ed2], rfl, mset_same, rfl, p, rfl, ?_⟩
  rw [mset_mset, mdel_mset free, show sortS2 [ed2] = [ed2] by simp [sortS2]]
  exact q
theorem ok_neighbours_in (T : Tx K mg base a d) : FnG false false P w K mg base 1 a.f_neighbours_in d.f_neighbours_in ["name", "edges"] (spL (G a) s_near) := by
  refine fn_okG T.F_neighbours_in sc_neighbours_in (fun _ _ _ _ ⟨_, _, e, _⟩ => len2 e) (fun cdv A outer s H E xs m Q x hr h => ⟨_, (dss_one (ds_ret (de_callB (cd_sortS (by rfl)) (by rfl) T.z_sorted boot_sorted (da_cons (de_lc2 (own := [("edge", 2), ("other", 3)]) (vs1 := [3]) (a := 2) (b := 3) rfl sc_neighbours_in.nd (by decide) (by decide) (by decide) (di_list (de_nm (pv 1))) (blkOk_by (own := [("edge", 2), ("other", 3)]) (N := N_neighbours_in) (sc := defScope s_neighbours_in) (by decide +kernel)) (fun _ _ _ _ _ => pg_name (i := 2) sc_neighbours_in.nd rfl (Or.inl rfl)) (fun _ _ _ _ _ => dts_nil) (fun _ _ _ _ _ => (de_nm (pv 2))) (fun _ _ _ _ _ => pg_name (i := 3) sc_neighbours_in.nd rfl (Or.inl rfl)) (fun _ _ _ _ _ => (dts_one (dw_pt (dw_and (dt_cmp od_in (de_nm (pv 0)) (de_nm (pv 2)) (by with_unfolding_all rfl)) (dw_and1 (dt_cmp (od_ne hr.u64) (de_nm (pv 3)) (de_nm (pv 0)) (nomark _))))))) (fun _ _ _ _ _ => (de_nm (pv 3)))) da_nil)))), ?_⟩)
  obtain ⟨x, y, rfl, hx, q⟩ := h
  simp only [sSeq, sAsg, gNm, sRet, sRetN, bD, xD, nmD, startD, sIf, DL.tB, DL.tNot, DL.tAnd, DL.tOr, eAnd, eOr, eNot, eIf, isB, sDrop, sNext, sPar, eTup, eLst, eCall, eCB, aNil, aCons, eFld, eFldM, eProp, eMeth, eMethK, eMake, eMakeK, eUn, sFldM, sRaise, addI, addS, addL, subI, negI, mulI, mulL, divI, modI, powI, eqI, neI, eqS, neS, lenL, lenT, lenC, absI, intI, strI, repX, dmI, it0, it1, itL0, itL1, itL2, itL3, itL4, itL5, itL6, itR, eStat, oNone, oSome, eSl, gTp2', gIx, eLstM, eApp, DL.rIn, DL.rNe, eFmt, eJs, eDic0, sNever, mx2, mn2, ltI, leI, gtI, geI, eChain, decide_eq_true_eq, List.map_cons, List.map_nil, List.length_cons, List.length_nil, Nat.reduceAdd, Nat.reduceSub, List.replicate_succ, List.replicate_zero, List.cons_append, List.nil_append, List.getElem?_cons_zero, List.getElem?_cons_succ, List.reverse_cons, List.reverse_nil, Option.some.injEq, exists_eq_left', List.set_cons_zero, List.set_cons_succ, if_true, if_false, Bool.false_eq_true, reduceIte, and_self, true_and, D.bl.injEq, D.ob.injEq, D.int.injEq, D.str.injEq, D.tup.injEq, exists_and_left, exists_eq_left, reduceCtorEq, and_true, lk_low, lk_high, exists_eq', and_self, headSp, eCMet, eMakeL, eDZip, eLZip, eLc, lcD, eDc, dcD, eLc2, lc2Out, lc2In, Tgt.put, iSigns, iKeysD, iTupD, iLst, iEnm, iR1, eDicT, gIxT, eGone, inKD, hasD, itKD, keyD, ttYes]
  rcases hx with ⟨rfl, rfl⟩ | ⟨rfl, rfl⟩
  · refine ⟨_, rfl, _, rfl, ?_⟩
    refine ⟨_, rfl, _, rfl, ⟨by decide +kernel, by decide +kernel⟩, _, rfl, ?_⟩
    dsimp only
    rw [if_pos (by decide +kernel)]
    refine ⟨_, rfl, _, rfl, by decide +kernel, _, rfl, ?_⟩
    dsimp only
    rw [if_neg (by decide +kernel)]
    refine ⟨_, rfl, _, rfl, ⟨by decide +kernel, by decide +kernel⟩, _, rfl, ?_⟩
    dsimp only
    rw [if_pos (by decide +kernel)]
    refine ⟨_, rfl, _, rfl, by decide +kernel, _, rfl, ?_⟩
    dsimp only
    rw [if_pos (by decide +kernel)]
    refine ⟨_, rfl, by decide, .inr ⟨["p1"], rfl, by decide, fun ys perm srt => ?_⟩⟩
    obtain rfl := List.perm_singleton.mp perm
    exact q
  · refine ⟨_, rfl, _, rfl, ?_⟩
    refine ⟨_, rfl, _, rfl, ⟨by decide +kernel, by decide +kernel⟩, _, rfl, ?_⟩
    dsimp only
    rw [if_pos (by decide +kernel)]
    refine ⟨_, rfl, _, rfl, by decide +kernel, _, rfl, ?_⟩
    dsimp only
    rw [if_pos (by decide +kernel)]
    refine ⟨_, rfl, by decide, ?_⟩
    refine ⟨_, rfl, _, rfl, ⟨by decide +kernel, by decide +kernel⟩, _, rfl, ?_⟩
    dsimp only
    rw [if_pos (by decide +kernel)]
    refine ⟨_, rfl, _, rfl, by decide +kernel, _, rfl, ?_⟩
    dsimp only
    rw [if_neg (by decide +kernel)]
    refine .inr ⟨["p0"], rfl, by decide, fun ys perm srt => ?_⟩
    obtain rfl := List.perm_singleton.mp perm
    exact q
theorem ok_Net___init__ (T : Tx K mg base a d) : FnG false false P w K mg base 4 a.f_Net___init__ d.f_Net___init__ ["self", "nodes", "edges"] (spL (G a) s_ninit) := by
  refine fn_okD T.F_Net___init__ sc_Net___init__ (fun _ _ _ _ ⟨_, e, _⟩ => len3 e) (fun cdv A outer s H E xs m Q x hr h => ⟨_, (dss_cons (ds_set (i := 3) (ps_set (i := 3) sc_Net___init__.nd rfl (Or.inl rfl)) (de_call (ok_checked_levels T) (hr.mono (show 2 ≤ _ by decide)) (by rfl) T.m_checked_levels T.F_checked_levels.kp T.b_checked_levels takesG (da_cons (de_nm (pv 1)) da_nil))) (dss_cons (ds_set (i := 4) (ps_set (i := 4) sc_Net___init__.nd rfl (Or.inr rfl)) (de_call (ok_checked_edges T) (hr.mono (show 3 ≤ _ by decide)) (by rfl) T.m_checked_edges T.F_checked_edges.kp T.b_checked_edges takesG (da_cons (de_nm (pv 3)) (da_cons (de_nm (pv 2)) da_nil)))) (dss_cons (ds_if (dt_cmp (od_gt hr.u0) (de_callB (cd_len) (by rfl) T.z_len boot_len (da_cons (de_nm (pv 3)) da_nil)) (de_cvalE T.cr_Net T.cv_Net_MOST_NODES (by rfl) T.m_Net (fun _ => .int _)) (nomark _)) (dss_one ds_never) dss_nil) (dss_cons (ds_if (dt_cmp (od_gt hr.u0) (de_callB (cd_len) (by rfl) T.z_len boot_len (da_cons (de_nm (pv 4)) da_nil)) (de_cvalE T.cr_Net T.cv_Net_MOST_EDGES (by rfl) T.m_Net (fun _ => .int _)) (nomark _)) (dss_one ds_never) dss_nil) (dss_cons (ds_fld (c := 5) T.c_Net T.n_Net_own_levels (de_nm (pv 0)) (de_nm (pv 3))) (dss_cons (ds_fld (c := 5) T.c_Net T.n_Net_own_edges (de_nm (pv 0)) (de_nm (pv 4))) (dss_one (ds_fld (c := 5) T.c_Net T.n_Net_own_near (de_nm (pv 0)) (de_dc (own := [("name", 5)]) (tgt := .one 5) rfl sc_Net___init__.nd (by decide) (di_keys (de_nm (pv 3))) (blkOk_by (own := [("name", 5)]) (N := N_Net___init__) (sc := defScope s_Net___init__) (by decide +kernel)) (fun _ _ _ _ _ => pg_name (i := 5) sc_Net___init__.nd rfl (Or.inl rfl)) (fun _ _ _ _ _ => dts_nil) (fun _ _ _ _ _ => (de_nm (pv 5))) (fun _ _ _ _ _ => (de_call (ok_neighbours_in T) (hr.mono (show 1 ≤ _ by decide)) (by rfl) T.m_neighbours_in T.F_neighbours_in.kp T.b_neighbours_in takesF (da_cons (de_nm (pv 5)) (da_cons (de_nm (pv 4)) da_nil))))))))))))), ?_⟩)
  obtain ⟨p, rfl, hp, q⟩ := h
  simp only [sSeq, sAsg, gNm, sRet, sRetN, bD, xD, nmD, startD, sIf, DL.tB, DL.tNot, DL.tAnd, DL.tOr, eAnd, eOr, eNot, eIf, isB, sDrop, sNext, sPar, eTup, eLst, eCall, eCB, aNil, aCons, eFld, eFldM, eProp, eMeth, eMethK, eMake, eMakeK, eUn, sFldM, sRaise, addI, addS, addL, subI, negI, mulI, mulL, divI, modI, powI, eqI, neI, eqS, neS, lenL, lenT, lenC, absI, intI, strI, repX, dmI, it0, it1, itL0, itL1, itL2, itL3, itL4, itL5, itL6, itR, eStat, oNone, oSome, eSl, gTp2', gIx, eLstM, eApp, DL.rIn, DL.rNe, eFmt, eJs, eDic0, sNever, mx2, mn2, ltI, leI, gtI, geI, eChain, decide_eq_true_eq, List.map_cons, List.map_nil, List.length_cons, List.length_nil, Nat.reduceAdd, Nat.reduceSub, List.replicate_succ, List.replicate_zero, List.cons_append, List.nil_append, List.getElem?_cons_zero, List.getElem?_cons_succ, List.reverse_cons, List.reverse_nil, Option.some.injEq, exists_eq_left', List.set_cons_zero, List.set_cons_succ, if_true, if_false, Bool.false_eq_true, reduceIte, and_self, true_and, D.bl.injEq, D.ob.injEq, D.int.injEq, D.str.injEq, D.tup.injEq, exists_and_left, exists_eq_left, reduceCtorEq, and_true, lk_low, lk_high, exists_eq', and_self, headSp, eCMet, eMakeL, eDZip, eLZip, eLc, lcD, eDc, dcD, eLc2, lc2Out, lc2In, Tgt.put, iSigns, iKeysD, iTupD, iLst, iEnm, iR1, eDicT, gIxT, eGone, inKD, hasD, itKD, keyD, ttYes]
  refine ⟨rfl, rfl, ?_⟩
  dsimp only
  refine ⟨_, rfl, ?_⟩
  rw [if_neg (by decide)]
  refine ⟨_, rfl, ?_⟩
  rw [if_neg (by decide)]
  refine ⟨p, rfl, [], hp, by decide, p, rfl, _, mset_same, (show 1 < 1000 by decide), _, rfl, by decide, ?_⟩
  show dcD _ _ _ _ _ _ _ [.str "p0", .str "p1"] [] _
  simp only [sFor, forD, sSeq, sAsg, gNm, sRet, sRetN, bD, xD, nmD, startD, sIf, DL.tB, DL.tNot, DL.tAnd, DL.tOr, eAnd, eOr, eNot, eIf, isB, sDrop, sNext, sPar, eTup, eLst, eCall, eCB, aNil, aCons, eFld, eFldM, eProp, eMeth, eMethK, eMake, eMakeK, eUn, sFldM, sRaise, addI, addS, addL, subI, negI, mulI, mulL, divI, modI, powI, eqI, neI, eqS, neS, lenL, lenT, lenC, absI, intI, strI, repX, dmI, it0, it1, itL0, itL1, itL2, itL3, itL4, itL5, itL6, itR, eStat, oNone, oSome, eSl, gTp2', gIx, eLstM, eApp, DL.rIn, DL.rNe, eFmt, eJs, eDic0, sNever, mx2, mn2, ltI, leI, gtI, geI, eChain, decide_eq_true_eq, List.map_cons, List.map_nil, List.length_cons, List.length_nil, Nat.reduceAdd, Nat.reduceSub, List.replicate_succ, List.replicate_zero, List.cons_append, List.nil_append, List.getElem?_cons_zero, List.getElem?_cons_succ, List.reverse_cons, List.reverse_nil, Option.some.injEq, exists_eq_left', List.set_cons_zero, List.set_cons_succ, if_true, if_false, Bool.false_eq_true, reduceIte, and_self, true_and, D.bl.injEq, D.ob.injEq, D.int.injEq, D.str.injEq, D.tup.injEq, exists_and_left, exists_eq_left, reduceCtorEq, and_true, lk_low, lk_high, exists_eq', and_self, headSp, eCMet, eMakeL, eDZip, eLZip, eLc, lcD, eDc, dcD, eLc2, lc2Out, lc2In, Tgt.put, iSigns, iKeysD, iTupD, iLst, iEnm, iR1, eDicT, gIxT, eGone, inKD, hasD, itKD, keyD, ttYes]
  refine ⟨_, rfl, _, rfl, _, rfl, "p0", "p1", rfl, .inl ⟨rfl, rfl⟩, _, rfl, _, rfl, _, rfl, _, rfl, "p1", "p0", rfl, .inr ⟨rfl, rfl⟩, _, rfl, p, rfl, _, mset_same, (show 2 < 1000 by decide), ?_⟩
  rw [mset_mset, mset_mset]
  exact q
theorem ok_Net_path (T : Tx K mg base a d) : FnR P w K mg base (L2.CX P w) 6 a.f_Net_path (fun vs H Q E => vs.length ≤ sizeLine ∧ spL (G a) (headSp (s_path a)) vs H Q E) := by
  refine fn_starG1 T.F_Net_path sc_Net_path T.b_Net_path (fun cdv A outer s H E y xs m Q x hr h => ?_)
  have hr2 : Rm false false 5 _ := ⟨⟨hr.dp, hr.un⟩, fun _ => hr.hd, (fun z => nomatch z)⟩
  refine ⟨_, (dss_cons (ds_for passesC rfl (di_tup (de_nm (pv 1))) (dg_name (pg_name (i := 2) sc_Net_path.nd rfl (Or.inl rfl))) (dss_one (ds_expr (de_call (ok_want_level T) (hr2.mono (show 3 ≤ _ by decide)) (by rfl) T.m_want_level T.F_want_level.kp T.b_want_level takesC (da_cons (de_nm (pv 2)) da_nil))))) (dss_cons (ds_setLc (i := 3) (own := [("number", 4)]) (tgt := .one 4) rfl sc_Net_path.nd rfl rfl (sw_true rfl rfl rfl (by decide +kernel)) (by decide) (di_range1 (by rfl) T.z_range (da_cons (de_callB (cd_len) (by rfl) T.z_len boot_len (da_cons (de_nm (pv 1)) da_nil)) da_nil)) (blkOk_by (own := [("number", 4)]) (N := N_Net_path) (sc := defScope s_Net_path) (by decide +kernel)) (fun _ _ _ _ _ => pg_name (i := 4) sc_Net_path.nd rfl (Or.inl rfl)) (fun _ _ _ _ _ => dts_nil) (fun _ _ _ _ _ => (de_joined (DJ.cons (de_c pe_str (fun _ => .str _)) (DJ.cons (de_fmt (de_nm (pv 4))) DJ.nil))))) (dss_one (ds_ret (de_makeL (i := 0) (c := 5) rfl (Or.inl rfl) T.M_Net (ok_Net___init__ T) (hr2.mono (show 5 ≤ _ by decide)) T.b_Net___init__ takesC (da_cons (de_dzip hr.hd (by rfl) T.z_dict (by rfl) T.z_zip (da_cons (de_nm (pv 3)) (da_cons (de_nm (pv 1)) da_nil))) (da_cons (de_lzip hr.hd (by rfl) T.z_list (by rfl) T.z_zip (da_cons (de_nm (pv 3)) (da_cons (de_slice (de_nm (pv 3)) (do_some (de_c pe_int (fun _ => .int _))) do_none) da_nil))) da_nil))))))), ?_⟩
  obtain ⟨h, q⟩ := h
  cases h
  simp only [sFor, forD, sSeq, sAsg, gNm, sRet, sRetN, bD, xD, nmD, startD, sIf, DL.tB, DL.tNot, DL.tAnd, DL.tOr, eAnd, eOr, eNot, eIf, isB, sDrop, sNext, sPar, eTup, eLst, eCall, eCB, aNil, aCons, eFld, eFldM, eProp, eMeth, eMethK, eMake, eMakeK, eUn, sFldM, sRaise, addI, addS, addL, subI, negI, mulI, mulL, divI, modI, powI, eqI, neI, eqS, neS, lenL, lenT, lenC, absI, intI, strI, repX, dmI, it0, it1, itL0, itL1, itL2, itL3, itL4, itL5, itL6, itR, eStat, oNone, oSome, eSl, gTp2', gIx, eLstM, eApp, DL.rIn, DL.rNe, eFmt, eJs, eDic0, sNever, mx2, mn2, ltI, leI, gtI, geI, eChain, decide_eq_true_eq, List.map_cons, List.map_nil, List.length_cons, List.length_nil, Nat.reduceAdd, Nat.reduceSub, List.replicate_succ, List.replicate_zero, List.cons_append, List.nil_append, List.getElem?_cons_zero, List.getElem?_cons_succ, List.reverse_cons, List.reverse_nil, Option.some.injEq, exists_eq_left', List.set_cons_zero, List.set_cons_succ, if_true, if_false, Bool.false_eq_true, reduceIte, and_self, true_and, D.bl.injEq, D.ob.injEq, D.int.injEq, D.str.injEq, D.tup.injEq, exists_and_left, exists_eq_left, reduceCtorEq, and_true, lk_low, lk_high, exists_eq', and_self, headSp, eCMet, eMakeL, eDZip, eLZip, eLc, lcD, eDc, dcD, eLc2, lc2Out, lc2In, Tgt.put, iSigns, iKeysD, iTupD, iLst, iEnm, iR1, eDicT, gIxT, eGone, inKD, hasD, itKD, keyD, ttYes]
  have t0 : Str.empty ++ "p" ++ istr 0 = ("p0" : Str) := by decide +kernel
  have t1 : Str.empty ++ "p" ++ istr 1 = ("p1" : Str) := by decide +kernel
  refine ⟨_, rfl, True.intro, iteT ⟨_, rfl, True.intro, iteT ⟨⟨by decide, by decide⟩, by decide, ?_⟩⟩⟩
  show lcD _ _ _ _ _ _ [.int 0, .int 1] [] m
  simp only [sFor, forD, sSeq, sAsg, gNm, sRet, sRetN, bD, xD, nmD, startD, sIf, DL.tB, DL.tNot, DL.tAnd, DL.tOr, eAnd, eOr, eNot, eIf, isB, sDrop, sNext, sPar, eTup, eLst, eCall, eCB, aNil, aCons, eFld, eFldM, eProp, eMeth, eMethK, eMake, eMakeK, eUn, sFldM, sRaise, addI, addS, addL, subI, negI, mulI, mulL, divI, modI, powI, eqI, neI, eqS, neS, lenL, lenT, lenC, absI, intI, strI, repX, dmI, it0, it1, itL0, itL1, itL2, itL3, itL4, itL5, itL6, itR, eStat, oNone, oSome, eSl, gTp2', gIx, eLstM, eApp, DL.rIn, DL.rNe, eFmt, eJs, eDic0, sNever, mx2, mn2, ltI, leI, gtI, geI, eChain, decide_eq_true_eq, List.map_cons, List.map_nil, List.length_cons, List.length_nil, Nat.reduceAdd, Nat.reduceSub, List.replicate_succ, List.replicate_zero, List.cons_append, List.nil_append, List.getElem?_cons_zero, List.getElem?_cons_succ, List.reverse_cons, List.reverse_nil, Option.some.injEq, exists_eq_left', List.set_cons_zero, List.set_cons_succ, if_true, if_false, Bool.false_eq_true, reduceIte, and_self, true_and, D.bl.injEq, D.ob.injEq, D.int.injEq, D.str.injEq, D.tup.injEq, exists_and_left, exists_eq_left, reduceCtorEq, and_true, lk_low, lk_high, exists_eq', and_self, headSp, eCMet, eMakeL, eDZip, eLZip, eLc, lcD, eDc, dcD, eLc2, lc2Out, lc2In, Tgt.put, iSigns, iKeysD, iTupD, iLst, iEnm, iR1, eDicT, gIxT, eGone, inKD, hasD, itKD, keyD, ttYes]
  refine ⟨smallN (by decide +kernel), _, rfl, (show (0 : Int).natAbs < 2 ^ 1900 by decide +kernel), smallN (by decide +kernel), smallN (by decide +kernel), _, rfl, (show (1 : Int).natAbs < 2 ^ 1900 by decide +kernel), smallN (by decide +kernel), ?_⟩
  rw [t0, t1]
  refine ⟨rfl, _, _, rfl, _, rfl, _, rfl, [.inr "p0", .inr "p1"], rfl, rfl, ?_⟩
  rw [sl_lst]
  refine ⟨_, _, rfl, _, rfl, _, rfl, fun p free => ⟨p, rfl, mset_same, rfl, _, mset_same, rfl, ?_⟩⟩
  rw [mset_mset, mdel_mset free]
  exact q
theorem ok_Net___eq__ (T : Tx K mg base a d) : FnG false false P w K mg base 1 a.f_Net___eq__ d.f_Net___eq__ ["self", "other"] (spL (G a) s_neq) := by
  refine fn_okG T.F_Net___eq__ sc_Net___eq__ (fun _ _ _ _ ⟨_, e, _⟩ => len2 e) (fun cdv A outer s H E xs m Q x hr h => ⟨_, (dss_one (ds_ret (de_and (de_callB cd_isi (by rfl) T.z_isinstance boot_isinstance (da_cons (de_nm (pv 1)) (da_cons (de_c (pe_glob (v := .ref _) (by rfl) T.m_Net rfl) (fun _ => .ref _)) da_nil))) (de_and (de_cmp (od_eq hr.u64) (de_fld (c := 5) T.c_Net T.n_Net_own_levels (de_nm (pv 0))) (de_fld (c := 5) T.c_Net T.n_Net_own_levels (de_nm (pv 1))) (nomark _)) (de_one (de_cmp (od_eq hr.u64) (de_fld (c := 5) T.c_Net T.n_Net_own_edges (de_nm (pv 0))) (de_fld (c := 5) T.c_Net T.n_Net_own_edges (de_nm (pv 1))) (nomark _))))))), ?_⟩)
  obtain ⟨v, rfl, ov, no, q⟩ := h
  simp only [sSeq, sAsg, gNm, sRet, sRetN, bD, xD, nmD, startD, sIf, DL.tB, DL.tNot, DL.tAnd, DL.tOr, eAnd, eOr, eNot, eIf, isB, sDrop, sNext, sPar, eTup, eLst, eCall, eCB, aNil, aCons, eFld, eFldM, eProp, eMeth, eMethK, eMake, eMakeK, eUn, sFldM, sRaise, addI, addS, addL, subI, negI, mulI, mulL, divI, modI, powI, eqI, neI, eqS, neS, lenL, lenT, lenC, absI, intI, strI, repX, dmI, it0, it1, itL0, itL1, itL2, itL3, itL4, itL5, itL6, itR, eStat, oNone, oSome, eSl, gTp2', gIx, eLstM, eApp, DL.rIn, DL.rNe, eFmt, eJs, eDic0, sNever, mx2, mn2, ltI, leI, gtI, geI, eChain, decide_eq_true_eq, List.map_cons, List.map_nil, List.length_cons, List.length_nil, Nat.reduceAdd, Nat.reduceSub, List.replicate_succ, List.replicate_zero, List.cons_append, List.nil_append, List.getElem?_cons_zero, List.getElem?_cons_succ, List.reverse_cons, List.reverse_nil, Option.some.injEq, exists_eq_left', List.set_cons_zero, List.set_cons_succ, if_true, if_false, Bool.false_eq_true, reduceIte, and_self, true_and, D.bl.injEq, D.ob.injEq, D.int.injEq, D.str.injEq, D.tup.injEq, exists_and_left, exists_eq_left, reduceCtorEq, and_true, lk_low, lk_high, exists_eq', and_self]
  refine isi_net T ov ⟨_, rfl, ?_⟩
  rw [no]
  exact iteF q
theorem ok_Net___repr__ (T : Tx K mg base a d) : FnG true true P w K mg base 1 a.f_Net___repr__ d.f_Net___repr__ ["self"] (spL (G a) s_nrep) := by
  refine fn_okG T.F_Net___repr__ sc_Net___repr__ (fun _ _ _ _ ⟨e, _⟩ => len1 e) (fun cdv A outer s H E xs m Q x hr h => ⟨_, (dss_one (ds_ret (de_joined (DJ.cons (de_c pe_str (fun _ => .str _)) (DJ.cons (de_fmtR hr (de_fld (c := 5) T.c_Net T.n_Net_own_levels (de_nm (pv 0)))) (DJ.cons (de_c pe_str (fun _ => .str _)) (DJ.cons (de_fmtR hr (de_fld (c := 5) T.c_Net T.n_Net_own_edges (de_nm (pv 0)))) (DJ.cons (de_c pe_str (fun _ => .str _)) DJ.nil)))))))), ?_⟩)
  obtain ⟨rfl, q⟩ := h
  simp only [eFmtR, sSeq, sAsg, gNm, sRet, sRetN, bD, xD, nmD, startD, sIf, DL.tB, DL.tNot, DL.tAnd, DL.tOr, eAnd, eOr, eNot, eIf, isB, sDrop, sNext, sPar, eTup, eLst, eCall, eCB, aNil, aCons, eFld, eFldM, eProp, eMeth, eMethK, eMake, eMakeK, eUn, sFldM, sRaise, addI, addS, addL, subI, negI, mulI, mulL, divI, modI, powI, eqI, neI, eqS, neS, lenL, lenT, lenC, absI, intI, strI, repX, dmI, it0, it1, itL0, itL1, itL2, itL3, itL4, itL5, itL6, itR, eStat, oNone, oSome, eSl, gTp2', gIx, eLstM, eApp, DL.rIn, DL.rNe, eFmt, eJs, eDic0, sNever, mx2, mn2, ltI, leI, gtI, geI, eChain, decide_eq_true_eq, List.map_cons, List.map_nil, List.length_cons, List.length_nil, Nat.reduceAdd, Nat.reduceSub, List.replicate_succ, List.replicate_zero, List.cons_append, List.nil_append, List.getElem?_cons_zero, List.getElem?_cons_succ, List.reverse_cons, List.reverse_nil, Option.some.injEq, exists_eq_left', List.set_cons_zero, List.set_cons_succ, if_true, if_false, Bool.false_eq_true, reduceIte, and_self, true_and, D.bl.injEq, D.ob.injEq, D.int.injEq, D.str.injEq, D.tup.injEq, exists_and_left, exists_eq_left, reduceCtorEq, and_true, lk_low, lk_high, exists_eq', and_self, emp_app, lk_lev, lk_edg]
  have n1 : ∀ {x : Str}, x.length ≤ 1000 → x.length ≤ sizeLine := fun h => smallN h
  exact ⟨n1 (by decide +kernel), okX_lev, n1 (by decide +kernel), n1 (by decide +kernel), okX_edg, n1 (by decide +kernel), n1 (by decide +kernel), q⟩
theorem few_rep {l h : Int} (f1 : Few l) (f2 : Few h) : (repS l h).length ≤ 100000 := Nat.le_trans (repS_sh f1 f2).len (by decide)
theorem cd_anyr {X : Cx} {hot : Bool} (T : Tx X.K X.mg X.base a d) (hr : Rm hot true 12 X.A) : CallD X (G a) (.builtin "repr") anyR := by
  have fS := (ok_Span___repr__ (P := X.prog) (w := X.w) T)
  have rS := hr.mono (show 1 + 1 ≤ 12 by decide)
  have rT := hr.mono (show 1 + 3 ≤ 12 by decide)
  have rN := hr.mono (show 1 + 1 ≤ 12 by decide)
  have c1 := cd_reprX (G := G a) hr
  have c2 := cd_reprO (X := X) (G := G a) (c := 0) T.o_Span___repr__ (fS.at_ (hot := hot) (grd := true)) rS T.b_Span___repr__
  have c3 := cd_reprO (X := X) (G := G a) (c := 5) T.o_Net___repr__ ((ok_Net___repr__ (P := X.prog) (w := X.w) T).hotter (hot := hot)) rN T.b_Net___repr__
  have c4 := cd_tupO (X := X) (G := G a) (c := 0) T.o_Span___repr__ (fS.at_ (hot := hot) (grd := false)) rT T.b_Span___repr__
  refine CallD.imp (CallD.or c1 (CallD.or c2 (CallD.or c3 c4))) ?_
  rintro xs m Q ⟨v, t, rfl, say, q⟩
  cases say with
  | plain h _ => exact .inl ⟨_, rfl, h, q⟩
  | @span l h f1 f2 => exact .inr (.inl ⟨⟨_, rfl⟩, l, h, rfl, f1, f2, _, rfl, q⟩)
  | net => exact .inr (.inr (.inl ⟨⟨_, rfl⟩, rfl, _, rfl, q⟩))
  | @two l h l2 h2 f1 f2 f3 f4 =>
    refine .inr (.inr (.inr ⟨_, rfl, (show 2 ≤ 100 by decide), ⟨_, rfl⟩, l, h, rfl, f1, f2, _, rfl, few_rep f1 f2, ⟨_, rfl⟩, l2, h2, rfl, f3, f4, _, rfl, few_rep f3 f4, ?_, q⟩))
    exact two_len (few_rep f1 f2) (few_rep f3 f4)

theorem ok__law_pot (T : Tx K mg base a d) : FnG false false P w K mg base 1 a.f__law_pot d.f__law_pot ["_law_script", "_law_k"] (spL (G a) s_pot) := by
  refine fn_okG T.F__law_pot sc__law_pot (fun _ _ _ _ ⟨_, _, e, _⟩ => len2 e) (fun cdv A outer s H E xs m Q x hr h => ⟨_, (dss_cons (ds_set (i := 2) (ps_set (i := 2) sc__law_pot.nd rfl (Or.inl rfl)) (de_op od_add (de_op od_mul (de_c pe_int (fun _ => .int _)) (de_nm (pv 1))) (de_c pe_int (fun _ => .int _)))) (dss_cons (ds_if (dt_cmp (od_lt hr.u0) (de_nm (pv 1)) (de_callB (cd_len) (by rfl) T.z_len boot_len (da_cons (de_nm (pv 0)) da_nil)) (nomark _)) (dss_one (ds_set (i := 2) (ps_set (i := 2) sc__law_pot.nd rfl (Or.inl rfl)) (de_callB (cd_abs) (by rfl) T.z_abs boot_abs (da_cons (de_ix (de_nm (pv 0)) (de_nm (pv 1)) (fun _ _ => rfl)) da_nil)))) dss_nil) (dss_one (ds_ret (de_lstM (da_cons (de_callB (cd_mx (by rfl) hr.u8) (by rfl) T.z_max boot_max (da_cons (de_c pe_int (fun _ => .int _)) (da_cons (de_op od_sub (de_nm (pv 2)) (de_op od_pow (de_c pe_int (fun _ => .int _)) (de_c pe_int (fun _ => .int _)))) da_nil))) (da_cons (de_op od_add (de_op od_mod (de_op od_mul (de_callTy (cd_int) (by rfl) T.z_int boot_int (da_cons (de_op od_add (de_op od_mod (de_callTy (cd_int) (by rfl) T.z_int boot_int (da_cons (de_nm (pv 2)) da_nil)) (de_c pe_int (fun _ => .int _))) (de_c pe_int (fun _ => .int _))) da_nil)) (de_op od_pow (de_op od_add (de_op od_mul (de_c pe_int (fun _ => .int _)) (de_nm (pv 1))) (de_c pe_int (fun _ => .int _))) (de_c pe_int (fun _ => .int _)))) (de_c pe_int (fun _ => .int _))) (de_c pe_int (fun _ => .int _))) da_nil))))))), ?_⟩)
  obtain ⟨ns, k, rfl, k0, k1, q⟩ := h
  simp only [sSeq, sAsg, gNm, sRet, sRetN, bD, xD, nmD, startD, sIf, DL.tB, DL.tNot, DL.tAnd, DL.tOr, eAnd, eOr, eNot, eIf, isB, sDrop, sNext, sPar, eTup, eLst, eCall, eCB, aNil, aCons, eFld, eFldM, eProp, eMeth, eMethK, eMake, eMakeK, eUn, sFldM, sRaise, addI, addS, addL, subI, negI, mulI, mulL, divI, modI, powI, eqI, neI, eqS, neS, lenL, lenT, lenC, absI, intI, strI, repX, dmI, it0, it1, itL0, itL1, itL2, itL3, itL4, itL5, itL6, itR, eStat, oNone, oSome, eSl, gTp2', gIx, eLstM, eApp, DL.rIn, DL.rNe, eFmt, eJs, eDic0, sNever, mx2, mn2, ltI, leI, gtI, geI, eChain, decide_eq_true_eq, List.map_cons, List.map_nil, List.length_cons, List.length_nil, Nat.reduceAdd, Nat.reduceSub, List.replicate_succ, List.replicate_zero, List.cons_append, List.nil_append, List.getElem?_cons_zero, List.getElem?_cons_succ, List.reverse_cons, List.reverse_nil, Option.some.injEq, exists_eq_left', List.set_cons_zero, List.set_cons_succ, if_true, if_false, Bool.false_eq_true, reduceIte, and_self, true_and, D.bl.injEq, D.ob.injEq, D.int.injEq, D.str.injEq, D.tup.injEq, exists_and_left, exists_eq_left, reduceCtorEq, and_true, lk_low, lk_high, exists_eq', and_self]
  have e18 : (0 : Int) ≤ 18 ∧ (18 : Int) ≤ 1000000 ∧ Int.natAbs 10 < 2 ^ 64 := by decide
  have hk1 : (0 : Int) ≤ 3 ∧ (3 : Int) ≤ 1000000 ∧ (2 * k + 5).natAbs < 2 ^ 64 := ⟨by decide, by decide, by omega⟩
  have hm1 : DL.MulOk 23 k := mulOk (a := 8) (b := 8) (by decide) (by omega) (by decide)
  have hm2 : DL.MulOk 2 k := mulOk (a := 8) (b := 8) (by decide) (by omega) (by decide)
  have h3 : ((2 * k + 5) ^ Int.toNat 3).natAbs < 2 ^ 16 := by
    have : k = 0 ∨ k = 1 ∨ k = 2 ∨ k = 3 ∨ k = 4 := by omega
    rcases this with rfl | rfl | rfl | rfl | rfl <;> decide
  have key : ∀ z : Int, DL.MulOk (z % 2147483549 + 3) ((2 * k + 5) ^ Int.toNat 3) := fun z => mulOk (a := 40) (b := 16) (by omega) h3 (by decide)
  have pv : ∀ z w : Int, PotV (max 0 z) (w % 2147483477 + 1) := fun z w => ⟨Int.le_max_left _ _, by omega, by omega⟩
  refine ⟨hm1, ite2 (fun c => ?_) (fun c => ?_)⟩
  · obtain ⟨n, rfl⟩ : ∃ n : Nat, k = n := ⟨k.toNat, by omega⟩
    have hn : n < ns.length := by rw [List.length_map] at c; omega
    have hd : (ns.map D.int)[n]? = some (.int ns[n]) := by rw [List.getElem?_map, List.getElem?_eq_getElem hn]; rfl
    rw [itCn hd]
    refine ⟨e18, ?_⟩
    have go : ∀ z : Int, mxD [.int 0, .int (z - 10 ^ Int.toNat 18)] m (fun d_2 m1 => DL.intD [.int z] m1 fun p m1 => modD p (.int 2147483549) m1 fun p m1 => addD p (.int 3) m1 fun d m1 => DL.intD [d] m1 fun p m1 => DL.MulOk 2 (n : Int) ∧ (0 ≤ (3 : Int) ∧ (3 : Int) ≤ 1000000 ∧ (2 * (n : Int) + 5).natAbs < 2 ^ 64) ∧
        mulD p (.int ((2 * (n : Int) + 5) ^ Int.toNat 3)) m1 fun p m1 => modD p (.int 2147483477) m1 fun p m1 => addD p (.int 1) m1 fun d m1 => 2 ≤ sizeLine ∧ ∀ p : Addr, m1 p = none → Q (.ref p) (mset m1 p (.lst [d_2, d]))) := fun z => by
      simp only [sSeq, sAsg, gNm, sRet, sRetN, bD, xD, nmD, startD, sIf, DL.tB, DL.tNot, DL.tAnd, DL.tOr, eAnd, eOr, eNot, eIf, isB, sDrop, sNext, sPar, eTup, eLst, eCall, eCB, aNil, aCons, eFld, eFldM, eProp, eMeth, eMethK, eMake, eMakeK, eUn, sFldM, sRaise, addI, addS, addL, subI, negI, mulI, mulL, divI, modI, powI, eqI, neI, eqS, neS, lenL, lenT, lenC, absI, intI, strI, repX, dmI, it0, it1, itL0, itL1, itL2, itL3, itL4, itL5, itL6, itR, eStat, oNone, oSome, eSl, gTp2', gIx, eLstM, eApp, DL.rIn, DL.rNe, eFmt, eJs, eDic0, sNever, mx2, mn2, ltI, leI, gtI, geI, eChain, decide_eq_true_eq, List.map_cons, List.map_nil, List.length_cons, List.length_nil, Nat.reduceAdd, Nat.reduceSub, List.replicate_succ, List.replicate_zero, List.cons_append, List.nil_append, List.getElem?_cons_zero, List.getElem?_cons_succ, List.reverse_cons, List.reverse_nil, Option.some.injEq, exists_eq_left', List.set_cons_zero, List.set_cons_succ, if_true, if_false, Bool.false_eq_true, reduceIte, and_self, true_and, D.bl.injEq, D.ob.injEq, D.int.injEq, D.str.injEq, D.tup.injEq, exists_and_left, exists_eq_left, reduceCtorEq, and_true, lk_low, lk_high, exists_eq', and_self]
      exact ⟨by decide, hm2, hk1, key _, by decide, small2, fun p hp => q p _ _ hp (pv _ _)⟩
    exact go _
  · exact ⟨e18, by decide, hm2, hk1, key _, by decide, small2, fun p hp => q p _ _ hp (pv _ _)⟩
theorem ok__law_draw (T : Tx K mg base a d) : FnG false false P w K mg base 1 a.f__law_draw d.f__law_draw ["_law_pot_here", "_law_many"] (spL (G a) s_draw) := by
  refine fn_okG T.F__law_draw sc__law_draw (fun _ _ _ _ ⟨_, _, e, _⟩ => len2 e) (fun cdv A outer s H E xs m Q x hr h => ⟨_, (dss_cons (ds_if (dt_cmp (od_gt hr.u0) (de_ix (de_nm (pv 0)) (de_c pe_int (fun _ => .int _)) (fun _ _ => rfl)) (de_c pe_int (fun _ => .int _)) (nomark _)) (dss_cons (ds_asg (de_callB (cd_divmod) (by rfl) T.z_divmod boot_divmod (da_cons (de_ix (de_nm (pv 0)) (de_c pe_int (fun _ => .int _)) (fun _ _ => rfl)) (da_cons (de_nm (pv 1)) da_nil))) (dg_tup (n := 2) rfl (dgs_cons (dg_ix (de_nm (pv 0)) (de_c pe_int (fun _ => .int _))) (dgs_cons (dg_name (pg_name (i := 2) sc__law_draw.nd rfl (Or.inl rfl))) dgs_nil)))) (dss_one (ds_ret (de_nm (pv 2))))) dss_nil) (dss_cons (ds_asg (de_op od_mod (de_callTy (cd_int) (by rfl) T.z_int boot_int (da_cons (de_op od_add (de_op od_mul (de_ix (de_nm (pv 0)) (de_c pe_int (fun _ => .int _)) (fun _ _ => rfl)) (de_c pe_int (fun _ => .int _))) (de_c pe_int (fun _ => .int _))) da_nil)) (de_c pe_int (fun _ => .int _))) (dg_ix (de_nm (pv 0)) (de_c pe_int (fun _ => .int _)))) (dss_one (ds_ret (de_op od_mod (de_callTy (cd_int) (by rfl) T.z_int boot_int (da_cons (de_op od_div (de_op od_mod (de_callTy (cd_int) (by rfl) T.z_int boot_int (da_cons (de_op od_mul (de_ix (de_nm (pv 0)) (de_c pe_int (fun _ => .int _)) (fun _ _ => rfl)) (de_ix (de_nm (pv 0)) (de_c pe_int (fun _ => .int _)) (fun _ _ => rfl))) da_nil)) (de_c pe_int (fun _ => .int _))) (de_c pe_int (fun _ => .int _))) da_nil)) (de_nm (pv 1))))))), ?_⟩)
  obtain ⟨p, n, rfl, n0, n1, ⟨a1, b1, hp, pv⟩, q⟩ := h
  simp only [sSeq, sAsg, gNm, sRet, sRetN, bD, xD, nmD, startD, sIf, DL.tB, DL.tNot, DL.tAnd, DL.tOr, eAnd, eOr, eNot, eIf, isB, sDrop, sNext, sPar, eTup, eLst, eCall, eCB, aNil, aCons, eFld, eFldM, eProp, eMeth, eMethK, eMake, eMakeK, eUn, sFldM, sRaise, addI, addS, addL, subI, negI, mulI, mulL, divI, modI, powI, eqI, neI, eqS, neS, lenL, lenT, lenC, absI, intI, strI, repX, dmI, it0, it1, itL0, itL1, itL2, itL3, itL4, itL5, itL6, itR, eStat, oNone, oSome, eSl, gTp2', gIx, eLstM, eApp, DL.rIn, DL.rNe, eFmt, eJs, eDic0, sNever, mx2, mn2, ltI, leI, gtI, geI, eChain, decide_eq_true_eq, List.map_cons, List.map_nil, List.length_cons, List.length_nil, Nat.reduceAdd, Nat.reduceSub, List.replicate_succ, List.replicate_zero, List.cons_append, List.nil_append, List.getElem?_cons_zero, List.getElem?_cons_succ, List.reverse_cons, List.reverse_nil, Option.some.injEq, exists_eq_left', List.set_cons_zero, List.set_cons_succ, if_true, if_false, Bool.false_eq_true, reduceIte, and_self, true_and, D.bl.injEq, D.ob.injEq, D.int.injEq, D.str.injEq, D.tup.injEq, exists_and_left, exists_eq_left, reduceCtorEq, and_true, lk_low, lk_high, exists_eq', and_self]
  have hn : n.natAbs < 2 ^ 8000 := Nat.lt_of_le_of_lt (show n.natAbs ≤ 10 ^ 15 by omega) (by decide +kernel)
  refine ⟨_, hp, _, rfl, ⟨_, rfl, ite2 (fun c => ?_) (fun c => ?_)⟩⟩
  · refine ⟨_, hp, _, rfl, ⟨n0, hn⟩, ?_⟩
    simp only [sSeq, sAsg, gNm, sRet, sRetN, bD, xD, nmD, startD, sIf, DL.tB, DL.tNot, DL.tAnd, DL.tOr, eAnd, eOr, eNot, eIf, isB, sDrop, sNext, sPar, eTup, eLst, eCall, eCB, aNil, aCons, eFld, eFldM, eProp, eMeth, eMethK, eMake, eMakeK, eUn, sFldM, sRaise, addI, addS, addL, subI, negI, mulI, mulL, divI, modI, powI, eqI, neI, eqS, neS, lenL, lenT, lenC, absI, intI, strI, repX, dmI, it0, it1, itL0, itL1, itL2, itL3, itL4, itL5, itL6, itR, eStat, oNone, oSome, eSl, gTp2', gIx, eLstM, eApp, DL.rIn, DL.rNe, eFmt, eJs, eDic0, sNever, mx2, mn2, ltI, leI, gtI, geI, eChain, decide_eq_true_eq, List.map_cons, List.map_nil, List.length_cons, List.length_nil, Nat.reduceAdd, Nat.reduceSub, List.replicate_succ, List.replicate_zero, List.cons_append, List.nil_append, List.getElem?_cons_zero, List.getElem?_cons_succ, List.reverse_cons, List.reverse_nil, Option.some.injEq, exists_eq_left', List.set_cons_zero, List.set_cons_succ, if_true, if_false, Bool.false_eq_true, reduceIte, and_self, true_and, D.bl.injEq, D.ob.injEq, D.int.injEq, D.str.injEq, D.tup.injEq, exists_and_left, exists_eq_left, reduceCtorEq, and_true, lk_low, lk_high, exists_eq', and_self]
    refine ⟨p, rfl, _, 0, rfl, hp, (show 0 < 2 by decide), q _ _ (Int.emod_nonneg _ (by omega)) (Int.emod_lt_of_pos _ n0) ⟨_, _, ⟨Int.ediv_nonneg pv.1 (by omega), pv.2⟩, rfl⟩⟩
  · refine ⟨_, hp, _, rfl, ?_⟩
    simp only [sSeq, sAsg, gNm, sRet, sRetN, bD, xD, nmD, startD, sIf, DL.tB, DL.tNot, DL.tAnd, DL.tOr, eAnd, eOr, eNot, eIf, isB, sDrop, sNext, sPar, eTup, eLst, eCall, eCB, aNil, aCons, eFld, eFldM, eProp, eMeth, eMethK, eMake, eMakeK, eUn, sFldM, sRaise, addI, addS, addL, subI, negI, mulI, mulL, divI, modI, powI, eqI, neI, eqS, neS, lenL, lenT, lenC, absI, intI, strI, repX, dmI, it0, it1, itL0, itL1, itL2, itL3, itL4, itL5, itL6, itR, eStat, oNone, oSome, eSl, gTp2', gIx, eLstM, eApp, DL.rIn, DL.rNe, eFmt, eJs, eDic0, sNever, mx2, mn2, ltI, leI, gtI, geI, eChain, decide_eq_true_eq, List.map_cons, List.map_nil, List.length_cons, List.length_nil, Nat.reduceAdd, Nat.reduceSub, List.replicate_succ, List.replicate_zero, List.cons_append, List.nil_append, List.getElem?_cons_zero, List.getElem?_cons_succ, List.reverse_cons, List.reverse_nil, Option.some.injEq, exists_eq_left', List.set_cons_zero, List.set_cons_succ, if_true, if_false, Bool.false_eq_true, reduceIte, and_self, true_and, D.bl.injEq, D.ob.injEq, D.int.injEq, D.str.injEq, D.tup.injEq, exists_and_left, exists_eq_left, reduceCtorEq, and_true, lk_low, lk_high, exists_eq', and_self]
    have b2 := pv.2.1
    have b3 := pv.2.2
    have hb : 0 ≤ (b1 * 48271 + 11213) % 2147483587 ∧ (b1 * 48271 + 11213) % 2147483587 < 2147483587 := ⟨Int.emod_nonneg _ (by decide), Int.emod_lt_of_pos _ (by decide)⟩
    refine ⟨mulOk (a := 40) (b := 20) (by omega) (by decide) (by decide), by decide, p, rfl, _, 1, rfl, hp, (show 1 < 2 by decide), _, mset_same, _, rfl, _, mset_same, _, rfl, ?_⟩
    refine ⟨mulOk (a := 40) (b := 40) (by omega) (by omega) (by decide), by decide, ⟨by decide, by decide +kernel⟩, n0, ?_⟩
    exact q _ _ (Int.emod_nonneg _ (by omega)) (Int.emod_lt_of_pos _ n0) ⟨_, _, ⟨pv.1, hb.1, by omega⟩, rfl⟩
theorem ok__law_pick (T : Tx K mg base a d) : FnG false false P w K mg base 2 a.f__law_pick d.f__law_pick ["_law_pot_here", "_law_some"] (spL (G a) s_pick) := by
  refine fn_okG T.F__law_pick sc__law_pick (fun _ _ _ _ ⟨_, _, e, _⟩ => len2 e) (fun cdv A outer s H E xs m Q x hr h => ⟨_, (dss_one (ds_ret (de_ix (de_nm (pv 1)) (de_call (ok__law_draw T) (hr.mono (show 1 ≤ _ by decide)) (by rfl) T.m__law_draw T.F__law_draw.kp T.b__law_draw takesG (da_cons (de_nm (pv 0)) (da_cons (de_callB (cd_len) (by rfl) T.z_len boot_len (da_cons (de_nm (pv 1)) da_nil)) da_nil))) (fun _ _ => rfl)))), ?_⟩)
  obtain ⟨p, vs, rfl, ne, len, hp, q⟩ := h
  simp only [sSeq, sAsg, gNm, sRet, sRetN, bD, xD, nmD, startD, sIf, DL.tB, DL.tNot, DL.tAnd, DL.tOr, eAnd, eOr, eNot, eIf, isB, sDrop, sNext, sPar, eTup, eLst, eCall, eCB, aNil, aCons, eFld, eFldM, eProp, eMeth, eMethK, eMake, eMakeK, eUn, sFldM, sRaise, addI, addS, addL, subI, negI, mulI, mulL, divI, modI, powI, eqI, neI, eqS, neS, lenL, lenT, lenC, absI, intI, strI, repX, dmI, it0, it1, itL0, itL1, itL2, itL3, itL4, itL5, itL6, itR, eStat, oNone, oSome, eSl, gTp2', gIx, eLstM, eApp, DL.rIn, DL.rNe, eFmt, eJs, eDic0, sNever, mx2, mn2, ltI, leI, gtI, geI, eChain, decide_eq_true_eq, List.map_cons, List.map_nil, List.length_cons, List.length_nil, Nat.reduceAdd, Nat.reduceSub, List.replicate_succ, List.replicate_zero, List.cons_append, List.nil_append, List.getElem?_cons_zero, List.getElem?_cons_succ, List.reverse_cons, List.reverse_nil, Option.some.injEq, exists_eq_left', List.set_cons_zero, List.set_cons_succ, if_true, if_false, Bool.false_eq_true, reduceIte, and_self, true_and, D.bl.injEq, D.ob.injEq, D.int.injEq, D.str.injEq, D.tup.injEq, exists_and_left, exists_eq_left, reduceCtorEq, and_true, lk_low, lk_high, exists_eq', and_self]
  have l0 : 0 < vs.length := List.length_pos_iff.mpr ne
  refine ⟨p, vs.length, rfl, by omega, by omega, hp, fun i m' i0 i1 s => ?_⟩
  obtain ⟨n, rfl⟩ : ∃ n : Nat, i = n := ⟨i.toNat, by omega⟩
  have hn : n < vs.length := by omega
  rw [itLn (List.getElem?_eq_getElem hn)]
  exact q _ _ (List.getElem_mem hn) s
theorem ok__law_number (T : Tx K mg base a d) : FnG false false P w K mg base 2 a.f__law_number d.f__law_number ["_law_pot_here"] (spL (G a) s_num) := by
  refine fn_okG T.F__law_number sc__law_number (fun _ _ _ _ ⟨_, e, _⟩ => len1 e) (fun cdv A outer s H E xs m Q x hr h => ⟨_, (dss_cons (ds_set (i := 1) (ps_set (i := 1) sc__law_number.nd rfl (Or.inl rfl)) (de_op od_add (de_op od_mul (de_call (ok__law_draw T) (hr.mono (show 1 ≤ _ by decide)) (by rfl) T.m__law_draw T.F__law_draw.kp T.b__law_draw takesG (da_cons (de_nm (pv 0)) (da_cons (de_op od_pow (de_c pe_int (fun _ => .int _)) (de_c pe_int (fun _ => .int _))) da_nil))) (de_op od_pow (de_c pe_int (fun _ => .int _)) (de_c pe_int (fun _ => .int _)))) (de_call (ok__law_draw T) (hr.mono (show 1 ≤ _ by decide)) (by rfl) T.m__law_draw T.F__law_draw.kp T.b__law_draw takesG (da_cons (de_nm (pv 0)) (da_cons (de_op od_pow (de_c pe_int (fun _ => .int _)) (de_c pe_int (fun _ => .int _))) da_nil))))) (dss_one (ds_ret (de_ix (de_lst (da_cons (de_op od_sub (de_call (ok__law_draw T) (hr.mono (show 1 ≤ _ by decide)) (by rfl) T.m__law_draw T.F__law_draw.kp T.b__law_draw takesG (da_cons (de_nm (pv 0)) (da_cons (de_c pe_int (fun _ => .int _)) da_nil))) (de_c pe_int (fun _ => .int _))) (da_cons (de_nm (pv 1)) (da_cons (de_op od_sub (de_c pe_int (fun _ => .int _)) (de_nm (pv 1))) da_nil)))) (de_call (ok__law_draw T) (hr.mono (show 1 ≤ _ by decide)) (by rfl) T.m__law_draw T.F__law_draw.kp T.b__law_draw takesG (da_cons (de_nm (pv 0)) (da_cons (de_c pe_int (fun _ => .int _)) da_nil))) (fun _ _ => rfl))))), ?_⟩)
  obtain ⟨p, rfl, hp, q⟩ := h
  simp only [sSeq, sAsg, gNm, sRet, sRetN, bD, xD, nmD, startD, sIf, DL.tB, DL.tNot, DL.tAnd, DL.tOr, eAnd, eOr, eNot, eIf, isB, sDrop, sNext, sPar, eTup, eLst, eCall, eCB, aNil, aCons, eFld, eFldM, eProp, eMeth, eMethK, eMake, eMakeK, eUn, sFldM, sRaise, addI, addS, addL, subI, negI, mulI, mulL, divI, modI, powI, eqI, neI, eqS, neS, lenL, lenT, lenC, absI, intI, strI, repX, dmI, it0, it1, itL0, itL1, itL2, itL3, itL4, itL5, itL6, itR, eStat, oNone, oSome, eSl, gTp2', gIx, eLstM, eApp, DL.rIn, DL.rNe, eFmt, eJs, eDic0, sNever, mx2, mn2, ltI, leI, gtI, geI, eChain, decide_eq_true_eq, List.map_cons, List.map_nil, List.length_cons, List.length_nil, Nat.reduceAdd, Nat.reduceSub, List.replicate_succ, List.replicate_zero, List.cons_append, List.nil_append, List.getElem?_cons_zero, List.getElem?_cons_succ, List.reverse_cons, List.reverse_nil, Option.some.injEq, exists_eq_left', List.set_cons_zero, List.set_cons_succ, if_true, if_false, Bool.false_eq_true, reduceIte, and_self, true_and, D.bl.injEq, D.ob.injEq, D.int.injEq, D.str.injEq, D.tup.injEq, exists_and_left, exists_eq_left, reduceCtorEq, and_true, lk_low, lk_high, exists_eq', and_self]
  have e15 : (0 : Int) ≤ 15 ∧ (15 : Int) ≤ 1000000 ∧ Int.natAbs 10 < 2 ^ 64 := by decide
  have x15 : (10 : Int) ^ Int.toNat 15 = 1000000000000000 := by decide
  rw [x15]
  refine ⟨e15, p, _, rfl, by decide, by decide, hp, fun i m1 i0 i1 s1 => ⟨e15, ?_⟩⟩
  (try dsimp only)
  rw [mulI]
  refine ⟨mulOk (a := 60) (b := 60) (by omega) (by decide) (by decide), e15, p, _, rfl, by decide, by decide, s1.pot, fun j m2 j0 j1 s2 => ?_⟩
  (try dsimp only)
  rw [addI]
  refine ⟨p, 7, rfl, by decide, by decide, s2.pot, fun k m3 k0 k1 s3 => ?_⟩
  (try dsimp only)
  rw [subI, subI]
  refine ⟨smallN (by decide), p, 3, rfl, by decide, by decide, s3.pot, fun n m4 n0 n1 s4 => ?_⟩
  have st := s1.trans (s2.trans (s3.trans s4))
  (try dsimp only)
  rcases (show n = 0 ∨ n = 1 ∨ n = 2 by omega) with rfl | rfl | rfl
  · rw [itL0]
    exact q _ _ (by omega) (by omega) st
  · rw [itL1]
    exact q _ _ (by omega) (by omega) st
  · rw [itL2]
    exact q _ _ (by omega) (by omega) st
theorem ok__law_thing (T : Tx K mg base a d) : FnG false true P w K mg base 7 a.f__law_thing d.f__law_thing ["_law_pot_here", "_law_base"] (spL (G a) s_thing) := by
  refine fn_okG T.F__law_thing sc__law_thing (fun _ _ _ _ ⟨_, _, e, _⟩ => len2 e) (fun cdv A outer s H E xs m Q x hr h => ⟨_, (dss_cons (ds_set (i := 2) (ps_set (i := 2) sc__law_thing.nd rfl (Or.inl rfl)) (de_op od_sub (de_op od_add (de_nm (pv 1)) (de_call (ok__law_draw T).any (hr.mono (show 1 ≤ _ by decide)) (by rfl) T.m__law_draw T.F__law_draw.kp T.b__law_draw takesG (da_cons (de_nm (pv 0)) (da_cons (de_c pe_int (fun _ => .int _)) da_nil)))) (de_c pe_int (fun _ => .int _)))) (dss_cons (ds_if (dt_cmp (od_eq hr.u64) (de_call (ok__law_draw T).any (hr.mono (show 1 ≤ _ by decide)) (by rfl) T.m__law_draw T.F__law_draw.kp T.b__law_draw takesG (da_cons (de_nm (pv 0)) (da_cons (de_c pe_int (fun _ => .int _)) da_nil))) (de_c pe_int (fun _ => .int _)) (nomark _)) (dss_one (ds_ret (de_nm (pv 2)))) dss_nil) (dss_cons (ds_set (i := 3) (ps_set (i := 3) sc__law_thing.nd rfl (Or.inl rfl)) (de_lst (da_cons (de_c pe_non (fun _ => .non)) (da_cons (de_c pe_bl (fun _ => .bl _)) (da_cons (de_c pe_bl (fun _ => .bl _)) (da_cons (de_c pe_str (fun _ => .str _)) (da_cons (de_c pe_str (fun _ => .str _)) (da_cons (de_callTy (cd_str) (by rfl) T.z_str boot_str (da_cons (de_nm (pv 2)) da_nil)) (da_cons (de_tup da_nil) (da_cons (de_lst da_nil) (da_cons de_dic0 (da_cons (de_tup (da_cons (de_nm (pv 2)) da_nil)) (da_cons (de_lst (da_cons (de_nm (pv 2)) da_nil)) (da_cons (de_disp (DPs.cons (de_nm (pv 2)) (de_nm (pv 2)) DPs.nil) (by rfl) (by rfl) (by simp) (by simp)) (da_cons (de_tup (da_cons (de_nm (pv 2)) (da_cons (de_nm (pv 2)) da_nil))) (da_cons (de_c pe_str (fun _ => .str _)) da_nil)))))))))))))))) (dss_one (ds_ret (de_call (ok__law_pick T).any (hr.mono (show 2 ≤ _ by decide)) (by rfl) T.m__law_pick T.F__law_pick.kp T.b__law_pick takesG (da_cons (de_nm (pv 0)) (da_cons (de_op od_add (de_nm (pv 3)) (de_lst (da_cons (de_make (c := 0) T.M_Span (ok_Span___init__ T).any (hr.mono (show 5 ≤ _ by decide)) (by rfl) T.m_Span T.b_Span___init__ takesG (da_cons (de_nm (pv 2)) (da_cons (de_nm (pv 2)) da_nil))) (da_cons (de_cmeth T.cr_Net T.cm_Net_path (ok_Net_path T) (hr.mono (show 6 ≤ _ by decide)).r (by rfl) T.m_Net takesG (da_cons (de_c pe_int (fun _ => .int _)) (da_cons (de_c pe_int (fun _ => .int _)) da_nil))) (da_cons (de_lst (da_cons (de_c pe_str (fun _ => .str _)) da_nil)) (da_cons (de_tup (da_cons (de_tup da_nil) (da_cons (de_lst da_nil) da_nil))) da_nil)))))) da_nil)))))))), ?_⟩)
  obtain ⟨p, b, rfl, ⟨b0, b1⟩, hp, q⟩ := h
  simp only [sSeq, sAsg, gNm, sRet, sRetN, bD, xD, nmD, startD, sIf, DL.tB, DL.tNot, DL.tAnd, DL.tOr, eAnd, eOr, eNot, eIf, isB, sDrop, sNext, sPar, eTup, eLst, eCall, eCB, aNil, aCons, eFld, eFldM, eProp, eMeth, eMethK, eMake, eMakeK, eUn, sFldM, sRaise, addI, addS, addL, subI, negI, mulI, mulL, divI, modI, powI, eqI, neI, eqS, neS, lenL, lenT, lenC, absI, intI, strI, repX, dmI, it0, it1, itL0, itL1, itL2, itL3, itL4, itL5, itL6, itR, eStat, oNone, oSome, eSl, gTp2', gIx, eLstM, eApp, DL.rIn, DL.rNe, eFmt, eJs, eDic0, sNever, mx2, mn2, ltI, leI, gtI, geI, eChain, decide_eq_true_eq, List.map_cons, List.map_nil, List.length_cons, List.length_nil, Nat.reduceAdd, Nat.reduceSub, List.replicate_succ, List.replicate_zero, List.cons_append, List.nil_append, List.getElem?_cons_zero, List.getElem?_cons_succ, List.reverse_cons, List.reverse_nil, Option.some.injEq, exists_eq_left', List.set_cons_zero, List.set_cons_succ, if_true, if_false, Bool.false_eq_true, reduceIte, and_self, true_and, D.bl.injEq, D.ob.injEq, D.int.injEq, D.str.injEq, D.tup.injEq, exists_and_left, exists_eq_left, reduceCtorEq, and_true, lk_low, lk_high, exists_eq', and_self]
  refine ⟨p, 5, rfl, by decide, by decide, hp, fun i m1 i0 i1 s1 => ?_⟩
  (try dsimp only)
  rw [addI, subI]
  generalize hn : b + i - 2 = n
  have n0 : -(10 ^ 31) ≤ n ∧ n ≤ 10 ^ 31 := by omega
  have few : Few n := Sm.few (by unfold Sm; omega)
  refine ⟨p, 2, rfl, by decide, by decide, s1.pot, fun j m2 j0 j1 s2 => ?_⟩
  (try dsimp only)
  rw [eqI]
  have st := s1.trans s2
  refine ⟨_, rfl, ite2 (fun _ => q _ _ (th_int few n0) st) (fun _ => ?_)⟩
  rw [strI]
  refine ⟨few, Nat.zero_le _, Nat.zero_le _, smallN (by decide), smallN (by decide), ?_⟩
  simp only [eDisp, dPairs, keyD, mergeD, List.foldl_cons, List.foldl_nil, sSeq, sAsg, gNm, sRet, sRetN, bD, xD, nmD, startD, sIf, DL.tB, DL.tNot, DL.tAnd, DL.tOr, eAnd, eOr, eNot, eIf, isB, sDrop, sNext, sPar, eTup, eLst, eCall, eCB, aNil, aCons, eFld, eFldM, eProp, eMeth, eMethK, eMake, eMakeK, eUn, sFldM, sRaise, addI, addS, addL, subI, negI, mulI, mulL, divI, modI, powI, eqI, neI, eqS, neS, lenL, lenT, lenC, absI, intI, strI, repX, dmI, it0, it1, itL0, itL1, itL2, itL3, itL4, itL5, itL6, itR, eStat, oNone, oSome, eSl, gTp2', gIx, eLstM, eApp, DL.rIn, DL.rNe, eFmt, eJs, eDic0, sNever, mx2, mn2, ltI, leI, gtI, geI, eChain, decide_eq_true_eq, List.map_cons, List.map_nil, List.length_cons, List.length_nil, Nat.reduceAdd, Nat.reduceSub, List.replicate_succ, List.replicate_zero, List.cons_append, List.nil_append, List.getElem?_cons_zero, List.getElem?_cons_succ, List.reverse_cons, List.reverse_nil, Option.some.injEq, exists_eq_left', List.set_cons_zero, List.set_cons_succ, if_true, if_false, Bool.false_eq_true, reduceIte, and_self, true_and, D.bl.injEq, D.ob.injEq, D.int.injEq, D.str.injEq, D.tup.injEq, exists_and_left, exists_eq_left, reduceCtorEq, and_true, lk_low, lk_high, exists_eq', and_self]
  refine ⟨by decide, small2, smallN (by decide), mk_span (Int.le_refl n) ⟨smallN (by decide), rfl, smallN (by decide), smallN (by decide), smallN (by decide), smallN (by decide), smallN (by decide), smallN (by decide), p, _, rfl, by simp, by simp, st.pot, fun v m3 hv s3 => ?_⟩⟩
  refine q v m3 ?_ (st.trans s3)
  have sn : Sh 1901 (istr n) := Sh.istr few
  have ri : RO 0 1901 (.int n) := RO.int few
  have no : ∀ {v : D}, okV v → okX v → (∀ i, v ≠ .int i) → (∀ c ys, v ≠ .ob c ys) → Oks (shX v) → Th v := fun a b c d s => th_plain a b s c d
  simp only [List.mem_cons, List.not_mem_nil, or_false] at hv
  rcases hv with rfl | rfl | rfl | rfl | rfl | rfl | rfl | rfl | rfl | rfl | rfl | rfl | rfl | rfl | rfl | rfl | rfl | rfl
  · exact no True.intro (.inl (okR.of RO.non)) (fun _ z => by cases z) (fun _ _ z => by cases z) (oks_lit (by decide +kernel))
  · exact no True.intro (.inl (okR.of (RO.bl _))) (fun _ z => by cases z) (fun _ _ z => by cases z) (oks_lit (by decide +kernel))
  · exact no True.intro (.inl (okR.of (RO.bl _))) (fun _ z => by cases z) (fun _ _ z => by cases z) (oks_lit (by decide +kernel))
  · exact no True.intro (.inl (okR.of (RO.str (Sh.lit (n := 0) (by decide +kernel))))) (fun _ z => by cases z) (fun _ _ z => by cases z) (oks_lit (by decide +kernel))
  · exact no True.intro (.inl (okR.of (RO.str (Sh.lit (n := 1) (by decide +kernel))))) (fun _ z => by cases z) (fun _ _ z => by cases z) (oks_lit (by decide +kernel))
  · exact no True.intro (.inl (okR.of (RO.str sn))) (fun _ z => by cases z) (fun _ _ z => by cases z) (oks_repr (oks_istr n))
  · exact no True.intro (.inl (okR.of (RO.tup (k := 0) ROs.nil))) (fun _ z => by cases z) (fun _ _ z => by cases z) (oks_lit (by decide +kernel))
  · exact no True.intro (.inl (okR.of (RO.lst (k := 0) ROs.nil))) (fun _ z => by cases z) (fun _ _ z => by cases z) (oks_lit (by decide +kernel))
  · exact no True.intro (.inr ⟨[], rfl, rfl, by decide +kernel, by decide +kernel, by decide +kernel⟩) (fun _ z => by cases z) (fun _ _ z => by cases z) (oks_lit (by decide +kernel))
  · exact no True.intro (.inl (okR.of (RO.tup (ROs.cons ri ROs.nil)))) (fun _ z => by cases z) (fun _ _ z => by cases z) (oks_shown _ (by simp [pyD, pysD, pyX, PyData.canLay0, PyData.canLayAll0]))
  · exact no True.intro (.inl (okR.of (RO.lst (ROs.cons ri ROs.nil)))) (fun _ z => by cases z) (fun _ _ z => by cases z) (oks_shown _ (by simp [pyD, pysD, pyX, PyData.canLay0, PyData.canLayAll0]))
  · exact no True.intro (okX_dic1 few) (fun _ z => by cases z) (fun _ _ z => by cases z) (oks_dic1 n)
  · exact no True.intro (.inl (okR.of (RO.tup (ROs.cons ri (ROs.cons ri ROs.nil))))) (fun _ z => by cases z) (fun _ _ z => by cases z) (oks_shown _ (by simp [pyD, pysD, pyX, PyData.canLay0, PyData.canLayAll0]))
  · exact no True.intro (.inl (okR.of (RO.str (Sh.lit (n := 1) (by decide +kernel))))) (fun _ z => by cases z) (fun _ _ z => by cases z) (oks_lit (by decide +kernel))
  · exact th_span (Int.le_refl n) few few n0.1 n0.2
  · exact ⟨okV_net, ⟨_, .net⟩, (fun _ z => by cases z), fun _ _ z => by cases z⟩
  · exact no True.intro (.inl (okR.of (RO.lst (ROs.cons (RO.str (Sh.lit (n := 1) (by decide +kernel))) ROs.nil)))) (fun _ z => by cases z) (fun _ _ z => by cases z) (oks_lit (by decide +kernel))
  · exact no True.intro (.inl (okR.of (RO.tup (ROs.cons (RO.tup (k := 0) ROs.nil) (ROs.cons (RO.lst (k := 0) ROs.nil) ROs.nil))))) (fun _ z => by cases z) (fun _ _ z => by cases z) (oks_lit (by decide +kernel))
theorem ok__law_whole (T : Tx K mg base a d) : FnG false true P w K mg base 13 a.f__law_whole d.f__law_whole ["_law_thing_here"] (spL (G a) s_whole) := by
  refine fn_okG T.F__law_whole sc__law_whole (fun _ _ _ _ ⟨_, e, _⟩ => len1 e) (fun cdv A outer s H E xs m Q x hr h => ⟨_, (dss_one (ds_ret (de_and (de_callB cd_isi (by rfl) T.z_isinstance boot_isinstance (da_cons (de_nm (pv 0)) (da_cons (de_c (pe_bltn (v := .ty _) (by rfl) T.z_int boot_int rfl) (fun _ => .ty _)) da_nil))) (de_one (de_cmp od_notin (de_callB (cd_anyr T (hr.mono (show 12 ≤ _ by decide))) (by rfl) T.z_repr boot_repr (da_cons (de_nm (pv 0)) da_nil)) (de_tup (da_cons (de_c pe_str (fun _ => .str _)) (da_cons (de_c pe_str (fun _ => .str _)) da_nil))) (by with_unfolding_all rfl)))))), ?_⟩)
  obtain ⟨v, rfl, ok, q⟩ := h
  simp only [sSeq, sAsg, gNm, sRet, sRetN, bD, xD, nmD, startD, sIf, DL.tB, DL.tNot, DL.tAnd, DL.tOr, eAnd, eOr, eNot, eIf, isB, sDrop, sNext, sPar, eTup, eLst, eCall, eCB, aNil, aCons, eFld, eFldM, eProp, eMeth, eMethK, eMake, eMakeK, eUn, sFldM, sRaise, addI, addS, addL, subI, negI, mulI, mulL, divI, modI, powI, eqI, neI, eqS, neS, lenL, lenT, lenC, absI, intI, strI, repX, dmI, it0, it1, itL0, itL1, itL2, itL3, itL4, itL5, itL6, itR, eStat, oNone, oSome, eSl, gTp2', gIx, eLstM, eApp, DL.rIn, DL.rNe, eFmt, eJs, eDic0, sNever, mx2, mn2, ltI, leI, gtI, geI, eChain, decide_eq_true_eq, List.map_cons, List.map_nil, List.length_cons, List.length_nil, Nat.reduceAdd, Nat.reduceSub, List.replicate_succ, List.replicate_zero, List.cons_append, List.nil_append, List.getElem?_cons_zero, List.getElem?_cons_succ, List.reverse_cons, List.reverse_nil, Option.some.injEq, exists_eq_left', List.set_cons_zero, List.set_cons_succ, if_true, if_false, Bool.false_eq_true, reduceIte, and_self, true_and, D.bl.injEq, D.ob.injEq, D.int.injEq, D.str.injEq, D.tup.injEq, exists_and_left, exists_eq_left, reduceCtorEq, and_true, lk_low, lk_high, exists_eq', and_self]
  refine isi_int T ok.1 ⟨_, rfl, ?_⟩
  obtain ⟨t, say⟩ := ok.2.1
  cases v with
  | int i =>
    cases say with
    | plain h h' =>
      have e : shX (.int i) = istr i := by simp only [shX, pyX, pyD, PyData.shown]; rfl
      have n1 : (("True" : Str) == istr i) = false := str_off (istr_ne i 84 (by decide +kernel) (by decide))
      have n2 : (("False" : Str) == istr i) = false := str_off (istr_ne i 70 (by decide +kernel) (by decide))
      refine iteT ⟨_, _, rfl, .plain h h', small2, ⟨rfl, rfl⟩, _, rfl, ?_⟩
      rw [e]
      show Q (.bl (!((("True" : Str) == istr i) || ((("False" : Str) == istr i) || false)))) m
      rw [n1, n2]
      exact q
  | bl b =>
    cases say with
    | plain h h' =>
      refine iteT ⟨_, _, rfl, .plain h h', small2, ⟨rfl, rfl⟩, _, rfl, ?_⟩
      have e : inXs (.str (shX (.bl b))) [.str "True", .str "False"] = true := by cases b <;> (simp only [shX, pyX, pyD, PyData.shown]; decide +kernel)
      rw [e]
      exact q
  | _ => exact iteF q
def TTold (tl : TL) (m : M) (Q : DK) : Prop := ∀ (E1 : DX) (Q1 : DK), (∀ v t m1, Say v t → Q (.lst [.str "made", .str t]) m1 → Q1 v m1) → (∀ c xs m1, errT Q c xs m1 → E1 c xs m1) → tl E1 m Q1
theorem gives_law_told {X : Cx} {k : Nat} (T : Tx X.K X.mg X.base a d) (hk : 13 ≤ k) : GivesD X (G a) true k N__law_told "_law_told" (defScope s__law_told) a.f__law_told (defBody s__law_told) "_law_call" TTold := by
  intro cdg s H lam tl m Q hr0 act h
  have hr := hr0.mono hk
  refine ⟨_, (dss_cons (ds_set (i := 1) (ps_set (i := 1) sc__law_told.nd rfl (Or.inl rfl)) (de_lst (da_cons (de_c pe_str (fun _ => .str _)) da_nil))) (dss_cons (ds_try_all rfl rfl sc__law_told.nd takesG (fun W pn xe tkb pob => (dss_one (ds_set (i := 1) (ps_set (i := 1) sc__law_told.nd rfl (Or.inl rfl)) (de_lst (da_cons (de_c pe_str (fun _ => .str _)) (da_cons (de_callB (cd_anyr T (hr.mono (show 12 ≤ _ by decide))) (by rfl) T.z_repr boot_repr (da_cons (act pn xe _ _ _ tkb) da_nil)) da_nil)))))) (DClauses.cons (cv := .ref a.InvalidLevel) (i := 2) (.intro (by rfl) (.intro (by decide) (.inl T.m_InvalidLevel))) rfl rfl (fun ea oe cls dd pn hz hfv => (dss_one (ds_set (i := 1) (ps_set (i := 1) sc__law_told.nd rfl (Or.inl rfl)) (de_lst (da_cons (de_c pe_str (fun _ => .str _)) (da_cons (de_callB (cd_anyr T (hr.suite.mono (show 12 ≤ _ by decide))) (by rfl) T.z_repr boot_repr (da_cons (de_xf (c := 1) T.x_InvalidLevel T.n_InvalidLevel_value hz hfv (de_nm (pv 2))) da_nil)) (da_cons (de_callB (cd_isx (c := 1) T.q_InvalidLevel hz hfv) (by rfl) T.z_isinstance boot_isinstance (da_cons (de_nm (pv 2)) (da_cons (de_c (pe_glob (v := .ref _) (by rfl) T.m_AbreastError rfl) (fun _ => .ref _)) da_nil))) da_nil))))))) (DClauses.cons (cv := .ref a.InvalidSpan) (i := 2) (.intro (by rfl) (.intro (by decide) (.inl T.m_InvalidSpan))) rfl rfl (fun ea oe cls dd pn hz hfv => (dss_one (ds_set (i := 1) (ps_set (i := 1) sc__law_told.nd rfl (Or.inl rfl)) (de_lst (da_cons (de_c pe_str (fun _ => .str _)) (da_cons (de_callB (cd_anyr T (hr.suite.mono (show 12 ≤ _ by decide))) (by rfl) T.z_repr boot_repr (da_cons (de_xf (c := 2) T.x_InvalidSpan T.n_InvalidSpan_value hz hfv (de_nm (pv 2))) da_nil)) (da_cons (de_callB (cd_isx (c := 2) T.q_InvalidSpan hz hfv) (by rfl) T.z_isinstance boot_isinstance (da_cons (de_nm (pv 2)) (da_cons (de_c (pe_glob (v := .ref _) (by rfl) T.m_AbreastError rfl) (fun _ => .ref _)) da_nil))) da_nil))))))) (DClauses.cons (cv := .ref a.EmptySpan) (i := 2) (.intro (by rfl) (.intro (by decide) (.inl T.m_EmptySpan))) rfl rfl (fun ea oe cls dd pn hz hfv => (dss_one (ds_set (i := 1) (ps_set (i := 1) sc__law_told.nd rfl (Or.inl rfl)) (de_lst (da_cons (de_c pe_str (fun _ => .str _)) (da_cons (de_callB (cd_anyr T (hr.suite.mono (show 12 ≤ _ by decide))) (by rfl) T.z_repr boot_repr (da_cons (de_tup (da_cons (de_xf (c := 3) T.x_EmptySpan T.n_EmptySpan_least hz hfv (de_nm (pv 2))) (da_cons (de_xf (c := 3) T.x_EmptySpan T.n_EmptySpan_greatest hz hfv (de_nm (pv 2))) da_nil))) da_nil)) (da_cons (de_callB (cd_isx (c := 3) T.q_EmptySpan hz hfv) (by rfl) T.z_isinstance boot_isinstance (da_cons (de_nm (pv 2)) (da_cons (de_c (pe_glob (v := .ref _) (by rfl) T.m_AbreastError rfl) (fun _ => .ref _)) da_nil))) da_nil))))))) (DClauses.cons (cv := .ref a.Apart) (i := 2) (.intro (by rfl) (.intro (by decide) (.inl T.m_Apart))) rfl rfl (fun ea oe cls dd pn hz hfv => (dss_cons (ds_set (i := 3) (ps_set (i := 3) sc__law_told.nd rfl (Or.inl rfl)) (de_and (de_callB (cd_isx (c := 4) T.q_Apart hz hfv) (by rfl) T.z_isinstance boot_isinstance (da_cons (de_nm (pv 2)) (da_cons (de_c (pe_glob (v := .ref _) (by rfl) T.m_StateError rfl) (fun _ => .ref _)) da_nil))) (de_one (de_not (de_callB (cd_isx (c := 4) T.q_Apart hz hfv) (by rfl) T.z_isinstance boot_isinstance (da_cons (de_nm (pv 2)) (da_cons (de_tup (da_cons (de_c (pe_glob (v := .ref _) (by rfl) T.m_AbreastError rfl) (fun _ => .ref _)) (da_cons (de_c (pe_glob (v := .ref _) (by rfl) T.m_MissingError rfl) (fun _ => .ref _)) (da_cons (de_c (pe_glob (v := .ref _) (by rfl) T.m_LimitError rfl) (fun _ => .ref _)) da_nil)))) da_nil))))))) (dss_one (ds_set (i := 1) (ps_set (i := 1) sc__law_told.nd rfl (Or.inl rfl)) (de_lst (da_cons (de_c pe_str (fun _ => .str _)) (da_cons (de_callB (cd_anyr T (hr.suite.mono (show 12 ≤ _ by decide))) (by rfl) T.z_repr boot_repr (da_cons (de_tup (da_cons (de_xf (c := 4) T.x_Apart T.n_Apart_one hz hfv (de_nm (pv 2))) (da_cons (de_xf (c := 4) T.x_Apart T.n_Apart_other hz hfv (de_nm (pv 2))) da_nil))) da_nil)) (da_cons (de_nm (pv 3)) da_nil)))))))) DClauses.nil))))) (dss_one (ds_ret (de_nm (pv 1)))))), ?_⟩
  simp only [sSeq, sAsg, gNm, sRet, sRetN, bD, xD, nmD, startD, sIf, DL.tB, DL.tNot, DL.tAnd, DL.tOr, eAnd, eOr, eNot, eIf, isB, sDrop, sNext, sPar, eTup, eLst, eCall, eCB, aNil, aCons, eFld, eFldM, eProp, eMeth, eMethK, eMake, eMakeK, eUn, sFldM, sRaise, addI, addS, addL, subI, negI, mulI, mulL, divI, modI, powI, eqI, neI, eqS, neS, lenL, lenT, lenC, absI, intI, strI, repX, dmI, it0, it1, itL0, itL1, itL2, itL3, itL4, itL5, itL6, itR, eStat, oNone, oSome, eSl, gTp2', gIx, eLstM, eApp, DL.rIn, DL.rNe, eFmt, eJs, eDic0, sNever, mx2, mn2, ltI, leI, gtI, geI, eChain, decide_eq_true_eq, List.map_cons, List.map_nil, List.length_cons, List.length_nil, Nat.reduceAdd, Nat.reduceSub, List.replicate_succ, List.replicate_zero, List.cons_append, List.nil_append, List.getElem?_cons_zero, List.getElem?_cons_succ, List.reverse_cons, List.reverse_nil, Option.some.injEq, exists_eq_left', List.set_cons_zero, List.set_cons_succ, if_true, if_false, Bool.false_eq_true, reduceIte, and_self, true_and, D.bl.injEq, D.ob.injEq, D.int.injEq, D.str.injEq, D.tup.injEq, exists_and_left, exists_eq_left, reduceCtorEq, and_true, lk_low, lk_high, exists_eq', and_self]
  refine ⟨smallN (by decide), ?_⟩
  show sTryAll (G a) X.K _ _ _ [some lam, some (D.lst [D.str "other"]), none, none] m
  unfold sTryAll
  simp only [sSeq, sAsg, gNm, sRet, sRetN, bD, xD, nmD, startD, sIf, DL.tB, DL.tNot, DL.tAnd, DL.tOr, eAnd, eOr, eNot, eIf, isB, sDrop, sNext, sPar, eTup, eLst, eCall, eCB, aNil, aCons, eFld, eFldM, eProp, eMeth, eMethK, eMake, eMakeK, eUn, sFldM, sRaise, addI, addS, addL, subI, negI, mulI, mulL, divI, modI, powI, eqI, neI, eqS, neS, lenL, lenT, lenC, absI, intI, strI, repX, dmI, it0, it1, itL0, itL1, itL2, itL3, itL4, itL5, itL6, itR, eStat, oNone, oSome, eSl, gTp2', gIx, eLstM, eApp, DL.rIn, DL.rNe, eFmt, eJs, eDic0, sNever, mx2, mn2, ltI, leI, gtI, geI, eChain, decide_eq_true_eq, List.map_cons, List.map_nil, List.length_cons, List.length_nil, Nat.reduceAdd, Nat.reduceSub, List.replicate_succ, List.replicate_zero, List.cons_append, List.nil_append, List.getElem?_cons_zero, List.getElem?_cons_succ, List.reverse_cons, List.reverse_nil, Option.some.injEq, exists_eq_left', List.set_cons_zero, List.set_cons_succ, if_true, if_false, Bool.false_eq_true, reduceIte, and_self, true_and, D.bl.injEq, D.ob.injEq, D.int.injEq, D.str.injEq, D.tup.injEq, exists_and_left, exists_eq_left, reduceCtorEq, and_true, lk_low, lk_high, exists_eq', and_self]
  refine h _ _ (fun v t m1 say q => ⟨v, t, rfl, say, small2, q⟩) (fun c xs m1 er => ?_)
  rcases er with ⟨rfl, v, t, rfl, say, q⟩ | ⟨rfl, v, t, rfl, say, q⟩ | ⟨rfl, u, v, t, rfl, say, q⟩ | ⟨rfl, u, v, t, rfl, say, q⟩
  · refine ⟨true, T.ex_InvalidLevel_InvalidLevel, fun _ => ⟨by simp [G], fun ea dd => ?_⟩, fun z => nomatch z⟩
    simp only [eXf, isxD, forgets, sSeq, sAsg, gNm, sRet, sRetN, bD, xD, nmD, startD, sIf, DL.tB, DL.tNot, DL.tAnd, DL.tOr, eAnd, eOr, eNot, eIf, isB, sDrop, sNext, sPar, eTup, eLst, eCall, eCB, aNil, aCons, eFld, eFldM, eProp, eMeth, eMethK, eMake, eMakeK, eUn, sFldM, sRaise, addI, addS, addL, subI, negI, mulI, mulL, divI, modI, powI, eqI, neI, eqS, neS, lenL, lenT, lenC, absI, intI, strI, repX, dmI, it0, it1, itL0, itL1, itL2, itL3, itL4, itL5, itL6, itR, eStat, oNone, oSome, eSl, gTp2', gIx, eLstM, eApp, DL.rIn, DL.rNe, eFmt, eJs, eDic0, sNever, mx2, mn2, ltI, leI, gtI, geI, eChain, decide_eq_true_eq, List.map_cons, List.map_nil, List.length_cons, List.length_nil, Nat.reduceAdd, Nat.reduceSub, List.replicate_succ, List.replicate_zero, List.cons_append, List.nil_append, List.getElem?_cons_zero, List.getElem?_cons_succ, List.reverse_cons, List.reverse_nil, Option.some.injEq, exists_eq_left', List.set_cons_zero, List.set_cons_succ, if_true, if_false, Bool.false_eq_true, reduceIte, and_self, true_and, D.bl.injEq, D.ob.injEq, D.int.injEq, D.str.injEq, D.tup.injEq, exists_and_left, exists_eq_left, reduceCtorEq, and_true, lk_low, lk_high, exists_eq', and_self]
    exact ⟨_, rfl, v, rfl, v, t, rfl, say, _, _, rfl, true, .inl ⟨_, rfl, T.ke_InvalidLevel_AbreastError⟩, smallN (by decide), q⟩
  · refine ⟨false, T.ex_InvalidSpan_InvalidLevel, (fun z => nomatch z), fun _ => ⟨true, T.ex_InvalidSpan_InvalidSpan, fun _ => ⟨by simp [G], fun ea dd => ?_⟩, fun z => nomatch z⟩⟩
    simp only [eXf, isxD, forgets, sSeq, sAsg, gNm, sRet, sRetN, bD, xD, nmD, startD, sIf, DL.tB, DL.tNot, DL.tAnd, DL.tOr, eAnd, eOr, eNot, eIf, isB, sDrop, sNext, sPar, eTup, eLst, eCall, eCB, aNil, aCons, eFld, eFldM, eProp, eMeth, eMethK, eMake, eMakeK, eUn, sFldM, sRaise, addI, addS, addL, subI, negI, mulI, mulL, divI, modI, powI, eqI, neI, eqS, neS, lenL, lenT, lenC, absI, intI, strI, repX, dmI, it0, it1, itL0, itL1, itL2, itL3, itL4, itL5, itL6, itR, eStat, oNone, oSome, eSl, gTp2', gIx, eLstM, eApp, DL.rIn, DL.rNe, eFmt, eJs, eDic0, sNever, mx2, mn2, ltI, leI, gtI, geI, eChain, decide_eq_true_eq, List.map_cons, List.map_nil, List.length_cons, List.length_nil, Nat.reduceAdd, Nat.reduceSub, List.replicate_succ, List.replicate_zero, List.cons_append, List.nil_append, List.getElem?_cons_zero, List.getElem?_cons_succ, List.reverse_cons, List.reverse_nil, Option.some.injEq, exists_eq_left', List.set_cons_zero, List.set_cons_succ, if_true, if_false, Bool.false_eq_true, reduceIte, and_self, true_and, D.bl.injEq, D.ob.injEq, D.int.injEq, D.str.injEq, D.tup.injEq, exists_and_left, exists_eq_left, reduceCtorEq, and_true, lk_low, lk_high, exists_eq', and_self]
    exact ⟨_, rfl, v, rfl, v, t, rfl, say, _, _, rfl, true, .inl ⟨_, rfl, T.ke_InvalidSpan_AbreastError⟩, smallN (by decide), q⟩
  · refine ⟨false, T.ex_EmptySpan_InvalidLevel, (fun z => nomatch z), fun _ => ⟨false, T.ex_EmptySpan_InvalidSpan, (fun z => nomatch z), fun _ => ⟨true, T.ex_EmptySpan_EmptySpan, fun _ => ⟨by simp [G], fun ea dd => ?_⟩, fun z => nomatch z⟩⟩⟩
    simp only [eXf, isxD, forgets, sSeq, sAsg, gNm, sRet, sRetN, bD, xD, nmD, startD, sIf, DL.tB, DL.tNot, DL.tAnd, DL.tOr, eAnd, eOr, eNot, eIf, isB, sDrop, sNext, sPar, eTup, eLst, eCall, eCB, aNil, aCons, eFld, eFldM, eProp, eMeth, eMethK, eMake, eMakeK, eUn, sFldM, sRaise, addI, addS, addL, subI, negI, mulI, mulL, divI, modI, powI, eqI, neI, eqS, neS, lenL, lenT, lenC, absI, intI, strI, repX, dmI, it0, it1, itL0, itL1, itL2, itL3, itL4, itL5, itL6, itR, eStat, oNone, oSome, eSl, gTp2', gIx, eLstM, eApp, DL.rIn, DL.rNe, eFmt, eJs, eDic0, sNever, mx2, mn2, ltI, leI, gtI, geI, eChain, decide_eq_true_eq, List.map_cons, List.map_nil, List.length_cons, List.length_nil, Nat.reduceAdd, Nat.reduceSub, List.replicate_succ, List.replicate_zero, List.cons_append, List.nil_append, List.getElem?_cons_zero, List.getElem?_cons_succ, List.reverse_cons, List.reverse_nil, Option.some.injEq, exists_eq_left', List.set_cons_zero, List.set_cons_succ, if_true, if_false, Bool.false_eq_true, reduceIte, and_self, true_and, D.bl.injEq, D.ob.injEq, D.int.injEq, D.str.injEq, D.tup.injEq, exists_and_left, exists_eq_left, reduceCtorEq, and_true, lk_low, lk_high, exists_eq', and_self]
    exact ⟨_, rfl, u, rfl, _, rfl, v, rfl, small2, _, t, rfl, say, _, _, rfl, true, .inl ⟨_, rfl, T.ke_EmptySpan_AbreastError⟩, smallN (by decide), q⟩
  · refine ⟨false, T.ex_Apart_InvalidLevel, (fun z => nomatch z), fun _ => ⟨false, T.ex_Apart_InvalidSpan, (fun z => nomatch z), fun _ => ⟨false, T.ex_Apart_EmptySpan, (fun z => nomatch z), fun _ => ⟨true, T.ex_Apart_Apart, fun _ => ⟨by simp [G], fun ea dd => ?_⟩, fun z => nomatch z⟩⟩⟩⟩
    simp only [eXf, isxD, forgets, sSeq, sAsg, gNm, sRet, sRetN, bD, xD, nmD, startD, sIf, DL.tB, DL.tNot, DL.tAnd, DL.tOr, eAnd, eOr, eNot, eIf, isB, sDrop, sNext, sPar, eTup, eLst, eCall, eCB, aNil, aCons, eFld, eFldM, eProp, eMeth, eMethK, eMake, eMakeK, eUn, sFldM, sRaise, addI, addS, addL, subI, negI, mulI, mulL, divI, modI, powI, eqI, neI, eqS, neS, lenL, lenT, lenC, absI, intI, strI, repX, dmI, it0, it1, itL0, itL1, itL2, itL3, itL4, itL5, itL6, itR, eStat, oNone, oSome, eSl, gTp2', gIx, eLstM, eApp, DL.rIn, DL.rNe, eFmt, eJs, eDic0, sNever, mx2, mn2, ltI, leI, gtI, geI, eChain, decide_eq_true_eq, List.map_cons, List.map_nil, List.length_cons, List.length_nil, Nat.reduceAdd, Nat.reduceSub, List.replicate_succ, List.replicate_zero, List.cons_append, List.nil_append, List.getElem?_cons_zero, List.getElem?_cons_succ, List.reverse_cons, List.reverse_nil, Option.some.injEq, exists_eq_left', List.set_cons_zero, List.set_cons_succ, if_true, if_false, Bool.false_eq_true, reduceIte, and_self, true_and, D.bl.injEq, D.ob.injEq, D.int.injEq, D.str.injEq, D.tup.injEq, exists_and_left, exists_eq_left, reduceCtorEq, and_true, lk_low, lk_high, exists_eq', and_self]
    have none_ : PySem.W.kitAny X.K (.ref a.Apart) [.ref a.AbreastError, .ref a.MissingError, .ref a.LimitError] = some false := kitA_cons T.ke_Apart_AbreastError (kitA_cons T.ke_Apart_MissingError (kitA_cons T.ke_Apart_LimitError kitA_nil))
    refine ⟨_, _, rfl, true, .inl ⟨_, rfl, T.ke_Apart_StateError⟩, iteT ⟨smallN (by decide), _, _, rfl, false, .inr ⟨_, rfl, [.ref a.AbreastError, .ref a.MissingError, .ref a.LimitError], rfl, none_⟩, _, rfl, u, rfl, _, rfl, v, rfl, small2, _, t, rfl, say, ?_⟩⟩
    first | exact q | exact ⟨smallN (by decide), q⟩ | exact ⟨_, rfl, smallN (by decide), q⟩

theorem ints_inj : ∀ {ns ms : List Int}, ns.map D.int = ms.map D.int → ns = ms
  | [], [], _ => rfl
  | n :: ns, k :: ms, h => by
    obtain ⟨h1, h2⟩ := List.cons.inj h
    cases h1
    rw [ints_inj h2]
theorem TTold.imp {tl tl' : TL} {m : M} {Q : DK} (h : TTold tl m Q) (i : ∀ E1 Q1, tl E1 m Q1 → tl' E1 m Q1) : TTold tl' m Q := fun E1 Q1 a b => i _ _ (h E1 Q1 a b)
theorem none_text : shX (.tup [.non, .non]) = ("(None, None)" : Str) := by decide +kernel
theorem told_around {vs : List D} {due : D} {m : M} {Q : DK} (hd : dueAr vs due) (th : ∀ v ∈ vs, Th v) (len : vs.length ≤ 7) (q : Q due m) : TTold (fun x' m' Q' => s_around vs m' Q' x') m Q := by
  intro E1 Q1 hQ hE
  refine ⟨fun v m => (th v m).1, by omega, fun v found => ?_, fun e => ?_, fun ns e ne => ?_⟩
  · rcases hd with ⟨o, t, f, say, rfl⟩ | ⟨rfl, _⟩ | ⟨ns, rfl, _⟩
    · rw [found] at f
      cases f
      exact hE _ _ _ (.inl ⟨rfl, v, t, rfl, say, q⟩)
    · cases found
    · obtain ⟨i, _, rfl⟩ := List.mem_map.mp (List.mem_of_find?_eq_some found)
      have := List.find?_some found
      cases this
  · subst e
    rcases hd with ⟨o, t, f, _⟩ | ⟨_, rfl⟩ | ⟨ns, e, ne, _⟩
    · cases f
    · refine hE _ _ _ (.inr (.inr (.inl ⟨rfl, _, _, _, rfl, .plain (.inl (okR.of (RO.tup (ROs.cons RO.non (ROs.cons RO.non ROs.nil))))) (oks_lit (by decide +kernel)), ?_⟩)))
      rw [none_text]
      exact q
    · exact absurd (List.map_eq_nil_iff.mp e.symm) ne
  · subst e
    rcases hd with ⟨o, t, f, _⟩ | ⟨e, _⟩ | ⟨ns', e, _, f1, f2, rfl⟩
    · obtain ⟨i, _, rfl⟩ := List.mem_map.mp (List.mem_of_find?_eq_some f)
      have := List.find?_some f
      cases this
    · exact absurd (List.map_eq_nil_iff.mp e) ne
    · have same : ns = ns' := ints_inj e
      subst same
      exact hQ _ _ _ (.span f1 f2) q
theorem told_due {u v d : D} {m : M} {Q : DK} (tu : Th u) (tv : Th v) (h : dueIs u v d) (q : Q d m) : TTold (fun x' m' Q' => mkD 0 ((G a) 0).flds s_init [u, v] m' Q' x') m Q := by
  intro E1 Q1 hQ hE
  refine mk_any tu.1 tv.1 (fun e => ?_) (fun e1 e2 => ?_) (fun l k e1 e2 => ⟨fun c => ?_, fun c => ?_⟩)
  · rcases h with ⟨_, t, say, rfl⟩ | ⟨e', _⟩ | ⟨l, k, rfl, _⟩
    · exact hE _ _ _ (.inl ⟨rfl, u, t, rfl, say, q⟩)
    · rw [e] at e'; cases e'
    · cases e
  · rcases h with ⟨e', _⟩ | ⟨_, _, t, say, rfl⟩ | ⟨l, k, _, rfl, _⟩
    · rw [e1] at e'; cases e'
    · exact hE _ _ _ (.inl ⟨rfl, v, t, rfl, say, q⟩)
    · cases e2
  · subst e1; subst e2
    rcases h with ⟨e', _⟩ | ⟨_, e', _⟩ | ⟨l', k', e1, e2, h⟩
    · cases e'
    · cases e'
    · cases e1; cases e2
      rcases h with ⟨_, t, say, rfl⟩ | ⟨c', _⟩
      · exact hE _ _ _ (.inr (.inr (.inl ⟨rfl, _, _, t, rfl, say, q⟩)))
      · omega
  · subst e1; subst e2
    rcases h with ⟨e', _⟩ | ⟨_, e', _⟩ | ⟨l', k', e1, e2, h⟩
    · cases e'
    · cases e'
    · cases e1; cases e2
      rcases h with ⟨c', _⟩ | ⟨_, f1, f2, rfl⟩
      · omega
      · exact hQ _ _ _ (.span f1 f2) q
theorem told_int {f : Int → Int → Int → D} {l h : Int} {v d : D} {m : M} {Q : DK} (le : l ≤ h) (ok : okV v) (bad : isI v = false → ∃ t, Say v t ∧ d = lvl t) (good : ∀ n, v = .int n → ∃ l' h', f l h n = spv l' h' ∧ Few l' ∧ Few h' ∧ d = mde (repS l' h')) (q : Q d m) :
    TTold (fun x' m' Q' => s_int f [spv l h, v] m' Q' x') m Q := by
  intro E1 Q1 hQ hE
  refine ⟨l, h, v, rfl, le, ok, fun e => ?_, fun n e => ?_⟩
  · obtain ⟨t, say, rfl⟩ := bad e
    exact hE _ _ _ (.inl ⟨rfl, v, t, rfl, say, q⟩)
  · obtain ⟨l', h', e', f1, f2, rfl⟩ := good n e
    rw [e']
    exact hQ _ _ _ (.span f1 f2) q
theorem told_two {f : Int → Int → Int → Int → D} {l h : Int} {v d : D} {m : M} {Q : DK} (le : l ≤ h) (ok : okV v) (bad : isO 0 v = false → ∃ t, Say v t ∧ d = spn t) (good : ∀ l2 h2, v = spv l2 h2 → ∃ t, Say (f l h l2 h2) t ∧ d = mde t) (q : Q d m) :
    TTold (fun x' m' Q' => s_two f [spv l h, v] m' Q' x') m Q := by
  intro E1 Q1 hQ hE
  refine ⟨l, h, v, rfl, le, ok, fun e => ?_, fun l2 h2 e _ => ?_⟩
  · obtain ⟨t, say, rfl⟩ := bad e
    exact hE _ _ _ (.inr (.inl ⟨rfl, v, t, rfl, say, q⟩))
  · obtain ⟨t, say, rfl⟩ := good l2 h2 e
    exact hQ _ _ _ say q
theorem told_and {l h : Int} {v d : D} {m : M} {Q : DK} (le : l ≤ h) (ok : okV v) (bad : isO 0 v = false → ∃ t, Say v t ∧ d = spn t)
    (good : ∀ l2 h2, v = spv l2 h2 → (aprt l h l2 h2 → ∃ t, Say (.tup [spv l h, spv l2 h2]) t ∧ d = .lst [.str "apart", .str t, .bl true]) ∧ (¬ aprt l h l2 h2 → Few (max l l2) ∧ Few (min h h2) ∧ d = mde (repS (max l l2) (min h h2)))) (q : Q d m) :
    TTold (fun x' m' Q' => s_and [spv l h, v] m' Q' x') m Q := by
  intro E1 Q1 hQ hE
  refine ⟨l, h, v, rfl, le, ok, fun e => ?_, fun l2 h2 e _ => ?_⟩
  · obtain ⟨t, say, rfl⟩ := bad e
    exact hE _ _ _ (.inr (.inl ⟨rfl, v, t, rfl, say, q⟩))
  · obtain ⟨g1, g2⟩ := good l2 h2 e
    by_cases c : aprt l h l2 h2
    · rw [if_pos c]
      obtain ⟨t, say, rfl⟩ := g1 c
      exact hE _ _ _ (.inr (.inr (.inr ⟨rfl, _, _, t, rfl, say, q⟩)))
    · rw [if_neg c]
      obtain ⟨f1, f2, rfl⟩ := g2 c
      exact hQ _ _ _ (.span f1 f2) q

theorem ok__law_shown (T : Tx K mg base a d) : FnG false false P w K mg base 1 a.f__law_shown d.f__law_shown ["_law_least", "_law_most"] (spL (G a) s_shown) := by
  refine fn_okG T.F__law_shown sc__law_shown (fun _ _ _ _ ⟨_, _, e, _⟩ => len2 e) (fun cdv A outer s H E xs m Q x hr h => ⟨_, (dss_one (ds_ret (de_op od_add (de_op od_add (de_op od_add (de_op od_add (de_c pe_str (fun _ => .str _)) (de_callTy (cd_str) (by rfl) T.z_str boot_str (da_cons (de_nm (pv 0)) da_nil))) (de_c pe_str (fun _ => .str _))) (de_callTy (cd_str) (by rfl) T.z_str boot_str (da_cons (de_nm (pv 1)) da_nil))) (de_c pe_str (fun _ => .str _))))), ?_⟩)
  obtain ⟨l, h, rfl, f1, f2, q⟩ := h
  simp only [sSeq, sAsg, gNm, sRet, sRetN, bD, xD, nmD, startD, sIf, DL.tB, DL.tNot, DL.tAnd, DL.tOr, eAnd, eOr, eNot, eIf, isB, sDrop, sNext, sPar, eTup, eLst, eCall, eCB, aNil, aCons, eFld, eFldM, eProp, eMeth, eMethK, eMake, eMakeK, eUn, sFldM, sRaise, addI, addS, addL, subI, negI, mulI, mulL, divI, modI, powI, eqI, neI, eqS, neS, lenL, lenT, lenC, absI, intI, strI, repX, dmI, it0, it1, itL0, itL1, itL2, itL3, itL4, itL5, itL6, itR, eStat, oNone, oSome, eSl, gTp2', gIx, eLstM, eApp, DL.rIn, DL.rNe, eFmt, eJs, eDic0, sNever, mx2, mn2, ltI, leI, gtI, geI, eChain, decide_eq_true_eq, List.map_cons, List.map_nil, List.length_cons, List.length_nil, Nat.reduceAdd, Nat.reduceSub, List.replicate_succ, List.replicate_zero, List.cons_append, List.nil_append, List.getElem?_cons_zero, List.getElem?_cons_succ, List.reverse_cons, List.reverse_nil, Option.some.injEq, exists_eq_left', List.set_cons_zero, List.set_cons_succ, if_true, if_false, Bool.false_eq_true, reduceIte, and_self, true_and, D.bl.injEq, D.ob.injEq, D.int.injEq, D.str.injEq, D.tup.injEq, exists_and_left, exists_eq_left, reduceCtorEq, and_true, lk_low, lk_high, exists_eq', and_self]
  have p1 := Sh.lit (n := 5) (x := "Span(") (by decide +kernel)
  have p2 := Sh.lit (n := 2) (x := ", ") (by decide +kernel)
  have p3 := Sh.lit (n := 1) (x := ")") (by decide +kernel)
  have s1 := p1.app (Sh.istr f1)
  have s2 := s1.app p2
  have s3 := s2.app (Sh.istr f2)
  have s4 := s3.app p3
  exact ⟨f1, fits2 s1 (by decide), fits2 s2 (by decide), f2, fits2 s3 (by decide), fits2 s4 (by decide), q⟩
theorem ok__law_due_span (T : Tx K mg base a d) : FnG false true P w K mg base 14 a.f__law_due_span d.f__law_due_span ["_law_this", "_law_mate"] (spL (G a) s_due) := by
  refine fn_okG T.F__law_due_span sc__law_due_span (fun _ _ _ _ ⟨_, _, e, _⟩ => len2 e) (fun cdv A outer s H E xs m Q x hr h => ⟨_, (dss_cons (ds_for passesG rfl (di_tup (de_tup (da_cons (de_nm (pv 0)) (da_cons (de_nm (pv 1)) da_nil)))) (dg_name (pg_name (i := 2) sc__law_due_span.nd rfl (Or.inl rfl))) (dss_one (ds_if (dt_not (dt_val (de_call (ok__law_whole T) (hr.mono (show 13 ≤ _ by decide)) (by rfl) T.m__law_whole T.F__law_whole.kp T.b__law_whole takesG (da_cons (de_nm (pv 2)) da_nil)))) (dss_one (ds_ret (de_lst (da_cons (de_c pe_str (fun _ => .str _)) (da_cons (de_callB (cd_anyr T (hr.mono (show 12 ≤ _ by decide))) (by rfl) T.z_repr boot_repr (da_cons (de_nm (pv 2)) da_nil)) (da_cons (de_c pe_bl (fun _ => .bl _)) da_nil)))))) dss_nil))) (dss_cons (ds_if (dt_cmp (od_gt hr.u0) (de_nm (pv 0)) (de_nm (pv 1)) (nomark _)) (dss_one (ds_ret (de_lst (da_cons (de_c pe_str (fun _ => .str _)) (da_cons (de_callB (cd_anyr T (hr.mono (show 12 ≤ _ by decide))) (by rfl) T.z_repr boot_repr (da_cons (de_tup (da_cons (de_nm (pv 0)) (da_cons (de_nm (pv 1)) da_nil))) da_nil)) (da_cons (de_c pe_bl (fun _ => .bl _)) da_nil)))))) dss_nil) (dss_one (ds_ret (de_lst (da_cons (de_c pe_str (fun _ => .str _)) (da_cons (de_call (ok__law_shown T).any (hr.mono (show 1 ≤ _ by decide)) (by rfl) T.m__law_shown T.F__law_shown.kp T.b__law_shown takesG (da_cons (de_nm (pv 0)) (da_cons (de_nm (pv 1)) da_nil))) da_nil))))))), ?_⟩)
  obtain ⟨u, v, rfl, tu, tv, q⟩ := h
  simp only [sFor, iTupD, forD, sSeq, sAsg, gNm, sRet, sRetN, bD, xD, nmD, startD, sIf, DL.tB, DL.tNot, DL.tAnd, DL.tOr, eAnd, eOr, eNot, eIf, isB, sDrop, sNext, sPar, eTup, eLst, eCall, eCB, aNil, aCons, eFld, eFldM, eProp, eMeth, eMethK, eMake, eMakeK, eUn, sFldM, sRaise, addI, addS, addL, subI, negI, mulI, mulL, divI, modI, powI, eqI, neI, eqS, neS, lenL, lenT, lenC, absI, intI, strI, repX, dmI, it0, it1, itL0, itL1, itL2, itL3, itL4, itL5, itL6, itR, eStat, oNone, oSome, eSl, gTp2', gIx, eLstM, eApp, DL.rIn, DL.rNe, eFmt, eJs, eDic0, sNever, mx2, mn2, ltI, leI, gtI, geI, eChain, decide_eq_true_eq, List.map_cons, List.map_nil, List.length_cons, List.length_nil, Nat.reduceAdd, Nat.reduceSub, List.replicate_succ, List.replicate_zero, List.cons_append, List.nil_append, List.getElem?_cons_zero, List.getElem?_cons_succ, List.reverse_cons, List.reverse_nil, Option.some.injEq, exists_eq_left', List.set_cons_zero, List.set_cons_succ, if_true, if_false, Bool.false_eq_true, reduceIte, and_self, true_and, D.bl.injEq, D.ob.injEq, D.int.injEq, D.str.injEq, D.tup.injEq, exists_and_left, exists_eq_left, reduceCtorEq, and_true, lk_low, lk_high, exists_eq', and_self]
  obtain ⟨t1, say1⟩ := tu.2.1
  obtain ⟨t2, say2⟩ := tv.2.1
  refine ⟨small2, u, rfl, tu, _, rfl, ?_⟩
  cases e1 : isI u with
  | false => exact iteT ⟨_, t1, rfl, say1, smallN (by decide), q _ (.inl ⟨e1, t1, say1, rfl⟩)⟩
  | true =>
    refine iteF ⟨v, rfl, tv, _, rfl, ?_⟩
    cases e2 : isI v with
    | false => exact iteT ⟨_, t2, rfl, say2, smallN (by decide), q _ (.inr (.inl ⟨e1, e2, t2, say2, rfl⟩))⟩
    | true =>
      obtain ⟨l, rfl⟩ : ∃ l, u = .int l := by cases u <;> first | exact ⟨_, rfl⟩ | cases e1
      obtain ⟨k, rfl⟩ : ∃ k, v = .int k := by cases v <;> first | exact ⟨_, rfl⟩ | cases e2
      refine iteF ?_
      rw [gtI]
      refine ⟨_, rfl, ite2 (fun c => ?_) (fun c => ?_)⟩
      · have c : k < l := of_decide_eq_true c
        have say := Say.plain (.inl (okR.of (RO.tup (ROs.cons (RO.int tu.few) (ROs.cons (RO.int tv.few) ROs.nil))))) (oks_shown _ (by simp [pyD, pysD, pyX, PyData.canLay0, PyData.canLayAll0]))
        exact ⟨small2, _, _, rfl, say, smallN (by decide), q _ (.inr (.inr ⟨l, k, rfl, rfl, .inl ⟨by omega, _, say, rfl⟩⟩))⟩
      · have c : ¬ k < l := fun z => c (decide_eq_true z)
        exact ⟨l, k, rfl, tu.few, tv.few, small2, q _ (.inr (.inr ⟨l, k, rfl, rfl, .inr ⟨by omega, tu.few, tv.few, rfl⟩⟩))⟩
theorem ok__law_span_right (T : Tx K mg base a d) : FnG false true P w K mg base 16 a.f__law_span_right d.f__law_span_right ["_law_this", "_law_mate"] (spL (G a) (s_sr a)) := by
  refine fn_okC T.FC__law_span_right sc__law_span_right (fun _ _ _ _ ⟨_, _, e, _⟩ => len2 e) (fun A outer s H E xs m Q x hr h => ⟨_, (dss_cons (ds_set (i := 2) (ps_set (i := 2) sc__law_span_right.nd rfl (Or.inl rfl)) (de_call (ok__law_due_span T) (hr.mono (show 14 ≤ _ by decide)) (by rfl) T.m__law_due_span T.F__law_due_span.kp T.b__law_due_span takesG (da_cons (de_nm (pv 0)) (da_cons (de_nm (pv 1)) da_nil)))) (dss_cons (ds_if (dt_cmp (od_ne hr.u64) (de_lam (k := 13) T.F__law_told sc__law_told (by rfl) T.m__law_told T.F__law_told.kp T.b__law_told rfl (by first | exact Or.inl rfl | exact Or.inr (Or.inl rfl) | exact Or.inr (Or.inr rfl)) (gives_law_told T (by decide)) T.tb__law_span_right rfl (show (("_law_span_right" : Str) ++ ".<locals>.") ++ "<lambda>" = ("_law_span_right.<locals>.<lambda>" : Str) by decide +kernel) (lamS_by (show lamSB (defScope s__law_span_right) _ = true by decide +kernel)) (by rfl) (fun _ _ _ _ _ => rfl) (hr.mono (show 15 ≤ _ by decide)) (fun A2 outer2 sx2 Hx2 E2 f2 c2 rx => (de_make (c := 0) T.M_Span (ok_Span___init__ T).any (rx.mono (show 5 ≤ _ by decide)) (by rfl) T.m_Span T.b_Span___init__ takesL (da_cons (de_nm (pv 0)) (da_cons (de_nm (pv 1)) da_nil))))) (de_nm (pv 2)) (nomark _)) (dss_one (ds_ret (de_c pe_bl (fun _ => .bl _)))) dss_nil) (dss_one (ds_ret (de_cmp (od_eq hr.u64) (de_lam (k := 13) T.F__law_told sc__law_told (by rfl) T.m__law_told T.F__law_told.kp T.b__law_told rfl (by first | exact Or.inl rfl | exact Or.inr (Or.inl rfl) | exact Or.inr (Or.inr rfl)) (gives_law_told T (by decide)) T.tb__law_span_right rfl (show (("_law_span_right" : Str) ++ ".<locals>.") ++ "<lambda>" = ("_law_span_right.<locals>.<lambda>" : Str) by decide +kernel) (lamS_by (show lamSB (defScope s__law_span_right) _ = true by decide +kernel)) (by rfl) (fun _ _ _ _ _ => rfl) (hr.mono (show 15 ≤ _ by decide)) (fun A2 outer2 sx2 Hx2 E2 f2 c2 rx => (de_makeK (c := 0) (ix := [1, 0]) T.M_Span (ok_Span___init__ T).any (rx.mono (show 5 ≤ _ by decide)) (by rfl) T.m_Span T.bk_Span___init__ takesL (dk_cons (de_nm (pv 1)) (dk_cons (de_nm (pv 0)) dk_nil))))) (de_nm (pv 2)) (nomark _)))))), ?_⟩)
  obtain ⟨u, v, rfl, tu, tv, tb, q⟩ := h
  simp only [eLam, sSeq, sAsg, gNm, sRet, sRetN, bD, xD, nmD, startD, sIf, DL.tB, DL.tNot, DL.tAnd, DL.tOr, eAnd, eOr, eNot, eIf, isB, sDrop, sNext, sPar, eTup, eLst, eCall, eCB, aNil, aCons, eFld, eFldM, eProp, eMeth, eMethK, eMake, eMakeK, eUn, sFldM, sRaise, addI, addS, addL, subI, negI, mulI, mulL, divI, modI, powI, eqI, neI, eqS, neS, lenL, lenT, lenC, absI, intI, strI, repX, dmI, it0, it1, itL0, itL1, itL2, itL3, itL4, itL5, itL6, itR, eStat, oNone, oSome, eSl, gTp2', gIx, eLstM, eApp, DL.rIn, DL.rNe, eFmt, eJs, eDic0, sNever, mx2, mn2, ltI, leI, gtI, geI, eChain, decide_eq_true_eq, List.map_cons, List.map_nil, List.length_cons, List.length_nil, Nat.reduceAdd, Nat.reduceSub, List.replicate_succ, List.replicate_zero, List.cons_append, List.nil_append, List.getElem?_cons_zero, List.getElem?_cons_succ, List.reverse_cons, List.reverse_nil, Option.some.injEq, exists_eq_left', List.set_cons_zero, List.set_cons_succ, if_true, if_false, Bool.false_eq_true, reduceIte, and_self, true_and, D.bl.injEq, D.ob.injEq, D.int.injEq, D.str.injEq, D.tup.injEq, exists_and_left, exists_eq_left, reduceCtorEq, and_true, lk_low, lk_high, exists_eq', and_self]
  refine ⟨u, v, rfl, tu, tv, fun d due => ⟨tb.1, told_due tu tv due ?_⟩⟩
  exact due.pl.ne ⟨_, rfl, iteF ⟨tb.1, told_due tu tv due (due.pl.eq q)⟩⟩
theorem ok__law_around_right (T : Tx K mg base a d) : FnG false true P w K mg base 16 a.f__law_around_right d.f__law_around_right ["_law_things"] (spL (G a) (s_ar a)) := by
  refine fn_okC T.FC__law_around_right sc__law_around_right (fun _ _ _ _ ⟨_, e, _⟩ => len1 e) (fun A outer s H E xs m Q x hr h => ⟨_, (dss_cons (ds_setLc (i := 1) (own := [("_law_thing_here", 10)]) (tgt := .one 10) rfl sc__law_around_right.nd rfl rfl (sw_true rfl rfl rfl (by decide +kernel)) (by decide) (di_list (de_nm (pv 0))) (blkOk_by (own := [("_law_thing_here", 10)]) (N := N__law_around_right) (sc := defScope s__law_around_right) (by decide +kernel)) (fun _ _ _ _ _ => pg_name (i := 10) sc__law_around_right.nd rfl (Or.inl rfl)) (fun _ _ _ _ _ => (dts_one (dt_not (dt_val (de_call (ok__law_whole T) (hr.mono (show 13 ≤ _ by decide)) (by rfl) T.m__law_whole T.F__law_whole.kp T.b__law_whole takesF (da_cons (de_nm (pv 10)) da_nil)))))) (fun _ _ _ _ _ => (de_nm (pv 10)))) (dss_cons (ds_if (dt_cmp (OpD.or (od_ne hr.u64) (od_neLen hr.u0)) (de_nm (pv 1)) (de_lst da_nil) (nomark _)) (dss_one (ds_set (i := 2) (ps_set (i := 2) sc__law_around_right.nd rfl (Or.inl rfl)) (de_lst (da_cons (de_c pe_str (fun _ => .str _)) (da_cons (de_callB (cd_anyr T (hr.mono (show 12 ≤ _ by decide))) (by rfl) T.z_repr boot_repr (da_cons (de_ix (de_nm (pv 1)) (de_c pe_int (fun _ => .int _)) (fun _ _ => rfl)) da_nil)) (da_cons (de_c pe_bl (fun _ => .bl _)) da_nil)))))) (dss_one (ds_if (dt_cmp (OpD.or (od_eq hr.u64) (od_eqLen hr.u0)) (de_nm (pv 0)) (de_lst da_nil) (nomark _)) (dss_one (ds_set (i := 2) (ps_set (i := 2) sc__law_around_right.nd rfl (Or.inl rfl)) (de_lst (da_cons (de_c pe_str (fun _ => .str _)) (da_cons (de_c pe_str (fun _ => .str _)) (da_cons (de_c pe_bl (fun _ => .bl _)) da_nil)))))) (dss_one (ds_set (i := 2) (ps_set (i := 2) sc__law_around_right.nd rfl (Or.inl rfl)) (de_lst (da_cons (de_c pe_str (fun _ => .str _)) (da_cons (de_call (ok__law_shown T).any (hr.mono (show 1 ≤ _ by decide)) (by rfl) T.m__law_shown T.F__law_shown.kp T.b__law_shown takesG (da_cons (de_callB (cd_mn (by rfl) hr.u8) (by rfl) T.z_min boot_min (da_cons (de_lc (own := [("_law_thing_here", 10)]) (tgt := .one 10) rfl sc__law_around_right.nd (by decide) (di_list (de_nm (pv 0))) (blkOk_by (own := [("_law_thing_here", 10)]) (N := N__law_around_right) (sc := defScope s__law_around_right) (by decide +kernel)) (fun _ _ _ _ _ => pg_name (i := 10) sc__law_around_right.nd rfl (Or.inl rfl)) (fun _ _ _ _ _ => dts_nil) (fun _ _ _ _ _ => (de_callTy (cd_int) (by rfl) T.z_int boot_int (da_cons (de_nm (pv 10)) da_nil)))) da_nil)) (da_cons (de_callB (cd_mx (by rfl) hr.u8) (by rfl) T.z_max boot_max (da_cons (de_lc (own := [("_law_thing_here", 10)]) (tgt := .one 10) rfl sc__law_around_right.nd (by decide) (di_list (de_nm (pv 0))) (blkOk_by (own := [("_law_thing_here", 10)]) (N := N__law_around_right) (sc := defScope s__law_around_right) (by decide +kernel)) (fun _ _ _ _ _ => pg_name (i := 10) sc__law_around_right.nd rfl (Or.inl rfl)) (fun _ _ _ _ _ => dts_nil) (fun _ _ _ _ _ => (de_callTy (cd_int) (by rfl) T.z_int boot_int (da_cons (de_nm (pv 10)) da_nil)))) da_nil)) da_nil))) da_nil)))))))) (dss_cons (ds_if (dt_cmp (od_lt hr.u0) (de_callB (cd_len) (by rfl) T.z_len boot_len (da_cons (de_nm (pv 0)) da_nil)) (de_c pe_int (fun _ => .int _)) (nomark _)) (dss_one (ds_ret (de_cmp (od_eq hr.u64) (de_lam (k := 13) T.F__law_told sc__law_told (by rfl) T.m__law_told T.F__law_told.kp T.b__law_told rfl (by first | exact Or.inl rfl | exact Or.inr (Or.inl rfl) | exact Or.inr (Or.inr rfl)) (gives_law_told T (by decide)) T.tb__law_around_right rfl (show (("_law_around_right" : Str) ++ ".<locals>.") ++ "<lambda>" = ("_law_around_right.<locals>.<lambda>" : Str) by decide +kernel) (lamS_by (show lamSB (defScope s__law_around_right) _ = true by decide +kernel)) (by rfl) (fun _ _ _ _ _ => rfl) (hr.mono (show 15 ≤ _ by decide)) (fun A2 outer2 sx2 Hx2 E2 f2 c2 rx => (de_if (dt_cmp (OpD.or (od_eq rx.u64) (od_eqLen rx.u0)) (de_nm (pv 0)) (de_lst da_nil) (nomark _)) (de_static0 T.s_Span_around (ok_Span_around T) (rx.mono (show 6 ≤ _ by decide)).r (by rfl) T.m_Span takesL) (de_static T.s_Span_around (ok_Span_around T) (rx.mono (show 6 ≤ _ by decide)).r (by rfl) T.m_Span takesL (da_cons (de_ix (de_nm (pv 0)) (de_c pe_int (fun _ => .int _)) (fun _ _ => rfl)) da_nil))))) (de_nm (pv 2)) (nomark _)))) dss_nil) (dss_cons (ds_if (dt_cmp (od_eq hr.u64) (de_callB (cd_len) (by rfl) T.z_len boot_len (da_cons (de_nm (pv 0)) da_nil)) (de_c pe_int (fun _ => .int _)) (nomark _)) (dss_one (ds_ret (de_cmp (od_eq hr.u64) (de_lam (k := 13) T.F__law_told sc__law_told (by rfl) T.m__law_told T.F__law_told.kp T.b__law_told rfl (by first | exact Or.inl rfl | exact Or.inr (Or.inl rfl) | exact Or.inr (Or.inr rfl)) (gives_law_told T (by decide)) T.tb__law_around_right rfl (show (("_law_around_right" : Str) ++ ".<locals>.") ++ "<lambda>" = ("_law_around_right.<locals>.<lambda>" : Str) by decide +kernel) (lamS_by (show lamSB (defScope s__law_around_right) _ = true by decide +kernel)) (by rfl) (fun _ _ _ _ _ => rfl) (hr.mono (show 15 ≤ _ by decide)) (fun A2 outer2 sx2 Hx2 E2 f2 c2 rx => (de_static T.s_Span_around (ok_Span_around T) (rx.mono (show 6 ≤ _ by decide)).r (by rfl) T.m_Span takesL (da_cons (de_ix (de_nm (pv 0)) (de_c pe_int (fun _ => .int _)) (fun _ _ => rfl)) (da_cons (de_ix (de_nm (pv 0)) (de_c pe_int (fun _ => .int _)) (fun _ _ => rfl)) da_nil))))) (de_nm (pv 2)) (nomark _)))) dss_nil) (dss_cons (ds_if (dt_cmp (od_eq hr.u64) (de_callB (cd_len) (by rfl) T.z_len boot_len (da_cons (de_nm (pv 0)) da_nil)) (de_c pe_int (fun _ => .int _)) (nomark _)) (dss_one (ds_ret (de_cmp (od_eq hr.u64) (de_lam (k := 13) T.F__law_told sc__law_told (by rfl) T.m__law_told T.F__law_told.kp T.b__law_told rfl (by first | exact Or.inl rfl | exact Or.inr (Or.inl rfl) | exact Or.inr (Or.inr rfl)) (gives_law_told T (by decide)) T.tb__law_around_right rfl (show (("_law_around_right" : Str) ++ ".<locals>.") ++ "<lambda>" = ("_law_around_right.<locals>.<lambda>" : Str) by decide +kernel) (lamS_by (show lamSB (defScope s__law_around_right) _ = true by decide +kernel)) (by rfl) (fun _ _ _ _ _ => rfl) (hr.mono (show 15 ≤ _ by decide)) (fun A2 outer2 sx2 Hx2 E2 f2 c2 rx => (de_static T.s_Span_around (ok_Span_around T) (rx.mono (show 6 ≤ _ by decide)).r (by rfl) T.m_Span takesL (da_cons (de_ix (de_nm (pv 0)) (de_c pe_int (fun _ => .int _)) (fun _ _ => rfl)) (da_cons (de_ix (de_nm (pv 0)) (de_c pe_int (fun _ => .int _)) (fun _ _ => rfl)) (da_cons (de_ix (de_nm (pv 0)) (de_c pe_int (fun _ => .int _)) (fun _ _ => rfl)) da_nil)))))) (de_nm (pv 2)) (nomark _)))) dss_nil) (dss_cons (ds_if (dt_cmp (od_eq hr.u64) (de_callB (cd_len) (by rfl) T.z_len boot_len (da_cons (de_nm (pv 0)) da_nil)) (de_c pe_int (fun _ => .int _)) (nomark _)) (dss_one (ds_ret (de_cmp (od_eq hr.u64) (de_lam (k := 13) T.F__law_told sc__law_told (by rfl) T.m__law_told T.F__law_told.kp T.b__law_told rfl (by first | exact Or.inl rfl | exact Or.inr (Or.inl rfl) | exact Or.inr (Or.inr rfl)) (gives_law_told T (by decide)) T.tb__law_around_right rfl (show (("_law_around_right" : Str) ++ ".<locals>.") ++ "<lambda>" = ("_law_around_right.<locals>.<lambda>" : Str) by decide +kernel) (lamS_by (show lamSB (defScope s__law_around_right) _ = true by decide +kernel)) (by rfl) (fun _ _ _ _ _ => rfl) (hr.mono (show 15 ≤ _ by decide)) (fun A2 outer2 sx2 Hx2 E2 f2 c2 rx => (de_static T.s_Span_around (ok_Span_around T) (rx.mono (show 6 ≤ _ by decide)).r (by rfl) T.m_Span takesL (da_cons (de_ix (de_nm (pv 0)) (de_c pe_int (fun _ => .int _)) (fun _ _ => rfl)) (da_cons (de_ix (de_nm (pv 0)) (de_c pe_int (fun _ => .int _)) (fun _ _ => rfl)) (da_cons (de_ix (de_nm (pv 0)) (de_c pe_int (fun _ => .int _)) (fun _ _ => rfl)) (da_cons (de_ix (de_nm (pv 0)) (de_c pe_int (fun _ => .int _)) (fun _ _ => rfl)) da_nil))))))) (de_nm (pv 2)) (nomark _)))) dss_nil) (dss_cons (ds_asg (de_nm (pv 0)) (dg_lst (n := 7) rfl (dgs_cons (dg_name (pg_name (i := 3) sc__law_around_right.nd rfl (Or.inr rfl))) (dgs_cons (dg_name (pg_name (i := 4) sc__law_around_right.nd rfl (Or.inr rfl))) (dgs_cons (dg_name (pg_name (i := 5) sc__law_around_right.nd rfl (Or.inr rfl))) (dgs_cons (dg_name (pg_name (i := 6) sc__law_around_right.nd rfl (Or.inr rfl))) (dgs_cons (dg_name (pg_name (i := 7) sc__law_around_right.nd rfl (Or.inr rfl))) (dgs_cons (dg_name (pg_name (i := 8) sc__law_around_right.nd rfl (Or.inr rfl))) (dgs_cons (dg_name (pg_name (i := 9) sc__law_around_right.nd rfl (Or.inr rfl))) dgs_nil))))))))) (dss_one (ds_ret (de_cmp (od_eq hr.u64) (de_lam (k := 13) T.F__law_told sc__law_told (by rfl) T.m__law_told T.F__law_told.kp T.b__law_told rfl (by first | exact Or.inl rfl | exact Or.inr (Or.inl rfl) | exact Or.inr (Or.inr rfl)) (gives_law_told T (by decide)) T.tb__law_around_right rfl (show (("_law_around_right" : Str) ++ ".<locals>.") ++ "<lambda>" = ("_law_around_right.<locals>.<lambda>" : Str) by decide +kernel) (lamS_by (show lamSB (defScope s__law_around_right) _ = true by decide +kernel)) (by rfl) (fun _ _ _ _ _ => rfl) (hr.mono (show 15 ≤ _ by decide)) (fun A2 outer2 sx2 Hx2 E2 f2 c2 rx => (de_static T.s_Span_around (ok_Span_around T) (rx.mono (show 6 ≤ _ by decide)).r (by rfl) T.m_Span takesL (da_cons (de_nm (pv 3)) (da_cons (de_nm (pv 4)) (da_cons (de_nm (pv 5)) (da_cons (de_nm (pv 6)) (da_cons (de_nm (pv 7)) (da_cons (de_nm (pv 8)) (da_cons (de_nm (pv 9)) da_nil)))))))))) (de_nm (pv 2)) (nomark _))))))))))), ?_⟩)
  obtain ⟨vs, rfl, th, len, tb, q⟩ := h
  have ok : ∀ v ∈ vs, okV v := fun v m => (th v m).1
  simp only [eLam, sSeq, sAsg, gNm, sRet, sRetN, bD, xD, nmD, startD, sIf, DL.tB, DL.tNot, DL.tAnd, DL.tOr, eAnd, eOr, eNot, eIf, isB, sDrop, sNext, sPar, eTup, eLst, eCall, eCB, aNil, aCons, eFld, eFldM, eProp, eMeth, eMethK, eMake, eMakeK, eUn, sFldM, sRaise, addI, addS, addL, subI, negI, mulI, mulL, divI, modI, powI, eqI, neI, eqS, neS, lenL, lenT, lenC, absI, intI, strI, repX, dmI, it0, it1, itL0, itL1, itL2, itL3, itL4, itL5, itL6, itR, eStat, oNone, oSome, eSl, gTp2', gIx, eLstM, eApp, DL.rIn, DL.rNe, eFmt, eJs, eDic0, sNever, mx2, mn2, ltI, leI, gtI, geI, eChain, decide_eq_true_eq, List.map_cons, List.map_nil, List.length_cons, List.length_nil, Nat.reduceAdd, Nat.reduceSub, List.replicate_succ, List.replicate_zero, List.cons_append, List.nil_append, List.getElem?_cons_zero, List.getElem?_cons_succ, List.reverse_cons, List.reverse_nil, Option.some.injEq, exists_eq_left', List.set_cons_zero, List.set_cons_succ, if_true, if_false, Bool.false_eq_true, reduceIte, and_self, true_and, D.bl.injEq, D.ob.injEq, D.int.injEq, D.str.injEq, D.tup.injEq, exists_and_left, exists_eq_left, reduceCtorEq, and_true, lk_low, lk_high, exists_eq', and_self]
  refine ⟨_, rfl, (show vs.length < sizeLine from Nat.lt_of_le_of_lt (show vs.length ≤ 7 by omega) (by decide)), lc_keep (p := fun v => !isI v) (fun d hd m Q qq => ⟨d, rfl, d, rfl, th d hd, _, rfl, qq⟩) (fun d m Q qq => ⟨d, rfl, qq⟩) [] m ?_⟩
  rw [List.nil_append]
  refine ⟨Nat.zero_le _, ?_⟩
  apply share2 (C := fun _ due => dueAr vs due)
  · intro key
    cases e : vs.filter (fun v => !isI v) with
    | cons o r =>
      refine .inr ⟨o :: r, [], rfl, rfl, (by simp), _, rfl, iteT ?_⟩
      have found : vs.find? (fun v => !isI v) = some o := by rw [← List.head?_filter, e]; rfl
      obtain ⟨t, say⟩ := (th o (List.mem_of_find?_eq_some found)).2.1
      rw [itL0]
      refine ⟨o, t, rfl, say, smallN (by decide), ?_⟩
      generalize hd : (D.lst [.str "level", .str t, .bl true]) = due
      generalize D.lst (o :: r) = odd
      exact key odd due (.inl ⟨o, t, found, say, hd.symm⟩)
    | nil =>
      have none_ : vs.find? (fun v => !isI v) = none := by rw [← List.head?_filter, e]; rfl
      obtain ⟨ns, hv⟩ := ints_of none_
      have lenE : vs.length = ns.length := by rw [hv, List.length_map]
      have isNum : ∀ d ∈ vs, ∃ i, i ∈ ns ∧ d = .int i := fun d m => by
        rw [hv] at m
        obtain ⟨i, h, e⟩ := List.mem_map.mp m
        exact ⟨i, h, e.symm⟩
      refine .inl ⟨rfl, _, rfl, iteF ⟨Nat.zero_le _, ?_⟩⟩
      by_cases c : ns = []
      · have hn : vs = [] := by rw [hv, c]; rfl
        refine .inl (eqD_nil hn ⟨_, rfl, iteT ⟨smallN (by decide), ?_⟩⟩)
        generalize hd : (D.lst [.str "empty", .str "(None, None)", .bl true]) = due
        exact key _ due (.inr (.inl ⟨hn, hd.symm⟩))
      · have nl : 0 < ns.length := List.length_pos_iff.mpr c
        refine .inr ⟨_, [], rfl, rfl, (by rw [lenE]; exact Nat.ne_of_gt nl), _, rfl, iteF ?_⟩
        have fw : ∀ i ∈ ns, Few i := fun i m => (th (.int i) (by rw [hv]; exact List.mem_map.mpr ⟨i, m, rfl⟩)).few
        have f1 : Few (mnL ns) := fw _ (mnL_mem c).1
        have f2 : Few (mxL ns) := fw _ (mxL_mem c).1
        have small : vs.length < sizeLine := Nat.lt_of_le_of_lt (show vs.length ≤ 7 by omega) (by decide)
        refine ⟨_, rfl, small, lc_map (f := fun v => v) (fun d hd m Q qq => ?_) [] m ?_⟩
        · obtain ⟨i, _, rfl⟩ := isNum d hd
          exact ⟨_, rfl, qq⟩
        · rw [List.nil_append, List.map_id']
          refine .inr ⟨ns, .inl (by rw [hv]), c, ?_⟩
          refine ⟨_, rfl, small, lc_map (f := fun v => v) (fun d hd m Q qq => ?_) [] m ?_⟩
          · obtain ⟨i, _, rfl⟩ := isNum d hd
            exact ⟨_, rfl, qq⟩
          · rw [List.nil_append, List.map_id']
            refine .inr ⟨ns, .inl (by rw [hv]), c, mnL ns, mxL ns, rfl, f1, f2, small2, ?_⟩
            generalize hd : (D.lst [.str "made", .str (repS (mnL ns) (mxL ns))]) = due
            exact key _ due (.inr (.inr ⟨ns, hv, c, f1, f2, hd.symm⟩))
  · intro odd due hd
    have told : ∀ Q : DK, Q due m → TTold (fun x' m' Q' => s_around vs m' Q' x') m Q := fun Q => told_around hd th (by omega)
    have fin : eqD due due m Q := hd.pl.eq q
    have tb := tb.2.1
    match vs, len, hd, told with
    | [], _, hd, told => exact iteT' (show ((([] : List D).length : Nat) : Int) < 2 by decide) ⟨tb, (told _ fin).imp fun E1 Q1 h => ⟨Nat.zero_le _, .inl ⟨rfl, _, rfl, iteT h⟩⟩⟩
    | [v1], _, hd, told => exact iteT' (show ((([v1] : List D).length : Nat) : Int) < 2 by simp) ⟨tb, (told _ fin).imp fun E1 Q1 h => ⟨Nat.zero_le _, .inr ⟨_, _, rfl, rfl, by simp, _, rfl, iteF (by rw [itL0]; exact ⟨smallN (by decide), h⟩)⟩⟩⟩
    | [v1, v2], _, hd, told =>
      rw [if_neg (show ¬ ((([v1, v2] : List D).length : Nat) : Int) < 2 by simp), if_pos (show ((([v1, v2] : List D).length : Nat) : Int) = 2 by simp)]
      exact ⟨tb, (told _ fin).imp fun E1 Q1 h => by simp only [itL0, itL1]; exact ⟨small2, h⟩⟩
    | [v1, v2, v3], _, hd, told =>
      rw [if_neg (show ¬ ((([v1, v2, v3] : List D).length : Nat) : Int) < 2 by simp), if_neg (show ¬ ((([v1, v2, v3] : List D).length : Nat) : Int) = 2 by simp), if_pos (show ((([v1, v2, v3] : List D).length : Nat) : Int) = 3 by simp)]
      exact ⟨tb, (told _ fin).imp fun E1 Q1 h => by simp only [itL0, itL1, itL2]; exact ⟨smallN (by decide), h⟩⟩
    | [v1, v2, v3, v4], _, hd, told =>
      rw [if_neg (show ¬ ((([v1, v2, v3, v4] : List D).length : Nat) : Int) < 2 by simp), if_neg (show ¬ ((([v1, v2, v3, v4] : List D).length : Nat) : Int) = 2 by simp), if_neg (show ¬ ((([v1, v2, v3, v4] : List D).length : Nat) : Int) = 3 by simp), if_pos (show ((([v1, v2, v3, v4] : List D).length : Nat) : Int) = 4 by simp)]
      exact ⟨tb, (told _ fin).imp fun E1 Q1 h => by simp only [itL0, itL1, itL2, itL3]; exact ⟨smallN (by decide), h⟩⟩
    | [v1, v2, v3, v4, v5, v6, v7], _, hd, told =>
      rw [if_neg (show ¬ ((([v1, v2, v3, v4, v5, v6, v7] : List D).length : Nat) : Int) < 2 by simp), if_neg (show ¬ ((([v1, v2, v3, v4, v5, v6, v7] : List D).length : Nat) : Int) = 2 by simp), if_neg (show ¬ ((([v1, v2, v3, v4, v5, v6, v7] : List D).length : Nat) : Int) = 3 by simp), if_neg (show ¬ ((([v1, v2, v3, v4, v5, v6, v7] : List D).length : Nat) : Int) = 4 by simp)]
      refine ⟨rfl, ?_⟩
      simp only [gsCons, gsNil, eLam, sSeq, sAsg, gNm, sRet, sRetN, bD, xD, nmD, startD, sIf, DL.tB, DL.tNot, DL.tAnd, DL.tOr, eAnd, eOr, eNot, eIf, isB, sDrop, sNext, sPar, eTup, eLst, eCall, eCB, aNil, aCons, eFld, eFldM, eProp, eMeth, eMethK, eMake, eMakeK, eUn, sFldM, sRaise, addI, addS, addL, subI, negI, mulI, mulL, divI, modI, powI, eqI, neI, eqS, neS, lenL, lenT, lenC, absI, intI, strI, repX, dmI, it0, it1, itL0, itL1, itL2, itL3, itL4, itL5, itL6, itR, eStat, oNone, oSome, eSl, gTp2', gIx, eLstM, eApp, DL.rIn, DL.rNe, eFmt, eJs, eDic0, sNever, mx2, mn2, ltI, leI, gtI, geI, eChain, decide_eq_true_eq, List.map_cons, List.map_nil, List.length_cons, List.length_nil, Nat.reduceAdd, Nat.reduceSub, List.replicate_succ, List.replicate_zero, List.cons_append, List.nil_append, List.getElem?_cons_zero, List.getElem?_cons_succ, List.reverse_cons, List.reverse_nil, Option.some.injEq, exists_eq_left', List.set_cons_zero, List.set_cons_succ, if_true, if_false, Bool.false_eq_true, reduceIte, and_self, true_and, D.bl.injEq, D.ob.injEq, D.int.injEq, D.str.injEq, D.tup.injEq, exists_and_left, exists_eq_left, reduceCtorEq, and_true, lk_low, lk_high, exists_eq', and_self]
      exact ⟨tb, (told _ fin).imp fun E1 Q1 h => ⟨smallN (by decide), h⟩⟩
    | [_, _, _, _, _], len, _, _ => simp at len
    | [_, _, _, _, _, _], len, _, _ => simp at len
    | _ :: _ :: _ :: _ :: _ :: _ :: _ :: _ :: _, len, _, _ => simp at len
theorem ok__law_moved_right (T : Tx K mg base a d) : FnG false true P w K mg base 16 a.f__law_moved_right d.f__law_moved_right ["_law_made", "_law_thing_here"] (spL (G a) (s_mv a)) := by
  refine fn_okC T.FC__law_moved_right sc__law_moved_right (fun _ _ _ _ ⟨_, _, _, e, _⟩ => len2 e) (fun A outer s H E xs m Q x hr h => ⟨_, (dss_cons (ds_par (i := 3) (j := 4) (ps_par (i := 3) (j := 4) rfl sc__law_moved_right.nd rfl rfl (by decide) rfl rfl · (by rfl)) (da_cons (de_prop (c := 0) T.c_Span T.p_Span_low (ok_Span_low T).any (hr.mono (show 2 ≤ _ by decide)) T.b_Span_low (de_nm (pv 0))) (da_cons (de_prop (c := 0) T.c_Span T.p_Span_high (ok_Span_high T).any (hr.mono (show 2 ≤ _ by decide)) T.b_Span_high (de_nm (pv 0))) da_nil))) (dss_cons (ds_set (i := 2) (ps_set (i := 2) sc__law_moved_right.nd rfl (Or.inl rfl)) (de_op od_mul (de_lst (da_cons (de_lst (da_cons (de_c pe_str (fun _ => .str _)) (da_cons (de_callB (cd_anyr T (hr.mono (show 12 ≤ _ by decide))) (by rfl) T.z_repr boot_repr (da_cons (de_nm (pv 1)) da_nil)) (da_cons (de_c pe_bl (fun _ => .bl _)) da_nil)))) da_nil)) (de_c pe_int (fun _ => .int _)))) (dss_cons (ds_if (dt_val (de_call (ok__law_whole T) (hr.mono (show 13 ≤ _ by decide)) (by rfl) T.m__law_whole T.F__law_whole.kp T.b__law_whole takesG (da_cons (de_nm (pv 1)) da_nil))) (dss_one (ds_set (i := 2) (ps_set (i := 2) sc__law_moved_right.nd rfl (Or.inl rfl)) (de_lst (da_cons (de_lst (da_cons (de_c pe_str (fun _ => .str _)) (da_cons (de_call (ok__law_shown T).any (hr.mono (show 1 ≤ _ by decide)) (by rfl) T.m__law_shown T.F__law_shown.kp T.b__law_shown takesG (da_cons (de_op od_add (de_nm (pv 3)) (de_nm (pv 1))) (da_cons (de_op od_add (de_nm (pv 4)) (de_nm (pv 1))) da_nil))) da_nil))) (da_cons (de_lst (da_cons (de_c pe_str (fun _ => .str _)) (da_cons (de_call (ok__law_shown T).any (hr.mono (show 1 ≤ _ by decide)) (by rfl) T.m__law_shown T.F__law_shown.kp T.b__law_shown takesG (da_cons (de_op od_sub (de_nm (pv 3)) (de_nm (pv 1))) (da_cons (de_op od_sub (de_nm (pv 4)) (de_nm (pv 1))) da_nil))) da_nil))) da_nil))))) dss_nil) (dss_cons (ds_if (dt_cmp (od_ne hr.u64) (de_lam (k := 13) T.F__law_told sc__law_told (by rfl) T.m__law_told T.F__law_told.kp T.b__law_told rfl (by first | exact Or.inl rfl | exact Or.inr (Or.inl rfl) | exact Or.inr (Or.inr rfl)) (gives_law_told T (by decide)) T.tb__law_moved_right rfl (show (("_law_moved_right" : Str) ++ ".<locals>.") ++ "<lambda>" = ("_law_moved_right.<locals>.<lambda>" : Str) by decide +kernel) (lamS_by (show lamSB (defScope s__law_moved_right) _ = true by decide +kernel)) (by rfl) (fun _ _ _ _ _ => rfl) (hr.mono (show 15 ≤ _ by decide)) (fun A2 outer2 sx2 Hx2 E2 f2 c2 rx => (de_opX (ox_any (c := 0) T.o_Span___add__ T.sf_Span T.rf_Span_add T.rp_Span_add T.by_Span_add (T.b2_Span_add _ _) (ok_Span___add__ T).any (rx.mono (show 6 ≤ _ by decide)) T.b_Span___add__ takesL) (de_nm (pv 0)) (de_nm (pv 1))))) (de_ix (de_nm (pv 2)) (de_c pe_int (fun _ => .int _)) (fun _ _ => rfl)) (nomark _)) (dss_one (ds_ret (de_c pe_bl (fun _ => .bl _)))) dss_nil) (dss_cons (ds_if (dt_cmp (od_ne hr.u64) (de_lam (k := 13) T.F__law_told sc__law_told (by rfl) T.m__law_told T.F__law_told.kp T.b__law_told rfl (by first | exact Or.inl rfl | exact Or.inr (Or.inl rfl) | exact Or.inr (Or.inr rfl)) (gives_law_told T (by decide)) T.tb__law_moved_right rfl (show (("_law_moved_right" : Str) ++ ".<locals>.") ++ "<lambda>" = ("_law_moved_right.<locals>.<lambda>" : Str) by decide +kernel) (lamS_by (show lamSB (defScope s__law_moved_right) _ = true by decide +kernel)) (by rfl) (fun _ _ _ _ _ => rfl) (hr.mono (show 15 ≤ _ by decide)) (fun A2 outer2 sx2 Hx2 E2 f2 c2 rx => (de_opX (ox_any (c := 0) T.o_Span___sub__ T.sf_Span T.rf_Span_sub T.rp_Span_sub T.by_Span_sub (T.b2_Span_sub _ _) (ok_Span___sub__ T).any (rx.mono (show 6 ≤ _ by decide)) T.b_Span___sub__ takesL) (de_nm (pv 0)) (de_nm (pv 1))))) (de_ix (de_nm (pv 2)) (de_c pe_int (fun _ => .int _)) (fun _ _ => rfl)) (nomark _)) (dss_one (ds_ret (de_c pe_bl (fun _ => .bl _)))) dss_nil) (dss_cons (ds_if (dt_val (de_callB cd_isiT (by rfl) T.z_isinstance boot_isinstance (da_cons (de_nm (pv 1)) (da_cons (de_tup (da_cons (de_c (pe_glob (v := .ref _) (by rfl) T.m_Span rfl) (fun _ => .ref _)) (da_cons (de_c (pe_glob (v := .ref _) (by rfl) T.m_Net rfl) (fun _ => .ref _)) da_nil))) da_nil)))) (dss_one (ds_ret (de_c pe_bl (fun _ => .bl _)))) dss_nil) (dss_one (ds_ret (de_cmp (od_eq hr.u64) (de_lam (k := 13) T.F__law_told sc__law_told (by rfl) T.m__law_told T.F__law_told.kp T.b__law_told rfl (by first | exact Or.inl rfl | exact Or.inr (Or.inl rfl) | exact Or.inr (Or.inr rfl)) (gives_law_told T (by decide)) T.tb__law_moved_right rfl (show (("_law_moved_right" : Str) ++ ".<locals>.") ++ "<lambda>" = ("_law_moved_right.<locals>.<lambda>" : Str) by decide +kernel) (lamS_by (show lamSB (defScope s__law_moved_right) _ = true by decide +kernel)) (by rfl) (fun _ _ _ _ _ => rfl) (hr.mono (show 15 ≤ _ by decide)) (fun A2 outer2 sx2 Hx2 E2 f2 c2 rx => (de_opX (ox_addR (c := 0) T.o_Span___add__.at_ T.o_Span___radd__ T.sf_Span T.nB_Span (ok_Span___radd__ T).any (rx.mono (show 6 ≤ _ by decide)) T.b_Span___radd__ takesL) (de_nm (pv 1)) (de_nm (pv 0))))) (de_ix (de_nm (pv 2)) (de_c pe_int (fun _ => .int _)) (fun _ _ => rfl)) (nomark _)))))))))), ?_⟩)
  obtain ⟨l, h, v, rfl, le, b, th, tb, q⟩ := h
  simp only [eLam, sSeq, sAsg, gNm, sRet, sRetN, bD, xD, nmD, startD, sIf, DL.tB, DL.tNot, DL.tAnd, DL.tOr, eAnd, eOr, eNot, eIf, isB, sDrop, sNext, sPar, eTup, eLst, eCall, eCB, aNil, aCons, eFld, eFldM, eProp, eMeth, eMethK, eMake, eMakeK, eUn, sFldM, sRaise, addI, addS, addL, subI, negI, mulI, mulL, divI, modI, powI, eqI, neI, eqS, neS, lenL, lenT, lenC, absI, intI, strI, repX, dmI, it0, it1, itL0, itL1, itL2, itL3, itL4, itL5, itL6, itR, eStat, oNone, oSome, eSl, gTp2', gIx, eLstM, eApp, DL.rIn, DL.rNe, eFmt, eJs, eDic0, sNever, mx2, mn2, ltI, leI, gtI, geI, eChain, decide_eq_true_eq, List.map_cons, List.map_nil, List.length_cons, List.length_nil, Nat.reduceAdd, Nat.reduceSub, List.replicate_succ, List.replicate_zero, List.cons_append, List.nil_append, List.getElem?_cons_zero, List.getElem?_cons_succ, List.reverse_cons, List.reverse_nil, Option.some.injEq, exists_eq_left', List.set_cons_zero, List.set_cons_succ, if_true, if_false, Bool.false_eq_true, reduceIte, and_self, true_and, D.bl.injEq, D.ob.injEq, D.int.injEq, D.str.injEq, D.tup.injEq, exists_and_left, exists_eq_left, reduceCtorEq, and_true, lk_low, lk_high, exists_eq', and_self]
  obtain ⟨t, say⟩ := th.2.1
  refine ⟨l, h, rfl, l, h, rfl, v, t, rfl, say, smallN (by decide), smallN (by decide), ⟨by decide, by decide, by decide⟩, v, rfl, th, _, rfl, ?_⟩
  apply share2 (C := fun d0 d1 => dueMv l h v d0 d1)
  · intro key
    cases e : isI v with
    | true =>
      obtain ⟨n, hv⟩ : ∃ n, v = .int n := by cases v <;> first | exact ⟨_, rfl⟩ | cases e
      have bn := th.2.2.1 n hv
      have f : ∀ {i : Int}, -(10 ^ 60) ≤ i → i ≤ 10 ^ 60 → Few i := fun a b => Sm.few ⟨a, b⟩
      refine iteT (addV hv (addV hv ⟨_, _, rfl, f (by omega) (by omega), f (by omega) (by omega), small2, subV hv (subV hv ⟨_, _, rfl, f (by omega) (by omega), f (by omega) (by omega), small2, small2, ?_⟩)⟩))
      generalize h0 : (D.lst [.str "made", .str (repS (l + n) (h + n))]) = d0
      generalize h1 : (D.lst [.str "made", .str (repS (l - n) (h - n))]) = d1
      exact key d0 d1 (.inr ⟨n, hv, f (by omega) (by omega), f (by omega) (by omega), f (by omega) (by omega), f (by omega) (by omega), h0.symm, h1.symm⟩)
    | false =>
      refine iteF ?_
      rw [show (List.replicate (Int.toNat 2) [D.lst [.str "level", .str t, .bl true]]).flatten = [D.lst [.str "level", .str t, .bl true], D.lst [.str "level", .str t, .bl true]] from rfl]
      simp only [itL0, itL1]
      exact key _ _ (.inl ⟨e, t, say, rfl, rfl⟩)
  · intro d0 d1 hd
    have bad : isI v = false → ∃ t, Say v t ∧ d0 = lvl t ∧ d1 = lvl t := fun e => by
      rcases hd with ⟨_, t, say, e0, e1⟩ | ⟨n, rfl, _⟩
      · exact ⟨t, say, e0, e1⟩
      · cases e
    have good : ∀ n, v = .int n → (∃ l' h', spv (l + n) (h + n) = spv l' h' ∧ Few l' ∧ Few h' ∧ d0 = mde (repS l' h')) ∧ ∃ l' h', spv (l - n) (h - n) = spv l' h' ∧ Few l' ∧ Few h' ∧ d1 = mde (repS l' h') := fun n e => by
      rcases hd with ⟨e', _⟩ | ⟨n', e', f1, f2, f3, f4, e0, e1⟩
      · rw [e] at e'; cases e'
      · rw [e] at e'
        cases e'
        exact ⟨⟨_, _, rfl, f1, f2, e0⟩, _, _, rfl, f3, f4, e1⟩
    have plus : ∀ Q : DK, Q d0 m → TTold (fun x' m' Q' => s_int (fun l h n => spv (l + n) (h + n)) [spv l h, v] m' Q' x') m Q := fun Q q => told_int le th.1 (fun e => let ⟨t, say, e0, _⟩ := bad e; ⟨t, say, e0⟩) (fun n e => (good n e).1) q
    have minus : ∀ Q : DK, Q d1 m → TTold (fun x' m' Q' => s_int (fun l h n => spv (l - n) (h - n)) [spv l h, v] m' Q' x') m Q := fun Q q => told_int le th.1 (fun e => let ⟨t, say, _, e1⟩ := bad e; ⟨t, say, e1⟩) (fun n e => (good n e).2) q
    have tb := tb.2.2.1
    refine ⟨tb, (plus _ (hd.pl.1.ne ⟨_, rfl, iteF ⟨tb, (minus _ (hd.pl.2.ne ⟨_, rfl, iteF ⟨small2, isi_both T th.1 ⟨_, rfl, ite2 (fun _ => q) (fun c => ?_)⟩⟩⟩)).imp fun E1 Q1 k => ⟨⟨_, rfl⟩, beside0 th.1, k⟩⟩⟩)).imp fun E1 Q1 k => ⟨⟨_, rfl⟩, beside0 th.1, k⟩⟩
    have noOb : ∀ c' ys, v ≠ .ob c' ys := fun c' ys e => by
      subst e
      rcases okV_ob th.1 with ⟨l', h', e, _⟩ | e <;> cases e <;> exact c rfl
    obtain ⟨t', _, kind, _⟩ := okV_kind (a := a) th.1 noOb
    exact ⟨tb, (plus _ (hd.pl.1.eq q)).imp fun E1 Q1 k => ⟨⟨t', kind⟩, ⟨_, rfl⟩, k⟩⟩
theorem ok__law_joined_right (T : Tx K mg base a d) : FnG false true P w K mg base 16 a.f__law_joined_right d.f__law_joined_right ["_law_made", "_law_thing_here"] (spL (G a) (s_jn a)) := by
  refine fn_okC T.FC__law_joined_right sc__law_joined_right (fun _ _ _ _ ⟨_, _, _, e, _⟩ => len2 e) (fun A outer s H E xs m Q x hr h => ⟨_, (dss_cons (ds_set (i := 2) (ps_set (i := 2) sc__law_joined_right.nd rfl (Or.inl rfl)) (de_lst (da_cons (de_c pe_str (fun _ => .str _)) (da_cons (de_callB (cd_anyr T (hr.mono (show 12 ≤ _ by decide))) (by rfl) T.z_repr boot_repr (da_cons (de_nm (pv 1)) da_nil)) (da_cons (de_c pe_bl (fun _ => .bl _)) da_nil))))) (dss_cons (ds_set (i := 3) (ps_set (i := 3) sc__law_joined_right.nd rfl (Or.inl rfl)) (de_lst (da_cons (de_nm (pv 2)) (da_cons (de_nm (pv 2)) (da_cons (de_nm (pv 2)) da_nil))))) (dss_cons (ds_if (dt_val (de_callB cd_isi (by rfl) T.z_isinstance boot_isinstance (da_cons (de_nm (pv 1)) (da_cons (de_c (pe_glob (v := .ref _) (by rfl) T.m_Span rfl) (fun _ => .ref _)) da_nil)))) (dss_cons (ds_par (i := 8) (j := 9) (ps_par (i := 8) (j := 9) rfl sc__law_joined_right.nd rfl rfl (by decide) rfl rfl · (by rfl)) (da_cons (de_callB (cd_mx (by rfl) hr.u8) (by rfl) T.z_max boot_max (da_cons (de_lst (da_cons (de_callTy (cd_int) (by rfl) T.z_int boot_int (da_cons (de_prop (c := 0) T.c_Span T.p_Span_low (ok_Span_low T).any (hr.mono (show 2 ≤ _ by decide)) T.b_Span_low (de_nm (pv 0))) da_nil)) (da_cons (de_callTy (cd_int) (by rfl) T.z_int boot_int (da_cons (de_prop (c := 0) T.c_Span T.p_Span_low (ok_Span_low T).any (hr.mono (show 2 ≤ _ by decide)) T.b_Span_low (de_nm (pv 1))) da_nil)) da_nil))) da_nil)) (da_cons (de_callB (cd_mn (by rfl) hr.u8) (by rfl) T.z_min boot_min (da_cons (de_lst (da_cons (de_callTy (cd_int) (by rfl) T.z_int boot_int (da_cons (de_prop (c := 0) T.c_Span T.p_Span_high (ok_Span_high T).any (hr.mono (show 2 ≤ _ by decide)) T.b_Span_high (de_nm (pv 0))) da_nil)) (da_cons (de_callTy (cd_int) (by rfl) T.z_int boot_int (da_cons (de_prop (c := 0) T.c_Span T.p_Span_high (ok_Span_high T).any (hr.mono (show 2 ≤ _ by decide)) T.b_Span_high (de_nm (pv 1))) da_nil)) da_nil))) da_nil)) da_nil))) (dss_cons (ds_set (i := 5) (ps_set (i := 5) sc__law_joined_right.nd rfl (Or.inl rfl)) (de_if (dt_cmp (od_le hr.u0) (de_nm (pv 8)) (de_nm (pv 9)) (nomark _)) (de_lst (da_cons (de_c pe_str (fun _ => .str _)) (da_cons (de_call (ok__law_shown T).any (hr.mono (show 1 ≤ _ by decide)) (by rfl) T.m__law_shown T.F__law_shown.kp T.b__law_shown takesG (da_cons (de_nm (pv 8)) (da_cons (de_nm (pv 9)) da_nil))) da_nil))) (de_lst (da_cons (de_c pe_str (fun _ => .str _)) (da_cons (de_callB (cd_anyr T (hr.mono (show 12 ≤ _ by decide))) (by rfl) T.z_repr boot_repr (da_cons (de_tup (da_cons (de_nm (pv 0)) (da_cons (de_nm (pv 1)) da_nil))) da_nil)) (da_cons (de_c pe_bl (fun _ => .bl _)) da_nil)))))) (dss_cons (ds_par (i := 8) (j := 9) (ps_par (i := 8) (j := 9) rfl sc__law_joined_right.nd rfl rfl (by decide) rfl rfl · (by rfl)) (da_cons (de_callB (cd_mn (by rfl) hr.u8) (by rfl) T.z_min boot_min (da_cons (de_lst (da_cons (de_callTy (cd_int) (by rfl) T.z_int boot_int (da_cons (de_prop (c := 0) T.c_Span T.p_Span_low (ok_Span_low T).any (hr.mono (show 2 ≤ _ by decide)) T.b_Span_low (de_nm (pv 0))) da_nil)) (da_cons (de_callTy (cd_int) (by rfl) T.z_int boot_int (da_cons (de_prop (c := 0) T.c_Span T.p_Span_low (ok_Span_low T).any (hr.mono (show 2 ≤ _ by decide)) T.b_Span_low (de_nm (pv 1))) da_nil)) da_nil))) da_nil)) (da_cons (de_callB (cd_mx (by rfl) hr.u8) (by rfl) T.z_max boot_max (da_cons (de_lst (da_cons (de_callTy (cd_int) (by rfl) T.z_int boot_int (da_cons (de_prop (c := 0) T.c_Span T.p_Span_high (ok_Span_high T).any (hr.mono (show 2 ≤ _ by decide)) T.b_Span_high (de_nm (pv 0))) da_nil)) (da_cons (de_callTy (cd_int) (by rfl) T.z_int boot_int (da_cons (de_prop (c := 0) T.c_Span T.p_Span_high (ok_Span_high T).any (hr.mono (show 2 ≤ _ by decide)) T.b_Span_high (de_nm (pv 1))) da_nil)) da_nil))) da_nil)) da_nil))) (dss_cons (ds_set (i := 6) (ps_set (i := 6) sc__law_joined_right.nd rfl (Or.inl rfl)) (de_lst (da_cons (de_c pe_str (fun _ => .str _)) (da_cons (de_call (ok__law_shown T).any (hr.mono (show 1 ≤ _ by decide)) (by rfl) T.m__law_shown T.F__law_shown.kp T.b__law_shown takesG (da_cons (de_nm (pv 8)) (da_cons (de_nm (pv 9)) da_nil))) da_nil)))) (dss_cons (ds_set (i := 7) (ps_set (i := 7) sc__law_joined_right.nd rfl (Or.inl rfl)) (de_and (de_cmp (od_le hr.u0) (de_prop (c := 0) T.c_Span T.p_Span_low (ok_Span_low T).any (hr.mono (show 2 ≤ _ by decide)) T.b_Span_low (de_nm (pv 1))) (de_prop (c := 0) T.c_Span T.p_Span_low (ok_Span_low T).any (hr.mono (show 2 ≤ _ by decide)) T.b_Span_low (de_nm (pv 0))) (nomark _)) (de_one (de_cmp (od_le hr.u0) (de_prop (c := 0) T.c_Span T.p_Span_high (ok_Span_high T).any (hr.mono (show 2 ≤ _ by decide)) T.b_Span_high (de_nm (pv 0))) (de_prop (c := 0) T.c_Span T.p_Span_high (ok_Span_high T).any (hr.mono (show 2 ≤ _ by decide)) T.b_Span_high (de_nm (pv 1))) (nomark _))))) (dss_one (ds_set (i := 3) (ps_set (i := 3) sc__law_joined_right.nd rfl (Or.inl rfl)) (de_lst (da_cons (de_nm (pv 5)) (da_cons (de_nm (pv 6)) (da_cons (de_lst (da_cons (de_c pe_str (fun _ => .str _)) (da_cons (de_callB (cd_anyr T (hr.mono (show 12 ≤ _ by decide))) (by rfl) T.z_repr boot_repr (da_cons (de_nm (pv 7)) da_nil)) da_nil))) da_nil))))))))))) dss_nil) (dss_cons (ds_set (i := 4) (ps_set (i := 4) sc__law_joined_right.nd rfl (Or.inl rfl)) (de_lstM (da_cons (de_lam (k := 13) T.F__law_told sc__law_told (by rfl) T.m__law_told T.F__law_told.kp T.b__law_told rfl (by first | exact Or.inl rfl | exact Or.inr (Or.inl rfl) | exact Or.inr (Or.inr rfl)) (gives_law_told T (by decide)) T.tb__law_joined_right rfl (show (("_law_joined_right" : Str) ++ ".<locals>.") ++ "<lambda>" = ("_law_joined_right.<locals>.<lambda>" : Str) by decide +kernel) (lamS_by (show lamSB (defScope s__law_joined_right) _ = true by decide +kernel)) (by rfl) (fun _ _ _ _ _ => rfl) (hr.mono (show 15 ≤ _ by decide)) (fun A2 outer2 sx2 Hx2 E2 f2 c2 rx => (de_opX (ox_any (c := 0) T.o_Span___and__ T.sf_Span T.rf_Span_and T.rp_Span_and T.by_Span_and (T.b2_Span_and _ _) (ok_Span___and__ T).any (rx.mono (show 6 ≤ _ by decide)) T.b_Span___and__ takesL) (de_nm (pv 0)) (de_nm (pv 1))))) da_nil))) (dss_cons (ds_expr (de_append (de_nm (pv 4)) (de_lam (k := 13) T.F__law_told sc__law_told (by rfl) T.m__law_told T.F__law_told.kp T.b__law_told rfl (by first | exact Or.inl rfl | exact Or.inr (Or.inl rfl) | exact Or.inr (Or.inr rfl)) (gives_law_told T (by decide)) T.tb__law_joined_right rfl (show (("_law_joined_right" : Str) ++ ".<locals>.") ++ "<lambda>" = ("_law_joined_right.<locals>.<lambda>" : Str) by decide +kernel) (lamS_by (show lamSB (defScope s__law_joined_right) _ = true by decide +kernel)) (by rfl) (fun _ _ _ _ _ => rfl) (hr.mono (show 15 ≤ _ by decide)) (fun A2 outer2 sx2 Hx2 E2 f2 c2 rx => (de_opX (ox_any (c := 0) T.o_Span___or__ T.sf_Span T.rf_Span_or T.rp_Span_or T.by_Span_or (T.b2_Span_or _ _) (ok_Span___or__ T).any (rx.mono (show 6 ≤ _ by decide)) T.b_Span___or__ takesL) (de_nm (pv 0)) (de_nm (pv 1))))))) (dss_cons (ds_expr (de_append (de_nm (pv 4)) (de_lam (k := 13) T.F__law_told sc__law_told (by rfl) T.m__law_told T.F__law_told.kp T.b__law_told rfl (by first | exact Or.inl rfl | exact Or.inr (Or.inl rfl) | exact Or.inr (Or.inr rfl)) (gives_law_told T (by decide)) T.tb__law_joined_right rfl (show (("_law_joined_right" : Str) ++ ".<locals>.") ++ "<lambda>" = ("_law_joined_right.<locals>.<lambda>" : Str) by decide +kernel) (lamS_by (show lamSB (defScope s__law_joined_right) _ = true by decide +kernel)) (by rfl) (fun _ _ _ _ _ => rfl) (hr.mono (show 15 ≤ _ by decide)) (fun A2 outer2 sx2 Hx2 E2 f2 c2 rx => (de_meth (c := 0) T.c_Span T.me_Span_is_within rfl (ok_Span_is_within T).any (rx.mono (show 4 ≤ _ by decide)) T.b_Span_is_within takesL (de_nm (pv 0)) (da_cons (de_nm (pv 1)) da_nil)))))) (dss_freeze 4 (dss_one (ds_ret (de_and (de_cmp (od_eq hr.u64) (de_nm (pv 4)) (de_nm (pv 3)) (nomark _)) (de_one (de_cmp (od_eq hr.u64) (de_lam (k := 13) T.F__law_told sc__law_told (by rfl) T.m__law_told T.F__law_told.kp T.b__law_told rfl (by first | exact Or.inl rfl | exact Or.inr (Or.inl rfl) | exact Or.inr (Or.inr rfl)) (gives_law_told T (by decide)) T.tb__law_joined_right rfl (show (("_law_joined_right" : Str) ++ ".<locals>.") ++ "<lambda>" = ("_law_joined_right.<locals>.<lambda>" : Str) by decide +kernel) (lamS_by (show lamSB (defScope s__law_joined_right) _ = true by decide +kernel)) (by rfl) (fun _ _ _ _ _ => rfl) (hr.mono (show 15 ≤ _ by decide)) (fun A2 outer2 sx2 Hx2 E2 f2 c2 rx => (de_methK (c := 0) T.c_Span T.me_Span_is_within rfl (ok_Span_is_within T).any (rx.mono (show 4 ≤ _ by decide)) T.bk_Span_is_within takesL (de_nm (pv 0)) (dk_cons (de_nm (pv 1)) dk_nil)))) (de_ix (de_nm (pv 3)) (de_c pe_int (fun _ => .int _)) (fun _ _ => rfl)) (nomark _))))))))))))), ?_⟩)
  obtain ⟨l, h, v, rfl, le, b, th, tb, q⟩ := h
  simp only [eLam, sSeq, sAsg, gNm, sRet, sRetN, bD, xD, nmD, startD, sIf, DL.tB, DL.tNot, DL.tAnd, DL.tOr, eAnd, eOr, eNot, eIf, isB, sDrop, sNext, sPar, eTup, eLst, eCall, eCB, aNil, aCons, eFld, eFldM, eProp, eMeth, eMethK, eMake, eMakeK, eUn, sFldM, sRaise, addI, addS, addL, subI, negI, mulI, mulL, divI, modI, powI, eqI, neI, eqS, neS, lenL, lenT, lenC, absI, intI, strI, repX, dmI, it0, it1, itL0, itL1, itL2, itL3, itL4, itL5, itL6, itR, eStat, oNone, oSome, eSl, gTp2', gIx, eLstM, eApp, DL.rIn, DL.rNe, eFmt, eJs, eDic0, sNever, mx2, mn2, ltI, leI, gtI, geI, eChain, decide_eq_true_eq, List.map_cons, List.map_nil, List.length_cons, List.length_nil, Nat.reduceAdd, Nat.reduceSub, List.replicate_succ, List.replicate_zero, List.cons_append, List.nil_append, List.getElem?_cons_zero, List.getElem?_cons_succ, List.reverse_cons, List.reverse_nil, Option.some.injEq, exists_eq_left', List.set_cons_zero, List.set_cons_succ, if_true, if_false, Bool.false_eq_true, reduceIte, and_self, true_and, D.bl.injEq, D.ob.injEq, D.int.injEq, D.str.injEq, D.tup.injEq, exists_and_left, exists_eq_left, reduceCtorEq, and_true, lk_low, lk_high, exists_eq', and_self]
  obtain ⟨t, say⟩ := th.2.1
  refine ⟨v, t, rfl, say, smallN (by decide), smallN (by decide), isi_span T th.1 ⟨_, rfl, ?_⟩⟩
  apply share6 (C := fun d0 d1 d2 _ _ _ _ _ => dueJn l h v d0 d1 d2)
  · intro key
    cases e : isO 0 v with
    | true =>
      obtain ⟨l2, h2, hv, le2⟩ := isO_span th.1 e
      have b2 := th.2.2.2 l2 h2 hv
      have f : ∀ {i : Int}, -(10 ^ 60) ≤ i → i ≤ 10 ^ 60 → Few i := fun a b => Sm.few ⟨a, b⟩
      refine iteT ?_
      simp only [get_eq, get_of hv, intI, mxl2, mnl2, leI, sSeq, sAsg, gNm, sRet, sRetN, bD, xD, nmD, startD, sIf, DL.tB, DL.tNot, DL.tAnd, DL.tOr, eAnd, eOr, eNot, eIf, isB, sDrop, sNext, sPar, eTup, eLst, eCall, eCB, aNil, aCons, eFld, eFldM, eProp, eMeth, eMethK, eMake, eMakeK, eUn, sFldM, sRaise, addI, addS, addL, subI, negI, mulI, mulL, divI, modI, powI, eqI, neI, eqS, neS, lenL, lenT, lenC, absI, intI, strI, repX, dmI, it0, it1, itL0, itL1, itL2, itL3, itL4, itL5, itL6, itR, eStat, oNone, oSome, eSl, gTp2', gIx, eLstM, eApp, DL.rIn, DL.rNe, eFmt, eJs, eDic0, sNever, mx2, mn2, ltI, leI, gtI, geI, eChain, decide_eq_true_eq, List.map_cons, List.map_nil, List.length_cons, List.length_nil, Nat.reduceAdd, Nat.reduceSub, List.replicate_succ, List.replicate_zero, List.cons_append, List.nil_append, List.getElem?_cons_zero, List.getElem?_cons_succ, List.reverse_cons, List.reverse_nil, Option.some.injEq, exists_eq_left', List.set_cons_zero, List.set_cons_succ, if_true, if_false, Bool.false_eq_true, reduceIte, and_self, true_and, D.bl.injEq, D.ob.injEq, D.int.injEq, D.str.injEq, D.tup.injEq, exists_and_left, exists_eq_left, reduceCtorEq, and_true, lk_low, lk_high, exists_eq', and_self]
      have say2 : Say (.tup [spv l h, v]) (tupleText [repS l h, repS l2 h2]) := by
        rw [hv]
        exact .two (f (by omega) (by omega)) (f (by omega) (by omega)) (f (by omega) (by omega)) (f (by omega) (by omega))
      refine ⟨small2, small2, ite2 (fun c1 => ?_) (fun c1 => ?_)⟩
      · have na : ¬ aprt l h l2 h2 := by unfold aprt; omega
        refine ⟨_, _, rfl, f (by omega) (by omega), f (by omega) (by omega), small2, small2, small2, _, _, rfl, f (by omega) (by omega), f (by omega) (by omega), small2, ite2 (fun c2 => ?_) (fun c2 => ?_)⟩
        · refine ⟨_, _, rfl, sayB _, small2, smallN (by decide), ?_⟩
          generalize e0 : (D.lst [.str "made", .str (repS (max l l2) (min h h2))]) = d0
          generalize e1 : (D.lst [.str "made", .str (repS (min l l2) (max h h2))]) = d1
          generalize e2 : (D.lst [.str "made", .str (shX (.bl (decide (h ≤ h2))))]) = d2
          generalize (some d0 : Option D) = o1
          generalize (some d1 : Option D) = o2
          generalize (some (D.bl (decide (h ≤ h2))) : Option D) = o3
          generalize (some (D.int (min l l2)) : Option D) = o4
          generalize (some (D.int (max h h2)) : Option D) = o5
          exact key d0 d1 d2 o1 o2 o3 o4 o5 (.inr ⟨l2, h2, hv, le2, .inr ⟨na, f (by omega) (by omega), f (by omega) (by omega), e0.symm⟩, f (by omega) (by omega), f (by omega) (by omega), e1.symm, _, (sayE (by rw [decide_eq_true c2]; rfl)), e2.symm⟩)
        · refine ⟨_, _, rfl, sayB _, small2, smallN (by decide), ?_⟩
          generalize e0 : (D.lst [.str "made", .str (repS (max l l2) (min h h2))]) = d0
          generalize e1 : (D.lst [.str "made", .str (repS (min l l2) (max h h2))]) = d1
          generalize e2 : (D.lst [.str "made", .str (shX (.bl false))]) = d2
          generalize (some d0 : Option D) = o1
          generalize (some d1 : Option D) = o2
          generalize (some (D.bl false) : Option D) = o3
          generalize (some (D.int (min l l2)) : Option D) = o4
          generalize (some (D.int (max h h2)) : Option D) = o5
          exact key d0 d1 d2 o1 o2 o3 o4 o5 (.inr ⟨l2, h2, hv, le2, .inr ⟨na, f (by omega) (by omega), f (by omega) (by omega), e0.symm⟩, f (by omega) (by omega), f (by omega) (by omega), e1.symm, _, (sayE (by rw [decide_eq_false c2]; rfl)), e2.symm⟩)
      · have ya : aprt l h l2 h2 := by unfold aprt; omega
        refine ⟨small2, _, _, rfl, say2, smallN (by decide), small2, small2, _, _, rfl, f (by omega) (by omega), f (by omega) (by omega), small2, ite2 (fun c2 => ?_) (fun c2 => ?_)⟩
        · refine ⟨_, _, rfl, sayB _, small2, smallN (by decide), ?_⟩
          generalize e0 : (D.lst [.str "apart", .str (tupleText [repS l h, repS l2 h2]), .bl true]) = d0
          generalize e1 : (D.lst [.str "made", .str (repS (min l l2) (max h h2))]) = d1
          generalize e2 : (D.lst [.str "made", .str (shX (.bl (decide (h ≤ h2))))]) = d2
          generalize (some d0 : Option D) = o1
          generalize (some d1 : Option D) = o2
          generalize (some (D.bl (decide (h ≤ h2))) : Option D) = o3
          generalize (some (D.int (min l l2)) : Option D) = o4
          generalize (some (D.int (max h h2)) : Option D) = o5
          exact key d0 d1 d2 o1 o2 o3 o4 o5 (.inr ⟨l2, h2, hv, le2, .inl ⟨ya, _, say2, e0.symm⟩, f (by omega) (by omega), f (by omega) (by omega), e1.symm, _, (sayE (by rw [decide_eq_true c2]; rfl)), e2.symm⟩)
        · refine ⟨_, _, rfl, sayB _, small2, smallN (by decide), ?_⟩
          generalize e0 : (D.lst [.str "apart", .str (tupleText [repS l h, repS l2 h2]), .bl true]) = d0
          generalize e1 : (D.lst [.str "made", .str (repS (min l l2) (max h h2))]) = d1
          generalize e2 : (D.lst [.str "made", .str (shX (.bl false))]) = d2
          generalize (some d0 : Option D) = o1
          generalize (some d1 : Option D) = o2
          generalize (some (D.bl false) : Option D) = o3
          generalize (some (D.int (min l l2)) : Option D) = o4
          generalize (some (D.int (max h h2)) : Option D) = o5
          exact key d0 d1 d2 o1 o2 o3 o4 o5 (.inr ⟨l2, h2, hv, le2, .inl ⟨ya, _, say2, e0.symm⟩, f (by omega) (by omega), f (by omega) (by omega), e1.symm, _, (sayE (by rw [decide_eq_false c2]; rfl)), e2.symm⟩)
    | false =>
      refine iteF ?_
      exact key _ _ _ _ _ _ _ _ (.inl ⟨e, t, say, rfl, rfl, rfl⟩)
  · intro d0 d1 d2 o1 o2 o3 o4 o5 hd
    have tn : ∀ {m : M} {p : Addr} {u : MO}, m p = none → m a.t__law_joined_right = some (.tbl "_law_joined_right.<locals>.<lambda>") → mset m p u a.t__law_joined_right = some (.tbl "_law_joined_right.<locals>.<lambda>") := fun {m p u} hp ht => by
      rw [mset_ne]
      · exact ht
      · intro z
        rw [z, hp] at ht
        cases ht
    have tb := tb.2.2.2.1
    have bad : isO 0 v = false → ∃ t, Say v t ∧ d0 = spn t ∧ d1 = spn t ∧ d2 = spn t := fun e => by
      rcases hd with ⟨_, t, h⟩ | ⟨l2, h2, rfl, _⟩
      · exact ⟨t, h⟩
      · cases e
    have good : ∀ l2 h2, v = spv l2 h2 → ((aprt l h l2 h2 → ∃ t, Say (.tup [spv l h, spv l2 h2]) t ∧ d0 = .lst [.str "apart", .str t, .bl true]) ∧ (¬ aprt l h l2 h2 → Few (max l l2) ∧ Few (min h h2) ∧ d0 = mde (repS (max l l2) (min h h2)))) ∧
        (∃ t, Say (spv (min l l2) (max h h2)) t ∧ d1 = mde t) ∧ ∃ t, Say (.bl (decide (l2 ≤ l) && decide (h ≤ h2))) t ∧ d2 = mde t := fun l2 h2 e => by
      subst e
      rcases hd with ⟨e', _⟩ | ⟨l', h', e', _, first, f1, f2, e1, second⟩
      · cases e'
      · cases e'
        refine ⟨⟨fun c => ?_, fun c => ?_⟩, ⟨_, .span f1 f2, e1⟩, second⟩
        · rcases first with ⟨_, x⟩ | ⟨c', _⟩
          · exact x
          · exact absurd c c'
        · rcases first with ⟨c', _⟩ | ⟨_, x⟩
          · exact absurd c' c
          · exact x
    have p0 : Pn 1 d0 := by
      rcases hd with ⟨_, t, say, rfl, _⟩ | ⟨_, _, _, _, ⟨_, t, say, rfl⟩ | ⟨_, _, _, rfl⟩, _⟩
      · exact Pn.lst (.cons (.str (oks_lit (by decide +kernel))) (.cons (.str say.oks) (.cons (.bl _) .nil)))
      · exact Pn.lst (.cons (.str (oks_lit (by decide +kernel))) (.cons (.str say.oks) (.cons (.bl _) .nil)))
      · exact Pn.lst (.cons (.str (oks_lit (by decide +kernel))) (.cons (.str oks_repS) .nil))
    have p1 : Pn 1 d1 := by
      rcases hd with ⟨_, t, say, _, rfl, _⟩ | ⟨_, _, _, _, _, _, _, rfl, _⟩
      · exact Pn.lst (.cons (.str (oks_lit (by decide +kernel))) (.cons (.str say.oks) (.cons (.bl _) .nil)))
      · exact Pn.lst (.cons (.str (oks_lit (by decide +kernel))) (.cons (.str oks_repS) .nil))
    have p2 : Pn 1 d2 ∧ scl d2 = false := by
      rcases hd with ⟨_, t, say, _, _, rfl⟩ | ⟨_, _, _, _, _, _, _, _, t, say, rfl⟩
      · exact ⟨Pn.lst (.cons (.str (oks_lit (by decide +kernel))) (.cons (.str say.oks) (.cons (.bl _) .nil))), rfl⟩
      · exact ⟨Pn.lst (.cons (.str (oks_lit (by decide +kernel))) (.cons (.str say.oks) .nil)), rfl⟩
    have all : Pn 2 (.lst [d0, d1, d2]) := Pn.lst (.cons p0 (.cons p1 (.cons p2.1 .nil)))
    have one : ∀ {m : M} (Q : DK), Q d2 m → TTold (fun x' m' Q' => s_two (fun l h l2 h2 => .bl (decide (l2 ≤ l) && decide (h ≤ h2))) [spv l h, v] m' Q' x') m Q := fun Q q => told_two le th.1 (fun e => let ⟨t, say, _, _, e2⟩ := bad e; ⟨t, say, e2⟩) (fun l2 h2 e => (good l2 h2 e).2.2) q
    refine ⟨tb, (told_and le th.1 (fun e => let ⟨t, say, e0, _⟩ := bad e; ⟨t, say, e0⟩) (fun l2 h2 e => (good l2 h2 e).1) ⟨smallN (by decide), fun p hp => ⟨p, rfl, _, mset_same, tn hp tb, ?_⟩⟩).imp fun E1 Q1 k => ⟨⟨_, rfl⟩, beside0 th.1, k⟩⟩
    refine (told_two le th.1 (fun e => let ⟨t, say, _, e1, _⟩ := bad e; ⟨t, say, e1⟩) (fun l2 h2 e => (good l2 h2 e).2.1) ⟨_, mset_same, (show 1 < sizeLine by decide), p, rfl, _, mset_same, ?_⟩).imp fun E1 Q1 k => ⟨⟨_, rfl⟩, beside0 th.1, k⟩
    rw [mset_mset]
    refine ⟨tn hp tb, one _ ⟨_, mset_same, (show 2 < sizeLine by decide), ?_⟩⟩
    rw [mset_mset]
    refine ⟨p, _, rfl, mset_same, ?_⟩
    rw [mdel_mset hp]
    simp only [eLam, sSeq, sAsg, gNm, sRet, sRetN, bD, xD, nmD, startD, sIf, DL.tB, DL.tNot, DL.tAnd, DL.tOr, eAnd, eOr, eNot, eIf, isB, sDrop, sNext, sPar, eTup, eLst, eCall, eCB, aNil, aCons, eFld, eFldM, eProp, eMeth, eMethK, eMake, eMakeK, eUn, sFldM, sRaise, addI, addS, addL, subI, negI, mulI, mulL, divI, modI, powI, eqI, neI, eqS, neS, lenL, lenT, lenC, absI, intI, strI, repX, dmI, it0, it1, itL0, itL1, itL2, itL3, itL4, itL5, itL6, itR, eStat, oNone, oSome, eSl, gTp2', gIx, eLstM, eApp, DL.rIn, DL.rNe, eFmt, eJs, eDic0, sNever, mx2, mn2, ltI, leI, gtI, geI, eChain, decide_eq_true_eq, List.map_cons, List.map_nil, List.length_cons, List.length_nil, Nat.reduceAdd, Nat.reduceSub, List.replicate_succ, List.replicate_zero, List.cons_append, List.nil_append, List.getElem?_cons_zero, List.getElem?_cons_succ, List.reverse_cons, List.reverse_nil, Option.some.injEq, exists_eq_left', List.set_cons_zero, List.set_cons_succ, if_true, if_false, Bool.false_eq_true, reduceIte, and_self, true_and, D.bl.injEq, D.ob.injEq, D.int.injEq, D.str.injEq, D.tup.injEq, exists_and_left, exists_eq_left, reduceCtorEq, and_true, lk_low, lk_high, exists_eq', and_self]
    obtain ⟨k1, k2⟩ := all.ok (by decide) rfl
    refine ⟨k1, _, rfl, ?_⟩
    rw [k2]
    exact iteT ⟨tb, one _ ((show Pl d2 from p2.1.ok (by decide) p2.2).eq q)⟩
theorem ok__law_unlike_right (T : Tx K mg base a d) : FnG false true P w K mg base 13 a.f__law_unlike_right d.f__law_unlike_right ["_law_made", "_law_thing_here"] (spL (G a) (s_un a)) := by
  refine fn_okG T.F__law_unlike_right sc__law_unlike_right (fun _ _ _ _ ⟨_, _, _, e, _⟩ => len2 e) (fun cdv A outer s H E xs m Q x hr h => ⟨_, (dss_cons (ds_if (dt_val (de_callB cd_isi (by rfl) T.z_isinstance boot_isinstance (da_cons (de_nm (pv 1)) (da_cons (de_c (pe_glob (v := .ref _) (by rfl) T.m_Span rfl) (fun _ => .ref _)) da_nil)))) (dss_one (ds_ret (de_cmp (od_eq hr.u64) (de_callB (cd_anyr T (hr.mono (show 12 ≤ _ by decide))) (by rfl) T.z_repr boot_repr (da_cons (de_lst (da_cons (de_cmpX (ox_eqL (c := 0) T.o_Span___eq__ T.nb_Span (ok_Span___eq__ T).any (hr.mono (show 1 ≤ _ by decide)) T.b_Span___eq__ takesG) (de_nm (pv 0)) (de_nm (pv 1)) (nomark _)) (da_cons (de_cmpX (ox_neL (c := 0) T.ne_Span T.o_Span___eq__ T.ob_Span T.nb_Span (ok_Span___eq__ T).any (hr.mono (show 2 ≤ _ by decide)) T.b_Span___eq__ takesG) (de_nm (pv 0)) (de_nm (pv 1)) (nomark _)) da_nil))) da_nil)) (de_callB (cd_anyr T (hr.mono (show 12 ≤ _ by decide))) (by rfl) T.z_repr boot_repr (da_cons (de_lst (da_cons (de_cmp (od_eq hr.u64) (de_callB (cd_anyr T (hr.mono (show 12 ≤ _ by decide))) (by rfl) T.z_repr boot_repr (da_cons (de_nm (pv 0)) da_nil)) (de_callB (cd_anyr T (hr.mono (show 12 ≤ _ by decide))) (by rfl) T.z_repr boot_repr (da_cons (de_nm (pv 1)) da_nil)) (nomark _)) (da_cons (de_cmp (od_ne hr.u64) (de_callB (cd_anyr T (hr.mono (show 12 ≤ _ by decide))) (by rfl) T.z_repr boot_repr (da_cons (de_nm (pv 0)) da_nil)) (de_callB (cd_anyr T (hr.mono (show 12 ≤ _ by decide))) (by rfl) T.z_repr boot_repr (da_cons (de_nm (pv 1)) da_nil)) (nomark _)) da_nil))) da_nil)) (nomark _)))) dss_nil) (dss_cons (ds_set (i := 2) (ps_set (i := 2) sc__law_unlike_right.nd rfl (Or.inl rfl)) (de_lst (da_cons (de_cmpX (ox_eqL (c := 0) T.o_Span___eq__ T.nb_Span (ok_Span___eq__ T).any (hr.mono (show 1 ≤ _ by decide)) T.b_Span___eq__ takesG) (de_nm (pv 0)) (de_nm (pv 1)) (nomark _)) (da_cons (de_cmpX (OpX.or (ox_eqR (c := 0) T.o_Span___eq__ T.nB_Span (ok_Span___eq__ T).any (hr.mono (show 1 ≤ _ by decide)) T.b_Span___eq__ takesG) (ox_eqL (c := 5) T.o_Net___eq__ T.nb_Net (ok_Net___eq__ T).any (hr.mono (show 1 ≤ _ by decide)) T.b_Net___eq__ takesG)) (de_nm (pv 1)) (de_nm (pv 0)) (nomark _)) (da_cons (de_cmpX (ox_neL (c := 0) T.ne_Span T.o_Span___eq__ T.ob_Span T.nb_Span (ok_Span___eq__ T).any (hr.mono (show 2 ≤ _ by decide)) T.b_Span___eq__ takesG) (de_nm (pv 0)) (de_nm (pv 1)) (nomark _)) (da_cons (de_cmpX (OpX.or (ox_neR (c := 0) T.ne_Span T.o_Span___eq__ T.ob_Span T.nB_Span (ok_Span___eq__ T).any (hr.mono (show 2 ≤ _ by decide)) T.b_Span___eq__ takesG) (ox_neL (c := 5) T.ne_Net T.o_Net___eq__ T.ob_Net T.nb_Net (ok_Net___eq__ T).any (hr.mono (show 2 ≤ _ by decide)) T.b_Net___eq__ takesG)) (de_nm (pv 1)) (de_nm (pv 0)) (nomark _)) da_nil)))))) (dss_one (ds_ret (de_cmp (od_eq hr.u64) (de_callB (cd_anyr T (hr.mono (show 12 ≤ _ by decide))) (by rfl) T.z_repr boot_repr (da_cons (de_nm (pv 2)) da_nil)) (de_c pe_str (fun _ => .str _)) (nomark _)))))), ?_⟩)
  obtain ⟨l, h, v, rfl, le, b, th, q⟩ := h
  simp only [eLam, sSeq, sAsg, gNm, sRet, sRetN, bD, xD, nmD, startD, sIf, DL.tB, DL.tNot, DL.tAnd, DL.tOr, eAnd, eOr, eNot, eIf, isB, sDrop, sNext, sPar, eTup, eLst, eCall, eCB, aNil, aCons, eFld, eFldM, eProp, eMeth, eMethK, eMake, eMakeK, eUn, sFldM, sRaise, addI, addS, addL, subI, negI, mulI, mulL, divI, modI, powI, eqI, neI, eqS, neS, lenL, lenT, lenC, absI, intI, strI, repX, dmI, it0, it1, itL0, itL1, itL2, itL3, itL4, itL5, itL6, itR, eStat, oNone, oSome, eSl, gTp2', gIx, eLstM, eApp, DL.rIn, DL.rNe, eFmt, eJs, eDic0, sNever, mx2, mn2, ltI, leI, gtI, geI, eChain, decide_eq_true_eq, List.map_cons, List.map_nil, List.length_cons, List.length_nil, Nat.reduceAdd, Nat.reduceSub, List.replicate_succ, List.replicate_zero, List.cons_append, List.nil_append, List.getElem?_cons_zero, List.getElem?_cons_succ, List.reverse_cons, List.reverse_nil, Option.some.injEq, exists_eq_left', List.set_cons_zero, List.set_cons_succ, if_true, if_false, Bool.false_eq_true, reduceIte, and_self, true_and, D.bl.injEq, D.ob.injEq, D.int.injEq, D.str.injEq, D.tup.injEq, exists_and_left, exists_eq_left, reduceCtorEq, and_true, lk_low, lk_high, exists_eq', and_self]
  have f : ∀ {i : Int}, -(10 ^ 60) ≤ i → i ≤ 10 ^ 60 → Few i := fun a b => Sm.few ⟨a, b⟩
  have mark : ∀ {bs : List Bool}, bs.length ≤ 4 → Say (.lst (bs.map D.bl)) (shX (.lst (bs.map D.bl))) := fun {bs} h => .plain (.inl (okRb (by omega))) (oks_shown _ (lay_bls bs))
  refine isi_span T th.1 ⟨_, rfl, ?_⟩
  cases e : isO 0 v with
  | true =>
    obtain ⟨l2, h2, rfl, le2⟩ := isO_span th.1 e
    have b2 := th.2.2.2 l2 h2 rfl
    have same : decide (repS l h = repS l2 h2) = eqSp l h (spv l2 h2) := by
      show _ = (decide (l = l2) && decide (h = h2))
      by_cases c : l = l2 ∧ h = h2
      · obtain ⟨rfl, rfl⟩ := c
        simp
      · rw [decide_eq_false (p := repS l h = repS l2 h2) (fun z => c (pair_text (p := "Span(") (q := ")") z))]
        by_cases c1 : l = l2
        · rw [decide_eq_false (fun z => c ⟨c1, z⟩), Bool.and_false]
        · rw [decide_eq_false c1, Bool.false_and]
    refine iteT ⟨⟨_, rfl⟩, beside0 th.1, l, h, _, rfl, th.1, ⟨_, rfl⟩, beside0 th.1, l, h, _, rfl, th.1, _, rfl, small2, ?_⟩
    refine ⟨_, _, rfl, mark (bs := [eqSp l h (spv l2 h2), !eqSp l h (spv l2 h2)]) (show 2 ≤ 4 by decide), _, _, rfl, .span (f (by omega) (by omega)) (f (by omega) (by omega)), _, _, rfl, .span (f (by omega) (by omega)) (f (by omega) (by omega)), ?_⟩
    (try dsimp only)
    rw [eqS]
    refine ⟨_, _, rfl, .span (f (by omega) (by omega)) (f (by omega) (by omega)), _, _, rfl, .span (f (by omega) (by omega)) (f (by omega) (by omega)), ?_⟩
    (try dsimp only)
    rw [neS, same]
    refine ⟨small2, _, _, rfl, mark (bs := [eqSp l h (spv l2 h2), !eqSp l h (spv l2 h2)]) (show 2 ≤ 4 by decide), ?_⟩
    show eqD (.str _) (.str _) m Q
    rw [eqS, decide_eq_true rfl]
    exact q
  | false =>
    have no : eqSp l h v = false := by
      cases v <;> first | rfl | skip
      rcases okV_ob th.1 with ⟨l2, h2, z, _⟩ | z
      · cases z; cases e
      · cases z; rfl
    have text : shX (.lst [.bl false, .bl false, .bl true, .bl true]) = ("[False, False, True, True]" : Str) := by decide +kernel
    have fin : 4 ≤ sizeLine ∧ anyR [D.lst [.bl false, .bl false, .bl true, .bl true]] m fun p m1 => eqD p (.str "[False, False, True, True]") m1 Q := by
      refine ⟨smallN (by decide), _, _, rfl, mark (bs := [false, false, true, true]) (by decide), ?_⟩
      show eqD (.str (shX (.lst [.bl false, .bl false, .bl true, .bl true]))) _ m Q
      rw [text, eqS, decide_eq_true rfl]
      exact q
    refine iteF ⟨⟨_, rfl⟩, beside0 th.1, l, h, _, rfl, th.1, ?_⟩
    rw [no]
    by_cases isOb : ∃ c ys, v = .ob c ys
    · obtain ⟨c, ys, rfl⟩ := isOb
      rcases okV_ob th.1 with ⟨l2, h2, z, _⟩ | z
      · cases z; cases e
      · cases z
        refine .inr ⟨⟨_, rfl⟩, .inr ⟨0, _, rfl, .inr (by simp)⟩, spv l h, rfl, okV_sp le, rfl, ⟨_, rfl⟩, beside0 th.1, l, h, _, rfl, th.1, _, rfl, ?_⟩
        rw [no]
        exact .inr ⟨⟨_, rfl⟩, .inr ⟨0, _, rfl, .inr (by simp)⟩, spv l h, rfl, okV_sp le, rfl, _, rfl, fin⟩
    · obtain ⟨t, _, kind, _⟩ := okV_kind (a := a) th.1 fun c ys z => isOb ⟨c, ys, z⟩
      refine .inl ⟨⟨t, kind⟩, ⟨_, rfl⟩, l, h, v, rfl, th.1, ?_⟩
      rw [no]
      refine ⟨⟨_, rfl⟩, beside0 th.1, l, h, _, rfl, th.1, _, rfl, ?_⟩
      rw [no]
      refine .inl ⟨⟨t, kind⟩, ⟨_, rfl⟩, l, h, v, rfl, th.1, _, rfl, ?_⟩
      rw [no]
      exact fin
theorem ok__law_apart_right (T : Tx K mg base a d) : FnG false true P w K mg base 16 a.f__law_apart_right d.f__law_apart_right ["_law_pot_here", "_law_base"] (spL (G a) (s_ap a)) := by
  refine fn_okC T.FC__law_apart_right sc__law_apart_right (fun _ _ _ _ ⟨_, _, e, _⟩ => len2 e) (fun A outer s H E xs m Q x hr h => ⟨_, (dss_cons (ds_asg (de_tup (da_cons (de_op od_add (de_c pe_int (fun _ => .int _)) (de_call (ok__law_draw T).any (hr.mono (show 1 ≤ _ by decide)) (by rfl) T.m__law_draw T.F__law_draw.kp T.b__law_draw takesG (da_cons (de_nm (pv 0)) (da_cons (de_c pe_int (fun _ => .int _)) da_nil)))) (da_cons (de_call (ok__law_draw T).any (hr.mono (show 1 ≤ _ by decide)) (by rfl) T.m__law_draw T.F__law_draw.kp T.b__law_draw takesG (da_cons (de_nm (pv 0)) (da_cons (de_c pe_int (fun _ => .int _)) da_nil))) da_nil))) (dg_tup (n := 2) rfl (dgs_cons (dg_name (pg_name (i := 4) sc__law_apart_right.nd rfl (Or.inr rfl))) (dgs_cons (dg_name (pg_name (i := 5) sc__law_apart_right.nd rfl (Or.inl rfl))) dgs_nil)))) (dss_cons (ds_asg (de_tup (da_cons (de_make (c := 0) T.M_Span (ok_Span___init__ T).any (hr.mono (show 5 ≤ _ by decide)) (by rfl) T.m_Span T.b_Span___init__ takesG (da_cons (de_op od_sub (de_nm (pv 1)) (de_nm (pv 5))) (da_cons (de_nm (pv 1)) da_nil))) (da_cons (de_make (c := 0) T.M_Span (ok_Span___init__ T).any (hr.mono (show 5 ≤ _ by decide)) (by rfl) T.m_Span T.b_Span___init__ takesG (da_cons (de_op od_add (de_nm (pv 1)) (de_nm (pv 4))) (da_cons (de_op od_add (de_op od_add (de_nm (pv 1)) (de_nm (pv 4))) (de_nm (pv 5))) da_nil))) da_nil))) (dg_tup (n := 2) rfl (dgs_cons (dg_name (pg_name (i := 6) sc__law_apart_right.nd rfl (Or.inr rfl))) (dgs_cons (dg_name (pg_name (i := 7) sc__law_apart_right.nd rfl (Or.inr rfl))) dgs_nil)))) (dss_cons (ds_set (i := 2) (ps_set (i := 2) sc__law_apart_right.nd rfl (Or.inl rfl)) (de_lstM (da_cons (de_lam (k := 13) T.F__law_told sc__law_told (by rfl) T.m__law_told T.F__law_told.kp T.b__law_told rfl (by first | exact Or.inl rfl | exact Or.inr (Or.inl rfl) | exact Or.inr (Or.inr rfl)) (gives_law_told T (by decide)) T.tb__law_apart_right rfl (show (("_law_apart_right" : Str) ++ ".<locals>.") ++ "<lambda>" = ("_law_apart_right.<locals>.<lambda>" : Str) by decide +kernel) (lamS_by (show lamSB (defScope s__law_apart_right) _ = true by decide +kernel)) (by rfl) (fun _ _ _ _ _ => rfl) (hr.mono (show 15 ≤ _ by decide)) (fun A2 outer2 sx2 Hx2 E2 f2 c2 rx => (de_opX (ox_any (c := 0) T.o_Span___and__ T.sf_Span T.rf_Span_and T.rp_Span_and T.by_Span_and (T.b2_Span_and _ _) (ok_Span___and__ T).any (rx.mono (show 6 ≤ _ by decide)) T.b_Span___and__ takesL) (de_nm (pv 6)) (de_nm (pv 7))))) da_nil))) (dss_cons (ds_expr (de_append (de_nm (pv 2)) (de_lam (k := 13) T.F__law_told sc__law_told (by rfl) T.m__law_told T.F__law_told.kp T.b__law_told rfl (by first | exact Or.inl rfl | exact Or.inr (Or.inl rfl) | exact Or.inr (Or.inr rfl)) (gives_law_told T (by decide)) T.tb__law_apart_right rfl (show (("_law_apart_right" : Str) ++ ".<locals>.") ++ "<lambda>" = ("_law_apart_right.<locals>.<lambda>" : Str) by decide +kernel) (lamS_by (show lamSB (defScope s__law_apart_right) _ = true by decide +kernel)) (by rfl) (fun _ _ _ _ _ => rfl) (hr.mono (show 15 ≤ _ by decide)) (fun A2 outer2 sx2 Hx2 E2 f2 c2 rx => (de_opX (ox_any (c := 0) T.o_Span___and__ T.sf_Span T.rf_Span_and T.rp_Span_and T.by_Span_and (T.b2_Span_and _ _) (ok_Span___and__ T).any (rx.mono (show 6 ≤ _ by decide)) T.b_Span___and__ takesL) (de_nm (pv 7)) (de_nm (pv 6))))))) (dss_cons (ds_expr (de_append (de_nm (pv 2)) (de_lam (k := 13) T.F__law_told sc__law_told (by rfl) T.m__law_told T.F__law_told.kp T.b__law_told rfl (by first | exact Or.inl rfl | exact Or.inr (Or.inl rfl) | exact Or.inr (Or.inr rfl)) (gives_law_told T (by decide)) T.tb__law_apart_right rfl (show (("_law_apart_right" : Str) ++ ".<locals>.") ++ "<lambda>" = ("_law_apart_right.<locals>.<lambda>" : Str) by decide +kernel) (lamS_by (show lamSB (defScope s__law_apart_right) _ = true by decide +kernel)) (by rfl) (fun _ _ _ _ _ => rfl) (hr.mono (show 15 ≤ _ by decide)) (fun A2 outer2 sx2 Hx2 E2 f2 c2 rx => (de_opX (ox_any (c := 0) T.o_Span___and__ T.sf_Span T.rf_Span_and T.rp_Span_and T.by_Span_and (T.b2_Span_and _ _) (ok_Span___and__ T).any (rx.mono (show 6 ≤ _ by decide)) T.b_Span___and__ takesL) (de_nm (pv 6)) (de_opX (ox_any (c := 0) T.o_Span___sub__ T.sf_Span T.rf_Span_sub T.rp_Span_sub T.by_Span_sub (T.b2_Span_sub _ _) (ok_Span___sub__ T).any (rx.mono (show 6 ≤ _ by decide)) T.b_Span___sub__ takesL) (de_nm (pv 7)) (de_nm (pv 4)))))))) (dss_freeze 2 (dss_cons (ds_set (i := 3) (ps_set (i := 3) sc__law_apart_right.nd rfl (Or.inl rfl)) (de_lst (da_cons (de_lst (da_cons (de_c pe_str (fun _ => .str _)) (da_cons (de_callB (cd_anyr T (hr.mono (show 12 ≤ _ by decide))) (by rfl) T.z_repr boot_repr (da_cons (de_tup (da_cons (de_nm (pv 6)) (da_cons (de_nm (pv 7)) da_nil))) da_nil)) (da_cons (de_c pe_bl (fun _ => .bl _)) da_nil)))) (da_cons (de_lst (da_cons (de_c pe_str (fun _ => .str _)) (da_cons (de_callB (cd_anyr T (hr.mono (show 12 ≤ _ by decide))) (by rfl) T.z_repr boot_repr (da_cons (de_tup (da_cons (de_nm (pv 7)) (da_cons (de_nm (pv 6)) da_nil))) da_nil)) (da_cons (de_c pe_bl (fun _ => .bl _)) da_nil)))) da_nil)))) (dss_one (ds_ret (de_cmp (od_eq hr.u64) (de_nm (pv 2)) (de_op od_add (de_nm (pv 3)) (de_lst (da_cons (de_lst (da_cons (de_c pe_str (fun _ => .str _)) (da_cons (de_call (ok__law_shown T).any (hr.mono (show 1 ≤ _ by decide)) (by rfl) T.m__law_shown T.F__law_shown.kp T.b__law_shown takesG (da_cons (de_nm (pv 1)) (da_cons (de_nm (pv 1)) da_nil))) da_nil))) da_nil))) (nomark _))))))))))), ?_⟩)
  obtain ⟨p, b, rfl, ⟨b0, b1⟩, hp, tb, q⟩ := h
  simp only [eLam, sSeq, sAsg, gNm, sRet, sRetN, bD, xD, nmD, startD, sIf, DL.tB, DL.tNot, DL.tAnd, DL.tOr, eAnd, eOr, eNot, eIf, isB, sDrop, sNext, sPar, eTup, eLst, eCall, eCB, aNil, aCons, eFld, eFldM, eProp, eMeth, eMethK, eMake, eMakeK, eUn, sFldM, sRaise, addI, addS, addL, subI, negI, mulI, mulL, divI, modI, powI, eqI, neI, eqS, neS, lenL, lenT, lenC, absI, intI, strI, repX, dmI, it0, it1, itL0, itL1, itL2, itL3, itL4, itL5, itL6, itR, eStat, oNone, oSome, eSl, gTp2', gIx, eLstM, eApp, DL.rIn, DL.rNe, eFmt, eJs, eDic0, sNever, mx2, mn2, ltI, leI, gtI, geI, eChain, decide_eq_true_eq, List.map_cons, List.map_nil, List.length_cons, List.length_nil, Nat.reduceAdd, Nat.reduceSub, List.replicate_succ, List.replicate_zero, List.cons_append, List.nil_append, List.getElem?_cons_zero, List.getElem?_cons_succ, List.reverse_cons, List.reverse_nil, Option.some.injEq, exists_eq_left', List.set_cons_zero, List.set_cons_succ, if_true, if_false, Bool.false_eq_true, reduceIte, and_self, true_and, D.bl.injEq, D.ob.injEq, D.int.injEq, D.str.injEq, D.tup.injEq, exists_and_left, exists_eq_left, reduceCtorEq, and_true, lk_low, lk_high, exists_eq', and_self]
  have f : ∀ {i : Int}, -(10 ^ 60) ≤ i → i ≤ 10 ^ 60 → Few i := fun a b => Sm.few ⟨a, b⟩
  refine ⟨p, 3, rfl, by decide, by decide, hp, fun i m1 i0 i1 s1 => ?_⟩
  (try dsimp only)
  rw [addI]
  refine ⟨p, 4, rfl, by decide, by decide, s1.pot, fun j m2 j0 j1 s2 => ⟨small2, ?_⟩⟩
  have st := s1.trans s2
  have tb := (Pst.tbs tb hp st).2.2.2.2
  (try dsimp only)
  rw [subI]
  refine mk_span (by omega) ?_
  (try dsimp only)
  rw [addI, addI, addI]
  refine mk_span (by omega) ⟨small2, tb, ?_⟩
  have tn : ∀ {m : M} {p : Addr} {u : MO}, m p = none → m a.t__law_apart_right = some (.tbl "_law_apart_right.<locals>.<lambda>") → mset m p u a.t__law_apart_right = some (.tbl "_law_apart_right.<locals>.<lambda>") := fun {m p u} hp ht => by
    rw [mset_ne]
    · exact ht
    · intro z
      rw [z, hp] at ht
      cases ht
  have lA : b - j ≤ b := by omega
  have lB : b + (1 + i) ≤ b + (1 + i) + j := by omega
  have fA1 : Few (b - j) := f (by omega) (by omega)
  have fA2 : Few b := f (by omega) (by omega)
  have fB1 : Few (b + (1 + i)) := f (by omega) (by omega)
  have fB2 : Few (b + (1 + i) + j) := f (by omega) (by omega)
  have say1 := Say.two fA1 fA2 fB1 fB2
  have say2 := Say.two fB1 fB2 fA1 fA2
  have ap1 : aprt (b - j) b (b + (1 + i)) (b + (1 + i) + j) := by unfold aprt; omega
  have ap2 : aprt (b + (1 + i)) (b + (1 + i) + j) (b - j) b := by unfold aprt; omega
  have ap3 : ¬ aprt (b - j) b (b + (1 + i) - (1 + i)) (b + (1 + i) + j - (1 + i)) := by unfold aprt; omega
  refine (told_and (d := .lst [.str "apart", .str _, .bl true]) lA (okV_sp lB) (fun e => by cases e) (fun l2 h2 e => by cases e; exact ⟨fun _ => ⟨_, say1, rfl⟩, fun c => absurd ap1 c⟩) ⟨smallN (by decide), fun r hr => ⟨r, rfl, _, mset_same, tn hr tb, ?_⟩⟩).imp fun E1 Q1 k => ⟨⟨_, rfl⟩, beside0 (okV_sp lB), k⟩
  refine (told_and (d := .lst [.str "apart", .str _, .bl true]) lB (okV_sp lA) (fun e => by cases e) (fun l2 h2 e => by cases e; exact ⟨fun _ => ⟨_, say2, rfl⟩, fun c => absurd ap2 c⟩) ⟨_, mset_same, (show 1 < sizeLine by decide), r, rfl, _, mset_same, ?_⟩).imp fun E1 Q1 k => ⟨⟨_, rfl⟩, beside0 (okV_sp lA), k⟩
  rw [mset_mset]
  refine ⟨tn hr tb, (told_and (d := mde (repS b b)) lA (okV_sp (l := b + (1 + i) - (1 + i)) (h := b + (1 + i) + j - (1 + i)) (by omega)) (fun e => by cases e) (fun l2 h2 e => by cases e; exact ⟨fun c => absurd c ap3, fun _ => by
    rw [show max (b - j) (b + (1 + i) - (1 + i)) = b by omega, show min b (b + (1 + i) + j - (1 + i)) = b by omega]
    exact ⟨fA2, fA2, rfl⟩⟩) ⟨_, mset_same, (show 2 < sizeLine by decide), ?_⟩).imp fun E1 Q1 k => ⟨⟨_, rfl⟩, beside0 (v := .int (1 + i)) True.intro, _, _, .int (1 + i), rfl, lB, True.intro, (fun e => by cases e), fun n e => by cases e; exact ⟨⟨_, rfl⟩, beside0 (okV_sp (by omega)), k⟩⟩⟩
  rw [mset_mset]
  refine ⟨r, _, rfl, mset_same, ?_⟩
  rw [mdel_mset hr]
  simp only [eLam, sSeq, sAsg, gNm, sRet, sRetN, bD, xD, nmD, startD, sIf, DL.tB, DL.tNot, DL.tAnd, DL.tOr, eAnd, eOr, eNot, eIf, isB, sDrop, sNext, sPar, eTup, eLst, eCall, eCB, aNil, aCons, eFld, eFldM, eProp, eMeth, eMethK, eMake, eMakeK, eUn, sFldM, sRaise, addI, addS, addL, subI, negI, mulI, mulL, divI, modI, powI, eqI, neI, eqS, neS, lenL, lenT, lenC, absI, intI, strI, repX, dmI, it0, it1, itL0, itL1, itL2, itL3, itL4, itL5, itL6, itR, eStat, oNone, oSome, eSl, gTp2', gIx, eLstM, eApp, DL.rIn, DL.rNe, eFmt, eJs, eDic0, sNever, mx2, mn2, ltI, leI, gtI, geI, eChain, decide_eq_true_eq, List.map_cons, List.map_nil, List.length_cons, List.length_nil, Nat.reduceAdd, Nat.reduceSub, List.replicate_succ, List.replicate_zero, List.cons_append, List.nil_append, List.getElem?_cons_zero, List.getElem?_cons_succ, List.reverse_cons, List.reverse_nil, Option.some.injEq, exists_eq_left', List.set_cons_zero, List.set_cons_succ, if_true, if_false, Bool.false_eq_true, reduceIte, and_self, true_and, D.bl.injEq, D.ob.injEq, D.int.injEq, D.str.injEq, D.tup.injEq, exists_and_left, exists_eq_left, reduceCtorEq, and_true, lk_low, lk_high, exists_eq', and_self]
  refine ⟨small2, _, _, rfl, say1, smallN (by decide), small2, _, _, rfl, say2, smallN (by decide), small2, b, b, rfl, fA2, fA2, small2, smallN (by decide), smallN (by decide), ?_⟩
  have each : ∀ {t : Str}, Say (.tup [spv (b - j) b, spv (b + (1 + i)) (b + (1 + i) + j)]) t ∨ Say (.tup [spv (b + (1 + i)) (b + (1 + i) + j), spv (b - j) b]) t → Pn 1 (.lst [.str "apart", .str t, .bl true]) := fun {t} h => Pn.lst (.cons (.str (oks_lit (by decide +kernel))) (.cons (.str (h.elim Say.oks Say.oks)) (.cons (.bl _) .nil)))
  have all : Pn 2 (.lst [.lst [.str "apart", .str _, .bl true], .lst [.str "apart", .str _, .bl true], mde (repS b b)]) := Pn.lst (.cons (each (.inl say1)) (.cons (each (.inr say2)) (.cons (Pn.lst (.cons (.str (oks_lit (by decide +kernel))) (.cons (.str oks_repS) .nil))) .nil)))
  obtain ⟨k1, k2⟩ := all.ok (by decide) rfl
  refine ⟨k1, ?_⟩
  have last := q m2 st
  rw [← k2] at last
  exact last
theorem ok__law_right (T : Tx K mg base a d) : FnG false true P w K mg base 17 a.f__law_right d.f__law_right ["_law_pot_here"] (spL (G a) (s_right a)) := by
  refine fn_okG T.F__law_right sc__law_right (fun _ _ _ _ ⟨_, e, _⟩ => len1 e) (fun cdv A outer s H E xs m Q x hr h => ⟨_, (dss_cons (ds_set (i := 1) (ps_set (i := 1) sc__law_right.nd rfl (Or.inr rfl)) (de_call (ok__law_number T).any (hr.mono (show 2 ≤ _ by decide)) (by rfl) T.m__law_number T.F__law_number.kp T.b__law_number takesG (da_cons (de_nm (pv 0)) da_nil))) (dss_cons (ds_par (i := 5) (j := 6) (ps_par (i := 5) (j := 6) rfl sc__law_right.nd rfl rfl (by decide) rfl rfl · (by rfl)) (da_cons (de_make (c := 0) T.M_Span (ok_Span___init__ T).any (hr.mono (show 5 ≤ _ by decide)) (by rfl) T.m_Span T.b_Span___init__ takesG (da_cons (de_nm (pv 1)) (da_cons (de_op od_add (de_nm (pv 1)) (de_call (ok__law_draw T).any (hr.mono (show 1 ≤ _ by decide)) (by rfl) T.m__law_draw T.F__law_draw.kp T.b__law_draw takesG (da_cons (de_nm (pv 0)) (da_cons (de_c pe_int (fun _ => .int _)) da_nil)))) da_nil))) (da_cons (de_nm (pv 1)) da_nil))) (dss_cons (ds_set (i := 2) (ps_set (i := 2) sc__law_right.nd rfl (Or.inl rfl)) (de_callB (cd_anyr T (hr.mono (show 12 ≤ _ by decide))) (by rfl) T.z_repr boot_repr (da_cons (de_nm (pv 5)) da_nil))) (dss_cons (ds_setLc (i := 3) (own := [("_law_turn", 9)]) (tgt := .one 9) rfl sc__law_right.nd rfl rfl (sw_true rfl rfl rfl (by decide +kernel)) (by decide) (di_range1 (by rfl) T.z_range (da_cons (de_c pe_int (fun _ => .int _)) da_nil)) (blkOk_by (own := [("_law_turn", 9)]) (N := N__law_right) (sc := defScope s__law_right) (by decide +kernel)) (fun _ _ _ _ _ => pg_name (i := 9) sc__law_right.nd rfl (Or.inl rfl)) (fun _ _ _ _ _ => dts_nil) (fun _ _ _ _ _ => (de_call (ok__law_thing T) (hr.mono (show 7 ≤ _ by decide)) (by rfl) T.m__law_thing T.F__law_thing.kp T.b__law_thing takesF (da_cons (de_nm (pv 0)) (da_cons (de_nm (pv 1)) da_nil))))) (dss_cons (ds_for passesG rfl (di_enum (by rfl) T.z_enumerate (da_cons (de_nm (pv 3)) da_nil)) (dg_tup (n := 2) rfl (dgs_cons (dg_name (pg_name (i := 7) sc__law_right.nd rfl (Or.inl rfl))) (dgs_cons (dg_name (pg_name (i := 8) sc__law_right.nd rfl (Or.inl rfl))) dgs_nil))) (dss_cons (ds_if (dw_pt (dw_or (dt_not (dt_val (de_call (ok__law_span_right T) (hr.mono (show 16 ≤ _ by decide)) (by rfl) T.m__law_span_right T.F__law_span_right.kp T.b__law_span_right takesG (da_cons (de_nm (pv 8)) (da_cons (de_ix (de_nm (pv 3)) (de_op od_sub (de_nm (pv 7)) (de_c pe_int (fun _ => .int _))) (fun _ _ => rfl)) da_nil))))) (dw_or1 (dt_not (dt_val (de_call (ok__law_span_right T) (hr.mono (show 16 ≤ _ by decide)) (by rfl) T.m__law_span_right T.F__law_span_right.kp T.b__law_span_right takesG (da_cons (de_nm (pv 8)) (da_cons (de_nm (pv 1)) da_nil)))))))) (dss_one (ds_ret (de_c pe_bl (fun _ => .bl _)))) dss_nil) (dss_cons (ds_if (dw_pt (dw_or (dt_not (dt_val (de_call (ok__law_moved_right T) (hr.mono (show 16 ≤ _ by decide)) (by rfl) T.m__law_moved_right T.F__law_moved_right.kp T.b__law_moved_right takesG (da_cons (de_nm (pv 5)) (da_cons (de_nm (pv 8)) da_nil))))) (dw_or1 (dt_not (dt_val (de_call (ok__law_joined_right T) (hr.mono (show 16 ≤ _ by decide)) (by rfl) T.m__law_joined_right T.F__law_joined_right.kp T.b__law_joined_right takesG (da_cons (de_nm (pv 5)) (da_cons (de_nm (pv 8)) da_nil)))))))) (dss_one (ds_ret (de_c pe_bl (fun _ => .bl _)))) dss_nil) (dss_one (ds_if (dw_pt (dw_or (dt_not (dt_val (de_call (ok__law_unlike_right T) (hr.mono (show 13 ≤ _ by decide)) (by rfl) T.m__law_unlike_right T.F__law_unlike_right.kp T.b__law_unlike_right takesG (da_cons (de_nm (pv 5)) (da_cons (de_nm (pv 8)) da_nil))))) (dw_or1 (dt_not (dt_val (de_call (ok__law_around_right T) (hr.mono (show 16 ≤ _ by decide)) (by rfl) T.m__law_around_right T.F__law_around_right.kp T.b__law_around_right takesG (da_cons (de_slice (de_nm (pv 3)) (do_some (de_nm (pv 7))) (do_some (de_op od_add (de_op od_add (de_nm (pv 7)) (de_c pe_int (fun _ => .int _))) (de_call (ok__law_draw T).any (hr.mono (show 1 ≤ _ by decide)) (by rfl) T.m__law_draw T.F__law_draw.kp T.b__law_draw takesG (da_cons (de_nm (pv 0)) (da_cons (de_c pe_int (fun _ => .int _)) da_nil)))))) da_nil))))))) (dss_one (ds_ret (de_c pe_bl (fun _ => .bl _)))) dss_nil))))) (dss_cons (ds_set (i := 4) (ps_set (i := 4) sc__law_right.nd rfl (Or.inl rfl)) (de_op od_add (de_lc (own := [("_law_thing_here", 8)]) (tgt := .one 8) rfl sc__law_right.nd (by decide) (di_list (de_nm (pv 3))) (blkOk_by (own := [("_law_thing_here", 8)]) (N := N__law_right) (sc := defScope s__law_right) (by decide +kernel)) (fun _ _ _ _ _ => pg_name (i := 8) sc__law_right.nd rfl (Or.inl rfl)) (fun _ _ _ _ _ => (dts_one (dt_val (de_call (ok__law_whole T) (hr.mono (show 13 ≤ _ by decide)) (by rfl) T.m__law_whole T.F__law_whole.kp T.b__law_whole takesF (da_cons (de_nm (pv 8)) da_nil))))) (fun _ _ _ _ _ => (de_nm (pv 8)))) (de_op od_mul (de_lst (da_cons (de_nm (pv 1)) da_nil)) (de_c pe_int (fun _ => .int _))))) (dss_cons (ds_if (dw_pt (dw_or (dt_not (dt_val (de_call (ok__law_around_right T) (hr.mono (show 16 ≤ _ by decide)) (by rfl) T.m__law_around_right T.F__law_around_right.kp T.b__law_around_right takesG (da_cons (de_slice (de_nm (pv 4)) do_none (do_some (de_c pe_int (fun _ => .int _)))) da_nil)))) (dw_or1 (dt_not (dt_val (de_call (ok__law_around_right T) (hr.mono (show 16 ≤ _ by decide)) (by rfl) T.m__law_around_right T.F__law_around_right.kp T.b__law_around_right takesG (da_cons (de_op od_add (de_slice (de_nm (pv 4)) do_none (do_some (de_c pe_int (fun _ => .int _)))) (de_lst (da_cons (de_call (ok__law_pick T).any (hr.mono (show 2 ≤ _ by decide)) (by rfl) T.m__law_pick T.F__law_pick.kp T.b__law_pick takesG (da_cons (de_nm (pv 0)) (da_cons (de_lst (da_cons (de_c pe_non (fun _ => .non)) (da_cons (de_c pe_str (fun _ => .str _)) (da_cons (de_c pe_bl (fun _ => .bl _)) da_nil)))) da_nil))) (da_cons (de_nm (pv 1)) da_nil)))) da_nil))))))) (dss_one (ds_ret (de_c pe_bl (fun _ => .bl _)))) dss_nil) (dss_cons (ds_if (dw_pt (dw_or (dt_not (dt_val (de_call (ok__law_around_right T) (hr.mono (show 16 ≤ _ by decide)) (by rfl) T.m__law_around_right T.F__law_around_right.kp T.b__law_around_right takesG (da_cons (de_lst da_nil) da_nil)))) (dw_or1 (dt_not (dt_val (de_call (ok__law_apart_right T) (hr.mono (show 16 ≤ _ by decide)) (by rfl) T.m__law_apart_right T.F__law_apart_right.kp T.b__law_apart_right takesG (da_cons (de_nm (pv 0)) (da_cons (de_nm (pv 1)) da_nil)))))))) (dss_one (ds_ret (de_c pe_bl (fun _ => .bl _)))) dss_nil) (dss_one (ds_ret (de_and (de_cmp (od_eq hr.u64) (de_callB (cd_anyr T (hr.mono (show 12 ≤ _ by decide))) (by rfl) T.z_repr boot_repr (da_cons (de_nm (pv 5)) da_nil)) (de_nm (pv 2)) (nomark _)) (de_one (de_cmpX (ox_eqL (c := 0) T.o_Span___eq__ T.nb_Span (ok_Span___eq__ T).any (hr.mono (show 1 ≤ _ by decide)) T.b_Span___eq__ takesG) (de_nm (pv 5)) (de_make (c := 0) T.M_Span (ok_Span___init__ T).any (hr.mono (show 5 ≤ _ by decide)) (by rfl) T.m_Span T.b_Span___init__ takesG (da_cons (de_nm (pv 6)) (da_cons (de_prop (c := 0) T.c_Span T.p_Span_high (ok_Span_high T).any (hr.mono (show 2 ≤ _ by decide)) T.b_Span_high (de_nm (pv 5))) da_nil))) (nomark _)))))))))))))), ?_⟩)
  obtain ⟨p, rfl, hp, tb, q⟩ := h
  simp only [eLam, sSeq, sAsg, gNm, sRet, sRetN, bD, xD, nmD, startD, sIf, DL.tB, DL.tNot, DL.tAnd, DL.tOr, eAnd, eOr, eNot, eIf, isB, sDrop, sNext, sPar, eTup, eLst, eCall, eCB, aNil, aCons, eFld, eFldM, eProp, eMeth, eMethK, eMake, eMakeK, eUn, sFldM, sRaise, addI, addS, addL, subI, negI, mulI, mulL, divI, modI, powI, eqI, neI, eqS, neS, lenL, lenT, lenC, absI, intI, strI, repX, dmI, it0, it1, itL0, itL1, itL2, itL3, itL4, itL5, itL6, itR, eStat, oNone, oSome, eSl, gTp2', gIx, eLstM, eApp, DL.rIn, DL.rNe, eFmt, eJs, eDic0, sNever, mx2, mn2, ltI, leI, gtI, geI, eChain, decide_eq_true_eq, List.map_cons, List.map_nil, List.length_cons, List.length_nil, Nat.reduceAdd, Nat.reduceSub, List.replicate_succ, List.replicate_zero, List.cons_append, List.nil_append, List.getElem?_cons_zero, List.getElem?_cons_succ, List.reverse_cons, List.reverse_nil, Option.some.injEq, exists_eq_left', List.set_cons_zero, List.set_cons_succ, if_true, if_false, Bool.false_eq_true, reduceIte, and_self, true_and, D.bl.injEq, D.ob.injEq, D.int.injEq, D.str.injEq, D.tup.injEq, exists_and_left, exists_eq_left, reduceCtorEq, and_true, lk_low, lk_high, exists_eq', and_self]
  have f : ∀ {i : Int}, -(10 ^ 60) ≤ i → i ≤ 10 ^ 60 → Few i := fun a b => Sm.few ⟨a, b⟩
  refine ⟨p, rfl, hp, fun b m1 b0 b1 s1 => ?_⟩
  (try dsimp only)
  refine ⟨p, 4, rfl, by decide, by decide, s1.pot, fun j m2 j0 j1 s2 => ?_⟩
  (try dsimp only)
  rw [addI]
  have le : b ≤ b + j := by omega
  refine mk_span le ⟨_, _, rfl, .span (f (by omega) (by omega)) (f (by omega) (by omega)), ?_⟩
  have st := s1.trans s2
  refine ⟨by decide, (show 20 < sizeLine by decide), lc_st (S := Pst p m) (R := Th) (fun d hd m3 Q s3 qq => ?_) [] _ st (fun ys m3 hl hys s3 => ?_)⟩
  · exact ⟨_, rfl, _, rfl, p, b, rfl, ⟨b0, b1⟩, s3.pot, fun v m4 tv s4 => qq _ _ tv (s3.trans s4)⟩
  · rw [List.nil_append]
    have len : ys.length = 20 := hl
    have thB : Th (.int b) := th_int (f (by omega) (by omega)) ⟨by omega, by omega⟩
    refine ⟨_, rfl, for_ix (I := fun t ds m' => (∃ x7 x8, ds = [some (.ref p), some (.int b), some (.str (repS b (b + j))), some (.lst ys), none, some (spv b (b + j)), some (.int b), x7, x8, none]) ∧ Pst p m m') 0 (fun i v hv K ds m4 hI hK => ?_) _ _ ⟨⟨_, _, rfl⟩, s3⟩ (fun ds m4 hI => ?_)⟩
    · obtain ⟨⟨x7, x8, rfl⟩, s4⟩ := hI
      obtain ⟨y, hy, rfl⟩ := enumD_get hv
      have i20 : i < 20 := by
        have := (List.getElem?_eq_some_iff.mp hy).1
        omega
      have ty : Th y := hys y (List.mem_of_getElem? hy)
      have tb4 := Pst.tbs tb hp s4
      simp only [gsCons, gsNil, eLam, sSeq, sAsg, gNm, sRet, sRetN, bD, xD, nmD, startD, sIf, DL.tB, DL.tNot, DL.tAnd, DL.tOr, eAnd, eOr, eNot, eIf, isB, sDrop, sNext, sPar, eTup, eLst, eCall, eCB, aNil, aCons, eFld, eFldM, eProp, eMeth, eMethK, eMake, eMakeK, eUn, sFldM, sRaise, addI, addS, addL, subI, negI, mulI, mulL, divI, modI, powI, eqI, neI, eqS, neS, lenL, lenT, lenC, absI, intI, strI, repX, dmI, it0, it1, itL0, itL1, itL2, itL3, itL4, itL5, itL6, itR, eStat, oNone, oSome, eSl, gTp2', gIx, eLstM, eApp, DL.rIn, DL.rNe, eFmt, eJs, eDic0, sNever, mx2, mn2, ltI, leI, gtI, geI, eChain, decide_eq_true_eq, List.map_cons, List.map_nil, List.length_cons, List.length_nil, Nat.reduceAdd, Nat.reduceSub, List.replicate_succ, List.replicate_zero, List.cons_append, List.nil_append, List.getElem?_cons_zero, List.getElem?_cons_succ, List.reverse_cons, List.reverse_nil, Option.some.injEq, exists_eq_left', List.set_cons_zero, List.set_cons_succ, if_true, if_false, Bool.false_eq_true, reduceIte, and_self, true_and, D.bl.injEq, D.ob.injEq, D.int.injEq, D.str.injEq, D.tup.injEq, exists_and_left, exists_eq_left, reduceCtorEq, and_true, lk_low, lk_high, exists_eq', and_self]
      refine it_any (by rw [len]; omega) (by rw [len]; omega) (fun z hz => ?_)
      have tz := hys z hz
      have bb : -(10 ^ 31) ≤ b ∧ b + j ≤ 10 ^ 31 := ⟨by omega, by omega⟩
      refine ⟨y, z, rfl, ty, tz, tb4, _, rfl, iteF ⟨y, .int b, rfl, ty, thB, tb4, _, rfl, iteF ⟨b, b + j, y, rfl, le, bb, ty, tb4, _, rfl, iteF ⟨b, b + j, y, rfl, le, bb, ty, tb4, _, rfl, iteF ⟨b, b + j, y, rfl, le, bb, ty, _, rfl, iteF ⟨p, 4, rfl, by decide, by decide, s4.pot, fun g m5 g0 g1 s5 => ?_⟩⟩⟩⟩⟩⟩
      (try dsimp only)
      rw [addI]
      dsimp only
      rw [sl_lst]
      exact ⟨_, rfl, fun v hv => hys v (cut_mem hv), .inl (cut_len g0 g1), Pst.tbs tb4 s4.pot s5, _, rfl, iteF (hK _ _ ⟨⟨_, _, rfl⟩, s4.trans s5⟩)⟩
    · obtain ⟨⟨x7, x8, rfl⟩, s4⟩ := hI
      have tb4 := Pst.tbs tb hp s4
      simp only [gsCons, gsNil, eLam, sSeq, sAsg, gNm, sRet, sRetN, bD, xD, nmD, startD, sIf, DL.tB, DL.tNot, DL.tAnd, DL.tOr, eAnd, eOr, eNot, eIf, isB, sDrop, sNext, sPar, eTup, eLst, eCall, eCB, aNil, aCons, eFld, eFldM, eProp, eMeth, eMethK, eMake, eMakeK, eUn, sFldM, sRaise, addI, addS, addL, subI, negI, mulI, mulL, divI, modI, powI, eqI, neI, eqS, neS, lenL, lenT, lenC, absI, intI, strI, repX, dmI, it0, it1, itL0, itL1, itL2, itL3, itL4, itL5, itL6, itR, eStat, oNone, oSome, eSl, gTp2', gIx, eLstM, eApp, DL.rIn, DL.rNe, eFmt, eJs, eDic0, sNever, mx2, mn2, ltI, leI, gtI, geI, eChain, decide_eq_true_eq, List.map_cons, List.map_nil, List.length_cons, List.length_nil, Nat.reduceAdd, Nat.reduceSub, List.replicate_succ, List.replicate_zero, List.cons_append, List.nil_append, List.getElem?_cons_zero, List.getElem?_cons_succ, List.reverse_cons, List.reverse_nil, Option.some.injEq, exists_eq_left', List.set_cons_zero, List.set_cons_succ, if_true, if_false, Bool.false_eq_true, reduceIte, and_self, true_and, D.bl.injEq, D.ob.injEq, D.int.injEq, D.str.injEq, D.tup.injEq, exists_and_left, exists_eq_left, reduceCtorEq, and_true, lk_low, lk_high, exists_eq', and_self]
      refine ⟨_, rfl, (show ys.length < sizeLine by rw [len]; decide), lc_keep (p := isI) (fun d hd m Q qq => ⟨d, rfl, d, rfl, hys d hd, _, rfl, qq⟩) (fun d m Q qq => ⟨d, rfl, qq⟩) [] m4 ?_⟩
      rw [List.nil_append]
      refine ⟨smallN (by decide), ⟨by decide, by decide, by decide⟩, ?_⟩
      rw [addL]
      have fl : (ys.filter isI).length ≤ 20 := len ▸ List.length_filter_le ..
      have seven : (List.replicate (Int.toNat 7) [D.int b]).flatten = List.replicate 7 (D.int b) := rfl
      rw [seven]
      refine ⟨smallN (by rw [List.length_replicate]; omega), ?_⟩
      have hm : ∀ v ∈ ys.filter isI ++ List.replicate 7 (D.int b), Th v := fun v hv => by
        rcases List.mem_append.mp hv with hv | hv
        · exact hys v (List.mem_filter.mp hv).1
        · rw [(List.mem_replicate.mp hv).2]; exact thB
      have ml : 7 ≤ (ys.filter isI ++ List.replicate 7 (D.int b)).length := by rw [List.length_append, List.length_replicate]; omega
      generalize ys.filter isI ++ List.replicate 7 (D.int b) = many at hm ml
      rw [sl_lst]
      refine ⟨_, rfl, fun v hv => hm v (cut_mem hv), .inr (cut_first (n := 7) ml), tb4, _, rfl, iteF ?_⟩
      rw [sl_lst]
      refine ⟨smallN (by decide), p, _, rfl, by simp, (show 3 ≤ 1000 by decide), s4.pot, fun v m5 hv s5 => ⟨small2, ?_⟩⟩
      (try dsimp only)
      rw [addL]
      have five : (DL.cutD many none (some 5)).length = 5 := cut_first (n := 5) (by omega)
      have tb5 := Pst.tbs tb4 s4.pot s5
      have tv : Th v := by
        simp only [List.mem_cons, List.not_mem_nil, or_false] at hv
        rcases hv with rfl | rfl | rfl
        · exact th_plain True.intro (.inl (okR.of RO.non)) (oks_lit (by decide +kernel)) (fun _ z => by cases z) (fun _ _ z => by cases z)
        · exact th_plain True.intro (.inl (okR.of (RO.str (Sh.lit (n := 1) (by decide +kernel))))) (oks_lit (by decide +kernel)) (fun _ z => by cases z) (fun _ _ z => by cases z)
        · exact th_plain True.intro (.inl (okR.of (RO.bl _))) (oks_lit (by decide +kernel)) (fun _ z => by cases z) (fun _ _ z => by cases z)
      refine ⟨smallN (by rw [five]; exact (show 5 + 2 ≤ 1000 by decide)), _, rfl, fun u hu => ?_, .inr (by rw [List.length_append, five]; rfl), tb5, _, rfl, iteF ⟨Nat.zero_le _, [], rfl, (fun _ h => nomatch h), .inl (Nat.zero_le _), tb5, _, rfl, iteF ⟨p, b, rfl, ⟨b0, b1⟩, s5.pot, tb5, fun m6 s6 => ⟨_, rfl, iteF ⟨_, _, rfl, .span (f (by omega) (by omega)) (f (by omega) (by omega)), ?_⟩⟩⟩⟩⟩
      · rcases List.mem_append.mp hu with hu | hu
        · exact hm u (cut_mem hu)
        · simp only [List.mem_cons, List.not_mem_nil, or_false] at hu
          rcases hu with rfl | rfl
          · exact tv
          · exact thB
      · (try dsimp only)
        rw [eqS, decide_eq_true rfl]
        refine ⟨_, rfl, iteT ⟨b, b + j, rfl, mk_span le ⟨⟨_, rfl⟩, beside0 (okV_sp le), b, b + j, _, rfl, okV_sp le, ?_⟩⟩⟩
        have e : eqSp b (b + j) (spv b (b + j)) = true := by
          show (decide (b = b) && decide (b + j = b + j)) = true
          simp
        rw [e]
        exact q m6 (s4.trans (s5.trans s6))
theorem ok_law (T : Tx K mg base a d) : FnG false true P w K mg base 18 a.f_law d.f_law ["_law_script"] (spL (G a) (s_lw a)) := by
  refine fn_okG T.F_law sc_law (fun _ _ _ _ ⟨_, e, _⟩ => len1 e) (fun cdv A outer s H E xs m Q x hr h => ⟨_, (dss_one (ds_ret (de_callB (cd_all (by rfl)) (by rfl) T.z_all boot_all (da_cons (de_lc (own := [("_law_k", 1)]) (tgt := .one 1) rfl sc_law.nd (by decide) (di_range1 (by rfl) T.z_range (da_cons (de_callB (cd_mx (by rfl) hr.u8) (by rfl) T.z_max boot_max (da_cons (de_c pe_int (fun _ => .int _)) (da_cons (de_callB (cd_mn (by rfl) hr.u8) (by rfl) T.z_min boot_min (da_cons (de_c pe_int (fun _ => .int _)) (da_cons (de_callB (cd_len) (by rfl) T.z_len boot_len (da_cons (de_nm (pv 0)) da_nil)) da_nil))) da_nil))) da_nil)) (blkOk_by (own := [("_law_k", 1)]) (N := N_law) (sc := defScope s_law) (by decide +kernel)) (fun _ _ _ _ _ => pg_name (i := 1) sc_law.nd rfl (Or.inl rfl)) (fun _ _ _ _ _ => dts_nil) (fun _ _ _ _ _ => (de_call (ok__law_right T) (hr.mono (show 17 ≤ _ by decide)) (by rfl) T.m__law_right T.F__law_right.kp T.b__law_right takesF (da_cons (de_call (ok__law_pot T).any (hr.mono (show 1 ≤ _ by decide)) (by rfl) T.m__law_pot T.F__law_pot.kp T.b__law_pot takesF (da_cons (de_nm (pv 0)) (da_cons (de_nm (pv 1)) da_nil))) da_nil)))) da_nil)))), ?_⟩)
  obtain ⟨ns, rfl, hl, tb, q⟩ := h
  simp only [sSeq, sAsg, gNm, sRet, sRetN, bD, xD, nmD, startD, sIf, DL.tB, DL.tNot, DL.tAnd, DL.tOr, eAnd, eOr, eNot, eIf, isB, sDrop, sNext, sPar, eTup, eLst, eCall, eCB, aNil, aCons, eFld, eFldM, eProp, eMeth, eMethK, eMake, eMakeK, eUn, sFldM, sRaise, addI, addS, addL, subI, negI, mulI, mulL, divI, modI, powI, eqI, neI, eqS, neS, lenL, lenT, lenC, absI, intI, strI, repX, dmI, it0, it1, itL0, itL1, itL2, itL3, itL4, itL5, itL6, itR, eStat, oNone, oSome, eSl, gTp2', gIx, eLstM, eApp, DL.rIn, DL.rNe, eFmt, eJs, eDic0, sNever, mx2, mn2, ltI, leI, gtI, geI, eChain, decide_eq_true_eq, List.map_cons, List.map_nil, List.length_cons, List.length_nil, Nat.reduceAdd, Nat.reduceSub, List.replicate_succ, List.replicate_zero, List.cons_append, List.nil_append, List.getElem?_cons_zero, List.getElem?_cons_succ, List.reverse_cons, List.reverse_nil, Option.some.injEq, exists_eq_left', List.set_cons_zero, List.set_cons_succ, if_true, if_false, Bool.false_eq_true, reduceIte, and_self, true_and, D.bl.injEq, D.ob.injEq, D.int.injEq, D.str.injEq, D.tup.injEq, exists_and_left, exists_eq_left, reduceCtorEq, and_true, lk_low, lk_high, exists_eq', and_self, eLc, iR1]
  refine ⟨⟨by omega, by omega⟩, ?_, ?_⟩
  · rw [rng_len]
    exact Nat.lt_of_le_of_lt (show _ ≤ 5 by omega) (by decide)
  · refine lc_st (S := fun m' => Tbs a m') (R := fun y => y = .bl true) (fun v hv m1 Q tb1 qq => ?_) [] _ tb (fun zs m1 hl hz _ => ?_)
    · obtain ⟨k, rfl, hk⟩ := rng_at hv
      refine ⟨_, rfl, _, rfl, ns, _, rfl, by omega, by omega, fun p a' b hp pv => ?_⟩
      exact ⟨p, rfl, ⟨a', b, mset_same, pv⟩, Tbs.new tb1 hp, fun m' s' => qq _ _ rfl (Pst.tbs (Tbs.new tb1 hp) ⟨a', b, mset_same, pv⟩ s')⟩
    · obtain ⟨bs, ez, hb⟩ := bls_true hz
      refine ⟨bs, ez, ?_⟩
      rw [hb]
      exact q _
end
theorem all_mk {P : Program} {w : World} {K : PySem.W.Frag} {h : Heap} {mg : Str → Option Value} {fa : Addr} (X : K.In h) (E0 : h.Ns mainGlobals mg) (hfa : mg "law" = some (.ref fa)) (c : DH.Says fnL tfL exL h K)
    : ∃ (fd : FuncData) (G : CT) (sp : DSp) (cs : List (Addr × Addr × Str)), (∀ (s : Shared) (u : Value), BindsTo s fd ⟨[u], []⟩ [(("_law_script" : Str), u)]) ∧ (∀ p ∈ cs, ∃ f ∈ tfL, (p.1, p.2.1) = f K) ∧ (∀ p ∈ cs, ∀ q ∈ cs, p.2.1 = q.2.1 → p.2.2 = q.2.2) ∧
      (∀ (m : M) (ns : List Int), (∀ p ∈ cs, m p.2.1 = some (.tbl p.2.2)) → ns.length ≤ 63 → (∀ z ∈ ns, Builtin.Int.intBits z ≤ 1048576) → sp [.scr (ns.map D.int)] m (fun d _ => d = .bl true) fun _ _ _ => False) ∧
      ∀ base : Heap, K.In base → base.Ns mainGlobals mg → (∀ p ∈ cs, TabB base mg p.1 p.2.1) → FnG false true P w K mg base 18 fa fd ["_law_script"] (spL G sp) := by
  have zz := c.more
  unfold exL at zz
  obtain ⟨z0, zz⟩ := He.ba zz
  obtain ⟨z1, zz⟩ := He.ba zz
  obtain ⟨z2, zz⟩ := He.ba zz
  obtain ⟨z3, zz⟩ := He.ba zz
  obtain ⟨z4, zz⟩ := He.ba zz
  obtain ⟨z5, zz⟩ := He.ba zz
  obtain ⟨z6, zz⟩ := He.ba zz
  obtain ⟨z7, zz⟩ := He.ba zz
  obtain ⟨z8, zz⟩ := He.ba zz
  obtain ⟨z9, zz⟩ := He.ba zz
  obtain ⟨z10, zz⟩ := He.ba zz
  obtain ⟨z11, zz⟩ := He.ba zz
  obtain ⟨z12, zz⟩ := He.ba zz
  obtain ⟨z13, zz⟩ := He.ba zz
  obtain ⟨z14, zz⟩ := He.ba zz
  obtain ⟨z15, zz⟩ := He.ba zz
  obtain ⟨z16, zz⟩ := He.ba zz
  have z17 := zz
  unfold ex_0 at z0
  obtain ⟨y, z0⟩ := He.ba z0
  have C_Span := of_decide_eq_true y
  clear y
  obtain ⟨y, z0⟩ := He.ba z0
  have C_Net := of_decide_eq_true y
  clear y
  obtain ⟨y, z0⟩ := He.ba z0
  have C_InvalidLevel := of_decide_eq_true y
  clear y
  obtain ⟨y, z0⟩ := He.ba z0
  have C_InvalidSpan := of_decide_eq_true y
  clear y
  obtain ⟨y, z0⟩ := He.ba z0
  have C_EmptySpan := of_decide_eq_true y
  clear y
  obtain ⟨y, z0⟩ := He.ba z0
  have C_Apart := of_decide_eq_true y
  clear y
  obtain ⟨y, z0⟩ := He.ba z0
  have C_StateError := of_decide_eq_true y
  clear y
  obtain ⟨y, z0⟩ := He.ba z0
  have C_AbreastError := of_decide_eq_true y
  clear y
  obtain ⟨y, z0⟩ := He.ba z0
  have C_MissingError := of_decide_eq_true y
  clear y
  obtain ⟨y, z0⟩ := He.ba z0
  have C_LimitError := of_decide_eq_true y
  clear y
  obtain ⟨y, z0⟩ := He.ba z0
  have a_is_integer := of_decide_eq_true y
  clear y
  obtain ⟨y, z0⟩ := He.ba z0
  have a_InvalidLevel___init__ := of_decide_eq_true y
  clear y
  obtain ⟨y, z0⟩ := He.ba z0
  have i_InvalidLevel___init__ := of_decide_eq_true y
  clear y
  obtain ⟨y, z0⟩ := He.ba z0
  have a_InvalidSpan___init__ := of_decide_eq_true y
  clear y
  obtain ⟨y, z0⟩ := He.ba z0
  have i_InvalidSpan___init__ := of_decide_eq_true y
  clear y
  obtain ⟨y, z0⟩ := He.ba z0
  have a_EmptySpan___init__ := of_decide_eq_true y
  clear y
  obtain ⟨y, z0⟩ := He.ba z0
  have i_EmptySpan___init__ := of_decide_eq_true y
  clear y
  obtain ⟨y, z0⟩ := He.ba z0
  have a_Apart___init__ := of_decide_eq_true y
  clear y
  obtain ⟨y, z0⟩ := He.ba z0
  have i_Apart___init__ := of_decide_eq_true y
  clear y
  have y := z0
  have a_want_level := of_decide_eq_true y
  clear y
  unfold ex_1 at z1
  obtain ⟨y, z1⟩ := He.ba z1
  have a_want_span := of_decide_eq_true y
  clear y
  obtain ⟨y, z1⟩ := He.ba z1
  have a_Span___init__ := of_decide_eq_true y
  clear y
  obtain ⟨y, z1⟩ := He.ba z1
  have i_Span___init__ := of_decide_eq_true y
  clear y
  obtain ⟨y, z1⟩ := He.ba z1
  have a_Span_around := DH.getB_ok y
  clear y
  obtain ⟨y, z1⟩ := He.ba z1
  obtain ⟨R_Span_around, r_Span_around⟩ := DH.recB_ok y
  clear y
  obtain ⟨y, z1⟩ := He.ba z1
  have g_Span_around := of_decide_eq_true y
  clear y
  obtain ⟨y, z1⟩ := He.ba z1
  have ty_Span_around := of_decide_eq_true y
  clear y
  obtain ⟨y, z1⟩ := He.ba z1
  have a_Span_low := of_decide_eq_true y
  clear y
  obtain ⟨y, z1⟩ := He.ba z1
  obtain ⟨R_Span_low, r_Span_low⟩ := DH.recB_ok y
  clear y
  obtain ⟨y, z1⟩ := He.ba z1
  have g_Span_low := of_decide_eq_true y
  clear y
  obtain ⟨y, z1⟩ := He.ba z1
  have ty_Span_low := of_decide_eq_true y
  clear y
  obtain ⟨y, z1⟩ := He.ba z1
  have a_Span_high := of_decide_eq_true y
  clear y
  obtain ⟨y, z1⟩ := He.ba z1
  obtain ⟨R_Span_high, r_Span_high⟩ := DH.recB_ok y
  clear y
  obtain ⟨y, z1⟩ := He.ba z1
  have g_Span_high := of_decide_eq_true y
  clear y
  obtain ⟨y, z1⟩ := He.ba z1
  have ty_Span_high := of_decide_eq_true y
  clear y
  obtain ⟨y, z1⟩ := He.ba z1
  have a_Span_is_within := of_decide_eq_true y
  clear y
  obtain ⟨y, z1⟩ := He.ba z1
  have i_Span_is_within := of_decide_eq_true y
  clear y
  obtain ⟨y, z1⟩ := He.ba z1
  have a_Span___and__ := of_decide_eq_true y
  clear y
  obtain ⟨y, z1⟩ := He.ba z1
  have i_Span___and__ := of_decide_eq_true y
  clear y
  have y := z1
  have a_Span___or__ := of_decide_eq_true y
  clear y
  unfold ex_2 at z2
  obtain ⟨y, z2⟩ := He.ba z2
  have i_Span___or__ := of_decide_eq_true y
  clear y
  obtain ⟨y, z2⟩ := He.ba z2
  have a_Span___add__ := of_decide_eq_true y
  clear y
  obtain ⟨y, z2⟩ := He.ba z2
  have i_Span___add__ := of_decide_eq_true y
  clear y
  obtain ⟨y, z2⟩ := He.ba z2
  have a_Span___radd__ := of_decide_eq_true y
  clear y
  obtain ⟨y, z2⟩ := He.ba z2
  have i_Span___radd__ := of_decide_eq_true y
  clear y
  obtain ⟨y, z2⟩ := He.ba z2
  have a_Span___sub__ := of_decide_eq_true y
  clear y
  obtain ⟨y, z2⟩ := He.ba z2
  have i_Span___sub__ := of_decide_eq_true y
  clear y
  obtain ⟨y, z2⟩ := He.ba z2
  have a_Span___eq__ := of_decide_eq_true y
  clear y
  obtain ⟨y, z2⟩ := He.ba z2
  have i_Span___eq__ := of_decide_eq_true y
  clear y
  obtain ⟨y, z2⟩ := He.ba z2
  have a_Span___repr__ := of_decide_eq_true y
  clear y
  obtain ⟨y, z2⟩ := He.ba z2
  have i_Span___repr__ := of_decide_eq_true y
  clear y
  obtain ⟨y, z2⟩ := He.ba z2
  have a_is_list := of_decide_eq_true y
  clear y
  obtain ⟨y, z2⟩ := He.ba z2
  have a_is_name := of_decide_eq_true y
  clear y
  obtain ⟨y, z2⟩ := He.ba z2
  have a_is_pair := of_decide_eq_true y
  clear y
  obtain ⟨y, z2⟩ := He.ba z2
  have a_told_edge := of_decide_eq_true y
  clear y
  obtain ⟨y, z2⟩ := He.ba z2
  have a_checked_levels := of_decide_eq_true y
  clear y
  obtain ⟨y, z2⟩ := He.ba z2
  have a_checked_edges := of_decide_eq_true y
  clear y
  obtain ⟨y, z2⟩ := He.ba z2
  have a_neighbours_in := of_decide_eq_true y
  clear y
  obtain ⟨y, z2⟩ := He.ba z2
  have a_Net___init__ := of_decide_eq_true y
  clear y
  have y := z2
  have i_Net___init__ := of_decide_eq_true y
  clear y
  unfold ex_3 at z3
  obtain ⟨y, z3⟩ := He.ba z3
  have a_Net_path := DH.getB_ok y
  clear y
  obtain ⟨y, z3⟩ := He.ba z3
  obtain ⟨R_Net_path, r_Net_path⟩ := DH.recB_ok y
  clear y
  obtain ⟨y, z3⟩ := He.ba z3
  have fi_Net_path := of_decide_eq_true y
  clear y
  obtain ⟨y, z3⟩ := He.ba z3
  have crr_Net := of_decide_eq_true y
  clear y
  obtain ⟨y, z3⟩ := He.ba z3
  have crg_Net := of_decide_eq_true y
  clear y
  obtain ⟨y, z3⟩ := He.ba z3
  have a_Net___eq__ := of_decide_eq_true y
  clear y
  obtain ⟨y, z3⟩ := He.ba z3
  have i_Net___eq__ := of_decide_eq_true y
  clear y
  obtain ⟨y, z3⟩ := He.ba z3
  have a_Net___repr__ := of_decide_eq_true y
  clear y
  obtain ⟨y, z3⟩ := He.ba z3
  have i_Net___repr__ := of_decide_eq_true y
  clear y
  obtain ⟨y, z3⟩ := He.ba z3
  have a__law_pot := of_decide_eq_true y
  clear y
  obtain ⟨y, z3⟩ := He.ba z3
  have a__law_draw := of_decide_eq_true y
  clear y
  obtain ⟨y, z3⟩ := He.ba z3
  have a__law_pick := of_decide_eq_true y
  clear y
  obtain ⟨y, z3⟩ := He.ba z3
  have a__law_number := of_decide_eq_true y
  clear y
  obtain ⟨y, z3⟩ := He.ba z3
  have a__law_thing := of_decide_eq_true y
  clear y
  obtain ⟨y, z3⟩ := He.ba z3
  have a__law_whole := of_decide_eq_true y
  clear y
  obtain ⟨y, z3⟩ := He.ba z3
  have a__law_told := of_decide_eq_true y
  clear y
  obtain ⟨y, z3⟩ := He.ba z3
  have a__law_shown := of_decide_eq_true y
  clear y
  obtain ⟨y, z3⟩ := He.ba z3
  have a__law_due_span := of_decide_eq_true y
  clear y
  obtain ⟨y, z3⟩ := He.ba z3
  have a__law_span_right := of_decide_eq_true y
  clear y
  have y := z3
  have a__law_around_right := of_decide_eq_true y
  clear y
  unfold ex_4 at z4
  obtain ⟨y, z4⟩ := He.ba z4
  have a__law_moved_right := of_decide_eq_true y
  clear y
  obtain ⟨y, z4⟩ := He.ba z4
  have a__law_joined_right := of_decide_eq_true y
  clear y
  obtain ⟨y, z4⟩ := He.ba z4
  have a__law_unlike_right := of_decide_eq_true y
  clear y
  obtain ⟨y, z4⟩ := He.ba z4
  have a__law_apart_right := of_decide_eq_true y
  clear y
  obtain ⟨y, z4⟩ := He.ba z4
  have a__law_right := of_decide_eq_true y
  clear y
  obtain ⟨y, z4⟩ := He.ba z4
  have a_law := of_decide_eq_true y
  clear y
  obtain ⟨y, z4⟩ := He.ba z4
  have C_LETTERS := y
  clear y
  obtain ⟨y, z4⟩ := He.ba z4
  have C_DIGITS := y
  clear y
  obtain ⟨y, z4⟩ := He.ba z4
  have C_MOST_SIGNS := y
  clear y
  obtain ⟨y, z4⟩ := He.ba z4
  obtain ⟨tk_Net_MOST_EDGES, cvf_Net_MOST_EDGES⟩ := DH.cvB_ok y
  clear y
  obtain ⟨y, z4⟩ := He.ba z4
  obtain ⟨tk_Net_MOST_NODES, cvf_Net_MOST_NODES⟩ := DH.cvB_ok y
  clear y
  obtain ⟨y, z4⟩ := He.ba z4
  have Span_pg := of_decide_eq_true y
  clear y
  obtain ⟨y, z4⟩ := He.ba z4
  have Span_hd := of_decide_eq_true y
  clear y
  obtain ⟨y, z4⟩ := He.ba z4
  have Span_po := of_decide_eq_true y
  clear y
  obtain ⟨y, z4⟩ := He.ba z4
  have Span_sa := of_decide_eq_true y
  clear y
  obtain ⟨y, z4⟩ := He.ba z4
  have Span_cl := of_decide_eq_true y
  clear y
  obtain ⟨y, z4⟩ := He.ba z4
  have Span_ob := of_decide_eq_true y
  clear y
  obtain ⟨y, z4⟩ := He.ba z4
  have Span_mk := of_decide_eq_true y
  clear y
  obtain ⟨y, z4⟩ := He.ba z4
  have Span_ke := of_decide_eq_true y
  clear y
  have y := z4
  have Span_sf := of_decide_eq_true y
  clear y
  unfold ex_5 at z5
  obtain ⟨y, z5⟩ := He.ba z5
  have Span_ne := of_decide_eq_true y
  clear y
  obtain ⟨y, z5⟩ := He.ba z5
  have Span_so := of_decide_eq_true y
  clear y
  obtain ⟨y, z5⟩ := He.ba z5
  have Span_ic := of_decide_eq_true y
  clear y
  obtain ⟨y, z5⟩ := He.ba z5
  have Span_tt := of_decide_eq_true y
  clear y
  obtain ⟨y, z5⟩ := He.ba z5
  have Span_ss := of_decide_eq_true y
  clear y
  obtain ⟨y, z5⟩ := He.ba z5
  have Span_xNoneType := of_decide_eq_true y
  clear y
  obtain ⟨y, z5⟩ := He.ba z5
  have Span_yNoneType := of_decide_eq_true y
  clear y
  obtain ⟨y, z5⟩ := He.ba z5
  have Span_xbool := of_decide_eq_true y
  clear y
  obtain ⟨y, z5⟩ := He.ba z5
  have Span_ybool := of_decide_eq_true y
  clear y
  obtain ⟨y, z5⟩ := He.ba z5
  have Span_xint := of_decide_eq_true y
  clear y
  obtain ⟨y, z5⟩ := He.ba z5
  have Span_yint := of_decide_eq_true y
  clear y
  obtain ⟨y, z5⟩ := He.ba z5
  have Span_xstr := of_decide_eq_true y
  clear y
  obtain ⟨y, z5⟩ := He.ba z5
  have Span_ystr := of_decide_eq_true y
  clear y
  obtain ⟨y, z5⟩ := He.ba z5
  have Span_xtuple := of_decide_eq_true y
  clear y
  obtain ⟨y, z5⟩ := He.ba z5
  have Span_ytuple := of_decide_eq_true y
  clear y
  obtain ⟨y, z5⟩ := He.ba z5
  have Span_xlist := of_decide_eq_true y
  clear y
  obtain ⟨y, z5⟩ := He.ba z5
  have Span_ylist := of_decide_eq_true y
  clear y
  obtain ⟨y, z5⟩ := He.ba z5
  have Span_xdict := of_decide_eq_true y
  clear y
  obtain ⟨y, z5⟩ := He.ba z5
  have Span_ydict := of_decide_eq_true y
  clear y
  have y := z5
  have Span_n_own_low := of_decide_eq_true y
  clear y
  unfold ex_6 at z6
  obtain ⟨y, z6⟩ := He.ba z6
  have Span_n_own_high := of_decide_eq_true y
  clear y
  obtain ⟨y, z6⟩ := He.ba z6
  have Net_zSpan := of_decide_eq_true y
  clear y
  obtain ⟨y, z6⟩ := He.ba z6
  have Net_pg := of_decide_eq_true y
  clear y
  obtain ⟨y, z6⟩ := He.ba z6
  have Net_hd := of_decide_eq_true y
  clear y
  obtain ⟨y, z6⟩ := He.ba z6
  have Net_po := of_decide_eq_true y
  clear y
  obtain ⟨y, z6⟩ := He.ba z6
  have Net_sa := of_decide_eq_true y
  clear y
  obtain ⟨y, z6⟩ := He.ba z6
  have Net_cl := of_decide_eq_true y
  clear y
  obtain ⟨y, z6⟩ := He.ba z6
  have Net_ob := of_decide_eq_true y
  clear y
  obtain ⟨y, z6⟩ := He.ba z6
  have Net_mk := of_decide_eq_true y
  clear y
  obtain ⟨y, z6⟩ := He.ba z6
  have Net_ke := of_decide_eq_true y
  clear y
  obtain ⟨y, z6⟩ := He.ba z6
  have Net_sf := of_decide_eq_true y
  clear y
  obtain ⟨y, z6⟩ := He.ba z6
  have Net_ne := of_decide_eq_true y
  clear y
  obtain ⟨y, z6⟩ := He.ba z6
  have Net_so := of_decide_eq_true y
  clear y
  obtain ⟨y, z6⟩ := He.ba z6
  have Net_ic := of_decide_eq_true y
  clear y
  obtain ⟨y, z6⟩ := He.ba z6
  have Net_tt := of_decide_eq_true y
  clear y
  obtain ⟨y, z6⟩ := He.ba z6
  have Net_ss := of_decide_eq_true y
  clear y
  obtain ⟨y, z6⟩ := He.ba z6
  have Net_xNoneType := of_decide_eq_true y
  clear y
  obtain ⟨y, z6⟩ := He.ba z6
  have Net_yNoneType := of_decide_eq_true y
  clear y
  obtain ⟨y, z6⟩ := He.ba z6
  have Net_xbool := of_decide_eq_true y
  clear y
  have y := z6
  have Net_ybool := of_decide_eq_true y
  clear y
  unfold ex_7 at z7
  obtain ⟨y, z7⟩ := He.ba z7
  have Net_xint := of_decide_eq_true y
  clear y
  obtain ⟨y, z7⟩ := He.ba z7
  have Net_yint := of_decide_eq_true y
  clear y
  obtain ⟨y, z7⟩ := He.ba z7
  have Net_xstr := of_decide_eq_true y
  clear y
  obtain ⟨y, z7⟩ := He.ba z7
  have Net_ystr := of_decide_eq_true y
  clear y
  obtain ⟨y, z7⟩ := He.ba z7
  have Net_xtuple := of_decide_eq_true y
  clear y
  obtain ⟨y, z7⟩ := He.ba z7
  have Net_ytuple := of_decide_eq_true y
  clear y
  obtain ⟨y, z7⟩ := He.ba z7
  have Net_xlist := of_decide_eq_true y
  clear y
  obtain ⟨y, z7⟩ := He.ba z7
  have Net_ylist := of_decide_eq_true y
  clear y
  obtain ⟨y, z7⟩ := He.ba z7
  have Net_xdict := of_decide_eq_true y
  clear y
  obtain ⟨y, z7⟩ := He.ba z7
  have Net_ydict := of_decide_eq_true y
  clear y
  obtain ⟨y, z7⟩ := He.ba z7
  have Net_n_own_levels := of_decide_eq_true y
  clear y
  obtain ⟨y, z7⟩ := He.ba z7
  have Net_n_own_edges := of_decide_eq_true y
  clear y
  obtain ⟨y, z7⟩ := He.ba z7
  have Net_n_own_near := of_decide_eq_true y
  clear y
  obtain ⟨y, z7⟩ := He.ba z7
  have Span_zNet := of_decide_eq_true y
  clear y
  obtain ⟨y, z7⟩ := He.ba z7
  have gget := of_decide_eq_true y
  clear y
  obtain ⟨y, z7⟩ := He.ba z7
  have gtak := of_decide_eq_true y
  clear y
  obtain ⟨y, z7⟩ := He.ba z7
  obtain ⟨v1_Span_add_NoneType, Span_add_NoneType1⟩ := DH.some_ok y
  clear y
  obtain ⟨y, z7⟩ := He.ba z7
  obtain ⟨v2_Span_add_NoneType, Span_add_NoneType2⟩ := DH.some_ok y
  clear y
  obtain ⟨y, z7⟩ := He.ba z7
  obtain ⟨v1_Span_add_bool, Span_add_bool1⟩ := DH.some_ok y
  clear y
  have y := z7
  obtain ⟨v2_Span_add_bool, Span_add_bool2⟩ := DH.some_ok y
  clear y
  unfold ex_8 at z8
  obtain ⟨y, z8⟩ := He.ba z8
  obtain ⟨v1_Span_add_int, Span_add_int1⟩ := DH.some_ok y
  clear y
  obtain ⟨y, z8⟩ := He.ba z8
  obtain ⟨v2_Span_add_int, Span_add_int2⟩ := DH.some_ok y
  clear y
  obtain ⟨y, z8⟩ := He.ba z8
  obtain ⟨v1_Span_add_str, Span_add_str1⟩ := DH.some_ok y
  clear y
  obtain ⟨y, z8⟩ := He.ba z8
  obtain ⟨v2_Span_add_str, Span_add_str2⟩ := DH.some_ok y
  clear y
  obtain ⟨y, z8⟩ := He.ba z8
  obtain ⟨v1_Span_add_tuple, Span_add_tuple1⟩ := DH.some_ok y
  clear y
  obtain ⟨y, z8⟩ := He.ba z8
  obtain ⟨v2_Span_add_tuple, Span_add_tuple2⟩ := DH.some_ok y
  clear y
  obtain ⟨y, z8⟩ := He.ba z8
  obtain ⟨v1_Span_add_list, Span_add_list1⟩ := DH.some_ok y
  clear y
  obtain ⟨y, z8⟩ := He.ba z8
  obtain ⟨v2_Span_add_list, Span_add_list2⟩ := DH.some_ok y
  clear y
  obtain ⟨y, z8⟩ := He.ba z8
  obtain ⟨v1_Span_add_dict, Span_add_dict1⟩ := DH.some_ok y
  clear y
  obtain ⟨y, z8⟩ := He.ba z8
  obtain ⟨v2_Span_add_dict, Span_add_dict2⟩ := DH.some_ok y
  clear y
  obtain ⟨y, z8⟩ := He.ba z8
  have Span_add_o1 := of_decide_eq_true y
  clear y
  obtain ⟨y, z8⟩ := He.ba z8
  have Span_add_o2 := of_decide_eq_true y
  clear y
  obtain ⟨y, z8⟩ := He.ba z8
  have Net_ov := y
  clear y
  obtain ⟨y, z8⟩ := He.ba z8
  have Span_ne_Net := of_decide_eq_true y
  clear y
  obtain ⟨y, z8⟩ := He.ba z8
  obtain ⟨g1_Span_add_Net, Span_add_Net1⟩ := DH.refB_ok y
  clear y
  obtain ⟨y, z8⟩ := He.ba z8
  obtain ⟨g2_Span_add_Net, Span_add_Net2⟩ := DH.refB_ok y
  clear y
  obtain ⟨y, z8⟩ := He.ba z8
  obtain ⟨v1_Span_sub_NoneType, Span_sub_NoneType1⟩ := DH.some_ok y
  clear y
  obtain ⟨y, z8⟩ := He.ba z8
  obtain ⟨v2_Span_sub_NoneType, Span_sub_NoneType2⟩ := DH.some_ok y
  clear y
  obtain ⟨y, z8⟩ := He.ba z8
  obtain ⟨v1_Span_sub_bool, Span_sub_bool1⟩ := DH.some_ok y
  clear y
  have y := z8
  obtain ⟨v2_Span_sub_bool, Span_sub_bool2⟩ := DH.some_ok y
  clear y
  unfold ex_9 at z9
  obtain ⟨y, z9⟩ := He.ba z9
  obtain ⟨v1_Span_sub_int, Span_sub_int1⟩ := DH.some_ok y
  clear y
  obtain ⟨y, z9⟩ := He.ba z9
  obtain ⟨v2_Span_sub_int, Span_sub_int2⟩ := DH.some_ok y
  clear y
  obtain ⟨y, z9⟩ := He.ba z9
  obtain ⟨v1_Span_sub_str, Span_sub_str1⟩ := DH.some_ok y
  clear y
  obtain ⟨y, z9⟩ := He.ba z9
  obtain ⟨v2_Span_sub_str, Span_sub_str2⟩ := DH.some_ok y
  clear y
  obtain ⟨y, z9⟩ := He.ba z9
  obtain ⟨v1_Span_sub_tuple, Span_sub_tuple1⟩ := DH.some_ok y
  clear y
  obtain ⟨y, z9⟩ := He.ba z9
  obtain ⟨v2_Span_sub_tuple, Span_sub_tuple2⟩ := DH.some_ok y
  clear y
  obtain ⟨y, z9⟩ := He.ba z9
  obtain ⟨v1_Span_sub_list, Span_sub_list1⟩ := DH.some_ok y
  clear y
  obtain ⟨y, z9⟩ := He.ba z9
  obtain ⟨v2_Span_sub_list, Span_sub_list2⟩ := DH.some_ok y
  clear y
  obtain ⟨y, z9⟩ := He.ba z9
  obtain ⟨v1_Span_sub_dict, Span_sub_dict1⟩ := DH.some_ok y
  clear y
  obtain ⟨y, z9⟩ := He.ba z9
  obtain ⟨v2_Span_sub_dict, Span_sub_dict2⟩ := DH.some_ok y
  clear y
  obtain ⟨y, z9⟩ := He.ba z9
  have Span_sub_nr := of_decide_eq_true y
  clear y
  obtain ⟨y, z9⟩ := He.ba z9
  have Span_sub_o1 := of_decide_eq_true y
  clear y
  obtain ⟨y, z9⟩ := He.ba z9
  have Span_sub_o2 := of_decide_eq_true y
  clear y
  obtain ⟨y, z9⟩ := He.ba z9
  have Span_sub_Net1 := of_decide_eq_true y
  clear y
  obtain ⟨y, z9⟩ := He.ba z9
  have Span_sub_Net2 := of_decide_eq_true y
  clear y
  obtain ⟨y, z9⟩ := He.ba z9
  obtain ⟨v1_Span_and_NoneType, Span_and_NoneType1⟩ := DH.some_ok y
  clear y
  obtain ⟨y, z9⟩ := He.ba z9
  obtain ⟨v2_Span_and_NoneType, Span_and_NoneType2⟩ := DH.some_ok y
  clear y
  obtain ⟨y, z9⟩ := He.ba z9
  obtain ⟨v1_Span_and_bool, Span_and_bool1⟩ := DH.some_ok y
  clear y
  obtain ⟨y, z9⟩ := He.ba z9
  obtain ⟨v2_Span_and_bool, Span_and_bool2⟩ := DH.some_ok y
  clear y
  have y := z9
  obtain ⟨v1_Span_and_int, Span_and_int1⟩ := DH.some_ok y
  clear y
  unfold ex_10 at z10
  obtain ⟨y, z10⟩ := He.ba z10
  obtain ⟨v2_Span_and_int, Span_and_int2⟩ := DH.some_ok y
  clear y
  obtain ⟨y, z10⟩ := He.ba z10
  obtain ⟨v1_Span_and_str, Span_and_str1⟩ := DH.some_ok y
  clear y
  obtain ⟨y, z10⟩ := He.ba z10
  obtain ⟨v2_Span_and_str, Span_and_str2⟩ := DH.some_ok y
  clear y
  obtain ⟨y, z10⟩ := He.ba z10
  obtain ⟨v1_Span_and_tuple, Span_and_tuple1⟩ := DH.some_ok y
  clear y
  obtain ⟨y, z10⟩ := He.ba z10
  obtain ⟨v2_Span_and_tuple, Span_and_tuple2⟩ := DH.some_ok y
  clear y
  obtain ⟨y, z10⟩ := He.ba z10
  obtain ⟨v1_Span_and_list, Span_and_list1⟩ := DH.some_ok y
  clear y
  obtain ⟨y, z10⟩ := He.ba z10
  obtain ⟨v2_Span_and_list, Span_and_list2⟩ := DH.some_ok y
  clear y
  obtain ⟨y, z10⟩ := He.ba z10
  obtain ⟨v1_Span_and_dict, Span_and_dict1⟩ := DH.some_ok y
  clear y
  obtain ⟨y, z10⟩ := He.ba z10
  obtain ⟨v2_Span_and_dict, Span_and_dict2⟩ := DH.some_ok y
  clear y
  obtain ⟨y, z10⟩ := He.ba z10
  have Span_and_nr := of_decide_eq_true y
  clear y
  obtain ⟨y, z10⟩ := He.ba z10
  have Span_and_o1 := of_decide_eq_true y
  clear y
  obtain ⟨y, z10⟩ := He.ba z10
  have Span_and_o2 := of_decide_eq_true y
  clear y
  obtain ⟨y, z10⟩ := He.ba z10
  have Span_and_Net1 := of_decide_eq_true y
  clear y
  obtain ⟨y, z10⟩ := He.ba z10
  have Span_and_Net2 := of_decide_eq_true y
  clear y
  obtain ⟨y, z10⟩ := He.ba z10
  obtain ⟨v1_Span_or_NoneType, Span_or_NoneType1⟩ := DH.some_ok y
  clear y
  obtain ⟨y, z10⟩ := He.ba z10
  obtain ⟨v2_Span_or_NoneType, Span_or_NoneType2⟩ := DH.some_ok y
  clear y
  obtain ⟨y, z10⟩ := He.ba z10
  obtain ⟨v1_Span_or_bool, Span_or_bool1⟩ := DH.some_ok y
  clear y
  obtain ⟨y, z10⟩ := He.ba z10
  obtain ⟨v2_Span_or_bool, Span_or_bool2⟩ := DH.some_ok y
  clear y
  obtain ⟨y, z10⟩ := He.ba z10
  obtain ⟨v1_Span_or_int, Span_or_int1⟩ := DH.some_ok y
  clear y
  have y := z10
  obtain ⟨v2_Span_or_int, Span_or_int2⟩ := DH.some_ok y
  clear y
  unfold ex_11 at z11
  obtain ⟨y, z11⟩ := He.ba z11
  obtain ⟨v1_Span_or_str, Span_or_str1⟩ := DH.some_ok y
  clear y
  obtain ⟨y, z11⟩ := He.ba z11
  obtain ⟨v2_Span_or_str, Span_or_str2⟩ := DH.some_ok y
  clear y
  obtain ⟨y, z11⟩ := He.ba z11
  obtain ⟨v1_Span_or_tuple, Span_or_tuple1⟩ := DH.some_ok y
  clear y
  obtain ⟨y, z11⟩ := He.ba z11
  obtain ⟨v2_Span_or_tuple, Span_or_tuple2⟩ := DH.some_ok y
  clear y
  obtain ⟨y, z11⟩ := He.ba z11
  obtain ⟨v1_Span_or_list, Span_or_list1⟩ := DH.some_ok y
  clear y
  obtain ⟨y, z11⟩ := He.ba z11
  obtain ⟨v2_Span_or_list, Span_or_list2⟩ := DH.some_ok y
  clear y
  obtain ⟨y, z11⟩ := He.ba z11
  obtain ⟨v1_Span_or_dict, Span_or_dict1⟩ := DH.some_ok y
  clear y
  obtain ⟨y, z11⟩ := He.ba z11
  obtain ⟨v2_Span_or_dict, Span_or_dict2⟩ := DH.some_ok y
  clear y
  obtain ⟨y, z11⟩ := He.ba z11
  have Span_or_nr := of_decide_eq_true y
  clear y
  obtain ⟨y, z11⟩ := He.ba z11
  have Span_or_o1 := of_decide_eq_true y
  clear y
  obtain ⟨y, z11⟩ := He.ba z11
  have Span_or_o2 := of_decide_eq_true y
  clear y
  obtain ⟨y, z11⟩ := He.ba z11
  obtain ⟨g1_Span_or_Net, Span_or_Net1⟩ := DH.refB_ok y
  clear y
  obtain ⟨y, z11⟩ := He.ba z11
  have Span_or_Net2 := of_decide_eq_true y
  clear y
  obtain ⟨y, z11⟩ := He.ba z11
  have InvalidLevel_ex := DH.excB_ok y
  clear y
  obtain ⟨y, z11⟩ := He.ba z11
  have InvalidLevel_sa := of_decide_eq_true y
  clear y
  obtain ⟨y, z11⟩ := He.ba z11
  have InvalidLevel_be := of_decide_eq_true y
  clear y
  obtain ⟨y, z11⟩ := He.ba z11
  have InvalidLevel_tt := of_decide_eq_true y
  clear y
  obtain ⟨y, z11⟩ := He.ba z11
  have InvalidLevel_ke := of_decide_eq_true y
  clear y
  obtain ⟨y, z11⟩ := He.ba z11
  have InvalidLevel_it := of_decide_eq_true y
  clear y
  have y := z11
  have InvalidLevel_ga := of_decide_eq_true y
  clear y
  unfold ex_12 at z12
  obtain ⟨y, z12⟩ := He.ba z12
  have InvalidLevel_gg := of_decide_eq_true y
  clear y
  obtain ⟨y, z12⟩ := He.ba z12
  have InvalidLevel_hd := of_decide_eq_true y
  clear y
  obtain ⟨y, z12⟩ := He.ba z12
  have InvalidLevel_cl := of_decide_eq_true y
  clear y
  obtain ⟨y, z12⟩ := He.ba z12
  have InvalidLevel_ob := of_decide_eq_true y
  clear y
  obtain ⟨y, z12⟩ := He.ba z12
  have InvalidLevel_ss := of_decide_eq_true y
  clear y
  obtain ⟨y, z12⟩ := He.ba z12
  have InvalidLevel_n_value := of_decide_eq_true y
  clear y
  obtain ⟨y, z12⟩ := He.ba z12
  have AbreastError_ic := of_decide_eq_true y
  clear y
  obtain ⟨y, z12⟩ := He.ba z12
  have AbreastError_tt := of_decide_eq_true y
  clear y
  obtain ⟨y, z12⟩ := He.ba z12
  have InvalidLevel_is_AbreastError := of_decide_eq_true y
  clear y
  obtain ⟨y, z12⟩ := He.ba z12
  have InvalidLevel_ca_InvalidSpan := of_decide_eq_true y
  clear y
  obtain ⟨y, z12⟩ := He.ba z12
  have InvalidLevel_ca_EmptySpan := of_decide_eq_true y
  clear y
  obtain ⟨y, z12⟩ := He.ba z12
  have InvalidLevel_ca_Apart := of_decide_eq_true y
  clear y
  obtain ⟨y, z12⟩ := He.ba z12
  have InvalidSpan_ex := DH.excB_ok y
  clear y
  obtain ⟨y, z12⟩ := He.ba z12
  have InvalidSpan_sa := of_decide_eq_true y
  clear y
  obtain ⟨y, z12⟩ := He.ba z12
  have InvalidSpan_be := of_decide_eq_true y
  clear y
  obtain ⟨y, z12⟩ := He.ba z12
  have InvalidSpan_tt := of_decide_eq_true y
  clear y
  obtain ⟨y, z12⟩ := He.ba z12
  have InvalidSpan_ke := of_decide_eq_true y
  clear y
  obtain ⟨y, z12⟩ := He.ba z12
  have InvalidSpan_it := of_decide_eq_true y
  clear y
  obtain ⟨y, z12⟩ := He.ba z12
  have InvalidSpan_ga := of_decide_eq_true y
  clear y
  have y := z12
  have InvalidSpan_gg := of_decide_eq_true y
  clear y
  unfold ex_13 at z13
  obtain ⟨y, z13⟩ := He.ba z13
  have InvalidSpan_hd := of_decide_eq_true y
  clear y
  obtain ⟨y, z13⟩ := He.ba z13
  have InvalidSpan_cl := of_decide_eq_true y
  clear y
  obtain ⟨y, z13⟩ := He.ba z13
  have InvalidSpan_ob := of_decide_eq_true y
  clear y
  obtain ⟨y, z13⟩ := He.ba z13
  have InvalidSpan_ss := of_decide_eq_true y
  clear y
  obtain ⟨y, z13⟩ := He.ba z13
  have InvalidSpan_n_value := of_decide_eq_true y
  clear y
  obtain ⟨y, z13⟩ := He.ba z13
  have InvalidSpan_is_AbreastError := of_decide_eq_true y
  clear y
  obtain ⟨y, z13⟩ := He.ba z13
  have InvalidSpan_ca_InvalidLevel := of_decide_eq_true y
  clear y
  obtain ⟨y, z13⟩ := He.ba z13
  have InvalidSpan_ca_EmptySpan := of_decide_eq_true y
  clear y
  obtain ⟨y, z13⟩ := He.ba z13
  have InvalidSpan_ca_Apart := of_decide_eq_true y
  clear y
  obtain ⟨y, z13⟩ := He.ba z13
  have EmptySpan_ex := DH.excB_ok y
  clear y
  obtain ⟨y, z13⟩ := He.ba z13
  have EmptySpan_sa := of_decide_eq_true y
  clear y
  obtain ⟨y, z13⟩ := He.ba z13
  have EmptySpan_be := of_decide_eq_true y
  clear y
  obtain ⟨y, z13⟩ := He.ba z13
  have EmptySpan_tt := of_decide_eq_true y
  clear y
  obtain ⟨y, z13⟩ := He.ba z13
  have EmptySpan_ke := of_decide_eq_true y
  clear y
  obtain ⟨y, z13⟩ := He.ba z13
  have EmptySpan_it := of_decide_eq_true y
  clear y
  obtain ⟨y, z13⟩ := He.ba z13
  have EmptySpan_ga := of_decide_eq_true y
  clear y
  obtain ⟨y, z13⟩ := He.ba z13
  have EmptySpan_gg := of_decide_eq_true y
  clear y
  obtain ⟨y, z13⟩ := He.ba z13
  have EmptySpan_hd := of_decide_eq_true y
  clear y
  obtain ⟨y, z13⟩ := He.ba z13
  have EmptySpan_cl := of_decide_eq_true y
  clear y
  have y := z13
  have EmptySpan_ob := of_decide_eq_true y
  clear y
  unfold ex_14 at z14
  obtain ⟨y, z14⟩ := He.ba z14
  have EmptySpan_ss := of_decide_eq_true y
  clear y
  obtain ⟨y, z14⟩ := He.ba z14
  have EmptySpan_n_greatest := of_decide_eq_true y
  clear y
  obtain ⟨y, z14⟩ := He.ba z14
  have EmptySpan_n_least := of_decide_eq_true y
  clear y
  obtain ⟨y, z14⟩ := He.ba z14
  have EmptySpan_is_AbreastError := of_decide_eq_true y
  clear y
  obtain ⟨y, z14⟩ := He.ba z14
  have EmptySpan_ca_InvalidLevel := of_decide_eq_true y
  clear y
  obtain ⟨y, z14⟩ := He.ba z14
  have EmptySpan_ca_InvalidSpan := of_decide_eq_true y
  clear y
  obtain ⟨y, z14⟩ := He.ba z14
  have EmptySpan_ca_Apart := of_decide_eq_true y
  clear y
  obtain ⟨y, z14⟩ := He.ba z14
  have Apart_ex := DH.excB_ok y
  clear y
  obtain ⟨y, z14⟩ := He.ba z14
  have Apart_sa := of_decide_eq_true y
  clear y
  obtain ⟨y, z14⟩ := He.ba z14
  have Apart_be := of_decide_eq_true y
  clear y
  obtain ⟨y, z14⟩ := He.ba z14
  have Apart_tt := of_decide_eq_true y
  clear y
  obtain ⟨y, z14⟩ := He.ba z14
  have Apart_ke := of_decide_eq_true y
  clear y
  obtain ⟨y, z14⟩ := He.ba z14
  have Apart_it := of_decide_eq_true y
  clear y
  obtain ⟨y, z14⟩ := He.ba z14
  have Apart_ga := of_decide_eq_true y
  clear y
  obtain ⟨y, z14⟩ := He.ba z14
  have Apart_gg := of_decide_eq_true y
  clear y
  obtain ⟨y, z14⟩ := He.ba z14
  have Apart_hd := of_decide_eq_true y
  clear y
  obtain ⟨y, z14⟩ := He.ba z14
  have Apart_cl := of_decide_eq_true y
  clear y
  obtain ⟨y, z14⟩ := He.ba z14
  have Apart_ob := of_decide_eq_true y
  clear y
  obtain ⟨y, z14⟩ := He.ba z14
  have Apart_ss := of_decide_eq_true y
  clear y
  have y := z14
  have Apart_n_other := of_decide_eq_true y
  clear y
  unfold ex_15 at z15
  obtain ⟨y, z15⟩ := He.ba z15
  have Apart_n_one := of_decide_eq_true y
  clear y
  obtain ⟨y, z15⟩ := He.ba z15
  have StateError_ic := of_decide_eq_true y
  clear y
  obtain ⟨y, z15⟩ := He.ba z15
  have StateError_tt := of_decide_eq_true y
  clear y
  obtain ⟨y, z15⟩ := He.ba z15
  have Apart_is_StateError := of_decide_eq_true y
  clear y
  obtain ⟨y, z15⟩ := He.ba z15
  have Apart_is_AbreastError := of_decide_eq_true y
  clear y
  obtain ⟨y, z15⟩ := He.ba z15
  have MissingError_ic := of_decide_eq_true y
  clear y
  obtain ⟨y, z15⟩ := He.ba z15
  have MissingError_tt := of_decide_eq_true y
  clear y
  obtain ⟨y, z15⟩ := He.ba z15
  have Apart_is_MissingError := of_decide_eq_true y
  clear y
  obtain ⟨y, z15⟩ := He.ba z15
  have LimitError_ic := of_decide_eq_true y
  clear y
  obtain ⟨y, z15⟩ := He.ba z15
  have LimitError_tt := of_decide_eq_true y
  clear y
  obtain ⟨y, z15⟩ := He.ba z15
  have Apart_is_LimitError := of_decide_eq_true y
  clear y
  obtain ⟨y, z15⟩ := He.ba z15
  have Apart_ca_InvalidLevel := of_decide_eq_true y
  clear y
  obtain ⟨y, z15⟩ := He.ba z15
  have Apart_ca_InvalidSpan := of_decide_eq_true y
  clear y
  obtain ⟨y, z15⟩ := He.ba z15
  have Apart_ca_EmptySpan := of_decide_eq_true y
  clear y
  obtain ⟨y, z15⟩ := He.ba z15
  have z_isinstance := of_decide_eq_true y
  clear y
  obtain ⟨y, z15⟩ := He.ba z15
  have z_min := of_decide_eq_true y
  clear y
  obtain ⟨y, z15⟩ := He.ba z15
  have z_max := of_decide_eq_true y
  clear y
  obtain ⟨y, z15⟩ := He.ba z15
  have z_len := of_decide_eq_true y
  clear y
  obtain ⟨y, z15⟩ := He.ba z15
  have z_abs := of_decide_eq_true y
  clear y
  have y := z15
  have z_int := of_decide_eq_true y
  clear y
  unfold ex_16 at z16
  obtain ⟨y, z16⟩ := He.ba z16
  have z_divmod := of_decide_eq_true y
  clear y
  obtain ⟨y, z16⟩ := He.ba z16
  have z_str := of_decide_eq_true y
  clear y
  obtain ⟨y, z16⟩ := He.ba z16
  have z_repr := of_decide_eq_true y
  clear y
  obtain ⟨y, z16⟩ := He.ba z16
  have z_range := of_decide_eq_true y
  clear y
  obtain ⟨y, z16⟩ := He.ba z16
  have z_all := of_decide_eq_true y
  clear y
  obtain ⟨y, z16⟩ := He.ba z16
  have z_enumerate := of_decide_eq_true y
  clear y
  obtain ⟨y, z16⟩ := He.ba z16
  have z_bool := of_decide_eq_true y
  clear y
  obtain ⟨y, z16⟩ := He.ba z16
  have z_list := of_decide_eq_true y
  clear y
  obtain ⟨y, z16⟩ := He.ba z16
  have z_tuple := of_decide_eq_true y
  clear y
  obtain ⟨y, z16⟩ := He.ba z16
  have z_dict := of_decide_eq_true y
  clear y
  obtain ⟨y, z16⟩ := He.ba z16
  have z_sorted := of_decide_eq_true y
  clear y
  obtain ⟨y, z16⟩ := He.ba z16
  have z_zip := of_decide_eq_true y
  clear y
  obtain ⟨y, z16⟩ := He.ba z16
  have ne__law_span_right__law_around_right := of_decide_eq_true y
  clear y
  obtain ⟨y, z16⟩ := He.ba z16
  have ne__law_span_right__law_moved_right := of_decide_eq_true y
  clear y
  obtain ⟨y, z16⟩ := He.ba z16
  have ne__law_span_right__law_joined_right := of_decide_eq_true y
  clear y
  obtain ⟨y, z16⟩ := He.ba z16
  have ne__law_span_right__law_apart_right := of_decide_eq_true y
  clear y
  obtain ⟨y, z16⟩ := He.ba z16
  have ne__law_around_right__law_moved_right := of_decide_eq_true y
  clear y
  obtain ⟨y, z16⟩ := He.ba z16
  have ne__law_around_right__law_joined_right := of_decide_eq_true y
  clear y
  obtain ⟨y, z16⟩ := He.ba z16
  have ne__law_around_right__law_apart_right := of_decide_eq_true y
  clear y
  have y := z16
  have ne__law_moved_right__law_joined_right := of_decide_eq_true y
  clear y
  unfold ex_17 at z17
  obtain ⟨y, z17⟩ := He.ba z17
  have ne__law_moved_right__law_apart_right := of_decide_eq_true y
  clear y
  have y := z17
  have ne__law_joined_right__law_apart_right := of_decide_eq_true y
  clear y
  obtain ⟨fd_is_integer, FD_is_integer⟩ := c.def_ 0 (d := dA_is_integer) rfl
  have FF_is_integer : Fun K "is_integer" "is_integer" s_is_integer (adK K).f_is_integer fd_is_integer := DH.fun_ FD_is_integer
  obtain ⟨fd_InvalidLevel___init__, FD_InvalidLevel___init__⟩ := c.def_ 1 (d := dA_InvalidLevel___init__) rfl
  have FF_InvalidLevel___init__ : Fun K "__init__" "InvalidLevel.__init__" s_InvalidLevel___init__ (adK K).f_InvalidLevel___init__ fd_InvalidLevel___init__ := DH.fun_ FD_InvalidLevel___init__
  obtain ⟨fd_InvalidSpan___init__, FD_InvalidSpan___init__⟩ := c.def_ 2 (d := dA_InvalidSpan___init__) rfl
  have FF_InvalidSpan___init__ : Fun K "__init__" "InvalidSpan.__init__" s_InvalidSpan___init__ (adK K).f_InvalidSpan___init__ fd_InvalidSpan___init__ := DH.fun_ FD_InvalidSpan___init__
  obtain ⟨fd_EmptySpan___init__, FD_EmptySpan___init__⟩ := c.def_ 3 (d := dA_EmptySpan___init__) rfl
  have FF_EmptySpan___init__ : Fun K "__init__" "EmptySpan.__init__" s_EmptySpan___init__ (adK K).f_EmptySpan___init__ fd_EmptySpan___init__ := DH.fun_ FD_EmptySpan___init__
  obtain ⟨fd_Apart___init__, FD_Apart___init__⟩ := c.def_ 4 (d := dA_Apart___init__) rfl
  have FF_Apart___init__ : Fun K "__init__" "Apart.__init__" s_Apart___init__ (adK K).f_Apart___init__ fd_Apart___init__ := DH.fun_ FD_Apart___init__
  obtain ⟨fd_want_level, FD_want_level⟩ := c.def_ 5 (d := dA_want_level) rfl
  have FF_want_level : Fun K "want_level" "want_level" s_want_level (adK K).f_want_level fd_want_level := DH.fun_ FD_want_level
  obtain ⟨fd_want_span, FD_want_span⟩ := c.def_ 6 (d := dA_want_span) rfl
  have FF_want_span : Fun K "want_span" "want_span" s_want_span (adK K).f_want_span fd_want_span := DH.fun_ FD_want_span
  obtain ⟨fd_Span___init__, FD_Span___init__⟩ := c.def_ 7 (d := dA_Span___init__) rfl
  have FF_Span___init__ : Fun K "__init__" "Span.__init__" s_Span___init__ (adK K).f_Span___init__ fd_Span___init__ := DH.fun_ FD_Span___init__
  obtain ⟨fd_Span_around, FD_Span_around⟩ := c.def_ 8 (d := dA_Span_around) rfl
  have FF_Span_around : Fun K "around" "Span.around" s_Span_around (adK K).f_Span_around fd_Span_around := DH.fun_ FD_Span_around
  obtain ⟨fd_Span_low, FD_Span_low⟩ := c.def_ 9 (d := dA_Span_low) rfl
  have FF_Span_low : Fun K "low" "Span.low" s_Span_low (adK K).f_Span_low fd_Span_low := DH.fun_ FD_Span_low
  obtain ⟨fd_Span_high, FD_Span_high⟩ := c.def_ 10 (d := dA_Span_high) rfl
  have FF_Span_high : Fun K "high" "Span.high" s_Span_high (adK K).f_Span_high fd_Span_high := DH.fun_ FD_Span_high
  obtain ⟨fd_Span_is_within, FD_Span_is_within⟩ := c.def_ 11 (d := dA_Span_is_within) rfl
  have FF_Span_is_within : Fun K "is_within" "Span.is_within" s_Span_is_within (adK K).f_Span_is_within fd_Span_is_within := DH.fun_ FD_Span_is_within
  obtain ⟨fd_Span___and__, FD_Span___and__⟩ := c.def_ 12 (d := dA_Span___and__) rfl
  have FF_Span___and__ : Fun K "__and__" "Span.__and__" s_Span___and__ (adK K).f_Span___and__ fd_Span___and__ := DH.fun_ FD_Span___and__
  obtain ⟨fd_Span___or__, FD_Span___or__⟩ := c.def_ 13 (d := dA_Span___or__) rfl
  have FF_Span___or__ : Fun K "__or__" "Span.__or__" s_Span___or__ (adK K).f_Span___or__ fd_Span___or__ := DH.fun_ FD_Span___or__
  obtain ⟨fd_Span___add__, FD_Span___add__⟩ := c.def_ 14 (d := dA_Span___add__) rfl
  have FF_Span___add__ : Fun K "__add__" "Span.__add__" s_Span___add__ (adK K).f_Span___add__ fd_Span___add__ := DH.fun_ FD_Span___add__
  obtain ⟨fd_Span___radd__, FD_Span___radd__⟩ := c.def_ 15 (d := dA_Span___radd__) rfl
  have FF_Span___radd__ : Fun K "__radd__" "Span.__radd__" s_Span___radd__ (adK K).f_Span___radd__ fd_Span___radd__ := DH.fun_ FD_Span___radd__
  obtain ⟨fd_Span___sub__, FD_Span___sub__⟩ := c.def_ 16 (d := dA_Span___sub__) rfl
  have FF_Span___sub__ : Fun K "__sub__" "Span.__sub__" s_Span___sub__ (adK K).f_Span___sub__ fd_Span___sub__ := DH.fun_ FD_Span___sub__
  obtain ⟨fd_Span___eq__, FD_Span___eq__⟩ := c.def_ 17 (d := dA_Span___eq__) rfl
  have FF_Span___eq__ : Fun K "__eq__" "Span.__eq__" s_Span___eq__ (adK K).f_Span___eq__ fd_Span___eq__ := DH.fun_ FD_Span___eq__
  obtain ⟨fd_Span___repr__, FD_Span___repr__⟩ := c.def_ 18 (d := dA_Span___repr__) rfl
  have FF_Span___repr__ : Fun K "__repr__" "Span.__repr__" s_Span___repr__ (adK K).f_Span___repr__ fd_Span___repr__ := DH.fun_ FD_Span___repr__
  obtain ⟨fd_is_list, FD_is_list⟩ := c.def_ 19 (d := dA_is_list) rfl
  have FF_is_list : Fun K "is_list" "is_list" s_is_list (adK K).f_is_list fd_is_list := DH.fun_ FD_is_list
  obtain ⟨fd_is_name, FD_is_name⟩ := c.def_ 20 (d := dA_is_name) rfl
  have FF_is_name : Fun K "is_name" "is_name" s_is_name (adK K).f_is_name fd_is_name := DH.fun_ FD_is_name
  obtain ⟨fd_is_pair, FD_is_pair⟩ := c.def_ 21 (d := dA_is_pair) rfl
  have FF_is_pair : Fun K "is_pair" "is_pair" s_is_pair (adK K).f_is_pair fd_is_pair := DH.fun_ FD_is_pair
  obtain ⟨fd_told_edge, FD_told_edge⟩ := c.def_ 22 (d := dA_told_edge) rfl
  have FF_told_edge : Fun K "told_edge" "told_edge" s_told_edge (adK K).f_told_edge fd_told_edge := DH.fun_ FD_told_edge
  obtain ⟨fd_checked_levels, FD_checked_levels⟩ := c.def_ 23 (d := dA_checked_levels) rfl
  have FF_checked_levels : Fun K "checked_levels" "checked_levels" s_checked_levels (adK K).f_checked_levels fd_checked_levels := DH.fun_ FD_checked_levels
  obtain ⟨fd_checked_edges, FD_checked_edges⟩ := c.def_ 24 (d := dA_checked_edges) rfl
  have FF_checked_edges : Fun K "checked_edges" "checked_edges" s_checked_edges (adK K).f_checked_edges fd_checked_edges := DH.fun_ FD_checked_edges
  obtain ⟨fd_neighbours_in, FD_neighbours_in⟩ := c.def_ 25 (d := dA_neighbours_in) rfl
  have FF_neighbours_in : Fun K "neighbours_in" "neighbours_in" s_neighbours_in (adK K).f_neighbours_in fd_neighbours_in := DH.fun_ FD_neighbours_in
  obtain ⟨fd_Net___init__, FD_Net___init__⟩ := c.def_ 26 (d := dA_Net___init__) rfl
  have FF_Net___init__ : DefD K "__init__" "Net.__init__" s_Net___init__ [.ref (adK K).dx0_Net___init__] (adK K).f_Net___init__ fd_Net___init__ := FD_Net___init__
  obtain ⟨fd_Net_path, FD_Net_path⟩ := c.def_ 27 (d := dA_Net_path) rfl
  have FF_Net_path : Fun K "path" "Net.path" s_Net_path (adK K).f_Net_path fd_Net_path := DH.fun_ FD_Net_path
  obtain ⟨fd_Net___eq__, FD_Net___eq__⟩ := c.def_ 28 (d := dA_Net___eq__) rfl
  have FF_Net___eq__ : Fun K "__eq__" "Net.__eq__" s_Net___eq__ (adK K).f_Net___eq__ fd_Net___eq__ := DH.fun_ FD_Net___eq__
  obtain ⟨fd_Net___repr__, FD_Net___repr__⟩ := c.def_ 29 (d := dA_Net___repr__) rfl
  have FF_Net___repr__ : Fun K "__repr__" "Net.__repr__" s_Net___repr__ (adK K).f_Net___repr__ fd_Net___repr__ := DH.fun_ FD_Net___repr__
  obtain ⟨fd__law_pot, FD__law_pot⟩ := c.def_ 30 (d := dA__law_pot) rfl
  have FF__law_pot : Fun K "_law_pot" "_law_pot" s__law_pot (adK K).f__law_pot fd__law_pot := DH.fun_ FD__law_pot
  obtain ⟨fd__law_draw, FD__law_draw⟩ := c.def_ 31 (d := dA__law_draw) rfl
  have FF__law_draw : Fun K "_law_draw" "_law_draw" s__law_draw (adK K).f__law_draw fd__law_draw := DH.fun_ FD__law_draw
  obtain ⟨fd__law_pick, FD__law_pick⟩ := c.def_ 32 (d := dA__law_pick) rfl
  have FF__law_pick : Fun K "_law_pick" "_law_pick" s__law_pick (adK K).f__law_pick fd__law_pick := DH.fun_ FD__law_pick
  obtain ⟨fd__law_number, FD__law_number⟩ := c.def_ 33 (d := dA__law_number) rfl
  have FF__law_number : Fun K "_law_number" "_law_number" s__law_number (adK K).f__law_number fd__law_number := DH.fun_ FD__law_number
  obtain ⟨fd__law_thing, FD__law_thing⟩ := c.def_ 34 (d := dA__law_thing) rfl
  have FF__law_thing : Fun K "_law_thing" "_law_thing" s__law_thing (adK K).f__law_thing fd__law_thing := DH.fun_ FD__law_thing
  obtain ⟨fd__law_whole, FD__law_whole⟩ := c.def_ 35 (d := dA__law_whole) rfl
  have FF__law_whole : Fun K "_law_whole" "_law_whole" s__law_whole (adK K).f__law_whole fd__law_whole := DH.fun_ FD__law_whole
  obtain ⟨fd__law_told, FD__law_told⟩ := c.def_ 36 (d := dA__law_told) rfl
  have FF__law_told : Fun K "_law_told" "_law_told" s__law_told (adK K).f__law_told fd__law_told := DH.fun_ FD__law_told
  obtain ⟨fd__law_shown, FD__law_shown⟩ := c.def_ 37 (d := dA__law_shown) rfl
  have FF__law_shown : Fun K "_law_shown" "_law_shown" s__law_shown (adK K).f__law_shown fd__law_shown := DH.fun_ FD__law_shown
  obtain ⟨fd__law_due_span, FD__law_due_span⟩ := c.def_ 38 (d := dA__law_due_span) rfl
  have FF__law_due_span : Fun K "_law_due_span" "_law_due_span" s__law_due_span (adK K).f__law_due_span fd__law_due_span := DH.fun_ FD__law_due_span
  obtain ⟨fd__law_span_right, FD__law_span_right⟩ := c.def_ 39 (d := dA__law_span_right) rfl
  have FF__law_span_right : Fun K "_law_span_right" "_law_span_right" s__law_span_right (adK K).f__law_span_right fd__law_span_right := DH.fun_ FD__law_span_right
  obtain ⟨fd__law_around_right, FD__law_around_right⟩ := c.def_ 40 (d := dA__law_around_right) rfl
  have FF__law_around_right : Fun K "_law_around_right" "_law_around_right" s__law_around_right (adK K).f__law_around_right fd__law_around_right := DH.fun_ FD__law_around_right
  obtain ⟨fd__law_moved_right, FD__law_moved_right⟩ := c.def_ 41 (d := dA__law_moved_right) rfl
  have FF__law_moved_right : Fun K "_law_moved_right" "_law_moved_right" s__law_moved_right (adK K).f__law_moved_right fd__law_moved_right := DH.fun_ FD__law_moved_right
  obtain ⟨fd__law_joined_right, FD__law_joined_right⟩ := c.def_ 42 (d := dA__law_joined_right) rfl
  have FF__law_joined_right : Fun K "_law_joined_right" "_law_joined_right" s__law_joined_right (adK K).f__law_joined_right fd__law_joined_right := DH.fun_ FD__law_joined_right
  obtain ⟨fd__law_unlike_right, FD__law_unlike_right⟩ := c.def_ 43 (d := dA__law_unlike_right) rfl
  have FF__law_unlike_right : Fun K "_law_unlike_right" "_law_unlike_right" s__law_unlike_right (adK K).f__law_unlike_right fd__law_unlike_right := DH.fun_ FD__law_unlike_right
  obtain ⟨fd__law_apart_right, FD__law_apart_right⟩ := c.def_ 44 (d := dA__law_apart_right) rfl
  have FF__law_apart_right : Fun K "_law_apart_right" "_law_apart_right" s__law_apart_right (adK K).f__law_apart_right fd__law_apart_right := DH.fun_ FD__law_apart_right
  obtain ⟨fd__law_right, FD__law_right⟩ := c.def_ 45 (d := dA__law_right) rfl
  have FF__law_right : Fun K "_law_right" "_law_right" s__law_right (adK K).f__law_right fd__law_right := DH.fun_ FD__law_right
  obtain ⟨fd_law, FD_law⟩ := c.def_ 46 (d := dA_law) rfl
  have FF_law : Fun K "law" "law" s_law (adK K).f_law fd_law := DH.fun_ FD_law
  have e := hfa.symm.trans (PySem.W.mg_of X E0 a_law)
  cases e
  let d : Fd := { f_is_integer := fd_is_integer, f_InvalidLevel___init__ := fd_InvalidLevel___init__, f_InvalidSpan___init__ := fd_InvalidSpan___init__, f_EmptySpan___init__ := fd_EmptySpan___init__, f_Apart___init__ := fd_Apart___init__, f_want_level := fd_want_level, f_want_span := fd_want_span, f_Span___init__ := fd_Span___init__, f_Span_around := fd_Span_around, f_Span_low := fd_Span_low, f_Span_high := fd_Span_high, f_Span_is_within := fd_Span_is_within, f_Span___and__ := fd_Span___and__, f_Span___or__ := fd_Span___or__, f_Span___add__ := fd_Span___add__, f_Span___radd__ := fd_Span___radd__, f_Span___sub__ := fd_Span___sub__, f_Span___eq__ := fd_Span___eq__, f_Span___repr__ := fd_Span___repr__, f_is_list := fd_is_list, f_is_name := fd_is_name, f_is_pair := fd_is_pair, f_told_edge := fd_told_edge, f_checked_levels := fd_checked_levels, f_checked_edges := fd_checked_edges, f_neighbours_in := fd_neighbours_in, f_Net___init__ := fd_Net___init__, f_Net_path := fd_Net_path, f_Net___eq__ := fd_Net___eq__, f_Net___repr__ := fd_Net___repr__, f__law_pot := fd__law_pot, f__law_draw := fd__law_draw, f__law_pick := fd__law_pick, f__law_number := fd__law_number, f__law_thing := fd__law_thing, f__law_whole := fd__law_whole, f__law_told := fd__law_told, f__law_shown := fd__law_shown, f__law_due_span := fd__law_due_span, f__law_span_right := fd__law_span_right, f__law_around_right := fd__law_around_right, f__law_moved_right := fd__law_moved_right, f__law_joined_right := fd__law_joined_right, f__law_unlike_right := fd__law_unlike_right, f__law_apart_right := fd__law_apart_right, f__law_right := fd__law_right, f_law := fd_law }
  refine ⟨fd_law, G (adK K), s_lw (adK K), [((adK K).c__law_span_right, (adK K).t__law_span_right, ("_law_span_right.<locals>.<lambda>" : Str)), ((adK K).c__law_around_right, (adK K).t__law_around_right, ("_law_around_right.<locals>.<lambda>" : Str)), ((adK K).c__law_moved_right, (adK K).t__law_moved_right, ("_law_moved_right.<locals>.<lambda>" : Str)), ((adK K).c__law_joined_right, (adK K).t__law_joined_right, ("_law_joined_right.<locals>.<lambda>" : Str)), ((adK K).c__law_apart_right, (adK K).t__law_apart_right, ("_law_apart_right.<locals>.<lambda>" : Str))], fun s u => FunD.bindsA (ps := ["_law_script"]) FD_law (fun _ _ _ _ _ _ us hl => match us, hl with | [_], _ => rfl) s [u] rfl, ?_, ?_, ?_, ?_⟩
  · intro p hp
    simp only [List.mem_cons, List.not_mem_nil, or_false] at hp
    rcases hp with rfl | rfl | rfl | rfl | rfl
    · exact ⟨_, List.mem_of_getElem? (i := 0) rfl, rfl⟩
    · exact ⟨_, List.mem_of_getElem? (i := 1) rfl, rfl⟩
    · exact ⟨_, List.mem_of_getElem? (i := 2) rfl, rfl⟩
    · exact ⟨_, List.mem_of_getElem? (i := 3) rfl, rfl⟩
    · exact ⟨_, List.mem_of_getElem? (i := 4) rfl, rfl⟩
  · intro p hp q hq e
    simp only [List.mem_cons, List.not_mem_nil, or_false] at hp hq
    rcases hp with rfl | rfl | rfl | rfl | rfl <;> rcases hq with rfl | rfl | rfl | rfl | rfl <;> first | rfl | exact absurd e ne__law_span_right__law_around_right | exact absurd e.symm ne__law_span_right__law_around_right | exact absurd e ne__law_span_right__law_moved_right | exact absurd e.symm ne__law_span_right__law_moved_right | exact absurd e ne__law_span_right__law_joined_right | exact absurd e.symm ne__law_span_right__law_joined_right | exact absurd e ne__law_span_right__law_apart_right | exact absurd e.symm ne__law_span_right__law_apart_right | exact absurd e ne__law_around_right__law_moved_right | exact absurd e.symm ne__law_around_right__law_moved_right | exact absurd e ne__law_around_right__law_joined_right | exact absurd e.symm ne__law_around_right__law_joined_right | exact absurd e ne__law_around_right__law_apart_right | exact absurd e.symm ne__law_around_right__law_apart_right | exact absurd e ne__law_moved_right__law_joined_right | exact absurd e.symm ne__law_moved_right__law_joined_right | exact absurd e ne__law_moved_right__law_apart_right | exact absurd e.symm ne__law_moved_right__law_apart_right | exact absurd e ne__law_joined_right__law_apart_right | exact absurd e.symm ne__law_joined_right__law_apart_right
  · intro m ns hm hl _
    exact ⟨ns, rfl, hl, ⟨hm ((adK K).c__law_span_right, (adK K).t__law_span_right, ("_law_span_right.<locals>.<lambda>" : Str)) (by simp), hm ((adK K).c__law_around_right, (adK K).t__law_around_right, ("_law_around_right.<locals>.<lambda>" : Str)) (by simp), hm ((adK K).c__law_moved_right, (adK K).t__law_moved_right, ("_law_moved_right.<locals>.<lambda>" : Str)) (by simp), hm ((adK K).c__law_joined_right, (adK K).t__law_joined_right, ("_law_joined_right.<locals>.<lambda>" : Str)) (by simp), hm ((adK K).c__law_apart_right, (adK K).t__law_apart_right, ("_law_apart_right.<locals>.<lambda>" : Str)) (by simp)⟩, fun _ => rfl⟩
  · intro base _ _ TB
    have TB__law_span_right := TB ((adK K).c__law_span_right, (adK K).t__law_span_right, ("_law_span_right.<locals>.<lambda>" : Str)) (by simp)
    have TB__law_around_right := TB ((adK K).c__law_around_right, (adK K).t__law_around_right, ("_law_around_right.<locals>.<lambda>" : Str)) (by simp)
    have TB__law_moved_right := TB ((adK K).c__law_moved_right, (adK K).t__law_moved_right, ("_law_moved_right.<locals>.<lambda>" : Str)) (by simp)
    have TB__law_joined_right := TB ((adK K).c__law_joined_right, (adK K).t__law_joined_right, ("_law_joined_right.<locals>.<lambda>" : Str)) (by simp)
    have TB__law_apart_right := TB ((adK K).c__law_apart_right, (adK K).t__law_apart_right, ("_law_apart_right.<locals>.<lambda>" : Str)) (by simp)
    have T : Tx K mg base (adK K) d := {
      m_Span := PySem.W.mg_of X E0 C_Span,
      m_Net := PySem.W.mg_of X E0 C_Net,
      m_InvalidLevel := PySem.W.mg_of X E0 C_InvalidLevel,
      m_InvalidSpan := PySem.W.mg_of X E0 C_InvalidSpan,
      m_EmptySpan := PySem.W.mg_of X E0 C_EmptySpan,
      m_Apart := PySem.W.mg_of X E0 C_Apart,
      m_StateError := PySem.W.mg_of X E0 C_StateError,
      m_AbreastError := PySem.W.mg_of X E0 C_AbreastError,
      m_MissingError := PySem.W.mg_of X E0 C_MissingError,
      m_LimitError := PySem.W.mg_of X E0 C_LimitError,
      F_is_integer := FF_is_integer,
      m_is_integer := PySem.W.mg_of X E0 a_is_integer,
      b_is_integer := FF_is_integer.binds (ps := ["value"]) fun _ _ _ _ _ _ us hl => match us, hl with | [_], _ => rfl,
      F_InvalidLevel___init__ := FF_InvalidLevel___init__,
      b_InvalidLevel___init__ := FF_InvalidLevel___init__.binds (ps := ["self", "value"]) fun _ _ _ _ _ _ us hl => match us, hl with | [_, _], _ => rfl,
      F_InvalidSpan___init__ := FF_InvalidSpan___init__,
      b_InvalidSpan___init__ := FF_InvalidSpan___init__.binds (ps := ["self", "value"]) fun _ _ _ _ _ _ us hl => match us, hl with | [_, _], _ => rfl,
      F_EmptySpan___init__ := FF_EmptySpan___init__,
      b_EmptySpan___init__ := FF_EmptySpan___init__.binds (ps := ["self", "least", "greatest"]) fun _ _ _ _ _ _ us hl => match us, hl with | [_, _, _], _ => rfl,
      F_Apart___init__ := FF_Apart___init__,
      b_Apart___init__ := FF_Apart___init__.binds (ps := ["self", "one", "other"]) fun _ _ _ _ _ _ us hl => match us, hl with | [_, _, _], _ => rfl,
      F_want_level := FF_want_level,
      m_want_level := PySem.W.mg_of X E0 a_want_level,
      b_want_level := FF_want_level.binds (ps := ["value"]) fun _ _ _ _ _ _ us hl => match us, hl with | [_], _ => rfl,
      F_want_span := FF_want_span,
      m_want_span := PySem.W.mg_of X E0 a_want_span,
      b_want_span := FF_want_span.binds (ps := ["value"]) fun _ _ _ _ _ _ us hl => match us, hl with | [_], _ => rfl,
      F_Span___init__ := FF_Span___init__,
      b_Span___init__ := FF_Span___init__.binds (ps := ["self", "low", "high"]) fun _ _ _ _ _ _ us hl => match us, hl with | [_, _, _], _ => rfl,
      F_Span_around := FF_Span_around,
      s_Span_around := ⟨g_Span_around, ty_Span_around, a_Span_around, ⟨_, r_Span_around⟩, FF_Span_around.kp⟩,
      b_Span_around := DH.star0 FF_Span_around (fun _ _ _ _ _ _ rest => by cases rest <;> rfl),
      F_Span_low := FF_Span_low,
      p_Span_low := ⟨a_Span_low, g_Span_low, ty_Span_low, ⟨_, r_Span_low⟩⟩,
      b_Span_low := FF_Span_low.binds (ps := ["self"]) fun _ _ _ _ _ _ us hl => match us, hl with | [_], _ => rfl,
      F_Span_high := FF_Span_high,
      p_Span_high := ⟨a_Span_high, g_Span_high, ty_Span_high, ⟨_, r_Span_high⟩⟩,
      b_Span_high := FF_Span_high.binds (ps := ["self"]) fun _ _ _ _ _ _ us hl => match us, hl with | [_], _ => rfl,
      F_Span_is_within := FF_Span_is_within,
      me_Span_is_within := ⟨a_Span_is_within, i_Span_is_within, FF_Span_is_within.kp⟩,
      b_Span_is_within := FF_Span_is_within.binds (ps := ["self", "other"]) fun _ _ _ _ _ _ us hl => match us, hl with | [_, _], _ => rfl,
      F_Span___and__ := FF_Span___and__,
      o_Span___and__ := ⟨a_Span___and__, i_Span___and__⟩,
      b_Span___and__ := FF_Span___and__.binds (ps := ["self", "other"]) fun _ _ _ _ _ _ us hl => match us, hl with | [_, _], _ => rfl,
      F_Span___or__ := FF_Span___or__,
      o_Span___or__ := ⟨a_Span___or__, i_Span___or__⟩,
      b_Span___or__ := FF_Span___or__.binds (ps := ["self", "other"]) fun _ _ _ _ _ _ us hl => match us, hl with | [_, _], _ => rfl,
      F_Span___add__ := FF_Span___add__,
      o_Span___add__ := ⟨a_Span___add__, i_Span___add__⟩,
      b_Span___add__ := FF_Span___add__.binds (ps := ["self", "number"]) fun _ _ _ _ _ _ us hl => match us, hl with | [_, _], _ => rfl,
      F_Span___radd__ := FF_Span___radd__,
      o_Span___radd__ := ⟨a_Span___radd__, i_Span___radd__⟩,
      b_Span___radd__ := FF_Span___radd__.binds (ps := ["self", "number"]) fun _ _ _ _ _ _ us hl => match us, hl with | [_, _], _ => rfl,
      F_Span___sub__ := FF_Span___sub__,
      o_Span___sub__ := ⟨a_Span___sub__, i_Span___sub__⟩,
      b_Span___sub__ := FF_Span___sub__.binds (ps := ["self", "number"]) fun _ _ _ _ _ _ us hl => match us, hl with | [_, _], _ => rfl,
      F_Span___eq__ := FF_Span___eq__,
      o_Span___eq__ := ⟨a_Span___eq__, i_Span___eq__⟩,
      b_Span___eq__ := FF_Span___eq__.binds (ps := ["self", "other"]) fun _ _ _ _ _ _ us hl => match us, hl with | [_, _], _ => rfl,
      F_Span___repr__ := FF_Span___repr__,
      o_Span___repr__ := ⟨a_Span___repr__, i_Span___repr__⟩,
      b_Span___repr__ := FF_Span___repr__.binds (ps := ["self"]) fun _ _ _ _ _ _ us hl => match us, hl with | [_], _ => rfl,
      F_is_list := FF_is_list,
      m_is_list := PySem.W.mg_of X E0 a_is_list,
      b_is_list := FF_is_list.binds (ps := ["value"]) fun _ _ _ _ _ _ us hl => match us, hl with | [_], _ => rfl,
      F_is_name := FF_is_name,
      m_is_name := PySem.W.mg_of X E0 a_is_name,
      b_is_name := FF_is_name.binds (ps := ["value"]) fun _ _ _ _ _ _ us hl => match us, hl with | [_], _ => rfl,
      F_is_pair := FF_is_pair,
      m_is_pair := PySem.W.mg_of X E0 a_is_pair,
      b_is_pair := FF_is_pair.binds (ps := ["levels", "value"]) fun _ _ _ _ _ _ us hl => match us, hl with | [_, _], _ => rfl,
      F_told_edge := FF_told_edge,
      m_told_edge := PySem.W.mg_of X E0 a_told_edge,
      b_told_edge := FF_told_edge.binds (ps := ["levels", "one", "other"]) fun _ _ _ _ _ _ us hl => match us, hl with | [_, _, _], _ => rfl,
      F_checked_levels := FF_checked_levels,
      m_checked_levels := PySem.W.mg_of X E0 a_checked_levels,
      b_checked_levels := FF_checked_levels.binds (ps := ["nodes"]) fun _ _ _ _ _ _ us hl => match us, hl with | [_], _ => rfl,
      F_checked_edges := FF_checked_edges,
      m_checked_edges := PySem.W.mg_of X E0 a_checked_edges,
      b_checked_edges := FF_checked_edges.binds (ps := ["levels", "edges"]) fun _ _ _ _ _ _ us hl => match us, hl with | [_, _], _ => rfl,
      F_neighbours_in := FF_neighbours_in,
      m_neighbours_in := PySem.W.mg_of X E0 a_neighbours_in,
      b_neighbours_in := FF_neighbours_in.binds (ps := ["name", "edges"]) fun _ _ _ _ _ _ us hl => match us, hl with | [_, _], _ => rfl,
      F_Net___init__ := FF_Net___init__,
      b_Net___init__ := given_all (ps := ["self", "nodes", "edges"]) FF_Net___init__ (by simp) fun _ _ _ _ _ _ _ us its h1 h2 => match us, its, h1, h2 with | [_, _, _], [_], _, _ => ⟨_, rfl, rfl⟩,
      F_Net_path := FF_Net_path,
      cm_Net_path := ⟨a_Net_path, ⟨_, r_Net_path⟩, fi_Net_path⟩,
      cr_Net := ⟨crr_Net, crg_Net⟩,
      b_Net_path := DH.star1 FF_Net_path (fun _ _ _ _ _ _ _ rest => by cases rest <;> rfl),
      F_Net___eq__ := FF_Net___eq__,
      o_Net___eq__ := ⟨a_Net___eq__, i_Net___eq__⟩,
      b_Net___eq__ := FF_Net___eq__.binds (ps := ["self", "other"]) fun _ _ _ _ _ _ us hl => match us, hl with | [_, _], _ => rfl,
      F_Net___repr__ := FF_Net___repr__,
      o_Net___repr__ := ⟨a_Net___repr__, i_Net___repr__⟩,
      b_Net___repr__ := FF_Net___repr__.binds (ps := ["self"]) fun _ _ _ _ _ _ us hl => match us, hl with | [_], _ => rfl,
      F__law_pot := FF__law_pot,
      m__law_pot := PySem.W.mg_of X E0 a__law_pot,
      b__law_pot := FF__law_pot.binds (ps := ["_law_script", "_law_k"]) fun _ _ _ _ _ _ us hl => match us, hl with | [_, _], _ => rfl,
      F__law_draw := FF__law_draw,
      m__law_draw := PySem.W.mg_of X E0 a__law_draw,
      b__law_draw := FF__law_draw.binds (ps := ["_law_pot_here", "_law_many"]) fun _ _ _ _ _ _ us hl => match us, hl with | [_, _], _ => rfl,
      F__law_pick := FF__law_pick,
      m__law_pick := PySem.W.mg_of X E0 a__law_pick,
      b__law_pick := FF__law_pick.binds (ps := ["_law_pot_here", "_law_some"]) fun _ _ _ _ _ _ us hl => match us, hl with | [_, _], _ => rfl,
      F__law_number := FF__law_number,
      m__law_number := PySem.W.mg_of X E0 a__law_number,
      b__law_number := FF__law_number.binds (ps := ["_law_pot_here"]) fun _ _ _ _ _ _ us hl => match us, hl with | [_], _ => rfl,
      F__law_thing := FF__law_thing,
      m__law_thing := PySem.W.mg_of X E0 a__law_thing,
      b__law_thing := FF__law_thing.binds (ps := ["_law_pot_here", "_law_base"]) fun _ _ _ _ _ _ us hl => match us, hl with | [_, _], _ => rfl,
      F__law_whole := FF__law_whole,
      m__law_whole := PySem.W.mg_of X E0 a__law_whole,
      b__law_whole := FF__law_whole.binds (ps := ["_law_thing_here"]) fun _ _ _ _ _ _ us hl => match us, hl with | [_], _ => rfl,
      F__law_told := FF__law_told,
      m__law_told := PySem.W.mg_of X E0 a__law_told,
      b__law_told := FF__law_told.binds (ps := ["_law_call"]) fun _ _ _ _ _ _ us hl => match us, hl with | [_], _ => rfl,
      F__law_shown := FF__law_shown,
      m__law_shown := PySem.W.mg_of X E0 a__law_shown,
      b__law_shown := FF__law_shown.binds (ps := ["_law_least", "_law_most"]) fun _ _ _ _ _ _ us hl => match us, hl with | [_, _], _ => rfl,
      F__law_due_span := FF__law_due_span,
      m__law_due_span := PySem.W.mg_of X E0 a__law_due_span,
      b__law_due_span := FF__law_due_span.binds (ps := ["_law_this", "_law_mate"]) fun _ _ _ _ _ _ us hl => match us, hl with | [_, _], _ => rfl,
      FC__law_span_right := DH.made (p := ("_law_span_right", none)) FF__law_span_right rfl,
      tb__law_span_right := TB__law_span_right,
      F__law_span_right := FF__law_span_right,
      m__law_span_right := PySem.W.mg_of X E0 a__law_span_right,
      b__law_span_right := FF__law_span_right.binds (ps := ["_law_this", "_law_mate"]) fun _ _ _ _ _ _ us hl => match us, hl with | [_, _], _ => rfl,
      FC__law_around_right := DH.made (p := ("_law_around_right", none)) FF__law_around_right rfl,
      tb__law_around_right := TB__law_around_right,
      F__law_around_right := FF__law_around_right,
      m__law_around_right := PySem.W.mg_of X E0 a__law_around_right,
      b__law_around_right := FF__law_around_right.binds (ps := ["_law_things"]) fun _ _ _ _ _ _ us hl => match us, hl with | [_], _ => rfl,
      FC__law_moved_right := DH.made (p := ("_law_moved_right", none)) FF__law_moved_right rfl,
      tb__law_moved_right := TB__law_moved_right,
      F__law_moved_right := FF__law_moved_right,
      m__law_moved_right := PySem.W.mg_of X E0 a__law_moved_right,
      b__law_moved_right := FF__law_moved_right.binds (ps := ["_law_made", "_law_thing_here"]) fun _ _ _ _ _ _ us hl => match us, hl with | [_, _], _ => rfl,
      FC__law_joined_right := DH.made (p := ("_law_joined_right", none)) FF__law_joined_right rfl,
      tb__law_joined_right := TB__law_joined_right,
      F__law_joined_right := FF__law_joined_right,
      m__law_joined_right := PySem.W.mg_of X E0 a__law_joined_right,
      b__law_joined_right := FF__law_joined_right.binds (ps := ["_law_made", "_law_thing_here"]) fun _ _ _ _ _ _ us hl => match us, hl with | [_, _], _ => rfl,
      F__law_unlike_right := FF__law_unlike_right,
      m__law_unlike_right := PySem.W.mg_of X E0 a__law_unlike_right,
      b__law_unlike_right := FF__law_unlike_right.binds (ps := ["_law_made", "_law_thing_here"]) fun _ _ _ _ _ _ us hl => match us, hl with | [_, _], _ => rfl,
      FC__law_apart_right := DH.made (p := ("_law_apart_right", none)) FF__law_apart_right rfl,
      tb__law_apart_right := TB__law_apart_right,
      F__law_apart_right := FF__law_apart_right,
      m__law_apart_right := PySem.W.mg_of X E0 a__law_apart_right,
      b__law_apart_right := FF__law_apart_right.binds (ps := ["_law_pot_here", "_law_base"]) fun _ _ _ _ _ _ us hl => match us, hl with | [_, _], _ => rfl,
      F__law_right := FF__law_right,
      m__law_right := PySem.W.mg_of X E0 a__law_right,
      b__law_right := FF__law_right.binds (ps := ["_law_pot_here"]) fun _ _ _ _ _ _ us hl => match us, hl with | [_], _ => rfl,
      F_law := FF_law,
      m_law := PySem.W.mg_of X E0 a_law,
      b_law := FF_law.binds (ps := ["_law_script"]) fun _ _ _ _ _ _ us hl => match us, hl with | [_], _ => rfl,
      bk_Span___init__ := DH.kwb FF_Span___init__ fun _ _ _ _ _ _ us ws h1 h2 => match us, ws, h1, h2 with | [_], [_, _], _, _ => rfl,
      bk_Span_is_within := DH.kwb FF_Span_is_within fun _ _ _ _ _ _ us ws h1 h2 => match us, ws, h1, h2 with | [_], [_], _, _ => rfl,
      m_LETTERS := He.str_ok X E0 C_LETTERS,
      m_DIGITS := He.str_ok X E0 C_DIGITS,
      m_MOST_SIGNS := He.int_ok X E0 C_MOST_SIGNS,
      cv_Net_MOST_EDGES := ⟨_, ⟨cvf_Net_MOST_EDGES, ⟨_, rfl⟩⟩⟩,
      cv_Net_MOST_NODES := ⟨_, ⟨cvf_Net_MOST_NODES, ⟨_, rfl⟩⟩⟩,
      ki_Span_NoneType := kit_rt Span_xNoneType (by decide +kernel),
      kj_NoneType_Span := kit_tr0 Span_yNoneType Span_ic Span_tt,
      ki_Span_bool := kit_rt Span_xbool (by decide +kernel),
      kj_bool_Span := kit_tr0 Span_ybool Span_ic Span_tt,
      ki_Span_int := kit_rt Span_xint (by decide +kernel),
      kj_int_Span := kit_tr0 Span_yint Span_ic Span_tt,
      ki_Span_str := kit_rt Span_xstr (by decide +kernel),
      kj_str_Span := kit_tr0 Span_ystr Span_ic Span_tt,
      ki_Span_tuple := kit_rt Span_xtuple (by decide +kernel),
      kj_tuple_Span := kit_tr0 Span_ytuple Span_ic Span_tt,
      ki_Span_list := kit_rt Span_xlist (by decide +kernel),
      kj_list_Span := kit_tr0 Span_ylist Span_ic Span_tt,
      ki_Span_dict := kit_rt Span_xdict (by decide +kernel),
      kj_dict_Span := kit_tr0 Span_ydict Span_ic Span_tt,
      n_Span_own_low := Span_n_own_low,
      n_Span_own_high := Span_n_own_high,
      c_Span := ⟨Span_pg, Span_hd, Span_po, Span_sa⟩,
      is_Span := ⟨⟨Span_pg, Span_hd, Span_po, Span_sa⟩, Span_cl, gget, gtak, Span_ob⟩,
      M_Span := ⟨Span_mk, a_Span___init__, i_Span___init__, Span_ke⟩,
      sf_Span := Span_sf,
      ne_Span := Span_ne,
      ob_Span := Span_so,
      nB_Span := ⟨Span_xlist, Span_xtuple, Span_xdict, Span_xint, Span_xbool, Span_xstr, Span_xNoneType⟩,
      kk_Net_Span := kit_rr0 Net_zSpan Net_ss Span_ic Span_tt,
      nb_Span := ⟨(List.forall_mem_cons.mpr ⟨Span_yNoneType, (List.forall_mem_cons.mpr ⟨Span_ybool, (List.forall_mem_cons.mpr ⟨Span_yint, (List.forall_mem_cons.mpr ⟨Span_ystr, (List.forall_mem_cons.mpr ⟨Span_ytuple, (List.forall_mem_cons.mpr ⟨Span_ylist, (List.forall_mem_cons.mpr ⟨Span_ydict, (fun _ h => nomatch h)⟩)⟩)⟩)⟩)⟩)⟩)⟩), (List.forall_mem_cons.mpr ⟨Net_zSpan, (fun _ h => nomatch h)⟩)⟩,
      ki_Net_NoneType := kit_rt Net_xNoneType (by decide +kernel),
      kj_NoneType_Net := kit_tr0 Net_yNoneType Net_ic Net_tt,
      ki_Net_bool := kit_rt Net_xbool (by decide +kernel),
      kj_bool_Net := kit_tr0 Net_ybool Net_ic Net_tt,
      ki_Net_int := kit_rt Net_xint (by decide +kernel),
      kj_int_Net := kit_tr0 Net_yint Net_ic Net_tt,
      ki_Net_str := kit_rt Net_xstr (by decide +kernel),
      kj_str_Net := kit_tr0 Net_ystr Net_ic Net_tt,
      ki_Net_tuple := kit_rt Net_xtuple (by decide +kernel),
      kj_tuple_Net := kit_tr0 Net_ytuple Net_ic Net_tt,
      ki_Net_list := kit_rt Net_xlist (by decide +kernel),
      kj_list_Net := kit_tr0 Net_ylist Net_ic Net_tt,
      ki_Net_dict := kit_rt Net_xdict (by decide +kernel),
      kj_dict_Net := kit_tr0 Net_ydict Net_ic Net_tt,
      n_Net_own_levels := Net_n_own_levels,
      n_Net_own_edges := Net_n_own_edges,
      n_Net_own_near := Net_n_own_near,
      c_Net := ⟨Net_pg, Net_hd, Net_po, Net_sa⟩,
      is_Net := ⟨⟨Net_pg, Net_hd, Net_po, Net_sa⟩, Net_cl, gget, gtak, Net_ob⟩,
      M_Net := ⟨Net_mk, a_Net___init__, i_Net___init__, Net_ke⟩,
      sf_Net := Net_sf,
      ne_Net := Net_ne,
      ob_Net := Net_so,
      nB_Net := ⟨Net_xlist, Net_xtuple, Net_xdict, Net_xint, Net_xbool, Net_xstr, Net_xNoneType⟩,
      kk_Span_Net := kit_rr0 Span_zNet Span_ss Net_ic Net_tt,
      nb_Net := ⟨(List.forall_mem_cons.mpr ⟨Net_yNoneType, (List.forall_mem_cons.mpr ⟨Net_ybool, (List.forall_mem_cons.mpr ⟨Net_yint, (List.forall_mem_cons.mpr ⟨Net_ystr, (List.forall_mem_cons.mpr ⟨Net_ytuple, (List.forall_mem_cons.mpr ⟨Net_ylist, (List.forall_mem_cons.mpr ⟨Net_ydict, (fun _ h => nomatch h)⟩)⟩)⟩)⟩)⟩)⟩)⟩), (List.forall_mem_cons.mpr ⟨Span_zNet, (fun _ h => nomatch h)⟩)⟩,
      by_Span_add := (List.forall_mem_cons.mpr ⟨⟨⟨_, Span_add_NoneType1⟩, ⟨_, Span_add_NoneType2⟩, Span_yNoneType⟩, (List.forall_mem_cons.mpr ⟨⟨⟨_, Span_add_bool1⟩, ⟨_, Span_add_bool2⟩, Span_ybool⟩, (List.forall_mem_cons.mpr ⟨⟨⟨_, Span_add_int1⟩, ⟨_, Span_add_int2⟩, Span_yint⟩, (List.forall_mem_cons.mpr ⟨⟨⟨_, Span_add_str1⟩, ⟨_, Span_add_str2⟩, Span_ystr⟩, (List.forall_mem_cons.mpr ⟨⟨⟨_, Span_add_tuple1⟩, ⟨_, Span_add_tuple2⟩, Span_ytuple⟩, (List.forall_mem_cons.mpr ⟨⟨⟨_, Span_add_list1⟩, ⟨_, Span_add_list2⟩, Span_ylist⟩, (List.forall_mem_cons.mpr ⟨⟨⟨_, Span_add_dict1⟩, ⟨_, Span_add_dict2⟩, Span_ydict⟩, (fun _ h => nomatch h)⟩)⟩)⟩)⟩)⟩)⟩)⟩),
      rf_Span_add := a_Span___radd__,
      rp_Span_add := .inr ⟨_, rfl⟩,
      b2_Span_add := fun P w => (List.forall_mem_cons.mpr ⟨beside2_own (nm := "add") Span_ne_Net Net_zSpan Net_ov Span_add_Net1 Span_add_Net2 (.inr ⟨_, rfl⟩) P w, (fun _ h => nomatch h)⟩),
      by_Span_sub := (List.forall_mem_cons.mpr ⟨⟨⟨_, Span_sub_NoneType1⟩, ⟨_, Span_sub_NoneType2⟩, Span_yNoneType⟩, (List.forall_mem_cons.mpr ⟨⟨⟨_, Span_sub_bool1⟩, ⟨_, Span_sub_bool2⟩, Span_ybool⟩, (List.forall_mem_cons.mpr ⟨⟨⟨_, Span_sub_int1⟩, ⟨_, Span_sub_int2⟩, Span_yint⟩, (List.forall_mem_cons.mpr ⟨⟨⟨_, Span_sub_str1⟩, ⟨_, Span_sub_str2⟩, Span_ystr⟩, (List.forall_mem_cons.mpr ⟨⟨⟨_, Span_sub_tuple1⟩, ⟨_, Span_sub_tuple2⟩, Span_ytuple⟩, (List.forall_mem_cons.mpr ⟨⟨⟨_, Span_sub_list1⟩, ⟨_, Span_sub_list2⟩, Span_ylist⟩, (List.forall_mem_cons.mpr ⟨⟨⟨_, Span_sub_dict1⟩, ⟨_, Span_sub_dict2⟩, Span_ydict⟩, (fun _ h => nomatch h)⟩)⟩)⟩)⟩)⟩)⟩)⟩),
      rf_Span_sub := Span_sub_nr,
      rp_Span_sub := .inl rfl,
      b2_Span_sub := fun P w => (List.forall_mem_cons.mpr ⟨beside2_no (nm := "sub") Span_ne_Net Net_zSpan Net_ov Span_sub_Net1 Span_sub_Net2 Span_sub_o1 Span_sub_o2 P w, (fun _ h => nomatch h)⟩),
      by_Span_and := (List.forall_mem_cons.mpr ⟨⟨⟨_, Span_and_NoneType1⟩, ⟨_, Span_and_NoneType2⟩, Span_yNoneType⟩, (List.forall_mem_cons.mpr ⟨⟨⟨_, Span_and_bool1⟩, ⟨_, Span_and_bool2⟩, Span_ybool⟩, (List.forall_mem_cons.mpr ⟨⟨⟨_, Span_and_int1⟩, ⟨_, Span_and_int2⟩, Span_yint⟩, (List.forall_mem_cons.mpr ⟨⟨⟨_, Span_and_str1⟩, ⟨_, Span_and_str2⟩, Span_ystr⟩, (List.forall_mem_cons.mpr ⟨⟨⟨_, Span_and_tuple1⟩, ⟨_, Span_and_tuple2⟩, Span_ytuple⟩, (List.forall_mem_cons.mpr ⟨⟨⟨_, Span_and_list1⟩, ⟨_, Span_and_list2⟩, Span_ylist⟩, (List.forall_mem_cons.mpr ⟨⟨⟨_, Span_and_dict1⟩, ⟨_, Span_and_dict2⟩, Span_ydict⟩, (fun _ h => nomatch h)⟩)⟩)⟩)⟩)⟩)⟩)⟩),
      rf_Span_and := Span_and_nr,
      rp_Span_and := .inl rfl,
      b2_Span_and := fun P w => (List.forall_mem_cons.mpr ⟨beside2_no (nm := "and") Span_ne_Net Net_zSpan Net_ov Span_and_Net1 Span_and_Net2 Span_and_o1 Span_and_o2 P w, (fun _ h => nomatch h)⟩),
      by_Span_or := (List.forall_mem_cons.mpr ⟨⟨⟨_, Span_or_NoneType1⟩, ⟨_, Span_or_NoneType2⟩, Span_yNoneType⟩, (List.forall_mem_cons.mpr ⟨⟨⟨_, Span_or_bool1⟩, ⟨_, Span_or_bool2⟩, Span_ybool⟩, (List.forall_mem_cons.mpr ⟨⟨⟨_, Span_or_int1⟩, ⟨_, Span_or_int2⟩, Span_yint⟩, (List.forall_mem_cons.mpr ⟨⟨⟨_, Span_or_str1⟩, ⟨_, Span_or_str2⟩, Span_ystr⟩, (List.forall_mem_cons.mpr ⟨⟨⟨_, Span_or_tuple1⟩, ⟨_, Span_or_tuple2⟩, Span_ytuple⟩, (List.forall_mem_cons.mpr ⟨⟨⟨_, Span_or_list1⟩, ⟨_, Span_or_list2⟩, Span_ylist⟩, (List.forall_mem_cons.mpr ⟨⟨⟨_, Span_or_dict1⟩, ⟨_, Span_or_dict2⟩, Span_ydict⟩, (fun _ h => nomatch h)⟩)⟩)⟩)⟩)⟩)⟩)⟩),
      rf_Span_or := Span_or_nr,
      rp_Span_or := .inl rfl,
      b2_Span_or := fun P w => (List.forall_mem_cons.mpr ⟨beside2_own (nm := "or") Span_ne_Net Net_zSpan Net_ov Span_or_Net1 Span_or_Net2 (.inl rfl) P w, (fun _ h => nomatch h)⟩),
      Z_InvalidLevel := ⟨PySem.F.excBase_ValueError, PySem.DLX.tail_VE, InvalidLevel_ex, InvalidLevel_sa, InvalidLevel_be, InvalidLevel_tt, InvalidLevel_ke⟩,
      iC_InvalidLevel := a_InvalidLevel___init__,
      tI_InvalidLevel := InvalidLevel_it,
      n_InvalidLevel_value := InvalidLevel_n_value,
      x_InvalidLevel := ⟨InvalidLevel_ga, InvalidLevel_gg, InvalidLevel_be, InvalidLevel_hd⟩,
      q_InvalidLevel := ⟨InvalidLevel_ga, InvalidLevel_gg, InvalidLevel_be, InvalidLevel_hd, InvalidLevel_cl, gget, gtak, InvalidLevel_ob⟩,
      ke_InvalidLevel_AbreastError := kit_rr1 InvalidLevel_is_AbreastError AbreastError_ic AbreastError_tt,
      ex_InvalidLevel_InvalidLevel := PySem.W.exm_ref InvalidLevel_be InvalidLevel_hd InvalidLevel_tt InvalidLevel_ss,
      ex_InvalidLevel_InvalidSpan := PySem.W.exm_ref InvalidSpan_be InvalidSpan_hd InvalidSpan_tt InvalidLevel_ca_InvalidSpan,
      ex_InvalidLevel_EmptySpan := PySem.W.exm_ref EmptySpan_be EmptySpan_hd EmptySpan_tt InvalidLevel_ca_EmptySpan,
      ex_InvalidLevel_Apart := PySem.W.exm_ref Apart_be Apart_hd Apart_tt InvalidLevel_ca_Apart,
      Z_InvalidSpan := ⟨PySem.F.excBase_ValueError, PySem.DLX.tail_VE, InvalidSpan_ex, InvalidSpan_sa, InvalidSpan_be, InvalidSpan_tt, InvalidSpan_ke⟩,
      iC_InvalidSpan := a_InvalidSpan___init__,
      tI_InvalidSpan := InvalidSpan_it,
      n_InvalidSpan_value := InvalidSpan_n_value,
      x_InvalidSpan := ⟨InvalidSpan_ga, InvalidSpan_gg, InvalidSpan_be, InvalidSpan_hd⟩,
      q_InvalidSpan := ⟨InvalidSpan_ga, InvalidSpan_gg, InvalidSpan_be, InvalidSpan_hd, InvalidSpan_cl, gget, gtak, InvalidSpan_ob⟩,
      ke_InvalidSpan_AbreastError := kit_rr1 InvalidSpan_is_AbreastError AbreastError_ic AbreastError_tt,
      ex_InvalidSpan_InvalidLevel := PySem.W.exm_ref InvalidLevel_be InvalidLevel_hd InvalidLevel_tt InvalidSpan_ca_InvalidLevel,
      ex_InvalidSpan_InvalidSpan := PySem.W.exm_ref InvalidSpan_be InvalidSpan_hd InvalidSpan_tt InvalidSpan_ss,
      ex_InvalidSpan_EmptySpan := PySem.W.exm_ref EmptySpan_be EmptySpan_hd EmptySpan_tt InvalidSpan_ca_EmptySpan,
      ex_InvalidSpan_Apart := PySem.W.exm_ref Apart_be Apart_hd Apart_tt InvalidSpan_ca_Apart,
      Z_EmptySpan := ⟨PySem.F.excBase_ValueError, PySem.DLX.tail_VE, EmptySpan_ex, EmptySpan_sa, EmptySpan_be, EmptySpan_tt, EmptySpan_ke⟩,
      iC_EmptySpan := a_EmptySpan___init__,
      tI_EmptySpan := EmptySpan_it,
      n_EmptySpan_greatest := EmptySpan_n_greatest,
      n_EmptySpan_least := EmptySpan_n_least,
      x_EmptySpan := ⟨EmptySpan_ga, EmptySpan_gg, EmptySpan_be, EmptySpan_hd⟩,
      q_EmptySpan := ⟨EmptySpan_ga, EmptySpan_gg, EmptySpan_be, EmptySpan_hd, EmptySpan_cl, gget, gtak, EmptySpan_ob⟩,
      ke_EmptySpan_AbreastError := kit_rr1 EmptySpan_is_AbreastError AbreastError_ic AbreastError_tt,
      ex_EmptySpan_InvalidLevel := PySem.W.exm_ref InvalidLevel_be InvalidLevel_hd InvalidLevel_tt EmptySpan_ca_InvalidLevel,
      ex_EmptySpan_InvalidSpan := PySem.W.exm_ref InvalidSpan_be InvalidSpan_hd InvalidSpan_tt EmptySpan_ca_InvalidSpan,
      ex_EmptySpan_EmptySpan := PySem.W.exm_ref EmptySpan_be EmptySpan_hd EmptySpan_tt EmptySpan_ss,
      ex_EmptySpan_Apart := PySem.W.exm_ref Apart_be Apart_hd Apart_tt EmptySpan_ca_Apart,
      Z_Apart := ⟨PySem.F.excBase_RuntimeError, PySem.DLX.tail_RT, Apart_ex, Apart_sa, Apart_be, Apart_tt, Apart_ke⟩,
      iC_Apart := a_Apart___init__,
      tI_Apart := Apart_it,
      n_Apart_other := Apart_n_other,
      n_Apart_one := Apart_n_one,
      x_Apart := ⟨Apart_ga, Apart_gg, Apart_be, Apart_hd⟩,
      q_Apart := ⟨Apart_ga, Apart_gg, Apart_be, Apart_hd, Apart_cl, gget, gtak, Apart_ob⟩,
      ke_Apart_StateError := kit_rr1 Apart_is_StateError StateError_ic StateError_tt,
      ke_Apart_AbreastError := kit_rr0 Apart_is_AbreastError Apart_ss AbreastError_ic AbreastError_tt,
      ke_Apart_MissingError := kit_rr0 Apart_is_MissingError Apart_ss MissingError_ic MissingError_tt,
      ke_Apart_LimitError := kit_rr0 Apart_is_LimitError Apart_ss LimitError_ic LimitError_tt,
      ex_Apart_InvalidLevel := PySem.W.exm_ref InvalidLevel_be InvalidLevel_hd InvalidLevel_tt Apart_ca_InvalidLevel,
      ex_Apart_InvalidSpan := PySem.W.exm_ref InvalidSpan_be InvalidSpan_hd InvalidSpan_tt Apart_ca_InvalidSpan,
      ex_Apart_EmptySpan := PySem.W.exm_ref EmptySpan_be EmptySpan_hd EmptySpan_tt Apart_ca_EmptySpan,
      ex_Apart_Apart := PySem.W.exm_ref Apart_be Apart_hd Apart_tt Apart_ss,
      z_isinstance := PySem.W.mg_none_of X E0 z_isinstance,
      z_min := PySem.W.mg_none_of X E0 z_min,
      z_max := PySem.W.mg_none_of X E0 z_max,
      z_len := PySem.W.mg_none_of X E0 z_len,
      z_abs := PySem.W.mg_none_of X E0 z_abs,
      z_int := PySem.W.mg_none_of X E0 z_int,
      z_divmod := PySem.W.mg_none_of X E0 z_divmod,
      z_str := PySem.W.mg_none_of X E0 z_str,
      z_repr := PySem.W.mg_none_of X E0 z_repr,
      z_range := PySem.W.mg_none_of X E0 z_range,
      z_all := PySem.W.mg_none_of X E0 z_all,
      z_enumerate := PySem.W.mg_none_of X E0 z_enumerate,
      z_bool := PySem.W.mg_none_of X E0 z_bool,
      z_list := PySem.W.mg_none_of X E0 z_list,
      z_tuple := PySem.W.mg_none_of X E0 z_tuple,
      z_dict := PySem.W.mg_none_of X E0 z_dict,
      z_sorted := PySem.W.mg_none_of X E0 z_sorted,
      z_zip := PySem.W.mg_none_of X E0 z_zip }
    exact ok_law T
end LawK
open PySem PySem.W PySem.Calls PyProof.Rows in
set_option maxRecDepth 100000 in
set_option maxHeartbeats 0 in
theorem PySem.Challenge.cw_abreast_k12_spans_refused_holds : PySem.Challenge.rw_abreast_k12_spans_refused.Holds := by
  w_on; o_law
  refine HandSHeadRun.head_any (r := OpenLaw.row PySem.Challenge.rw_abreast_k12_spans_refused) (q := view (OpenLaw.row PySem.Challenge.rw_abreast_k12_spans_refused).prog [53]) (H := LawK.hk) (ob := LawK.ob) (M := 8000) (loose := LawK.namL) (d := HandSHeadRun.topDef (OpenLaw.row PySem.Challenge.rw_abreast_k12_spans_refused).prog 53) (kwd := []) LawK.ob_eq
    (by kernel_rfl) (fun s => by kernel_rfl) LawK.run (by kernel_rfl) (by kernel_rfl) (by kernel_rfl) (by rfl) (by first | assumption | decide +kernel) (by decide +kernel) ⟨rfl, rfl, rfl, rfl, rfl, by decide +kernel⟩ ?hw ?hc
  case hw => w_witness2
  case hc =>
    refine DH.walk (l := PySem.Challenge.rw_abreast_k12_spans_refused) (n := 63) (k := 18) (x := "_law_script") rfl (by decide) (by kernel_rfl) ⟨by decide, by decide⟩ ?F
    intro w mg fa h K KX E0 hmg0 c
    have hmg : mg ("law" : PySem.Str) = some (.ref fa) := by
      have e : (HandSHeadRun.topDef (OpenLaw.row PySem.Challenge.rw_abreast_k12_spans_refused).prog 53).name = ("law" : PySem.Str) := by kernel_rfl
      rw [← e]
      exact hmg0
    exact LawK.all_mk KX E0 hmg c
#print axioms PySem.Challenge.cw_abreast_k12_spans_refused_holds
