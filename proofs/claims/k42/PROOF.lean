import PyProof.Rows.All
import Wide.All
import OpenK.AllK
import Wide.FinOn
import HandS.ForMost
import HandS.ForExc
import HandS.TryMany
import HandS.ExcInit
import HandS.ExcField
import HandS.IsInst
import HandS.Wide
import HandS.SortKw
import HandS.Flow
import HandS.Style
import HandS.Defaults
import HandS.CallSlots
import HandS.Evl
import KE.KExcIs
import PyProof.ReprReads
import HandS.Zip
import KE.GoesMore
import KE.GoesEnum
import KE.GoesZip
import KE.DataMinMax
import KE.KTupSum
import KE.OsMinMax
import HandS.EndBits
import PyProof.ReprBulk
import PyProof.P3Eq
import PySem.Challenge.RW_rimmachines_k42_heaps_fall
set_option Elab.async false
set_option linter.all false
set_option maxRecDepth 100000
set_option maxHeartbeats 4000000
/-! Data layer: values as pure data over a frozen heap F, changing objects in a store M. -/
namespace DL
open PySem PySem.Spec PyProof.Rows L2
abbrev Ex := Evl.Ex

inductive D where
  | non | bl (b : Bool) | int (i : Int) | str (x : Str) | ty (n : String) | ref (a : Addr)
  | lst (ds : List D) | scr (ds : List D) | tup (ds : List D) | wtp (ds : List D)
  | dic (kvs : List (Key × D)) | dct (kvs : List (List Key × D))
  | ins (C : Str) (fs : List (Str × D))
  | exc (a : Addr) (cls : Value) (C : Str) (d : Option Addr) (fs : List (Str × D))
  | cls (C : Str)

abbrev Frg := PySem.W.Frag
abbrev Gm := Str → Option Value
mutual
inductive Rp (K : Frg) (mg : Gm) (F : Hp) : V → D → Prop
  | non : Rp K mg F .non .non
  | bl (b : Bool) : Rp K mg F (.bl b) (.bl b)
  | int (i : Int) : Rp K mg F (.int i) (.int i)
  | str (x : Str) : Rp K mg F (.str x) (.str x)
  | ty (n : String) : Rp K mg F (.ty n) (.ty n)
  | ref (a : Addr) : Rp K mg F (.ref a) (.ref a)
  | lst {a : Addr} {xs : List V} {ds : List D} : F a = some (.lst xs) → RpA K mg F xs ds → Rp K mg F (.ref a) (.lst ds)
  | scr {a : Addr} {xs : List V} {ds : List D} : SqL K F a xs → RpA K mg F xs ds → Rp K mg F (.ref a) (.scr ds)
  | tup {a : Addr} {xs : List V} {ds : List D} : F a = some (.tup xs) → RpA K mg F xs ds → Rp K mg F (.ref a) (.tup ds)
  | wtp {a : Addr} {xs : List V} {ds : List D} : SqT K F a xs → RpA K mg F xs ds → Rp K mg F (.ref a) (.wtp ds)
  | dic {a : Addr} {ws : List (Key × V)} {ds : List (Key × D)} : F a = some (.dK ws) → RpK K mg F ws ds → Rp K mg F (.ref a) (.dic ds)
  | dct {a : Addr} {ws : List (List Key × V)} {ds : List (List Key × D)} : F a = some (.dT ws) → RpT K mg F ws ds → Rp K mg F (.ref a) (.dct ds)
  | ins {a c dx : Addr} {C : Str} {ws : List (Str × V)} {ds : List (Str × D)} : mg C = some (.ref c) → F a = some (.ins c dx ws) → RpF K mg F ws ds → Rp K mg F (.ref a) (.ins C ds)
  | exc0 {a : Addr} {cls : Value} {C : Str} : mg C = some cls → Rp K mg F (.ref a) (.exc a cls C none [])
  | exc1 {a dx : Addr} {cls : Value} {C : Str} {ws : List (Str × V)} {fs : List (Str × D)} : mg C = some cls → F dx = some (.xd ws) → RpF K mg F ws fs → Rp K mg F (.ref a) (.exc a cls C (some dx) fs)
  | cls {a : Addr} {C : Str} : mg C = some (.ref a) → Rp K mg F (.ref a) (.cls C)
inductive RpA (K : Frg) (mg : Gm) (F : Hp) : List V → List D → Prop
  | nil : RpA K mg F [] []
  | cons {v : V} {vs : List V} {d : D} {ds : List D} : Rp K mg F v d → RpA K mg F vs ds → RpA K mg F (v :: vs) (d :: ds)
inductive RpK (K : Frg) (mg : Gm) (F : Hp) : List (Key × V) → List (Key × D) → Prop
  | nil : RpK K mg F [] []
  | cons {k : Key} {v : V} {vs : List (Key × V)} {d : D} {ds : List (Key × D)} : Rp K mg F v d → RpK K mg F vs ds → RpK K mg F ((k, v) :: vs) ((k, d) :: ds)
inductive RpT (K : Frg) (mg : Gm) (F : Hp) : List (List Key × V) → List (List Key × D) → Prop
  | nil : RpT K mg F [] []
  | cons {k : List Key} {v : V} {vs : List (List Key × V)} {d : D} {ds : List (List Key × D)} : Rp K mg F v d → RpT K mg F vs ds → RpT K mg F ((k, v) :: vs) ((k, d) :: ds)
inductive RpF (K : Frg) (mg : Gm) (F : Hp) : List (Str × V) → List (Str × D) → Prop
  | nil : RpF K mg F [] []
  | cons {k : Str} {v : V} {vs : List (Str × V)} {d : D} {ds : List (Str × D)} : Rp K mg F v d → RpF K mg F vs ds → RpF K mg F ((k, v) :: vs) ((k, d) :: ds)
end

section
variable {K : Frg} {mg : Gm} {F F' : Hp}
mutual
theorem Rp.mono (e : Ex F F') : ∀ {v : V} {d : D}, Rp K mg F v d → Rp K mg F' v d
  | _, _, .non => .non
  | _, _, .bl b => .bl b
  | _, _, .int i => .int i
  | _, _, .str x => .str x
  | _, _, .ty n => .ty n
  | _, _, .ref a => .ref a
  | _, _, .lst h r => .lst (e _ _ h) (RpA.mono e r)
  | _, _, .scr h r => .scr (Evl.ex_l e h) (RpA.mono e r)
  | _, _, .tup h r => .tup (e _ _ h) (RpA.mono e r)
  | _, _, .wtp h r => .wtp (Evl.ex_t e h) (RpA.mono e r)
  | _, _, .dic h r => .dic (e _ _ h) (RpK.mono e r)
  | _, _, .dct h r => .dct (e _ _ h) (RpT.mono e r)
  | _, _, .ins m h r => .ins m (e _ _ h) (RpF.mono e r)
  | _, _, .exc0 h => .exc0 h
  | _, _, .exc1 m h r => .exc1 m (e _ _ h) (RpF.mono e r)
  | _, _, .cls h => .cls h
theorem RpA.mono (e : Ex F F') : ∀ {vs : List V} {ds : List D}, RpA K mg F vs ds → RpA K mg F' vs ds
  | _, _, .nil => .nil
  | _, _, .cons h r => .cons (Rp.mono e h) (RpA.mono e r)
theorem RpK.mono (e : Ex F F') : ∀ {vs : List (Key × V)} {ds : List (Key × D)}, RpK K mg F vs ds → RpK K mg F' vs ds
  | _, _, .nil => .nil
  | _, _, .cons h r => .cons (Rp.mono e h) (RpK.mono e r)
theorem RpT.mono (e : Ex F F') : ∀ {vs : List (List Key × V)} {ds : List (List Key × D)}, RpT K mg F vs ds → RpT K mg F' vs ds
  | _, _, .nil => .nil
  | _, _, .cons h r => .cons (Rp.mono e h) (RpT.mono e r)
theorem RpF.mono (e : Ex F F') : ∀ {vs : List (Str × V)} {ds : List (Str × D)}, RpF K mg F vs ds → RpF K mg F' vs ds
  | _, _, .nil => .nil
  | _, _, .cons h r => .cons (Rp.mono e h) (RpF.mono e r)
end
theorem RpA.len : ∀ {vs : List V} {ds : List D}, RpA K mg F vs ds → vs.length = ds.length
  | _, _, .nil => rfl
  | _, _, .cons _ r => congrArg (· + 1) r.len
theorem RpA.at : ∀ {vs : List V} {ds : List D} {i : Nat} {d : D}, RpA K mg F vs ds → ds[i]? = some d → ∃ v, vs[i]? = some v ∧ Rp K mg F v d
  | _, _, _, _, .nil, h => by simp at h
  | _, _, 0, _, .cons h r, e => by simp at e; subst e; exact ⟨_, rfl, h⟩
  | _, _, i + 1, d, .cons h r, e => by
    obtain ⟨v, h1, h2⟩ := RpA.at (i := i) (d := d) r (by simpa using e)
    exact ⟨v, by simpa using h1, h2⟩
theorem RpA.app : ∀ {vs ws : List V} {ds es : List D}, RpA K mg F vs ds → RpA K mg F ws es → RpA K mg F (vs ++ ws) (ds ++ es)
  | _, _, _, _, .nil, s => s
  | _, _, _, _, .cons h r, s => .cons h (r.app s)
theorem RpA.take : ∀ {vs : List V} {ds : List D} (n : Nat), RpA K mg F vs ds → RpA K mg F (vs.take n) (ds.take n)
  | _, _, 0, _ => .nil
  | _, _, _ + 1, .nil => .nil
  | _, _, n + 1, .cons h r => .cons h (r.take n)
theorem RpA.drop : ∀ {vs : List V} {ds : List D} (n : Nat), RpA K mg F vs ds → RpA K mg F (vs.drop n) (ds.drop n)
  | _, _, 0, r => r
  | _, _, _ + 1, .nil => .nil
  | _, _, n + 1, .cons _ r => r.drop n
theorem RpA.set {v : V} {d : D} (q : Rp K mg F v d) : ∀ {vs : List V} {ds : List D} (n : Nat), RpA K mg F vs ds → RpA K mg F (vs.set n v) (ds.set n d)
  | _, _, _, .nil => .nil
  | _, _, 0, .cons _ r => .cons q r
  | _, _, n + 1, .cons h r => .cons h (r.set q n)
theorem RpA.ints : ∀ (ns : List Int), RpA K mg F (ns.map V.int) (ns.map D.int)
  | [] => .nil
  | n :: r => .cons (.int n) (RpA.ints r)
theorem RpA.of_ints : ∀ {vs : List V} {ns : List Int}, RpA K mg F vs (ns.map D.int) → vs = ns.map V.int
  | [], [], _ => rfl
  | _, n :: r, .cons h q => by
    cases h
    rw [RpA.of_ints q]
    rfl
theorem RpA.of_bools : ∀ {vs : List V} {ns : List Bool}, RpA K mg F vs (ns.map D.bl) → vs = ns.map V.bl
  | [], [], _ => rfl
  | _, n :: r, .cons h q => by
    cases h
    rw [RpA.of_bools q]
    rfl
end

/-! ### the store of changing objects -/
inductive MO where
  | lst (ds : List D) | dic (kvs : List (Key × D)) | dct (kvs : List (List Key × D))
abbrev Sr := Addr → Option MO
def put (m : Sr) (p : Addr) (o : MO) : Sr := fun a => if a = p then some o else m a
def drp (m : Sr) (p : Addr) : Sr := fun a => if a = p then none else m a
theorem put_same {m : Sr} {p : Addr} {o : MO} : put m p o p = some o := if_pos rfl
theorem put_ne {m : Sr} {p q : Addr} {o : MO} (h : q ≠ p) : put m p o q = m q := if_neg h
theorem put_put {m : Sr} {p : Addr} {o u : MO} : put (put m p o) p u = put m p u := by
  funext a; unfold put; split <;> rfl
theorem drp_put {m : Sr} {p : Addr} {o : MO} (h : m p = none) : drp (put m p o) p = m := by
  funext a
  unfold drp put
  by_cases e : a = p
  · rw [if_pos e, e, h]
  · rw [if_neg e, if_neg e]
theorem drp_ne {m : Sr} {p q : Addr} (h : q ≠ p) : drp m p q = m q := if_neg h
theorem ne_none {m : Sr} {p q : Addr} {o : MO} (h : m p = some o) (h' : m q = none) : p ≠ q := by
  intro e; subst e; rw [h] at h'; cases h'

def MOk (K : Frg) (mg : Gm) (F H : Hp) (p : Addr) : MO → Prop
  | .lst ds => ∃ xs, H p = some (.lst xs) ∧ RpA K mg F xs ds
  | .dic ds => ∃ ws, H p = some (.dK ws) ∧ RpK K mg F ws ds
  | .dct ds => ∃ ws, H p = some (.dT ws) ∧ RpT K mg F ws ds
/-- F is part of H, the store m stands in H, and so does the frame fr, which nobody touches -/
structure HR (K : Frg) (mg : Gm) (fr : Sr) (F H : Hp) (m : Sr) : Prop where
  ex : Ex F H
  st : ∀ p o, m p = some o → F p = none ∧ MOk K mg F H p o
  fm : ∀ p o, fr p = some o → m p = none ∧ F p = none ∧ MOk K mg F H p o

section
variable {K : Frg} {mg : Gm} {fr : Sr} {F F' H H' : Hp} {m m' : Sr} {p : Addr} {o : HO} {mo : MO}
theorem MOk.there (h : MOk K mg F H p mo) : ∃ u, H p = some u := by
  cases mo with
  | lst ds => obtain ⟨_, e, _⟩ := h; exact ⟨_, e⟩
  | dic ds => obtain ⟨_, e, _⟩ := h; exact ⟨_, e⟩
  | dct ds => obtain ⟨_, e, _⟩ := h; exact ⟨_, e⟩
theorem MOk.mono (h : MOk K mg F H p mo) (e : Ex F F') (k : H' p = H p) : MOk K mg F' H' p mo := by
  cases mo with
  | lst ds => obtain ⟨x, h1, h2⟩ := h; exact ⟨x, k.trans h1, h2.mono e⟩
  | dic ds => obtain ⟨x, h1, h2⟩ := h; exact ⟨x, k.trans h1, h2.mono e⟩
  | dct ds => obtain ⟨x, h1, h2⟩ := h; exact ⟨x, k.trans h1, h2.mono e⟩
theorem HR.freeF (r : HR K mg fr F H m) (h : H p = none) : F p = none := Evl.fresh_back r.ex h
theorem HR.freeM (r : HR K mg fr F H m) (h : H p = none) : m p = none := by
  cases e : m p with
  | none => rfl
  | some o =>
    obtain ⟨_, k⟩ := r.st p o e
    obtain ⟨u, k⟩ := k.there
    rw [h] at k; cases k
theorem HR.freeR (r : HR K mg fr F H m) (h : H p = none) : fr p = none := by
  cases e : fr p with
  | none => rfl
  | some o =>
    obtain ⟨_, _, k⟩ := r.fm p o e
    obtain ⟨u, k⟩ := k.there
    rw [h] at k; cases k
theorem HR.notM (r : HR K mg fr F H m) (h : F p = some o) : m p = none := by
  cases e : m p with
  | none => rfl
  | some o =>
    obtain ⟨k, _⟩ := r.st p o e
    rw [h] at k; cases k
/-- a new frozen object -/
theorem HR.newF (r : HR K mg fr F H m) (h : H p = none) : HR K mg fr (upd F p o) (upd H p o) m := by
  refine ⟨fun a u e => ?_, fun q u e => ?_, fun q u e => ?_⟩
  · by_cases hp : a = p
    · rw [hp, upd_same] at e ⊢; exact e
    · rw [upd_ne hp] at e ⊢; exact r.ex a u e
  · obtain ⟨h1, h2⟩ := r.st q u e
    have hne : q ≠ p := ne_none e (r.freeM h)
    exact ⟨(upd_ne hne).trans h1, h2.mono (Evl.Ex.new (r.freeF h)) (upd_ne hne)⟩
  · obtain ⟨h0, h1, h2⟩ := r.fm q u e
    have hne : q ≠ p := ne_none e (r.freeR h)
    exact ⟨h0, (upd_ne hne).trans h1, h2.mono (Evl.Ex.new (r.freeF h)) (upd_ne hne)⟩
theorem HR.exF (r : HR K mg fr F H m) (h : H p = none) : Ex F (upd F p o) := Evl.Ex.new (r.freeF h)
/-- a new changing object -/
theorem HR.newM (r : HR K mg fr F H m) (h : H p = none) (k : MOk K mg F (upd H p o) p mo) : HR K mg fr F (upd H p o) (put m p mo) := by
  refine ⟨fun a u e => ?_, fun q u e => ?_, fun q u e => ?_⟩
  · have hne : a ≠ p := fun z => by rw [z, r.freeF h] at e; cases e
    rw [upd_ne hne]; exact r.ex a u e
  · by_cases hq : q = p
    · subst hq
      rw [put_same] at e; cases e
      exact ⟨r.freeF h, k⟩
    · rw [put_ne hq] at e
      obtain ⟨h1, h2⟩ := r.st q u e
      exact ⟨h1, h2.mono (Evl.Ex.refl F) (upd_ne hq)⟩
  · obtain ⟨h0, h1, h2⟩ := r.fm q u e
    have hq : q ≠ p := ne_none e (r.freeR h)
    exact ⟨(put_ne hq).trans h0, h1, h2.mono (Evl.Ex.refl F) (upd_ne hq)⟩
/-- a changing object changed -/
theorem HR.chg {mo' : MO} (r : HR K mg fr F H m) (h : m p = some mo') (k : MOk K mg F (upd H p o) p mo) : HR K mg fr F (upd H p o) (put m p mo) := by
  have hF := (r.st p _ h).1
  refine ⟨fun a u e => ?_, fun q u e => ?_, fun q u e => ?_⟩
  · have hne : a ≠ p := fun z => by rw [z, hF] at e; cases e
    rw [upd_ne hne]; exact r.ex a u e
  · by_cases hq : q = p
    · subst hq
      rw [put_same] at e; cases e
      exact ⟨hF, k⟩
    · rw [put_ne hq] at e
      obtain ⟨h1, h2⟩ := r.st q u e
      exact ⟨h1, h2.mono (Evl.Ex.refl F) (upd_ne hq)⟩
  · obtain ⟨h0, h1, h2⟩ := r.fm q u e
    have hq : q ≠ p := fun z => by rw [z, h] at h0; cases h0
    exact ⟨(put_ne hq).trans h0, h1, h2.mono (Evl.Ex.refl F) (upd_ne hq)⟩
/-- forgetting -/
theorem HR.less (r : HR K mg fr F H m) (k : ∀ a o, m' a = some o → m a = some o) : HR K mg fr F H m' := ⟨r.ex, fun p o e => r.st p o (k p o e), fun p o e => by
  obtain ⟨h0, h1⟩ := r.fm p o e
  refine ⟨?_, h1⟩
  cases z : m' p with
  | none => rfl
  | some u => rw [k p u z] at h0; cases h0⟩
/-- a changing list is frozen -/
theorem HR.frz {ds : List D} (r : HR K mg fr F H m) (h : m p = some (.lst ds)) : ∃ xs, HR K mg fr (upd F p (.lst xs)) H (drp m p) ∧ Ex F (upd F p (.lst xs)) ∧ Rp K mg (upd F p (.lst xs)) (.ref p) (.lst ds) := by
  obtain ⟨hF, xs, hH, hr⟩ := r.st p _ h
  have ex : Ex F (upd F p (.lst xs)) := Evl.Ex.new hF
  refine ⟨xs, ⟨fun a u e => ?_, fun q u e => ?_, fun q u e => ?_⟩, ex, .lst upd_same (hr.mono ex)⟩
  · by_cases hp : a = p
    · rw [hp, upd_same] at e; rw [hp]; cases e; exact hH
    · rw [upd_ne hp] at e; exact r.ex a u e
  · by_cases hq : q = p
    · rw [hq] at e
      have z : (drp m p) p = none := if_pos rfl
      rw [z] at e; cases e
    · rw [drp_ne hq] at e
      obtain ⟨h1, h2⟩ := r.st q u e
      exact ⟨(upd_ne hq).trans h1, h2.mono ex rfl⟩
  · obtain ⟨h0, h1, h2⟩ := r.fm q u e
    have hq : q ≠ p := fun z => by rw [z, h] at h0; cases h0
    exact ⟨(drp_ne hq).trans h0, (upd_ne hq).trans h1, h2.mono ex rfl⟩
/-- the store becomes frame, and back -/
def uni (m m' : Sr) : Sr := fun a => (m a).or (m' a)
abbrev emp : Sr := fun _ => none
theorem HR.push (r : HR K mg fr F H m) : HR K mg (uni fr m) F H emp := ⟨r.ex, (fun _ _ e => nomatch e), fun p o e => by
  refine ⟨rfl, ?_⟩
  unfold uni at e
  cases z : fr p with
  | some w => rw [z] at e; cases e; exact (r.fm p _ z).2
  | none => rw [z] at e; exact r.st p o e⟩
theorem HR.pop {m2 : Sr} (d : ∀ p o, fr p = some o → m p = none) (r : HR K mg (uni fr m) F H m2) : HR K mg fr F H (uni m m2) := ⟨r.ex, fun p o e => by
  unfold uni at e
  cases z : m p with
  | some w =>
    rw [z] at e; cases e
    refine (r.fm p _ ?_).2
    unfold uni
    cases y : fr p with
    | none => exact z
    | some w' => rw [d p w' y] at z; cases z
  | none => rw [z] at e; exact r.st p o e, fun p o e => by
    obtain ⟨h0, h1⟩ := r.fm p o (by unfold uni; rw [e]; rfl)
    refine ⟨?_, h1⟩
    unfold uni
    rw [d p o e, h0]; rfl⟩
theorem HR.pop0 {m2 : Sr} (d : ∀ p o, fr p = some o → m p = none) (r : HR K mg (uni fr m) F H m2) : HR K mg fr F H m := (HR.pop d r).less fun a o e => by unfold uni; rw [e]; rfl
theorem HR.apart {m2 : Sr} (r : HR K mg (uni fr m) F H m2) (p : Addr) (o : MO) (e : m p = some o) : m2 p = none := by
  cases z : fr p with
  | some u => exact (r.fm p u (by unfold uni; rw [z]; rfl)).1
  | none => exact (r.fm p o (by unfold uni; rw [z]; exact e)).1
/-- one object goes to the frame, and back -/
theorem HR.hide (r : HR K mg fr F H m) (h : m p = some mo) : HR K mg (put fr p mo) F H (drp m p) := ⟨r.ex, fun q o e => by
  by_cases hq : q = p
  · rw [hq] at e
    have z : (drp m p) p = none := if_pos rfl
    rw [z] at e; cases e
  · rw [drp_ne hq] at e; exact r.st q o e, fun q o e => by
    by_cases hq : q = p
    · subst hq
      rw [put_same] at e; cases e
      exact ⟨if_pos rfl, r.st q _ h⟩
    · rw [put_ne hq] at e
      obtain ⟨h0, h1⟩ := r.fm q o e
      exact ⟨(drp_ne hq).trans h0, h1⟩⟩
theorem HR.newR (r : HR K mg fr F H m) (h : H p = none) (k : MOk K mg F (upd H p o) p mo) : HR K mg (put fr p mo) F (upd H p o) m := by
  have q := (r.newM h k).hide put_same
  rw [drp_put (r.freeM h)] at q
  exact q
theorem HR.chgR {mo' : MO} (r : HR K mg (put fr p mo') F H m) (k : MOk K mg F (upd H p o) p mo) : HR K mg (put fr p mo) F (upd H p o) m := by
  obtain ⟨a0, a1, a2⟩ := r.fm p mo' put_same
  refine ⟨fun a u e => ?_, fun q u e => ?_, fun q u e => ?_⟩
  · have hne : a ≠ p := fun z => by rw [z, a1] at e; cases e
    rw [upd_ne hne]; exact r.ex a u e
  · have hq : q ≠ p := ne_none e a0
    obtain ⟨h1, h2⟩ := r.st q u e
    exact ⟨h1, h2.mono (Evl.Ex.refl F) (upd_ne hq)⟩
  · by_cases hq : q = p
    · subst hq
      rw [put_same] at e; cases e
      exact ⟨a0, a1, k⟩
    · rw [put_ne hq] at e
      obtain ⟨h0, h1, h2⟩ := r.fm q u (by rw [put_ne hq]; exact e)
      exact ⟨h0, h1, h2.mono (Evl.Ex.refl F) (upd_ne hq)⟩
/-- what stands in the frame may be left out -/
theorem HR.lessR {fr' : Sr} (r : HR K mg fr F H m) (k : ∀ a o, fr' a = some o → fr a = some o) : HR K mg fr' F H m := ⟨r.ex, r.st, fun p o e => r.fm p o (k p o e)⟩
/-- a list of the frame is frozen -/
theorem HR.frzR {ds : List D} (r : HR K mg (put fr p (.lst ds)) F H m) (hp : fr p = none) : ∃ xs, HR K mg fr (upd F p (.lst xs)) H m ∧ Ex F (upd F p (.lst xs)) ∧ Rp K mg (upd F p (.lst xs)) (.ref p) (.lst ds) := by
  have z : HR K mg fr F H (put m p (.lst ds)) := ⟨r.ex, fun q o e => by
    by_cases hq : q = p
    · subst hq
      rw [put_same] at e; cases e
      exact (r.fm q _ put_same).2
    · rw [put_ne hq] at e; exact r.st q o e, fun q o e => by
      have hq : q ≠ p := ne_none e hp
      obtain ⟨h0, h1⟩ := r.fm q o (by rw [put_ne hq]; exact e)
      exact ⟨(put_ne hq).trans h0, h1⟩⟩
  obtain ⟨xs, h1, h2, h3⟩ := z.frz put_same
  rw [drp_put (r.fm p _ put_same).1] at h1
  exact ⟨xs, h1, h2, h3⟩
theorem HR.backR (r : HR K mg (put fr p mo) F H m) (hp : fr p = none) : HR K mg fr F H (put m p mo) := ⟨r.ex, fun q o e => by
    by_cases hq : q = p
    · subst hq
      rw [put_same] at e; cases e
      exact (r.fm q _ put_same).2
    · rw [put_ne hq] at e; exact r.st q o e, fun q o e => by
      have hq : q ≠ p := ne_none e hp
      obtain ⟨h0, h1⟩ := r.fm q o (by rw [put_ne hq]; exact e)
      exact ⟨(put_ne hq).trans h0, h1⟩⟩
theorem HR.disj (r : HR K mg fr F H m) (p : Addr) (o : MO) (e : fr p = some o) : m p = none := (r.fm p o e).1
end

/-! ### the names -/
abbrev Rho := List (Option D)
def nth : Rho → Nat → Option D
  | [], _ => none
  | x :: _, 0 => x
  | _ :: r, i + 1 => nth r i
def RpO (K : Frg) (mg : Gm) (F : Hp) (v : Option V) : Option D → Prop
  | none => True
  | some d => ∃ x, v = some x ∧ Rp K mg F x d
abbrev RpE (K : Frg) (mg : Gm) (F : Hp) : L2.St → Rho → Prop := Paired fun v d => RpO K mg F v d
theorem RpO.mono {K : Frg} {mg : Gm} {F F' : Hp} (e : Ex F F') {v : Option V} {d : Option D} (h : RpO K mg F v d) : RpO K mg F' v d := by
  cases d with
  | none => trivial
  | some d => obtain ⟨x, h1, h2⟩ := h; exact ⟨x, h1, h2.mono e⟩

end DL
namespace DL
open PySem PySem.Spec PyProof.Rows L2

structure Rl (K : Frg) (mg : Gm) (fr : Sr) (F H : Hp) (m : Sr) (σ : L2.St) (ρ : Rho) : Prop where
  h : HR K mg fr F H m
  e : RpE K mg F σ ρ
/-- an exception's class and fields -/
structure XR (K : Frg) (mg : Gm) (F : Hp) (cls : Value) (C : Str) (d : Option Addr) (fs : List (Str × D)) : Prop where
  cl : mg C = some cls
  d0 : d = none → fs = []
  d1 : ∀ dx, d = some dx → ∃ ws, F dx = some (.xd ws) ∧ RpF K mg F ws fs

abbrev Pv := D → Sr → Prop
abbrev Xv := Str → List (Str × D) → Sr → Prop
abbrev DEt := Rho → Sr → Pv → Xv → Prop
abbrev DTt := Rho → Sr → (Bool → Sr → Prop) → Xv → Prop
abbrev DAt := Rho → Sr → (List D → Sr → Prop) → Xv → Prop

section
variable (K : Frg) (mg : Gm) (W : WX)
def LE (te : TE) (pe : DEt) : Prop := ∀ {fr : Sr} {F H : Hp} {m : Sr} {σ : L2.St} {ρ : Rho} {P : Pv} {Ξ : Xv} {Q : VK}, Rl K mg fr F H m σ ρ → pe ρ m P Ξ →
  (∀ v x F' H' m', Ex F F' → HR K mg fr F' H' m' → Rp K mg F' v x → P x m' → Q v H') →
  (∀ cls C d fs F' H' m', Ex F F' → HR K mg fr F' H' m' → XR K mg F' cls C d fs → Ξ C fs m' → W cls d σ H') → te σ H Q
def LT (tt : TT) (pt : DTt) : Prop := ∀ {fr : Sr} {F H : Hp} {m : Sr} {σ : L2.St} {ρ : Rho} {P : Bool → Sr → Prop} {Ξ : Xv} {Q : Bool → Hp → Prop}, Rl K mg fr F H m σ ρ → pt ρ m P Ξ →
  (∀ b F' H' m', Ex F F' → HR K mg fr F' H' m' → P b m' → Q b H') →
  (∀ cls C d fs F' H' m', Ex F F' → HR K mg fr F' H' m' → XR K mg F' cls C d fs → Ξ C fs m' → W cls d σ H') → tt σ H Q
def LA (ta : TA) (pa : DAt) : Prop := ∀ {fr : Sr} {F H : Hp} {m : Sr} {σ : L2.St} {ρ : Rho} {P : List D → Sr → Prop} {Ξ : Xv} {Q : List V → Hp → Prop}, Rl K mg fr F H m σ ρ → pa ρ m P Ξ →
  (∀ vs xs F' H' m', Ex F F' → HR K mg fr F' H' m' → RpA K mg F' vs xs → P xs m' → Q vs H') →
  (∀ cls C d fs F' H' m', Ex F F' → HR K mg fr F' H' m' → XR K mg F' cls C d fs → Ξ C fs m' → W cls d σ H') → ta σ H Q
end

section
variable {K : Frg} {mg : Gm} {fr : Sr} {F F' H H' : Hp} {m m' : Sr} {σ : L2.St} {ρ : Rho}
theorem RpE.mono (e : Ex F F') (r : RpE K mg F σ ρ) : RpE K mg F' σ ρ := Paired.mapP r fun _ _ h => h.mono e
theorem Rl.to (r : Rl K mg fr F H m σ ρ) (e : Ex F F') (h : HR K mg fr F' H' m') : Rl K mg fr F' H' m' σ ρ := ⟨h, RpE.mono e r.e⟩
theorem RpE.nth : ∀ {σ : L2.St} {ρ : Rho} {i : Nat} {d : D}, RpE K mg F σ ρ → nth ρ i = some d → ∃ v, σ[i]? = some (some v) ∧ Rp K mg F v d
  | _, _, i, _, .nil, h => by cases i <;> cases h
  | _, _, 0, _, .cons r _, h => by
    have h' : _ = some _ := h
    rw [show DL.nth (_ :: _) 0 = _ from rfl] at h
    subst h
    obtain ⟨v, e, q⟩ := r
    subst e
    exact ⟨v, rfl, q⟩
  | _, _, i + 1, d, .cons _ r, h => by
    obtain ⟨v, e, q⟩ := RpE.nth (i := i) (d := d) r h
    exact ⟨v, by simpa using e, q⟩
theorem RpE.set (v : Option V) (d : Option D) (q : RpO K mg F v d) : ∀ {σ : L2.St} {ρ : Rho} (i : Nat), RpE K mg F σ ρ → RpE K mg F (σ.set i v) (ρ.set i d)
  | _, _, _, .nil => .nil
  | _, _, 0, .cons _ r => .cons q r
  | _, _, i + 1, .cons h r => .cons h (RpE.set v d q i r)
end

/-! ### judgements -/
structure DE (X : Cx) (K : Frg) (mg : Gm) (W : WX) (e : Expr) (te : TE) (pe : DEt) : Prop where
  p : PE X e te
  l : LE K mg W te pe
structure DT (X : Cx) (K : Frg) (mg : Gm) (W : WX) (e : Expr) (tt : TT) (pt : DTt) : Prop where
  p : PT X e tt
  l : LT K mg W tt pt
structure DW (X : Cx) (K : Frg) (mg : Gm) (W : WX) (e : Expr) (tt : TT) (pt : DTt) : Prop where
  p : PW X e tt
  l : LT K mg W tt pt
structure DA (X : Cx) (K : Frg) (mg : Gm) (W : WX) (es : List Expr) (ta : TA) (pa : DAt) : Prop where
  p : PA X es ta
  l : LA K mg W ta pa

/-! ### constants and names -/
def dC (x : D) : DEt := fun _ m P _ => P x m
def dVar (i : Nat) : DEt := fun ρ m P _ => ∃ x, nth ρ i = some x ∧ P x m
section
variable {X : Cx} {K : Frg} {mg : Gm} {W : WX} {a b c e : Expr} {ta tb tc te : TE} {pa pb pc pe : DEt} {pos p : Pos} {j : Nat}
theorem le_c {K : Frg} {mg : Gm} {v : V} {x : D} (h : ∀ F, Rp K mg F v x) : LE K mg W (tC v) (dC x) := fun r q k _ => k _ _ _ _ _ (Evl.Ex.refl _) r.h (h _) q
theorem de_int {i : Int} : DE X K mg W (.Constant (.int i) j pos) (tC (.int i)) (dC (.int i)) := ⟨pe_int, le_c fun _ => .int i⟩
theorem de_bl {k : Bool} : DE X K mg W (.Constant (.bool k) j pos) (tC (.bl k)) (dC (.bl k)) := ⟨pe_bl, le_c fun _ => .bl k⟩
theorem de_non : DE X K mg W (.Constant .none j pos) (tC .non) (dC .non) := ⟨pe_non, le_c fun _ => .non⟩
theorem de_str {x : Str} : DE X K mg W (.Constant (.str x) j pos) (tC (.str x)) (dC (.str x)) := ⟨pe_str, le_c fun _ => .str x⟩
theorem de_var (i : Nat) {x : Str} (hN : X.N[i]? = some x := by rfl) (hv : Vis X.env.scope x := by first | exact Or.inl rfl | exact Or.inr (Or.inl rfl) | exact Or.inr (Or.inr rfl)) (hd : (x == ("__debug__" : Str)) = false := by decide)
    (hcd : (x == ("__classdict__" : Str)) = false := by decide) : DE X K mg W (.Name x pos) (tVar i) (dVar i) :=
  ⟨pe_var hN hv hd hcd, fun r ⟨x, hx, q⟩ k _ => by
    obtain ⟨v, hv, hr⟩ := RpE.nth r.e hx
    exact ⟨v, hv, k _ _ _ _ _ (Evl.Ex.refl _) r.h hr q⟩⟩
/-- a module's constant: a number, a text, a truth value, a tuple of such -/
theorem de_glob {x : Str} {v : V} {u : Value} {d : D} (hm : X.mg x = some u) (r : RelV v u) (h : ∀ F, Rp K mg F v d) (hg : Gl X x := by rfl) (hd : (x == ("__debug__" : Str)) = false := by decide) : DE X K mg W (.Name x pos) (tC v) (dC d) :=
  ⟨pe_glob hg hm r hd, le_c h⟩

/-! ### operations by values -/
abbrev R2D := D → D → Sr → Pv → Prop
def LR2 (K : Frg) (mg : Gm) (r : R2) (rd : R2D) : Prop := ∀ {fr : Sr} {F H : Hp} {m : Sr} {x y : V} {a b : D} {P : Pv} {Q : VK}, HR K mg fr F H m → Rp K mg F x a → Rp K mg F y b → rd a b m P →
  (∀ v z F' H' m', Ex F F' → HR K mg fr F' H' m' → Rp K mg F' v z → P z m' → Q v H') → r x y H Q
def dOp (rd : R2D) (pa pb : DEt) : DEt := fun ρ m P Ξ => pa ρ m (fun x m1 => pb ρ m1 (fun y m2 => rd x y m2 P) Ξ) Ξ
theorem le_op {K : Frg} {mg : Gm} {r : R2} {rd : R2D} (l : LR2 K mg r rd) (la : LE K mg W ta pa) (lb : LE K mg W tb pb) : LE K mg W (tOp r ta tb) (dOp rd pa pb) := fun {fr F H m σ ρ P Ξ Q} R h k kx =>
  la R h (fun v x F1 H1 m1 e1 h1 r1 q1 => lb (R.to e1 h1) q1 (fun u y F2 H2 m2 e2 h2 r2 q2 => l h2 (r1.mono e2) r2 q2 fun w z F3 H3 m3 e3 h3 r3 q3 => k w z F3 H3 m3 ((e1.trans e2).trans e3) h3 r3 q3)
    fun cls C d fs F2 H2 m2 e2 => kx cls C d fs F2 H2 m2 (e1.trans e2)) kx
theorem de_op {op : Operator} {r : R2} {rd : R2D} (ho : OpR X (binaryOp op) r) (l : LR2 K mg r rd) (ha : DE X K mg W a ta pa) (hb : DE X K mg W b tb pb) : DE X K mg W (.BinOp a op b pos) (tOp r ta tb) (dOp rd pa pb) :=
  ⟨pe_op ho ha.p hb.p, le_op l ha.l hb.l⟩
theorem de_cmp {op : CmpOp} {r : R2} {rd : R2D} (ho : OpR X (compareOp op) r) (l : LR2 K mg r rd) (ha : DE X K mg W a ta pa) (hb : DE X K mg W b tb pb) (hm : behindInMarks op b = false := by first | exact nomark _ | rfl) : DE X K mg W (.Compare a [op] [b] pos) (tOp r ta tb) (dOp rd pa pb) :=
  ⟨pe_cmpR ho ha.p hb.p hm, le_op l ha.l hb.l⟩
/-- a comparison as a test -/
def dTst (pe : DEt) : DTt := fun ρ m P Ξ => pe ρ m (fun x m1 => ∃ k, x = .bl k ∧ P k m1) Ξ
theorem lt_tst {K : Frg} {mg : Gm} (l : LE K mg W te pe) : LT K mg W (tTest te) (dTst pe) := fun R h k kx => l R h (fun v x F1 H1 m1 e1 h1 r1 ⟨b, e, q⟩ => by
  subst e; cases r1; exact ⟨b, rfl, k _ _ _ _ e1 h1 q⟩) kx
theorem dt_cmp {op : CmpOp} {r : R2} {rd : R2D} (ho : OpR X (compareOp op) r) (l : LR2 K mg r rd) (ha : DE X K mg W a ta pa) (hb : DE X K mg W b tb pb) (hm : behindInMarks op b = false := by first | exact nomark _ | rfl) : DT X K mg W (.Compare a [op] [b] pos) (tTest (tOp r ta tb)) (dTst (dOp rd pa pb)) :=
  ⟨pt_cmpR ho ha.p hb.p hm, lt_tst (le_op l ha.l hb.l)⟩
/-- a op b op' c -/
def dChain (rd rd' : R2D) (pa pb pc : DEt) : DEt := fun ρ m P Ξ => pa ρ m (fun x m1 => pb ρ m1 (fun y m2 => rd x y m2 fun z m3 => ∃ k, z = .bl k ∧ if k = true then pc ρ m3 (fun w m4 => rd' y w m4 P) Ξ else P (.bl false) m3) Ξ) Ξ
theorem le_chain {K : Frg} {mg : Gm} {r r' : R2} {rd rd' : R2D} (l : LR2 K mg r rd) (l' : LR2 K mg r' rd') (la : LE K mg W ta pa) (lb : LE K mg W tb pb) (lc : LE K mg W tc pc) : LE K mg W (tChain r r' ta tb tc) (dChain rd rd' pa pb pc) := fun {fr F H m σ ρ P Ξ Q} R h k kx =>
  la R h (fun v x F1 H1 m1 e1 h1 r1 q1 => lb (R.to e1 h1) q1 (fun u y F2 H2 m2 e2 h2 r2 q2 => l h2 (r1.mono e2) r2 q2 fun w z F3 H3 m3 e3 h3 r3 ⟨kk, ez, q3⟩ => by
    subst ez; cases r3
    refine ⟨kk, rfl, ?_⟩
    cases kk with
    | true =>
      exact lc (R.to ((e1.trans e2).trans e3) h3) q3 (fun w' z' F4 H4 m4 e4 h4 r4 q4 => l' h4 ((r2.mono e3).mono e4) r4 q4 fun w2 z2 F5 H5 m5 e5 h5 r5 q5 => k w2 z2 F5 H5 m5 (((e1.trans e2).trans (e3.trans e4)).trans e5) h5 r5 q5)
        fun cls C d fs F4 H4 m4 e4 => kx cls C d fs F4 H4 m4 ((e1.trans e2).trans (e3.trans e4))
    | false => exact k _ _ _ _ _ ((e1.trans e2).trans e3) h3 (.bl false) q3)
    fun cls C d fs F2 H2 m2 e2 => kx cls C d fs F2 H2 m2 (e1.trans e2)) kx
theorem de_chain {op op' : CmpOp} {r r' : R2} {rd rd' : R2D} (ho : OpR X (compareOp op) r) (l : LR2 K mg r rd) (ho' : OpR X (compareOp op') r') (l' : LR2 K mg r' rd') (ha : DE X K mg W a ta pa) (hb : DE X K mg W b tb pb) (hc : DE X K mg W c tc pc)
    (hm : lastMarks [op, op'] [b, c] = false := by with_unfolding_all rfl) : DE X K mg W (.Compare a [op, op'] [b, c] pos) (tChain r r' ta tb tc) (dChain rd rd' pa pb pc) := ⟨pe_chain ho ho' ha.p hb.p hc.p hm, le_chain l l' ha.l hb.l hc.l⟩
theorem dt_chain {op op' : CmpOp} {r r' : R2} {rd rd' : R2D} (ho : OpR X (compareOp op) r) (l : LR2 K mg r rd) (ho' : OpR X (compareOp op') r') (l' : LR2 K mg r' rd') (ha : DE X K mg W a ta pa) (hb : DE X K mg W b tb pb) (hc : DE X K mg W c tc pc)
    (hm : lastMarks [op, op'] [b, c] = false := by with_unfolding_all rfl) : DT X K mg W (.Compare a [op, op'] [b, c] pos) (tTest (tChain r r' ta tb tc)) (dTst (dChain rd rd' pa pb pc)) := ⟨pt_chain ho ho' ha.p hb.p hc.p hm, lt_tst (le_chain l l' ha.l hb.l hc.l)⟩

/-! ### tests -/
def truth (m : Sr) : D → Option Bool
  | .non => some false
  | .bl b => some b
  | .int i => some (i != 0)
  | .lst ds => some (!ds.isEmpty)
  | .scr ds => some (!ds.isEmpty)
  | .tup ds => some (!ds.isEmpty)
  | .wtp ds => some (!ds.isEmpty)
  | .ref p => match m p with
    | some (.lst ds) => some (!ds.isEmpty)
    | some (.dic ds) => some (!ds.isEmpty)
    | _ => none
  | _ => none
def dTru (pe : DEt) : DTt := fun ρ m P Ξ => pe ρ m (fun x m1 => (∃ k, truth m1 x = some k ∧ P k m1) ∨ ∃ s, x = .str s ∧ s.length ≤ sizeLine ∧ P ((s.length : Int) != 0) m1) Ξ
theorem isEmpty_A {K : Frg} {mg : Gm} {F : Hp} {xs : List V} {ds : List D} (r : RpA K mg F xs ds) : xs.isEmpty = ds.isEmpty := by cases r <;> rfl
theorem isEmpty_K {K : Frg} {mg : Gm} {F : Hp} {xs : List (Key × V)} {ds : List (Key × D)} (r : RpK K mg F xs ds) : xs.isEmpty = ds.isEmpty := by cases r <;> rfl
theorem truth_ok {K : Frg} {mg : Gm} {fr : Sr} {F H : Hp} {m : Sr} {v : V} {x : D} {k : Bool} (h : HR K mg fr F H m) (r : Rp K mg F v x) (e : truth m x = some k) : TruV K v H k := by
  cases r with
  | non => cases e; rfl
  | bl b => cases e; rfl
  | int i => cases e; rfl
  | str s => cases e
  | ty n => cases e
  | lst ha hr => cases e; exact .inl ⟨_, Evl.sq_of (h.ex _ _ ha), by rw [isEmpty_A hr]⟩
  | scr ha hr => cases e; exact .inl ⟨_, Evl.ex_l h.ex ha, by rw [isEmpty_A hr]⟩
  | tup ha hr => cases e; exact .inr (.inl ⟨_, Evl.st_of (h.ex _ _ ha), by rw [isEmpty_A hr]⟩)
  | wtp ha hr => cases e; exact .inr (.inl ⟨_, Evl.ex_t h.ex ha, by rw [isEmpty_A hr]⟩)
  | dic ha hr => cases e
  | dct ha hr => cases e
  | ins _ _ _ => cases e
  | exc0 _ => cases e
  | exc1 _ _ _ => cases e
  | cls _ => cases e
  | ref p =>
    have e' : (match m p with | some (.lst ds) => some (!ds.isEmpty) | some (.dic ds) => some (!ds.isEmpty) | _ => none) = some k := e
    cases hm : m p with
    | none => rw [hm] at e'; cases e'
    | some o =>
      rw [hm] at e'
      obtain ⟨_, hk⟩ := h.st p o hm
      cases o with
      | lst ds =>
        obtain ⟨xs, h1, h2⟩ := hk
        cases e'
        exact .inl ⟨_, Evl.sq_of h1, by rw [isEmpty_A h2]⟩
      | dic ds =>
        obtain ⟨xs, h1, h2⟩ := hk
        cases e'
        exact .inr (.inr ⟨_, h1, by rw [isEmpty_K h2]⟩)
      | dct ds => cases e'
theorem dt_tru (ha : DE X K mg W a ta pa) (he : ∀ whole, isTrue a X.env whole = (do let v ← whole; standAt a.pos; holding [v] (truthy v)) := by intro _; rfl) (hK : X.K = K := by rfl) : DT X K mg W a (fun σ H Q => ta σ H fun x H' => ∃ k, TruV K x H' k ∧ Q k H') (dTru pa) :=
  ⟨hK ▸ pt_truth ha.p he, fun R h k kx => ha.l R h (fun v x F1 H1 m1 e1 h1 r1 q1 => by
    rcases q1 with ⟨b, e, q⟩ | ⟨s, e, hs, q⟩
    · exact ⟨b, truth_ok h1 r1 e, k _ _ _ _ e1 h1 q⟩
    · subst e; cases r1
      exact ⟨_, ⟨hs, rfl⟩, k _ _ _ _ e1 h1 q⟩) kx⟩
section
variable {tA tB' : TT} {qa qb : DTt} {rest : List Expr}
def dAnd (qa qb : DTt) : DTt := fun ρ m P Ξ => qa ρ m (fun c m1 => if c = true then qb ρ m1 P Ξ else P false m1) Ξ
def dOr (qa qb : DTt) : DTt := fun ρ m P Ξ => qa ρ m (fun c m1 => if c = true then P true m1 else qb ρ m1 P Ξ) Ξ
def dNot (qa : DTt) : DTt := fun ρ m P Ξ => qa ρ m (fun c m1 => P (!c) m1) Ξ
theorem lt_and {K : Frg} {mg : Gm} (la : LT K mg W tA qa) (lb : LT K mg W tB' qb) : LT K mg W (tAnd tA tB') (dAnd qa qb) := fun {fr F H m σ ρ P Ξ Q} R h k kx =>
  la R h (fun b F1 H1 m1 e1 h1 q1 => by
    cases b with
    | true => exact lb (R.to e1 h1) q1 (fun b F2 H2 m2 e2 h2 q2 => k b F2 H2 m2 (e1.trans e2) h2 q2) fun cls C d fs F2 H2 m2 e2 => kx cls C d fs F2 H2 m2 (e1.trans e2)
    | false => exact k _ _ _ _ e1 h1 q1) kx
theorem lt_or {K : Frg} {mg : Gm} (la : LT K mg W tA qa) (lb : LT K mg W tB' qb) : LT K mg W (tOr tA tB') (dOr qa qb) := fun {fr F H m σ ρ P Ξ Q} R h k kx =>
  la R h (fun b F1 H1 m1 e1 h1 q1 => by
    cases b with
    | false => exact lb (R.to e1 h1) q1 (fun b F2 H2 m2 e2 h2 q2 => k b F2 H2 m2 (e1.trans e2) h2 q2) fun cls C d fs F2 H2 m2 e2 => kx cls C d fs F2 H2 m2 (e1.trans e2)
    | true => exact k _ _ _ _ e1 h1 q1) kx
theorem dt_not (ha : DT X K mg W a tA qa) : DT X K mg W (.UnaryOp .Not a pos) (tNot tA) (dNot qa) := ⟨pt_not ha.p, fun R h k kx => ha.l R h (fun b F1 H1 m1 e1 h1 q1 => k _ _ _ _ e1 h1 q1) kx⟩
theorem dw_and1 (ha : DT X K mg W a tA qa) : DW X K mg W (.BoolOp .And [a] pos) tA qa := ⟨pw_and1 ha.p, ha.l⟩
theorem dw_or1 (ha : DT X K mg W a tA qa) : DW X K mg W (.BoolOp .Or [a] pos) tA qa := ⟨pw_or1 ha.p, ha.l⟩
theorem dw_and (ha : DT X K mg W a tA qa) (hb : DW X K mg W (.BoolOp .And (b :: rest) pos) tB' qb) : DW X K mg W (.BoolOp .And (a :: b :: rest) pos) (tAnd tA tB') (dAnd qa qb) := ⟨pw_and ha.p hb.p, lt_and ha.l hb.l⟩
theorem dw_or (ha : DT X K mg W a tA qa) (hb : DW X K mg W (.BoolOp .Or (b :: rest) pos) tB' qb) : DW X K mg W (.BoolOp .Or (a :: b :: rest) pos) (tOr tA tB') (dOr qa qb) := ⟨pw_or ha.p hb.p, lt_or ha.l hb.l⟩
theorem DW.t (h : DW X K mg W a tA qa) : DT X K mg W a tA qa := ⟨h.p.pt, h.l⟩
/-- as values, all but the last a truth value -/
def dAndV (pa pb : DEt) : DEt := fun ρ m P Ξ => pa ρ m (fun x m1 => ∃ c, x = .bl c ∧ if c = true then pb ρ m1 P Ξ else P (.bl false) m1) Ξ
def dOrV (pa pb : DEt) : DEt := fun ρ m P Ξ => pa ρ m (fun x m1 => ∃ c, x = .bl c ∧ if c = true then P (.bl true) m1 else pb ρ m1 P Ξ) Ξ
def dNotV (pa : DEt) : DEt := fun ρ m P Ξ => pa ρ m (fun x m1 => ∃ c, x = .bl c ∧ P (.bl (!c)) m1) Ξ
theorem de_one {op} (ha : DE X K mg W a ta pa) : DE X K mg W (.BoolOp op [a] pos) ta pa := ⟨pe_one ha.p, ha.l⟩
theorem de_and (ha : DE X K mg W a ta pa) (hb : DE X K mg W (.BoolOp .And (b :: rest) pos) tb pb) : DE X K mg W (.BoolOp .And (a :: b :: rest) pos) (tAndV ta tb) (dAndV pa pb) := ⟨pe_and ha.p hb.p, fun {fr F H m σ ρ P Ξ Q} R h k kx =>
  ha.l R h (fun v x F1 H1 m1 e1 h1 r1 ⟨c, e, q1⟩ => by
    subst e; cases r1
    refine ⟨c, rfl, ?_⟩
    cases c with
    | true => exact hb.l (R.to e1 h1) q1 (fun v z F2 H2 m2 e2 h2 r2 q2 => k v z F2 H2 m2 (e1.trans e2) h2 r2 q2) fun cls C d fs F2 H2 m2 e2 => kx cls C d fs F2 H2 m2 (e1.trans e2)
    | false => exact k _ _ _ _ _ e1 h1 (.bl false) q1) kx⟩
theorem de_or (ha : DE X K mg W a ta pa) (hb : DE X K mg W (.BoolOp .Or (b :: rest) pos) tb pb) : DE X K mg W (.BoolOp .Or (a :: b :: rest) pos) (tOrV ta tb) (dOrV pa pb) := ⟨pe_or ha.p hb.p, fun {fr F H m σ ρ P Ξ Q} R h k kx =>
  ha.l R h (fun v x F1 H1 m1 e1 h1 r1 ⟨c, e, q1⟩ => by
    subst e; cases r1
    refine ⟨c, rfl, ?_⟩
    cases c with
    | false => exact hb.l (R.to e1 h1) q1 (fun v z F2 H2 m2 e2 h2 r2 q2 => k v z F2 H2 m2 (e1.trans e2) h2 r2 q2) fun cls C d fs F2 H2 m2 e2 => kx cls C d fs F2 H2 m2 (e1.trans e2)
    | true => exact k _ _ _ _ _ e1 h1 (.bl true) q1) kx⟩
theorem de_not (ha : DE X K mg W a ta pa) : DE X K mg W (.UnaryOp .Not a pos) (tNotV ta) (dNotV pa) := ⟨pe_not ha.p, fun R h k kx => ha.l R h (fun v x F1 H1 m1 e1 h1 r1 ⟨c, e, q1⟩ => by
  subst e; cases r1
  exact ⟨c, rfl, k _ _ _ _ _ e1 h1 (.bl _) q1⟩) kx⟩
def dIf (qa : DTt) (pa pb : DEt) : DEt := fun ρ m P Ξ => qa ρ m (fun c m1 => if c = true then pa ρ m1 P Ξ else pb ρ m1 P Ξ) Ξ
theorem de_if (hc : DT X K mg W c tA qa) (ha : DE X K mg W a ta pa) (hb : DE X K mg W b tb pb) : DE X K mg W (.IfExp c a b pos) (tIf tA ta tb) (dIf qa pa pb) := ⟨pe_ifExp hc.p ha.p hb.p, fun {fr F H m σ ρ P Ξ Q} R h k kx =>
  hc.l R h (fun b F1 H1 m1 e1 h1 q1 => by
    cases b with
    | true => exact ha.l (R.to e1 h1) q1 (fun v z F2 H2 m2 e2 h2 r2 q2 => k v z F2 H2 m2 (e1.trans e2) h2 r2 q2) fun cls C d fs F2 H2 m2 e2 => kx cls C d fs F2 H2 m2 (e1.trans e2)
    | false => exact hb.l (R.to e1 h1) q1 (fun v z F2 H2 m2 e2 h2 r2 q2 => k v z F2 H2 m2 (e1.trans e2) h2 r2 q2) fun cls C d fs F2 H2 m2 e2 => kx cls C d fs F2 H2 m2 (e1.trans e2)) kx⟩
end

/-! ### argument lists, displays -/
def dNil : DAt := fun _ m P _ => P [] m
def dCons (pa : DEt) (qa : DAt) : DAt := fun ρ m P Ξ => pa ρ m (fun x m1 => qa ρ m1 (fun xs m2 => P (x :: xs) m2) Ξ) Ξ
theorem da_nil : DA X K mg W [] tNil dNil := ⟨pa_nil, fun R h k _ => k _ _ _ _ _ (Evl.Ex.refl _) R.h .nil h⟩
theorem da_cons {es : List Expr} {tr : TA} {qa : DAt} (ha : DE X K mg W e te pe) (hr : DA X K mg W es tr qa) (hs : starEach (e :: es) X.env = (false, eval e X.env) :: starEach es X.env := by rfl) : DA X K mg W (e :: es) (tCons te tr) (dCons pe qa) := ⟨by first | exact pa_cons ha.p hr.p | exact pa_cons ha.p hr.p hs, fun {fr F H m σ ρ P Ξ Q} R h k kx =>
  ha.l R h (fun v x F1 H1 m1 e1 h1 r1 q1 => hr.l (R.to e1 h1) q1 (fun vs xs F2 H2 m2 e2 h2 r2 q2 => k _ _ F2 H2 m2 (e1.trans e2) h2 (.cons (r1.mono e2) r2) q2) fun cls C d fs F2 H2 m2 e2 => kx cls C d fs F2 H2 m2 (e1.trans e2)) kx⟩
/-- a new list, frozen | changing; a new tuple -/
def dLst (qa : DAt) : DEt := fun ρ m P Ξ => qa ρ m (fun xs m1 => xs.length ≤ sizeLine ∧ P (.lst xs) m1) Ξ
def dLstM (qa : DAt) : DEt := fun ρ m P Ξ => qa ρ m (fun xs m1 => xs.length ≤ sizeLine ∧ ∀ p, m1 p = none → P (.ref p) (put m1 p (.lst xs))) Ξ
def dTup (qa : DAt) : DEt := fun ρ m P Ξ => qa ρ m (fun xs m1 => xs.length ≤ sizeLine ∧ P (.tup xs) m1) Ξ
theorem de_lst {es : List Expr} {t : TA} {qa : DAt} (ha : DA X K mg W es t qa) : DE X K mg W (.List es pos) (tLst t) (dLst qa) := ⟨pe_lst ha.p, fun R h k kx => ha.l R h (fun vs xs F1 H1 m1 e1 h1 r1 ⟨hl, q1⟩ =>
  ⟨by rw [r1.len]; exact hl, fun p hp => k _ _ _ _ _ (e1.trans (h1.exF hp)) (h1.newF hp) (.lst upd_same (r1.mono (h1.exF hp))) q1⟩) kx⟩
theorem de_lstM {es : List Expr} {t : TA} {qa : DAt} (ha : DA X K mg W es t qa) : DE X K mg W (.List es pos) (tLst t) (dLstM qa) := ⟨pe_lst ha.p, fun R h k kx => ha.l R h (fun vs xs F1 H1 m1 e1 h1 r1 ⟨hl, q1⟩ =>
  ⟨by rw [r1.len]; exact hl, fun p hp => k _ _ _ _ _ e1 (h1.newM (mo := .lst xs) hp ⟨_, upd_same, r1⟩) (.ref p) (q1 p (h1.freeM hp))⟩) kx⟩
theorem de_tup {es : List Expr} {x1} {t : TA} {qa : DAt} (ha : DA X K mg W es t qa) : DE X K mg W (.Tuple es x1 pos) (tTup t) (dTup qa) := ⟨pe_tup ha.p, fun R h k kx => ha.l R h (fun vs xs F1 H1 m1 e1 h1 r1 ⟨hl, q1⟩ =>
  ⟨by rw [r1.len]; exact hl, fun p hp => k _ _ _ _ _ (e1.trans (h1.exF hp)) (h1.newF hp) (.tup upd_same (r1.mono (h1.exF hp))) q1⟩) kx⟩
/-- a changing list is frozen as it is handed on -/
def dFrz (pe : DEt) : DEt := fun ρ m P Ξ => pe ρ m (fun x m1 => ∃ p ds, x = .ref p ∧ m1 p = some (.lst ds) ∧ P (.lst ds) (drp m1 p)) Ξ
theorem de_frz (ha : DE X K mg W a ta pa) : DE X K mg W a ta (dFrz pa) := ⟨ha.p, fun R h k kx => ha.l R h (fun v x F1 H1 m1 e1 h1 r1 ⟨p, ds, e, hm, q⟩ => by
  subst e; cases r1
  obtain ⟨xs, h2, ex, r2⟩ := h1.frz hm
  exact k _ _ _ _ _ (e1.trans ex) h2 r2 q) kx⟩
end
end DL
namespace DL
open PySem PySem.Spec PyProof.Rows L2

/-! ### what a datum is, by the store -/
def lstOf (m : Sr) : D → Option (List D)
  | .lst ds => some ds
  | .ref p => match m p with
    | some (.lst ds) => some ds
    | _ => none
  | _ => none
def seqL (m : Sr) : D → Option (List D)
  | .lst ds => some ds
  | .scr ds => some ds
  | .ref p => match m p with
    | some (.lst ds) => some ds
    | _ => none
  | _ => none
def tupOf : D → Option (List D)
  | .tup ds => some ds
  | .wtp ds => some ds
  | _ => none
def dicOf (m : Sr) : D → Option (List (Key × D))
  | .dic ds => some ds
  | .ref p => match m p with
    | some (.dic ds) => some ds
    | _ => none
  | _ => none
def dctOf (m : Sr) : D → Option (List (List Key × D))
  | .dct ds => some ds
  | .ref p => match m p with
    | some (.dct ds) => some ds
    | _ => none
  | _ => none
def seqOf (m : Sr) (x : D) : Option (List D) := (seqL m x).or (tupOf x)

section
variable {K : Frg} {mg : Gm} {fr : Sr} {F F' H H' : Hp} {m m' : Sr} {v : V} {x : D} {ds : List D} {p : Addr}
theorem lstOf_ref (h : m p = some (.lst ds)) : lstOf m (.ref p) = some ds := by show (match m p with | some (.lst ds) => some ds | _ => none) = _; rw [h]
theorem seqL_ref (h : m p = some (.lst ds)) : seqL m (.ref p) = some ds := by show (match m p with | some (.lst ds) => some ds | _ => none) = _; rw [h]
theorem seqOf_ref (h : m p = some (.lst ds)) : seqOf m (.ref p) = some ds := by unfold seqOf; rw [seqL_ref h]; rfl
theorem dicOf_ref {ks : List (Key × D)} (h : m p = some (.dic ks)) : dicOf m (.ref p) = some ks := by show (match m p with | some (.dic ds) => some ds | _ => none) = _; rw [h]
theorem dctOf_ref {ks : List (List Key × D)} (h : m p = some (.dct ks)) : dctOf m (.ref p) = some ks := by show (match m p with | some (.dct ds) => some ds | _ => none) = _; rw [h]
theorem lstOf_ok (h : HR K mg fr F H m) (r : Rp K mg F v x) (e : lstOf m x = some ds) : ∃ p xs, v = .ref p ∧ H p = some (.lst xs) ∧ RpA K mg F xs ds := by
  cases r with
  | lst ha hr => cases e; exact ⟨_, _, rfl, h.ex _ _ ha, hr⟩
  | ref p =>
    have e' : (match m p with | some (.lst ds) => some ds | _ => none) = some ds := e
    split at e'
    · rename_i hm
      cases e'
      obtain ⟨_, xs, h1, h2⟩ := h.st p _ hm
      exact ⟨p, xs, rfl, h1, h2⟩
    · cases e'
  | _ => cases e
theorem seqL_ok (h : HR K mg fr F H m) (r : Rp K mg F v x) (e : seqL m x = some ds) : ∃ p xs, v = .ref p ∧ SqL K H p xs ∧ RpA K mg F xs ds := by
  cases r with
  | lst ha hr => cases e; exact ⟨_, _, rfl, Evl.sq_of (h.ex _ _ ha), hr⟩
  | scr ha hr => cases e; exact ⟨_, _, rfl, Evl.ex_l h.ex ha, hr⟩
  | ref p =>
    have e' : (match m p with | some (.lst ds) => some ds | _ => none) = some ds := e
    split at e'
    · rename_i hm
      cases e'
      obtain ⟨_, xs, h1, h2⟩ := h.st p _ hm
      exact ⟨p, xs, rfl, Evl.sq_of h1, h2⟩
    · cases e'
  | _ => cases e
theorem tupOf_ok (h : HR K mg fr F H m) (r : Rp K mg F v x) (e : tupOf x = some ds) : ∃ p xs, v = .ref p ∧ SqT K H p xs ∧ RpA K mg F xs ds := by
  cases r with
  | tup ha hr => cases e; exact ⟨_, _, rfl, Evl.st_of (h.ex _ _ ha), hr⟩
  | wtp ha hr => cases e; exact ⟨_, _, rfl, Evl.ex_t h.ex ha, hr⟩
  | _ => cases e
theorem seqOf_ok (h : HR K mg fr F H m) (r : Rp K mg F v x) (e : seqOf m x = some ds) : ∃ p xs, v = .ref p ∧ (SqL K H p xs ∨ SqT K H p xs) ∧ RpA K mg F xs ds := by
  unfold seqOf at e
  cases e1 : seqL m x with
  | some es =>
    rw [e1] at e; cases e
    obtain ⟨p, xs, h1, h2, h3⟩ := seqL_ok h r e1
    exact ⟨p, xs, h1, .inl h2, h3⟩
  | none =>
    rw [e1] at e
    obtain ⟨p, xs, h1, h2, h3⟩ := tupOf_ok h r (show tupOf x = some ds from e)
    exact ⟨p, xs, h1, .inr h2, h3⟩
theorem dicOf_ok {ks : List (Key × D)} (h : HR K mg fr F H m) (r : Rp K mg F v x) (e : dicOf m x = some ks) : ∃ p ws, v = .ref p ∧ H p = some (.dK ws) ∧ RpK K mg F ws ks := by
  cases r with
  | dic ha hr => cases e; exact ⟨_, _, rfl, h.ex _ _ ha, hr⟩
  | ref p =>
    have e' : (match m p with | some (.dic ds) => some ds | _ => none) = some ks := e
    split at e'
    · rename_i hm
      cases e'
      obtain ⟨_, xs, h1, h2⟩ := h.st p _ hm
      exact ⟨p, xs, rfl, h1, h2⟩
    · cases e'
  | _ => cases e
theorem dctOf_ok {ks : List (List Key × D)} (h : HR K mg fr F H m) (r : Rp K mg F v x) (e : dctOf m x = some ks) : ∃ p ws, v = .ref p ∧ H p = some (.dT ws) ∧ RpT K mg F ws ks := by
  cases r with
  | dct ha hr => cases e; exact ⟨_, _, rfl, h.ex _ _ ha, hr⟩
  | ref p =>
    have e' : (match m p with | some (.dct ds) => some ds | _ => none) = some ks := e
    split at e'
    · rename_i hm
      cases e'
      obtain ⟨_, xs, h1, h2⟩ := h.st p _ hm
      exact ⟨p, xs, rfl, h1, h2⟩
    · cases e'
  | _ => cases e
theorem RpA.atI {xs : List V} {i : Int} {d : D} (r : RpA K mg F xs ds) (e : L2.atI ds i = some d) : ∃ y, L2.atI xs i = some y ∧ Rp K mg F y d := by
  unfold L2.atI at e ⊢
  rw [r.len]
  cases h : ixN ds.length i with
  | none => rw [h] at e; cases e
  | some j =>
    rw [h] at e
    exact RpA.at r e
end

/-! ### operators -/
section
variable {X : Cx} {K : Frg} {mg : Gm} {fr : Sr} {F F' H H' : Hp} {m m' : Sr}
theorem opr_or {f : Value → Value → Sem Value} {r r' : R2} (h : OpR X f r) (h' : OpR X f r') : OpR X f (fun x y H Q => r x y H Q ∨ r' x y H Q) :=
  fun pins s σ H x y v u Q I rx ry q => q.elim (h pins s σ H x y v u Q I rx ry) (h' pins s σ H x y v u Q I rx ry)
theorem lr_or {r r' : R2} {d d' : R2D} (h : LR2 K mg r d) (h' : LR2 K mg r' d') : LR2 K mg (fun x y H Q => r x y H Q ∨ r' x y H Q) (fun x y m P => d x y m P ∨ d' x y m P) :=
  fun hr rx ry q k => q.elim (fun q => .inl (h hr rx ry q k)) (fun q => .inr (h' hr rx ry q k))
/-- two ints -/
def oI (C : Int → Int → Prop) (g : Int → Int → D) : R2D := fun x y m P => ∃ i j, x = .int i ∧ y = .int j ∧ C i j ∧ P (g i j) m
def oI0 (g : Int → Int → D) : R2D := fun x y m P => ∃ i j, x = .int i ∧ y = .int j ∧ P (g i j) m
theorem lr_I {C : Int → Int → Prop} {g : Int → Int → V} {g' : Int → Int → D} (h : ∀ F i j, Rp K mg F (g i j) (g' i j)) : LR2 K mg (rI C g) (oI C g') := fun hr rx ry ⟨i, j, e1, e2, c, q⟩ k => by
  subst e1 e2; cases rx; cases ry
  exact ⟨i, j, rfl, rfl, c, k _ _ _ _ _ (Evl.Ex.refl _) hr (h _ i j) q⟩
theorem lr_I0 {g : Int → Int → V} {g' : Int → Int → D} (h : ∀ F i j, Rp K mg F (g i j) (g' i j)) : LR2 K mg (rI0 g) (oI0 g') := fun hr rx ry ⟨i, j, e1, e2, q⟩ k => by
  subst e1 e2; cases rx; cases ry
  exact ⟨i, j, rfl, rfl, k _ _ _ _ _ (Evl.Ex.refl _) hr (h _ i j) q⟩
def oAdd : R2D := oI0 fun i j => .int (i + j)
def oSub : R2D := oI0 fun i j => .int (i - j)
def oMul : R2D := oI CMulW fun i j => .int (i * j)
def oFdiv : R2D := oI CDivW fun i j => .int (i / j)
def oMod : R2D := oI (fun _ j => 0 < j) fun i j => .int (i % j)
def oPow : R2D := oI CPow fun i j => .int (i ^ j.toNat)
def oLt : R2D := oI0 fun i j => .bl (decide (i < j))
def oLe : R2D := oI0 fun i j => .bl (decide (i ≤ j))
def oGt : R2D := oI0 fun i j => .bl (decide (j < i))
def oGe : R2D := oI0 fun i j => .bl (decide (j ≤ i))
theorem lr_add : LR2 K mg (rI0 fun i j => .int (i + j)) oAdd := lr_I0 fun _ _ _ => .int _
theorem lr_sub : LR2 K mg (rI0 fun i j => .int (i - j)) oSub := lr_I0 fun _ _ _ => .int _
theorem lr_mul : LR2 K mg (rI CMulW fun i j => .int (i * j)) oMul := lr_I fun _ _ _ => .int _
theorem lr_fdiv : LR2 K mg (rI CDivW fun i j => .int (i / j)) oFdiv := lr_I fun _ _ _ => .int _
theorem lr_mod : LR2 K mg (rI (fun _ j => 0 < j) fun i j => .int (i % j)) oMod := lr_I fun _ _ _ => .int _
theorem lr_pow : LR2 K mg (rI CPow fun i j => .int (i ^ j.toNat)) oPow := lr_I fun _ _ _ => .int _
theorem lr_lt : LR2 K mg (rI0 fun i j => .bl (decide (i < j))) oLt := lr_I0 fun _ _ _ => .bl _
theorem lr_le : LR2 K mg (rI0 fun i j => .bl (decide (i ≤ j))) oLe := lr_I0 fun _ _ _ => .bl _
theorem lr_gt : LR2 K mg (rI0 fun i j => .bl (decide (j < i))) oGt := lr_I0 fun _ _ _ => .bl _
theorem lr_ge : LR2 K mg (rI0 fun i j => .bl (decide (j ≤ i))) oGe := lr_I0 fun _ _ _ => .bl _
/-- texts -/
def oAddS : R2D := fun x y m P => ∃ i j, x = .str i ∧ y = .str j ∧ i.length + j.length ≤ sizeLine ∧ P (.str (i ++ j)) m
theorem lr_addS : LR2 K mg (fun x y H Q => ∃ i j, x = .str i ∧ y = .str j ∧ i.length + j.length ≤ sizeLine ∧ Q (.str (i ++ j)) H) oAddS := fun hr rx ry ⟨i, j, e1, e2, c, q⟩ k => by
  subst e1 e2; cases rx; cases ry
  exact ⟨i, j, rfl, rfl, c, k _ _ _ _ _ (Evl.Ex.refl _) hr (.str _) q⟩
/-- lists: a new one -/
def oCat : R2D := fun x y m P => ∃ xs ys, lstOf m x = some xs ∧ lstOf m y = some ys ∧ xs.length + ys.length ≤ sizeLine ∧ P (.lst (xs ++ ys)) m
def oCatM : R2D := fun x y m P => ∃ xs ys, lstOf m x = some xs ∧ lstOf m y = some ys ∧ xs.length + ys.length ≤ sizeLine ∧ ∀ p, m p = none → P (.ref p) (put m p (.lst (xs ++ ys)))
theorem lr_cat : LR2 K mg rCat oCat := fun {fr F H m x y a b P Q} hr rx ry ⟨xs, ys, e1, e2, c, q⟩ k => by
  obtain ⟨p1, vs1, rfl, h1, r1⟩ := lstOf_ok hr rx e1
  obtain ⟨p2, vs2, rfl, h2, r2⟩ := lstOf_ok hr ry e2
  exact ⟨p1, p2, vs1, vs2, rfl, rfl, h1, h2, by rw [r1.len, r2.len]; exact c, fun p hp => k _ _ _ _ _ (hr.exF hp) (hr.newF hp) (.lst upd_same ((r1.app r2).mono (hr.exF hp))) q⟩
theorem lr_catM : LR2 K mg rCat oCatM := fun {fr F H m x y a b P Q} hr rx ry ⟨xs, ys, e1, e2, c, q⟩ k => by
  obtain ⟨p1, vs1, rfl, h1, r1⟩ := lstOf_ok hr rx e1
  obtain ⟨p2, vs2, rfl, h2, r2⟩ := lstOf_ok hr ry e2
  exact ⟨p1, p2, vs1, vs2, rfl, rfl, h1, h2, by rw [r1.len, r2.len]; exact c, fun p hp => k _ _ _ _ _ (Evl.Ex.refl _) (hr.newM (mo := .lst (xs ++ ys)) hp ⟨_, upd_same, r1.app r2⟩) (.ref p) (q p (hr.freeM hp))⟩
/-- the sum of numbers, texts or lists -/
def oPlus : R2D := fun x y m P => oAdd x y m P ∨ oAddS x y m P ∨ oCat x y m P
def oPlusM : R2D := fun x y m P => oAdd x y m P ∨ oAddS x y m P ∨ oCatM x y m P
def rPlus : R2 := fun x y H Q => (rI0 fun i j => .int (i + j)) x y H Q ∨ (fun x y H Q => ∃ i j, x = .str i ∧ y = .str j ∧ i.length + j.length ≤ sizeLine ∧ Q (.str (i ++ j)) H : R2) x y H Q ∨ rCat x y H Q
theorem op_plus : OpR X (binaryOp .Add) rPlus := opr_or op_add (opr_or op_add_str op_cat)
theorem lr_plus : LR2 K mg rPlus oPlus := lr_or lr_add (lr_or lr_addS lr_cat)
theorem lr_plusM : LR2 K mg rPlus oPlusM := lr_or lr_add (lr_or lr_addS lr_catM)
/-- an item -/
def oIx : R2D := fun x y m P => (∃ ds i d, seqOf m x = some ds ∧ y = .int i ∧ L2.atI ds i = some d ∧ P d m) ∨ ∃ z i c, x = .str z ∧ y = .int i ∧ z.length ≤ sizeLine ∧ L2.atI z.cps.toList i = some c ∧ P (.str ⟨#[c]⟩) m
theorem lr_ix : LR2 K mg (rIx K) oIx := fun {fr F H m x y a b P Q} hr rx ry q k => by
  rcases q with ⟨ds, i, d, e1, e2, e3, q⟩ | ⟨z, i, c, e1, e2, e3, e4, q⟩
  · subst e2; cases ry
    obtain ⟨p, vs, rfl, h1, r1⟩ := seqOf_ok hr rx e1
    obtain ⟨w, e4, r2⟩ := r1.atI e3
    rcases h1 with h1 | h1
    · exact .inl ⟨p, vs, i, w, rfl, rfl, h1, e4, k _ _ _ _ _ (Evl.Ex.refl _) hr r2 q⟩
    · exact .inr (.inl ⟨p, vs, i, w, rfl, rfl, h1, e4, k _ _ _ _ _ (Evl.Ex.refl _) hr r2 q⟩)
  · subst e1 e2; cases rx; cases ry
    exact .inr (.inr ⟨z, i, c, rfl, rfl, e3, e4, k _ _ _ _ _ (Evl.Ex.refl _) hr (.str _) q⟩)
/-- in: flat things in a list or tuple -/
def flatD : D → Bool
  | .non => true | .bl _ => true | .int _ => true | .str _ => true | _ => false
def eqD : D → D → Bool
  | .non, .non => true
  | .bl a, .bl b => a == b
  | .bl a, .int b => (if a then 1 else 0) == b
  | .int a, .bl b => a == (if b then 1 else 0)
  | .int a, .int b => a == b
  | .str a, .str b => a == b
  | _, _ => false
def inD (x : D) (xs : List D) : Bool := xs.any fun y => eqD y x
theorem flat_ok {v : V} {x : D} (r : Rp K mg F v x) (h : flatD x = true) : flatV v = true := by
  cases r <;> first | rfl | cases h
theorem eq_ok {v u : V} {x y : D} (r : Rp K mg F v x) (s : Rp K mg F u y) (h : flatD x = true) (h' : flatD y = true) : eqV v u = eqD x y := by
  cases r <;> first | (cases h; done) | (cases s <;> first | rfl | (cases h'; done))
theorem flats_ok : ∀ {vs : List V} {ds : List D}, RpA K mg F vs ds → ds.all flatD = true → vs.all flatV = true
  | _, _, .nil, _ => rfl
  | _, _, .cons r rs, h => by
    rw [List.all_cons, Bool.and_eq_true] at h ⊢
    exact ⟨flat_ok r h.1, flats_ok rs h.2⟩
theorem in_ok {u : V} {y : D} (s : Rp K mg F u y) (h' : flatD y = true) : ∀ {vs : List V} {ds : List D}, RpA K mg F vs ds → ds.all flatD = true → inV u vs = inD y ds
  | _, _, .nil, _ => rfl
  | _, _, .cons r rs, h => by
    rw [List.all_cons, Bool.and_eq_true] at h
    show (eqV _ u || inV u _) = (eqD _ y || inD y _)
    rw [eq_ok r s h.1 h']
    exact congrArg _ (in_ok s h' rs h.2)
def oIn (neg : Bool) : R2D := fun x y m P => ∃ ds, seqOf m y = some ds ∧ flatD x = true ∧ ds.all flatD = true ∧ P (.bl (if neg then !inD x ds else inD x ds)) m
theorem lr_in {neg : Bool} : LR2 K mg (rIn K neg) (oIn neg) := fun {fr F H m x y a b P Q} hr rx ry ⟨ds, e1, e2, e3, q⟩ k => by
  obtain ⟨p, vs, rfl, h1, r1⟩ := seqOf_ok hr ry e1
  refine ⟨p, vs, rfl, h1, flat_ok rx e2, flats_ok r1 e3, ?_⟩
  rw [in_ok rx e2 r1 e3]
  exact k _ _ _ _ _ (Evl.Ex.refl _) hr (.bl _) q
/-- is None -/
def oIsN : R2D := fun x y m P => y = .non ∧ ∃ b, (b = true ↔ x = .non) ∧ P (.bl b) m
def oNotN : R2D := fun x y m P => y = .non ∧ ∃ b, (b = true ↔ x ≠ .non) ∧ P (.bl b) m
theorem non_iff {v : V} {x : D} (r : Rp K mg F v x) : v = .non ↔ x = .non := by
  cases r <;> constructor <;> intro h <;> first | rfl | cases h
theorem lr_isN : LR2 K mg (fun x y H Q => y = .non ∧ Q (.bl (decide (x = .non))) H) oIsN := fun {fr F H m x y a b P Q} hr rx ry ⟨e1, k1, hb, q⟩ k => by
  subst e1; cases ry
  have e : decide (x = .non) = k1 := by
    cases k1 with
    | true => exact decide_eq_true ((non_iff rx).mpr (hb.mp rfl))
    | false => exact decide_eq_false fun z => Bool.false_ne_true (hb.mpr ((non_iff rx).mp z))
  refine ⟨rfl, ?_⟩
  rw [e]
  exact k _ _ _ _ _ (Evl.Ex.refl _) hr (.bl _) q
theorem lr_notN : LR2 K mg (fun x y H Q => y = .non ∧ Q (.bl (!decide (x = .non))) H) oNotN := fun {fr F H m x y a b P Q} hr rx ry ⟨e1, k1, hb, q⟩ k => by
  subst e1; cases ry
  have e : (!decide (x = .non)) = k1 := by
    cases k1 with
    | true => rw [decide_eq_false fun z => hb.mp rfl ((non_iff rx).mp z)]; rfl
    | false =>
      have z : x = .non := Classical.byContradiction fun z => Bool.false_ne_true (hb.mpr fun w => z ((non_iff rx).mpr w))
      rw [decide_eq_true z]; rfl
  refine ⟨rfl, ?_⟩
  rw [e]
  exact k _ _ _ _ _ (Evl.Ex.refl _) hr (.bl _) q
end

/-! ### data as a whole -/
mutual
inductive Py (m : Sr) : D → PyData → Prop
  | non : Py m .non .none
  | bl (b : Bool) : Py m (.bl b) (.bool b)
  | int (i : Int) : Py m (.int i) (.int i)
  | str (x : Str) : Py m (.str x) (.str x)
  | lst {ds : List D} {es : List PyData} : PyA m ds es → Py m (.lst ds) (.list es)
  | tup {ds : List D} {es : List PyData} : PyA m ds es → Py m (.tup ds) (.tuple es)
  | wtp {ds : List D} {es : List PyData} : PyA m ds es → Py m (.wtp ds) (.tuple es)
  | ref {p : Addr} {ds : List D} {es : List PyData} : m p = some (.lst ds) → PyA m ds es → Py m (.ref p) (.list es)
inductive PyA (m : Sr) : List D → List PyData → Prop
  | nil : PyA m [] []
  | cons {d : D} {ds : List D} {e : PyData} {es : List PyData} : Py m d e → PyA m ds es → PyA m (d :: ds) (e :: es)
end
section
variable {K : Frg} {mg : Gm} {fr : Sr} {F H : Hp} {m : Sr}
mutual
theorem Py.dp (h : HR K mg fr F H m) : ∀ {x : D} {d : PyData} {v : V}, Py m x d → Rp K mg F v x → Dp K H v d
  | _, _, _, .non, .non => .non
  | _, _, _, .bl b, .bl _ => .bl b
  | _, _, _, .int i, .int _ => .int i
  | _, _, _, .str x, .str _ => .str x
  | _, _, _, .lst a, .lst e r => .lst (Evl.sq_of (h.ex _ _ e)) (PyA.dp h a r)
  | _, _, _, .tup a, .tup e r => .tup (Evl.st_of (h.ex _ _ e)) (PyA.dp h a r)
  | _, _, _, .wtp a, .wtp e r => .tup (Evl.ex_t h.ex e) (PyA.dp h a r)
  | _, _, _, .ref (p := p) e a, .ref _ => by
    obtain ⟨_, xs, h1, h2⟩ := h.st p _ e
    exact .lst (Evl.sq_of h1) (PyA.dp h a h2)
theorem PyA.dp (h : HR K mg fr F H m) : ∀ {x : List D} {d : List PyData} {v : List V}, PyA m x d → RpA K mg F v x → DpAll K H v d
  | _, _, _, .nil, .nil => .nil
  | _, _, _, .cons a b, .cons r s => .cons (Py.dp h a r) (PyA.dp h b s)
end
theorem PyA.ints (m : Sr) : ∀ ns : List Int, PyA m (ns.map D.int) (ns.map PyData.int)
  | [] => .nil
  | n :: r => .cons (.int n) (PyA.ints m r)
theorem PyA.bools (m : Sr) : ∀ ns : List Bool, PyA m (ns.map D.bl) (ns.map PyData.bool)
  | [] => .nil
  | n :: r => .cons (.bl n) (PyA.bools m r)
/-- == of data -/
def oEq : R2D := fun x y m P => (∃ i j, x = .int i ∧ y = .int j ∧ P (.bl (decide (i = j))) m) ∨ (∃ i j, x = .str i ∧ y = .str j ∧ P (.bl (decide (i = j))) m) ∨ ∃ d e, Py m x d ∧ Py m y e ∧ SeqAt.shaped d = true ∧ SeqAt.shaped e = true ∧ P (.bl (PyData.eqv d e)) m
def oNe : R2D := fun x y m P => (∃ i j, x = .int i ∧ y = .int j ∧ P (.bl (!decide (i = j))) m) ∨ (∃ i j, x = .str i ∧ y = .str j ∧ P (.bl (!decide (i = j))) m) ∨ ∃ d e, Py m x d ∧ Py m y e ∧ SeqAt.shaped d = true ∧ SeqAt.shaped e = true ∧ P (.bl (!PyData.eqv d e)) m
def rEqU (K : Frg) : R2 := fun x y H Q => rEq x y H Q ∨ rEqD K x y H Q
def rNeU (K : Frg) : R2 := fun x y H Q => rNe x y H Q ∨ rNeD K x y H Q
theorem op_eqU {X : Cx} (hu : X.A.units + 64 < cLine) (hK : X.K = K := by rfl) : OpR X (compareOp .Eq) (rEqU K) := hK ▸ opr_or op_eq (op_eqD hu)
theorem op_neU {X : Cx} (hu : X.A.units + 64 < cLine) (hK : X.K = K := by rfl) : OpR X (compareOp .NotEq) (rNeU K) := hK ▸ opr_or op_ne (op_neD hu)
theorem opK_in {X : Cx} (hK : X.K = K := by rfl) : OpR X (compareOp .In) (rIn K false) := hK ▸ op_in_seq
theorem opK_notIn {X : Cx} (hK : X.K = K := by rfl) : OpR X (compareOp .NotIn) (rIn K true) := hK ▸ op_notIn_seq
theorem decI (i j : Int) : decide (V.int i = V.int j) = decide (i = j) := by
  by_cases h : i = j
  · rw [h, decide_eq_true rfl, decide_eq_true rfl]
  · rw [decide_eq_false h, decide_eq_false fun z => h (V.int.inj z)]
theorem decS (i j : Str) : decide (V.str i = V.str j) = decide (i = j) := by
  by_cases h : i = j
  · rw [h, decide_eq_true rfl, decide_eq_true rfl]
  · rw [decide_eq_false h, decide_eq_false fun z => h (V.str.inj z)]
theorem lr_eq : LR2 K mg (rEqU K) oEq := fun {fr F H m x y a b P Q} hr rx ry q k => by
  rcases q with ⟨i, j, e1, e2, q⟩ | ⟨i, j, e1, e2, q⟩ | ⟨d, e, p1, p2, s1, s2, q⟩
  · subst e1 e2; cases rx; cases ry
    refine .inl ⟨rfl, ?_⟩
    rw [decI]
    exact k _ _ _ _ _ (Evl.Ex.refl _) hr (.bl _) q
  · subst e1 e2; cases rx; cases ry
    refine .inl ⟨rfl, ?_⟩
    rw [decS]
    exact k _ _ _ _ _ (Evl.Ex.refl _) hr (.bl _) q
  · exact .inr ⟨d, e, p1.dp hr rx, p2.dp hr ry, s1, s2, k _ _ _ _ _ (Evl.Ex.refl _) hr (.bl _) q⟩
theorem lr_ne : LR2 K mg (rNeU K) oNe := fun {fr F H m x y a b P Q} hr rx ry q k => by
  rcases q with ⟨i, j, e1, e2, q⟩ | ⟨i, j, e1, e2, q⟩ | ⟨d, e, p1, p2, s1, s2, q⟩
  · subst e1 e2; cases rx; cases ry
    refine .inl ⟨rfl, ?_⟩
    rw [decI]
    exact k _ _ _ _ _ (Evl.Ex.refl _) hr (.bl _) q
  · subst e1 e2; cases rx; cases ry
    refine .inl ⟨rfl, ?_⟩
    rw [decS]
    exact k _ _ _ _ _ (Evl.Ex.refl _) hr (.bl _) q
  · exact .inr ⟨d, e, p1.dp hr rx, p2.dp hr ry, s1, s2, k _ _ _ _ _ (Evl.Ex.refl _) hr (.bl _) q⟩
end

/-! ### subscripts, slices, dicts -/
section
variable {X : Cx} {K : Frg} {mg : Gm} {W : WX} {a b e o i : Expr} {ta tb te td ty tz : TE} {pa pb pe pz : DEt} {pos p2 : Pos} {lo hi : Option Expr}
theorem de_ix (ha : DE X K mg W a ta pa) (hb : DE X K mg W b tb pb) (hs : PlainIx b := by exact fun _ _ => rfl) (hK : X.K = K := by rfl) : DE X K mg W (.Subscript a b pos) (tOp (rIx K) ta tb) (dOp oIx pa pb) := ⟨hK ▸ pe_ix ix_seq ha.p hb.p hs, le_op lr_ix ha.l hb.l⟩
abbrev DOt := Rho → Sr → (Option Int → Sr → Prop) → Xv → Prop
def LO (K : Frg) (mg : Gm) (W : WX) (to : TO) (po : DOt) : Prop := ∀ {fr : Sr} {F H : Hp} {m : Sr} {σ : L2.St} {ρ : Rho} {P : Option Int → Sr → Prop} {Ξ : Xv} {Q : Option Int → Hp → Prop}, Rl K mg fr F H m σ ρ → po ρ m P Ξ →
  (∀ x F' H' m', Ex F F' → HR K mg fr F' H' m' → P x m' → Q x H') →
  (∀ cls C d fs F' H' m', Ex F F' → HR K mg fr F' H' m' → XR K mg F' cls C d fs → Ξ C fs m' → W cls d σ H') → to σ H Q
structure DO (X : Cx) (K : Frg) (mg : Gm) (W : WX) (e : Option Expr) (to : TO) (po : DOt) : Prop where
  p : PO X e to
  l : LO K mg W to po
def dNoPart : DOt := fun _ m P _ => P none m
def dPart (pe : DEt) : DOt := fun ρ m P Ξ => pe ρ m (fun x m1 => ∃ i, x = .int i ∧ P (some i) m1) Ξ
theorem do_none : DO X K mg W none tNoPart dNoPart := ⟨po_none, fun R h k _ => k _ _ _ _ (Evl.Ex.refl _) R.h h⟩
theorem do_some (h : DE X K mg W e te pe) : DO X K mg W (some e) (tPart te) (dPart pe) := ⟨po_some h.p, fun R hq k kx => h.l R hq (fun v x F1 H1 m1 e1 h1 r1 ⟨i, ei, q⟩ => by
  subst ei; cases r1
  exact ⟨i, rfl, k _ _ _ _ e1 h1 q⟩) kx⟩
def cutD (xs : List D) (lo hi : Option Int) : List D := (xs.drop (HT.sIx xs.length 0 lo)).take (HT.sIx xs.length xs.length hi - HT.sIx xs.length 0 lo)
theorem RpA.cut {K : Frg} {mg : Gm} {F : Hp} {xs : List V} {ds : List D} (r : RpA K mg F xs ds) (lo hi : Option Int) : RpA K mg F (cutV xs lo hi) (cutD ds lo hi) := by
  unfold cutV cutD
  rw [r.len]
  exact (r.drop _).take _
/-- a slice of a list (a new list) or of a text -/
def dSl (pe : DEt) (pl ph : DOt) : DEt := fun ρ m P Ξ => pe ρ m (fun x m1 => pl ρ m1 (fun l m2 => ph ρ m2 (fun h m3 => (∃ ds, seqL m3 x = some ds ∧ P (.lst (cutD ds l h)) m3) ∨ ∃ z, x = .str z ∧ z.length ≤ sizeLine ∧ P (.str (cutS z l h)) m3) Ξ) Ξ) Ξ
def rSlU (K : Frg) : V → Option Int → Option Int → Hp → VK → Prop := fun x l h H Q => rSlL K x l h H Q ∨ rSlS x l h H Q
theorem de_slice {tl th : TO} {pl ph : DOt} (he : DE X K mg W e te pe) (hl : DO X K mg W lo tl pl) (hh : DO X K mg W hi th ph) (hK : X.K = K := by rfl) : DE X K mg W (.Subscript e (.Slice lo hi none p2) pos) (tSl (rSlU K) te tl th) (dSl pe pl ph) := ⟨hK ▸ pe_slice (SlR.or sl_list sl_str) he.p hl.p hh.p, fun {fr F H m σ ρ P Ξ Q} R h k kx =>
  he.l R h (fun v x F1 H1 m1 e1 h1 r1 q1 => hl.l (R.to e1 h1) q1 (fun l F2 H2 m2 e2 h2 q2 => hh.l (R.to (e1.trans e2) h2) q2 (fun hh F3 H3 m3 e3 h3 q3 => by
    have r3 := (r1.mono e2).mono e3
    rcases q3 with ⟨ds, e4, q⟩ | ⟨z, ez, hz, q⟩
    · obtain ⟨p, vs, rfl, h4, r4⟩ := seqL_ok h3 r3 e4
      exact .inl ⟨p, vs, rfl, h4, fun q' hp => k _ _ _ _ _ (((e1.trans e2).trans e3).trans (h3.exF hp)) (h3.newF hp) (.lst upd_same ((r4.cut l hh).mono (h3.exF hp))) q⟩
    · subst ez; cases r3
      exact .inr ⟨z, rfl, hz, k _ _ _ _ _ ((e1.trans e2).trans e3) h3 (.str _) q⟩)
    fun cls C d fs F3 H3 m3 e3 => kx cls C d fs F3 H3 m3 ((e1.trans e2).trans e3)) fun cls C d fs F2 H2 m2 e2 => kx cls C d fs F2 H2 m2 (e1.trans e2)) kx⟩
/-! dicts -/
section
variable {κ : Type} [DecidableEq κ]
def valD (kvs : List (κ × D)) (k : κ) : Option D := (kvs.find? fun kv => decide (kv.1 = k)).map (·.2)
def putD (kvs : List (κ × D)) (k : κ) (v : D) : List (κ × D) :=
  if (kvs.any fun kv => decide (kv.1 = k)) = true then kvs.map (fun kv => if kv.1 = k then (kv.1, v) else kv) else kvs ++ [(k, v)]
end
def keyD : D → Option Key
  | .int i => some (.inl i)
  | .str x => some (.inr x)
  | _ => none
theorem keyD_ok {K : Frg} {mg : Gm} {F : Hp} {v : V} {y : D} {k : Key} (r : Rp K mg F v y) (e : keyD y = some k) : v = kV k := by
  cases r <;> first | (cases e; rfl) | cases e
theorem RpK.val {K : Frg} {mg : Gm} {F : Hp} (k : Key) : ∀ {ws : List (Key × V)} {ds : List (Key × D)}, RpK K mg F ws ds → (valD ds k = none ∧ valV ws k = none) ∨ ∃ d v, valD ds k = some d ∧ valV ws k = some v ∧ Rp K mg F v d
  | _, _, .nil => .inl ⟨rfl, rfl⟩
  | _, _, .cons (k := k') (d := d) (v := v) (ds := ds) (vs := vs) h r => by
    by_cases e : k' = k
    · exact .inr ⟨d, v, by simp [valD, e], by simp [valV, e], h⟩
    · rcases RpK.val k r with ⟨h1, h2⟩ | ⟨d', v', h1, h2, h3⟩
      · exact .inl ⟨by rw [← h1]; simp [valD, e], by rw [← h2]; simp [valV, e]⟩
      · exact .inr ⟨d', v', by rw [← h1]; simp [valD, e], by rw [← h2]; simp [valV, e], h3⟩
theorem RpK.any {K : Frg} {mg : Gm} {F : Hp} (k : Key) : ∀ {ws : List (Key × V)} {ds : List (Key × D)}, RpK K mg F ws ds → (ws.any fun kv => decide (kv.1 = k)) = (ds.any fun kv => decide (kv.1 = k))
  | _, _, .nil => rfl
  | _, _, .cons (k := k') h r => by rw [List.any_cons, List.any_cons, RpK.any k r]
theorem RpK.app {K : Frg} {mg : Gm} {F : Hp} : ∀ {vs ws : List (Key × V)} {ds es : List (Key × D)}, RpK K mg F vs ds → RpK K mg F ws es → RpK K mg F (vs ++ ws) (ds ++ es)
  | _, _, _, _, .nil, s => s
  | _, _, _, _, .cons h r, s => .cons h (r.app s)
theorem RpK.map {K : Frg} {mg : Gm} {F : Hp} {v : V} {d : D} (q : Rp K mg F v d) (k : Key) : ∀ {vs : List (Key × V)} {ds : List (Key × D)}, RpK K mg F vs ds → RpK K mg F (vs.map fun kv => if kv.1 = k then (kv.1, v) else kv) (ds.map fun kv => if kv.1 = k then (kv.1, d) else kv)
  | _, _, .nil => .nil
  | _, _, .cons (k := k') h r => by
    rw [List.map_cons, List.map_cons]
    by_cases e : k' = k
    · rw [if_pos e, if_pos e]
      exact .cons q (r.map q k)
    · rw [if_neg e, if_neg e]
      exact .cons h (r.map q k)
theorem RpK.put {K : Frg} {mg : Gm} {F : Hp} {v : V} {d : D} (q : Rp K mg F v d) (k : Key) {ws : List (Key × V)} {ds : List (Key × D)} (r : RpK K mg F ws ds) : RpK K mg F (putK ws k v) (putD ds k d) := by
  unfold putK putD
  rw [r.any k]
  split
  · exact r.map q k
  · exact r.app (.cons q .nil)
theorem RpK.len {K : Frg} {mg : Gm} {F : Hp} : ∀ {vs : List (Key × V)} {ds : List (Key × D)}, RpK K mg F vs ds → vs.length = ds.length
  | _, _, .nil => rfl
  | _, _, .cons _ r => congrArg (· + 1) r.len
/-- a look into a dict: its result, by the store -/
def DLook (m : Sr) (x y : D) (r : Option D) : Prop := ∃ kvs k, dicOf m x = some kvs ∧ keyD y = some k ∧ r = valD kvs k
theorem DLook.ok {K : Frg} {mg : Gm} {fr : Sr} {F H : Hp} {m : Sr} {v u : V} {x y : D} {r : Option D} (h : HR K mg fr F H m) (rx : Rp K mg F v x) (ry : Rp K mg F u y) (q : DLook m x y r) :
    ∃ a w, v = .ref a ∧ DGet H a u w ∧ IsD H a ∧ ((r = none ∧ w = none) ∨ ∃ d z, r = some d ∧ w = some z ∧ Rp K mg F z d) := by
  obtain ⟨kvs, k, e1, e2, e3⟩ := q
  obtain ⟨p, ws, rfl, h1, r1⟩ := dicOf_ok h rx e1
  have e4 := keyD_ok ry e2
  subst e4 e3
  refine ⟨p, valV ws k, rfl, DGet.k h1, .inl ⟨ws, .inl h1⟩, ?_⟩
  rcases r1.val k with ⟨h2, h3⟩ | ⟨d, z, h2, h3, h4⟩
  · exact .inl ⟨h2, h3⟩
  · exact .inr ⟨d, z, h2, h3, h4⟩
def oDget : R2D := fun x y m P => ∃ d, DLook m x y (some d) ∧ P d m
def oDin (neg : Bool) : R2D := fun y x m P => ∃ r, DLook m x y r ∧ P (.bl (if neg then !r.isSome else r.isSome)) m
theorem de_dget (hu : X.A.units + 1 < cLine) (ha : DE X K mg W a ta pa) (hb : DE X K mg W b tb pb) (hs : NoSl b := by exact fun _ _ => rfl) : DE X K mg W (.Subscript a b pos) (tDGet ta tb) (dOp oDget pa pb) := ⟨pe_dget hu ha.p hb.p hs, fun {fr F H m σ ρ P Ξ Q} R h k kx =>
  ha.l R h (fun v x F1 H1 m1 e1 h1 r1 q1 => hb.l (R.to e1 h1) q1 (fun u y F2 H2 m2 e2 h2 r2 ⟨d, q2, q3⟩ => by
    obtain ⟨p, w, e3, g, _, z⟩ := q2.ok h2 (r1.mono e2) r2
    rcases z with ⟨z, _⟩ | ⟨d', z', z1, z2, z3⟩
    · cases z
    · cases z1; subst z2
      exact ⟨p, z', e3, g, k _ _ _ _ _ (e1.trans e2) h2 z3 q3⟩) fun cls C d fs F2 H2 m2 e2 => kx cls C d fs F2 H2 m2 (e1.trans e2)) kx⟩
theorem isSome_of {K : Frg} {mg : Gm} {F : Hp} {r : Option D} {w : Option V} (z : (r = none ∧ w = none) ∨ ∃ d z, r = some d ∧ w = some z ∧ Rp K mg F z d) : w.isSome = r.isSome := by
  rcases z with ⟨z1, z2⟩ | ⟨d, z, z1, z2, _⟩ <;> rw [z1, z2] <;> rfl
theorem le_din (la : LE K mg W ta pa) (lb : LE K mg W tb pb) : LE K mg W (tDIn ta tb) (dOp (oDin false) pa pb) := fun {fr F H m σ ρ P Ξ Q} R h k kx =>
  la R h (fun v x F1 H1 m1 e1 h1 r1 q1 => lb (R.to e1 h1) q1 (fun u y F2 H2 m2 e2 h2 r2 ⟨r, q2, q3⟩ => by
    obtain ⟨p, w, e3, g, _, z⟩ := q2.ok h2 r2 (r1.mono e2)
    refine ⟨p, w, e3, g, ?_⟩
    rw [isSome_of z]
    exact k _ _ _ _ _ (e1.trans e2) h2 (.bl _) q3) fun cls C d fs F2 H2 m2 e2 => kx cls C d fs F2 H2 m2 (e1.trans e2)) kx
theorem le_dnotin (la : LE K mg W ta pa) (lb : LE K mg W tb pb) : LE K mg W (tDNotIn ta tb) (dOp (oDin true) pa pb) := fun {fr F H m σ ρ P Ξ Q} R h k kx =>
  la R h (fun v x F1 H1 m1 e1 h1 r1 q1 => lb (R.to e1 h1) q1 (fun u y F2 H2 m2 e2 h2 r2 ⟨r, q2, q3⟩ => by
    obtain ⟨p, w, e3, g, _, z⟩ := q2.ok h2 r2 (r1.mono e2)
    refine ⟨p, w, e3, g, ?_⟩
    rw [isSome_of z]
    exact k _ _ _ _ _ (e1.trans e2) h2 (.bl _) q3) fun cls C d fs F2 H2 m2 e2 => kx cls C d fs F2 H2 m2 (e1.trans e2)) kx
theorem de_din (hu : X.A.units + 1 < cLine) (ha : DE X K mg W a ta pa) (hb : DE X K mg W b tb pb) (hm : behindInMarks .In b = false := by rfl) : DE X K mg W (.Compare a [.In] [b] pos) (tDIn ta tb) (dOp (oDin false) pa pb) := ⟨pe_cmp (pc_din hu ha.p hb.p) hm, le_din ha.l hb.l⟩
theorem de_dnotin (hu : X.A.units + 1 < cLine) (ha : DE X K mg W a ta pa) (hb : DE X K mg W b tb pb) (hm : behindInMarks .NotIn b = false := by rfl) : DE X K mg W (.Compare a [.NotIn] [b] pos) (tDNotIn ta tb) (dOp (oDin true) pa pb) := ⟨pe_cmp (pc_dnotin hu ha.p hb.p) hm, le_dnotin ha.l hb.l⟩
def dGet2 (pa pb pz : DEt) : DEt := fun ρ m P Ξ => pa ρ m (fun x m1 => (∃ kvs, dicOf m1 x = some kvs) ∧ pb ρ m1 (fun y m2 => pz ρ m2 (fun z m3 => ∃ r, DLook m3 x y r ∧ P (r.getD z) m3) Ξ) Ξ) Ξ
theorem de_dget2 {apos cpos : Pos} (hu : X.A.units + 1 < cLine) (ha : DE X K mg W a ta pa) (hb : DE X K mg W b tb pb) (hz : DE X K mg W e tz pz) (mm : M2 X a "get" apos b e cpos := by exact ⟨rfl, rfl, rfl, rfl⟩) : DE X K mg W (.Call (.Attribute a "get" apos) [b, e] [] cpos) (tDGet2 ta tb tz) (dGet2 pa pb pz) := ⟨pe_dget2 hu ha.p hb.p hz.p mm, fun {fr F H m σ ρ P Ξ Q} R h k kx =>
  ha.l R h (fun v x F1 H1 m1 e1 h1 r1 ⟨⟨kvs, hk⟩, q1⟩ => by
    obtain ⟨p, ws, rfl, g1, _⟩ := dicOf_ok h1 r1 hk
    refine ⟨p, rfl, .inl ⟨ws, .inl g1⟩, ?_⟩
    refine hb.l (R.to e1 h1) q1 (fun u y F2 H2 m2 e2 h2 r2 q2 => hz.l (R.to (e1.trans e2) h2) q2 (fun uz z F3 H3 m3 e3 h3 r3 ⟨r, q3, q4⟩ => ?_) fun cls C d fs F3 H3 m3 e3 => kx cls C d fs F3 H3 m3 ((e1.trans e2).trans e3)) fun cls C d fs F2 H2 m2 e2 => kx cls C d fs F2 H2 m2 (e1.trans e2)
    obtain ⟨p', w, e4, g, _, zz⟩ := q3.ok h3 ((r1.mono e2).mono e3) (r2.mono e3)
    cases e4
    refine ⟨w, g, ?_⟩
    rcases zz with ⟨z1, z2⟩ | ⟨d, z', z1, z2, z3⟩
    · subst z1 z2
      exact k _ _ _ _ _ ((e1.trans e2).trans e3) h3 r3 q4
    · subst z1 z2
      exact k _ _ _ _ _ ((e1.trans e2).trans e3) h3 z3 q4) kx⟩
/-- {} -/
def dNewD : DEt := fun _ m P _ => ∀ p, m p = none → P (.ref p) (put m p (.dic []))
theorem de_newD : DE X K mg W (.Dict [] [] pos) tDNewK dNewD := ⟨pe_dnewK, fun R h k _ p hp => k _ _ _ _ _ (Evl.Ex.refl _) (R.h.newM (mo := .dic []) hp ⟨_, upd_same, .nil⟩) (.ref p) (h p (R.h.freeM hp))⟩
end
end DL
namespace DL
open PySem PySem.Spec PyProof.Rows L2

/-! ### statements -/
structure Ed where
  nx : Rho → Sr → Prop
  rt : D → Sr → Prop
  bk : Rho → Sr → Prop := fun _ _ => False
  ct : Rho → Sr → Prop := fun _ _ => False
  xt : Str → List (Str × D) → Rho → Sr → Prop := fun _ _ _ _ => False
abbrev DSt := Ed → Rho → Sr → Prop
structure Lk (K : Frg) (mg : Gm) (fr : Sr) (W : WX) (F : Hp) (D₁ : Ed) (E : Ends) : Prop where
  nx : ∀ σ ρ F' H' m', Ex F F' → Rl K mg fr F' H' m' σ ρ → D₁.nx ρ m' → E.nx σ H'
  bk : ∀ σ ρ F' H' m', Ex F F' → Rl K mg fr F' H' m' σ ρ → D₁.bk ρ m' → E.bk σ H'
  ct : ∀ σ ρ F' H' m', Ex F F' → Rl K mg fr F' H' m' σ ρ → D₁.ct ρ m' → E.ct σ H'
  rt : ∀ v x F' H' m', Ex F F' → HR K mg fr F' H' m' → Rp K mg F' v x → D₁.rt x m' → E.rt v H'
  xt : ∀ cls C d fs σ ρ F' H' m', Ex F F' → Rl K mg fr F' H' m' σ ρ → XR K mg F' cls C d fs → D₁.xt C fs ρ m' → W cls d σ H'
def LS (K : Frg) (mg : Gm) (W : WX) (ts : TS) (ps : DSt) : Prop := ∀ {fr : Sr} {F H : Hp} {m : Sr} {σ : L2.St} {ρ : Rho} {D₁ : Ed} {E : Ends}, Rl K mg fr F H m σ ρ → ps D₁ ρ m → Lk K mg fr W F D₁ E → ts E σ H
structure DS (X : Cx) (K : Frg) (mg : Gm) (W : WX) (st : Stmt) (ts : TS) (ps : DSt) : Prop where
  p : PS X st ts
  l : LS K mg W ts ps
structure DB (X : Cx) (K : Frg) (mg : Gm) (W : WX) (st : List Stmt) (ts : TS) (ps : DSt) : Prop where
  p : PSs X st ts
  l : LS K mg W ts ps
section
variable {K : Frg} {mg : Gm} {fr : Sr} {W : WX} {F F' H H' : Hp} {m m' : Sr} {σ : L2.St} {ρ : Rho} {D₁ : Ed} {E : Ends}
theorem Lk.mono (e : Ex F F') (l : Lk K mg fr W F D₁ E) : Lk K mg fr W F' D₁ E :=
  ⟨fun σ ρ F2 H2 m2 e2 => l.nx σ ρ F2 H2 m2 (e.trans e2), fun σ ρ F2 H2 m2 e2 => l.bk σ ρ F2 H2 m2 (e.trans e2), fun σ ρ F2 H2 m2 e2 => l.ct σ ρ F2 H2 m2 (e.trans e2),
    fun v x F2 H2 m2 e2 => l.rt v x F2 H2 m2 (e.trans e2), fun cls C d fs σ ρ F2 H2 m2 e2 => l.xt cls C d fs σ ρ F2 H2 m2 (e.trans e2)⟩
theorem Lk.kx (R : Rl K mg fr F H m σ ρ) (l : Lk K mg fr W F D₁ E) : ∀ cls C d fs F' H' m', Ex F F' → HR K mg fr F' H' m' → XR K mg F' cls C d fs → D₁.xt C fs ρ m' → W cls d σ H' :=
  fun cls C d fs F' H' m' e h xr q => l.xt cls C d fs σ ρ F' H' m' e (R.to e h) xr q
end
abbrev Ed.x (D₁ : Ed) (ρ : Rho) : Xv := fun C fs m => D₁.xt C fs ρ m
def dNext : DSt := fun D₁ ρ m => D₁.nx ρ m
def dSeq (p q : DSt) : DSt := fun D₁ ρ m => p { D₁ with nx := q D₁ } ρ m
def dRet (pe : DEt) : DSt := fun D₁ ρ m => pe ρ m D₁.rt (D₁.x ρ)
def dRetN : DSt := fun D₁ _ m => D₁.rt .non m
def dDrop (pe : DEt) : DSt := fun D₁ ρ m => pe ρ m (fun _ m1 => D₁.nx ρ m1) (D₁.x ρ)
def dIfS (qc : DTt) (p q : DSt) : DSt := fun D₁ ρ m => qc ρ m (fun b m1 => if b = true then p D₁ ρ m1 else q D₁ ρ m1) (D₁.x ρ)
def dBreak : DSt := fun D₁ ρ m => D₁.bk ρ m
def dCont : DSt := fun D₁ ρ m => D₁.ct ρ m
section
variable {X : Cx} {K : Frg} {mg : Gm} {W : WX} {st : Stmt} {rest : List Stmt} {t u : TS} {p q : DSt} {e a b c : Expr} {te ta tb : TE} {tc : TT} {pe pa pb : DEt} {qc : DTt} {pos pos' : Pos}
theorem db_nil : DB X K mg W [] tNext dNext := ⟨pss_nil, fun R h k => k.nx _ _ _ _ _ (Evl.Ex.refl _) R h⟩
theorem db_cons (h1 : DS X K mg W st t p) (h2 : DB X K mg W rest u q) : DB X K mg W (st :: rest) (tSeq t u) (dSeq p q) := ⟨pss_cons h1.p h2.p, fun {fr F H m σ ρ D₁ E} R h k =>
  h1.l R h ⟨fun σ ρ F2 H2 m2 e2 R2 q2 => h2.l R2 q2 (k.mono e2), k.bk, k.ct, k.rt, k.xt⟩⟩
theorem db_one (h1 : DS X K mg W st t p) : DB X K mg W [st] t p := ⟨pss_one h1.p, h1.l⟩
theorem ds_pass : DS X K mg W (.Pass pos) tNext dNext := ⟨ps_pass, fun R h k => k.nx _ _ _ _ _ (Evl.Ex.refl _) R h⟩
theorem ds_break : DS X K mg W (.Break pos) tBreak dBreak := ⟨ps_break, fun R h k => k.bk _ _ _ _ _ (Evl.Ex.refl _) R h⟩
theorem ds_continue : DS X K mg W (.Continue pos) tCont dCont := ⟨ps_continue, fun R h k => k.ct _ _ _ _ _ (Evl.Ex.refl _) R h⟩
theorem ds_doc {x j} : DS X K mg W (.Expr (.Constant (.str x) j pos) pos') tNext dNext := ⟨ps_doc, fun R h k => k.nx _ _ _ _ _ (Evl.Ex.refl _) R h⟩
theorem ds_expr (he : DE X K mg W e te pe) (hs : swapsWith e none pos.line X.env = pure false := by rfl) : DS X K mg W (.Expr e pos) (tDrop te) (dDrop pe) := ⟨ps_expr he.p hs, fun R h k => he.l R h (fun v x F1 H1 m1 e1 h1 r1 q1 => k.nx _ _ _ _ _ e1 (R.to e1 h1) q1) (k.kx R)⟩
theorem ds_ret (he : DE X K mg W e te pe) : DS X K mg W (.Return (some e) pos) (tRet te) (dRet pe) := ⟨ps_ret he.p, fun R h k => he.l R h (fun v x F1 H1 m1 e1 h1 r1 q1 => k.rt _ _ _ _ _ e1 h1 r1 q1) (k.kx R)⟩
theorem ds_retN : DS X K mg W (.Return none pos) tRetN dRetN := ⟨ps_retN, fun R h k => k.rt _ _ _ _ _ (Evl.Ex.refl _) R.h .non h⟩
theorem ds_if {x y : List Stmt} (hc : DT X K mg W c tc qc) (ha : DB X K mg W x t p) (hb : DB X K mg W y u q) : DS X K mg W (.If c x y pos) (tIfS tc t u) (dIfS qc p q) := ⟨ps_if hc.p ha.p hb.p, fun {fr F H m σ ρ D₁ E} R h k => hc.l R h (fun b F1 H1 m1 e1 h1 q1 => by
  cases b with
  | true => exact ha.l (R.to e1 h1) q1 (k.mono e1)
  | false => exact hb.l (R.to e1 h1) q1 (k.mono e1)) (k.kx R)⟩
end

/-! ### targets -/
abbrev DGt := D → Rho → Sr → (Rho → Sr → Prop) → Prop
abbrev DGts := List D → Rho → Sr → (Rho → Sr → Prop) → Prop
/-- w: the slots that are written -/
def LG (K : Frg) (mg : Gm) (w : List Nat) (g : TG) (gd : DGt) : Prop := ∀ {fr : Sr} {F H : Hp} {m : Sr} {σ : L2.St} {ρ : Rho} {v : V} {x : D} {P : Rho → Sr → Prop} {Q : L2.St → Hp → Prop}, Rl K mg fr F H m σ ρ → Rp K mg F v x → gd x ρ m P →
  (∀ σ' ρ' F' H' m', Ex F F' → Rl K mg fr F' H' m' σ' ρ' → (∀ ss, (∀ i ∈ w, i ∈ ss) → wipe σ' ss = wipe σ ss) → P ρ' m' → Q σ' H') → g v σ H Q
def LGs (K : Frg) (mg : Gm) (w : List Nat) (g : TGs) (gd : DGts) : Prop := ∀ {fr : Sr} {F H : Hp} {m : Sr} {σ : L2.St} {ρ : Rho} {vs : List V} {xs : List D} {P : Rho → Sr → Prop} {Q : L2.St → Hp → Prop}, Rl K mg fr F H m σ ρ → RpA K mg F vs xs → gd xs ρ m P →
  (∀ σ' ρ' F' H' m', Ex F F' → Rl K mg fr F' H' m' σ' ρ' → (∀ ss, (∀ i ∈ w, i ∈ ss) → wipe σ' ss = wipe σ ss) → P ρ' m' → Q σ' H') → g vs σ H Q
structure DG (X : Cx) (K : Frg) (mg : Gm) (w : List Nat) (tg : Expr) (g : TG) (gd : DGt) : Prop where
  p : PG X tg g
  l : LG K mg w g gd
structure DGs (X : Cx) (K : Frg) (mg : Gm) (w : List Nat) (tg : List Expr) (g : TGs) (gd : DGts) : Prop where
  p : PGs X tg g
  l : LGs K mg w g gd
theorem wipe_get (σ : L2.St) (k : Nat) : ∀ vs : List Nat, (wipe σ vs)[k]? = if k ∈ vs then (σ[k]?).map (fun _ => none) else σ[k]?
  | [] => by rw [if_neg List.not_mem_nil]; rfl
  | v :: vs => by
    show ((wipe σ vs).set v none)[k]? = _
    have ih := wipe_get σ k vs
    by_cases hk : v = k
    · subst hk
      rw [if_pos List.mem_cons_self, List.getElem?_set]
      rw [if_pos rfl, wipe_length]
      by_cases hl : v < σ.length
      · rw [if_pos hl, List.getElem?_eq_getElem hl]; rfl
      · rw [if_neg hl, List.getElem?_eq_none (by omega)]; rfl
    · rw [List.getElem?_set_ne hk, ih]
      by_cases hm : k ∈ vs
      · rw [if_pos hm, if_pos (List.mem_cons_of_mem _ hm)]
      · rw [if_neg hm, if_neg fun z => (List.mem_cons.mp z).elim (fun z => hk z.symm) hm]
theorem wipe_set {σ : L2.St} {i : Nat} {x : Option V} {ss : List Nat} (h : i ∈ ss) : wipe (σ.set i x) ss = wipe σ ss := by
  apply List.ext_getElem?
  intro k
  rw [wipe_get, wipe_get]
  by_cases hk : k ∈ ss
  · rw [if_pos hk, if_pos hk]
    by_cases e : i = k
    · subst e
      rw [List.getElem?_set, if_pos rfl]
      by_cases hl : i < σ.length
      · rw [if_pos hl, List.getElem?_eq_getElem hl]; rfl
      · rw [if_neg hl, List.getElem?_eq_none (by omega)]
    · rw [List.getElem?_set_ne e]
  · rw [if_neg hk, if_neg hk, List.getElem?_set_ne]
    intro e
    subst e
    exact hk h
theorem wipe_wipe (σ : L2.St) (ss : List Nat) : wipe (wipe σ ss) ss = wipe σ ss := by
  apply List.ext_getElem?
  intro k
  rw [wipe_get, wipe_get]
  by_cases hk : k ∈ ss
  · rw [if_pos hk, if_pos hk]
    cases σ[k]? <;> rfl
  · rw [if_neg hk, if_neg hk]
def wipeR (ρ : Rho) : List Nat → Rho
  | [] => ρ
  | v :: vs => (wipeR ρ vs).set v none
theorem RpE.wipe {K : Frg} {mg : Gm} {F : Hp} {σ : L2.St} {ρ : Rho} (r : RpE K mg F σ ρ) : ∀ vs : List Nat, RpE K mg F (L2.wipe σ vs) (wipeR ρ vs)
  | [] => r
  | v :: vs => RpE.set none none trivial v (RpE.wipe r vs)

def gdName (i : Nat) : DGt := fun x ρ m P => P (ρ.set i (some x)) m
def gdNil : DGts := fun xs ρ m P => xs = [] ∧ P ρ m
def gdCons (g : DGt) (r : DGts) : DGts := fun xs ρ m P => ∃ y ys, xs = y :: ys ∧ g y ρ m fun ρ1 m1 => r ys ρ1 m1 P
def gdTup (n : Nat) (g : DGts) : DGt := fun x ρ m P => ∃ ds, tupOf x = some ds ∧ ds.length = n ∧ g ds ρ m P
section
variable {X : Cx} {K : Frg} {mg : Gm} {W : WX} {e : Expr} {es : List Expr} {pos pos' : Pos} {i n : Nat} {w w' : List Nat} {g : TG} {gd : DGt} {gs : TGs} {gds : DGts}
theorem Rl.set {K : Frg} {mg : Gm} {fr : Sr} {F H : Hp} {m : Sr} {σ : L2.St} {ρ : Rho} {v : V} {x : D} (R : Rl K mg fr F H m σ ρ) (r : Rp K mg F v x) (i : Nat) : Rl K mg fr F H m (σ.set i (some v)) (ρ.set i (some x)) := ⟨R.h, RpE.set (some v) (some x) ⟨v, rfl, r⟩ i R.e⟩
theorem lg_name {K : Frg} {mg : Gm} {i : Nat} : LG K mg [i] (gName i) (gdName i) := fun R r q k => k _ _ _ _ _ (Evl.Ex.refl _) (R.set r i) (fun ss h => wipe_set (h i List.mem_cons_self)) q
theorem dg_name {x : Str} (hN : X.N.Nodup) (hi : X.N[i]? = some x := by rfl) (hx : Loc X.env.scope x := by first | exact Or.inl rfl | exact Or.inr rfl) (hf : X.fn x = true ∨ X.env.scope.names.lookup x = some .local := by first | exact .inl rfl | exact .inr rfl | assumption) : DG X K mg [i] (.Name x pos) (gName i) (gdName i) := ⟨pg_name hN hi hx hf, lg_name⟩
theorem dgs_nil : DGs X K mg [] [] gNil gdNil := ⟨pgs_nil, fun R r q k => by
  obtain ⟨e, q⟩ := q
  subst e; cases r
  exact ⟨rfl, k _ _ _ _ _ (Evl.Ex.refl _) R (fun _ _ => rfl) q⟩⟩
theorem dgs_cons (h1 : DG X K mg w e g gd) (h2 : DGs X K mg w' es gs gds) (hs : (assignEach (e :: es) X.env).map (·.2) = assign e X.env :: (assignEach es X.env).map (·.2) := by rfl) : DGs X K mg (w ++ w') (e :: es) (gCons g gs) (gdCons gd gds) := ⟨pgs_cons h1.p h2.p hs, fun {fr F H m σ ρ vs xs P Q} R r q k => by
  obtain ⟨y, ys, e, q⟩ := q
  subst e
  cases r with
  | cons r rr =>
    exact ⟨_, _, rfl, h1.l R r q fun σ1 ρ1 F1 H1 m1 e1 R1 w1 q1 => h2.l R1 (rr.mono e1) q1 fun σ2 ρ2 F2 H2 m2 e2 R2 w2 q2 => k σ2 ρ2 F2 H2 m2 (e1.trans e2) R2 (fun ss hs => (w2 ss fun i hi => hs i (List.mem_append_right _ hi)).trans (w1 ss fun i hi => hs i (List.mem_append_left _ hi))) q2⟩⟩
theorem dg_tup {k : Nat} (hc : X.calm = true) (h : DGs X K mg w es gs gds) (hn : (assignEach es X.env).length = n := by rfl) (hst : (assignEach es X.env).findIdx? (·.1) = none := by rfl) (hK : X.K = K := by rfl) : DG X K mg w (.Tuple es k pos) (gTup K n gs) (gdTup n gds) := ⟨hK ▸ pg_tup hc h.p hn hst, fun {fr F H m σ ρ v x P Q} R r q kk => by
  obtain ⟨ds, e, hl, q⟩ := q
  obtain ⟨a, xs, rfl, hT, rr⟩ := tupOf_ok R.h r e
  exact ⟨a, xs, rfl, hT, rr.len.trans hl, h.l R rr q kk⟩⟩
end

/-! ### assignments -/
def dAsg (pe : DEt) (g : DGt) : DSt := fun D₁ ρ m => pe ρ m (fun x m1 => g x ρ m1 D₁.nx) (D₁.x ρ)
section
variable {X : Cx} {K : Frg} {mg : Gm} {W : WX} {e a b tg : Expr} {te ta tb : TE} {pe pa pb : DEt} {pos pos' p2 : Pos} {i : Nat} {w : List Nat} {g : TG} {gd : DGt}
theorem ls_asg {K : Frg} {mg : Gm} (le : LE K mg W te pe) (lg : LG K mg w g gd) : LS K mg W (tAsg te g) (dAsg pe gd) := fun R h k => le R h (fun v x F1 H1 m1 e1 h1 r1 q1 => lg (R.to e1 h1) r1 q1 fun σ2 ρ2 F2 H2 m2 e2 R2 _ q2 => k.nx _ _ _ _ _ (e1.trans e2) R2 q2) (k.kx R)
theorem ds_set (i : Nat) {x : Str} (hN : X.N.Nodup) (he : DE X K mg W e te pe) (hi : X.N[i]? = some x := by rfl) (hx : Loc X.env.scope x := by first | exact Or.inl rfl | exact Or.inr rfl) (hs : swapsWith e (some (.Name x pos')) pos.line X.env = pure false := by rfl) (hf : X.fn x = true ∨ X.env.scope.names.lookup x = some .local := by first | exact .inl rfl | exact .inr rfl | assumption) :
    DS X K mg W (.Assign [.Name x pos'] e pos) (tAsg te (gName i)) (dAsg pe (gdName i)) := ⟨ps_set hN hi hx he.p hs hf, ls_asg he.l lg_name⟩
theorem ds_asg (he : DE X K mg W e te pe) (hg : DG X K mg w tg g gd) (hs : swapsWithSole [tg] e pos.line X.env = pure false := by rfl) (hw : swappedStores [tg] e X.env = pure none := by rfl)
    (h1 : (assignEach [tg] X.env).map (·.2) = [assign tg X.env] := by rfl) : DS X K mg W (.Assign [tg] e pos) (tAsg te g) (dAsg pe gd) := ⟨ps_asg he.p hg.p hs hw h1, ls_asg he.l hg.l⟩
/-- xs[i] = e -/
def dSetL (pe pa pb : DEt) : DSt := fun D₁ ρ m => pe ρ m (fun v m1 => pa ρ m1 (fun o m2 => pb ρ m2 (fun y m3 => ∃ p ds k j, o = .ref p ∧ m3 p = some (.lst ds) ∧ y = .int k ∧ ixN ds.length k = some j ∧ D₁.nx ρ (put m3 p (.lst (ds.set j v)))) (D₁.x ρ)) (D₁.x ρ)) (D₁.x ρ)
theorem ds_setL (he : DE X K mg W e te pe) (ha : DE X K mg W a ta pa) (hb : DE X K mg W b tb pb) (hv : ∀ v, assign (.Subscript a b p2) X.env v = (do
      let ov ← holding [v] (eval a X.env)
      let iv ← holding [v, ov] (eval b X.env)
      standAt p2
      holding [v, ov, iv] (setItem ov iv v)
      release [v, ov, iv] []) := by intro _; rfl) (hs : swapsWithSole [.Subscript a b p2] e pos.line X.env = pure false := by rfl) (hw : swappedStores [.Subscript a b p2] e X.env = pure none := by rfl)
    (h1 : (assignEach [.Subscript a b p2] X.env).map (·.2) = [assign (.Subscript a b p2) X.env] := by rfl) :
    DS X K mg W (.Assign [.Subscript a b p2] e pos) (tAsg te (gSub ta tb rSetL)) (dSetL pe pa pb) := ⟨ps_asg he.p (pg_sub ha.p hb.p set_list hv) hs hw h1, fun {fr F H m σ ρ D₁ E} R h k =>
  he.l R h (fun v x F1 H1 m1 e1 h1 r1 q1 => ha.l (R.to e1 h1) q1 (fun o y F2 H2 m2 e2 h2 r2 q2 => hb.l (R.to (e1.trans e2) h2) q2 (fun ii z F3 H3 m3 e3 h3 r3 ⟨p, ds, kk, j, ey, hm, ez, hj, q⟩ => by
    subst ey ez; cases r2; cases r3
    obtain ⟨_, xs, hH, rA⟩ := h3.st p _ hm
    refine ⟨p, xs, kk, j, rfl, rfl, hH, by rw [rA.len]; exact hj, ?_⟩
    exact k.nx _ _ _ _ _ ((e1.trans e2).trans e3) (R.to ((e1.trans e2).trans e3) (h3.chg (mo := .lst (ds.set j x)) hm ⟨_, upd_same, rA.set ((r1.mono e2).mono e3) j⟩)) q)
    fun cls C d fs F3 H3 m3 e3 h3 xr q => k.xt cls C d fs _ _ F3 H3 m3 ((e1.trans e2).trans e3) (R.to ((e1.trans e2).trans e3) h3) xr q) fun cls C d fs F3 H3 m3 e3 h3 xr q => k.xt cls C d fs _ _ F3 H3 m3 (e1.trans e3) (R.to (e1.trans e3) h3) xr q) (k.kx R)⟩
/-- d[k] = e -/
def dPutD (pe pa pb : DEt) : DSt := fun D₁ ρ m => pe ρ m (fun v m1 => pa ρ m1 (fun o m2 => pb ρ m2 (fun y m3 => ∃ p kvs k, o = .ref p ∧ m3 p = some (.dic kvs) ∧ keyD y = some k ∧ kvs.length < sizeLine ∧ D₁.nx ρ (put m3 p (.dic (putD kvs k v)))) (D₁.x ρ)) (D₁.x ρ)) (D₁.x ρ)
theorem ds_putD (hu : X.A.units + 1 < cLine) (he : DE X K mg W e te pe) (ha : DE X K mg W a ta pa) (hb : DE X K mg W b tb pb) (hs : swapsWith e (some (.Subscript a b p2)) pos.line X.env = pure false := by rfl) :
    DS X K mg W (.Assign [.Subscript a b p2] e pos) (sDPut ta tb te) (dPutD pe pa pb) := ⟨ps_dput hu ha.p hb.p he.p hs, fun {fr F H m σ ρ D₁ E} R h k =>
  he.l R h (fun v x F1 H1 m1 e1 h1 r1 q1 => ha.l (R.to e1 h1) q1 (fun o y F2 H2 m2 e2 h2 r2 q2 => hb.l (R.to (e1.trans e2) h2) q2 (fun ii z F3 H3 m3 e3 h3 r3 ⟨p, kvs, kk, ey, hm, ez, hl, q⟩ => by
    subst ey; cases r2
    obtain ⟨_, ws, hH, rA⟩ := h3.st p _ hm
    have ek := keyD_ok r3 ez
    subst ek
    refine ⟨p, _, rfl, DPut.k (k := kk) hH (by rw [rA.len]; exact hl), ?_⟩
    exact k.nx _ _ _ _ _ ((e1.trans e2).trans e3) (R.to ((e1.trans e2).trans e3) (h3.chg (mo := .dic (putD kvs kk x)) hm ⟨_, upd_same, rA.put ((r1.mono e2).mono e3) kk⟩)) q)
    fun cls C d fs F3 H3 m3 e3 h3 xr q => k.xt cls C d fs _ _ F3 H3 m3 ((e1.trans e2).trans e3) (R.to ((e1.trans e2).trans e3) h3) xr q) fun cls C d fs F3 H3 m3 e3 h3 xr q => k.xt cls C d fs _ _ F3 H3 m3 (e1.trans e3) (R.to (e1.trans e3) h3) xr q) (k.kx R)⟩
/-- x op= e -/
def dAug (i : Nat) (rd : R2D) (pe : DEt) : DSt := fun D₁ ρ m => ∃ x, nth ρ i = some x ∧ pe ρ m (fun y m1 => rd x y m1 (fun z m2 => D₁.nx (ρ.set i (some z)) m2)) (D₁.x ρ)
theorem ds_aug (i : Nat) {x : Str} {op : Operator} {ti : TIp} {rd : R2D} (hN : X.N.Nodup) (ho : PIp X op ti) (l : LR2 K mg ti rd) (he : DE X K mg W e te pe) (hi : X.N[i]? = some x := by rfl) (hx : Loc X.env.scope x := by first | exact Or.inl rfl | exact Or.inr rfl) (hf : X.fn x = true ∨ X.env.scope.names.lookup x = some .local := by first | exact .inl rfl | exact .inr rfl | assumption) :
    DS X K mg W (.AugAssign (.Name x pos') op e pos) (tAug i te ti) (dAug i rd pe) := ⟨ps_aug hN hi hx he.p ho hf, fun {fr F H m σ ρ D₁ E} R h k => by
  obtain ⟨d, hd, q⟩ := h
  obtain ⟨v, hv, hr⟩ := RpE.nth R.e hd
  exact ⟨v, hv, he.l R q (fun u y F1 H1 m1 e1 h1 r1 q1 => l h1 (hr.mono e1) r1 q1 fun w z F2 H2 m2 e2 h2 r2 q2 => k.nx _ _ _ _ _ (e1.trans e2) ((R.to (e1.trans e2) h2).set r2 i) q2) (k.kx R)⟩⟩
theorem lr_ipI {K : Frg} {mg : Gm} {f : Int → Int → Int} : LR2 K mg (ipI f) (oI0 fun i j => .int (f i j)) := fun hr rx ry ⟨i, j, e1, e2, q⟩ k => by
  subst e1 e2; cases rx; cases ry
  exact ⟨i, j, rfl, rfl, k _ _ _ _ _ (Evl.Ex.refl _) hr (.int _) q⟩
end

/-! ### what is walked -/
/-- the iterator J yields the things xs, whatever else is done; fx: what of the store must stay -/
structure ItOk (K : Frg) (mg : Gm) (fr : Sr) (F : Hp) (J : It) (xs : List D) : Prop where
  go : ∀ {F' H : Hp} {m : Sr} {i : Nat}, Ex F F' → HR K mg fr F' H m → i < xs.length → J.go i H
  yl : ∀ {F' H : Hp} {m : Sr} {i : Nat} {v : V} {H' : Hp}, Ex F F' → HR K mg fr F' H m → i < xs.length → J.yld i H v H' → ∃ d F2, xs[i]? = some d ∧ Ex F' F2 ∧ HR K mg fr F2 H' m ∧ Rp K mg F2 v d
  st : ∀ {F' H : Hp} {m : Sr} {i : Nat}, Ex F F' → HR K mg fr F' H m → i = xs.length → J.stop i H
abbrev DIt := Rho → Sr → (List D → Sr → Prop) → Xv → Prop
def LI (K : Frg) (mg : Gm) (W : WX) (wi : TI) (pi : DIt) : Prop := ∀ {fr : Sr} {F H : Hp} {m : Sr} {σ : L2.St} {ρ : Rho} {P : List D → Sr → Prop} {Ξ : Xv} {R₁ : It → Hp → Prop}, Rl K mg fr F H m σ ρ → pi ρ m P Ξ →
  (∀ J xs F' H' m', Ex F F' → HR K mg fr F' H' m' → (∀ fr2, ItOk K mg fr2 F' J xs) → P xs m' → R₁ J H') →
  (∀ cls C d fs F' H' m', Ex F F' → HR K mg fr F' H' m' → XR K mg F' cls C d fs → Ξ C fs m' → W cls d σ H') → wi σ H R₁
structure DI (X : Cx) (K : Frg) (mg : Gm) (W : WX) (tg it : Expr) (wi : TI) (pi : DIt) : Prop where
  p : PI X tg it wi
  l : LI K mg W wi pi
theorem RpA.in {K : Frg} {mg : Gm} {F : Hp} : ∀ {vs : List V} {ds : List D} {i : Nat} {v : V}, RpA K mg F vs ds → vs[i]? = some v → ∃ d, ds[i]? = some d ∧ Rp K mg F v d
  | _, _, _, _, .nil, h => by simp at h
  | _, _, 0, _, .cons h r, e => by simp at e; subst e; exact ⟨_, rfl, h⟩
  | _, _, i + 1, v, .cons h r, e => by
    obtain ⟨d, h1, h2⟩ := RpA.in (i := i) (v := v) r (by simpa using e)
    exact ⟨d, by simpa using h1, h2⟩
theorem get_lt {xs : List V} {i : Nat} (h : i < xs.length) : ∃ x, xs[i]? = some x := ⟨_, List.getElem?_eq_getElem h⟩
/-- frozen lists alone -/
def frzL : D → Option (List D)
  | .lst ds => some ds
  | .scr ds => some ds
  | _ => none
theorem frzL_ok {K : Frg} {mg : Gm} {F : Hp} {v : V} {x : D} {ds : List D} (r : Rp K mg F v x) (e : frzL x = some ds) : ∃ p xs, v = .ref p ∧ SqL K F p xs ∧ RpA K mg F xs ds := by
  cases r with
  | lst ha hr => cases e; exact ⟨_, _, rfl, Evl.sq_of ha, hr⟩
  | scr ha hr => cases e; exact ⟨_, _, rfl, ha, hr⟩
  | _ => cases e
/-- a frozen list or a tuple -/
def frzS (x : D) : Option (List D) := (frzL x).or (tupOf x)
def diL (pe : DEt) : DIt := fun ρ m P Ξ => pe ρ m (fun x m1 => ∃ ds, frzS x = some ds ∧ P ds m1) Ξ
def diT (pe : DEt) : DIt := fun ρ m P Ξ => pe ρ m (fun x m1 => ∃ ds, tupOf x = some ds ∧ P ds m1) Ξ
def diR1 (qa : DAt) : DIt := fun ρ m P Ξ => qa ρ m (fun xs m1 => ∃ j : Int, xs = [.int j] ∧ -(2 ^ 62) ≤ j ∧ j < 2 ^ 62 ∧ P ((List.range j.toNat).map fun (k : Nat) => D.int (k : Int)) m1) Ξ
def diR2 (qa : DAt) : DIt := fun ρ m P Ξ => qa ρ m (fun xs m1 => ∃ i j : Int, xs = [.int i, .int j] ∧ (-(2 ^ 62) ≤ i ∧ i < 2 ^ 62 ∧ -(2 ^ 62) ≤ j ∧ j < 2 ^ 62) ∧ P ((List.range (j - i).toNat).map fun (k : Nat) => D.int (i + (k : Int))) m1) Ξ
def numbered (n : Nat) : List D → List D
  | [] => []
  | d :: r => .tup [.int (n : Int), d] :: numbered (n + 1) r
def diE (qa : DAt) : DIt := fun ρ m P Ξ => qa ρ m (fun xs m1 => ∃ x ds, xs = [x] ∧ frzS x = some ds ∧ P (numbered 0 ds) m1) Ξ
def diZ (qa : DAt) : DIt := fun ρ m P Ξ => qa ρ m (fun xs m1 => ∃ x y ds es, xs = [x, y] ∧ frzS x = some ds ∧ frzS y = some es ∧ P (List.zipWith (fun a b => D.tup [a, b]) ds es) m1) Ξ
def diS (pe : DEt) : DIt := fun ρ m P Ξ => pe ρ m (fun x m1 => ∃ s, x = .str s ∧ P (s.cps.toList.map fun c => D.str ⟨#[c]⟩) m1) Ξ
theorem numbered_len : ∀ (n : Nat) (ds : List D), (numbered n ds).length = ds.length
  | _, [] => rfl
  | n, _ :: r => congrArg (· + 1) (numbered_len (n + 1) r)
theorem numbered_get : ∀ (n : Nat) (ds : List D) (i : Nat), (numbered n ds)[i]? = (ds[i]?).map fun d => D.tup [.int ((n + i : Nat) : Int), d]
  | _, [], i => by simp [numbered]
  | n, d :: r, 0 => by simp [numbered]
  | n, d :: r, i + 1 => by
    have h := numbered_get (n + 1) r i
    simp only [numbered, List.getElem?_cons_succ]
    rw [h, Nat.add_assoc, Nat.add_comm 1 i]
section
variable {X : Cx} {K : Frg} {mg : Gm} {W : WX} {tg e : Expr} {te : TE} {pe : DEt} {ta : TA} {qa : DAt} {p pos : Pos}
theorem itl_ok {K : Frg} {mg : Gm} {fr : Sr} {F : Hp} {a : Addr} {vs : List V} {ds : List D} (h : SqL K F a vs) (r : RpA K mg F vs ds) : ItOk K mg fr F (Itl K a) ds where
  go := fun e hr hi => by
    obtain ⟨x, hx⟩ := get_lt (show _ < vs.length by rw [r.len]; exact hi)
    exact ⟨vs, x, Evl.ex_l (e.trans hr.ex) h, hx⟩
  yl := fun {F' H m i v H'} e hr _ ⟨e1, hy⟩ => by
    subst e1
    obtain ⟨d, h1, h2⟩ := r.in (hy vs (Evl.ex_l (e.trans hr.ex) h))
    exact ⟨d, F', h1, Evl.Ex.refl _, hr, h2.mono e⟩
  st := fun e hr hi => ⟨vs, Evl.ex_l (e.trans hr.ex) h, by rw [r.len]; exact Nat.le_of_eq hi.symm⟩
theorem itt_ok {K : Frg} {mg : Gm} {fr : Sr} {F : Hp} {a : Addr} {vs : List V} {ds : List D} (h : SqT K F a vs) (r : RpA K mg F vs ds) : ItOk K mg fr F (Itt K a) ds where
  go := fun e hr hi => by
    obtain ⟨x, hx⟩ := get_lt (show _ < vs.length by rw [r.len]; exact hi)
    exact ⟨vs, x, Evl.ex_t (e.trans hr.ex) h, hx⟩
  yl := fun {F' H m i v H'} e hr _ ⟨e1, hy⟩ => by
    subst e1
    obtain ⟨d, h1, h2⟩ := r.in (hy vs (Evl.ex_t (e.trans hr.ex) h))
    exact ⟨d, F', h1, Evl.Ex.refl _, hr, h2.mono e⟩
  st := fun e hr hi => ⟨vs, Evl.ex_t (e.trans hr.ex) h, by rw [r.len]; exact Nat.le_of_eq hi.symm⟩
theorem di_tup (he : DE X K mg W e te pe) (hK : X.K = K := by rfl) : DI X K mg W tg e (iTup K te) (diT pe) := ⟨hK ▸ pi_tup he.p, fun R h k kx => he.l R h (fun v x F1 H1 m1 e1 h1 r1 ⟨ds, ed, q⟩ => by
  cases r1 with
  | tup ha hr => cases ed; exact ⟨_, rfl, ⟨_, Evl.ex_t h1.ex (Evl.st_of ha)⟩, k _ _ _ _ _ e1 h1 (fun _ => itt_ok (Evl.st_of ha) hr) q⟩
  | wtp ha hr => cases ed; exact ⟨_, rfl, ⟨_, Evl.ex_t h1.ex ha⟩, k _ _ _ _ _ e1 h1 (fun _ => itt_ok ha hr) q⟩
  | _ => cases ed) kx⟩
theorem itr_ok {K : Frg} {mg : Gm} {fr : Sr} {F : Hp} {lo : Int} {n : Nat} : ItOk K mg fr F (Itr lo n) ((List.range n).map fun (k : Nat) => D.int (lo + (k : Int))) where
  go := fun {F' H m i} _ _ hi => by
    rw [List.length_map, List.length_range] at hi
    exact hi
  yl := fun {F' H m i v H'} e hr hi hy => by
    rw [List.length_map, List.length_range] at hi
    obtain ⟨e1, e2⟩ := hy
    subst e1 e2
    exact ⟨.int (lo + i), F', by rw [List.getElem?_map, List.getElem?_range hi]; rfl, Evl.Ex.refl _, hr, .int _⟩
  st := fun {F' H m i} _ _ hi => by
    rw [List.length_map, List.length_range] at hi
    exact Nat.le_of_eq hi.symm
theorem itr_ok0 {K : Frg} {mg : Gm} {fr : Sr} {F : Hp} {n : Nat} : ItOk K mg fr F (Itr 0 n) ((List.range n).map fun (k : Nat) => D.int (k : Int)) := by
  have h := itr_ok (K := K) (mg := mg) (fr := fr) (F := F) (lo := 0) (n := n)
  have e : (fun (k : Nat) => D.int (0 + (k : Int))) = fun (k : Nat) => D.int (k : Int) := by
    funext k
    rw [Int.zero_add]
  rw [e] at h
  exact h
theorem di_range1 {a : Expr} (ha : DA X K mg W [a] ta qa) (hm : X.mg "range" = none) (hg : Gl X "range" := by rfl) (hs : starEach [a] X.env = [(false, eval a X.env)] := by rfl) : DI X K mg W tg (.Call (.Name "range" p) [a] [] pos) (iRng1 ta) (diR1 qa) := ⟨pi_range1 hg hm ha.p hs, fun R h k kx => ha.l R h (fun vs xs F1 H1 m1 e1 h1 r1 ⟨j, ex, b1, b2, q⟩ => by
  subst ex
  cases r1 with
  | cons r rr =>
    cases r; cases rr
    exact ⟨j, rfl, b1, b2, k _ _ _ _ _ e1 h1 (fun _ => itr_ok0) q⟩) kx⟩
theorem di_range2 {a b : Expr} (ha : DA X K mg W [a, b] ta qa) (hm : X.mg "range" = none) (hg : Gl X "range" := by rfl) (hs : starEach [a, b] X.env = [(false, eval a X.env), (false, eval b X.env)] := by rfl) (hs2 : starEach [b] X.env = [(false, eval b X.env)] := by rfl) : DI X K mg W tg (.Call (.Name "range" p) [a, b] [] pos) (iRng2 ta) (diR2 qa) := ⟨pi_range2 hg hm ha.p hs hs2, fun R h k kx => ha.l R h (fun vs xs F1 H1 m1 e1 h1 r1 ⟨i, j, ex, b1, q⟩ => by
  subst ex
  cases r1 with
  | cons r rr =>
    cases rr with
    | cons r' rr =>
      cases r; cases r'; cases rr
      exact ⟨i, j, rfl, b1, k _ _ _ _ _ e1 h1 (fun _ => itr_ok) q⟩) kx⟩
theorem its_ok {K : Frg} {mg : Gm} {fr : Sr} {F : Hp} {s : Str} : ItOk K mg fr F (Its s) (s.cps.toList.map fun c => D.str ⟨#[c]⟩) where
  go := fun {F' H m i} _ _ hi => by
    rw [List.length_map, Array.length_toList] at hi
    exact hi
  yl := fun {F' H m i v H'} e hr hi hy => by
    obtain ⟨e1, c, hc, e2⟩ := hy
    subst e1 e2
    exact ⟨.str ⟨#[c]⟩, F', by rw [List.getElem?_map, Array.getElem?_toList, hc]; rfl, Evl.Ex.refl _, hr, .str _⟩
  st := fun {F' H m i} _ _ hi => by
    rw [List.length_map, Array.length_toList] at hi
    exact Nat.le_of_eq hi.symm
theorem di_str (he : DE X K mg W e te pe) : DI X K mg W tg e (iStr te) (diS pe) := ⟨pi_str he.p, fun R h k kx => he.l R h (fun v x F1 H1 m1 e1 h1 r1 ⟨s, ed, q⟩ => by
  subst ed; cases r1
  exact ⟨s, rfl, k _ _ _ _ _ e1 h1 (fun _ => its_ok) q⟩) kx⟩
end

/-! ### for -/
def dForL (g : DGt) (p : DSt) : List D → DSt
  | [], D₁, ρ, m => D₁.nx ρ m
  | x :: r, D₁, ρ, m => g x ρ m (fun ρ1 m1 => p { D₁ with nx := fun ρ2 m2 => dForL g p r D₁ ρ2 m2, ct := fun ρ2 m2 => dForL g p r D₁ ρ2 m2, bk := D₁.nx } ρ1 m1)
def dFor (pi : DIt) (g : DGt) (p : DSt) : DSt := fun D₁ ρ m => pi ρ m (fun xs m1 => dForL g p xs D₁ ρ m1) (D₁.x ρ)
section
variable {X : Cx} {K : Frg} {mg : Gm} {W : WX} {tg it : Expr} {body : List Stmt} {wi : TI} {pi : DIt} {w : List Nat} {g : TG} {gd : DGt} {tb : TS} {p : DSt} {pos : Pos}
theorem ls_for {K : Frg} {mg : Gm} (li : LI K mg W wi pi) (lg : LG K mg w g gd) (lb : LS K mg W tb p) : LS K mg W (tFor wi g tb) (dFor pi gd p) := fun {fr F H m σ ρ D₁ E} R h k =>
  li R h (fun J xs F1 H1 m1 e1 h1 ok q1 => by
    refine ⟨fun i n σ' H' => (n = xs.length - i ∧ i ≤ xs.length) ∧ ∃ F' m' ρ', Ex F1 F' ∧ Rl K mg fr F' H' m' σ' ρ' ∧ dForL gd p (xs.drop i) D₁ ρ' m', ⟨xs.length, ⟨by omega, Nat.zero_le _⟩, F1, m1, ρ, Evl.Ex.refl _, R.to e1 h1, q1⟩, ?_⟩
    rintro i n σ' H' ⟨⟨rfl, hle⟩, F', m', ρ', e2, R2, q2⟩
    by_cases hi : i < xs.length
    · refine .inr ⟨(ok fr).go e2 R2.h hi, fun σ3 H3 => ∃ F3 m3 ρ3, Ex F1 F3 ∧ Rl K mg fr F3 H3 m3 σ3 ρ3 ∧ dForL gd p (xs.drop (i + 1)) D₁ ρ3 m3, fun σ3 H3 ⟨F3, m3, ρ3, e3, R3, q3⟩ => ⟨xs.length - (i + 1), by omega, ⟨rfl, hi⟩, F3, m3, ρ3, e3, R3, q3⟩, fun x H3 hy => ?_⟩
      obtain ⟨d, F3, hd, e3, h3, r3⟩ := (ok fr).yl e2 R2.h hi hy
      rw [List.drop_eq_getElem_cons hi] at q2
      have hd' : xs[i] = d := Option.some.inj ((List.getElem?_eq_getElem hi).symm.trans hd)
      rw [hd'] at q2
      refine lg (R2.to e3 h3) r3 q2 fun σ4 ρ4 F4 H4 m4 e4 R4 _ q4 => ?_
      have k4 : Ex F F4 := ((e1.trans e2).trans e3).trans e4
      exact lb R4 q4 ⟨fun σ ρ F5 H5 m5 e5 R5 q5 => ⟨F5, m5, ρ, ((e2.trans e3).trans e4).trans e5, R5, q5⟩, fun σ ρ F5 H5 m5 e5 R5 q5 => k.nx σ ρ F5 H5 m5 (k4.trans e5) R5 q5,
        fun σ ρ F5 H5 m5 e5 R5 q5 => ⟨F5, m5, ρ, ((e2.trans e3).trans e4).trans e5, R5, q5⟩, fun v x F5 H5 m5 e5 => k.rt v x F5 H5 m5 (k4.trans e5), fun cls C d fs σ ρ F5 H5 m5 e5 => k.xt cls C d fs σ ρ F5 H5 m5 (k4.trans e5)⟩
    · refine .inl ⟨(ok fr).st e2 R2.h (by omega), ?_⟩
      rw [List.drop_eq_nil_of_le (by omega)] at q2
      exact k.nx _ _ _ _ _ (e1.trans e2) R2 q2) (k.kx R)
theorem ds_for (hp : PassesOwn (model X.prog X.w) X.A X.env X.xe) (hi : DI X K mg W tg it wi pi) (hg : DG X K mg w tg g gd) (hb : DB X K mg W body tb p) (hc : X.calm = true := by rfl) (hs : ∀ x, foldedSetIterable it X.env x = pure x := by intro _; rfl) : DS X K mg W (.For tg it body [] pos) (tFor wi g tb) (dFor pi gd p) :=
  ⟨ps_for hp hc hi.p hg.p hb.p hs, ls_for hi.l hg.l hb.l⟩
end

/-! ### list comprehensions -/
def dYes : DTt := fun _ m P _ => P true m
structure DTs (X : Cx) (K : Frg) (mg : Gm) (W : WX) (es : List Expr) (tt : TT) (qt : DTt) : Prop where
  p : PTs X es tt
  l : LT K mg W tt qt
abbrev W0 : WX := fun _ _ _ _ => False
abbrev X0 : Xv := fun _ _ _ => False
def dLcGo (g : DGt) (qt : DTt) (pe : DEt) (ρw : Rho) (k : List D → Sr → Prop) : List D → List D → Sr → Prop
  | [], acc, m => k acc m
  | x :: r, acc, m => g x ρw m fun ρ1 m1 => qt ρ1 m1 (fun b m2 => if b = true then pe ρ1 m2 (fun y m3 => acc.length < sizeLine ∧ dLcGo g qt pe ρw k r (acc ++ [y]) m3) X0 else dLcGo g qt pe ρw k r acc m2) X0
/-- frozen | changing -/
def dLc (pi : DIt) (g : DGt) (qt : DTt) (pe : DEt) (vs : List Nat) : DEt := fun ρ m P Ξ => pi ρ m (fun xs m1 => dLcGo g qt pe (wipeR ρ vs) (fun acc m2 => P (.lst acc) m2) xs [] m1) Ξ
def dLcM (pi : DIt) (g : DGt) (qt : DTt) (pe : DEt) (vs : List Nat) : DEt := fun ρ m P Ξ => pi ρ m (fun xs m1 => dLcGo g qt pe (wipeR ρ vs) (fun acc m2 => ∀ p, m2 p = none → P (.ref p) (put m2 p (.lst acc))) xs [] m1) Ξ
section
variable {X : Cx} {K : Frg} {mg : Gm} {W : WX} {tg it elt : Expr} {ifs : List Expr} {scope : Scope} {own : List (Str × Nat)} {wi : TI} {pi : DIt} {w : List Nat} {g : TG} {gd : DGt} {tt : TT} {qt : DTt} {te : TE} {pe : DEt} {pos spos py : Pos}
theorem dts_nil : DTs X K mg W [] tYes dYes := ⟨pts_nil, fun R h k _ => k _ _ _ _ (Evl.Ex.refl _) R.h h⟩
theorem dts_one {c : Expr} (h : DT X K mg W c tt qt) : DTs X K mg W [c] tt qt := ⟨pts_one h.p, h.l⟩
theorem lc_gen {K : Frg} {mg : Gm} {vs : List Nat} (li : LI K mg W wi pi) (lg : LG K mg w g gd) (lt : LT K mg W0 tt qt) (le : LE K mg W0 te pe) (hw : ∀ i ∈ w, i ∈ vs) {fr : Sr} {F H : Hp} {m : Sr} {σ : L2.St} {ρ : Rho} {Ξ : Xv} {Q : VK} {k : List D → Sr → Prop}
    (R : Rl K mg fr F H m σ ρ) (h : pi ρ m (fun xs m1 => dLcGo gd qt pe (wipeR ρ vs) k xs [] m1) Ξ)
    (fin : ∀ D F' H' m' acc, Ex F F' → fr D = none → HR K mg (put fr D (.lst acc)) F' H' m' → k acc m' → Q (.ref D) H')
    (kx : ∀ cls C d fs F' H' m', Ex F F' → HR K mg fr F' H' m' → XR K mg F' cls C d fs → Ξ C fs m' → W cls d σ H') : tLc wi g tt te vs σ H Q :=
  li R h (fun J xs F1 H1 m1 e1 h1 ok q1 D hD => by
    have hf : fr D = none := h1.freeR hD
    refine ⟨fun i n H' => (n = xs.length - i ∧ i ≤ xs.length) ∧ ∃ F' m' acc, Ex F1 F' ∧ HR K mg (put fr D (.lst acc)) F' H' m' ∧ dLcGo gd qt pe (wipeR ρ vs) k (xs.drop i) acc m', ⟨xs.length, ⟨by omega, Nat.zero_le _⟩, F1, m1, [], Evl.Ex.refl _, h1.newR (mo := .lst []) hD ⟨_, upd_same, .nil⟩, q1⟩, ?_⟩
    rintro i n H' ⟨⟨rfl, hle⟩, F', m', acc, e2, h2, q2⟩
    by_cases hi : i < xs.length
    · refine .inr ⟨(ok _).go e2 h2 hi, fun H3 => ∃ F3 m3 acc3, Ex F1 F3 ∧ HR K mg (put fr D (.lst acc3)) F3 H3 m3 ∧ dLcGo gd qt pe (wipeR ρ vs) k (xs.drop (i + 1)) acc3 m3, fun H3 ⟨F3, m3, acc3, e3, h3, q3⟩ => ⟨xs.length - (i + 1), by omega, ⟨rfl, hi⟩, F3, m3, acc3, e3, h3, q3⟩, fun x H3 hy => ?_⟩
      obtain ⟨d, F3, hd, e3, h3, r3⟩ := (ok _).yl e2 h2 hi hy
      rw [List.drop_eq_getElem_cons hi] at q2
      have hd' : xs[i] = d := Option.some.inj ((List.getElem?_eq_getElem hi).symm.trans hd)
      rw [hd'] at q2
      have R3 : Rl K mg (put fr D (.lst acc)) F3 H3 m' (wipe σ vs) (wipeR ρ vs) := ⟨h3, RpE.mono ((e1.trans e2).trans e3) (RpE.wipe R.e vs)⟩
      refine lg R3 r3 q2 fun σ4 ρ4 F4 H4 m4 e4 R4 w4 q4 => ⟨(w4 vs hw).trans (wipe_wipe σ vs), ?_⟩
      refine lt R4 q4 (fun b F5 H5 m5 e5 h5 q5 => ?_) fun _ _ _ _ _ _ _ _ _ _ z => z.elim
      cases b with
      | false => exact ⟨F5, m5, acc, ((e2.trans e3).trans e4).trans e5, h5, q5⟩
      | true =>
        refine le (R4.to e5 h5) q5 (fun v y F6 H6 m6 e6 h6 r6 ⟨hl, q6⟩ => ?_) fun _ _ _ _ _ _ _ _ _ _ z => z.elim
        obtain ⟨_, _, ws, hW, rA⟩ := h6.fm D _ put_same
        exact ⟨ws, hW, by rw [rA.len]; exact hl, F6, m6, acc ++ [y], (((e2.trans e3).trans e4).trans e5).trans e6, h6.chgR (mo := .lst (acc ++ [y])) ⟨_, upd_same, rA.app (.cons r6 .nil)⟩, q6⟩
    · refine .inl ⟨(ok _).st e2 h2 (by omega), ?_⟩
      rw [List.drop_eq_nil_of_le (by omega)] at q2
      exact fin D F' H' m' acc (e1.trans e2) hf h2 q2) kx
theorem le_lc {K : Frg} {mg : Gm} {vs : List Nat} (li : LI K mg W wi pi) (lg : LG K mg w g gd) (lt : LT K mg W0 tt qt) (le : LE K mg W0 te pe) (hw : ∀ i ∈ w, i ∈ vs) : LE K mg W (tLc wi g tt te vs) (dLc pi gd qt pe vs) := fun R h k kx =>
  lc_gen li lg lt le hw R h (fun D F' H' m' acc e hf hr q => by
    obtain ⟨xs, h1, h2, h3⟩ := hr.frzR hf
    exact k _ _ _ _ _ (e.trans h2) h1 h3 q) kx
theorem le_lcM {K : Frg} {mg : Gm} {vs : List Nat} (li : LI K mg W wi pi) (lg : LG K mg w g gd) (lt : LT K mg W0 tt qt) (le : LE K mg W0 te pe) (hw : ∀ i ∈ w, i ∈ vs) : LE K mg W (tLc wi g tt te vs) (dLcM pi gd qt pe vs) := fun R h k kx =>
  lc_gen li lg lt le hw R h (fun D F' H' m' acc e hf hr q => k _ _ _ _ _ e (hr.backR hf) (.ref D) (q D (hr.fm D _ put_same).1)) kx
theorem de_lc (own : List (Str × Nat)) (hN : X.N.Nodup) (hi : DI X K mg W tg it wi pi) (ok : blkC X.N X.env.scope scope own = true) (hw : ∀ i ∈ w, i ∈ own.map (·.2)) (hg : ∀ (s : Shared) (H : Hp) (C : Addr) (cl : List (Str × Addr)) (fp : List Addr), DG (X.blk s H scope (compEnvC scope cl C X.env) fp) K mg w tg g gd) (ht : ∀ (s : Shared) (H : Hp) (C : Addr) (cl : List (Str × Addr)) (fp : List Addr), DTs (X.blk s H scope (compEnvC scope cl C X.env) fp) K mg W0 ifs tt qt) (he : ∀ (s : Shared) (H : Hp) (C : Addr) (cl : List (Str × Addr)) (fp : List Addr), DE (X.blk s H scope (compEnvC scope cl C X.env) fp) K mg W0 elt te pe)
    (hc : X.calm = true := by rfl) (hs : ∀ x, foldedSetIterable it X.env x = pure x := by intro _; rfl) : DE X K mg W (.ListComp elt [⟨tg, it, ifs, 0⟩] scope pos) (tLc wi g tt te (own.map (·.2))) (dLc pi gd qt pe (own.map (·.2))) :=
  ⟨pe_lc hc hN hi.p (blkOk_by ok) (fun s H C cl fp => (hg s H C cl fp).p) (fun s H C cl fp => (ht s H C cl fp).p) (fun s H C cl fp => (he s H C cl fp).p) hs, le_lc hi.l (hg X.s_0 (fun _ => none) 0 [] []).l (ht X.s_0 (fun _ => none) 0 [] []).l (he X.s_0 (fun _ => none) 0 [] []).l hw⟩
theorem de_lcM (own : List (Str × Nat)) (hN : X.N.Nodup) (hi : DI X K mg W tg it wi pi) (ok : blkC X.N X.env.scope scope own = true) (hw : ∀ i ∈ w, i ∈ own.map (·.2)) (hg : ∀ (s : Shared) (H : Hp) (C : Addr) (cl : List (Str × Addr)) (fp : List Addr), DG (X.blk s H scope (compEnvC scope cl C X.env) fp) K mg w tg g gd) (ht : ∀ (s : Shared) (H : Hp) (C : Addr) (cl : List (Str × Addr)) (fp : List Addr), DTs (X.blk s H scope (compEnvC scope cl C X.env) fp) K mg W0 ifs tt qt) (he : ∀ (s : Shared) (H : Hp) (C : Addr) (cl : List (Str × Addr)) (fp : List Addr), DE (X.blk s H scope (compEnvC scope cl C X.env) fp) K mg W0 elt te pe)
    (hc : X.calm = true := by rfl) (hs : ∀ x, foldedSetIterable it X.env x = pure x := by intro _; rfl) : DE X K mg W (.ListComp elt [⟨tg, it, ifs, 0⟩] scope pos) (tLc wi g tt te (own.map (·.2))) (dLcM pi gd qt pe (own.map (·.2))) :=
  ⟨pe_lc hc hN hi.p (blkOk_by ok) (fun s H C cl fp => (hg s H C cl fp).p) (fun s H C cl fp => (ht s H C cl fp).p) (fun s H C cl fp => (he s H C cl fp).p) hs, le_lcM hi.l (hg X.s_0 (fun _ => none) 0 [] []).l (ht X.s_0 (fun _ => none) 0 [] []).l (he X.s_0 (fun _ => none) 0 [] []).l hw⟩
theorem ds_setLc (i : Nat) {y : Str} (own : List (Str × Nat)) (hN : X.N.Nodup) (hi : DI X K mg W tg it wi pi) (ok : blkC X.N X.env.scope scope own = true) (hw : ∀ i ∈ w, i ∈ own.map (·.2)) (hg : ∀ (s : Shared) (H : Hp) (C : Addr) (cl : List (Str × Addr)) (fp : List Addr), DG (X.blk s H scope (compEnvC scope cl C X.env) fp) K mg w tg g gd) (ht : ∀ (s : Shared) (H : Hp) (C : Addr) (cl : List (Str × Addr)) (fp : List Addr), DTs (X.blk s H scope (compEnvC scope cl C X.env) fp) K mg W0 ifs tt qt) (he : ∀ (s : Shared) (H : Hp) (C : Addr) (cl : List (Str × Addr)) (fp : List Addr), DE (X.blk s H scope (compEnvC scope cl C X.env) fp) K mg W0 elt te pe)
    (hy : X.N[i]? = some y := by rfl) (hyl : X.env.scope.names.lookup y = some .local := by rfl) (hsw : swapsWith (.ListComp elt [⟨tg, it, ifs, 0⟩] scope pos) (some (.Name y py)) spos.line X.env = pure true := by exact sw_true rfl rfl rfl (by decide +kernel))
    (hc : X.calm = true := by rfl) (hs : ∀ x, foldedSetIterable it X.env x = pure x := by intro _; rfl) : DS X K mg W (.Assign [.Name y py] (.ListComp elt [⟨tg, it, ifs, 0⟩] scope pos) spos) (tAsg (tLc wi g tt te (own.map (·.2))) (gName i)) (dAsg (dLc pi gd qt pe (own.map (·.2))) (gdName i)) :=
  ⟨ps_setLc hc hN hy hyl hsw hi.p (blkOk_by ok) (fun s H C cl fp => (hg s H C cl fp).p) (fun s H C cl fp => (ht s H C cl fp).p) (fun s H C cl fp => (he s H C cl fp).p) hs, ls_asg (le_lc hi.l (hg X.s_0 (fun _ => none) 0 [] []).l (ht X.s_0 (fun _ => none) 0 [] []).l (he X.s_0 (fun _ => none) 0 [] []).l hw) lg_name⟩
end
end DL
/-! Sources: what may be a list or a tuple. -/
namespace DL
open PySem PySem.Spec PyProof.Rows L2

def SqX (k : Bool) (K : Frg) (H : Hp) (a : Addr) (xs : List V) : Prop := match k with
  | false => SqL K H a xs
  | true => SqT K H a xs
def ItrX (k : Bool) (h : Heap) (it a : Addr) (i : Nat) : Prop := match k with
  | false => h.IsListIter it a i
  | true => h.IsTupleIter it a i
def ObjX (k : Bool) (h : Heap) (a : Addr) (its : Array Value) : Prop := match k with
  | false => h.IsList a its
  | true => h.IsTuple a its
def itrO (k : Bool) (a : Addr) : Obj := match k with
  | false => { cls := .type "list_iterator", data := .fields #[.ref a, .int 0 0] }
  | true => { cls := .type "tuple_iterator", data := .fields #[.ref a, .int 0 0] }
theorem beginsX (k : Bool) (a : Addr) (its : Array Value) : Begins (.ref a) (itrO k a) fun h => ObjX k h a its := by
  cases k
  · exact begins_list a its
  · exact begins_tuple a its
theorem drawsX {P : Program} {w : World} {A : Around} (k : Bool) (hh : A.handled = none) (it a : Addr) (hne : a ≠ it) (its : Array Value) : Draws P w A it [it, a] its.size (fun i v => its[i]? = some v) fun i h => ItrX k h it a i ∧ ObjX k h a its := by
  cases k
  · exact Draws.list hh it a hne its
  · exact Draws.tuple hh it a hne its
theorem itrX_new {k : Bool} {h : Heap} {it a : Addr} (e : h.get? it = some (itrO k a)) : ItrX k h it a 0 := by
  cases k
  · exact ⟨_, e, rfl, rfl⟩
  · exact ⟨_, e, rfl, rfl⟩
theorem ItrX.there {k : Bool} {h : Heap} {it a : Addr} {i : Nat} (x : ItrX k h it a i) : ∃ o, h.get? it = some o ∧ ∀ v, o.data ≠ .cell v := by
  cases k
  · obtain ⟨o, e, c, d⟩ := x
    exact ⟨o, e, fun v z => by rw [d] at z; cases z⟩
  · obtain ⟨o, e, c, d⟩ := x
    exact ⟨o, e, fun v z => by rw [d] at z; cases z⟩
theorem ItrX.keep {k : Bool} {h h' : Heap} {it a : Addr} {i : Nat} (x : ItrX k h it a i) (e : ∀ o, h.get? it = some o → h'.get? it = some o) : ItrX k h' it a i := by
  cases k
  · exact Heap.IsListIter.at x e
  · exact Heap.IsTupleIter.at x e
theorem ItrX.ne {k : Bool} {h : Heap} {it a : Addr} {i : Nat} {its : Array Value} (x : ItrX k h it a i) (y : ObjX k h a its) : a ≠ it := by
  cases k
  · obtain ⟨o, e, c, d⟩ := x
    obtain ⟨o', e', c', n, d'⟩ := y
    intro z; subst z; rw [e] at e'; cases e'; rw [d] at d'; cases d'
  · obtain ⟨o, e, c, d⟩ := x
    obtain ⟨o', e', c', n, d'⟩ := y
    intro z; subst z; rw [e] at e'; cases e'; rw [d] at d'; cases d'
theorem ObjX.lt {k : Bool} {h : Heap} {a : Addr} {its : Array Value} (y : ObjX k h a its) : a < h.objs.size := by
  cases k
  · obtain ⟨o, e, _⟩ := y; exact Heap.lt_size e
  · obtain ⟨o, e, _⟩ := y; exact Heap.lt_size e
section
variable {X : Cx} {pins : List (Addr × Obj)} {σ : L2.St} {H : Hp} {s : Shared} {a : Addr} {xs ys : List V} {k : Bool}
theorem seqX (I : Inv X pins σ H s) (h : SqX k X.K H a xs) : ∃ its : List Value, Vals xs its ∧ ObjX k s.heap a its.toArray := by
  cases k
  · obtain ⟨its, r, p, _⟩ := I.list h; exact ⟨its, r, p.isList⟩
  · obtain ⟨its, r, p, _⟩ := I.tuple h; exact ⟨its, r, p⟩
theorem seqX_inj (I : Inv X pins σ H s) (h : SqX k X.K H a xs) (h' : SqX k X.K H a ys) : xs = ys := by
  cases k
  · exact I.list_inj h h'
  · exact I.tuple_inj h h'
end
theorem SqX.ex {k : Bool} {K : Frg} {F F' : Hp} {a : Addr} {xs : List V} (e : Ex F F') (h : SqX k K F a xs) : SqX k K F' a xs := by
  cases k
  · exact Evl.ex_l e h
  · exact Evl.ex_t e h

/-! ### an iterator that keeps a tuple -/
/-- the turns of a pair-iterator from the library's walk at each turn -/
theorem turn_pair {P : Program} {w : World} {K : Frg} {elts : List Expr} {kk : Nat} {tpos : Pos} {J : It} {fp : List Addr} {it : Addr} {tn : Nat → Heap → Prop} (mem : it ∈ fp)
    (obj : ∀ i h, tn i h → ∀ b ∈ fp, ∃ o, h.get? b = some o ∧ ∀ v, o.data ≠ .cell v) (keep : ∀ i h h', tn i h → (∀ b ∈ fp, ∀ o, h.get? b = some o → h'.get? b = some o) → tn i h')
    (self : ∀ (A : Around) (i : Nat) (s : Shared) (Q : Value → Shared → Prop) (E : Value → Shared → Prop), tn i s.heap → Q (.ref it) s → wpAny (model P w) A (pyIter (.ref it)) Q E s)
    (walk : ∀ (X : Cx), X.prog = P → X.w = w → X.K = K → X.A.handled = none → ∀ (i : Nat) (pins : List (Addr × Obj)) (s : Shared) (σ : L2.St) (H : Hp), Inv X pins σ H s → tn i s.heap → (J.go i H ∨ J.stop i H) →
      ∃ (n : Nat) (fp' wr : List Addr) (Pt : Nat → Array Value → Prop) (St : Nat → Heap → Prop) (Mid : Nat → Addr → Heap → Prop), WalksT P w X.A it fp' wr n Pt St Mid ∧ (∀ b ∈ wr, b ∈ fp) ∧ St i s.heap ∧ (J.go i H → i < n) ∧ (J.stop i H → i = n) ∧ (∀ h, St (i + 1) h → tn (i + 1) h) ∧
        ∀ vals, Pt i vals → J.go i H → ∃ vs, Vals vs vals.toList ∧ vs.length ≤ sizeLine ∧ ∀ T, H T = none → J.yld i H (.ref T) (upd H T (.tup vs))) :
    Turn P w K (.Tuple elts kk tpos) J fp it tn where
  mem := mem
  obj := obj
  keep := keep
  self := self
  item := by
    intro X hP hw hK hc i pins s σ H E I hf st hg
    obtain ⟨n, fp', wr, Pt, St, Mid, W, sub, S, h1, h2, h3, h4⟩ := walk X hP hw hK (I.ok.hd hc) i pins s σ H I st (.inl hg)
    subst hP hw hK
    refine W.item i s _ _ (h1 hg) S fun T vals h' tk p hle hT hM hk => ⟨_, rfl, ?_⟩
    refine W.go elts kk tpos i T { s with heap := h', toks := tk } _ _ hM fun h'' S' hk' => ?_
    obtain ⟨vs, rv, few, hy⟩ := h4 vals p hg
    have hn : H T = none := I.hok.fresh hle
    have hT' : h''.IsTuple T vals := hT.at fun o e => hk' T o (W.apart i T h' hM) e
    have new : ObjOk X.prog X.w (upd H T (.tup vs)) h'' T (.tup vs) := ⟨few, vals.toList, rv, hT'⟩
    have I1 : Inv X pins σ (upd H T (.tup vs)) { s with heap := h'', toks := tk } :=
      I.turnedNew (ch := fp) (fun b o hb e => hk' b o (fun z => hb (sub b z)) (hk b o (fun z => hb (sub b z)) e)) hf hle new
    refine ⟨.ref T, _, I1, rfl, hy T hn, h3 _ S', fun b hb => ?_⟩
    obtain ⟨o, e, _⟩ := obj i s.heap st b hb
    have hlt := Heap.lt_size e
    rw [upd_ne (Nat.ne_of_lt (Nat.lt_of_lt_of_le hlt hle))]
    exact (hf b hb).1
  done := by
    intro X hP hw hK hc i pins s σ H E I hf st hg
    obtain ⟨n, fp', wr, Pt, St, Mid, W, sub, S, h1, h2, h3, h4⟩ := walk X hP hw hK (I.ok.hd hc) i pins s σ H I st (.inr hg)
    subst hP hw hK
    have e := h2 hg
    subst e
    exact W.done s _ _ S fun h' tk hk => ⟨rfl, I.turnedL (ch := fp) (fun b o hb e => hk b o (fun z => hb (sub b z)) e) hf⟩

/-! ### enumerate -/
def IteX (k : Bool) (K : Frg) (a : Addr) : It where
  go := fun i H => ∃ (xs : List V) (x : V), SqX k K H a xs ∧ xs[i]? = some x
  yld := fun i H v H' => ∃ T x, v = .ref T ∧ H T = none ∧ H' = upd H T (.tup [.int (i : Nat), x]) ∧ ∀ xs, SqX k K H a xs → xs[i]? = some x
  stop := fun i H => ∃ xs : List V, SqX k K H a xs ∧ i = xs.length
theorem turn_enumX {P : Program} {w : World} {K : Frg} {elts : List Expr} {kk : Nat} {tpos : Pos} (k : Bool) (a e it : Addr) :
    Turn P w K (.Tuple elts kk tpos) (IteX k K a) [e, it] e (fun i h => (∃ old, IsEnum h e it ((i : Nat) : Int) old) ∧ ItrX k h it a i ∧ e ≠ it) := by
  refine turn_pair List.mem_cons_self (fun i h st b hb => ?_) (fun i h h' st kp => ?_) (fun A i s Q E st h => ?_) fun X hP hw hK hh i pins s σ H I st g => ?_
  · obtain ⟨⟨old, he⟩, hi, _⟩ := st
    rcases List.mem_cons.mp hb with rfl | hb
    · exact ⟨_, he, fun v q => nomatch q⟩
    · rw [List.mem_singleton.mp hb]; exact hi.there
  · obtain ⟨⟨old, he⟩, hi, hne⟩ := st
    exact ⟨⟨old, kp e (by simp) _ he⟩, hi.keep fun o q => kp it (by simp) o q, hne⟩
  · obtain ⟨⟨old, he⟩, _⟩ := st
    exact wpAny_pyIter_enum he h
  · subst hP hw hK
    obtain ⟨⟨old, he⟩, hi, hne⟩ := st
    obtain ⟨xs, hxs, hgs⟩ : ∃ xs, SqX k X.K H a xs ∧ ∀ ys, SqX k X.K H a ys → ys = xs := by
      rcases g with ⟨xs, x, hq, _⟩ | ⟨xs, hq, _⟩
      · exact ⟨xs, hq, fun ys hy => seqX_inj I hy hq⟩
      · exact ⟨xs, hq, fun ys hy => seqX_inj I hy hq⟩
    obtain ⟨its, rv, ob⟩ := seqX I hxs
    have na := hi.ne ob
    have ea : e ≠ a := fun z => by
      subst z
      cases k
      · obtain ⟨o, e1, _, n, d⟩ := ob; rw [he] at e1; cases e1; cases d
      · obtain ⟨o, e1, _, n, d⟩ := ob; rw [he] at e1; cases e1; cases d
    refine ⟨its.toArray.size, _, _, _, _, _, WalksT.enumerateD (drawsX k (A := X.A.in1) hh it a na its.toArray) e hne (by simp [hne, ea]) (by simp), fun b hb => hb, ⟨⟨old, he⟩, hi, ob⟩, ?_, ?_, ?_, ?_⟩
    · rintro ⟨ys, x, hq, hx⟩
      rw [hgs ys hq] at hx
      have := (List.getElem?_eq_some_iff.mp hx).1
      rw [List.size_toArray, ← rv.length]; exact this
    · rintro ⟨ys, hq, hx⟩
      rw [hgs ys hq] at hx
      rw [List.size_toArray, ← rv.length]; exact hx
    · rintro h ⟨⟨old', he'⟩, hi', _⟩
      exact ⟨⟨old', he'⟩, hi', hne⟩
    · rintro vals ⟨t, u, hu, rfl⟩ ⟨ys, x, hq, hx⟩
      rw [hgs ys hq] at hx
      obtain ⟨u', hu', ru⟩ := rv.get hx
      have e2 : u = u' := by
        rw [List.getElem?_toArray] at hu
        rw [hu] at hu'
        exact Option.some.inj hu'
      subst e2
      exact ⟨[.int (i : Nat), x], .cons ⟨t, rfl⟩ (.cons ru .nil), by show 2 ≤ sizeLine; decide, fun T hT => ⟨T, x, rfl, hT, rfl, fun zs hz => by rw [hgs zs hz]; exact hx⟩⟩
set_option maxHeartbeats 1000000 in
theorem meets_enum1 {v : Value} {o : Obj} {H : Heap → Prop} (B : Begins v o H) :
    Meets (Builtin.«enumerate.__new__» ⟨[.type "enumerate", v], []⟩) (fun _ R s => H s.heap ∧
      R (.ok (.ret (.ref (s.heap.push o).objs.size))) { s with heap := (s.heap.push o).push { cls := .type "enumerate", data := .fields #[.none, .bool false, .ref s.heap.objs.size, rawInt 0, .none, .none] } }) :=
  .of_wp fun P w A R s h => by
    obtain ⟨hp, gg, dd, tk, os⟩ := s
    obtain ⟨h1, h⟩ := h
    have hsub := sub_enumerate
    have it1 : ∀ {A' : Around} {E : Value → Shared → Prop} {Q : Value → Shared → Prop}, Q (.ref hp.objs.size) ⟨hp.push o, gg, dd, tk, os⟩ → wpAny (model P w) A' (pyIter v) Q E ⟨hp, gg, dd, tk, os⟩ :=
      fun q => B.iter P w _ _ ⟨hp, gg, dd, tk, os⟩ _ h1 q
    wp_walk using it1
    refine wpAny_stack_any fun st => wpAny_pure ?_
    split
    · rename_i c _ _ _ _ _
      cases (c == Value.type "enumerate") <;> (wp_walk using it1; exact ⟨_, rfl, h⟩)
    · wp_walk using it1; exact ⟨_, rfl, h⟩
theorem enum_begin1 {P : Program} {w : World} {A : Around} {E : Value → Shared → Prop} {s : Shared} {v : Value} {o : Obj} {H : Heap → Prop} {Q : Value → Shared → Prop} (B : Begins v o H) (h1 : H s.heap)
    (h : ∀ h', IsEnum h' (s.heap.objs.size + 1) s.heap.objs.size 0 .none → h'.get? s.heap.objs.size = some o → (∀ b o, s.heap.get? b = some o → h'.get? b = some o) → Q (.ref (s.heap.objs.size + 1)) { s with heap := h' }) :
    wpAny (model P w) A (call (.type "enumerate") [v]) Q E s := by
  refine callType_new F.called_enumerate (by decide) (F.typeCall_enumerate_1 _) (F.newCall_enumerate_1 _) (fun obj => F.args_object_init_2 obj _) F.entry_enumerate_new (meets_enum1 B) ⟨h1, ?_⟩
  have hz : (s.heap.push o).objs.size = s.heap.objs.size + 1 := Heap.size_push ..
  show _ ∧ _
  rw [hz]
  have he := Heap.get?_push_size (s.heap.push o) (o := { cls := .type "enumerate", data := .fields #[.none, .bool false, .ref s.heap.objs.size, rawInt 0, .none, .none] }) rfl
  rw [hz] at he
  exact ⟨⟨_, he, rfl⟩, h _ he (Heap.get?_push_of_some _ (Heap.get?_push_size _ B.free)) fun b o x => Heap.get?_push_of_some _ (Heap.get?_push_of_some _ x)⟩
def iEnumX (K : Frg) (ta : TA) : TI := fun σ H R => ta σ H fun vs H1 => ∃ k a xs, vs = [.ref a] ∧ SqX k K H1 a xs ∧ R (IteX k K a) H1
theorem pi_enumX {X : Cx} {e : Expr} {ta : TA} {p pos tpos : Pos} {elts : List Expr} {kk : Nat} (hg : Gl X "enumerate") (hm : X.mg "enumerate" = none) (ha : PA X [e] ta) (hs : starEach [e] X.env = [(false, eval e X.env)]) :
    PI X (.Tuple elts kk tpos) (.Call (.Name "enumerate" p) [e] [] pos) (iEnumX X.K ta) := by
  constructor
  intro pins s σ H R I h
  refine Call_ (ld_blt I hg hm boot_enumerate (PyProof.Rows.callWith_type1 (thn (ha.run pos pins s σ H _ I h) fun us s1 hh => ?_) hs rfl))
  obtain ⟨vs, H1, I1, r1, k, a, xs, ex, hq, q⟩ := hh
  subst ex
  match us, r1 with
  | [_], .cons rfl .nil =>
    obtain ⟨its, rv, ob⟩ := seqX I1 hq
    refine enum_begin1 (beginsX k a its.toArray) ob fun h' he hit hk => wpAny_pyIter_enum he ?_
    have I2 : Inv X pins σ H1 { s1 with heap := h' } := I1.kept (t' := s1.toks) hk
    refine ⟨s1.heap.objs.size + 1, _, _, _, H1, rfl, I2, turn_enumX k a (s1.heap.objs.size + 1) s1.heap.objs.size, ⟨⟨.none, he⟩, itrX_new hit, Nat.succ_ne_self _⟩, fun b hb => ?_, q⟩
    have hle : s1.heap.objs.size ≤ b := by
      rcases List.mem_cons.mp hb with rfl | hb
      · exact Nat.le_succ _
      · rw [List.mem_singleton.mp hb]; exact Nat.le_refl _
    exact I1.fpOk hle (I1.hok.fresh hle)

/-! ### zip -/
def ItzX (k l : Bool) (K : Frg) (a b : Addr) : It where
  go := fun i H => ∃ (xs ys : List V) (x y : V), SqX k K H a xs ∧ SqX l K H b ys ∧ xs[i]? = some x ∧ ys[i]? = some y
  yld := fun i H v H' => ∃ T x y, v = .ref T ∧ H T = none ∧ H' = upd H T (.tup [x, y]) ∧ (∀ xs, SqX k K H a xs → xs[i]? = some x) ∧ ∀ ys, SqX l K H b ys → ys[i]? = some y
  stop := fun i H => ∃ xs ys : List V, SqX k K H a xs ∧ SqX l K H b ys ∧ i = min xs.length ys.length
theorem turn_zipX {P : Program} {w : World} {K : Frg} {elts : List Expr} {kk : Nat} {tpos : Pos} (k l : Bool) (a b z TI TO i1 i2 : Addr) (D : ZipSep2 z TI TO i1 i2 [i1, a] [i2, b]) :
    Turn P w K (.Tuple elts kk tpos) (ItzX k l K a b) [z, TI, TO, i1, i2] z (fun i h => IsZip h z TI TO .none ∧ IsTupOf2 h TI (.ref i1) (.ref i2) ∧ (∃ x y, IsTupOf2 h TO x y) ∧ ItrX k h i1 a i ∧ ItrX l h i2 b i) := by
  refine turn_pair List.mem_cons_self (fun i h st c hc => ?_) (fun i h h' st kp => ?_) (fun A i s Q E st h => ?_) fun X hP hw hK hh i pins s σ H I st g => ?_
  · obtain ⟨hz, hTI, ⟨x, y, hTO⟩, h1, h2⟩ := st
    simp only [List.mem_cons, List.not_mem_nil, or_false] at hc
    rcases hc with rfl | rfl | rfl | rfl | rfl
    · exact ⟨_, hz, fun v q => nomatch q⟩
    · exact ⟨_, hTI, fun v q => nomatch q⟩
    · exact ⟨_, hTO, fun v q => nomatch q⟩
    · exact h1.there
    · exact h2.there
  · obtain ⟨hz, hTI, ⟨x, y, hTO⟩, h1, h2⟩ := st
    exact ⟨kp z (by simp) _ hz, kp TI (by simp) _ hTI, ⟨x, y, kp TO (by simp) _ hTO⟩, h1.keep fun o q => kp i1 (by simp) o q, h2.keep fun o q => kp i2 (by simp) o q⟩
  · exact wpAny_pyIter_zip st.1 h
  · subst hP hw hK
    obtain ⟨hz, hTI, hTO, h1, h2⟩ := st
    obtain ⟨xs, ys, hxs, hys, gx, gy⟩ : ∃ xs ys, SqX k X.K H a xs ∧ SqX l X.K H b ys ∧ (∀ zs, SqX k X.K H a zs → zs = xs) ∧ ∀ zs, SqX l X.K H b zs → zs = ys := by
      rcases g with ⟨xs, ys, x, y, q1, q2, _⟩ | ⟨xs, ys, q1, q2, _⟩
      · exact ⟨xs, ys, q1, q2, fun zs hy => seqX_inj I hy q1, fun zs hy => seqX_inj I hy q2⟩
      · exact ⟨xs, ys, q1, q2, fun zs hy => seqX_inj I hy q1, fun zs hy => seqX_inj I hy q2⟩
    obtain ⟨its, rv, ob⟩ := seqX I hxs
    obtain ⟨its2, rv2, ob2⟩ := seqX I hys
    refine ⟨min its.toArray.size its2.toArray.size, _, _, _, _, _, WalksT.zipD2 D (drawsX k (A := X.A.in1) hh i1 a (h1.ne ob) its.toArray) (drawsX l (A := X.A.in1) hh i2 b (h2.ne ob2) its2.toArray), fun c hc => ?_, ⟨hz, hTI, hTO, ⟨h1, ob⟩, h2, ob2⟩, ?_, ?_, ?_, ?_⟩
    · simp only [List.mem_cons, List.not_mem_nil, or_false] at hc ⊢
      rcases hc with rfl | rfl | rfl | rfl <;> simp
    · rintro ⟨zs, ws, x, y, q1, q2, hx, hy⟩
      rw [gx zs q1] at hx
      rw [gy ws q2] at hy
      have l1 := (List.getElem?_eq_some_iff.mp hx).1
      have l2 := (List.getElem?_eq_some_iff.mp hy).1
      have r1 := rv.length
      have r2 := rv2.length
      rw [List.size_toArray, List.size_toArray]
      omega
    · rintro ⟨zs, ws, q1, q2, hx⟩
      rw [gx zs q1, gy ws q2] at hx
      have r1 := rv.length
      have r2 := rv2.length
      rw [List.size_toArray, List.size_toArray]
      omega
    · rintro h ⟨a1, a2, a3, ⟨a4, _⟩, a5, _⟩
      exact ⟨a1, a2, a3, a4, a5⟩
    · rintro vals ⟨u1, u2, p1, p2, rfl⟩ ⟨zs, ws, x, y, q1, q2, hx, hy⟩
      rw [gx zs q1] at hx
      rw [gy ws q2] at hy
      obtain ⟨v1, hv1, ru1⟩ := rv.get hx
      obtain ⟨v2, hv2, ru2⟩ := rv2.get hy
      rw [List.getElem?_toArray, hv1] at p1
      rw [List.getElem?_toArray, hv2] at p2
      cases p1
      cases p2
      exact ⟨[x, y], .cons ru1 (.cons ru2 .nil), by show 2 ≤ sizeLine; decide, fun T hT => ⟨T, x, y, rfl, hT, rfl, (fun t ht => by rw [gx t ht]; exact hx), fun t ht => by rw [gy t ht]; exact hy⟩⟩
theorem sep_new {n a b : Nat} (ha : a < n) (hb : b < n) : ZipSep2 (n + 4) (n + 2) (n + 3) n (n + 1) [n, a] [n + 1, b] := by
  have f : ∀ {x y c : Nat}, c ∈ [x, y] → c = x ∨ c = y := fun h => by
    rcases List.mem_cons.mp h with e | h
    · exact .inl e
    · exact .inr (List.mem_singleton.mp h)
  exact { TIz := fun e => by have e : n + 2 = n + 4 := e; omega, TOz := fun e => by have e : n + 3 = n + 4 := e; omega, TITO := fun e => by have e : n + 2 = n + 3 := e; omega, TIi1 := fun e => by have e : n + 2 = n := e; omega,
          TIi2 := fun e => by have e : n + 2 = n + 1 := e; omega, mem1 := List.mem_cons_self, mem2 := List.mem_cons_self, zf1 := fun e => by have e := f e; omega, Tf1 := fun e => by have e := f e; omega, zf2 := fun e => by have e := f e; omega,
          Tf2 := fun e => by have e := f e; omega, sep1_2 := fun e => by have e := f e; omega, sep2_1 := fun e => by have e := f e; omega }
def iZipX (K : Frg) (ta : TA) : TI := fun σ H R => ta σ H fun vs H1 => ∃ k l a b xs ys, vs = [.ref a, .ref b] ∧ SqX k K H1 a xs ∧ SqX l K H1 b ys ∧ R (ItzX k l K a b) H1
theorem pi_zipX {X : Cx} {e e2 : Expr} {ta : TA} {p pos tpos : Pos} {elts : List Expr} {kk : Nat} (hg : Gl X "zip") (hm : X.mg "zip" = none) (ha : PA X [e, e2] ta)
    (hs : starEach [e, e2] X.env = (false, eval e X.env) :: starEach [e2] X.env) (hpl : (backTo pos (starEach [e2] X.env)).any (·.1) = false) :
    PI X (.Tuple elts kk tpos) (.Call (.Name "zip" p) [e, e2] [] pos) (iZipX X.K ta) := by
  constructor
  intro pins s σ H R I h
  refine Call_ (ld_blt I hg hm PyProof.Rows.boot_zip (PyProof.Rows.callWith_type1 (thn (ha.run pos pins s σ H _ I h) fun us s1 hh => ?_) hs hpl))
  obtain ⟨vs, H1, I1, r1, k, l, a, b, xs, ys, ex, hqx, hqy, q⟩ := hh
  subst ex
  match us, r1 with
  | [_, _], .cons rfl (.cons rfl .nil) =>
    obtain ⟨its, rv, ob⟩ := seqX I1 hqx
    obtain ⟨its2, rv2, ob2⟩ := seqX I1 hqy
    refine zip_begins2 (beginsX k a its.toArray) (beginsX l b its2.toArray) ob ob2 fun h' hz hTI hTO h1 h2 hsz hk => wpAny_pyIter_zip hz ?_
    have I2 : Inv X pins σ H1 { s1 with heap := h' } := I1.kept (t' := s1.toks) hk
    refine ⟨s1.heap.objs.size + 4, _, _, _, H1, rfl, I2, turn_zipX k l a b _ _ _ _ _ (sep_new ob.lt ob2.lt), ⟨hz, hTI, ⟨_, _, hTO⟩, itrX_new h1, itrX_new h2⟩, fun c hc => ?_, q⟩
    have hle : s1.heap.objs.size ≤ c := by
      simp only [List.mem_cons, List.not_mem_nil, or_false] at hc
      rcases hc with e | e | e | e | e <;> rw [e]
      · exact Nat.le_add_right _ _
      · exact Nat.le_add_right _ _
      · exact Nat.le_add_right _ _
      · exact Nat.le_refl _
      · exact Nat.le_add_right _ _
    exact I1.fpOk hle (I1.hok.fresh hle)
def iSeqX (K : Frg) (tl : TE) : TI := fun σ H R => tl σ H fun x H1 => ∃ a, x = .ref a ∧ (((∃ xs, SqL K H1 a xs) ∧ R (Itl K a) H1) ∨ ((∃ xs, SqT K H1 a xs) ∧ R (Itt K a) H1))
theorem pi_seqX {X : Cx} {tg l : Expr} {tl : TE} (hl : PE X l tl) : PI X tg l (iSeqX X.K tl) := by
  constructor
  intro pins s σ H R I h
  refine thn (hl.run pins s σ H _ I h) fun v s1 hh => ?_
  obtain ⟨x, H1, I1, r1, a, e, q⟩ := hh
  subst e
  obtain rfl : v = Value.ref a := r1
  have fresh : ∀ b ∈ [s1.heap.objs.size], FpOk X pins H1 b := fun b hb => by
    rw [List.mem_singleton.mp hb]
    exact I1.fpOk (Nat.le_refl _) (I1.hok.fresh (Nat.le_refl _))
  rcases q with ⟨⟨xs, hq⟩, q⟩ | ⟨⟨xs, hq⟩, q⟩
  · obtain ⟨its, rv, p, hz⟩ := I1.list hq
    exact wpAny_pyIter_list p.isList ⟨s1.heap.objs.size, _, _, _, H1, rfl, I1.kept (t' := s1.toks) fun b o e => Heap.get?_push_of_some _ e, turn_list a _, ⟨_, Heap.get?_push_size _ rfl, rfl, rfl⟩, fresh, q⟩
  · obtain ⟨its, rv, p, hz⟩ := I1.tuple hq
    exact wpAny_pyIter_tuple (show s1.heap.IsTuple a its.toArray from p) ⟨s1.heap.objs.size, _, _, _, H1, rfl, I1.kept (t' := s1.toks) fun b o e => Heap.get?_push_of_some _ e, turn_tuple a _, ⟨_, Heap.get?_push_size _ rfl, rfl, rfl⟩, fresh, q⟩

/-! ### as readings -/
theorem tupF_ok {K : Frg} {mg : Gm} {F : Hp} {v : V} {x : D} {ds : List D} (r : Rp K mg F v x) (e : tupOf x = some ds) : ∃ p xs, v = .ref p ∧ SqT K F p xs ∧ RpA K mg F xs ds := by
  cases r with
  | tup ha hr => cases e; exact ⟨_, _, rfl, Evl.st_of ha, hr⟩
  | wtp ha hr => cases e; exact ⟨_, _, rfl, ha, hr⟩
  | _ => cases e
theorem frzS_ok {K : Frg} {mg : Gm} {F : Hp} {v : V} {x : D} {ds : List D} (r : Rp K mg F v x) (e : frzS x = some ds) : ∃ k p xs, v = .ref p ∧ SqX k K F p xs ∧ RpA K mg F xs ds := by
  unfold frzS at e
  cases z : frzL x with
  | some es =>
    rw [z] at e
    cases (show some es = some ds from e)
    obtain ⟨p, xs, h⟩ := frzL_ok r z
    exact ⟨false, p, xs, h⟩
  | none =>
    rw [z] at e
    obtain ⟨p, xs, h⟩ := tupF_ok r (show tupOf x = some ds from e)
    exact ⟨true, p, xs, h⟩
section
variable {X : Cx} {K : Frg} {mg : Gm} {W : WX} {tg e e2 : Expr} {te : TE} {pe : DEt} {ta : TA} {qa : DAt} {p pos tpos : Pos} {elts : List Expr} {kk : Nat}
theorem di_list (he : DE X K mg W e te pe) (hK : X.K = K := by rfl) : DI X K mg W tg e (iSeqX K te) (diL pe) := ⟨hK ▸ pi_seqX he.p, fun R h k kx => he.l R h (fun v x F1 H1 m1 e1 h1 r1 ⟨ds, ed, q⟩ => by
  obtain ⟨b, a, vs, rfl, hs, r⟩ := frzS_ok r1 ed
  cases b with
  | false => exact ⟨a, rfl, .inl ⟨⟨vs, Evl.ex_l h1.ex hs⟩, k _ _ _ _ _ e1 h1 (fun _ => itl_ok hs r) q⟩⟩
  | true => exact ⟨a, rfl, .inr ⟨⟨vs, Evl.ex_t h1.ex hs⟩, k _ _ _ _ _ e1 h1 (fun _ => itt_ok hs r) q⟩⟩) kx⟩
theorem iteX_ok {fr : Sr} {F : Hp} {a : Addr} {vs : List V} {ds : List D} {b : Bool} (h : SqX b K F a vs) (r : RpA K mg F vs ds) : ItOk K mg fr F (IteX b K a) (numbered 0 ds) where
  go := fun {F' H m i} e hr hi => by
    rw [numbered_len] at hi
    obtain ⟨x, hx⟩ := get_lt (show i < vs.length by rw [r.len]; exact hi)
    exact ⟨vs, x, h.ex (e.trans hr.ex), hx⟩
  yl := fun {F' H m i v H'} e hr hi hy => by
    obtain ⟨T, x, rfl, hT, rfl, hy⟩ := hy
    obtain ⟨d, h1, h2⟩ := r.in (hy vs (h.ex (e.trans hr.ex)))
    refine ⟨.tup [.int ((i : Nat) : Int), d], _, ?_, hr.exF hT, hr.newF hT, .tup upd_same (.cons (.int _) (.cons ((h2.mono e).mono (hr.exF hT)) .nil))⟩
    rw [numbered_get, h1, Nat.zero_add]
    rfl
  st := fun {F' H m i} e hr hi => by
    rw [numbered_len] at hi
    exact ⟨vs, h.ex (e.trans hr.ex), by rw [r.len]; exact hi⟩
theorem di_enum (ha : DA X K mg W [e] ta qa) (hm : X.mg "enumerate" = none) (hg : Gl X "enumerate" := by rfl) (hs : starEach [e] X.env = [(false, eval e X.env)] := by rfl) (hK : X.K = K := by rfl) : DI X K mg W (.Tuple elts kk tpos) (.Call (.Name "enumerate" p) [e] [] pos) (iEnumX K ta) (diE qa) := ⟨hK ▸ pi_enumX hg hm ha.p hs, fun R h k kx => ha.l R h (fun vs xs F1 H1 m1 e1 h1 r1 ⟨x, ds, ex, ed, q⟩ => by
  subst ex
  match vs, r1 with
  | [_], .cons r .nil =>
    obtain ⟨b, a, ws, rfl, hs, r⟩ := frzS_ok r ed
    exact ⟨b, a, ws, rfl, hs.ex h1.ex, k _ _ _ _ _ e1 h1 (fun _ => iteX_ok hs r) q⟩) kx⟩
theorem itzX_ok {fr : Sr} {F : Hp} {a b : Addr} {vs ws : List V} {ds es : List D} {k l : Bool} (h : SqX k K F a vs) (r : RpA K mg F vs ds) (h' : SqX l K F b ws) (r' : RpA K mg F ws es) : ItOk K mg fr F (ItzX k l K a b) (List.zipWith (fun a b => D.tup [a, b]) ds es) where
  go := fun {F' H m i} e hr hi => by
    rw [List.length_zipWith] at hi
    obtain ⟨x, hx⟩ := get_lt (show i < vs.length by rw [r.len]; omega)
    obtain ⟨y, hy⟩ := get_lt (show i < ws.length by rw [r'.len]; omega)
    exact ⟨vs, ws, x, y, h.ex (e.trans hr.ex), h'.ex (e.trans hr.ex), hx, hy⟩
  yl := fun {F' H m i v H'} e hr hi hy => by
    obtain ⟨T, x, y, rfl, hT, rfl, hx, hy⟩ := hy
    obtain ⟨d, h1, h2⟩ := r.in (hx vs (h.ex (e.trans hr.ex)))
    obtain ⟨d', h1', h2'⟩ := r'.in (hy ws (h'.ex (e.trans hr.ex)))
    refine ⟨.tup [d, d'], _, ?_, hr.exF hT, hr.newF hT, .tup upd_same (.cons ((h2.mono e).mono (hr.exF hT)) (.cons ((h2'.mono e).mono (hr.exF hT)) .nil))⟩
    rw [List.getElem?_zipWith, h1, h1']
  st := fun {F' H m i} e hr hi => by
    rw [List.length_zipWith] at hi
    exact ⟨vs, ws, h.ex (e.trans hr.ex), h'.ex (e.trans hr.ex), by rw [r.len, r'.len]; exact hi⟩
theorem di_zip (ha : DA X K mg W [e, e2] ta qa) (hm : X.mg "zip" = none) (hg : Gl X "zip" := by rfl) (hs : starEach [e, e2] X.env = (false, eval e X.env) :: starEach [e2] X.env := by rfl) (hpl : (backTo pos (starEach [e2] X.env)).any (·.1) = false := by rfl) (hK : X.K = K := by rfl) : DI X K mg W (.Tuple elts kk tpos) (.Call (.Name "zip" p) [e, e2] [] pos) (iZipX K ta) (diZ qa) := ⟨hK ▸ pi_zipX hg hm ha.p hs hpl, fun R h k kx => ha.l R h (fun vs xs F1 H1 m1 e1 h1 r1 ⟨x, y, ds, es, ex, ed, ee, q⟩ => by
  subst ex
  match vs, r1 with
  | [_, _], .cons r (.cons r' .nil) =>
    obtain ⟨b1, a, ws, rfl, hs, r⟩ := frzS_ok r ed
    obtain ⟨b2, b, ws', rfl, hs', r'⟩ := frzS_ok r' ee
    exact ⟨b1, b2, a, b, ws, ws', rfl, hs.ex h1.ex, hs'.ex h1.ex, k _ _ _ _ _ e1 h1 (fun _ => itzX_ok hs r hs' r') q⟩) kx⟩
end
end DL
namespace DL
open PySem PySem.Spec PyProof.Rows L2

/-! ### own defs -/
abbrev DFn := List D → Sr → Pv → Xv → Prop
def spOf (K : Frg) (mg : Gm) (n : Nat) (wp : DFn) : Sp := fun vs H Q E => ∃ fr F m xs P Ξ, HR K mg fr F H m ∧ RpA K mg F vs xs ∧ xs.length = n ∧ wp xs m P Ξ ∧
  (∀ v x F' H' m', Ex F F' → HR K mg fr F' H' m' → Rp K mg F' v x → P x m' → Q v H') ∧
  (∀ cls C d fs F' H' m', Ex F F' → HR K mg fr F' H' m' → XR K mg F' cls C d fs → Ξ C fs m' → E cls d H')
def startR (n : Nat) (xs : List D) : Rho := xs.map some ++ List.replicate (n - xs.length) none
/-- a def by its body's reading -/
def dFn (n : Nat) (p : DSt) : DFn := fun xs m P Ξ => p { nx := fun _ m' => P .non m', rt := P, xt := fun C fs _ m' => Ξ C fs m' } (startR n xs) m
abbrev WB (E : XK) : WX := fun cls d _ H => E cls d H

theorem RpE.start {K : Frg} {mg : Gm} {F : Hp} {vs : List V} {xs : List D} (r : RpA K mg F vs xs) (n : Nat) (N : List Str) (hN : N.length = n) : RpE K mg F (L2.start N vs) (startR n xs) := by
  unfold L2.start startR
  rw [hN, r.len]
  have h2 : ∀ k, RpE K mg F (List.replicate k none) (List.replicate k none) := fun k => by
    induction k with
    | zero => exact .nil
    | succ k ih => exact .cons trivial ih
  generalize n - xs.length = k
  have h1 : ∀ {vs : List V} {xs : List D}, RpA K mg F vs xs → RpE K mg F (vs.map some ++ List.replicate k none) (xs.map some ++ List.replicate k none) := fun {vs xs} r => by
    induction vs generalizing xs with
    | nil => cases r; exact h2 k
    | cons v vs ih => cases r with | cons r rr => exact .cons ⟨_, rfl, r⟩ (ih rr)
  exact h1 r

section
variable {P : Program} {w : World} {K : Frg} {mg : Gm} {base : Heap} {x qual : Str} {st : Stmt} {f : Addr} {fd : FuncData} {N ps : List Str} {k n : Nat} {p : DSt}
/-- a def keeps its reading -/
theorem fn_ok (F : Fun K x qual st f fd) (S : FnScope N ps (defScope st)) (hn : N.length = n)
    (hb : ∀ (cdv : Value) (A : Around) (outer : List Env) (s : Shared) (H : Hp) (E : XK), Room k (A.deeper (envOfC qual (defScope st) s.heap.objs.size f cdv)) →
      ∃ ts, DB (cxOf (L2.CX P w) P w K mg base N qual (defScope st) f cdv A outer s H E) K mg (WB E) (defBody st) ts p) :
    FnOk P w K mg base (L2.CX P w) (k + 1) f fd ps (spOf K mg ps.length (dFn n p)) := by
  refine F.okX S (fun vs H Q E h => ?_) fun cdv A outer s H vs Q E hr hsp => ?_
  · obtain ⟨fr, F1, m, xs, P1, Ξ, h1, r1, hl, _⟩ := h
    rw [r1.len, hl]
  · obtain ⟨fr, F1, m, xs, P1, Ξ, h1, r1, hl, hw, q, qx⟩ := hsp
    obtain ⟨ts, hd⟩ := hb cdv A outer s H E hr
    refine ⟨ts, hd.p, hd.l (W := WB E) ⟨h1, RpE.start r1 n N hn⟩ hw ⟨fun σ ρ F' H' m' e R z => q _ _ _ _ _ e R.h .non z, fun σ ρ F' H' m' e R z => z.elim, fun σ ρ F' H' m' e R z => z.elim, fun v x F' H' m' e h r z => q v x F' H' m' e h r z, fun cls C d fs σ ρ F' H' m' e R xr z => qx cls C d fs F' H' m' e R.h xr z⟩⟩
end
/-- what a call hands on: the store too | nothing of it | what it made anew -/
def dCall (n : Nat) (wp : DFn) (qa : DAt) : DEt := fun ρ m P Ξ => qa ρ m (fun xs m1 => xs.length = n ∧ wp xs m1 P Ξ) Ξ
def dCallP (n : Nat) (wp : DFn) (qa : DAt) : DEt := fun ρ m P Ξ => qa ρ m (fun xs m1 => xs.length = n ∧ wp xs emp (fun x _ => P x m1) (fun C fs _ => Ξ C fs m1)) Ξ
def dCallM (n : Nat) (wp : DFn) (qa : DAt) : DEt := fun ρ m P Ξ => qa ρ m (fun xs m1 => xs.length = n ∧ wp xs emp (fun x m2 => (∀ p o, m1 p = some o → m2 p = none) → P x (uni m1 m2)) (fun C fs _ => Ξ C fs m1)) Ξ
section
variable {X : Cx} {K : Frg} {mg : Gm} {W : WX} {k n : Nat} {f : Addr} {fd : FuncData} {ps : List Str} {wp : DFn} {x : Str} {p pos : Pos} {e : Expr} {es : List Expr} {t : TA} {qa : DAt}
theorem le_call {K : Frg} {mg : Gm} (la : LA K mg W t qa) : LE K mg W (tCallS (spOf K mg n wp) (WE W) t) (dCall n wp qa) := fun {fr F H m σ ρ P Ξ Q} R h k kx =>
  la R h (fun vs xs F1 H1 m1 e1 h1 r1 ⟨hl, q1⟩ => ⟨fr, F1, m1, xs, P, Ξ, h1, r1, hl, q1, fun v x F' H' m' e => k v x F' H' m' (e1.trans e), fun cls C d fs F' H' m' e => kx cls C d fs F' H' m' (e1.trans e)⟩) kx
theorem le_callP {K : Frg} {mg : Gm} (la : LA K mg W t qa) : LE K mg W (tCallS (spOf K mg n wp) (WE W) t) (dCallP n wp qa) := fun {fr F H m σ ρ P Ξ Q} R h k kx =>
  la R h (fun vs xs F1 H1 m1 e1 h1 r1 ⟨hl, q1⟩ => ⟨uni fr m1, F1, emp, xs, _, _, h1.push, r1, hl, q1, fun v x F' H' m' e hh r q => k v x F' H' m1 (e1.trans e) (HR.pop0 h1.disj hh) r q, fun cls C d fs F' H' m' e hh xr q => kx cls C d fs F' H' m1 (e1.trans e) (HR.pop0 h1.disj hh) xr q⟩) kx
theorem le_callM {K : Frg} {mg : Gm} (la : LA K mg W t qa) : LE K mg W (tCallS (spOf K mg n wp) (WE W) t) (dCallM n wp qa) := fun {fr F H m σ ρ P Ξ Q} R h k kx =>
  la R h (fun vs xs F1 H1 m1 e1 h1 r1 ⟨hl, q1⟩ => ⟨uni fr m1, F1, emp, xs, _, _, h1.push, r1, hl, q1, fun v x F' H' m' e hh r q => k v x F' H' _ (e1.trans e) (HR.pop h1.disj hh) r (q fun p o z => hh.apart p o z), fun cls C d fs F' H' m' e hh xr q => kx cls C d fs F' H' m1 (e1.trans e) (HR.pop0 h1.disj hh) xr q⟩) kx
variable (F : FnOk X.prog X.w X.K X.mg X.base (L2.CX X.prog X.w) k f fd ps (spOf K mg n wp)) (hr : Room k X.A) (hm : X.mg x = some (.ref f)) (hk : PySem.W.keepIn X.K (.ref f) = true) (hb : Binds X.K fd ps []) (tk : Takes X W) (ha : DA X K mg W (e :: es) t qa)
  (hg : Gl X x := by rfl) (hdb : (x == ("__debug__" : Str)) = false := by decide) (he : starEach (e :: es) X.env = (false, eval e X.env) :: starEach es X.env := by rfl) (hpl : (backTo pos (starEach es X.env)).any (·.1) = false := by rfl)
include F hr hm hk hb tk ha hg hdb he hpl
theorem de_call : DE X K mg W (.Call (.Name x p) (e :: es) [] pos) (tCallS (spOf K mg n wp) (WE W) t) (dCall n wp qa) := ⟨pe_callS F hr hg hm hk hb (fun σ => passAt tk σ) ha.p hdb he hpl, le_call ha.l⟩
theorem de_callP : DE X K mg W (.Call (.Name x p) (e :: es) [] pos) (tCallS (spOf K mg n wp) (WE W) t) (dCallP n wp qa) := ⟨pe_callS F hr hg hm hk hb (fun σ => passAt tk σ) ha.p hdb he hpl, le_callP ha.l⟩
theorem de_callM : DE X K mg W (.Call (.Name x p) (e :: es) [] pos) (tCallS (spOf K mg n wp) (WE W) t) (dCallM n wp qa) := ⟨pe_callS F hr hg hm hk hb (fun σ => passAt tk σ) ha.p hdb he hpl, le_callM ha.l⟩
end

/-! ### where it must be known what is being shown (repr): defs that are called from such as well -/
structure FnG (P : Program) (w : World) (K : Frg) (mg : Gm) (base : Heap) (CX : CXT) (k : Nat) (f : Addr) (fd : FuncData) (ps : List Str) (sp : Sp) : Prop where
  len : ∀ vs H Q E, sp vs H Q E → vs.length = ps.length
  run : ∀ (A : Around) (outer : List Env) (s : Shared) (H : Hp) (args : Args) (us : List Value) (vs : List V) (Q : VK) (E : XK), A.guards = some [] → Room k A → Env0 P w K mg base A outer s H → BindsTo s fd args (ps.zip us) → Vals vs us → sp vs H Q E →
    codeAny (model P w) A (.call (.ref f) args) (CR CX outer P w H s Q E) s
theorem guards_deeper {A : Around} {env : Env} (h : A.guards = some []) : (A.deeper env).guards = some [] := by
  simp [Around.deeper, h, pushGuards, Code.guards, Code.isGuard, guardsOf]
section
variable {P : Program} {w : World} {K : Frg} {mg : Gm} {base : Heap} {x qual : Str} {st : Stmt} {f : Addr} {fd : FuncData} {N ps : List Str} {k n : Nat} {p : DSt}
/-- a def whose body leans on it keeps its reading -/
theorem fnG_ok (F : Fun K x qual st f fd) (S : FnScope N ps (defScope st)) (hn : N.length = n)
    (hb : ∀ (cdv : Value) (A : Around) (outer : List Env) (s : Shared) (H : Hp) (E : XK), (A.deeper (envOfC qual (defScope st) s.heap.objs.size f cdv)).guards = some [] → Room k (A.deeper (envOfC qual (defScope st) s.heap.objs.size f cdv)) →
      ∃ ts, DB (cxOf (L2.CX P w) P w K mg base N qual (defScope st) f cdv A outer s H E) K mg (WB E) (defBody st) ts p) :
    FnG P w K mg base (L2.CX P w) (k + 1) f fd ps (spOf K mg ps.length (dFn n p)) := by
  obtain ⟨oc, od, kV, doc, pm, an, cdv, ct, osl, rfl, lk, hcd⟩ := F.ex
  refine ⟨fun vs H Q E h => ?_, fun A outer s H args us vs Q E hg hr e0 hbd r hsp => ?_⟩
  · obtain ⟨fr, F1, m, xs, P1, Ξ, h1, r1, hl, _⟩ := h
    rw [r1.len, hl]
  obtain ⟨fr, F1, m, xs, P1, Ξ, h1, r1, hl, hw, q, qx⟩ := hsp
  obtain ⟨ts, hd⟩ := hb cdv A outer s H E (guards_deeper hg) (hr.deeper _)
  have hread : ts { nx := fun _ H' => Q .non H', rt := Q } (L2.start N vs) H := hd.l (W := WB E) ⟨h1, RpE.start r1 n N hn⟩ hw
    ⟨fun σ ρ F' H' m' e R z => q _ _ _ _ _ e R.h .non z, fun σ ρ F' H' m' e R z => z.elim, fun σ ρ F' H' m' e R z => z.elim, fun v x F' H' m' e h r z => q v x F' H' m' e h r z, fun cls C d fs σ ρ F' H' m' e R xr z => qx cls C d fs F' H' m' e R.h xr z⟩
  have inHeap : K.In s.heap := e0.mod.kin.keeps fun b o e => (e0.bs b o e).1
  have unlim : s.heap.NoLimit := e0.mod.nolimit.keeps fun b o e => (e0.bs b o e).1
  have kinds : ∀ y ∈ ps.zip us, (defScope st).names.lookup y.1 = some .local ∨ ((defScope st).names.lookup y.1 = some .cell ∧ ((cellsFrom (s.heap.objs.size + 1) (defScope st).names []).lookup y.1).isSome = true) := by
    rintro ⟨nm, val⟩ hy
    rcases S.par nm (List.of_mem_zip hy).1 with z | z
    · exact .inl z
    · exact .inr ⟨z, PySem.W.cellsFrom_some _ _ _ (.inl z)⟩
  apply codeAny_call_function hr.depth (inHeap _ _ lk) rfl S.co S.gen rfl (PySem.W.codeRec_of inHeap hcd)
  apply hbd
  apply wpAny_newFunctionEnv_cells S.kind kinds
  intro env he s1 ic
  subst he
  refine ⟨unlim.keeps ic.toInCall.keep, codeAny_func ?_⟩
  have J0 := inv_start (CX := L2.CX P w) (K := K) (mg := mg) (base := base) (E := E) S hr.hd e0 (show vs.length = ps.length by rw [r1.len, hl]) r ic
  refine wpAny_mono (hd.p.run [] s1 (L2.start N vs) H _ J0 hread) (fun fl s2 hs => ?_) fun _ _ z => z
  cases fl with
  | brk => obtain ⟨_, _, _, z⟩ := hs; exact z.elim
  | cont => obtain ⟨_, _, _, z⟩ := hs; exact z.elim
  | next =>
    obtain ⟨σ2, H2, J, z⟩ := hs
    exact ⟨V.non, H2, J.os, J.bare, J.base, J.hok, rfl, z⟩
  | ret u =>
    obtain ⟨v, σ2, H2, J, rv, z⟩ := hs
    exact ⟨v, H2, J.os, J.bare, J.base, J.hok, rv, z⟩
end
section
variable {X : Cx} {K : Frg} {mg : Gm} {W : WX} {k n : Nat} {f : Addr} {fd : FuncData} {ps : List Str} {wp : DFn} {x : Str} {p pos : Pos} {e : Expr} {es : List Expr} {t : TA} {qa : DAt}
theorem peG_call {sp : Sp} {E : L2.St → XK} (F : FnG X.prog X.w X.K X.mg X.base (L2.CX X.prog X.w) k f fd ps sp) (hgd : X.A.guards = some []) (hr : Room k X.A) (hg : Gl X x) (hm : X.mg x = some (.ref f)) (hk : PySem.W.keepIn X.K (.ref f) = true) (hb : Binds X.K fd ps [])
    (hx : ∀ σ, PassesAt (L2.CX X.prog X.w) X σ (E σ)) (ha : PA X (e :: es) t) (hdb : (x == ("__debug__" : Str)) = false) (he : starEach (e :: es) X.env = (false, eval e X.env) :: starEach es X.env) (hpl : (backTo pos (starEach es X.env)).any (·.1) = false) :
    PE X (.Call (.Name x p) (e :: es) [] pos) (tCallS sp E t) := by
  constructor
  intro pins s σ H Q I h
  apply wpAny_Call_Name_kw
  apply ld_glob I hg hm _ hdb
  apply PySem.W.callWith_K (h₀ := X.base) I.ok.mod.kin hk _ he hpl
  apply thn (ha.run pos pins s σ H _ I h)
  rintro us s1 ⟨vs, H1, I1, r, q⟩
  refine ⟨I1.kIn, ?_⟩
  have hl : us.length = ps.length := r.length.symm.trans (F.len _ _ _ _ q)
  have b : BindsTo s1 fd ⟨us, []⟩ (ps.zip us) := by
    have b := hb s1 us I1.kIn (by rw [List.append_nil]; exact hl)
    rw [List.append_nil] at b
    exact b
  apply wpAny_call
  apply codeAny_mono (F.run X.A X.stack s1 H1 ⟨us, []⟩ us vs Q (E σ) hgd hr I1.env0 b r q)
  intro r s' hq
  cases r with
  | error er => exact hx σ pins H1 s1 er s' I1 hq
  | ok fl =>
    cases fl with
    | ret u => exact I1.after hq
    | next => exact hq.elim
    | brk => exact hq.elim
    | cont => exact hq.elim
variable (F : FnG X.prog X.w X.K X.mg X.base (L2.CX X.prog X.w) k f fd ps (spOf K mg n wp)) (hgd : X.A.guards = some []) (hr : Room k X.A) (hm : X.mg x = some (.ref f)) (hk : PySem.W.keepIn X.K (.ref f) = true) (hb : Binds X.K fd ps []) (tk : Takes X W) (ha : DA X K mg W (e :: es) t qa)
  (hg : Gl X x := by rfl) (hdb : (x == ("__debug__" : Str)) = false := by decide) (he : starEach (e :: es) X.env = (false, eval e X.env) :: starEach es X.env := by rfl) (hpl : (backTo pos (starEach es X.env)).any (·.1) = false := by rfl)
include F hgd hr hm hk hb tk ha hg hdb he hpl
theorem deG_call : DE X K mg W (.Call (.Name x p) (e :: es) [] pos) (tCallS (spOf K mg n wp) (WE W) t) (dCall n wp qa) := ⟨peG_call F hgd hr hg hm hk hb (fun σ => passAt tk σ) ha.p hdb he hpl, le_call ha.l⟩
theorem deG_callP : DE X K mg W (.Call (.Name x p) (e :: es) [] pos) (tCallS (spOf K mg n wp) (WE W) t) (dCallP n wp qa) := ⟨peG_call F hgd hr hg hm hk hb (fun σ => passAt tk σ) ha.p hdb he hpl, le_callP ha.l⟩
theorem deG_callM : DE X K mg W (.Call (.Name x p) (e :: es) [] pos) (tCallS (spOf K mg n wp) (WE W) t) (dCallM n wp qa) := ⟨peG_call F hgd hr hg hm hk hb (fun σ => passAt tk σ) ha.p hdb he hpl, le_callM ha.l⟩
end

/-! ### calls of built-ins, by values -/
abbrev RCD := List D → Sr → Pv → Prop
def LC (K : Frg) (mg : Gm) (r : List V → Hp → VK → Prop) (rd : RCD) : Prop := ∀ {fr : Sr} {F H : Hp} {m : Sr} {vs : List V} {xs : List D} {P : Pv} {Q : VK}, HR K mg fr F H m → RpA K mg F vs xs → rd xs m P →
  (∀ v z F' H' m', Ex F F' → HR K mg fr F' H' m' → Rp K mg F' v z → P z m' → Q v H') → r vs H Q
def dCB (rd : RCD) (qa : DAt) : DEt := fun ρ m P Ξ => qa ρ m (fun xs m1 => rd xs m1 P) Ξ
section
variable {X : Cx} {K : Frg} {mg : Gm} {W : WX} {x : Str} {p pos : Pos} {e : Expr} {es : List Expr} {t : TA} {qa : DAt} {id T : String} {r : List V → Hp → VK → Prop} {rd : RCD}
theorem le_cb {K : Frg} {mg : Gm} (l : LC K mg r rd) (la : LA K mg W t qa) : LE K mg W (tCB r t) (dCB rd qa) := fun R h k kx => la R h (fun vs xs F1 H1 m1 e1 h1 r1 q1 => l h1 r1 q1 fun v z F' H' m' e => k v z F' H' m' (e1.trans e)) kx
theorem de_cb (hc : CallR X (.builtin id) r) (l : LC K mg r rd) (hm : X.mg x = none) (hv : bootBuiltins x = some (.builtin id)) (ha : DA X K mg W (e :: es) t qa) (hg : Gl X x := by rfl) (hn : x ≠ "__name__" := by decide) (hdb : (x == ("__debug__" : Str)) = false := by decide)
    (he : starEach (e :: es) X.env = (false, eval e X.env) :: starEach es X.env := by rfl) (hpl : (backTo pos (starEach es X.env)).any (·.1) = false := by rfl) : DE X K mg W (.Call (.Name x p) (e :: es) [] pos) (tCB r t) (dCB rd qa) := ⟨pe_callB hc hg hm hv ha.p hn hdb he hpl, le_cb l ha.l⟩
theorem de_ct (hc : CallR X (.type T) r) (l : LC K mg r rd) (hm : X.mg x = none) (hv : bootBuiltins x = some (.type T)) (ha : DA X K mg W (e :: es) t qa) (hg : Gl X x := by rfl) (hn : x ≠ "__name__" := by decide) (hdb : (x == ("__debug__" : Str)) = false := by decide)
    (he : starEach (e :: es) X.env = (false, eval e X.env) :: starEach es X.env := by rfl) (hpl : (backTo pos (starEach es X.env)).any (·.1) = false := by rfl) : DE X K mg W (.Call (.Name x p) (e :: es) [] pos) (tCB r t) (dCB rd qa) := ⟨pe_callTy hc hg hm hv ha.p hn hdb he hpl, le_cb l ha.l⟩
end
section
variable {X : Cx} {K : Frg} {mg : Gm}
theorem callr_or {f : Value} {r r' : List V → Hp → VK → Prop} (h : CallR X f r) (h' : CallR X f r') : CallR X f (fun x H Q => r x H Q ∨ r' x H Q) :=
  fun pins s σ H x v Q I rx q => q.elim (h pins s σ H x v Q I rx) (h' pins s σ H x v Q I rx)
theorem lc_or {r r' : List V → Hp → VK → Prop} {d d' : RCD} (h : LC K mg r d) (h' : LC K mg r' d') : LC K mg (fun x H Q => r x H Q ∨ r' x H Q) (fun x m P => d x m P ∨ d' x m P) :=
  fun hr rx q k => q.elim (fun q => .inl (h hr rx q k)) (fun q => .inr (h' hr rx q k))
/-- len -/
def cLen : RCD := fun xs m P => (∃ x ds, xs = [x] ∧ seqOf m x = some ds ∧ P (.int (ds.length : Int)) m) ∨ ∃ s, xs = [.str s] ∧ s.length ≤ sizeLine ∧ P (.int (s.length : Int)) m
def rLenU (K : Frg) : List V → Hp → VK → Prop := fun xs H Q => ∃ x n, xs = [x] ∧ LenV K x H n ∧ Q (.int n) H
theorem callK_len {K : Frg} (hK : X.K = K := by rfl) : CallR X (.builtin "len") (rLenU K) := hK ▸ call_len
def rListU (K : Frg) : List V → Hp → VK → Prop := fun xs H Q => ∃ p ys, xs = [.ref p] ∧ (SqL K H p ys ∨ SqT K H p ys) ∧ ∀ l, H l = none → Q (.ref l) (upd H l (.lst ys))
theorem callK_list {K : Frg} (hK : X.K = K := by rfl) : CallR X (.type "list") (rListU K) := hK ▸ call_list_of
def rTupU (K : Frg) : List V → Hp → VK → Prop := fun xs H Q => ∃ p ys, xs = [.ref p] ∧ ((SqL K H p ys ∧ ∀ l, H l = none → Q (.ref l) (upd H l (.tup ys))) ∨ (SqT K H p ys ∧ Q (.ref p) H))
theorem callK_tuple {K : Frg} (hK : X.K = K := by rfl) : CallR X (.type "tuple") (rTupU K) := hK ▸ call_tuple_of
theorem mtK_index {K : Frg} (hK : X.K = K := by rfl) : MtR X "list.index" (rIndex K) := hK ▸ mt_index
theorem lc_len : LC K mg (rLenU K) cLen := fun {fr F H m vs xs P Q} hr r q k => by
  rcases q with ⟨x, ds, e, es, q⟩ | ⟨s, e, hs, q⟩
  · subst e
    cases r with
    | cons r rr =>
      cases rr
      obtain ⟨p, ws, rfl, h1, r1⟩ := seqOf_ok hr r es
      refine ⟨_, ws.length, rfl, ?_, ?_⟩
      · rcases h1 with h1 | h1
        · exact .inl ⟨ws, h1, rfl⟩
        · exact .inr ⟨ws, h1, rfl⟩
      · rw [r1.len]
        exact k _ _ _ _ _ (Evl.Ex.refl _) hr (.int _) q
  · subst e
    cases r with
    | cons r rr =>
      cases r; cases rr
      exact ⟨_, s.length, rfl, ⟨hs, rfl⟩, k _ _ _ _ _ (Evl.Ex.refl _) hr (.int _) q⟩
/-- one int -/
def cI (g : Int → D) : RCD := fun xs m P => ∃ i, xs = [.int i] ∧ P (g i) m
theorem lc_I {g : Int → V} {g' : Int → D} (h : ∀ F i, Rp K mg F (g i) (g' i)) : LC K mg (fun xs H Q => ∃ i, xs = [.int i] ∧ Q (g i) H) (cI g') := fun {fr F H m vs xs P Q} hr r ⟨i, e, q⟩ k => by
  subst e
  cases r with
  | cons r rr =>
    cases r; cases rr
    exact ⟨i, rfl, k _ _ _ _ _ (Evl.Ex.refl _) hr (h _ i) q⟩
def cAbs : RCD := cI fun i => .int (if i < 0 then -i else i)
theorem lc_abs : LC K mg (fun xs H Q => ∃ i, xs = [.int i] ∧ Q (.int (if i < 0 then -i else i)) H) cAbs := lc_I fun _ _ => .int _
def cInt : RCD := fun xs m P => cI (fun i => .int i) xs m P ∨ ∃ k, xs = [.bl k] ∧ P (.int (if k then 1 else 0)) m
theorem lc_int : LC K mg (fun xs H Q => (∃ i, xs = [.int i] ∧ Q (.int i) H) ∨ ∃ k, xs = [.bl k] ∧ Q (.int (if k then 1 else 0)) H) cInt := fun {fr F H m vs xs P Q} hr r q k => by
  rcases q with ⟨i, e, q⟩ | ⟨i, e, q⟩
  · subst e
    cases r with
    | cons r rr =>
      cases r; cases rr
      exact .inl ⟨i, rfl, k _ _ _ _ _ (Evl.Ex.refl _) hr (.int _) q⟩
  · subst e
    cases r with
    | cons r rr =>
      cases r; cases rr
      exact .inr ⟨i, rfl, k _ _ _ _ _ (Evl.Ex.refl _) hr (.int _) q⟩
/-- two ints -/
def cII (g : Int → Int → D) : RCD := fun xs m P => ∃ i j, xs = [.int i, .int j] ∧ P (g i j) m
theorem lc_II {g : Int → Int → V} {g' : Int → Int → D} (h : ∀ F i j, Rp K mg F (g i j) (g' i j)) : LC K mg (fun xs H Q => ∃ i j, xs = [.int i, .int j] ∧ Q (g i j) H) (cII g') := fun {fr F H m vs xs P Q} hr r ⟨i, j, e, q⟩ k => by
  subst e
  cases r with
  | cons r rr =>
    cases rr with
    | cons r' rr =>
      cases r; cases r'; cases rr
      exact ⟨i, j, rfl, k _ _ _ _ _ (Evl.Ex.refl _) hr (h _ i j) q⟩
def cMax2 : RCD := cII fun i j => .int (if j > i then j else i)
def cMin2 : RCD := cII fun i j => .int (if j < i then j else i)
theorem lc_max2 : LC K mg (fun xs H Q => ∃ i j, xs = [.int i, .int j] ∧ Q (.int (if j > i then j else i)) H) cMax2 := lc_II fun _ _ _ => .int _
theorem lc_min2 : LC K mg (fun xs H Q => ∃ i j, xs = [.int i, .int j] ∧ Q (.int (if j < i then j else i)) H) cMin2 := lc_II fun _ _ _ => .int _
/-- list(..), tuple(..) -/
def cList : RCD := fun xs m P => ∃ x ds, xs = [x] ∧ seqOf m x = some ds ∧ P (.lst ds) m
def cListM : RCD := fun xs m P => ∃ x ds, xs = [x] ∧ seqOf m x = some ds ∧ ∀ p, m p = none → P (.ref p) (put m p (.lst ds))
theorem lc_list : LC K mg (rListU K) cList := fun {fr F H m vs xs P Q} hr r ⟨x, ds, e, es, q⟩ k => by
  subst e
  cases r with
  | cons r rr =>
    cases rr
    obtain ⟨p, ws, rfl, h1, r1⟩ := seqOf_ok hr r es
    exact ⟨p, ws, rfl, h1, fun l hl => k _ _ _ _ _ (hr.exF hl) (hr.newF hl) (.lst upd_same (r1.mono (hr.exF hl))) q⟩
theorem lc_listM : LC K mg (rListU K) cListM := fun {fr F H m vs xs P Q} hr r ⟨x, ds, e, es, q⟩ k => by
  subst e
  cases r with
  | cons r rr =>
    cases rr
    obtain ⟨p, ws, rfl, h1, r1⟩ := seqOf_ok hr r es
    exact ⟨p, ws, rfl, h1, fun l hl => k _ _ _ _ _ (Evl.Ex.refl _) (hr.newM (mo := .lst ds) hl ⟨_, upd_same, r1⟩) (.ref l) (q l (hr.freeM hl))⟩
def cTuple : RCD := fun xs m P => (∃ x ds, xs = [x] ∧ seqL m x = some ds ∧ P (.tup ds) m) ∨ ∃ x ds, xs = [x] ∧ tupOf x = some ds ∧ P x m
theorem lc_tuple : LC K mg (rTupU K) cTuple := fun {fr F H m vs xs P Q} hr r q k => by
  rcases q with ⟨x, ds, e, es, q⟩ | ⟨x, ds, e, es, q⟩
  · subst e
    cases r with
    | cons r rr =>
      cases rr
      obtain ⟨p, ws, rfl, h1, r1⟩ := seqL_ok hr r es
      exact ⟨p, ws, rfl, .inl ⟨h1, fun l hl => k _ _ _ _ _ (hr.exF hl) (hr.newF hl) (.tup upd_same (r1.mono (hr.exF hl))) q⟩⟩
  · subst e
    cases r with
    | cons r rr =>
      cases rr
      obtain ⟨p, ws, rfl, h1, r1⟩ := tupOf_ok hr r es
      exact ⟨p, ws, rfl, .inr ⟨h1, k _ _ _ _ _ (Evl.Ex.refl _) hr r q⟩⟩
/-- max, min, sum of a list or a tuple of ints -/
def cMaxL : RCD := fun xs m P => ∃ (x : D) (ns : List Int), xs = [x] ∧ seqOf m x = some (ns.map D.int) ∧ 0 < ns.length ∧ ∀ a, a ∈ ns → (∀ b, b ∈ ns → b ≤ a) → P (.int a) m
def cMinL : RCD := fun xs m P => ∃ (x : D) (ns : List Int), xs = [x] ∧ seqOf m x = some (ns.map D.int) ∧ 0 < ns.length ∧ ∀ a, a ∈ ns → (∀ b, b ∈ ns → a ≤ b) → P (.int a) m
def cSum : RCD := fun xs m P => ∃ (x : D) (ns : List Int), xs = [x] ∧ seqOf m x = some (ns.map D.int) ∧ P (.int ns.sum) m
def rMaxX (K : Frg) : List V → Hp → VK → Prop := fun vs H Q => ∃ (k : Bool) (a : Addr) (ns : List Int), vs = [V.ref a] ∧ SqX k K H a (ns.map V.int) ∧ 0 < ns.length ∧ ∀ m, m ∈ ns → (∀ y, y ∈ ns → y ≤ m) → Q (.int m) H
def rMinX (K : Frg) : List V → Hp → VK → Prop := fun vs H Q => ∃ (k : Bool) (a : Addr) (ns : List Int), vs = [V.ref a] ∧ SqX k K H a (ns.map V.int) ∧ 0 < ns.length ∧ ∀ m, m ∈ ns → (∀ y, y ∈ ns → m ≤ y) → Q (.int m) H
def rSumX (K : Frg) : List V → Hp → VK → Prop := fun vs H Q => ∃ (k : Bool) (a : Addr) (ns : List Int), vs = [V.ref a] ∧ SqX k K H a (ns.map V.int) ∧ Q (.int ns.sum) H
theorem reads_ints {h : Heap} : ∀ {vs : List Value} {ns : List Int}, IntsAre vs ns → ReadsAll h vs (ns.map PyData.int) []
  | _, _, .nil => .nil
  | _, _, .cons n t r => .cons (as := []) (bs := []) (.int n t) (reads_ints r)
theorem alike_intsA (ns : List Int) : PySem.W.AlikeAll (ns.map PyData.int) := ⟨fun x hx y hy => by
  obtain ⟨a, _, rfl⟩ := List.mem_map.mp hx
  obtain ⟨b, _, rfl⟩ := List.mem_map.mp hy
  rfl, fun x hx => by
  obtain ⟨a, _, rfl⟩ := List.mem_map.mp hx
  exact fun z => nomatch z⟩
theorem depth_ints : ∀ ns : List Int, PyData.depthAll (ns.map PyData.int) = 0
  | [] => rfl
  | _ :: r => by
    show max 0 (PyData.depthAll (r.map PyData.int)) = 0
    rw [depth_ints r]; rfl
theorem seqX_ints {X : Cx} {pins : List (Addr × Obj)} {σ : L2.St} {H : Hp} {s : Shared} {a : Addr} {ns : List Int} {k : Bool} (I : Inv X pins σ H s) (h : SqX k X.K H a (ns.map V.int)) : ∃ its : List Value, IntsAre its ns ∧ ObjX k s.heap a its.toArray := by
  obtain ⟨its, r, o⟩ := seqX I h
  exact ⟨its, r.ints, o⟩
theorem crK_sum {X : Cx} {K : Frg} (hc : X.calm = true) (hK : X.K = K := by rfl) : CallR X (.builtin "sum") (rSumX K) := by
  subst hK
  intro pins s σ H vs us Q I r ⟨k, a, ns, ex, hs, q⟩
  subst ex
  obtain ⟨its, rv, ob⟩ := seqX_ints I hs
  rw [Vals.ref1 r]
  cases k with
  | false => exact sum_raw (I.ok.hd hc) (its := its) ob rv fun h' tk t' hk => ⟨.int _, H, I.kept hk, ⟨_, rfl⟩, q⟩
  | true =>
    obtain ⟨xs, e⟩ := rv.allInts.items
    have hn : numsOf (intItems xs).toList = ns := by rw [← e]; exact rv.numsOf
    rw [nums_intItems] at hn
    have ob' : s.heap.IsTuple a its.toArray := ob
    rw [e] at ob'
    refine PySem.W.ktm_sumG (I.ok.hd hc) ob' fun h' tk t' hk => ⟨.int _, H, I.kept hk, ⟨_, rfl⟩, ?_⟩
    rw [preSum_eq, List.take_of_length_le (by simp), hn]; exact q
theorem crK_max {X : Cx} {K : Frg} (hc : X.calm = true) (hu : X.A.units + 64 < cLine) (hK : X.K = K := by rfl) : CallR X (.builtin "max") (rMaxX K) := by
  subst hK
  intro pins s σ H vs us Q I r ⟨k, a, ns, ex, hs, h0, q⟩
  subst ex
  obtain ⟨its, rv, ob⟩ := seqX_ints I hs
  rw [Vals.ref1 r]
  cases k with
  | false => exact max_raw (I.ok.hd hc) (its := its) ob rv h0 fun h' tk m t' hk h1 h2 => ⟨.int _, H, I.kept hk, ⟨_, rfl⟩, q m h1 h2⟩
  | true =>
    match ns, h0 with
    | n :: ns, _ =>
      refine PySem.W.max_tuple_data (xs := ns.map PyData.int) (x := .int n) (I.ok.hd hc) (vs := its.toArray) ob (reads_ints rv) (alike_intsA (n :: ns)) (by have z := depth_ints (n :: ns); rw [List.map_cons] at z; omega) fun i v h' tk bs _ hr hk => ?_
      rw [PySem.W.maxD_ints] at hr
      obtain ⟨f1, f2, f3⟩ := PySem.W.Mm.fold_max ns n
      cases hr with
      | int i t => exact ⟨.int _, H, I.kept hk, ⟨_, rfl⟩, q _ (List.mem_cons.mpr f1) fun y hy => by
          rcases List.mem_cons.mp hy with e | hy
          · rw [e]; exact f2
          · exact f3 y hy⟩
theorem crK_min {X : Cx} {K : Frg} (hc : X.calm = true) (hu : X.A.units + 64 < cLine) (hK : X.K = K := by rfl) : CallR X (.builtin "min") (rMinX K) := by
  subst hK
  intro pins s σ H vs us Q I r ⟨k, a, ns, ex, hs, h0, q⟩
  subst ex
  obtain ⟨its, rv, ob⟩ := seqX_ints I hs
  rw [Vals.ref1 r]
  cases k with
  | false => exact min_raw (I.ok.hd hc) (its := its) ob rv h0 fun h' tk m t' hk h1 h2 => ⟨.int _, H, I.kept hk, ⟨_, rfl⟩, q m h1 h2⟩
  | true =>
    match ns, h0 with
    | n :: ns, _ =>
      refine PySem.W.min_tuple_data (xs := ns.map PyData.int) (x := .int n) (I.ok.hd hc) (vs := its.toArray) ob (reads_ints rv) (alike_intsA (n :: ns)) (by have z := depth_ints (n :: ns); rw [List.map_cons] at z; omega) fun i v h' tk bs _ hr hk => ?_
      rw [PySem.W.minD_ints] at hr
      obtain ⟨f1, f2, f3⟩ := PySem.W.Mm.fold_min ns n
      cases hr with
      | int i t => exact ⟨.int _, H, I.kept hk, ⟨_, rfl⟩, q _ (List.mem_cons.mpr f1) fun y hy => by
          rcases List.mem_cons.mp hy with e | hy
          · rw [e]; exact f2
          · exact f3 y hy⟩
theorem seqX_of {fr : Sr} {F H : Hp} {m : Sr} {v : V} {x : D} {ns : List Int} (h : HR K mg fr F H m) (r : Rp K mg F v x) (e : seqOf m x = some (ns.map D.int)) : ∃ k p, v = .ref p ∧ SqX k K H p (ns.map V.int) := by
  obtain ⟨p, ws, rfl, h1, r1⟩ := seqOf_ok h r e
  rw [r1.of_ints] at h1
  rcases h1 with h1 | h1
  · exact ⟨false, p, rfl, h1⟩
  · exact ⟨true, p, rfl, h1⟩
theorem lc_maxL : LC K mg (rMaxX K) cMaxL := fun {fr F H m vs xs P Q} hr r ⟨x, ns, e, es, h0, q⟩ k => by
  subst e
  match vs, r with
  | [_], .cons r .nil =>
    obtain ⟨b, p, rfl, h1⟩ := seqX_of hr r es
    exact ⟨b, p, ns, rfl, h1, h0, fun a ha hb => k _ _ _ _ _ (Evl.Ex.refl _) hr (.int _) (q a ha hb)⟩
theorem lc_minL : LC K mg (rMinX K) cMinL := fun {fr F H m vs xs P Q} hr r ⟨x, ns, e, es, h0, q⟩ k => by
  subst e
  match vs, r with
  | [_], .cons r .nil =>
    obtain ⟨b, p, rfl, h1⟩ := seqX_of hr r es
    exact ⟨b, p, ns, rfl, h1, h0, fun a ha hb => k _ _ _ _ _ (Evl.Ex.refl _) hr (.int _) (q a ha hb)⟩
theorem lc_sum : LC K mg (rSumX K) cSum := fun {fr F H m vs xs P Q} hr r ⟨x, ns, e, es, q⟩ k => by
  subst e
  match vs, r with
  | [_], .cons r .nil =>
    obtain ⟨b, p, rfl, h1⟩ := seqX_of hr r es
    exact ⟨b, p, ns, rfl, h1, k _ _ _ _ _ (Evl.Ex.refl _) hr (.int _) q⟩
/-- repr of data -/
def rRepr (K : Frg) : List V → Hp → VK → Prop := fun xs H Q => ∃ a d, xs = [.ref a] ∧ Dp K H (.ref a) d ∧ SeqAt.shaped d = true ∧ d.showable = true ∧ d.shown.length ≤ sizeLine ∧ Q (.str d.shown) H
theorem call_repr {k : Nat} (hg : X.A.guards = some []) (hr : Room k X.A) (hK : X.K = K := by rfl) : CallR X (.builtin "repr") (rRepr K) := by
  subst hK
  intro pins s σ H xs us Q I rx ⟨a, d, e, hd, hs, hw, hz, q⟩
  subst e
  obtain ⟨u, rfl, ru⟩ := Vals.one rx
  obtain ⟨as, hre⟩ := Dp.reads I d _ _ hd ru
  obtain rfl : u = Value.ref a := ru
  have hu := hr.un
  have hdp := SeqAt.depth_of_shaped hs
  refine repr_of_reads' hre hw (PyData.noDict_hsm (PyData.hasDict_of_canLay d (SeqAt.canLay_of_shaped hs))) hg (by omega) (fun _ _ z => z) (fun h' t tk kp => ?_) hz
  exact ⟨.str d.shown, H, I.kept (t' := tk) kp, ⟨t, rfl⟩, q⟩
def cRepr : RCD := fun xs m P => ∃ x d, xs = [x] ∧ (lstOf m x).isSome = true ∧ Py m x d ∧ SeqAt.shaped d = true ∧ d.showable = true ∧ d.shown.length ≤ sizeLine ∧ P (.str d.shown) m
theorem lc_repr : LC K mg (rRepr K) cRepr := fun {fr F H m vs xs P Q} hr r ⟨x, d, e, ei, hp, hs, hw, hz, q⟩ k => by
  subst e
  cases r with
  | cons r rr =>
    cases rr
    obtain ⟨ds, ed⟩ := Option.isSome_iff_exists.mp ei
    obtain ⟨p, ws, rfl, h1, r1⟩ := lstOf_ok hr r ed
    exact ⟨p, d, rfl, hp.dp hr r, hs, hw, hz, k _ _ _ _ _ (Evl.Ex.refl _) hr (.str _) q⟩
end

/-! ### methods of built-in types -/
abbrev RMD := D → List D → Sr → Pv → Prop
def LM (K : Frg) (mg : Gm) (r : V → List V → Hp → VK → Prop) (rd : RMD) : Prop := ∀ {fr : Sr} {F H : Hp} {m : Sr} {v : V} {x : D} {vs : List V} {xs : List D} {P : Pv} {Q : VK}, HR K mg fr F H m → Rp K mg F v x → RpA K mg F vs xs → rd x xs m P →
  (∀ v z F' H' m', Ex F F' → HR K mg fr F' H' m' → Rp K mg F' v z → P z m' → Q v H') → r v vs H Q
abbrev IsTy := Sr → D → Prop
def isL : IsTy := fun m x => ∃ ds, seqL m x = some ds
def isS : IsTy := fun _ x => ∃ s, x = .str s
def TyO (K : Frg) (mg : Gm) (T : String) (ty : IsTy) : Prop := ∀ {fr : Sr} {F H : Hp} {m : Sr} {v : V} {x : D}, HR K mg fr F H m → Rp K mg F v x → ty m x → tyV K T v H
theorem tyO_L {K : Frg} {mg : Gm} : TyO K mg "list" isL := fun hr r ⟨ds, e⟩ => by
  obtain ⟨p, ws, rfl, h1, r1⟩ := seqL_ok hr r e
  exact .inl ⟨rfl, ws, h1⟩
theorem tyO_S {K : Frg} {mg : Gm} : TyO K mg "str" isS := fun hr r ⟨s, e⟩ => by
  subst e; cases r; rfl
def dBM (ty : IsTy) (rd : RMD) (po : DEt) (qa : DAt) : DEt := fun ρ m P Ξ => po ρ m (fun x m1 => ty m1 x ∧ qa ρ m1 (fun xs m2 => rd x xs m2 P) Ξ) Ξ
def dBM0 (ty : IsTy) (rd : RMD) (po : DEt) : DEt := fun ρ m P Ξ => po ρ m (fun x m1 => ty m1 x ∧ rd x [] m1 P) Ξ
section
variable {X : Cx} {K : Frg} {mg : Gm} {W : WX} {o e : Expr} {es : List Expr} {to : TE} {t : TA} {po : DEt} {qa : DAt} {name : Str} {T id : String} {r : V → List V → Hp → VK → Prop} {rd : RMD} {ty : IsTy} {apos cpos : Pos}
theorem de_bm (pa : PlainAttrs T) (slot : Slot T name id) (hty : typeOf (.builtin id) = pure (.type "method_descriptor")) (hm : MtR X id r) (l : LM K mg r rd) (tO : TyO K mg T ty) (ho : DE X K mg W o to po) (ha : DA X K mg W (e :: es) t qa)
    (hbase : attributeBase o name X.env (eval o X.env) = eval o X.env := by rfl)
    (hfew : ((backTo cpos (starEach (e :: es) X.env)).all (fun x => !x.1) && (backToKw cpos (keywordEach [] X.env)).all (fun x => x.1.isSome) && decide ((e :: es).length + ([] : List Keyword).length + (if ([] : List Keyword).isEmpty then 0 else 1) < 30)) = true := by rfl)
    (hline : (apos.endLine == cpos.line) = true := by rfl) (hs : starEach (e :: es) X.env = (false, eval e X.env) :: starEach es X.env := by rfl) (hplain : (backTo cpos (starEach es X.env)).any (·.1) = false := by rfl) (hK : X.K = K := by rfl) :
    DE X K mg W (.Call (.Attribute o name apos) (e :: es) [] cpos) (tBM K T r to t) (dBM ty rd po qa) := ⟨hK ▸ pe_bm pa slot hty hm ho.p ha.p hbase hfew hline hs hplain, fun {fr F H m σ ρ P Ξ Q} R h k kx =>
  ho.l R h (fun v x F1 H1 m1 e1 h1 r1 ⟨ht, q1⟩ => ⟨tO h1 r1 ht, ha.l (R.to e1 h1) q1 (fun vs xs F2 H2 m2 e2 h2 r2 q2 => l h2 (r1.mono e2) r2 q2 fun v z F' H' m' e3 => k v z F' H' m' ((e1.trans e2).trans e3)) fun cls C d fs F' H' m' e3 => kx cls C d fs F' H' m' (e1.trans e3)⟩) kx⟩
theorem de_bm0 (pa : PlainAttrs T) (slot : Slot T name id) (hty : typeOf (.builtin id) = pure (.type "method_descriptor")) (hm : MtR X id r) (l : LM K mg r rd) (tO : TyO K mg T ty) (ho : DE X K mg W o to po)
    (hbase : attributeBase o name X.env (eval o X.env) = eval o X.env := by rfl) (hline : (apos.endLine == cpos.line) = true := by rfl) (hK : X.K = K := by rfl) : DE X K mg W (.Call (.Attribute o name apos) [] [] cpos) (tBM0 K T r to) (dBM0 ty rd po) := ⟨hK ▸ pe_bm0 pa slot hty hm ho.p hbase hline, fun {fr F H m σ ρ P Ξ Q} R h k kx =>
  ho.l R h (fun v x F1 H1 m1 e1 h1 r1 ⟨ht, q1⟩ => ⟨tO h1 r1 ht, l h1 r1 .nil q1 fun v z F' H' m' e3 => k v z F' H' m' (e1.trans e3)⟩) kx⟩
end
section
variable {K : Frg} {mg : Gm}
def mApp : RMD := fun x xs m P => ∃ p ds y, x = .ref p ∧ xs = [y] ∧ m p = some (.lst ds) ∧ ds.length < sizeLine ∧ P .non (put m p (.lst (ds ++ [y])))
theorem lm_app : LM K mg rAppend mApp := fun {fr F H m v x vs xs P Q} hr rx r ⟨p, ds, y, ex, e, hm, hl, q⟩ k => by
  subst ex e
  cases rx
  cases r with
  | cons r rr =>
    cases rr
    obtain ⟨_, ws, hH, rA⟩ := hr.st p _ hm
    exact ⟨p, ws, _, rfl, rfl, hH, by rw [rA.len]; exact hl, k _ _ _ _ _ (Evl.Ex.refl _) (hr.chg (mo := .lst (ds ++ [y])) hm ⟨_, upd_same, rA.app (.cons r .nil)⟩) .non q⟩
def mPop : RMD := fun x xs m P => ∃ p ds y, x = .ref p ∧ xs = [] ∧ m p = some (.lst ds) ∧ ds[ds.length - 1]? = some y ∧ P y (put m p (.lst ds.dropLast))
theorem RpA.dropLast {F : Hp} {vs : List V} {ds : List D} (r : RpA K mg F vs ds) : RpA K mg F vs.dropLast ds.dropLast := by
  rw [List.dropLast_eq_take, List.dropLast_eq_take, r.len]
  exact r.take _
theorem RpA.erase {F : Hp} {vs : List V} {ds : List D} (r : RpA K mg F vs ds) (n : Nat) : RpA K mg F (vs.eraseIdx n) (ds.eraseIdx n) := by
  rw [List.eraseIdx_eq_take_drop_succ, List.eraseIdx_eq_take_drop_succ]
  exact (r.take n).app (r.drop (n + 1))
theorem lm_pop : LM K mg rPop mPop := fun {fr F H m v x vs xs P Q} hr rx r ⟨p, ds, y, ex, e, hm, hy, q⟩ k => by
  subst ex e
  cases rx; cases r
  obtain ⟨_, ws, hH, rA⟩ := hr.st p _ hm
  obtain ⟨u, hu, ru⟩ := rA.at hy
  exact ⟨p, ws, u, rfl, rfl, hH, by rw [rA.len]; exact hu, k _ _ _ _ _ (Evl.Ex.refl _) (hr.chg (mo := .lst ds.dropLast) hm ⟨_, upd_same, rA.dropLast⟩) ru q⟩
def mPopAt : RMD := fun x xs m P => ∃ p ds i k y, x = .ref p ∧ xs = [.int i] ∧ m p = some (.lst ds) ∧ -(2 ^ 63) ≤ i ∧ i < 2 ^ 63 ∧ seqIndex? i ds.length = some k ∧ ds[k]? = some y ∧ P y (put m p (.lst (ds.eraseIdx k)))
theorem lm_popAt : LM K mg rPopAt mPopAt := fun {fr F H m v x vs xs P Q} hr rx r ⟨p, ds, i, j, y, ex, e, hm, b1, b2, hj, hy, q⟩ k => by
  subst ex e
  cases rx
  cases r with
  | cons r rr =>
    cases r; cases rr
    obtain ⟨_, ws, hH, rA⟩ := hr.st p _ hm
    obtain ⟨u, hu, ru⟩ := rA.at hy
    exact ⟨p, ws, i, j, u, rfl, rfl, hH, b1, b2, by rw [rA.len]; exact hj, hu, k _ _ _ _ _ (Evl.Ex.refl _) (hr.chg (mo := .lst (ds.eraseIdx j)) hm ⟨_, upd_same, rA.erase j⟩) ru q⟩
/-- index of a flat thing: the first place -/
def mIndex : RMD := fun x xs m P => ∃ ds y j z, xs = [y] ∧ seqL m x = some ds ∧ flatD y = true ∧ ds.all flatD = true ∧ ds[j]? = some z ∧ eqD z y = true ∧ (∀ (i : Nat) (z' : D), i < j → ds[i]? = some z' → eqD z' y = false) ∧ P (.int (j : Nat)) m
theorem lm_index : LM K mg (rIndex K) mIndex := fun {fr F H m v x vs xs P Q} hr rx r ⟨ds, y, j, z, e, hs, fy, fs, hj, hz, hb, q⟩ k => by
  subst e
  cases r with
  | cons r rr =>
    cases rr
    obtain ⟨p, ws, rfl, h1, rA⟩ := seqL_ok hr rx hs
    obtain ⟨u, hu, ru⟩ := rA.at hj
    have fz : flatD z = true := List.all_eq_true.mp fs z (List.mem_of_getElem? hj)
    refine ⟨p, ws, _, j, u, rfl, rfl, h1, flat_ok r fy, flats_ok rA fs, hu, by rw [eq_ok ru r fz fy]; exact hz, fun i z' hi hz' => ?_, k _ _ _ _ _ (Evl.Ex.refl _) hr (.int _) q⟩
    obtain ⟨d', hd', rd'⟩ := rA.in hz'
    rw [eq_ok rd' r (List.all_eq_true.mp fs d' (List.mem_of_getElem? hd')) fy]
    exact hb i d' hi hd'
end
end DL
namespace DL
open PySem PySem.Spec PyProof.Rows L2

/-! ### try with several clauses, some of them with a name -/
structure Hd where
  c : Value
  slot : Option Nat
  ts : Addr → Value → Option Addr → TS
def endI (i : Nat) (D : Ends) : Ends := { nx := fun σ' H' => D.nx (σ'.set i none) H', rt := D.rt, bk := fun σ' H' => D.bk (σ'.set i none) H', ct := fun σ' H' => D.ct (σ'.set i none) H' }
def wN (K : Frg) (Wout : WX) (D : Ends) : List Hd → WX
  | [] => Wout
  | h :: r => fun cls d σ H => ∃ b, PySem.W.exmOne K cls h.c = some b ∧
      (b = true → ∀ a, H a = none → (h.slot = none → h.ts a cls d D σ H) ∧ ∀ i, h.slot = some i → h.ts a cls d (endI i D) (σ.set i (some (.ref a))) H) ∧ (b = false → wN K Wout D r cls d σ H)
inductive HdN (X : Cx) : List ExceptHandler → List Hd → Prop
  | nil : HdN X [] []
  | plain {x : Str} {c : Value} {ts : Addr → Value → Option Addr → TS} {b₀ : Stmt} {suite : List Stmt} {np pos' : Pos} {hds : List ExceptHandler} {l : List Hd} (hc : Names X x c)
      (hsu : ∀ (a : Addr) (oe : Obj) (cls : Value) (d : Option Addr) (pn : List (Addr × Obj)), Zc cls d oe → (∃ vs, oe.data = .fields vs) → PSs (X.suite a ((a, oe) :: pn)) (b₀ :: suite) (ts a cls d)) (r : HdN X hds l) :
      HdN X (.ExceptHandler (some (.Name x np)) none (b₀ :: suite) pos' :: hds) (⟨c, none, ts⟩ :: l)
  | named {x n : Str} {c : Value} {i : Nat} {ts : Addr → Value → Option Addr → TS} {b₀ : Stmt} {suite : List Stmt} {np pos' : Pos} {hds : List ExceptHandler} {l : List Hd} (hc : Names X x c) (hi : X.N[i]? = some n) (hln : X.env.kindOf n = some .local)
      (hsu : ∀ (a : Addr) (oe : Obj) (cls : Value) (d : Option Addr) (pn : List (Addr × Obj)), Zc cls d oe → (∃ vs, oe.data = .fields vs) → PSs (X.suite a ((a, oe) :: pn)) (b₀ :: suite) (ts a cls d)) (r : HdN X hds l) :
      HdN X (.ExceptHandler (some (.Name x np)) (some n) (b₀ :: suite) pos' :: hds) (⟨c, some i, ts⟩ :: l)
section
variable {X : Cx} {body : List Stmt} {h₀ : ExceptHandler} {hds : List ExceptHandler} {l : List Hd} {pos : Pos} {tb : WX → TS} {Wout : WX}
theorem ps_tryN (hN : X.N.Nodup) (hs : X.stack = X.env :: X.outer) (hf : X.env.frame = some X.env.locals) (tk : Takes X Wout)
    (hb : ∀ (W : WX) (pn : List (Addr × Obj)) (xe : Value → Shared → Prop), Takes (X.tr pn xe) W → PassesOwn (model X.prog X.w) X.A X.env xe → PSs (X.tr pn xe) body (tb W))
    (hh : HdN X (h₀ :: hds) l) : PS X (.Try body (h₀ :: hds) [] [] pos) (fun D σ H => tb (wN X.K Wout D l) D σ H) := by
  constructor
  intro pins s σ H D I h
  have ok := I.ok
  have frames : X.A.frames = some (X.env :: X.outer) := by rw [ok.frames, hs]
  apply wpAny_Try_except
  refine wpAny_mono ((hb (wN X.K Wout D l) (X.pn ++ pins) (fun e s1 => wpAny (model X.prog X.w) X.A (noteFrame e X.env) (fun _ s2 => wpAny (model X.prog X.w) X.A (setFlight e none)
    (fun _ s3 => wpAny (model X.prog X.w) X.A (handleBy e X.env (h₀ :: hds)) (SP X pins D) X.xe s3) X.xe s2) X.xe s1) (fun u s' xx => ?caught) PassesOwn.looking).run [] s σ H D (I.toTry _) h) (fun f s1 hsp => ?through) (fun e s1 he => he)
  case through =>
    cases f with
    | next => obtain ⟨σ', H', J', q⟩ := hsp; exact wpAny_execs_nil ⟨σ', H', J'.ofTry ok, q⟩
    | brk => obtain ⟨σ', H', J', q⟩ := hsp; exact ⟨σ', H', J'.ofTry ok, q⟩
    | cont => obtain ⟨σ', H', J', q⟩ := hsp; exact ⟨σ', H', J'.ofTry ok, q⟩
    | ret u => obtain ⟨v, σ', H', J', r, q⟩ := hsp; exact ⟨v, σ', H', J'.ofTry ok, r, q⟩
  obtain ⟨a, B, sI, pins', σ', H', cls, d, rfl, J', nb, up, sky, na, os, ag, w⟩ := xx
  have J : Inv X pins σ' H' sI := J'.ofTry ok
  have sky' : Sky B (X.env :: X.outer) a (Zc cls d) X.env.locals s'.heap := by rw [← hs]; exact sky
  show wpAny (model X.prog X.w) X.A (noteFrame (.ref a) X.env) _ _ _
  apply Sky.land Zc.steady frames hf sky'
  intro h3 fl3 up3
  have J3 : Inv X pins σ' H' { s' with heap := h3 } := J.landed nb fl3.1 (up.trans up3) os ag
  obtain ⟨oe3, vs3, he3, hz3, hd3⟩ := fl3.there
  have nfr : a ∉ frs (X.env :: X.outer) := fun hm => by
    obtain ⟨_, o', e', hnf⟩ := fl3.2.2.1.mem hm
    rw [he3] at e'; cases e'
    exact hnf _ hd3
  have nL : a ≠ X.env.locals := fun z => nfr (List.mem_filterMap.mpr ⟨X.env, List.mem_cons_self, by rw [hf, z]⟩)
  have nF : a ∉ X.fs := fun hm => by
    obtain ⟨e, he, q⟩ := List.mem_filterMap.mp hm
    exact nfr (List.mem_filterMap.mpr ⟨e, List.mem_cons_of_mem _ he, q⟩)
  have S3 := J3.suite he3 hd3 na nL nF
  have test : ∀ {x : Str} {c : Value} {np : Pos}, Names X x c → ∀ {Q : Value → Shared → Prop} {E : Value → Shared → Prop}, Q c { s' with heap := h3 } → wpAny (model X.prog X.w) (X.A.mark (some (.ref a))) (eval (.Name x np) X.env) Q E { s' with heap := h3 } := by
    intro x c np hc Q E q
    obtain ⟨hg, hdbg, hm | ⟨hm, hv, hnn⟩⟩ := hc
    · exact ld_glob (X := X.suite a ((a, oe3) :: (X.pn ++ pins))) S3 hg hm q hdbg
    · exact ld_blt (X := X.suite a ((a, oe3) :: (X.pn ++ pins))) S3 hg hm hv q hnn hdbg
  have look : PySem.W.Looks (model X.prog X.w) h3 (typeOf (.ref a)) cls := fun A Q E s k q => wpAny_typeOf_ref (k _ _ he3) (by rw [hz3.1]; exact q)
  have go : ∀ {hds' : List ExceptHandler} {l' : List Hd}, HdN X hds' l' → wN X.K Wout D l' cls d σ' H' →
      wpAny (model X.prog X.w) X.A (handleBy (.ref a) X.env hds') (SP X pins D) X.xe { s' with heap := h3 } := by
    intro hds' l' hk
    induction hk with
    | nil =>
      intro w
      apply wpAny_handleBy_nil
      obtain ⟨k1, k2, k3, oe, vs, T, oT, ts', he, hz, hd, h1, hr⟩ := id fl3
      unfold PySem.passOn
      apply wpAny_bind
      apply wpAny_field he hd h1
      rw [if_neg (show ¬ ((Value.ref T == Value.none) = true) from by simp)]
      have fin : wpAny (model X.prog X.w) X.A (setFlight (.ref a) X.env.frame) (fun _ s4 => wpAny (model X.prog X.w) X.A (throw (.ref a) : Sem Flow) (SP X pins D) X.xe s4) X.xe { s' with heap := h3 } := by
        rw [hf]
        apply HandSPX.setFlight_upZ fl3
        intro h4 hh4 up4
        apply wpAny_throw
        exact tk _ _ ⟨a, B, sI, pins, σ', H', cls, d, rfl, J, nb, (up.trans up3).trans up4, .inr (.inr (by rw [hs]; exact hh4)), na, os, ag, w⟩
      first
        | exact wpAny_bind (wpAny_pure (wpAny_bind fin))
        | exact wpAny_bind fin
    | @plain x c ts b₀ suite np pos' hds2 l2 hc hsu r ih =>
      rintro ⟨b, hb1, hyes, hno⟩
      refine wpAny_handleBy_cons (codeAny_handlers_test (test hc ((PySem.W.exm_one (M := model X.prog X.w) (J3.kIn) look hb1).here ?_))) (by intro q; cases q)
      cases b with
      | false => exact ih (hno rfl)
      | true =>
        apply codeAny_handlers_suite
        apply HandSPX.lands_againZ fl3
        intro h4 fl4 up4
        have J4 : Inv X pins σ' H' { s' with heap := h4 } := J.landed nb fl4.1 ((up.trans up3).trans up4) os ag
        obtain ⟨oe4, vs4, he4, hz4, hd4⟩ := fl4.there
        have S4 := J4.suite he4 hd4 na nL nF
        refine wpAny_mono ((hsu a oe4 cls d (X.pn ++ pins) hz4 ⟨_, hd4⟩).run [] _ _ H' _ S4 ((hyes rfl a na).1 rfl)) (fun f s6 hsp => ?_) (fun _ _ z => False.elim z)
        cases f with
        | next => obtain ⟨σ6, H6, S6, q6⟩ := hsp; exact ⟨_, _, S6.unsuite ok, q6⟩
        | brk => obtain ⟨σ6, H6, S6, q6⟩ := hsp; exact ⟨_, _, S6.unsuite ok, q6⟩
        | cont => obtain ⟨σ6, H6, S6, q6⟩ := hsp; exact ⟨_, _, S6.unsuite ok, q6⟩
        | ret u => obtain ⟨v6, σ6, H6, S6, r6, q6⟩ := hsp; exact ⟨_, _, _, S6.unsuite ok, r6, q6⟩
    | @named x n c i ts b₀ suite np pos' hds2 l2 hc hi hln hsu r ih =>
      rintro ⟨b, hb1, hyes, hno⟩
      refine wpAny_handleBy_cons (codeAny_handlers_test (test hc ((PySem.W.exm_one (M := model X.prog X.w) (J3.kIn) look hb1).here ?_))) (by intro q; cases q)
      cases b with
      | false => exact ih (hno rfl)
      | true =>
        apply codeAny_handlers_suite_as
        apply HandSPX.lands_againZ fl3
        intro h4 fl4 up4
        have J4 : Inv X pins σ' H' { s' with heap := h4 } := J.landed nb fl4.1 ((up.trans up3).trans up4) os ag
        obtain ⟨oe4, vs4, he4, hz4, hd4⟩ := fl4.there
        have S4 := J4.suite he4 hd4 na nL nF
        refine store_ok (X := X.suite a ((a, oe4) :: (X.pn ++ pins))) (v := .ref a) S4 hN hi (.inl hln) rfl (fun s5 S5 => ?_) (.inr hln)
        refine wpAny_mono ((hsu a oe4 cls d (X.pn ++ pins) hz4 ⟨_, hd4⟩).run [] s5 _ H' _ S5 ((hyes rfl a na).2 i rfl)) (fun f s6 hsp => ?_) (fun _ _ z => False.elim z)
        have gone : ∀ {σ6 : L2.St} {H6 : Hp} {Q : Shared → Prop}, Inv (X.suite a ((a, oe4) :: (X.pn ++ pins))) [] σ6 H6 s6 → (∀ s7, Inv X pins (σ6.set i none) H6 s7 → Q s7) →
            wpAny (model X.prog X.w) X.A (do bindName X.env n .none; unbindBehindTheSuite X.env n pos') (fun _ s7 => Q s7) X.xe s6 := fun {σ6 H6 Q} S6 hq => gone_ok (S6.unsuite ok) hN hi hln hq
        cases f with
        | next => obtain ⟨σ6, H6, S6, q6⟩ := hsp; exact gone S6 fun s7 J7 => ⟨_, _, J7, q6⟩
        | brk => obtain ⟨σ6, H6, S6, q6⟩ := hsp; exact gone S6 fun s7 J7 => ⟨_, _, J7, q6⟩
        | cont => obtain ⟨σ6, H6, S6, q6⟩ := hsp; exact gone S6 fun s7 J7 => ⟨_, _, J7, q6⟩
        | ret u => obtain ⟨v6, σ6, H6, S6, r6, q6⟩ := hsp; exact gone S6 fun s7 J7 => ⟨_, _, _, J7, r6, q6⟩
  exact go hh w
end
end DL
namespace DL
open PySem PySem.Spec PyProof.Rows L2

/-! ### what the written part says of an exception class of the program -/
structure ExK (K : Frg) (C : Addr) : Prop where
  ox : OexC K C
  xf : XfC K C
  ha : PySem.W.findIn K (.ref C) "__class__" = some (some (.builtin "object.__class__"))
  hn : PySem.W.specialIn K (.builtin "object.__class__") "__get__" = some (some (.builtin "getset_descriptor.__get__"))
  ht : PySem.W.takesIn K (.builtin "object.__class__") = some true
  hm : PySem.W.mroIn K C (.type "object") = some true

/-! ### __init__ of one field, of two -/
def spI1 (K : Frg) (f : Str) : Sp := fun vs H Q _ => ∃ (a C : Addr) (y : V), vs = [.ref a, y] ∧ OexC K C ∧ PySem.W.findIn K (.ref C) f = some none ∧ H a = some (exo a C none) ∧
  ∀ dx, H dx = none → dx ≠ a → Q .non (upd (upd H dx (exd dx [(f, y)])) a (exo a C (some dx)))
def spI2 (K : Frg) (f g : Str) : Sp := fun vs H Q _ => ∃ (a C : Addr) (y z : V), vs = [.ref a, y, z] ∧ OexC K C ∧ PySem.W.findIn K (.ref C) f = some none ∧ PySem.W.findIn K (.ref C) g = some none ∧ H a = some (exo a C none) ∧
  ∀ dx, H dx = none → dx ≠ a → Q .non (upd (upd (upd H dx (exd dx [(f, y)])) a (exo a C (some dx))) dx (exd dx [(g, z), (f, y)]))
section
variable {P : Program} {w : World} {K : Frg} {mg : Gm} {base : Heap} {qual : Str} {st : Stmt} {fI : Addr} {fd : FuncData} {f g x y : Str}
theorem vis_par {N ps : List Str} {sc : Scope} (S : FnScope N ps sc) {z : Str} (h : z ∈ ps) : Vis sc z := (S.par z h).elim .inl fun k => .inr (.inl k)
theorem init1 {p1 p2 p3 p4 : Pos} (F : Fun K "__init__" qual st fI fd) (S : FnScope ["self", x] ["self", x] (defScope st)) (hb : defBody st = [.Assign [.Attribute (.Name "self" p1) f p2] (.Name x p3) p4])
    (hx : (x == ("__debug__" : Str)) = false) (hc : (x == ("__classdict__" : Str)) = false) : FnOk P w K mg base CX0 1 fI fd ["self", x] (spI1 K f) := by
  refine F.ok S (fun vs H Q E h => ?_) fun cdv A outer s H vs Q E hr h => ?_
  · obtain ⟨a, C, y, rfl, _⟩ := h; rfl
  · obtain ⟨a, C, y, rfl, T, hno, ha, q⟩ := h
    rw [hb]
    refine ⟨_, pss_one (ps_ost (pe_var (i := 0) rfl (vis_par S (z := "self") (by simp)) (by decide) (by decide)) (pe_var (i := 1) rfl (vis_par S (z := x) (by simp)) hx hc)), ?_⟩
    exact ⟨y, rfl, .ref a, rfl, a, C, rfl, T, hno, .inl ⟨ha, fun dx hd hne => q dx hd hne⟩⟩
theorem init2 {p1 p2 p3 p4 q1 q2 q3 q4 : Pos} (F : Fun K "__init__" qual st fI fd) (S : FnScope ["self", x, y] ["self", x, y] (defScope st))
    (hb : defBody st = [.Assign [.Attribute (.Name "self" p1) f p2] (.Name x p3) p4, .Assign [.Attribute (.Name "self" q1) g q2] (.Name y q3) q4])
    (hx : (x == ("__debug__" : Str)) = false) (hc : (x == ("__classdict__" : Str)) = false) (hy : (y == ("__debug__" : Str)) = false) (hd : (y == ("__classdict__" : Str)) = false) : FnOk P w K mg base CX0 1 fI fd ["self", x, y] (spI2 K f g) := by
  refine F.ok S (fun vs H Q E h => ?_) fun cdv A outer s H vs Q E hr h => ?_
  · obtain ⟨a, C, y, z, rfl, _⟩ := h; rfl
  · obtain ⟨a, C, u, v, rfl, T, hno, hno2, ha, q⟩ := h
    rw [hb]
    refine ⟨_, pss_cons (ps_ost (pe_var (i := 0) rfl (vis_par S (z := "self") (by simp)) (by decide) (by decide)) (pe_var (i := 1) rfl (vis_par S (z := x) (by simp)) hx hc))
      (pss_one (ps_ost (pe_var (i := 0) rfl (vis_par S (z := "self") (by simp)) (by decide) (by decide)) (pe_var (i := 2) rfl (vis_par S (z := y) (by simp)) hy hd))), ?_⟩
    refine ⟨u, rfl, .ref a, rfl, a, C, rfl, T, hno, .inl ⟨ha, fun dx hd hne => ?_⟩⟩
    refine ⟨v, rfl, .ref a, rfl, a, C, rfl, T, hno2, .inr ⟨dx, [(f, u)], upd_same, ?_, (by show 1 ≤ 900; decide), q dx hd hne⟩⟩
    rw [upd_ne hne, upd_same]
end

/-! ### raise C(e), raise C(e, e') -/
def dRaise (C : Str) (fs : List Str) (qa : DAt) : DSt := fun D₁ ρ m => qa ρ m (fun xs m1 => xs.length = fs.length ∧ D₁.xt C (fs.zip xs).reverse ρ m1) (D₁.x ρ)
section
variable {X : Cx} {K : Frg} {mg : Gm} {W : WX} {x f g : Str} {C fI : Addr} {k : Nat} {fd : FuncData} {ps : List Str} {e : Expr} {es : List Expr} {ta : TA} {qa : DAt} {p pos pos' : Pos}
theorem RpA.one {K : Frg} {mg : Gm} {F : Hp} {vs : List V} {xs : List D} (r : RpA K mg F vs xs) (h : xs.length = 1) : ∃ u y, vs = [u] ∧ xs = [y] ∧ Rp K mg F u y := by
  cases r with
  | nil => cases h
  | cons a r =>
    cases r with
    | nil => exact ⟨_, _, rfl, rfl, a⟩
    | cons b r => simp at h
theorem RpA.two {K : Frg} {mg : Gm} {F : Hp} {vs : List V} {xs : List D} (r : RpA K mg F vs xs) (h : xs.length = 2) : ∃ u v y z, vs = [u, v] ∧ xs = [y, z] ∧ Rp K mg F u y ∧ Rp K mg F v z := by
  cases r with
  | nil => cases h
  | cons a r =>
    obtain ⟨v, z, rfl, rfl, b⟩ := r.one (by simpa using h)
    exact ⟨_, _, _, _, rfl, rfl, a, b⟩
theorem after1 {H : Hp} {a dx C : Addr} {fs gs : List (Str × V)} (ha : H a = none) (hne : dx ≠ a) :
    upd (del (upd (upd (upd H a (exo a C none)) dx (exd dx fs)) a (exo a C (some dx))) a) dx (.xd gs) = upd H dx (.xd gs) := by
  funext b
  by_cases e : b = dx
  · rw [e, upd_same, upd_same]
  · rw [upd_ne e, upd_ne e]
    by_cases e2 : b = a
    · rw [e2, del_same, ha]
    · rw [del_ne e2, upd_ne e2, upd_ne e, upd_ne e2]
theorem after2 {H : Hp} {a dx C : Addr} {fs gs hs : List (Str × V)} (ha : H a = none) (hne : dx ≠ a) :
    upd (del (upd (upd (upd (upd H a (exo a C none)) dx (exd dx fs)) a (exo a C (some dx))) dx (exd dx hs)) a) dx (.xd gs) = upd H dx (.xd gs) := by
  funext b
  by_cases e : b = dx
  · rw [e, upd_same, upd_same]
  · rw [upd_ne e, upd_ne e]
    by_cases e2 : b = a
    · rw [e2, del_same, ha]
    · rw [del_ne e2, upd_ne e, upd_ne e2, upd_ne e, upd_ne e2]
theorem ds_raise1 (T : OexC K C) (hf : PySem.W.findIn K (.ref C) f = some none) (iC : PySem.W.findIn X.K (.ref C) "__init__" = some (some (.ref fI))) (tI : PySem.W.typeIn X.K (.ref fI) = some (.type "function"))
    (F1 : FnOk X.prog X.w X.K X.mg X.base CX0 k fI fd ps (spI1 K f)) (hr : Room (k + 1) X.A) (hb : Binds X.K fd ps []) (hm : X.mg x = some (.ref C)) (tk : Takes X W) (ha : DA X K mg W [e] ta qa) (hg : Gl X x := by rfl) (hc : X.calm = true := by rfl)
    (hdb : (x == ("__debug__" : Str)) = false := by decide) (he : starEach [e] X.env = (false, eval e X.env) :: starEach [] X.env := by rfl) (hpl : (backTo pos (starEach [] X.env)).any (·.1) = false := by rfl) (hK : X.K = K := by rfl) (hG : X.mg = mg := by rfl) :
    DS X K mg W (.Raise (some (.Call (.Name x p) [e] [] pos)) none pos') (fun _ σ H => tMkO C (spI1 K f) [] ta σ H fun cls d H' => W cls d σ H') (dRaise x [f] qa) := by
  subst hK hG
  exact ⟨ps_raise hc tk (pmk_oex T iC tI F1 hr hb .nil (fun _ _ _ _ _ _ _ z => z.elim) hg hm ha.p hdb he hpl), fun {fr F H m σ ρ D₁ E} R h kk => ha.l R h (fun vs xs F1 H1 m1 e1 h1 r1 ⟨hl, q⟩ => by
    obtain ⟨u, y, rfl, rfl, r⟩ := r1.one hl
    · refine ⟨(by show 1 ≤ 1000; decide), fun a hna => ⟨a, C, u, rfl, T, hf, upd_same, fun dx hd hne => ⟨rfl, dx, [(f, u)], upd_same, by rw [upd_ne hne, upd_same], ?_, ?_⟩⟩⟩
      · rw [upd_ne hne] at hd; exact hd
      · rw [upd_ne hne] at hd
        rw [after1 hna hne]
        exact kk.xt _ _ _ _ _ _ _ _ _ (e1.trans (h1.exF hd)) (R.to (e1.trans (h1.exF hd)) (h1.newF hd)) ⟨hm, (fun z => nomatch z), fun dx' hdx => by cases hdx; exact ⟨_, upd_same, .cons (r.mono (h1.exF hd)) .nil⟩⟩ q) (kk.kx R)⟩
theorem ds_raise2 {e' : Expr} (T : OexC K C) (hf : PySem.W.findIn K (.ref C) f = some none) (hf2 : PySem.W.findIn K (.ref C) g = some none) (iC : PySem.W.findIn X.K (.ref C) "__init__" = some (some (.ref fI))) (tI : PySem.W.typeIn X.K (.ref fI) = some (.type "function"))
    (F1 : FnOk X.prog X.w X.K X.mg X.base CX0 k fI fd ps (spI2 K f g)) (hr : Room (k + 1) X.A) (hb : Binds X.K fd ps []) (hm : X.mg x = some (.ref C)) (tk : Takes X W) (ha : DA X K mg W [e, e'] ta qa) (hg : Gl X x := by rfl) (hc : X.calm = true := by rfl)
    (hdb : (x == ("__debug__" : Str)) = false := by decide) (he : starEach [e, e'] X.env = (false, eval e X.env) :: starEach [e'] X.env := by rfl) (hpl : (backTo pos (starEach [e'] X.env)).any (·.1) = false := by rfl) (hK : X.K = K := by rfl) (hG : X.mg = mg := by rfl) :
    DS X K mg W (.Raise (some (.Call (.Name x p) [e, e'] [] pos)) none pos') (fun _ σ H => tMkO C (spI2 K f g) [] ta σ H fun cls d H' => W cls d σ H') (dRaise x [f, g] qa) := by
  subst hK hG
  exact ⟨ps_raise hc tk (pmk_oex T iC tI F1 hr hb .nil (fun _ _ _ _ _ _ _ z => z.elim) hg hm ha.p hdb he hpl), fun {fr F H m σ ρ D₁ E} R h kk => ha.l R h (fun vs xs F1 H1 m1 e1 h1 r1 ⟨hl, q⟩ => by
    obtain ⟨u, v, y, z, rfl, rfl, r, r'⟩ := r1.two hl
    · refine ⟨(by show 2 ≤ 1000; decide), fun a hna => ⟨a, C, u, v, rfl, T, hf, hf2, upd_same, fun dx hd hne => ⟨rfl, dx, [(g, v), (f, u)], by rw [upd_ne (Ne.symm hne), upd_same], upd_same, ?_, ?_⟩⟩⟩
      · rw [upd_ne hne] at hd; exact hd
      · rw [upd_ne hne] at hd
        rw [after2 hna hne]
        exact kk.xt _ _ _ _ _ _ _ _ _ (e1.trans (h1.exF hd)) (R.to (e1.trans (h1.exF hd)) (h1.newF hd)) ⟨hm, (fun z => nomatch z), fun dx' hdx => by cases hdx; exact ⟨_, upd_same, .cons (r'.mono (h1.exF hd)) (.cons (r.mono (h1.exF hd)) .nil)⟩⟩ q) (kk.kx R)⟩
end

/-! ### the clauses -/
abbrev Exm := Str → Str → Option Bool
def TabOk (K : Frg) (mg : Gm) (exm : Exm) : Prop := ∀ C c b cls cv, exm C c = some b → mg C = some cls → mg c = some cv → PySem.W.exmOne K cls cv = some b
structure HdD where
  c : Str
  slot : Option Nat
  p : Addr → Value → Option Addr → DSt
abbrev Ed.nox (D₁ : Ed) : Ed := { D₁ with xt := fun _ _ _ _ => False }
def endR (i : Nat) (D₁ : Ed) : Ed := { nx := fun ρ m => D₁.nx (ρ.set i none) m, rt := D₁.rt, bk := fun ρ m => D₁.bk (ρ.set i none) m, ct := fun ρ m => D₁.ct (ρ.set i none) m, xt := fun _ _ _ _ => False }
def dHs (exm : Exm) (D₁ : Ed) : List HdD → Str → List (Str × D) → Rho → Sr → Prop
  | [], C, fs, ρ, m => D₁.xt C fs ρ m
  | h :: r, C, fs, ρ, m => ∃ b, exm C h.c = some b ∧ (b = true → ∀ a cls d, (d = none → fs = []) → match h.slot with
      | none => h.p a cls d D₁.nox ρ m
      | some i => h.p a cls d (endR i D₁) (ρ.set i (some (.exc a cls C d fs))) m) ∧ (b = false → dHs exm D₁ r C fs ρ m)
def dTry (exm : Exm) (p : DSt) (hs : List HdD) : DSt := fun D₁ ρ m => p { D₁ with xt := dHs exm D₁ hs } ρ m
inductive DHd (X : Cx) (K : Frg) (mg : Gm) : List ExceptHandler → List Hd → List HdD → Prop
  | nil : DHd X K mg [] [] []
  | plain {x : Str} {c : Value} {ts : Addr → Value → Option Addr → TS} {p : Addr → Value → Option Addr → DSt} {b₀ : Stmt} {suite : List Stmt} {np pos' : Pos} {hds : List ExceptHandler} {l : List Hd} {r : List HdD} (hc : X.mg x = some c)
      (hsu : ∀ (a : Addr) (oe : Obj) (cls : Value) (d : Option Addr) (pn : List (Addr × Obj)), Zc cls d oe → (∃ vs, oe.data = .fields vs) → DB (X.suite a ((a, oe) :: pn)) K mg W0 (b₀ :: suite) (ts a cls d) (p a cls d)) (q : DHd X K mg hds l r)
      (hg : Gl X x := by rfl) (hd : (x == ("__debug__" : Str)) = false := by decide) : DHd X K mg (.ExceptHandler (some (.Name x np)) none (b₀ :: suite) pos' :: hds) (⟨c, none, ts⟩ :: l) (⟨x, none, p⟩ :: r)
  | named {x n : Str} {c : Value} (i : Nat) {ts : Addr → Value → Option Addr → TS} {p : Addr → Value → Option Addr → DSt} {b₀ : Stmt} {suite : List Stmt} {np pos' : Pos} {hds : List ExceptHandler} {l : List Hd} {r : List HdD} (hc : X.mg x = some c)
      (hsu : ∀ (a : Addr) (oe : Obj) (cls : Value) (d : Option Addr) (pn : List (Addr × Obj)), Zc cls d oe → (∃ vs, oe.data = .fields vs) → DB (X.suite a ((a, oe) :: pn)) K mg W0 (b₀ :: suite) (ts a cls d) (p a cls d)) (q : DHd X K mg hds l r)
      (hi : X.N[i]? = some n := by rfl) (hln : X.env.kindOf n = some .local := by rfl) (hg : Gl X x := by rfl) (hd : (x == ("__debug__" : Str)) = false := by decide) : DHd X K mg (.ExceptHandler (some (.Name x np)) (some n) (b₀ :: suite) pos' :: hds) (⟨c, some i, ts⟩ :: l) (⟨x, some i, p⟩ :: r)
section
variable {X : Cx} {K : Frg} {mg : Gm} {W : WX} {body : List Stmt} {h₀ : ExceptHandler} {hds : List ExceptHandler} {l : List Hd} {r : List HdD} {pos : Pos} {tb : WX → TS} {p : DSt} {exm : Exm}
theorem DHd.hdN {K : Frg} {mg : Gm} : ∀ {hds : List ExceptHandler} {l : List Hd} {r : List HdD}, DHd X K mg hds l r → HdN X hds l
  | _, _, _, .nil => .nil
  | _, _, _, .plain hc hsu q hg hd => .plain ⟨hg, hd, .inl hc⟩ (fun a oe cls d pn hz hf => (hsu a oe cls d pn hz hf).p) q.hdN
  | _, _, _, .named i hc hsu q hi hln hg hd => .named ⟨hg, hd, .inl hc⟩ hi hln (fun a oe cls d pn hz hf => (hsu a oe cls d pn hz hf).p) q.hdN
def objOf (cls : Value) (d : Option Addr) : Obj := { cls := cls, dict := d, data := .fields #[] }
theorem DHd.go {K : Frg} {mg : Gm} (hK : X.K = K) (hG : X.mg = mg) (tab : TabOk K mg exm) {fr : Sr} {D₁ : Ed} {E : Ends} : ∀ {hds : List ExceptHandler} {l : List Hd} {r : List HdD}, DHd X K mg hds l r → ∀ {F H : Hp} {m : Sr} {σ : L2.St} {ρ : Rho} {cls : Value} {C : Str} {d : Option Addr} {fs : List (Str × D)},
    Rl K mg fr F H m σ ρ → XR K mg F cls C d fs → dHs exm D₁ r C fs ρ m → Lk K mg fr W F D₁ E → wN K W E l cls d σ H
  | _, _, _, .nil, F, H, m, σ, ρ, cls, C, d, fs, R, xr, h, k => k.xt cls C d fs σ ρ F H m (Evl.Ex.refl _) R xr h
  | _, _, _, .plain (x := x) (c := c) hc hsu q hg hd, F, H, m, σ, ρ, cls, C, d, fs, R, xr, ⟨b, hb, yes, no⟩, k => by
    subst hK hG
    refine ⟨b, tab _ _ _ _ _ hb xr.cl hc, fun e a ha => ⟨fun _ => ?_, fun i z => nomatch z⟩, fun e => q.go rfl rfl tab R xr (no e) k⟩
    exact (hsu a (objOf cls d) cls d [] ⟨rfl, rfl⟩ ⟨#[], rfl⟩).l R (yes e a cls d xr.d0) ⟨k.nx, k.bk, k.ct, k.rt, fun _ _ _ _ _ _ _ _ _ _ _ _ z => z.elim⟩
  | _, _, _, .named (x := x) (c := c) i hc hsu q hi hln hg hd, F, H, m, σ, ρ, cls, C, d, fs, R, xr, ⟨b, hb, yes, no⟩, k => by
    subst hK hG
    refine ⟨b, tab _ _ _ _ _ hb xr.cl hc, fun e a ha => ⟨(fun z => nomatch z), fun j z => ?_⟩, fun e => q.go rfl rfl tab R xr (no e) k⟩
    cases z
    have hexc : Rp X.K X.mg F (.ref a) (.exc a cls C d fs) := by
      cases d with
      | none => rw [xr.d0 rfl]; exact .exc0 xr.cl
      | some dx => obtain ⟨ws, h1, h2⟩ := xr.d1 dx rfl; exact .exc1 xr.cl h1 h2
    have un : ∀ {F' H' : Hp} {m' : Sr} {σ' : L2.St} {ρ' : Rho}, Rl X.K X.mg fr F' H' m' σ' ρ' → Rl X.K X.mg fr F' H' m' (σ'.set i none) (ρ'.set i none) := fun R => ⟨R.h, RpE.set none none trivial i R.e⟩
    exact (hsu a (objOf cls d) cls d [] ⟨rfl, rfl⟩ ⟨#[], rfl⟩).l (R.set hexc i) (yes e a cls d xr.d0) ⟨fun σ ρ F' H' m' e R => k.nx _ _ F' H' m' e (un R), fun σ ρ F' H' m' e R => k.bk _ _ F' H' m' e (un R), fun σ ρ F' H' m' e R => k.ct _ _ F' H' m' e (un R), k.rt, fun _ _ _ _ _ _ _ _ _ _ _ _ z => z.elim⟩
theorem ds_try (hN : X.N.Nodup) (tk : Takes X W) (tab : TabOk K mg exm) (hb : ∀ (W' : WX) (pn : List (Addr × Obj)) (xe : Value → Shared → Prop), Takes (X.tr pn xe) W' → PassesOwn (model X.prog X.w) X.A X.env xe → DB (X.tr pn xe) K mg W' body (tb W') p)
    (hh : DHd X K mg (h₀ :: hds) l r) (hs : X.stack = X.env :: X.outer := by rfl) (hf : X.env.frame = some X.env.locals := by rfl) (lb : ∀ W', LS K mg W' (tb W') p) (hK : X.K = K := by rfl) (hG : X.mg = mg := by rfl) : DS X K mg W (.Try body (h₀ :: hds) [] [] pos) (fun D σ H => tb (wN K W D l) D σ H) (dTry exm p r) :=
  ⟨hK ▸ ps_tryN hN hs hf tk (fun W' pn xe t po => (hb W' pn xe t po).p) hh.hdN, fun {fr F H m σ ρ D₁ E} R h k => lb _ R h ⟨k.nx, k.bk, k.ct, k.rt, fun cls C d fs σ' ρ' F' H' m' e R' xr q => hh.go hK hG tab R' xr q (k.mono e)⟩⟩
end

/-! ### within a suite: e.f, isinstance(e, ..) -/
theorem RpF.look {K : Frg} {mg : Gm} {F : Hp} {f : Str} : ∀ {ws : List (Str × V)} {fs : List (Str × D)} {d : D}, RpF K mg F ws fs → fs.lookup f = some d → ∃ v, ws.lookup f = some v ∧ Rp K mg F v d
  | _, _, _, .nil, h => by cases h
  | _, _, d, .cons (k := k) (ds := ds) (vs := vs) h r, e => by
    rw [List.lookup_cons] at e ⊢
    cases z : f == k with
    | true => rw [z] at e; cases e; exact ⟨_, rfl, h⟩
    | false => rw [z] at e; exact RpF.look r e
def dXf (a : Addr) (cls : Value) (d : Option Addr) (c f : Str) (pe : DEt) : DEt := fun ρ m P Ξ => pe ρ m (fun x m1 => ∃ fs v, x = .exc a cls c d fs ∧ fs.lookup f = some v ∧ P v m1) Ξ
section
variable {X : Cx} {K : Frg} {mg : Gm} {W : WX} {a C : Addr} {oe : Obj} {cls : Value} {d : Option Addr} {pn : List (Addr × Obj)} {e : Expr} {te : TE} {pe : DEt} {pos : Pos} {n c : Str}
theorem de_xf (T : XfC K C) (hno : PySem.W.findIn K (.ref C) n = some none) (hm : mg c = some (.ref C)) (hz : Zc cls d oe) (hf : ∃ vs, oe.data = .fields vs) (he : DE (X.suite a ((a, oe) :: pn)) K mg W e te pe) (hb : attributeBase e n X.env (eval e X.env) = eval e X.env := by rfl) (hK : X.K = K := by rfl) :
    DE (X.suite a ((a, oe) :: pn)) K mg W (.Attribute e n pos) (tXf a cls d C n te) (dXf a cls d c n pe) := by
  subst hK
  exact ⟨pe_xf T hno hz hf he.p hb, fun R h k kx => he.l R h (fun v x F1 H1 m1 e1 h1 r1 ⟨fs, y, ex, hl, q⟩ => by
  subst ex
  cases r1 with
  | exc0 hcl => cases hl
  | exc1 hcl hd r =>
    have hm' := hm.symm.trans hcl
    cases hm'
    obtain ⟨u, hu, ru⟩ := r.look hl
    exact ⟨rfl, rfl, _, _, u, rfl, h1.ex _ _ hd, hu, k _ _ _ _ _ e1 h1 ru q⟩) kx⟩
end
abbrev Kit := Str → List Str → Option Bool
def clsVals (mg : Gm) (cs : List Str) (us : List Value) : Prop := Paired (fun c u => mg c = some u ∧ ∃ a, u = Value.ref a) cs us
def KitOk (K : Frg) (mg : Gm) (kit : Kit) : Prop := ∀ C cs b cls us, kit C cs = some b → mg C = some cls → clsVals mg cs us → (∃ D, cls = .ref D ∧ ExK K D) ∧ PySem.W.kitAny K cls us = some b
def rIsE2 (K : Frg) (mg : Gm) (cls : Value) (d : Option Addr) (a : Addr) : List V → Hp → VK → Prop := fun xs H Q => ∃ (tp D dx : Addr) (cs : List V) (us : List Value) (ws : List (Str × V)) (b : Bool), xs = [.ref a, .ref tp] ∧ H tp = some (.tup cs) ∧ Paired ClsV cs us ∧ d = some dx ∧ H dx = some (.xd ws) ∧
  cls = .ref D ∧ ExK K D ∧ PySem.W.kitAny K cls us = some b ∧ Q (.bl b) H
theorem call_isE2 {X : Cx} {K : Frg} {mg : Gm} {a : Addr} {oe : Obj} {cls : Value} {d : Option Addr} {pn : List (Addr × Obj)} (hz : Zc cls d oe) (hf : ∃ vs, oe.data = .fields vs) (hK : X.K = K := by rfl) : CallR (X.suite a ((a, oe) :: pn)) (.builtin "isinstance") (rIsE2 K mg cls d a) := by
  subst hK
  intro pins s σ H xs us Q I r h
  obtain ⟨tp, D, dx, cs, ws, fs, b, rfl, hT, k, rfl, hx, rfl, T, e, q⟩ := h
  obtain ⟨u1, u2, rfl, r1, r2⟩ := vals2 r
  cases (show u2 = Value.ref tp from r2)
  cases (show u1 = Value.ref a from r1)
  obtain ⟨_, its, rv, o, h1, h2, n, h3⟩ := (show ObjOk X.prog X.w H s.heap tp (.tup cs) from I.hok tp _ hT)
  have e3 := ClsV.all k rv
  subst e3
  obtain ⟨oc, od, dt, sl⟩ := o
  simp only at h2 h3
  subst h2 h3
  obtain ⟨hget, _⟩ := I.pin (a, oe) (List.mem_append_left _ List.mem_cons_self)
  obtain ⟨vs, hv⟩ := hf
  obtain ⟨mA, ⟨oD, es, ep, hd1, hd2⟩, _⟩ := (show ObjOk X.prog X.w H s.heap dx (.xd fs) from I.hok dx _ hx)
  have J : PySem.W.InstAt s.heap a oe D (some oD) := by
    obtain ⟨oc, od, oda, osl⟩ := oe
    obtain ⟨z1, z2⟩ := hz
    dsimp only at z1 z2 hv
    subst z1 z2 hv
    exact ⟨hget, rfl, rfl, hd1⟩
  have hcl : (PySem.W.clsIn X.K D).isSome = true := by
    obtain ⟨nm, q, N, bs, bm, sn, sub, ab, col, dd, k0, k1, k2, k3, k5, hC, hbm⟩ := T.ox.cls
    unfold PySem.W.clsIn
    rw [hC] <;> rfl
  exact PySem.W.kia_tup (PySem.W.kitx_exc hcl T.xf.ga T.xf.gg T.xf.exC T.ha T.hn T.ht T.hm) I.kIn J h1 e (fun z => nomatch z) fun tk => ⟨.bl b, H, I.tok tk, rfl, q⟩
/-- isinstance(e, (A, B, ..)) of the caught error -/
def cIsE (kit : Kit) (a : Addr) (cls : Value) (d : Option Addr) : RCD := fun xs m P => ∃ C dx fs cs b, xs = [.exc a cls C (some dx) fs, .tup (cs.map D.cls)] ∧ d = some dx ∧ kit C cs = some b ∧ P (.bl b) m
theorem cls_vals {K : Frg} {mg : Gm} {F : Hp} : ∀ {cs : List Str} {vs : List V}, RpA K mg F vs (cs.map D.cls) → ∃ us, Paired ClsV vs us ∧ clsVals mg cs us
  | [], [], _ => ⟨[], .nil, .nil⟩
  | c :: cs, _, .cons (.cls (a := a) hc) r => by
    obtain ⟨us, h1, h2⟩ := cls_vals r
    exact ⟨.ref a :: us, .cons (.own a) h1, .cons ⟨hc, a, rfl⟩ h2⟩
theorem lc_isE {K : Frg} {mg : Gm} {kit : Kit} {a : Addr} {cls : Value} {d : Option Addr} (hk : KitOk K mg kit) : LC K mg (rIsE2 K mg cls d a) (cIsE kit a cls d) := fun {fr F H m vs xs P Q} hr r ⟨C, dx, fs, cs, b, e, ed, hkb, q⟩ k => by
  subst e
  cases r with
  | cons r rr =>
    cases rr with
    | cons r' rr =>
      cases rr
      cases r with
      | exc1 hcl hd hf =>
        cases r' with
        | tup hT rT =>
          obtain ⟨us, h1, h2⟩ := cls_vals rT
          obtain ⟨⟨D', e1, T⟩, h3⟩ := hk C cs b cls us hkb hcl h2
          exact ⟨_, D', dx, _, us, _, b, rfl, hr.ex _ _ hT, h1, ed, hr.ex _ _ hd, e1, T, h3, k _ _ _ _ _ (Evl.Ex.refl _) hr (.bl _) q⟩
/-- a class of the program, as a value -/
theorem de_cls {X : Cx} {K : Frg} {mg : Gm} {W : WX} {x : Str} {C : Addr} {pos : Pos} (hm : mg x = some (.ref C)) (hg : Gl X x := by rfl) (hd : (x == ("__debug__" : Str)) = false := by decide) (hG : X.mg = mg := by rfl) : DE X K mg W (.Name x pos) (tC (.ref C)) (dC (.cls x)) := ⟨pe_glob hg (hG ▸ hm) rfl hd, le_c fun _ => .cls hm⟩
end DL
namespace DL
open PySem PySem.Spec PyProof.Rows L2

/-! ### minus; in of dicts as tests; a comprehension given to a name that changes -/
def dNeg (pe : DEt) : DEt := fun ρ m P Ξ => pe ρ m (fun x m1 => ∃ i, x = .int i ∧ P (.int (-i)) m1) Ξ
section
variable {X : Cx} {K : Frg} {mg : Gm} {W : WX} {a b e : Expr} {ta tb te : TE} {pa pb pe : DEt} {pos : Pos}
theorem de_neg (ha : DE X K mg W a ta pa) : DE X K mg W (.UnaryOp .USub a pos) (tUn (rU fun i => .int (-i)) ta) (dNeg pa) := ⟨pe_un un_neg ha.p, fun R h k kx => ha.l R h (fun v x F1 H1 m1 e1 h1 r1 ⟨i, e, q⟩ => by
  subst e; cases r1
  exact ⟨i, rfl, k _ _ _ _ _ e1 h1 (.int _) q⟩) kx⟩
theorem lt_B {K : Frg} {mg : Gm} (l : LE K mg W te pe) : LT K mg W (tB te) (dTst pe) := fun R h k kx => l R h (fun v x F1 H1 m1 e1 h1 r1 ⟨b, e, q⟩ => by
  subst e; cases r1; exact ⟨b, rfl, k _ _ _ _ e1 h1 q⟩) kx
theorem dt_din (hu : X.A.units + 1 < cLine) (ha : DE X K mg W a ta pa) (hb : DE X K mg W b tb pb) (hm : behindInMarks .In b = false := by rfl) : DT X K mg W (.Compare a [.In] [b] pos) (tB (tDIn ta tb)) (dTst (dOp (oDin false) pa pb)) := ⟨pt_cmp (pc_din hu ha.p hb.p) hm, lt_B (le_din ha.l hb.l)⟩
theorem dt_dnotin (hu : X.A.units + 1 < cLine) (ha : DE X K mg W a ta pa) (hb : DE X K mg W b tb pb) (hm : behindInMarks .NotIn b = false := by rfl) : DT X K mg W (.Compare a [.NotIn] [b] pos) (tB (tDNotIn ta tb)) (dTst (dOp (oDin true) pa pb)) := ⟨pt_cmp (pc_dnotin hu ha.p hb.p) hm, lt_B (le_dnotin ha.l hb.l)⟩
end
section
variable {X : Cx} {K : Frg} {mg : Gm} {W : WX} {tg it elt : Expr} {ifs : List Expr} {scope : Scope} {own : List (Str × Nat)} {wi : TI} {pi : DIt} {w : List Nat} {g : TG} {gd : DGt} {tt : TT} {qt : DTt} {te : TE} {pe : DEt} {pos spos py : Pos}
theorem ds_setLcM (i : Nat) {y : Str} (own : List (Str × Nat)) (hN : X.N.Nodup) (hi : DI X K mg W tg it wi pi) (ok : blkC X.N X.env.scope scope own = true) (hw : ∀ i ∈ w, i ∈ own.map (·.2)) (hg : ∀ (s : Shared) (H : Hp) (C : Addr) (cl : List (Str × Addr)) (fp : List Addr), DG (X.blk s H scope (compEnvC scope cl C X.env) fp) K mg w tg g gd) (ht : ∀ (s : Shared) (H : Hp) (C : Addr) (cl : List (Str × Addr)) (fp : List Addr), DTs (X.blk s H scope (compEnvC scope cl C X.env) fp) K mg W0 ifs tt qt) (he : ∀ (s : Shared) (H : Hp) (C : Addr) (cl : List (Str × Addr)) (fp : List Addr), DE (X.blk s H scope (compEnvC scope cl C X.env) fp) K mg W0 elt te pe)
    (hy : X.N[i]? = some y := by rfl) (hyl : X.env.scope.names.lookup y = some .local := by rfl) (hsw : swapsWith (.ListComp elt [⟨tg, it, ifs, 0⟩] scope pos) (some (.Name y py)) spos.line X.env = pure true := by exact sw_true rfl rfl rfl (by decide +kernel))
    (hc : X.calm = true := by rfl) (hs : ∀ x, foldedSetIterable it X.env x = pure x := by intro _; rfl) : DS X K mg W (.Assign [.Name y py] (.ListComp elt [⟨tg, it, ifs, 0⟩] scope pos) spos) (tAsg (tLc wi g tt te (own.map (·.2))) (gName i)) (dAsg (dLcM pi gd qt pe (own.map (·.2))) (gdName i)) :=
  ⟨ps_setLc hc hN hy hyl hsw hi.p (blkOk_by ok) (fun s H C cl fp => (hg s H C cl fp).p) (fun s H C cl fp => (ht s H C cl fp).p) (fun s H C cl fp => (he s H C cl fp).p) hs, ls_asg (le_lcM hi.l (hg X.s_0 (fun _ => none) 0 [] []).l (ht X.s_0 (fun _ => none) 0 [] []).l (he X.s_0 (fun _ => none) 0 [] []).l hw) lg_name⟩
end

/-! ### try, the body's reading once -/
section
variable {X : Cx} {K : Frg} {mg : Gm} {W : WX} {body : List Stmt} {h₀ : ExceptHandler} {hds : List ExceptHandler} {l : List Hd} {r : List HdD} {pos : Pos} {tb : WX → TS} {p : DSt} {exm : Exm}
/-- some wish under which everything is taken -/
theorem takes_any (hs : X.stack = X.env :: X.outer) (hf : X.env.frame = some X.env.locals) (W' : WX) : ∃ xe, Takes (X.tr [] xe) W' ∧ PassesOwn (model X.prog X.w) X.A X.env xe := by
  refine ⟨fun e s1 => wpAny (model X.prog X.w) X.A (noteFrame e X.env) (fun _ s2 => wpAny (model X.prog X.w) X.A (setFlight e none) (fun _ _ => True) (fun _ _ => True) s2) (fun _ _ => True) s1, ?_, PassesOwn.looking⟩
  intro u s' xx
  obtain ⟨a, B, sI, pins', σ', H', cls, d, rfl, J', nb, up, sky, na, os, ag, w⟩ := xx
  have ok := J'.ok.ofTry
  have frames : X.A.frames = some (X.env :: X.outer) := by rw [ok.frames, hs]
  have sky' : Sky B (X.env :: X.outer) a (Zc cls d) X.env.locals s'.heap := by rw [← hs]; exact sky
  exact Sky.land Zc.steady frames hf sky' fun _ _ _ => trivial
theorem ds_tryX (hN : X.N.Nodup) (tk : Takes X W) (tab : TabOk K mg exm) (hb : ∀ (W' : WX) (pn : List (Addr × Obj)) (xe : Value → Shared → Prop), Takes (X.tr pn xe) W' → PassesOwn (model X.prog X.w) X.A X.env xe → DB (X.tr pn xe) K mg W' body (tb W') p)
    (hh : DHd X K mg (h₀ :: hds) l r) (hs : X.stack = X.env :: X.outer := by rfl) (hf : X.env.frame = some X.env.locals := by rfl) (hK : X.K = K := by rfl) (hG : X.mg = mg := by rfl) : DS X K mg W (.Try body (h₀ :: hds) [] [] pos) (fun D σ H => tb (wN K W D l) D σ H) (dTry exm p r) :=
  ds_try hN tk tab hb hh hs hf (hK := hK) (hG := hG) (lb := fun W' => by
    obtain ⟨xe, t, po⟩ := takes_any hs hf W'
    exact (hb W' [] xe t po).l)
end

/-! ### f(k = e): keywords alone, one -/
section
variable {X : Cx} {K : Frg} {mg : Gm} {W : WX} {k n : Nat} {f : Addr} {fd : FuncData} {wp : DFn} {x y : Str} {p pos kp : Pos} {e : Expr} {te : TE} {pe : DEt}
theorem pe_callKw {sp : Sp} {E : L2.St → XK} (F : FnOk X.prog X.w X.K X.mg X.base (L2.CX X.prog X.w) k f fd [y] sp) (hr : Room k X.A) (hg : Gl X x) (hm : X.mg x = some (.ref f)) (hk : PySem.W.keepIn X.K (.ref f) = true) (hb : ∀ (s : Shared) (u : Value), BindsTo s fd ⟨[], [(y, u)]⟩ [(y, u)])
    (hx : ∀ σ, PassesAt (L2.CX X.prog X.w) X σ (E σ)) (he : PE X e te) (hall : (backToKw pos (keywordEach [⟨some y, e, kp⟩] X.env)).all (·.1.isSome) = true) (hks : (backToKw pos (keywordEach [⟨some y, e, kp⟩] X.env)).filterMap (·.1) = [y])
    (hdb : (x == ("__debug__" : Str)) = false) (hpl : ((backTo pos (starEach [] X.env)).any (·.1) || (backToKw pos (keywordEach [⟨some y, e, kp⟩] X.env)).any (·.1.isNone)) = false) : PE X (.Call (.Name x p) [] [⟨some y, e, kp⟩] pos) (tCallS sp E (tCons te tNil)) := by
  constructor
  intro pins s σ H Q I h
  apply wpAny_Call_Name_kw
  apply ld_glob I hg hm _ hdb
  refine PySem.W.callWith_KW0 (h₀ := X.base) I.ok.mod.kin hk hall ?_ hpl
  have hkw : PK X [⟨some y, e, kp⟩] (tCons te tNil) := pk_cons he pk_nil
  apply thn (hkw.run pos pins s σ H _ I h)
  rintro ws s2 ⟨zs, H2, I2, rz, q2⟩
  refine ⟨I2.kIn, ?_⟩
  rw [hks]
  have hl : zs.length = 1 := F.len _ _ _ _ q2
  obtain ⟨z, rfl⟩ : ∃ z, zs = [z] := List.length_eq_one_iff.mp hl
  obtain ⟨u, rfl, ru⟩ := Vals.one rz
  apply wpAny_call
  apply codeAny_mono (F.run X.A X.stack s2 H2 ⟨[], [(y, u)]⟩ [u] [z] Q (E σ) hr I2.env0 (hb s2 u) (.cons ru .nil) q2)
  intro r s' hq
  cases r with
  | error er => exact hx σ pins H2 s2 er s' I2 hq
  | ok fl =>
    cases fl with
    | ret u => exact I2.after hq
    | next => exact hq.elim
    | brk => exact hq.elim
    | cont => exact hq.elim
theorem la_one {K : Frg} {mg : Gm} (l : LE K mg W te pe) : LA K mg W (tCons te tNil) (dCons pe dNil) := fun {fr F H m σ ρ P Ξ Q} R h k kx => l R h (fun v x F1 H1 m1 e1 h1 r1 q1 => k _ _ _ _ _ e1 h1 (.cons r1 .nil) q1) kx
variable (F : FnOk X.prog X.w X.K X.mg X.base (L2.CX X.prog X.w) k f fd [y] (spOf K mg 1 wp)) (hr : Room k X.A) (hm : X.mg x = some (.ref f)) (hk : PySem.W.keepIn X.K (.ref f) = true) (hb : ∀ (s : Shared) (u : Value), BindsTo s fd ⟨[], [(y, u)]⟩ [(y, u)]) (tk : Takes X W) (ha : DE X K mg W e te pe)
  (hg : Gl X x := by rfl) (hdb : (x == ("__debug__" : Str)) = false := by decide) (hall : (backToKw pos (keywordEach [⟨some y, e, kp⟩] X.env)).all (·.1.isSome) = true := by rfl) (hks : (backToKw pos (keywordEach [⟨some y, e, kp⟩] X.env)).filterMap (·.1) = [y] := by rfl)
  (hpl : ((backTo pos (starEach [] X.env)).any (·.1) || (backToKw pos (keywordEach [⟨some y, e, kp⟩] X.env)).any (·.1.isNone)) = false := by rfl)
include F hr hm hk hb tk ha hg hdb hall hks hpl
theorem de_callKw : DE X K mg W (.Call (.Name x p) [] [⟨some y, e, kp⟩] pos) (tCallS (spOf K mg 1 wp) (WE W) (tCons te tNil)) (dCall 1 wp (dCons pe dNil)) := ⟨pe_callKw F hr hg hm hk hb (fun σ => passAt tk σ) ha.p hall hks hdb hpl, le_call (la_one ha.l)⟩
theorem de_callKwP : DE X K mg W (.Call (.Name x p) [] [⟨some y, e, kp⟩] pos) (tCallS (spOf K mg 1 wp) (WE W) (tCons te tNil)) (dCallP 1 wp (dCons pe dNil)) := ⟨pe_callKw F hr hg hm hk hb (fun σ => passAt tk σ) ha.p hall hks hdb hpl, le_callP (la_one ha.l)⟩
theorem de_callKwM : DE X K mg W (.Call (.Name x p) [] [⟨some y, e, kp⟩] pos) (tCallS (spOf K mg 1 wp) (WE W) (tCons te tNil)) (dCallM 1 wp (dCons pe dNil)) := ⟨pe_callKw F hr hg hm hk hb (fun σ => passAt tk σ) ha.p hall hks hdb hpl, le_callM (la_one ha.l)⟩
end
end DL
/-! The end: a law whose def is a FnG. -/
namespace DL
open PySem PySem.Spec PyProof.Rows L2

/-- what is needed of a def that the caller alone calls -/
def RunC (P : Program) (w : World) (K : Frg) (mg : Gm) (base : Heap) (fa : Addr) (fd : FuncData) (x : Str) (sp : Sp) : Prop :=
  ∀ (s : Shared) (H : Hp) (u : Value) (v : V) (Q : VK), Env0 P w K mg base callerA [] s H → BindsTo s fd ⟨[u], []⟩ [(x, u)] → Vals [v] [u] → sp [v] H Q (fun _ _ _ => False) →
    codeAny (model P w) callerA (.call (.ref fa) ⟨[u], []⟩) (CR (L2.CX P w) [] P w H s Q fun _ _ _ => False) s
theorem FnG.runC {P : Program} {w : World} {K : Frg} {mg : Gm} {base : Heap} {k : Nat} {fa : Addr} {fd : FuncData} {x : Str} {sp : Sp} (F : FnG P w K mg base (L2.CX P w) k fa fd [x] sp) (hr : Room k callerA) : RunC P w K mg base fa fd x sp :=
  fun s H u v Q e b r h => F.run callerA [] s H ⟨[u], []⟩ [u] [v] Q _ rfl hr e b r h
theorem FnOk.runC {P : Program} {w : World} {K : Frg} {mg : Gm} {base : Heap} {k : Nat} {fa : Addr} {fd : FuncData} {x : Str} {sp : Sp} (F : FnOk P w K mg base (L2.CX P w) k fa fd [x] sp) (hr : Room k callerA) : RunC P w K mg base fa fd x sp :=
  fun s H u v Q e b r h => F.run callerA [] s H ⟨[u], []⟩ [u] [v] Q _ hr e b r h

section
variable {P : Program} {w : World} {K : Frg} {mg mb : Gm} {fa a : Addr} {fd : FuncData} {x : Str} {sp : Sp} {s₁ : Shared} {vs : List Value} {ns : List Int}
/-- one object, held as the script -/
def oneH (a : Addr) (o : Obj) (xs : List V) : Hp := fun b => if b = a then some (.frz o (.lst xs)) else none
theorem oneH_some {a b : Addr} {o : Obj} {xs : List V} {u : HO} (h : oneH a o xs b = some u) : b = a ∧ u = .frz o (.lst xs) := by
  unfold oneH at h
  by_cases e : b = a
  · rw [if_pos e] at h; exact ⟨e, (Option.some.inj h).symm⟩
  · rw [if_neg e] at h; cases h

/-- the call over a heap in which at most the script is tracked -/
theorem end_core (run : ∀ base : Heap, K.In base → base.Ns mainGlobals mg → RunC P w K mg base fa fd x sp) (bind : ∀ (s : Shared) (u : Value), BindsTo s fd ⟨[u], []⟩ [(x, u)])
    (inK : K.In s₁.heap) (glob : s₁.heap.Ns mainGlobals mg) (blt : s₁.heap.Ns builtinsNs mb) (boot : ∀ y : Str, y ≠ "__name__" → mb y = bootBuiltins y) (nolim : s₁.heap.NoLimit) (nogen : s₁.gens = #[])
    (at_a : s₁.heap.get? a = some { cls := .type "list", data := .seq vs.toArray }) (H : Hp) (hok : HOk P w H s₁.heap)
    (only : ∀ b u, H b = some u → b = a ∧ K.lookup a = none ∧ ∃ o xs, u = .frz o (.lst xs)) (says : sp [.ref a] H (fun v _ => v = .bl true) fun _ _ _ => False) :
    codeAny (model P w) callerA (.call (.ref fa) ⟨[.ref a], []⟩) (fun r s' => r = .ok (.ret (.bool true)) ∧ OldK s₁.heap s'.heap ∧ s'.os = s₁.os ∧ AllBare s'.gens) s₁ := by
  have keep : ∀ {b : Addr} {o : Obj}, s₁.heap.get? b = some o → H b = none → (hidT s₁.heap H).get? b = some o := fun e n => hidT_get e n
  have free : ∀ {b : Addr} {o : Obj}, s₁.heap.get? b = some o → (∀ us k, o.data ≠ .seq us k) → H b = none := fun {b o} e d => by
    cases q : H b with
    | none => rfl
    | some u =>
      obtain ⟨rfl, _⟩ := only b u q
      rw [at_a] at e; cases e
      exact (d _ _ rfl).elim
  have names : ∀ {b : Addr} {m : Gm}, s₁.heap.Ns b m → (hidT s₁.heap H).Ns b m := fun {b m} ⟨o, es, ep, e, d, r⟩ => ⟨o, es, ep, keep e (free e fun us k z => by rw [d] at z; cases z), d, r⟩
  have inB : K.In (hidT s₁.heap H) := fun b o e => keep (inK b o e) (by
    cases q : H b with
    | none => rfl
    | some u =>
      obtain ⟨rfl, z, _⟩ := only b u q
      rw [z] at e; cases e)
  have lim : (hidT s₁.heap H).NoLimit := by
    obtain ⟨mc, h1, h2⟩ := nolim
    exact ⟨mc, names h1, h2⟩
  have env : Env0 P w K mg (hidT s₁.heap H) callerA [] s₁ H := ⟨rfl, ⟨inB, names glob, ⟨mb, names blt, boot⟩, lim⟩, fun b o => of_hidT, Nat.le_of_eq (hidT_size _ _), trivial, (fun b hb => by cases hb), hok, .of_eq nogen⟩
  refine codeAny_mono (run _ inB (names glob) s₁ H (.ref a) (.ref a) _ env (bind _ _) (.cons rfl .nil) says) fun r s' h => ?_
  match r, h with
  | .error e, h => obtain ⟨_, _, _, _, _, _, _, _, _, _, _, _, h⟩ := h; exact False.elim h
  | .ok (.ret u), ⟨v, H', os, bare, un, hok', r', q⟩ =>
    obtain rfl : v = .bl true := q
    obtain rfl : u = Value.bool true := r'
    refine ⟨rfl, OldK.of_keep fun b o e => ?_, os, bare⟩
    cases q : H b with
    | none => exact un.keep b o e q (fun z => by cases z) (by simp)
    | some u =>
      obtain ⟨rfl, _, ob, xs, rfl⟩ := only b u q
      have e1 := (hok _ _ q).1
      have e2 := (hok' _ _ (un.frzs _ _ _ q)).1
      rw [e] at e1; cases e1
      exact e2
  | .ok .next, h => exact False.elim h
  | .ok .brk, h => exact False.elim h
  | .ok .cont, h => exact False.elim h

theorem end_call (run : ∀ base : Heap, K.In base → base.Ns mainGlobals mg → RunC P w K mg base fa fd x sp) (bind : ∀ (s : Shared) (u : Value), BindsTo s fd ⟨[u], []⟩ [(x, u)])
    (inK : K.In s₁.heap) (glob : s₁.heap.Ns mainGlobals mg) (blt : s₁.heap.Ns builtinsNs mb) (boot : ∀ y : Str, y ≠ "__name__" → mb y = bootBuiltins y) (nolim : s₁.heap.NoLimit) (nogen : s₁.gens = #[])
    (at_a : s₁.heap.get? a = some { cls := .type "list", data := .seq vs.toArray }) (hi : IntsAre vs ns) (few : ns.length ≤ sizeLine)
    (says : ∀ H : Hp, SqL K H a (ns.map V.int) → sp [.ref a] H (fun v _ => v = .bl true) fun _ _ _ => False) :
    codeAny (model P w) callerA (.call (.ref fa) ⟨[.ref a], []⟩) (fun r s' => r = .ok (.ret (.bool true)) ∧ OldK s₁.heap s'.heap ∧ s'.os = s₁.os ∧ AllBare s'.gens) s₁ := by
  have vv := vals_ints hi
  have len := hi.length
  cases known : K.lookup a with
  | some o =>
    have e := inK a o known
    rw [at_a] at e; cases e
    exact end_core run bind inK glob blt boot nolim nogen at_a (fun _ => none) (fun b u z => nomatch z) (fun b u z => nomatch z)
      (says _ (.inr ⟨_, vs.toArray, _, known, rfl, rfl, rfl, by rw [List.size_toArray, len]; exact few, by simpa using vv⟩))
  | none =>
    refine end_core run bind inK glob blt boot nolim nogen at_a (oneH a { cls := .type "list", data := .seq vs.toArray } (ns.map V.int)) (fun b u z => ?_) (fun b u z => ?_) (says _ (.inl (.inr ⟨_, if_pos rfl⟩)))
    · obtain ⟨rfl, rfl⟩ := oneH_some z
      exact ⟨at_a, by rw [List.length_map]; exact few, vs, _, vv, at_a⟩
    · obtain ⟨e, rfl⟩ := oneH_some z
      exact ⟨e, known, _, _, rfl⟩
end

/-- the goal that is left behind the head: F gives the law's def and its reading -/
theorem end_law {l : PySem.W.OpenLaw} {n : Nat} {q : Program} {loose : List Str} {XP : (Str → Option Value) → Heap → Prop} {YP : World → Heap → Prop} {d : DefRec} {K : Params → Frg} {x : Str}
    (hn : l.most = some n) (hn2 : n ≤ sizeLine) (hdf : d.params.defaults = [])
    (hY : ∀ (w : World) (h : Heap), YP w h → (K w.params).In h) (law : DFn)
    (F : ∀ (w : World) (mg : Gm) (fa : Addr) (h : Heap), (K w.params).In h → h.Ns mainGlobals mg → mg d.name = some (.ref fa) →
      ∃ fd : FuncData, (∀ (s : Shared) (u : Value), BindsTo s fd ⟨[u], []⟩ [(x, u)]) ∧ ∀ base : Heap, (K w.params).In base → base.Ns mainGlobals mg → RunC l.prog w (K w.params) mg base fa fd x (spOf (K w.params) mg 1 law))
    (says : ∀ ns : List Int, ns.length ≤ n → (∀ z ∈ ns, Builtin.Int.intBits z ≤ 1048576) → law [.scr (ns.map D.int)] emp (fun y _ => y = .bl true) fun _ _ _ => False) :
    PySem.W.WalkO q loose XP YP l.row.toRowW d [] (fun f vs => PySem.call f vs) := by
  refine Att.attach_callB hn hdf fun w s₀ s₁ mg mb fa o pm cd doc a vs ns G Y _ _ _ hmg hobj hints hlen hbits hg => ?_
  have KX := hY w _ Y
  obtain ⟨fd, bind, run⟩ := F w mg fa _ KX G.T.g hmg
  refine end_call run bind KX G.T.g G.T.b G.T.builtins G.T.nolimit hg hobj hints (Nat.le_trans hlen hn2) fun H hS => ?_
  refine ⟨emp, H, emp, [.scr (ns.map D.int)], _, _, ⟨Evl.Ex.refl _, (fun p o e => nomatch e), fun p o e => nomatch e⟩, .cons (.scr hS (RpA.ints ns)) .nil, rfl, says ns hlen hbits, fun v y F' H' m' e hr r h => ?_, fun cls C dd fs F' H' m' e hr xr z => z.elim⟩
  have h' : y = .bl true := h
  subst h'
  cases r
  rfl

/-! ### the tables of which class is one of which -/
structure ClsOk (K : Frg) (C : Addr) : Prop where
  bs : PySem.W.subIn K (.ref C) (.type "BaseException") = some true
  is : PySem.W.isClsIn K C = true
  ty : PySem.W.typeIn K (.ref C) = some (.type "type")
  self : PySem.W.subIn K (.ref C) (.ref C) = some true
theorem ClsOk.kit {K : Frg} {A C : Addr} {b : Bool} (c : ClsOk K C) (h : PySem.W.subIn K (.ref A) (.ref C) = some b) : PySem.W.kitCls K (.ref A) (.ref C) = some b := by
  have e : ((PySem.W.clsIn K C).isSome && PySem.W.typeIn K (.ref C) == some (.type "type")) = true := by
    have z : (PySem.W.clsIn K C).isSome = true := c.is
    rw [z, c.ty]; rfl
  unfold PySem.W.kitCls
  exact (if_pos e).trans h
theorem ClsOk.exm {K : Frg} {A C : Addr} {b : Bool} (c : ClsOk K C) (h : PySem.W.subIn K (.ref A) (.ref C) = some b) : PySem.W.exmOne K (.ref A) (.ref C) = some b := by
  have e : (PySem.W.subIn K (.ref C) (.type "BaseException") == some true) = true := by rw [c.bs]; rfl
  unfold PySem.W.exmOne
  exact (if_pos e).trans (c.kit h)
theorem ClsOk.one {K : Frg} {A C : Addr} {b : Bool} (c : ClsOk K C) (h : PySem.W.subIn K (.ref A) (.ref C) = some b) : PySem.W.kitOne K (.ref A) (.ref C) = some b := by
  unfold PySem.W.kitOne
  by_cases e : (Value.ref A == Value.ref C) = true
  · rw [if_pos e]
    have e' : Value.ref A = Value.ref C := beq_iff_eq.mp e
    rw [e', c.self] at h
    exact h
  · rw [if_neg e]
    exact c.kit h
abbrev Subs := List (Str × Str × Bool)
def SubOk (K : Frg) (mg : Gm) (L : Subs) : Prop := ∀ p, p ∈ L → ∃ A C, mg p.1 = some (.ref A) ∧ mg p.2.1 = some (.ref C) ∧ ClsOk K C ∧ PySem.W.subIn K (.ref A) (.ref C) = some p.2.2
theorem sub_nil {K : Frg} {mg : Gm} : SubOk K mg [] := fun _ h => nomatch h
theorem sub_cons {K : Frg} {mg : Gm} {a c : Str} {b : Bool} {A C : Addr} {L : Subs} (ha : mg a = some (.ref A)) (hc : mg c = some (.ref C)) (k : ClsOk K C) (h : PySem.W.subIn K (.ref A) (.ref C) = some b) (r : SubOk K mg L) : SubOk K mg ((a, c, b) :: L) := fun p hp => by
  cases hp with
  | head => exact ⟨A, C, ha, hc, k, h⟩
  | tail _ hp => exact r p hp
def exmOf (L : Subs) : Exm := fun a c => (L.find? fun p => decide (p.1 = a) && decide (p.2.1 = c)).map (·.2.2)
def kitOf (s : Exm) : Kit := fun C cs => match cs with
  | [] => some false
  | c :: r => match s C c with
    | some true => some true
    | some false => kitOf s C r
    | none => none
theorem SubOk.at {K : Frg} {mg : Gm} {L : Subs} (S : SubOk K mg L) {a c : Str} {b : Bool} (h : exmOf L a c = some b) : ∃ A C, mg a = some (.ref A) ∧ mg c = some (.ref C) ∧ ClsOk K C ∧ PySem.W.subIn K (.ref A) (.ref C) = some b := by
  obtain ⟨p, hp, e⟩ := Option.map_eq_some_iff.mp h
  have z := List.find?_some hp
  simp only [Bool.and_eq_true, decide_eq_true_eq] at z
  obtain ⟨A, C, h1, h2, h3, h4⟩ := S p (List.mem_of_find?_eq_some hp)
  rw [z.1] at h1
  rw [z.2] at h2
  rw [e] at h4
  exact ⟨A, C, h1, h2, h3, h4⟩
theorem SubOk.tab {K : Frg} {mg : Gm} {L : Subs} (S : SubOk K mg L) : TabOk K mg (exmOf L) := fun C c b cls cv h h1 h2 => by
  obtain ⟨A, B, e1, e2, k, e3⟩ := S.at h
  cases h1.symm.trans e1
  cases h2.symm.trans e2
  exact k.exm e3
theorem SubOk.kitAny {K : Frg} {mg : Gm} {L : Subs} (S : SubOk K mg L) {C : Str} {A : Addr} (hC : mg C = some (.ref A)) : ∀ {cs : List Str} {us : List Value} {b : Bool}, kitOf (exmOf L) C cs = some b → clsVals mg cs us → PySem.W.kitAny K (.ref A) us = some b
  | [], _, b, h, .nil => h
  | c :: cs, _, b, h, @Paired.cons _ _ _ _ _ _ us ⟨hu, a, e⟩ r => by
    subst e
    unfold kitOf at h
    unfold PySem.W.kitAny
    cases z : exmOf L C c with
    | none => rw [z] at h; cases h
    | some k =>
      rw [z] at h
      obtain ⟨A', B, e1, e2, kk, e3⟩ := S.at z
      cases hC.symm.trans e1
      cases hu.symm.trans e2
      rw [kk.one e3]
      cases k with
      | true => exact h
      | false => exact S.kitAny hC h r
def kitIn (E : List Str) (s : Exm) : Kit := fun C cs => if C ∈ E then kitOf s C cs else none
theorem SubOk.kit {K : Frg} {mg : Gm} {L : Subs} (S : SubOk K mg L) {E : List Str} (hE : ∀ C, C ∈ E → ∃ A, mg C = some (.ref A) ∧ ExK K A) : KitOk K mg (kitIn E (exmOf L)) := fun C cs b cls us h h1 h2 => by
  unfold kitIn at h
  by_cases hC : C ∈ E
  · rw [if_pos hC] at h
    obtain ⟨A, e, x⟩ := hE C hC
    cases h1.symm.trans e
    exact ⟨⟨A, rfl, x⟩, S.kitAny e h h2⟩
  · rw [if_neg hC] at h; cases h
end DL
/-! Evaluating readings: a rule for each word. -/
namespace DL
open PySem PySem.Spec PyProof.Rows L2
section
variable {ρ : Rho} {m : Sr} {P : Pv} {Ξ : Xv} {x y : D} {i j : Int} {n : Nat} {pa pb pc pe po : DEt} {qa : DAt} {qt qu : DTt} {Q : Bool → Sr → Prop} {L : List D → Sr → Prop} {ds es : List D} {p : Addr} {D₁ : Ed} {s u : DSt} {wp : DFn}
/-! expressions -/
theorem ev_c (h : P x m) : dC x ρ m P Ξ := h
theorem ev_var {i : Nat} (e : nth ρ i = some x) (h : P x m) : dVar i ρ m P Ξ := ⟨x, e, h⟩
theorem ev_op {r : R2D} (h : pa ρ m (fun x m1 => pb ρ m1 (fun y m2 => r x y m2 P) Ξ) Ξ) : dOp r pa pb ρ m P Ξ := h
theorem ev_plusI (h : P (.int (i + j)) m) : oPlus (.int i) (.int j) m P := .inl ⟨i, j, rfl, rfl, h⟩
theorem ev_plusS {a b : Str} (hl : a.length + b.length ≤ sizeLine) (h : P (.str (a ++ b)) m) : oPlus (.str a) (.str b) m P := .inr (.inl ⟨a, b, rfl, rfl, hl, h⟩)
theorem ev_plusL (e1 : lstOf m x = some ds) (e2 : lstOf m y = some es) (hl : ds.length + es.length ≤ sizeLine) (h : P (.lst (ds ++ es)) m) : oPlus x y m P := .inr (.inr ⟨ds, es, e1, e2, hl, h⟩)
theorem ev_plusMI (h : P (.int (i + j)) m) : oPlusM (.int i) (.int j) m P := .inl ⟨i, j, rfl, rfl, h⟩
theorem ev_plusML (e1 : lstOf m x = some ds) (e2 : lstOf m y = some es) (hl : ds.length + es.length ≤ sizeLine) (h : ∀ p, m p = none → P (.ref p) (put m p (.lst (ds ++ es)))) : oPlusM x y m P := .inr (.inr ⟨ds, es, e1, e2, hl, h⟩)
theorem ev_add (h : P (.int (i + j)) m) : oAdd (.int i) (.int j) m P := ⟨i, j, rfl, rfl, h⟩
theorem ev_sub (h : P (.int (i - j)) m) : oSub (.int i) (.int j) m P := ⟨i, j, rfl, rfl, h⟩
theorem ev_mul (c : CMulW i j) (h : P (.int (i * j)) m) : oMul (.int i) (.int j) m P := ⟨i, j, rfl, rfl, c, h⟩
theorem ev_fdiv (c : CDivW i j) (h : P (.int (i / j)) m) : oFdiv (.int i) (.int j) m P := ⟨i, j, rfl, rfl, c, h⟩
theorem ev_mod (c : 0 < j) (h : P (.int (i % j)) m) : oMod (.int i) (.int j) m P := ⟨i, j, rfl, rfl, c, h⟩
theorem ev_pow (c : CPow i j) (h : P (.int (i ^ j.toNat)) m) : oPow (.int i) (.int j) m P := ⟨i, j, rfl, rfl, c, h⟩
theorem ev_lt (h : P (.bl (decide (i < j))) m) : oLt (.int i) (.int j) m P := ⟨i, j, rfl, rfl, h⟩
theorem ev_le (h : P (.bl (decide (i ≤ j))) m) : oLe (.int i) (.int j) m P := ⟨i, j, rfl, rfl, h⟩
theorem ev_gt (h : P (.bl (decide (j < i))) m) : oGt (.int i) (.int j) m P := ⟨i, j, rfl, rfl, h⟩
theorem ev_ge (h : P (.bl (decide (j ≤ i))) m) : oGe (.int i) (.int j) m P := ⟨i, j, rfl, rfl, h⟩
theorem ev_eq (h : P (.bl (decide (i = j))) m) : oEq (.int i) (.int j) m P := .inl ⟨i, j, rfl, rfl, h⟩
theorem ev_eqS {a b : Str} (h : P (.bl (decide (a = b))) m) : oEq (.str a) (.str b) m P := .inr (.inl ⟨a, b, rfl, rfl, h⟩)
theorem ev_eqD {a b : PyData} (h1 : Py m x a) (h2 : Py m y b) (h3 : SeqAt.shaped a = true) (h4 : SeqAt.shaped b = true) (h : P (.bl (PyData.eqv a b)) m) : oEq x y m P := .inr (.inr ⟨a, b, h1, h2, h3, h4, h⟩)
theorem ev_ne (h : P (.bl (!decide (i = j))) m) : oNe (.int i) (.int j) m P := .inl ⟨i, j, rfl, rfl, h⟩
theorem ev_neS {a b : Str} (h : P (.bl (!decide (a = b))) m) : oNe (.str a) (.str b) m P := .inr (.inl ⟨a, b, rfl, rfl, h⟩)
theorem ev_neD {a b : PyData} (h1 : Py m x a) (h2 : Py m y b) (h3 : SeqAt.shaped a = true) (h4 : SeqAt.shaped b = true) (h : P (.bl (!PyData.eqv a b)) m) : oNe x y m P := .inr (.inr ⟨a, b, h1, h2, h3, h4, h⟩)
theorem ev_ix (e : seqOf m x = some ds) (e2 : L2.atI ds i = some y) (h : P y m) : oIx x (.int i) m P := .inl ⟨ds, i, y, e, rfl, e2, h⟩
theorem ev_ixS {z : Str} {c : Nat} (hz : z.length ≤ sizeLine) (e2 : L2.atI z.cps.toList i = some c) (h : P (.str ⟨#[c]⟩) m) : oIx (.str z) (.int i) m P := .inr ⟨z, i, c, rfl, rfl, hz, e2, h⟩
theorem ev_in {neg : Bool} (e : seqOf m y = some ds) (h1 : flatD x = true) (h2 : ds.all flatD = true) (h : P (.bl (if neg then !inD x ds else inD x ds)) m) : oIn neg x y m P := ⟨ds, e, h1, h2, h⟩
theorem ev_isN {b : Bool} (e : b = true ↔ x = .non) (h : P (.bl b) m) : oIsN x .non m P := ⟨rfl, b, e, h⟩
theorem ev_notN {b : Bool} (e : b = true ↔ x ≠ .non) (h : P (.bl b) m) : oNotN x .non m P := ⟨rfl, b, e, h⟩
theorem ev_isNN (h : P (.bl true) m) : oIsN .non .non m P := ev_isN (b := true) ⟨fun _ => rfl, fun _ => rfl⟩ h
theorem ev_notNN (h : P (.bl false) m) : oNotN .non .non m P := ev_notN (b := false) ⟨(fun z => nomatch z), fun z => (z rfl).elim⟩ h
theorem ev_isNI (h : P (.bl false) m) : oIsN (.int i) .non m P := ev_isN (b := false) ⟨(fun z => nomatch z), fun z => nomatch z⟩ h
theorem ev_notNI (h : P (.bl true) m) : oNotN (.int i) .non m P := ev_notN (b := true) ⟨fun _ => (fun z => nomatch z), fun _ => rfl⟩ h
theorem ev_isNL (h : P (.bl false) m) : oIsN (.lst ds) .non m P := ev_isN (b := false) ⟨(fun z => nomatch z), fun z => nomatch z⟩ h
theorem ev_notNL (h : P (.bl true) m) : oNotN (.lst ds) .non m P := ev_notN (b := true) ⟨fun _ => (fun z => nomatch z), fun _ => rfl⟩ h
theorem ev_isNT (h : P (.bl false) m) : oIsN (.tup ds) .non m P := ev_isN (b := false) ⟨(fun z => nomatch z), fun z => nomatch z⟩ h
theorem ev_notNT (h : P (.bl true) m) : oNotN (.tup ds) .non m P := ev_notN (b := true) ⟨fun _ => (fun z => nomatch z), fun _ => rfl⟩ h
theorem ev_isNR (h : P (.bl false) m) : oIsN (.ref p) .non m P := ev_isN (b := false) ⟨(fun z => nomatch z), fun z => nomatch z⟩ h
theorem ev_notNR (h : P (.bl true) m) : oNotN (.ref p) .non m P := ev_notN (b := true) ⟨fun _ => (fun z => nomatch z), fun _ => rfl⟩ h
theorem ev_isNB {b : Bool} (h : P (.bl false) m) : oIsN (.bl b) .non m P := ev_isN (b := false) ⟨(fun z => nomatch z), fun z => nomatch z⟩ h
theorem ev_notNB {b : Bool} (h : P (.bl true) m) : oNotN (.bl b) .non m P := ev_notN (b := true) ⟨fun _ => (fun z => nomatch z), fun _ => rfl⟩ h
theorem ev_isNS {z : Str} (h : P (.bl false) m) : oIsN (.str z) .non m P := ev_isN (b := false) ⟨(fun z => nomatch z), fun z => nomatch z⟩ h
theorem ev_notNS {z : Str} (h : P (.bl true) m) : oNotN (.str z) .non m P := ev_notN (b := true) ⟨fun _ => (fun z => nomatch z), fun _ => rfl⟩ h
theorem ev_dget {d : D} {kvs : List (Key × D)} {k : Key} (e : dicOf m x = some kvs) (e2 : keyD y = some k) (e3 : valD kvs k = some d) (h : P d m) : oDget x y m P := ⟨d, ⟨kvs, k, e, e2, e3.symm⟩, h⟩
theorem ev_din {neg : Bool} {kvs : List (Key × D)} {k : Key} (e : dicOf m x = some kvs) (e2 : keyD y = some k) (h : P (.bl (if neg then !(valD kvs k).isSome else (valD kvs k).isSome)) m) : oDin neg y x m P := ⟨_, ⟨kvs, k, e, e2, rfl⟩, h⟩
theorem ev_get2 {pz : DEt} (h : pa ρ m (fun x m1 => (∃ kvs, dicOf m1 x = some kvs) ∧ pb ρ m1 (fun y m2 => pz ρ m2 (fun z m3 => ∃ r, DLook m3 x y r ∧ P (r.getD z) m3) Ξ) Ξ) Ξ) : dGet2 pa pb pz ρ m P Ξ := h
theorem ev_look {kvs : List (Key × D)} {k : Key} {R : Option D → Prop} (e : dicOf m x = some kvs) (e2 : keyD y = some k) (h : R (valD kvs k)) : ∃ r, DLook m x y r ∧ R r := ⟨_, ⟨kvs, k, e, e2, rfl⟩, h⟩
theorem ev_newD (h : ∀ p, m p = none → P (.ref p) (put m p (.dic []))) : dNewD ρ m P Ξ := h
theorem ev_if (h : qt ρ m (fun c m1 => if c = true then pa ρ m1 P Ξ else pb ρ m1 P Ξ) Ξ) : dIf qt pa pb ρ m P Ξ := h
theorem ev_andV (h : pa ρ m (fun x m1 => ∃ c, x = .bl c ∧ if c = true then pb ρ m1 P Ξ else P (.bl false) m1) Ξ) : dAndV pa pb ρ m P Ξ := h
theorem ev_orV (h : pa ρ m (fun x m1 => ∃ c, x = .bl c ∧ if c = true then P (.bl true) m1 else pb ρ m1 P Ξ) Ξ) : dOrV pa pb ρ m P Ξ := h
theorem ev_notV (h : pa ρ m (fun x m1 => ∃ c, x = .bl c ∧ P (.bl (!c)) m1) Ξ) : dNotV pa ρ m P Ξ := h
theorem ev_neg (h : pa ρ m (fun x m1 => ∃ i, x = .int i ∧ P (.int (-i)) m1) Ξ) : dNeg pa ρ m P Ξ := h
theorem ev_chain {r r' : R2D} (h : pa ρ m (fun x m1 => pb ρ m1 (fun y m2 => r x y m2 fun z m3 => ∃ k, z = .bl k ∧ if k = true then pc ρ m3 (fun w m4 => r' y w m4 P) Ξ else P (.bl false) m3) Ξ) Ξ) : dChain r r' pa pb pc ρ m P Ξ := h
theorem ev_lst (h : qa ρ m (fun xs m1 => xs.length ≤ sizeLine ∧ P (.lst xs) m1) Ξ) : dLst qa ρ m P Ξ := h
theorem ev_lstM (h : qa ρ m (fun xs m1 => xs.length ≤ sizeLine ∧ ∀ p, m1 p = none → P (.ref p) (put m1 p (.lst xs))) Ξ) : dLstM qa ρ m P Ξ := h
theorem ev_tup (h : qa ρ m (fun xs m1 => xs.length ≤ sizeLine ∧ P (.tup xs) m1) Ξ) : dTup qa ρ m P Ξ := h
theorem ev_frz (h : pe ρ m (fun x m1 => ∃ p ds, x = .ref p ∧ m1 p = some (.lst ds) ∧ P (.lst ds) (drp m1 p)) Ξ) : dFrz pe ρ m P Ξ := h
theorem ev_frzR (e : m p = some (.lst ds)) (h : P (.lst ds) (drp m p)) : ∃ q es, D.ref p = .ref q ∧ m q = some (.lst es) ∧ P (.lst es) (drp m q) := ⟨p, ds, rfl, e, h⟩
theorem ev_slice {pl ph : DOt} (h : pe ρ m (fun x m1 => pl ρ m1 (fun l m2 => ph ρ m2 (fun h m3 => (∃ ds, seqL m3 x = some ds ∧ P (.lst (cutD ds l h)) m3) ∨ ∃ z, x = .str z ∧ z.length ≤ sizeLine ∧ P (.str (cutS z l h)) m3) Ξ) Ξ) Ξ) : dSl pe pl ph ρ m P Ξ := h
theorem ev_sliceL {l hh : Option Int} (e : seqL m x = some ds) (h : P (.lst (cutD ds l hh)) m) : (∃ ds, seqL m x = some ds ∧ P (.lst (cutD ds l hh)) m) ∨ ∃ z, x = .str z ∧ z.length ≤ sizeLine ∧ P (.str (cutS z l hh)) m := .inl ⟨ds, e, h⟩
theorem ev_sliceS {l hh : Option Int} {z : Str} (e : z.length ≤ sizeLine) (h : P (.str (cutS z l hh)) m) : (∃ ds, seqL m (.str z) = some ds ∧ P (.lst (cutD ds l hh)) m) ∨ ∃ y, D.str z = .str y ∧ y.length ≤ sizeLine ∧ P (.str (cutS y l hh)) m := .inr ⟨z, rfl, e, h⟩
theorem ev_noPart {R : Option Int → Sr → Prop} (h : R none m) : dNoPart ρ m R Ξ := h
theorem ev_part {R : Option Int → Sr → Prop} (h : pe ρ m (fun x m1 => ∃ i, x = .int i ∧ R (some i) m1) Ξ) : dPart pe ρ m R Ξ := h
/-! tests -/
theorem ev_tst (h : pe ρ m (fun x m1 => ∃ k, x = .bl k ∧ Q k m1) Ξ) : dTst pe ρ m Q Ξ := h
theorem ev_bl {b : Bool} {R : Bool → Prop} (h : R b) : ∃ k, D.bl b = .bl k ∧ R k := ⟨b, rfl, h⟩
theorem ev_int {R : Int → Prop} (h : R i) : ∃ k, D.int i = .int k ∧ R k := ⟨i, rfl, h⟩
theorem ev_tru (h : pe ρ m (fun x m1 => (∃ k, truth m1 x = some k ∧ Q k m1) ∨ ∃ s, x = .str s ∧ s.length ≤ sizeLine ∧ Q ((s.length : Int) != 0) m1) Ξ) : dTru pe ρ m Q Ξ := h
theorem ev_truth {k : Bool} {R : Bool → Prop} {S : Prop} (e : truth m x = some k) (h : R k) : (∃ k, truth m x = some k ∧ R k) ∨ S := .inl ⟨k, e, h⟩
theorem ev_and (h : qt ρ m (fun c m1 => if c = true then qu ρ m1 Q Ξ else Q false m1) Ξ) : dAnd qt qu ρ m Q Ξ := h
theorem ev_or (h : qt ρ m (fun c m1 => if c = true then Q true m1 else qu ρ m1 Q Ξ) Ξ) : dOr qt qu ρ m Q Ξ := h
theorem ev_not (h : qt ρ m (fun c m1 => Q (!c) m1) Ξ) : dNot qt ρ m Q Ξ := h
theorem ev_yes (h : Q true m) : dYes ρ m Q Ξ := h
theorem ev_ite {c : Prop} [Decidable c] {A B : Prop} (h1 : c → A) (h2 : ¬c → B) : if decide c = true then A else B := by
  by_cases h : c
  · rw [if_pos (decide_eq_true h)]; exact h1 h
  · rw [if_neg (by rw [decide_eq_false h]; exact Bool.false_ne_true)]; exact h2 h
theorem ev_itb {b : Bool} {A B : Prop} (h1 : b = true → A) (h2 : b = false → B) : if b = true then A else B := by
  cases b
  · rw [if_neg Bool.false_ne_true]; exact h2 rfl
  · rw [if_pos rfl]; exact h1 rfl
theorem ev_yesI {A B : Prop} (h : A) : if true = true then A else B := by rw [if_pos rfl]; exact h
theorem ev_noI {A B : Prop} (h : B) : if false = true then A else B := by rw [if_neg Bool.false_ne_true]; exact h
theorem ev_nyI {A B : Prop} (h : A) : if (!false) = true then A else B := ev_yesI h
theorem ev_nnI {A B : Prop} (h : B) : if (!true) = true then A else B := ev_noI h
theorem ev_TI {A B : Prop} {d : Decidable True} (h : A) : @ite _ True d A B := by rw [if_pos trivial]; exact h
theorem ev_FI {A B : Prop} {d : Decidable False} (h : B) : @ite _ False d A B := by rw [if_neg id]; exact h
/-! arguments -/
theorem ev_nil (h : L [] m) : dNil ρ m L Ξ := h
theorem ev_cons (h : pa ρ m (fun x m1 => qa ρ m1 (fun xs m2 => L (x :: xs) m2) Ξ) Ξ) : dCons pa qa ρ m L Ξ := h
theorem ev_call (h : qa ρ m (fun xs m1 => xs.length = n ∧ wp xs m1 P Ξ) Ξ) : dCall n wp qa ρ m P Ξ := h
theorem ev_callP (h : qa ρ m (fun xs m1 => xs.length = n ∧ wp xs emp (fun x _ => P x m1) (fun C fs _ => Ξ C fs m1)) Ξ) : dCallP n wp qa ρ m P Ξ := h
theorem ev_callM (h : qa ρ m (fun xs m1 => xs.length = n ∧ wp xs emp (fun x m2 => (∀ p o, m1 p = some o → m2 p = none) → P x (uni m1 m2)) (fun C fs _ => Ξ C fs m1)) Ξ) : dCallM n wp qa ρ m P Ξ := h
theorem ev_cb {r : RCD} (h : qa ρ m (fun xs m1 => r xs m1 P) Ξ) : dCB r qa ρ m P Ξ := h
theorem ev_len (e : seqOf m x = some ds) (h : P (.int (ds.length : Int)) m) : cLen [x] m P := .inl ⟨x, ds, rfl, e, h⟩
theorem ev_lenS {s : Str} (e : s.length ≤ sizeLine) (h : P (.int (s.length : Int)) m) : cLen [.str s] m P := .inr ⟨s, rfl, e, h⟩
theorem ev_abs (h : P (.int (if i < 0 then -i else i)) m) : cAbs [.int i] m P := ⟨i, rfl, h⟩
theorem ev_cint (h : P (.int i) m) : cInt [.int i] m P := .inl ⟨i, rfl, h⟩
theorem ev_cintB {k : Bool} (h : P (.int (if k then 1 else 0)) m) : cInt [.bl k] m P := .inr ⟨k, rfl, h⟩
theorem ev_max2 (h : P (.int (if j > i then j else i)) m) : cMax2 [.int i, .int j] m P := ⟨i, j, rfl, h⟩
theorem ev_min2 (h : P (.int (if j < i then j else i)) m) : cMin2 [.int i, .int j] m P := ⟨i, j, rfl, h⟩
theorem ev_list (e : seqOf m x = some ds) (h : P (.lst ds) m) : cList [x] m P := ⟨x, ds, rfl, e, h⟩
theorem ev_listM (e : seqOf m x = some ds) (h : ∀ p, m p = none → P (.ref p) (put m p (.lst ds))) : cListM [x] m P := ⟨x, ds, rfl, e, h⟩
theorem ev_tupL (e : seqL m x = some ds) (h : P (.tup ds) m) : cTuple [x] m P := .inl ⟨x, ds, rfl, e, h⟩
theorem ev_maxL {ns : List Int} (e : seqOf m x = some (ns.map D.int)) (h0 : 0 < ns.length) (h : ∀ a, a ∈ ns → (∀ b, b ∈ ns → b ≤ a) → P (.int a) m) : cMaxL [x] m P := ⟨x, ns, rfl, e, h0, h⟩
theorem ev_minL {ns : List Int} (e : seqOf m x = some (ns.map D.int)) (h0 : 0 < ns.length) (h : ∀ a, a ∈ ns → (∀ b, b ∈ ns → a ≤ b) → P (.int a) m) : cMinL [x] m P := ⟨x, ns, rfl, e, h0, h⟩
theorem ev_sum {ns : List Int} (e : seqOf m x = some (ns.map D.int)) (h : P (.int ns.sum) m) : cSum [x] m P := ⟨x, ns, rfl, e, h⟩
theorem ev_repr {d : PyData} (e : (lstOf m x).isSome = true) (h1 : Py m x d) (h2 : SeqAt.shaped d = true) (h3 : d.showable = true) (h4 : d.shown.length ≤ sizeLine) (h : P (.str d.shown) m) : cRepr [x] m P := ⟨x, d, rfl, e, h1, h2, h3, h4, h⟩
theorem ev_bm {ty : IsTy} {rd : RMD} (h : po ρ m (fun x m1 => ty m1 x ∧ qa ρ m1 (fun xs m2 => rd x xs m2 P) Ξ) Ξ) : dBM ty rd po qa ρ m P Ξ := h
theorem ev_bm0 {ty : IsTy} {rd : RMD} (h : po ρ m (fun x m1 => ty m1 x ∧ rd x [] m1 P) Ξ) : dBM0 ty rd po ρ m P Ξ := h
theorem ev_isL {B : Prop} (e : seqL m x = some ds) (h : B) : isL m x ∧ B := ⟨⟨ds, e⟩, h⟩
theorem ev_app (e : m p = some (.lst ds)) (hl : ds.length < sizeLine) (h : P .non (put m p (.lst (ds ++ [y])))) : mApp (.ref p) [y] m P := ⟨p, ds, y, rfl, rfl, e, hl, h⟩
theorem ev_pop (e : m p = some (.lst ds)) (e2 : ds[ds.length - 1]? = some y) (h : P y (put m p (.lst ds.dropLast))) : mPop (.ref p) [] m P := ⟨p, ds, y, rfl, rfl, e, e2, h⟩
theorem ev_popAt {k : Nat} (e : m p = some (.lst ds)) (b1 : -(2 ^ 63) ≤ i) (b2 : i < 2 ^ 63) (e2 : seqIndex? i ds.length = some k) (e3 : ds[k]? = some y) (h : P y (put m p (.lst (ds.eraseIdx k)))) : mPopAt (.ref p) [.int i] m P := ⟨p, ds, i, k, y, rfl, rfl, e, b1, b2, e2, e3, h⟩
theorem ev_index {z : D} {j : Nat} (e : seqL m x = some ds) (h1 : flatD y = true) (h2 : ds.all flatD = true) (h3 : ds[j]? = some z) (h4 : eqD z y = true) (h5 : ∀ (i : Nat) (z' : D), i < j → ds[i]? = some z' → eqD z' y = false) (h : P (.int (j : Nat)) m) : mIndex x [y] m P := ⟨ds, y, j, z, rfl, e, h1, h2, h3, h4, h5, h⟩
/-! statements -/
theorem ev_fn {xs : List D} (h : s { nx := fun _ m' => P .non m', rt := P, xt := fun C fs _ m' => Ξ C fs m' } (startR n xs) m) : dFn n s xs m P Ξ := h
theorem ev_next (h : D₁.nx ρ m) : dNext D₁ ρ m := h
theorem ev_seq (h : s { D₁ with nx := u D₁ } ρ m) : dSeq s u D₁ ρ m := h
theorem ev_ret (h : pe ρ m D₁.rt (D₁.x ρ)) : dRet pe D₁ ρ m := h
theorem ev_retN (h : D₁.rt .non m) : dRetN D₁ ρ m := h
theorem ev_drop (h : pe ρ m (fun _ m1 => D₁.nx ρ m1) (D₁.x ρ)) : dDrop pe D₁ ρ m := h
theorem ev_ifS (h : qt ρ m (fun b m1 => if b = true then s D₁ ρ m1 else u D₁ ρ m1) (D₁.x ρ)) : dIfS qt s u D₁ ρ m := h
theorem ev_break (h : D₁.bk ρ m) : dBreak D₁ ρ m := h
theorem ev_cont (h : D₁.ct ρ m) : dCont D₁ ρ m := h
theorem ev_asg {g : DGt} (h : pe ρ m (fun x m1 => g x ρ m1 D₁.nx) (D₁.x ρ)) : dAsg pe g D₁ ρ m := h
theorem ev_aug {k : Nat} {r : R2D} (e : nth ρ k = some x) (h : pe ρ m (fun y m1 => r x y m1 (fun z m2 => D₁.nx (ρ.set k (some z)) m2)) (D₁.x ρ)) : dAug k r pe D₁ ρ m := ⟨x, e, h⟩
theorem ev_setL (h : pe ρ m (fun v m1 => pa ρ m1 (fun o m2 => pb ρ m2 (fun y m3 => ∃ p ds k j, o = .ref p ∧ m3 p = some (.lst ds) ∧ y = .int k ∧ ixN ds.length k = some j ∧ D₁.nx ρ (put m3 p (.lst (ds.set j v)))) (D₁.x ρ)) (D₁.x ρ)) (D₁.x ρ)) : dSetL pe pa pb D₁ ρ m := h
theorem ev_setLR {k : Int} {j : Nat} {R : Addr → List D → Nat → Prop} (e : m p = some (.lst ds)) (e2 : ixN ds.length k = some j) (h : R p ds j) : ∃ q es k' j', D.ref p = .ref q ∧ m q = some (.lst es) ∧ D.int k = .int k' ∧ ixN es.length k' = some j' ∧ R q es j' := ⟨p, ds, k, j, rfl, e, rfl, e2, h⟩
theorem ev_putD (h : pe ρ m (fun v m1 => pa ρ m1 (fun o m2 => pb ρ m2 (fun y m3 => ∃ p kvs k, o = .ref p ∧ m3 p = some (.dic kvs) ∧ keyD y = some k ∧ kvs.length < sizeLine ∧ D₁.nx ρ (put m3 p (.dic (putD kvs k v)))) (D₁.x ρ)) (D₁.x ρ)) (D₁.x ρ)) : dPutD pe pa pb D₁ ρ m := h
theorem ev_putDR {kvs : List (Key × D)} {k : Key} {R : Addr → List (Key × D) → Key → Prop} (e : m p = some (.dic kvs)) (e2 : keyD y = some k) (hl : kvs.length < sizeLine) (h : R p kvs k) : ∃ q kv k', D.ref p = .ref q ∧ m q = some (.dic kv) ∧ keyD y = some k' ∧ kv.length < sizeLine ∧ R q kv k' := ⟨p, kvs, k, rfl, e, e2, hl, h⟩
theorem ev_gName {k : Nat} {R : Rho → Sr → Prop} (h : R (ρ.set k (some x)) m) : gdName k x ρ m R := h
theorem ev_gTup {k : Nat} {g : DGts} {R : Rho → Sr → Prop} (e : tupOf x = some ds) (e2 : ds.length = k) (h : g ds ρ m R) : gdTup k g x ρ m R := ⟨ds, e, e2, h⟩
theorem ev_gCons {g : DGt} {r : DGts} {R : Rho → Sr → Prop} (h : g y ρ m fun ρ1 m1 => r ds ρ1 m1 R) : gdCons g r (y :: ds) ρ m R := ⟨y, ds, rfl, h⟩
theorem ev_gNil {R : Rho → Sr → Prop} (h : R ρ m) : gdNil [] ρ m R := ⟨rfl, h⟩
theorem ev_for {pi : DIt} {g : DGt} (h : pi ρ m (fun xs m1 => dForL g s xs D₁ ρ m1) (D₁.x ρ)) : dFor pi g s D₁ ρ m := h
theorem ev_diL (h : pe ρ m (fun x m1 => ∃ ds, frzS x = some ds ∧ L ds m1) Ξ) : diL pe ρ m L Ξ := h
theorem ev_diT (h : pe ρ m (fun x m1 => ∃ ds, tupOf x = some ds ∧ L ds m1) Ξ) : diT pe ρ m L Ξ := h
theorem ev_dr1 (h : qa ρ m (fun xs m1 => ∃ j : Int, xs = [.int j] ∧ -(2 ^ 62) ≤ j ∧ j < 2 ^ 62 ∧ L ((List.range j.toNat).map fun (k : Nat) => D.int (k : Int)) m1) Ξ) : diR1 qa ρ m L Ξ := h
theorem ev_dr1R {R : Int → Prop} (h1 : -(2 ^ 62) ≤ j) (h2 : j < 2 ^ 62) (h : R j) : ∃ j' : Int, [D.int j] = [.int j'] ∧ -(2 ^ 62) ≤ j' ∧ j' < 2 ^ 62 ∧ R j' := ⟨j, rfl, h1, h2, h⟩
theorem ev_dr2 (h : qa ρ m (fun xs m1 => ∃ i j : Int, xs = [.int i, .int j] ∧ (-(2 ^ 62) ≤ i ∧ i < 2 ^ 62 ∧ -(2 ^ 62) ≤ j ∧ j < 2 ^ 62) ∧ L ((List.range (j - i).toNat).map fun (k : Nat) => D.int (i + (k : Int))) m1) Ξ) : diR2 qa ρ m L Ξ := h
theorem ev_dr2R {R : Int → Int → Prop} (h1 : -(2 ^ 62) ≤ i) (h2 : i < 2 ^ 62) (h3 : -(2 ^ 62) ≤ j) (h4 : j < 2 ^ 62) (h : R i j) : ∃ i' j' : Int, [D.int i, D.int j] = [.int i', .int j'] ∧ (-(2 ^ 62) ≤ i' ∧ i' < 2 ^ 62 ∧ -(2 ^ 62) ≤ j' ∧ j' < 2 ^ 62) ∧ R i' j' := ⟨i, j, rfl, ⟨h1, h2, h3, h4⟩, h⟩
theorem ev_diE (h : qa ρ m (fun xs m1 => ∃ x ds, xs = [x] ∧ frzS x = some ds ∧ L (numbered 0 ds) m1) Ξ) : diE qa ρ m L Ξ := h
theorem ev_diZ (h : qa ρ m (fun xs m1 => ∃ x y ds es, xs = [x, y] ∧ frzS x = some ds ∧ frzS y = some es ∧ L (List.zipWith (fun a b => D.tup [a, b]) ds es) m1) Ξ) : diZ qa ρ m L Ξ := h
theorem ev_diER {R : List D → Prop} (e : frzS x = some ds) (h : R ds) : ∃ y es, [x] = [y] ∧ frzS y = some es ∧ R es := ⟨x, ds, rfl, e, h⟩
theorem ev_diZR {R : List D → List D → Prop} (e : frzS x = some ds) (e2 : frzS y = some es) (h : R ds es) : ∃ x' y' ds' es', [x, y] = [x', y'] ∧ frzS x' = some ds' ∧ frzS y' = some es' ∧ R ds' es' := ⟨x, y, ds, es, rfl, e, e2, h⟩
theorem ev_diS (h : pe ρ m (fun x m1 => ∃ s, x = .str s ∧ L (s.cps.toList.map fun c => D.str ⟨#[c]⟩) m1) Ξ) : diS pe ρ m L Ξ := h
theorem ev_some {R : List D → Prop} {o : Option (List D)} (e : o = some ds) (h : R ds) : ∃ es, o = some es ∧ R es := ⟨ds, e, h⟩
theorem ev_lc {pi : DIt} {g : DGt} {vs : List Nat} (h : pi ρ m (fun xs m1 => dLcGo g qt pe (wipeR ρ vs) (fun acc m2 => P (.lst acc) m2) xs [] m1) Ξ) : dLc pi g qt pe vs ρ m P Ξ := h
theorem ev_lcM {pi : DIt} {g : DGt} {vs : List Nat} (h : pi ρ m (fun xs m1 => dLcGo g qt pe (wipeR ρ vs) (fun acc m2 => ∀ p, m2 p = none → P (.ref p) (put m2 p (.lst acc))) xs [] m1) Ξ) : dLcM pi g qt pe vs ρ m P Ξ := h
theorem ev_raise {C : Str} {fs : List Str} (h : qa ρ m (fun xs m1 => xs.length = fs.length ∧ D₁.xt C (fs.zip xs).reverse ρ m1) (D₁.x ρ)) : dRaise C fs qa D₁ ρ m := h
theorem ev_try {exm : Exm} {hs : List HdD} (h : s { D₁ with xt := dHs exm D₁ hs } ρ m) : dTry exm s hs D₁ ρ m := h
theorem ev_hit {exm : Exm} {hd : HdD} {r : List HdD} {C : Str} {fs : List (Str × D)} (e : exm C hd.c = some true) (h : ∀ a cls d, (d = none → fs = []) → match hd.slot with
      | none => hd.p a cls d D₁.nox ρ m
      | some i => hd.p a cls d (endR i D₁) (ρ.set i (some (.exc a cls C d fs))) m) : dHs exm D₁ (hd :: r) C fs ρ m := ⟨true, e, fun _ => h, fun z => nomatch z⟩
theorem ev_miss {exm : Exm} {hd : HdD} {r : List HdD} {C : Str} {fs : List (Str × D)} (e : exm C hd.c = some false) (h : dHs exm D₁ r C fs ρ m) : dHs exm D₁ (hd :: r) C fs ρ m := ⟨false, e, (fun z => nomatch z), fun _ => h⟩
theorem ev_xf {a : Addr} {cls : Value} {d : Option Addr} {c f : Str} (h : pe ρ m (fun x m1 => ∃ fs v, x = .exc a cls c d fs ∧ fs.lookup f = some v ∧ P v m1) Ξ) : dXf a cls d c f pe ρ m P Ξ := h
theorem ev_xfR {a : Addr} {cls : Value} {d : Option Addr} {c f : Str} {fs : List (Str × D)} {v : D} {R : D → Prop} (e : fs.lookup f = some v) (h : R v) : ∃ fs' v', D.exc a cls c d fs = .exc a cls c d fs' ∧ fs'.lookup f = some v' ∧ R v' := ⟨fs, v, rfl, e, h⟩
theorem ev_both {A B : Prop} (a : A) (b : B) : A ∧ B := ⟨a, b⟩
theorem ev_few (h1 : ds.length ≤ sizeLine) {B : Prop} (h : B) : ds.length ≤ sizeLine ∧ B := ⟨h1, h⟩
theorem ev_argc {B : Prop} (e : ds.length = n) (h : B) : ds.length = n ∧ B := ⟨e, h⟩
end
end DL
/-! Facts for reading: sequences, dicts, data that can be shown. -/
namespace DL
open PySem PySem.Spec PyProof.Rows L2

abbrev iL (ns : List Int) : List D := ns.map D.int
theorem seqOf_frz {m : Sr} {x : D} {ds : List D} (h : frzS x = some ds) : seqOf m x = some ds := by
  cases x <;> first | exact h | (cases h; done)
theorem seqL_frz {m : Sr} {x : D} {ds : List D} (h : frzL x = some ds) : seqL m x = some ds := by
  cases x <;> first | exact h | (cases h; done)
theorem frzS_of {x : D} {ds : List D} (h : frzL x = some ds) : frzS x = some ds := by
  unfold frzS; rw [h]; rfl
theorem atI_at {α : Type} {xs : List α} {k : Nat} {x : α} (h : xs[k]? = some x) : L2.atI xs (k : Int) = some x := by
  have hk : k < xs.length := (List.getElem?_eq_some_iff.mp h).1
  unfold L2.atI ixN
  rw [if_pos (by omega), if_pos (by omega)]
  exact h
theorem atI_iL {ns : List Int} {k : Nat} {x : Int} (h : ns[k]? = some x) : L2.atI (iL ns) (k : Int) = some (.int x) := atI_at (by rw [List.getElem?_map, h]; rfl)
theorem ixN_at {n k : Nat} (h : k < n) : ixN n (k : Int) = some k := by
  unfold ixN
  rw [if_pos (by omega), if_pos (by omega)]
  rfl
theorem small_sz {n : Nat} (h : n ≤ 1000000) : n ≤ sizeLine := Nat.le_trans h (by decide)
theorem small_lt {n : Nat} (h : n ≤ 1000000) : n < sizeLine := Nat.lt_of_le_of_lt h (by decide)

/-! dicts -/
theorem valD_put {κ : Type} [DecidableEq κ] (kvs : List (κ × D)) (k c : κ) (v : D) : valD (putD kvs k v) c = if k = c then some v else valD kvs c := by
  unfold putD
  by_cases h : (kvs.any fun kv => decide (kv.1 = k)) = true
  · rw [if_pos h]
    have h2 : ∃ x ∈ kvs, x.1 = k := by simpa [List.any_eq_true] using h
    clear h
    induction kvs with
    | nil => obtain ⟨_, hx, _⟩ := h2; cases hx
    | cons a r ih =>
      by_cases hc : a.1 = c
      · by_cases hk : k = c
        · simp [valD, hc, hk]
        · have ha : ¬ a.1 = k := fun e => hk (e.symm.trans hc)
          simp [valD, hc, hk, ha, Ne.symm hk]
      · by_cases hk : a.1 = k
        · have hkc : ¬ k = c := fun e => hc (hk.trans e)
          rw [if_neg hkc]
          have hr : valD (r.map fun kv => if kv.1 = k then (kv.1, v) else kv) c = valD r c := by
            clear ih h2
            induction r with
            | nil => rfl
            | cons b r ih =>
              by_cases hb : b.1 = k
              · have hbc : ¬ b.1 = c := fun e => hkc (hb.symm.trans e)
                have := ih
                simp only [valD, List.map_cons, if_pos hb, List.find?_cons] at this ⊢
                simp only [decide_eq_false hbc] at this ⊢
                exact this
              · have := ih
                simp only [valD, List.map_cons, if_neg hb, List.find?_cons] at this ⊢
                by_cases hbc : b.1 = c
                · simp [hbc]
                · simp only [decide_eq_false hbc] at this ⊢
                  exact this
          simp only [valD, List.map_cons, if_pos hk, List.find?_cons, decide_eq_false hc] at hr ⊢
          exact hr
        · have h3 : ∃ x ∈ r, x.1 = k := by
            obtain ⟨x, hx, e⟩ := h2
            cases hx with
            | head => exact (hk e).elim
            | tail _ hx => exact ⟨x, hx, e⟩
          have := ih h3
          simp only [valD, List.map_cons, if_neg hk, List.find?_cons, decide_eq_false hc] at this ⊢
          exact this
  · rw [if_neg h]
    have h2 : ∀ x ∈ kvs, x.1 ≠ k := by
      intro x hx e
      exact h (List.any_eq_true.mpr ⟨x, hx, decide_eq_true e⟩)
    clear h
    induction kvs with
    | nil =>
      by_cases hk : k = c
      · simp [valD, hk]
      · simp [valD, hk]
    | cons a r ih =>
      have h3 := ih fun x hx => h2 x (List.mem_cons_of_mem _ hx)
      by_cases hc : a.1 = c
      · have hk : ¬ k = c := fun e => h2 a List.mem_cons_self (hc.trans e.symm)
        simp [valD, hc, hk]
      · simp only [valD, List.cons_append, List.find?_cons, decide_eq_false hc] at h3 ⊢
        exact h3
theorem putD_len {κ : Type} [DecidableEq κ] (kvs : List (κ × D)) (k : κ) (v : D) : (putD kvs k v).length ≤ kvs.length + 1 := by
  unfold putD
  split
  · rw [List.length_map]; omega
  · rw [List.length_append]; simp

/-! the numbers that a loop walks -/
def itemsFrom (i : Int) : Nat → List D
  | 0 => []
  | n + 1 => .int i :: itemsFrom (i + 1) n
theorem items_r (i : Int) : ∀ n : Nat, ((List.range n).map fun (k : Nat) => D.int (i + (k : Int))) = itemsFrom i n
  | 0 => rfl
  | n + 1 => by
    rw [List.range_succ_eq_map, List.map_cons, List.map_map, itemsFrom, ← items_r (i + 1) n]
    have e : ((fun (k : Nat) => D.int (i + (k : Int))) ∘ Nat.succ) = fun (k : Nat) => D.int (i + 1 + (k : Int)) := by
      funext k
      show D.int (i + ((k + 1 : Nat) : Int)) = _
      congr 1
      omega
    rw [e]
    congr 2
    omega
theorem items_0 (n : Nat) : ((List.range n).map fun (k : Nat) => D.int (k : Int)) = itemsFrom 0 n := by
  rw [← items_r 0 n]
  congr 1
  funext k
  rw [Int.zero_add]
theorem items_len (i : Int) : ∀ n, (itemsFrom i n).length = n
  | 0 => rfl
  | n + 1 => congrArg (· + 1) (items_len (i + 1) n)

/-! comprehensions without effect -/
theorem lcGo_flt {g : DGt} {qt : DTt} {pe : DEt} {ρw : Rho} {k : List D → Sr → Prop} {m : Sr} (sel : D → Option D) : ∀ (xs acc : List D), acc.length + xs.length ≤ sizeLine →
    (∀ x, x ∈ xs → ∀ (R : D → Sr → Prop) (R0 : Sr → Prop), (∀ y, sel x = some y → R y m) → (sel x = none → R0 m) → g x ρw m fun ρ1 m1 => qt ρ1 m1 (fun b m2 => if b = true then pe ρ1 m2 R X0 else R0 m2) X0) →
    k (acc ++ xs.filterMap sel) m → dLcGo g qt pe ρw k xs acc m
  | [], acc, _, _, h => by
    rw [List.filterMap_nil, List.append_nil] at h
    exact h
  | x :: r, acc, hl, st, h => by
    rw [List.length_cons] at hl
    refine st x List.mem_cons_self _ _ (fun y e => ⟨by omega, ?_⟩) fun e => ?_
    · refine lcGo_flt sel r (acc ++ [y]) (by rw [List.length_append]; show acc.length + 1 + r.length ≤ _; omega) (fun z hz => st z (List.mem_cons_of_mem _ hz)) ?_
      rw [List.filterMap_cons, e] at h
      rw [List.append_assoc]
      exact h
    · refine lcGo_flt sel r acc (by omega) (fun z hz => st z (List.mem_cons_of_mem _ hz)) ?_
      rw [List.filterMap_cons, e] at h
      exact h

/-! data that can be shown -/
mutual
def fit : PyData → Bool
  | .none | .bool _ => true
  | .int i => decide (i.natAbs < 10 ^ 40)
  | .str x => PySem.PyData.strOk x
  | .list xs | .tuple xs => fitAll xs
  | .dict _ => false
def fitAll : List PyData → Bool
  | [] => true
  | x :: xs => fit x && fitAll xs
end
theorem int_len {i : Int} (h : i.natAbs < 10 ^ 40) : (PyData.shown (.int i)).length ≤ 41 := by
  have e := int_text_length_le10 (k := 40) (by decide) h
  show (Str.ofString (toString i)).length ≤ 41
  rw [PySem.ofString_length]; exact e
theorem log_small {n : Nat} (h : n < 10 ^ 40) : n.log2 < 1920 := by
  by_cases h0 : n = 0
  · subst h0; decide
  · have h1 : n.log2 < 140 := (Nat.log2_lt h0).mpr (Nat.lt_trans h (by decide))
    omega
mutual
theorem fit_lay : ∀ d : PyData, fit d = true → d.canLay0 = true ∧ d.showable = true ∧ d.intsShort 41 = true
  | .none, _ => ⟨rfl, rfl, rfl⟩
  | .bool _, _ => ⟨rfl, rfl, rfl⟩
  | .int i, h => by
    have h' : i.natAbs < 10 ^ 40 := by simpa only [fit, decide_eq_true_eq] using h
    exact ⟨rfl, by simp only [PyData.showable, decide_eq_true_eq]; exact log_small h', by simp only [PyData.intsShort, decide_eq_true_eq]; exact int_len h'⟩
  | .str x, h => ⟨by simpa only [fit, PyData.canLay0] using h, rfl, rfl⟩
  | .list xs, h => by
    have h := fit_layAll xs (by simpa only [fit] using h)
    exact ⟨by simpa only [PyData.canLay0] using h.1, by simpa only [PyData.showable] using h.2.1, by simpa only [PyData.intsShort] using h.2.2⟩
  | .tuple xs, h => by
    have h := fit_layAll xs (by simpa only [fit] using h)
    exact ⟨by simpa only [PyData.canLay0] using h.1, by simpa only [PyData.showable] using h.2.1, by simpa only [PyData.intsShort] using h.2.2⟩
  | .dict _, h => by simp only [fit] at h; cases h
theorem fit_layAll : ∀ xs : List PyData, fitAll xs = true → PyData.canLayAll0 xs = true ∧ PyData.showableAll xs = true ∧ PyData.intsShortAll 41 xs = true
  | [], _ => ⟨rfl, rfl, rfl⟩
  | x :: xs, h => by
    have h' : fit x = true ∧ fitAll xs = true := by simpa only [fitAll, Bool.and_eq_true] using h
    have h1 := fit_lay x h'.1
    have h2 := fit_layAll xs h'.2
    exact ⟨by simp only [PyData.canLayAll0, h1.1, h2.1, Bool.and_self], by simp only [PyData.showableAll, h1.2.1, h2.2.1, Bool.and_self], by simp only [PyData.intsShortAll, h1.2.2, h2.2.2, Bool.and_self]⟩
end
structure OkD (d : PyData) : Prop where
  f : fit d = true
  dp : d.depth ≤ 64
  bk : d.bulk ≤ 100000
section
variable {d : PyData}
theorem OkD.shaped (h : OkD d) : SeqAt.shaped d = true := by
  unfold SeqAt.shaped
  rw [(fit_lay d h.f).1, decide_eq_true h.dp]; rfl
theorem OkD.showable (h : OkD d) : d.showable = true := (fit_lay d h.f).2.1
theorem OkD.short (h : OkD d) : d.shown.length ≤ sizeLine := by
  have l := PyData.leavesShort_of_canLay0 41 d (fit_lay d h.f).1 (fit_lay d h.f).2.2
  have e := PyData.shown_le_bulk 41 (by decide) d l
  have b := h.bk
  have z : sizeLine = 16777216 := rfl
  omega
theorem OkD.eqv (h : OkD d) : PyData.eqv d d = true := PySem.SeqAt.eqv_refl d (fit_lay d h.f).1
end
theorem fit_ints : ∀ ns : List Int, (∀ n ∈ ns, n.natAbs < 10 ^ 40) → fitAll (ns.map .int) = true
  | [], _ => rfl
  | n :: r, h => by
    simp only [List.map_cons, fitAll, fit, Bool.and_eq_true, decide_eq_true_eq]
    exact ⟨h n List.mem_cons_self, fit_ints r fun m hm => h m (List.mem_cons_of_mem _ hm)⟩
theorem fit_bools : ∀ bs : List Bool, fitAll (bs.map .bool) = true
  | [] => rfl
  | b :: r => by simp only [List.map_cons, fitAll, fit, Bool.true_and, fit_bools r]
theorem bulk_ints : ∀ ns : List Int, PyData.bulkAll (ns.map .int) = ns.length
  | [] => rfl
  | n :: r => by simp only [List.map_cons, PyData.bulkAll, PyData.bulk, bulk_ints r, List.length_cons]; omega
theorem bulk_bools : ∀ ns : List Bool, PyData.bulkAll (ns.map .bool) = ns.length
  | [] => rfl
  | n :: r => by simp only [List.map_cons, PyData.bulkAll, PyData.bulk, bulk_bools r, List.length_cons]; omega
theorem depth_bools : ∀ ns : List Bool, PyData.depthAll (ns.map PyData.bool) = 0
  | [] => rfl
  | _ :: r => by
    show max 0 (PyData.depthAll (r.map PyData.bool)) = 0
    rw [depth_bools r]; rfl
/-! data, frozen -/
mutual
def fz : PyData → D
  | .none => .non
  | .bool b => .bl b
  | .int i => .int i
  | .str x => .str x
  | .list xs => .lst (fzA xs)
  | .tuple xs => .tup (fzA xs)
  | .dict _ => .non
def fzA : List PyData → List D
  | [] => []
  | x :: xs => fz x :: fzA xs
end
mutual
theorem fz_py (m : Sr) : ∀ d : PyData, fit d = true → Py m (fz d) d
  | .none, _ => .non
  | .bool b, _ => .bl b
  | .int i, _ => .int i
  | .str x, _ => .str x
  | .list xs, h => .lst (fzA_py m xs (by simpa only [fit] using h))
  | .tuple xs, h => .tup (fzA_py m xs (by simpa only [fit] using h))
  | .dict _, h => by simp only [fit] at h; cases h
theorem fzA_py (m : Sr) : ∀ ds : List PyData, fitAll ds = true → PyA m (fzA ds) ds
  | [], _ => .nil
  | x :: xs, h => by
    have h' : fit x = true ∧ fitAll xs = true := by simpa only [fitAll, Bool.and_eq_true] using h
    exact .cons (fz_py m x h'.1) (fzA_py m xs h'.2)
end
theorem fzA_ints : ∀ ns : List Int, fzA (ns.map .int) = iL ns
  | [] => rfl
  | n :: r => by rw [List.map_cons, fzA, fz, fzA_ints r]; rfl
theorem fzA_bools : ∀ ns : List Bool, fzA (ns.map .bool) = ns.map D.bl
  | [] => rfl
  | n :: r => by rw [List.map_cons, fzA, fz, fzA_bools r]; rfl
end DL
namespace K42
open PySem PySem.Spec PyProof.Rows L2 DL
/-! written by gen.py -/
def topS (i : Nat) : Stmt := PySem.Challenge.pw_rimmachines_k42_heaps_fall.main.body.getD i (.Pass ⟨0, 0, 0, 0⟩)
abbrev s_check_number : Stmt := topS 7
theorem sc_check_number : FnScope ["number", "least", "most"] ["number", "least", "most"] (defScope s_check_number) := ⟨rfl, rfl, rfl, by decide +kernel, rfl, by decide +kernel, by decide +kernel⟩
abbrev s_check_size : Stmt := topS 8
theorem sc_check_size : FnScope ["count", "least", "most"] ["count", "least", "most"] (defScope s_check_size) := ⟨rfl, rfl, rfl, by decide +kernel, rfl, by decide +kernel, by decide +kernel⟩
abbrev s_check_places : Stmt := topS 11
theorem sc_check_places : FnScope ["places", "place"] ["places"] (defScope s_check_places) := ⟨rfl, rfl, rfl, by decide +kernel, rfl, by decide +kernel, by decide +kernel⟩
abbrev s_lying_on : Stmt := topS 12
theorem sc_lying_on : FnScope ["places", "at", "near", "lying", "index", "place", "lies", "close"] ["places", "at"] (defScope s_lying_on) := ⟨rfl, rfl, rfl, by decide +kernel, rfl, by decide +kernel, by decide +kernel⟩
abbrev s_first_astray : Stmt := topS 13
theorem sc_first_astray : FnScope ["places", "at", "lies"] ["places"] (defScope s_first_astray) := ⟨rfl, rfl, rfl, by decide +kernel, rfl, by decide +kernel, by decide +kernel⟩
abbrev s_drop : Stmt := topS 14
theorem sc_drop : FnScope ["places", "highest", "result", "place", "level", "close", "step"] ["places"] (defScope s_drop) := ⟨rfl, rfl, rfl, by decide +kernel, rfl, by decide +kernel, by decide +kernel⟩
abbrev s_split_at : Stmt := topS 15
theorem sc_split_at : FnScope ["places", "at", "lying", "staying", "going", "place", "lies"] ["places", "at"] (defScope s_split_at) := ⟨rfl, rfl, rfl, by decide +kernel, rfl, by decide +kernel, by decide +kernel⟩
abbrev s_is_pyramid : Stmt := topS 16
theorem sc_is_pyramid : FnScope ["places"] ["places"] (defScope s_is_pyramid) := ⟨rfl, rfl, rfl, by decide +kernel, rfl, by decide +kernel, by decide +kernel⟩
abbrev s_is_strict : Stmt := topS 17
theorem sc_is_strict : FnScope ["places", "bare", "place"] ["places"] (defScope s_is_strict) := ⟨rfl, rfl, rfl, by decide +kernel, rfl, by decide +kernel, by decide +kernel⟩
abbrev s_is_half : Stmt := topS 18
theorem sc_is_half : FnScope ["places"] ["places"] (defScope s_is_half) := ⟨rfl, rfl, rfl, by decide +kernel, rfl, by decide +kernel, by decide +kernel⟩
abbrev s_levels : Stmt := topS 19
theorem sc_levels : FnScope ["places", "at"] ["places"] (defScope s_levels) := ⟨rfl, rfl, rfl, by decide +kernel, rfl, by decide +kernel, by decide +kernel⟩
abbrev s_pushed : Stmt := topS 20
theorem sc_pushed : FnScope ["places", "at"] ["places", "at"] (defScope s_pushed) := ⟨rfl, rfl, rfl, by decide +kernel, rfl, by decide +kernel, by decide +kernel⟩
abbrev s__law_pool : Stmt := topS 22
theorem sc__law_pool : FnScope ["script", "cell"] ["script"] (defScope s__law_pool) := ⟨rfl, rfl, rfl, by decide +kernel, rfl, by decide +kernel, by decide +kernel⟩
abbrev s__law_draw : Stmt := topS 23
theorem sc__law_draw : FnScope ["pool", "many", "cell"] ["pool", "many"] (defScope s__law_draw) := ⟨rfl, rfl, rfl, by decide +kernel, rfl, by decide +kernel, by decide +kernel⟩
abbrev s__law_same : Stmt := topS 24
theorem sc__law_same : FnScope ["told", "due"] ["told", "due"] (defScope s__law_same) := ⟨rfl, rfl, rfl, by decide +kernel, rfl, by decide +kernel, by decide +kernel⟩
abbrev s__law_on : Stmt := topS 25
theorem sc__law_on : FnScope ["places", "at", "found", "k", "lies", "j"] ["places", "at"] (defScope s__law_on) := ⟨rfl, rfl, rfl, by decide +kernel, rfl, by decide +kernel, by decide +kernel⟩
abbrev s__law_levels : Stmt := topS 26
theorem sc__law_levels : FnScope ["places", "found", "k", "high", "j", "step"] ["places"] (defScope s__law_levels) := ⟨rfl, rfl, rfl, by decide +kernel, rfl, by decide +kernel, by decide +kernel⟩
abbrev s__law_strict : Stmt := topS 27
theorem sc__law_strict : FnScope ["places", "k", "same", "between", "j"] ["places"] (defScope s__law_strict) := ⟨rfl, rfl, rfl, by decide +kernel, rfl, by decide +kernel, by decide +kernel⟩
abbrev s__law_due : Stmt := topS 28
theorem sc__law_due : FnScope ["which", "places", "at", "wrong", "on", "whole", "staying", "going", "place", "k"] ["which", "places", "at"] (defScope s__law_due) := ⟨rfl, rfl, rfl, by decide +kernel, rfl, by decide +kernel, by decide +kernel⟩
abbrev s__law_ask : Stmt := topS 29
theorem sc__law_ask : FnScope ["which", "places", "at", "e", "told"] ["which", "places", "at"] (defScope s__law_ask) := ⟨rfl, rfl, rfl, by decide +kernel, rfl, by decide +kernel, by decide +kernel⟩
abbrev s__law_heap : Stmt := topS 30
theorem sc__law_heap : FnScope ["places", "at", "which", "due", "given", "told"] ["places", "at"] (defScope s__law_heap) := ⟨rfl, rfl, rfl, by decide +kernel, rfl, by decide +kernel, by decide +kernel⟩
abbrev s__law_pyramid : Stmt := topS 31
theorem sc__law_pyramid : FnScope ["pool", "size", "least", "places", "k", "near"] ["pool", "size", "least"] (defScope s__law_pyramid) := ⟨rfl, rfl, rfl, by decide +kernel, rfl, by decide +kernel, by decide +kernel⟩
abbrev s__law_strict_one : Stmt := topS 32
theorem sc__law_strict_one : FnScope ["pool", "size", "places", "k", "near", "place"] ["pool", "size"] (defScope s__law_strict_one) := ⟨rfl, rfl, rfl, by decide +kernel, rfl, by decide +kernel, by decide +kernel⟩
abbrev s__law_any : Stmt := topS 33
theorem sc__law_any : FnScope ["pool", "size", "wide", "k"] ["pool", "size"] (defScope s__law_any) := ⟨rfl, rfl, rfl, by decide +kernel, rfl, by decide +kernel, by decide +kernel⟩
abbrev s__law_changed : Stmt := topS 34
theorem sc__law_changed : FnScope ["pool", "places", "cut", "far", "found", "place"] ["pool", "places"] (defScope s__law_changed) := ⟨rfl, rfl, rfl, by decide +kernel, rfl, by decide +kernel, by decide +kernel⟩
abbrev s__law_beyond : Stmt := topS 35
theorem sc__law_beyond : FnScope ["pool", "places", "far", "bad", "cut", "low", "size", "found", "k"] ["pool", "places"] (defScope s__law_beyond) := ⟨rfl, rfl, rfl, by decide +kernel, rfl, by decide +kernel, by decide +kernel⟩
abbrev s_law : Stmt := topS 36
theorem sc_law : FnScope ["script", "pool", "first", "half", "strict", "other", "great", "heaps", "places", "far", "high"] ["script"] (defScope s_law) := ⟨rfl, rfl, rfl, by decide +kernel, rfl, by decide +kernel, by decide +kernel⟩
abbrev i_NumberError : Stmt := inClass (topS 2) 0
theorem sci_NumberError : FnScope ["self", "number"] ["self", "number"] (defScope i_NumberError) := ⟨rfl, rfl, rfl, by decide +kernel, rfl, by decide +kernel, by decide +kernel⟩
abbrev i_SizeError : Stmt := inClass (topS 3) 0
theorem sci_SizeError : FnScope ["self", "count"] ["self", "count"] (defScope i_SizeError) := ⟨rfl, rfl, rfl, by decide +kernel, rfl, by decide +kernel, by decide +kernel⟩
abbrev i_WordError : Stmt := inClass (topS 4) 0
theorem sci_WordError : FnScope ["self", "at"] ["self", "at"] (defScope i_WordError) := ⟨rfl, rfl, rfl, by decide +kernel, rfl, by decide +kernel, by decide +kernel⟩
abbrev i_RootError : Stmt := inClass (topS 5) 0
theorem sci_RootError : FnScope ["self", "x", "y"] ["self", "x", "y"] (defScope i_RootError) := ⟨rfl, rfl, rfl, by decide +kernel, rfl, by decide +kernel, by decide +kernel⟩
/-- which class is one of which, by their names -/
def subL : Subs := [("NumberError", "RootError", false), ("NumberError", "NumberError", true), ("NumberError", "SizeError", false), ("NumberError", "RimmachinesError", true), ("NumberError", "WordError", false), ("SizeError", "RootError", false), ("SizeError", "NumberError", false), ("SizeError", "SizeError", true), ("SizeError", "RimmachinesError", true), ("SizeError", "WordError", false), ("WordError", "RootError", false), ("WordError", "NumberError", false), ("WordError", "SizeError", false), ("WordError", "RimmachinesError", true), ("WordError", "WordError", true), ("RootError", "RootError", true), ("RootError", "NumberError", false), ("RootError", "SizeError", false), ("RootError", "RimmachinesError", true), ("RootError", "WordError", false)]
def exmT : Exm := exmOf subL
def kitT : Kit := kitIn ["NumberError", "SizeError", "WordError", "RootError"] exmT
structure Txt (K : Frg) (mg : Gm) where
  a_check_number : Addr
  d_check_number : FuncData
  F_check_number : Fun K "check_number" "check_number" s_check_number a_check_number d_check_number
  g_check_number : mg "check_number" = some (.ref a_check_number)
  a_check_size : Addr
  d_check_size : FuncData
  F_check_size : Fun K "check_size" "check_size" s_check_size a_check_size d_check_size
  g_check_size : mg "check_size" = some (.ref a_check_size)
  a_check_places : Addr
  d_check_places : FuncData
  F_check_places : Fun K "check_places" "check_places" s_check_places a_check_places d_check_places
  g_check_places : mg "check_places" = some (.ref a_check_places)
  a_lying_on : Addr
  d_lying_on : FuncData
  F_lying_on : Fun K "lying_on" "lying_on" s_lying_on a_lying_on d_lying_on
  g_lying_on : mg "lying_on" = some (.ref a_lying_on)
  a_first_astray : Addr
  d_first_astray : FuncData
  F_first_astray : Fun K "first_astray" "first_astray" s_first_astray a_first_astray d_first_astray
  g_first_astray : mg "first_astray" = some (.ref a_first_astray)
  a_drop : Addr
  d_drop : FuncData
  F_drop : Fun K "drop" "drop" s_drop a_drop d_drop
  g_drop : mg "drop" = some (.ref a_drop)
  a_split_at : Addr
  d_split_at : FuncData
  F_split_at : Fun K "split_at" "split_at" s_split_at a_split_at d_split_at
  g_split_at : mg "split_at" = some (.ref a_split_at)
  a_is_pyramid : Addr
  d_is_pyramid : FuncData
  F_is_pyramid : Fun K "is_pyramid" "is_pyramid" s_is_pyramid a_is_pyramid d_is_pyramid
  g_is_pyramid : mg "is_pyramid" = some (.ref a_is_pyramid)
  a_is_strict : Addr
  d_is_strict : FuncData
  F_is_strict : Fun K "is_strict" "is_strict" s_is_strict a_is_strict d_is_strict
  g_is_strict : mg "is_strict" = some (.ref a_is_strict)
  a_is_half : Addr
  d_is_half : FuncData
  F_is_half : Fun K "is_half" "is_half" s_is_half a_is_half d_is_half
  g_is_half : mg "is_half" = some (.ref a_is_half)
  a_levels : Addr
  d_levels : FuncData
  F_levels : Fun K "levels" "levels" s_levels a_levels d_levels
  g_levels : mg "levels" = some (.ref a_levels)
  a_pushed : Addr
  d_pushed : FuncData
  F_pushed : Fun K "pushed" "pushed" s_pushed a_pushed d_pushed
  g_pushed : mg "pushed" = some (.ref a_pushed)
  a__law_pool : Addr
  d__law_pool : FuncData
  F__law_pool : Fun K "_law_pool" "_law_pool" s__law_pool a__law_pool d__law_pool
  g__law_pool : mg "_law_pool" = some (.ref a__law_pool)
  a__law_draw : Addr
  d__law_draw : FuncData
  F__law_draw : Fun K "_law_draw" "_law_draw" s__law_draw a__law_draw d__law_draw
  g__law_draw : mg "_law_draw" = some (.ref a__law_draw)
  a__law_same : Addr
  d__law_same : FuncData
  F__law_same : Fun K "_law_same" "_law_same" s__law_same a__law_same d__law_same
  g__law_same : mg "_law_same" = some (.ref a__law_same)
  a__law_on : Addr
  d__law_on : FuncData
  F__law_on : Fun K "_law_on" "_law_on" s__law_on a__law_on d__law_on
  g__law_on : mg "_law_on" = some (.ref a__law_on)
  a__law_levels : Addr
  d__law_levels : FuncData
  F__law_levels : Fun K "_law_levels" "_law_levels" s__law_levels a__law_levels d__law_levels
  g__law_levels : mg "_law_levels" = some (.ref a__law_levels)
  a__law_strict : Addr
  d__law_strict : FuncData
  F__law_strict : Fun K "_law_strict" "_law_strict" s__law_strict a__law_strict d__law_strict
  g__law_strict : mg "_law_strict" = some (.ref a__law_strict)
  a__law_due : Addr
  d__law_due : FuncData
  F__law_due : Fun K "_law_due" "_law_due" s__law_due a__law_due d__law_due
  g__law_due : mg "_law_due" = some (.ref a__law_due)
  a__law_ask : Addr
  d__law_ask : FuncData
  F__law_ask : Fun K "_law_ask" "_law_ask" s__law_ask a__law_ask d__law_ask
  g__law_ask : mg "_law_ask" = some (.ref a__law_ask)
  a__law_heap : Addr
  d__law_heap : FuncData
  F__law_heap : Fun K "_law_heap" "_law_heap" s__law_heap a__law_heap d__law_heap
  g__law_heap : mg "_law_heap" = some (.ref a__law_heap)
  a__law_pyramid : Addr
  d__law_pyramid : FuncData
  F__law_pyramid : Fun K "_law_pyramid" "_law_pyramid" s__law_pyramid a__law_pyramid d__law_pyramid
  g__law_pyramid : mg "_law_pyramid" = some (.ref a__law_pyramid)
  a__law_strict_one : Addr
  d__law_strict_one : FuncData
  F__law_strict_one : Fun K "_law_strict_one" "_law_strict_one" s__law_strict_one a__law_strict_one d__law_strict_one
  g__law_strict_one : mg "_law_strict_one" = some (.ref a__law_strict_one)
  a__law_any : Addr
  d__law_any : FuncData
  F__law_any : Fun K "_law_any" "_law_any" s__law_any a__law_any d__law_any
  g__law_any : mg "_law_any" = some (.ref a__law_any)
  a__law_changed : Addr
  d__law_changed : FuncData
  F__law_changed : Fun K "_law_changed" "_law_changed" s__law_changed a__law_changed d__law_changed
  g__law_changed : mg "_law_changed" = some (.ref a__law_changed)
  a__law_beyond : Addr
  d__law_beyond : FuncData
  F__law_beyond : Fun K "_law_beyond" "_law_beyond" s__law_beyond a__law_beyond d__law_beyond
  g__law_beyond : mg "_law_beyond" = some (.ref a__law_beyond)
  a_law : Addr
  d_law : FuncData
  F_law : Fun K "law" "law" s_law a_law d_law
  g_law : mg "law" = some (.ref a_law)
  c_NumberError : Addr
  f_NumberError : Addr
  e_NumberError : FuncData
  gc_NumberError : mg "NumberError" = some (.ref c_NumberError)
  ex_NumberError : ExK K c_NumberError
  Fi_NumberError : Fun K "__init__" "NumberError.__init__" i_NumberError f_NumberError e_NumberError
  ii_NumberError : PySem.W.findIn K (.ref c_NumberError) "__init__" = some (some (.ref f_NumberError))
  ti_NumberError : PySem.W.typeIn K (.ref f_NumberError) = some (.type "function")
  no_NumberError_number : PySem.W.findIn K (.ref c_NumberError) "number" = some none
  c_SizeError : Addr
  f_SizeError : Addr
  e_SizeError : FuncData
  gc_SizeError : mg "SizeError" = some (.ref c_SizeError)
  ex_SizeError : ExK K c_SizeError
  Fi_SizeError : Fun K "__init__" "SizeError.__init__" i_SizeError f_SizeError e_SizeError
  ii_SizeError : PySem.W.findIn K (.ref c_SizeError) "__init__" = some (some (.ref f_SizeError))
  ti_SizeError : PySem.W.typeIn K (.ref f_SizeError) = some (.type "function")
  no_SizeError_count : PySem.W.findIn K (.ref c_SizeError) "count" = some none
  c_WordError : Addr
  f_WordError : Addr
  e_WordError : FuncData
  gc_WordError : mg "WordError" = some (.ref c_WordError)
  ex_WordError : ExK K c_WordError
  Fi_WordError : Fun K "__init__" "WordError.__init__" i_WordError f_WordError e_WordError
  ii_WordError : PySem.W.findIn K (.ref c_WordError) "__init__" = some (some (.ref f_WordError))
  ti_WordError : PySem.W.typeIn K (.ref f_WordError) = some (.type "function")
  no_WordError_at : PySem.W.findIn K (.ref c_WordError) "at" = some none
  c_RootError : Addr
  f_RootError : Addr
  e_RootError : FuncData
  gc_RootError : mg "RootError" = some (.ref c_RootError)
  ex_RootError : ExK K c_RootError
  Fi_RootError : Fun K "__init__" "RootError.__init__" i_RootError f_RootError e_RootError
  ii_RootError : PySem.W.findIn K (.ref c_RootError) "__init__" = some (some (.ref f_RootError))
  ti_RootError : PySem.W.typeIn K (.ref f_RootError) = some (.type "function")
  no_RootError_x : PySem.W.findIn K (.ref c_RootError) "x" = some none
  no_RootError_y : PySem.W.findIn K (.ref c_RootError) "y" = some none
  c_RimmachinesError : Addr
  gc_RimmachinesError : mg "RimmachinesError" = some (.ref c_RimmachinesError)
  tab : TabOk K mg exmT
  kit : KitOk K mg kitT
  n_abs : mg "abs" = none
  n_enumerate : mg "enumerate" = none
  n_int : mg "int" = none
  n_isinstance : mg "isinstance" = none
  n_len : mg "len" = none
  n_list : mg "list" = none
  n_max : mg "max" = none
  n_min : mg "min" = none
  n_range : mg "range" = none
  n_repr : mg "repr" = none
  n_tuple : mg "tuple" = none
  n_zip : mg "zip" = none
  t_MOST : Tok
  g_MOST : mg "MOST" = some (.int 60 t_MOST)
section
variable {P : Program} {w : World} {K : Frg} {mg : Gm} {base : Heap}
theorem init_NumberError (T : Txt K mg) : FnOk P w K mg base CX0 1 T.f_NumberError T.e_NumberError ["self", "number"] (spI1 K "number") := init1 T.Fi_NumberError sci_NumberError rfl (by decide) (by decide)
theorem init_SizeError (T : Txt K mg) : FnOk P w K mg base CX0 1 T.f_SizeError T.e_SizeError ["self", "count"] (spI1 K "count") := init1 T.Fi_SizeError sci_SizeError rfl (by decide) (by decide)
theorem init_WordError (T : Txt K mg) : FnOk P w K mg base CX0 1 T.f_WordError T.e_WordError ["self", "at"] (spI1 K "at") := init1 T.Fi_WordError sci_WordError rfl (by decide) (by decide)
theorem init_RootError (T : Txt K mg) : FnOk P w K mg base CX0 1 T.f_RootError T.e_RootError ["self", "x", "y"] (spI2 K "x" "y") := init2 T.Fi_RootError sci_RootError rfl (by decide) (by decide) (by decide) (by decide)
theorem bi_NumberError (T : Txt K mg) : Binds K T.e_NumberError ["self", "number"] [] := T.Fi_NumberError.binds fun _ _ _ _ _ _ us hl => match us, hl with | [_, _], _ => rfl
theorem bi_SizeError (T : Txt K mg) : Binds K T.e_SizeError ["self", "count"] [] := T.Fi_SizeError.binds fun _ _ _ _ _ _ us hl => match us, hl with | [_, _], _ => rfl
theorem bi_WordError (T : Txt K mg) : Binds K T.e_WordError ["self", "at"] [] := T.Fi_WordError.binds fun _ _ _ _ _ _ us hl => match us, hl with | [_, _], _ => rfl
theorem bi_RootError (T : Txt K mg) : Binds K T.e_RootError ["self", "x", "y"] [] := T.Fi_RootError.binds fun _ _ _ _ _ _ us hl => match us, hl with | [_, _, _], _ => rfl
theorem bd_check_number (T : Txt K mg) : Binds K T.d_check_number ["number", "least", "most"] [] := T.F_check_number.binds fun _ _ _ _ _ _ us hl => match us, hl with | [_, _, _], _ => rfl
theorem bd_check_size (T : Txt K mg) : Binds K T.d_check_size ["count", "least", "most"] [] := T.F_check_size.binds fun _ _ _ _ _ _ us hl => match us, hl with | [_, _, _], _ => rfl
theorem bd_check_places (T : Txt K mg) : Binds K T.d_check_places ["places"] [] := T.F_check_places.binds fun _ _ _ _ _ _ us hl => match us, hl with | [_], _ => rfl
theorem bd_lying_on (T : Txt K mg) : Binds K T.d_lying_on ["places", "at"] [] := T.F_lying_on.binds fun _ _ _ _ _ _ us hl => match us, hl with | [_, _], _ => rfl
theorem bd_first_astray (T : Txt K mg) : Binds K T.d_first_astray ["places"] [] := T.F_first_astray.binds fun _ _ _ _ _ _ us hl => match us, hl with | [_], _ => rfl
theorem bd_drop (T : Txt K mg) : Binds K T.d_drop ["places"] [] := T.F_drop.binds fun _ _ _ _ _ _ us hl => match us, hl with | [_], _ => rfl
theorem bd_split_at (T : Txt K mg) : Binds K T.d_split_at ["places", "at"] [] := T.F_split_at.binds fun _ _ _ _ _ _ us hl => match us, hl with | [_, _], _ => rfl
theorem bd_is_pyramid (T : Txt K mg) : Binds K T.d_is_pyramid ["places"] [] := T.F_is_pyramid.binds fun _ _ _ _ _ _ us hl => match us, hl with | [_], _ => rfl
theorem bd_is_strict (T : Txt K mg) : Binds K T.d_is_strict ["places"] [] := T.F_is_strict.binds fun _ _ _ _ _ _ us hl => match us, hl with | [_], _ => rfl
theorem bd_is_half (T : Txt K mg) : Binds K T.d_is_half ["places"] [] := T.F_is_half.binds fun _ _ _ _ _ _ us hl => match us, hl with | [_], _ => rfl
theorem bd_levels (T : Txt K mg) : Binds K T.d_levels ["places"] [] := T.F_levels.binds fun _ _ _ _ _ _ us hl => match us, hl with | [_], _ => rfl
theorem bd_pushed (T : Txt K mg) : Binds K T.d_pushed ["places", "at"] [] := T.F_pushed.binds fun _ _ _ _ _ _ us hl => match us, hl with | [_, _], _ => rfl
theorem bd__law_pool (T : Txt K mg) : Binds K T.d__law_pool ["script"] [] := T.F__law_pool.binds fun _ _ _ _ _ _ us hl => match us, hl with | [_], _ => rfl
theorem bd__law_draw (T : Txt K mg) : Binds K T.d__law_draw ["pool", "many"] [] := T.F__law_draw.binds fun _ _ _ _ _ _ us hl => match us, hl with | [_, _], _ => rfl
theorem bd__law_same (T : Txt K mg) : Binds K T.d__law_same ["told", "due"] [] := T.F__law_same.binds fun _ _ _ _ _ _ us hl => match us, hl with | [_, _], _ => rfl
theorem bd__law_on (T : Txt K mg) : Binds K T.d__law_on ["places", "at"] [] := T.F__law_on.binds fun _ _ _ _ _ _ us hl => match us, hl with | [_, _], _ => rfl
theorem bd__law_levels (T : Txt K mg) : Binds K T.d__law_levels ["places"] [] := T.F__law_levels.binds fun _ _ _ _ _ _ us hl => match us, hl with | [_], _ => rfl
theorem bd__law_strict (T : Txt K mg) : Binds K T.d__law_strict ["places"] [] := T.F__law_strict.binds fun _ _ _ _ _ _ us hl => match us, hl with | [_], _ => rfl
theorem bd__law_due (T : Txt K mg) : Binds K T.d__law_due ["which", "places", "at"] [] := T.F__law_due.binds fun _ _ _ _ _ _ us hl => match us, hl with | [_, _, _], _ => rfl
theorem bd__law_ask (T : Txt K mg) : Binds K T.d__law_ask ["which", "places", "at"] [] := T.F__law_ask.binds fun _ _ _ _ _ _ us hl => match us, hl with | [_, _, _], _ => rfl
theorem bd__law_heap (T : Txt K mg) : Binds K T.d__law_heap ["places", "at"] [] := T.F__law_heap.binds fun _ _ _ _ _ _ us hl => match us, hl with | [_, _], _ => rfl
theorem bd__law_pyramid (T : Txt K mg) : Binds K T.d__law_pyramid ["pool", "size", "least"] [] := T.F__law_pyramid.binds fun _ _ _ _ _ _ us hl => match us, hl with | [_, _, _], _ => rfl
theorem bd__law_strict_one (T : Txt K mg) : Binds K T.d__law_strict_one ["pool", "size"] [] := T.F__law_strict_one.binds fun _ _ _ _ _ _ us hl => match us, hl with | [_, _], _ => rfl
theorem bd__law_any (T : Txt K mg) : Binds K T.d__law_any ["pool", "size"] [] := T.F__law_any.binds fun _ _ _ _ _ _ us hl => match us, hl with | [_, _], _ => rfl
theorem bd__law_changed (T : Txt K mg) : Binds K T.d__law_changed ["pool", "places"] [] := T.F__law_changed.binds fun _ _ _ _ _ _ us hl => match us, hl with | [_, _], _ => rfl
theorem bd__law_beyond (T : Txt K mg) : Binds K T.d__law_beyond ["pool", "places"] [] := T.F__law_beyond.binds fun _ _ _ _ _ _ us hl => match us, hl with | [_, _], _ => rfl
theorem bd_law (T : Txt K mg) : Binds K T.d_law ["script"] [] := T.F_law.binds fun _ _ _ _ _ _ us hl => match us, hl with | [_], _ => rfl
theorem kw_levels (T : Txt K mg) (s : Shared) (u : Value) : BindsTo s T.d_levels ⟨[], [("places", u)]⟩ [("places", u)] := by
  obtain ⟨_, _, _, _, _, _, _, _, _, e, _⟩ := T.F_levels.ex
  rw [e]
  exact .of_eq rfl
/-! check_number -/
def wp_check_number : DFn := dFn 3 ((dIfS (dOr (dTst (dOp oLt (dVar 0) (dVar 1))) (dTst (dOp oGt (dVar 0) (dVar 2)))) (dRaise "NumberError" ["number"] (dCons (dVar 0) dNil)) dNext))
theorem ok_check_number (T : Txt K mg) : FnOk P w K mg base (L2.CX P w) 3 T.a_check_number T.d_check_number ["number", "least", "most"] (spOf K mg 3 wp_check_number) :=
  fn_ok (k := 2) T.F_check_number sc_check_number rfl fun cdv A outer s H E hr => by
    have tk := takes_of (X := cxOf (L2.CX P w) P w K mg base ["number", "least", "most"] "check_number" (defScope s_check_number) T.a_check_number cdv A outer s H E) (E := E) rfl rfl rfl rfl
    have po := passes_of (X := cxOf (L2.CX P w) P w K mg base ["number", "least", "most"] "check_number" (defScope s_check_number) T.a_check_number cdv A outer s H E) rfl
    exact ⟨_, (db_one (ds_if (dw_or (dt_cmp op_lt lr_lt (de_var 0) (de_var 1)) (dw_or1 (dt_cmp op_gt lr_gt (de_var 0) (de_var 2)))).t (db_one (ds_raise1 T.ex_NumberError.ox T.no_NumberError_number T.ii_NumberError T.ti_NumberError (init_NumberError T) (hr.mono (by decide)) (bi_NumberError T) T.gc_NumberError tk (da_cons (de_var 0) da_nil))) db_nil))⟩
/-! check_size -/
def wp_check_size : DFn := dFn 3 ((dIfS (dOr (dTst (dOp oLt (dVar 0) (dVar 1))) (dTst (dOp oGt (dVar 0) (dVar 2)))) (dRaise "SizeError" ["count"] (dCons (dVar 0) dNil)) dNext))
theorem ok_check_size (T : Txt K mg) : FnOk P w K mg base (L2.CX P w) 3 T.a_check_size T.d_check_size ["count", "least", "most"] (spOf K mg 3 wp_check_size) :=
  fn_ok (k := 2) T.F_check_size sc_check_size rfl fun cdv A outer s H E hr => by
    have tk := takes_of (X := cxOf (L2.CX P w) P w K mg base ["count", "least", "most"] "check_size" (defScope s_check_size) T.a_check_size cdv A outer s H E) (E := E) rfl rfl rfl rfl
    have po := passes_of (X := cxOf (L2.CX P w) P w K mg base ["count", "least", "most"] "check_size" (defScope s_check_size) T.a_check_size cdv A outer s H E) rfl
    exact ⟨_, (db_one (ds_if (dw_or (dt_cmp op_lt lr_lt (de_var 0) (de_var 1)) (dw_or1 (dt_cmp op_gt lr_gt (de_var 0) (de_var 2)))).t (db_one (ds_raise1 T.ex_SizeError.ox T.no_SizeError_count T.ii_SizeError T.ti_SizeError (init_SizeError T) (hr.mono (by decide)) (bi_SizeError T) T.gc_SizeError tk (da_cons (de_var 0) da_nil))) db_nil))⟩
/-! check_places -/
def lb_check_places_1 : DSt := (dDrop (dCallP 3 wp_check_number (dCons (dVar 1) (dCons (dNeg (dC (.int 60))) (dCons (dC (.int 60)) dNil)))))
def wp_check_places : DFn := dFn 2 ((dSeq (dDrop (dCallP 3 wp_check_size (dCons (dCB cLen (dCons (dVar 0) dNil)) (dCons (dC (.int 1)) (dCons (dC (.int 60)) dNil)))))
  (dFor (diL (dVar 0)) (gdName 1) lb_check_places_1)))
theorem ok_check_places (T : Txt K mg) : FnOk P w K mg base (L2.CX P w) 4 T.a_check_places T.d_check_places ["places"] (spOf K mg 1 wp_check_places) :=
  fn_ok (k := 3) T.F_check_places sc_check_places rfl fun cdv A outer s H E hr => by
    have tk := takes_of (X := cxOf (L2.CX P w) P w K mg base ["places", "place"] "check_places" (defScope s_check_places) T.a_check_places cdv A outer s H E) (E := E) rfl rfl rfl rfl
    have po := passes_of (X := cxOf (L2.CX P w) P w K mg base ["places", "place"] "check_places" (defScope s_check_places) T.a_check_places cdv A outer s H E) rfl
    exact ⟨_, (db_cons (ds_expr (de_callP (ok_check_size T) (hr.mono (by decide)) T.g_check_size T.F_check_size.kp (bd_check_size T) tk (da_cons (de_cb callK_len lc_len T.n_len (by decide +kernel) (da_cons (de_var 0) da_nil)) (da_cons de_int (da_cons (de_glob (v := .int 60) T.g_MOST ⟨_, rfl⟩ fun _ => .int _) da_nil)))))
      (db_one (ds_for po (di_list (de_var 0)) (dg_name (i := 1) sc_check_places.nd) (db_one (ds_expr (de_callP (ok_check_number T) (hr.mono (by decide)) T.g_check_number T.F_check_number.kp (bd_check_number T) tk (da_cons (de_var 1) (da_cons (de_neg (de_glob (v := .int 60) T.g_MOST ⟨_, rfl⟩ fun _ => .int _)) (da_cons (de_glob (v := .int 60) T.g_MOST ⟨_, rfl⟩ fun _ => .int _) da_nil)))))))))⟩
/-! lying_on -/
def lb_lying_on_1 : DSt := (dPutD (dC (.bl true)) (dVar 2) (dVar 7))
def lb_lying_on_2 : DSt := (dSeq (dAsg (dOrV (dOp oEq (dVar 4) (dVar 1)) (dOp (oDin false) (dVar 5) (dVar 2))) (gdName 6))
  (dSeq (dIfS (dTru (dVar 6)) (dFor (diR2 (dCons (dOp oSub (dVar 5) (dC (.int 1))) (dCons (dOp oPlus (dVar 5) (dC (.int 2))) dNil))) (gdName 7) lb_lying_on_1) dNext)
  (dDrop (dBM isL mApp (dVar 3) (dCons (dVar 6) dNil)))))
def wp_lying_on : DFn := dFn 8 ((dSeq (dAsg dNewD (gdName 2))
  (dSeq (dAsg (dLstM dNil) (gdName 3))
  (dSeq (dFor (diE (dCons (dVar 0) dNil)) (gdTup 2 (gdCons (gdName 4) (gdCons (gdName 5) gdNil))) lb_lying_on_2)
  (dRet (dFrz (dVar 3)))))))
theorem ok_lying_on (T : Txt K mg) : FnOk P w K mg base (L2.CX P w) 1 T.a_lying_on T.d_lying_on ["places", "at"] (spOf K mg 2 wp_lying_on) :=
  fn_ok (k := 0) T.F_lying_on sc_lying_on rfl fun cdv A outer s H E hr => by
    have tk := takes_of (X := cxOf (L2.CX P w) P w K mg base ["places", "at", "near", "lying", "index", "place", "lies", "close"] "lying_on" (defScope s_lying_on) T.a_lying_on cdv A outer s H E) (E := E) rfl rfl rfl rfl
    have po := passes_of (X := cxOf (L2.CX P w) P w K mg base ["places", "at", "near", "lying", "index", "place", "lies", "close"] "lying_on" (defScope s_lying_on) T.a_lying_on cdv A outer s H E) rfl
    exact ⟨_, (db_cons (ds_set 2 sc_lying_on.nd de_newD)
      (db_cons (ds_set 3 sc_lying_on.nd (de_lstM da_nil))
      (db_cons (ds_for po (di_enum (da_cons (de_var 0) da_nil) T.n_enumerate) (dg_tup rfl (dgs_cons (dg_name (i := 4) sc_lying_on.nd) (dgs_cons (dg_name (i := 5) sc_lying_on.nd) dgs_nil))) (db_cons (ds_set 6 sc_lying_on.nd (de_or (de_cmp (op_eqU hr.units) lr_eq (de_var 4) (de_var 1)) (de_one (de_din (hu_of hr) (de_var 5) (de_var 2)))))
      (db_cons (ds_if (dt_tru (de_var 6)) (db_one (ds_for po (di_range2 (da_cons (de_op op_sub lr_sub (de_var 5) de_int) (da_cons (de_op op_plus lr_plus (de_var 5) de_int) da_nil)) T.n_range) (dg_name (i := 7) sc_lying_on.nd) (db_one (ds_putD (hu_of hr) de_bl (de_var 2) (de_var 7))))) db_nil)
      (db_one (ds_expr (de_bm PySem.F.plainAttrs_list PySem.F.slot_list_append PySem.F.type_list_append mt_append lm_app tyO_L (de_var 3) (da_cons (de_var 6) da_nil)))))))
      (db_one (ds_ret (de_frz (de_var 3)))))))⟩
/-! first_astray -/
def lb_first_astray_1 : DSt := (dIfS (dNot (dTru (dVar 2))) (dRet (dVar 1)) dNext)
def wp_first_astray : DFn := dFn 3 ((dSeq (dIfS (dTst (dOp oNe (dOp oIx (dVar 0) (dC (.int 0))) (dC (.int 0)))) (dRet (dC (.int 0))) dNext)
  (dSeq (dFor (diE (dCons (dCallP 2 wp_lying_on (dCons (dVar 0) (dCons (dC (.int 0)) dNil))) dNil)) (gdTup 2 (gdCons (gdName 1) (gdCons (gdName 2) gdNil))) lb_first_astray_1)
  (dRet (dC .non)))))
theorem ok_first_astray (T : Txt K mg) : FnOk P w K mg base (L2.CX P w) 2 T.a_first_astray T.d_first_astray ["places"] (spOf K mg 1 wp_first_astray) :=
  fn_ok (k := 1) T.F_first_astray sc_first_astray rfl fun cdv A outer s H E hr => by
    have tk := takes_of (X := cxOf (L2.CX P w) P w K mg base ["places", "at", "lies"] "first_astray" (defScope s_first_astray) T.a_first_astray cdv A outer s H E) (E := E) rfl rfl rfl rfl
    have po := passes_of (X := cxOf (L2.CX P w) P w K mg base ["places", "at", "lies"] "first_astray" (defScope s_first_astray) T.a_first_astray cdv A outer s H E) rfl
    exact ⟨_, (db_cons (ds_if (dt_cmp (op_neU hr.units) lr_ne (de_ix (de_var 0) de_int) de_int) (db_one (ds_ret de_int)) db_nil)
      (db_cons (ds_for po (di_enum (da_cons (de_callP (ok_lying_on T) (hr.mono (by decide)) T.g_lying_on T.F_lying_on.kp (bd_lying_on T) tk (da_cons (de_var 0) (da_cons de_int da_nil))) da_nil) T.n_enumerate) (dg_tup rfl (dgs_cons (dg_name (i := 1) sc_first_astray.nd) (dgs_cons (dg_name (i := 2) sc_first_astray.nd) dgs_nil))) (db_one (ds_if (dt_not (dt_tru (de_var 2))) (db_one (ds_ret (de_var 1))) db_nil)))
      (db_one (ds_ret de_non))))⟩
/-! drop -/
def lb_drop_1 : DSt := (dIfS (dTst (dOp (oDin false) (dVar 5) (dVar 1))) (dAsg (dCB cMax2 (dCons (dVar 4) (dCons (dOp oPlus (dOp oDget (dVar 1) (dVar 5)) (dVar 6)) dNil))) (gdName 4)) dNext)
def lb_drop_2 : DSt := (dSeq (dAsg (dC (.int 0)) (gdName 4))
  (dSeq (dFor (diT (dTup (dCons (dTup (dCons (dOp oSub (dVar 3) (dC (.int 1))) (dCons (dC (.int 1)) dNil))) (dCons (dTup (dCons (dVar 3) (dCons (dC (.int 2)) dNil))) (dCons (dTup (dCons (dOp oPlus (dVar 3) (dC (.int 1))) (dCons (dC (.int 1)) dNil))) dNil))))) (gdTup 2 (gdCons (gdName 5) (gdCons (gdName 6) gdNil))) lb_drop_1)
  (dSeq (dPutD (dVar 4) (dVar 1) (dVar 3))
  (dDrop (dBM isL mApp (dVar 2) (dCons (dVar 4) dNil))))))
def wp_drop : DFn := dFn 7 ((dSeq (dAsg dNewD (gdName 1))
  (dSeq (dAsg (dLstM dNil) (gdName 2))
  (dSeq (dFor (diL (dVar 0)) (gdName 3) lb_drop_2)
  (dRet (dVar 2))))))
theorem ok_drop (T : Txt K mg) : FnOk P w K mg base (L2.CX P w) 1 T.a_drop T.d_drop ["places"] (spOf K mg 1 wp_drop) :=
  fn_ok (k := 0) T.F_drop sc_drop rfl fun cdv A outer s H E hr => by
    have tk := takes_of (X := cxOf (L2.CX P w) P w K mg base ["places", "highest", "result", "place", "level", "close", "step"] "drop" (defScope s_drop) T.a_drop cdv A outer s H E) (E := E) rfl rfl rfl rfl
    have po := passes_of (X := cxOf (L2.CX P w) P w K mg base ["places", "highest", "result", "place", "level", "close", "step"] "drop" (defScope s_drop) T.a_drop cdv A outer s H E) rfl
    exact ⟨_, (db_cons (ds_set 1 sc_drop.nd de_newD)
      (db_cons (ds_set 2 sc_drop.nd (de_lstM da_nil))
      (db_cons (ds_for po (di_list (de_var 0)) (dg_name (i := 3) sc_drop.nd) (db_cons (ds_set 4 sc_drop.nd de_int)
      (db_cons (ds_for po (di_tup (de_tup (da_cons (de_tup (da_cons (de_op op_sub lr_sub (de_var 3) de_int) (da_cons de_int da_nil))) (da_cons (de_tup (da_cons (de_var 3) (da_cons de_int da_nil))) (da_cons (de_tup (da_cons (de_op op_plus lr_plus (de_var 3) de_int) (da_cons de_int da_nil))) da_nil))))) (dg_tup rfl (dgs_cons (dg_name (i := 5) sc_drop.nd) (dgs_cons (dg_name (i := 6) sc_drop.nd) dgs_nil))) (db_one (ds_if (dt_din (hu_of hr) (de_var 5) (de_var 1)) (db_one (ds_set 4 sc_drop.nd (de_cb (call_max2 rfl) lc_max2 T.n_max (by decide +kernel) (da_cons (de_var 4) (da_cons (de_op op_plus lr_plus (de_dget (hu_of hr) (de_var 1) (de_var 5)) (de_var 6)) da_nil))))) db_nil)))
      (db_cons (ds_putD (hu_of hr) (de_var 4) (de_var 1) (de_var 3))
      (db_one (ds_expr (de_bm PySem.F.plainAttrs_list PySem.F.slot_list_append PySem.F.type_list_append mt_append lm_app tyO_L (de_var 2) (da_cons (de_var 4) da_nil))))))))
      (db_one (ds_ret (de_var 2))))))⟩
/-! split_at -/
def wp_split_at : DFn := dFn 7 ((dSeq (dAsg (dCallP 2 wp_lying_on (dCons (dVar 0) (dCons (dVar 1) dNil))) (gdName 2))
  (dSeq (dAsg (dLcM (diZ (dCons (dVar 0) (dCons (dVar 2) dNil))) (gdTup 2 (gdCons (gdName 5) (gdCons (gdName 6) gdNil))) (dNot (dTru (dVar 6))) (dVar 5) [5, 6]) (gdName 3))
  (dSeq (dAsg (dLcM (diZ (dCons (dVar 0) (dCons (dVar 2) dNil))) (gdTup 2 (gdCons (gdName 5) (gdCons (gdName 6) gdNil))) (dTru (dVar 6)) (dVar 5) [5, 6]) (gdName 4))
  (dRet (dTup (dCons (dVar 3) (dCons (dVar 4) dNil))))))))
theorem ok_split_at (T : Txt K mg) : FnOk P w K mg base (L2.CX P w) 2 T.a_split_at T.d_split_at ["places", "at"] (spOf K mg 2 wp_split_at) :=
  fn_ok (k := 1) T.F_split_at sc_split_at rfl fun cdv A outer s H E hr => by
    have tk := takes_of (X := cxOf (L2.CX P w) P w K mg base ["places", "at", "lying", "staying", "going", "place", "lies"] "split_at" (defScope s_split_at) T.a_split_at cdv A outer s H E) (E := E) rfl rfl rfl rfl
    have po := passes_of (X := cxOf (L2.CX P w) P w K mg base ["places", "at", "lying", "staying", "going", "place", "lies"] "split_at" (defScope s_split_at) T.a_split_at cdv A outer s H E) rfl
    exact ⟨_, (db_cons (ds_set 2 sc_split_at.nd (de_callP (ok_lying_on T) (hr.mono (by decide)) T.g_lying_on T.F_lying_on.kp (bd_lying_on T) tk (da_cons (de_var 0) (da_cons (de_var 1) da_nil))))
      (db_cons (ds_setLcM 3 (w := ([5] ++ ([6] ++ []))) [("place", 5), ("lies", 6)] sc_split_at.nd (di_zip (da_cons (de_var 0) (da_cons (de_var 2) da_nil)) T.n_zip) (show blkC ["places", "at", "lying", "staying", "going", "place", "lies"] (defScope s_split_at) _ [("place", 5), ("lies", 6)] = true by decide +kernel) (by decide) (fun _ _ _ _ _ => (dg_tup rfl (dgs_cons (dg_name (i := 5) sc_split_at.nd) (dgs_cons (dg_name (i := 6) sc_split_at.nd) dgs_nil)))) (fun _ _ _ _ _ => (dts_one (dt_not (dt_tru (de_var 6))))) (fun _ _ _ _ _ => (de_var 5)))
      (db_cons (ds_setLcM 4 (w := ([5] ++ ([6] ++ []))) [("place", 5), ("lies", 6)] sc_split_at.nd (di_zip (da_cons (de_var 0) (da_cons (de_var 2) da_nil)) T.n_zip) (show blkC ["places", "at", "lying", "staying", "going", "place", "lies"] (defScope s_split_at) _ [("place", 5), ("lies", 6)] = true by decide +kernel) (by decide) (fun _ _ _ _ _ => (dg_tup rfl (dgs_cons (dg_name (i := 5) sc_split_at.nd) (dgs_cons (dg_name (i := 6) sc_split_at.nd) dgs_nil)))) (fun _ _ _ _ _ => (dts_one (dt_tru (de_var 6)))) (fun _ _ _ _ _ => (de_var 5)))
      (db_one (ds_ret (de_tup (da_cons (de_var 3) (da_cons (de_var 4) da_nil))))))))⟩
/-! is_pyramid -/
def wp_is_pyramid : DFn := dFn 1 ((dSeq (dDrop (dCallP 1 wp_check_places (dCons (dVar 0) dNil)))
  (dRet (dOp oIsN (dCallP 1 wp_first_astray (dCons (dVar 0) dNil)) (dC .non)))))
theorem ok_is_pyramid (T : Txt K mg) : FnOk P w K mg base (L2.CX P w) 5 T.a_is_pyramid T.d_is_pyramid ["places"] (spOf K mg 1 wp_is_pyramid) :=
  fn_ok (k := 4) T.F_is_pyramid sc_is_pyramid rfl fun cdv A outer s H E hr => by
    have tk := takes_of (X := cxOf (L2.CX P w) P w K mg base ["places"] "is_pyramid" (defScope s_is_pyramid) T.a_is_pyramid cdv A outer s H E) (E := E) rfl rfl rfl rfl
    have po := passes_of (X := cxOf (L2.CX P w) P w K mg base ["places"] "is_pyramid" (defScope s_is_pyramid) T.a_is_pyramid cdv A outer s H E) rfl
    exact ⟨_, (db_cons (ds_expr (de_callP (ok_check_places T) (hr.mono (by decide)) T.g_check_places T.F_check_places.kp (bd_check_places T) tk (da_cons (de_var 0) da_nil)))
      (db_one (ds_ret (de_cmp op_isN lr_isN (de_callP (ok_first_astray T) (hr.mono (by decide)) T.g_first_astray T.F_first_astray.kp (bd_first_astray T) tk (da_cons (de_var 0) da_nil)) de_non))))⟩
/-! is_strict -/
def lb_is_strict_1 : DSt := (dSeq (dIfS (dTru (dGet2 (dVar 1) (dVar 2) (dC (.bl false)))) (dRet (dC (.bl false))) dNext)
  (dSeq (dPutD (dC (.bl true)) (dVar 1) (dVar 2))
  (dSeq (dPutD (dC (.bl false)) (dVar 1) (dOp oSub (dVar 2) (dC (.int 1))))
  (dPutD (dC (.bl false)) (dVar 1) (dOp oPlus (dVar 2) (dC (.int 1)))))))
def wp_is_strict : DFn := dFn 3 ((dSeq (dDrop (dCallP 1 wp_check_places (dCons (dVar 0) dNil)))
  (dSeq (dAsg dNewD (gdName 1))
  (dSeq (dFor (diL (dVar 0)) (gdName 2) lb_is_strict_1)
  (dRet (dOp oIsN (dCallP 1 wp_first_astray (dCons (dVar 0) dNil)) (dC .non)))))))
theorem ok_is_strict (T : Txt K mg) : FnOk P w K mg base (L2.CX P w) 5 T.a_is_strict T.d_is_strict ["places"] (spOf K mg 1 wp_is_strict) :=
  fn_ok (k := 4) T.F_is_strict sc_is_strict rfl fun cdv A outer s H E hr => by
    have tk := takes_of (X := cxOf (L2.CX P w) P w K mg base ["places", "bare", "place"] "is_strict" (defScope s_is_strict) T.a_is_strict cdv A outer s H E) (E := E) rfl rfl rfl rfl
    have po := passes_of (X := cxOf (L2.CX P w) P w K mg base ["places", "bare", "place"] "is_strict" (defScope s_is_strict) T.a_is_strict cdv A outer s H E) rfl
    exact ⟨_, (db_cons (ds_expr (de_callP (ok_check_places T) (hr.mono (by decide)) T.g_check_places T.F_check_places.kp (bd_check_places T) tk (da_cons (de_var 0) da_nil)))
      (db_cons (ds_set 1 sc_is_strict.nd de_newD)
      (db_cons (ds_for po (di_list (de_var 0)) (dg_name (i := 2) sc_is_strict.nd) (db_cons (ds_if (dt_tru (de_dget2 (hu_of hr) (de_var 1) (de_var 2) de_bl)) (db_one (ds_ret de_bl)) db_nil)
      (db_cons (ds_putD (hu_of hr) de_bl (de_var 1) (de_var 2))
      (db_cons (ds_putD (hu_of hr) de_bl (de_var 1) (de_op op_sub lr_sub (de_var 2) de_int))
      (db_one (ds_putD (hu_of hr) de_bl (de_var 1) (de_op op_plus lr_plus (de_var 2) de_int)))))))
      (db_one (ds_ret (de_cmp op_isN lr_isN (de_callP (ok_first_astray T) (hr.mono (by decide)) T.g_first_astray T.F_first_astray.kp (bd_first_astray T) tk (da_cons (de_var 0) da_nil)) de_non))))))⟩
/-! is_half -/
def wp_is_half : DFn := dFn 1 ((dSeq (dDrop (dCallP 1 wp_check_places (dCons (dVar 0) dNil)))
  (dRet (dAndV (dOp oIsN (dCallP 1 wp_first_astray (dCons (dVar 0) dNil)) (dC .non)) (dOp oGe (dCB cMinL (dCons (dVar 0) dNil)) (dC (.int 0)))))))
theorem ok_is_half (T : Txt K mg) : FnOk P w K mg base (L2.CX P w) 5 T.a_is_half T.d_is_half ["places"] (spOf K mg 1 wp_is_half) :=
  fn_ok (k := 4) T.F_is_half sc_is_half rfl fun cdv A outer s H E hr => by
    have tk := takes_of (X := cxOf (L2.CX P w) P w K mg base ["places"] "is_half" (defScope s_is_half) T.a_is_half cdv A outer s H E) (E := E) rfl rfl rfl rfl
    have po := passes_of (X := cxOf (L2.CX P w) P w K mg base ["places"] "is_half" (defScope s_is_half) T.a_is_half cdv A outer s H E) rfl
    exact ⟨_, (db_cons (ds_expr (de_callP (ok_check_places T) (hr.mono (by decide)) T.g_check_places T.F_check_places.kp (bd_check_places T) tk (da_cons (de_var 0) da_nil)))
      (db_one (ds_ret (de_and (de_cmp op_isN lr_isN (de_callP (ok_first_astray T) (hr.mono (by decide)) T.g_first_astray T.F_first_astray.kp (bd_first_astray T) tk (da_cons (de_var 0) da_nil)) de_non) (de_one (de_cmp op_ge lr_ge (de_cb (crK_min rfl hr.units) lc_minL T.n_min (by decide +kernel) (da_cons (de_var 0) da_nil)) de_int))))))⟩
/-! levels -/
def wp_levels : DFn := dFn 2 ((dSeq (dDrop (dCallP 1 wp_check_places (dCons (dVar 0) dNil)))
  (dSeq (dAsg (dCallP 1 wp_first_astray (dCons (dVar 0) dNil)) (gdName 1))
  (dSeq (dIfS (dTst (dOp oNotN (dVar 1) (dC .non))) (dRaise "RootError" ["x", "y"] (dCons (dVar 1) (dCons (dOp oIx (dVar 0) (dVar 1)) dNil))) dNext)
  (dRet (dCallM 1 wp_drop (dCons (dVar 0) dNil)))))))
theorem ok_levels (T : Txt K mg) : FnOk P w K mg base (L2.CX P w) 5 T.a_levels T.d_levels ["places"] (spOf K mg 1 wp_levels) :=
  fn_ok (k := 4) T.F_levels sc_levels rfl fun cdv A outer s H E hr => by
    have tk := takes_of (X := cxOf (L2.CX P w) P w K mg base ["places", "at"] "levels" (defScope s_levels) T.a_levels cdv A outer s H E) (E := E) rfl rfl rfl rfl
    have po := passes_of (X := cxOf (L2.CX P w) P w K mg base ["places", "at"] "levels" (defScope s_levels) T.a_levels cdv A outer s H E) rfl
    exact ⟨_, (db_cons (ds_expr (de_callP (ok_check_places T) (hr.mono (by decide)) T.g_check_places T.F_check_places.kp (bd_check_places T) tk (da_cons (de_var 0) da_nil)))
      (db_cons (ds_set 1 sc_levels.nd (de_callP (ok_first_astray T) (hr.mono (by decide)) T.g_first_astray T.F_first_astray.kp (bd_first_astray T) tk (da_cons (de_var 0) da_nil)))
      (db_cons (ds_if (dt_cmp op_notN lr_notN (de_var 1) de_non) (db_one (ds_raise2 T.ex_RootError.ox T.no_RootError_x T.no_RootError_y T.ii_RootError T.ti_RootError (init_RootError T) (hr.mono (by decide)) (bi_RootError T) T.gc_RootError tk (da_cons (de_var 1) (da_cons (de_ix (de_var 0) (de_var 1)) da_nil)))) db_nil)
      (db_one (ds_ret (de_callM (ok_drop T) (hr.mono (by decide)) T.g_drop T.F_drop.kp (bd_drop T) tk (da_cons (de_var 0) da_nil)))))))⟩
/-! pushed -/
def wp_pushed : DFn := dFn 2 ((dSeq (dDrop (dCallP 1 wp_check_places (dCons (dVar 0) dNil)))
  (dSeq (dDrop (dCallP 3 wp_check_number (dCons (dVar 1) (dCons (dC (.int 0)) (dCons (dOp oSub (dCB cLen (dCons (dVar 0) dNil)) (dC (.int 1))) dNil)))))
  (dRet (dCallM 2 wp_split_at (dCons (dVar 0) (dCons (dVar 1) dNil)))))))
theorem ok_pushed (T : Txt K mg) : FnOk P w K mg base (L2.CX P w) 5 T.a_pushed T.d_pushed ["places", "at"] (spOf K mg 2 wp_pushed) :=
  fn_ok (k := 4) T.F_pushed sc_pushed rfl fun cdv A outer s H E hr => by
    have tk := takes_of (X := cxOf (L2.CX P w) P w K mg base ["places", "at"] "pushed" (defScope s_pushed) T.a_pushed cdv A outer s H E) (E := E) rfl rfl rfl rfl
    have po := passes_of (X := cxOf (L2.CX P w) P w K mg base ["places", "at"] "pushed" (defScope s_pushed) T.a_pushed cdv A outer s H E) rfl
    exact ⟨_, (db_cons (ds_expr (de_callP (ok_check_places T) (hr.mono (by decide)) T.g_check_places T.F_check_places.kp (bd_check_places T) tk (da_cons (de_var 0) da_nil)))
      (db_cons (ds_expr (de_callP (ok_check_number T) (hr.mono (by decide)) T.g_check_number T.F_check_number.kp (bd_check_number T) tk (da_cons (de_var 1) (da_cons de_int (da_cons (de_op op_sub lr_sub (de_cb callK_len lc_len T.n_len (by decide +kernel) (da_cons (de_var 0) da_nil)) de_int) da_nil)))))
      (db_one (ds_ret (de_callM (ok_split_at T) (hr.mono (by decide)) T.g_split_at T.F_split_at.kp (bd_split_at T) tk (da_cons (de_var 0) (da_cons (de_var 1) da_nil)))))))⟩
/-! _law_pool -/
def wp__law_pool : DFn := dFn 2 ((dRet (dOp oPlusM (dLst (dCons (dC (.int 0)) dNil)) (dLc (diL (dSl (dVar 0) dNoPart (dPart (dC (.int 63))))) (gdName 1) dYes (dOp oMod (dCB cInt (dCons (dCB cAbs (dCons (dVar 1) dNil)) dNil)) (dOp oPow (dC (.int 10)) (dC (.int 60)))) [1]))))
theorem ok__law_pool (T : Txt K mg) : FnOk P w K mg base (L2.CX P w) 1 T.a__law_pool T.d__law_pool ["script"] (spOf K mg 1 wp__law_pool) :=
  fn_ok (k := 0) T.F__law_pool sc__law_pool rfl fun cdv A outer s H E hr => by
    have tk := takes_of (X := cxOf (L2.CX P w) P w K mg base ["script", "cell"] "_law_pool" (defScope s__law_pool) T.a__law_pool cdv A outer s H E) (E := E) rfl rfl rfl rfl
    have po := passes_of (X := cxOf (L2.CX P w) P w K mg base ["script", "cell"] "_law_pool" (defScope s__law_pool) T.a__law_pool cdv A outer s H E) rfl
    exact ⟨_, (db_one (ds_ret (de_op op_plus lr_plusM (de_lst (da_cons de_int da_nil)) (de_lc (w := [1]) [("cell", 1)] sc__law_pool.nd (di_list (de_slice (de_var 0) do_none (do_some de_int))) (show blkC ["script", "cell"] (defScope s__law_pool) _ [("cell", 1)] = true by decide +kernel) (by decide) (fun _ _ _ _ _ => (dg_name (i := 1) sc__law_pool.nd)) (fun _ _ _ _ _ => dts_nil) (fun _ _ _ _ _ => (de_op op_mod lr_mod (de_ct call_int1 lc_int T.n_int (by decide +kernel) (da_cons (de_cb call_abs lc_abs T.n_abs (by decide +kernel) (da_cons (de_var 1) da_nil)) da_nil)) (de_op op_pow lr_pow de_int de_int)))))))⟩
/-! _law_draw -/
def wp__law_draw : DFn := dFn 3 ((dSeq (dSetL (dOp oPlus (dOp oIx (dVar 0) (dC (.int 0))) (dC (.int 1))) (dVar 0) (dC (.int 0)))
  (dSeq (dIfS (dTst (dOp oEq (dCB cLen (dCons (dVar 0) dNil)) (dC (.int 1)))) (dRet (dOp oMod (dCB cInt (dCons (dOp oIx (dVar 0) (dC (.int 0))) dNil)) (dVar 1))) dNext)
  (dSeq (dAsg (dCB cInt (dCons (dOp oIx (dVar 0) (dC (.int 1))) dNil)) (gdName 2))
  (dSeq (dSetL (dOp oFdiv (dVar 2) (dVar 1)) (dVar 0) (dC (.int 1)))
  (dSeq (dIfS (dTst (dOp oEq (dOp oIx (dVar 0) (dC (.int 1))) (dC (.int 0)))) (dDrop (dBM isL mPopAt (dVar 0) (dCons (dC (.int 1)) dNil))) dNext)
  (dRet (dOp oMod (dCB cInt (dCons (dVar 2) dNil)) (dVar 1)))))))))
theorem ok__law_draw (T : Txt K mg) : FnOk P w K mg base (L2.CX P w) 1 T.a__law_draw T.d__law_draw ["pool", "many"] (spOf K mg 2 wp__law_draw) :=
  fn_ok (k := 0) T.F__law_draw sc__law_draw rfl fun cdv A outer s H E hr => by
    have tk := takes_of (X := cxOf (L2.CX P w) P w K mg base ["pool", "many", "cell"] "_law_draw" (defScope s__law_draw) T.a__law_draw cdv A outer s H E) (E := E) rfl rfl rfl rfl
    have po := passes_of (X := cxOf (L2.CX P w) P w K mg base ["pool", "many", "cell"] "_law_draw" (defScope s__law_draw) T.a__law_draw cdv A outer s H E) rfl
    exact ⟨_, (db_cons (ds_setL (de_op op_plus lr_plus (de_ix (de_var 0) de_int) de_int) (de_var 0) de_int)
      (db_cons (ds_if (dt_cmp (op_eqU hr.units) lr_eq (de_cb callK_len lc_len T.n_len (by decide +kernel) (da_cons (de_var 0) da_nil)) de_int) (db_one (ds_ret (de_op op_mod lr_mod (de_ct call_int1 lc_int T.n_int (by decide +kernel) (da_cons (de_ix (de_var 0) de_int) da_nil)) (de_var 1)))) db_nil)
      (db_cons (ds_set 2 sc__law_draw.nd (de_ct call_int1 lc_int T.n_int (by decide +kernel) (da_cons (de_ix (de_var 0) de_int) da_nil)))
      (db_cons (ds_setL (de_op op_fdivW lr_fdiv (de_var 2) (de_var 1)) (de_var 0) de_int)
      (db_cons (ds_if (dt_cmp (op_eqU hr.units) lr_eq (de_ix (de_var 0) de_int) de_int) (db_one (ds_expr (de_bm PySem.F.plainAttrs_list PySem.F.slot_list_pop PySem.F.type_list_pop mt_popAt lm_popAt tyO_L (de_var 0) (da_cons de_int da_nil)))) db_nil)
      (db_one (ds_ret (de_op op_mod lr_mod (de_ct call_int1 lc_int T.n_int (by decide +kernel) (da_cons (de_var 2) da_nil)) (de_var 1)))))))))⟩
/-! _law_same -/
def wp__law_same : DFn := dFn 2 ((dRet (dAndV (dOp oEq (dVar 0) (dVar 1)) (dOp oEq (dCB cRepr (dCons (dVar 0) dNil)) (dCB cRepr (dCons (dVar 1) dNil))))))
theorem ok__law_same (T : Txt K mg) : FnG P w K mg base (L2.CX P w) 1 T.a__law_same T.d__law_same ["told", "due"] (spOf K mg 2 wp__law_same) :=
  fnG_ok (k := 0) T.F__law_same sc__law_same rfl fun cdv A outer s H E hgd hr => by
    have tk := takes_of (X := cxOf (L2.CX P w) P w K mg base ["told", "due"] "_law_same" (defScope s__law_same) T.a__law_same cdv A outer s H E) (E := E) rfl rfl rfl rfl
    have po := passes_of (X := cxOf (L2.CX P w) P w K mg base ["told", "due"] "_law_same" (defScope s__law_same) T.a__law_same cdv A outer s H E) rfl
    exact ⟨_, (db_one (ds_ret (de_and (de_cmp (op_eqU hr.units) lr_eq (de_var 0) (de_var 1)) (de_one (de_cmp (op_eqU hr.units) lr_eq (de_cb (call_repr hgd hr) lc_repr T.n_repr (by decide +kernel) (da_cons (de_var 0) da_nil)) (de_cb (call_repr hgd hr) lc_repr T.n_repr (by decide +kernel) (da_cons (de_var 1) da_nil)))))))⟩
/-! _law_on -/
def lb__law_on_1 : DSt := (dIfS (dAnd (dTru (dOp oIx (dVar 2) (dVar 5))) (dTst (dOp oLt (dCB cAbs (dCons (dOp oSub (dOp oIx (dVar 0) (dVar 5)) (dOp oIx (dVar 0) (dVar 3))) dNil)) (dC (.int 2))))) (dAsg (dC (.bl true)) (gdName 4)) dNext)
def lb__law_on_2 : DSt := (dSeq (dAsg (dOp oEq (dVar 3) (dVar 1)) (gdName 4))
  (dSeq (dFor (diR2 (dCons (dVar 1) (dCons (dVar 3) dNil))) (gdName 5) lb__law_on_1)
  (dDrop (dBM isL mApp (dVar 2) (dCons (dVar 4) dNil)))))
def wp__law_on : DFn := dFn 6 ((dSeq (dAsg (dLstM dNil) (gdName 2))
  (dSeq (dFor (diR1 (dCons (dCB cLen (dCons (dVar 0) dNil)) dNil)) (gdName 3) lb__law_on_2)
  (dRet (dFrz (dVar 2))))))
theorem ok__law_on (T : Txt K mg) : FnOk P w K mg base (L2.CX P w) 1 T.a__law_on T.d__law_on ["places", "at"] (spOf K mg 2 wp__law_on) :=
  fn_ok (k := 0) T.F__law_on sc__law_on rfl fun cdv A outer s H E hr => by
    have tk := takes_of (X := cxOf (L2.CX P w) P w K mg base ["places", "at", "found", "k", "lies", "j"] "_law_on" (defScope s__law_on) T.a__law_on cdv A outer s H E) (E := E) rfl rfl rfl rfl
    have po := passes_of (X := cxOf (L2.CX P w) P w K mg base ["places", "at", "found", "k", "lies", "j"] "_law_on" (defScope s__law_on) T.a__law_on cdv A outer s H E) rfl
    exact ⟨_, (db_cons (ds_set 2 sc__law_on.nd (de_lstM da_nil))
      (db_cons (ds_for po (di_range1 (da_cons (de_cb callK_len lc_len T.n_len (by decide +kernel) (da_cons (de_var 0) da_nil)) da_nil) T.n_range) (dg_name (i := 3) sc__law_on.nd) (db_cons (ds_set 4 sc__law_on.nd (de_cmp (op_eqU hr.units) lr_eq (de_var 3) (de_var 1)))
      (db_cons (ds_for po (di_range2 (da_cons (de_var 1) (da_cons (de_var 3) da_nil)) T.n_range) (dg_name (i := 5) sc__law_on.nd) (db_one (ds_if (dw_and (dt_tru (de_ix (de_var 2) (de_var 5))) (dw_and1 (dt_cmp op_lt lr_lt (de_cb call_abs lc_abs T.n_abs (by decide +kernel) (da_cons (de_op op_sub lr_sub (de_ix (de_var 0) (de_var 5)) (de_ix (de_var 0) (de_var 3))) da_nil)) de_int))).t (db_one (ds_set 4 sc__law_on.nd de_bl)) db_nil)))
      (db_one (ds_expr (de_bm PySem.F.plainAttrs_list PySem.F.slot_list_append PySem.F.type_list_append mt_append lm_app tyO_L (de_var 2) (da_cons (de_var 4) da_nil)))))))
      (db_one (ds_ret (de_frz (de_var 2))))))⟩
/-! _law_levels -/
def lb__law_levels_1 : DSt := (dSeq (dAsg (dCB cAbs (dCons (dOp oSub (dOp oIx (dVar 0) (dVar 4)) (dOp oIx (dVar 0) (dVar 2))) dNil)) (gdName 5))
  (dIfS (dTst (dOp oLt (dVar 5) (dC (.int 2)))) (dAsg (dCB cMax2 (dCons (dVar 3) (dCons (dOp oSub (dOp oPlus (dOp oIx (dVar 1) (dVar 4)) (dC (.int 2))) (dVar 5)) dNil))) (gdName 3)) dNext))
def lb__law_levels_2 : DSt := (dSeq (dAsg (dC (.int 0)) (gdName 3))
  (dSeq (dFor (diR1 (dCons (dVar 2) dNil)) (gdName 4) lb__law_levels_1)
  (dDrop (dBM isL mApp (dVar 1) (dCons (dVar 3) dNil)))))
def wp__law_levels : DFn := dFn 6 ((dSeq (dAsg (dLstM (dCons (dC (.int 0)) dNil)) (gdName 1))
  (dSeq (dFor (diR2 (dCons (dC (.int 1)) (dCons (dCB cLen (dCons (dVar 0) dNil)) dNil))) (gdName 2) lb__law_levels_2)
  (dRet (dFrz (dVar 1))))))
theorem ok__law_levels (T : Txt K mg) : FnOk P w K mg base (L2.CX P w) 1 T.a__law_levels T.d__law_levels ["places"] (spOf K mg 1 wp__law_levels) :=
  fn_ok (k := 0) T.F__law_levels sc__law_levels rfl fun cdv A outer s H E hr => by
    have tk := takes_of (X := cxOf (L2.CX P w) P w K mg base ["places", "found", "k", "high", "j", "step"] "_law_levels" (defScope s__law_levels) T.a__law_levels cdv A outer s H E) (E := E) rfl rfl rfl rfl
    have po := passes_of (X := cxOf (L2.CX P w) P w K mg base ["places", "found", "k", "high", "j", "step"] "_law_levels" (defScope s__law_levels) T.a__law_levels cdv A outer s H E) rfl
    exact ⟨_, (db_cons (ds_set 1 sc__law_levels.nd (de_lstM (da_cons de_int da_nil)))
      (db_cons (ds_for po (di_range2 (da_cons de_int (da_cons (de_cb callK_len lc_len T.n_len (by decide +kernel) (da_cons (de_var 0) da_nil)) da_nil)) T.n_range) (dg_name (i := 2) sc__law_levels.nd) (db_cons (ds_set 3 sc__law_levels.nd de_int)
      (db_cons (ds_for po (di_range1 (da_cons (de_var 2) da_nil) T.n_range) (dg_name (i := 4) sc__law_levels.nd) (db_cons (ds_set 5 sc__law_levels.nd (de_cb call_abs lc_abs T.n_abs (by decide +kernel) (da_cons (de_op op_sub lr_sub (de_ix (de_var 0) (de_var 4)) (de_ix (de_var 0) (de_var 2))) da_nil)))
      (db_one (ds_if (dt_cmp op_lt lr_lt (de_var 5) de_int) (db_one (ds_set 3 sc__law_levels.nd (de_cb (call_max2 rfl) lc_max2 T.n_max (by decide +kernel) (da_cons (de_var 3) (da_cons (de_op op_sub lr_sub (de_op op_plus lr_plus (de_ix (de_var 1) (de_var 4)) de_int) (de_var 5)) da_nil))))) db_nil))))
      (db_one (ds_expr (de_bm PySem.F.plainAttrs_list PySem.F.slot_list_append PySem.F.type_list_append mt_append lm_app tyO_L (de_var 1) (da_cons (de_var 3) da_nil)))))))
      (db_one (ds_ret (de_frz (de_var 1))))))⟩
/-! _law_strict -/
def lb__law_strict_1 : DSt := (dSeq (dAsg (dLc (diR1 (dCons (dVar 1) dNil)) (gdName 4) (dTst (dOp oEq (dOp oIx (dVar 0) (dVar 4)) (dOp oIx (dVar 0) (dVar 1)))) (dVar 4) [4]) (gdName 2))
  (dIfS (dTru (dVar 2)) (dSeq (dAsg (dSl (dVar 0) (dPart (dOp oPlus (dOp oIx (dVar 2) (dNeg (dC (.int 1)))) (dC (.int 1)))) (dPart (dVar 1))) (gdName 3))
  (dIfS (dAnd (dTst (dOp (oIn true) (dOp oSub (dOp oIx (dVar 0) (dVar 1)) (dC (.int 1))) (dVar 3))) (dTst (dOp (oIn true) (dOp oPlus (dOp oIx (dVar 0) (dVar 1)) (dC (.int 1))) (dVar 3)))) (dRet (dC (.bl false))) dNext)) dNext))
def wp__law_strict : DFn := dFn 5 ((dSeq (dFor (diR1 (dCons (dCB cLen (dCons (dVar 0) dNil)) dNil)) (gdName 1) lb__law_strict_1)
  (dRet (dC (.bl true)))))
theorem ok__law_strict (T : Txt K mg) : FnOk P w K mg base (L2.CX P w) 1 T.a__law_strict T.d__law_strict ["places"] (spOf K mg 1 wp__law_strict) :=
  fn_ok (k := 0) T.F__law_strict sc__law_strict rfl fun cdv A outer s H E hr => by
    have tk := takes_of (X := cxOf (L2.CX P w) P w K mg base ["places", "k", "same", "between", "j"] "_law_strict" (defScope s__law_strict) T.a__law_strict cdv A outer s H E) (E := E) rfl rfl rfl rfl
    have po := passes_of (X := cxOf (L2.CX P w) P w K mg base ["places", "k", "same", "between", "j"] "_law_strict" (defScope s__law_strict) T.a__law_strict cdv A outer s H E) rfl
    exact ⟨_, (db_cons (ds_for po (di_range1 (da_cons (de_cb callK_len lc_len T.n_len (by decide +kernel) (da_cons (de_var 0) da_nil)) da_nil) T.n_range) (dg_name (i := 1) sc__law_strict.nd) (db_cons (ds_setLc 2 (w := [4]) [("j", 4)] sc__law_strict.nd (di_range1 (da_cons (de_var 1) da_nil) T.n_range) (show blkC ["places", "k", "same", "between", "j"] (defScope s__law_strict) _ [("j", 4)] = true by decide +kernel) (by decide) (fun _ _ _ _ _ => (dg_name (i := 4) sc__law_strict.nd)) (fun _ _ _ _ _ => (dts_one (dt_cmp (op_eqU hr.units) lr_eq (de_ix (de_var 0) (de_var 4)) (de_ix (de_var 0) (de_var 1))))) (fun _ _ _ _ _ => (de_var 4)))
      (db_one (ds_if (dt_tru (de_var 2)) (db_cons (ds_set 3 sc__law_strict.nd (de_slice (de_var 0) (do_some (de_op op_plus lr_plus (de_ix (de_var 2) (de_neg de_int)) de_int)) (do_some (de_var 1))))
      (db_one (ds_if (dw_and (dt_cmp opK_notIn lr_in (de_op op_sub lr_sub (de_ix (de_var 0) (de_var 1)) de_int) (de_var 3)) (dw_and1 (dt_cmp opK_notIn lr_in (de_op op_plus lr_plus (de_ix (de_var 0) (de_var 1)) de_int) (de_var 3)))).t (db_one (ds_ret de_bl)) db_nil))) db_nil))))
      (db_one (ds_ret de_bl)))⟩
/-! _law_due -/
def wp__law_due : DFn := dFn 10 ((dSeq (dIfS (dOr (dTst (dOp oLt (dCB cLen (dCons (dVar 1) dNil)) (dC (.int 1)))) (dTst (dOp oGt (dCB cLen (dCons (dVar 1) dNil)) (dC (.int 60))))) (dRet (dLst (dCons (dC (.str "size")) (dCons (dCB cLen (dCons (dVar 1) dNil)) (dCons (dC (.bl false)) dNil))))) dNext)
  (dSeq (dAsg (dLc (diL (dVar 1)) (gdName 8) (dOr (dTst (dOp oLt (dVar 8) (dNeg (dC (.int 60))))) (dTst (dOp oGt (dVar 8) (dC (.int 60))))) (dVar 8) [8]) (gdName 3))
  (dSeq (dIfS (dTru (dVar 3)) (dRet (dLst (dCons (dC (.str "number")) (dCons (dOp oIx (dVar 3) (dC (.int 0))) (dCons (dC (.bl false)) dNil))))) dNext)
  (dSeq (dIfS (dTst (dOp oEq (dVar 0) (dC (.int 4)))) (dSeq (dIfS (dOr (dTst (dOp oLt (dVar 2) (dC (.int 0)))) (dTst (dOp oGe (dVar 2) (dCB cLen (dCons (dVar 1) dNil))))) (dRet (dLst (dCons (dC (.str "number")) (dCons (dVar 2) (dCons (dC (.bl false)) dNil))))) dNext)
  (dSeq (dAsg (dCallP 2 wp__law_on (dCons (dVar 1) (dCons (dVar 2) dNil))) (gdName 4))
  (dSeq (dAsg (dLc (diR1 (dCons (dCB cLen (dCons (dVar 1) dNil)) dNil)) (gdName 9) (dNot (dTru (dOp oIx (dVar 4) (dVar 9)))) (dOp oIx (dVar 1) (dVar 9)) [9]) (gdName 6))
  (dSeq (dAsg (dLc (diR1 (dCons (dCB cLen (dCons (dVar 1) dNil)) dNil)) (gdName 9) (dTru (dOp oIx (dVar 4) (dVar 9))) (dOp oIx (dVar 1) (dVar 9)) [9]) (gdName 7))
  (dRet (dLst (dCons (dC (.str "told")) (dCons (dTup (dCons (dVar 6) (dCons (dVar 7) dNil))) dNil)))))))) dNext)
  (dSeq (dAsg (dCallP 2 wp__law_on (dCons (dVar 1) (dCons (dC (.int 0)) dNil))) (gdName 4))
  (dSeq (dAsg (dAndV (dOp oEq (dOp oIx (dVar 1) (dC (.int 0))) (dC (.int 0))) (dOp (oIn true) (dC (.bl false)) (dVar 4))) (gdName 5))
  (dSeq (dIfS (dTst (dOp oEq (dVar 0) (dC (.int 0)))) (dRet (dLst (dCons (dC (.str "told")) (dCons (dVar 5) dNil)))) dNext)
  (dSeq (dIfS (dTst (dOp oEq (dVar 0) (dC (.int 1)))) (dRet (dLst (dCons (dC (.str "told")) (dCons (dAndV (dVar 5) (dCallP 1 wp__law_strict (dCons (dVar 1) dNil))) dNil)))) dNext)
  (dSeq (dIfS (dTst (dOp oEq (dVar 0) (dC (.int 2)))) (dRet (dLst (dCons (dC (.str "told")) (dCons (dAndV (dVar 5) (dOp oGe (dCB cMinL (dCons (dVar 1) dNil)) (dC (.int 0)))) dNil)))) dNext)
  (dSeq (dIfS (dTst (dOp oNe (dOp oIx (dVar 1) (dC (.int 0))) (dC (.int 0)))) (dRet (dLst (dCons (dC (.str "root")) (dCons (dC (.int 0)) (dCons (dOp oIx (dVar 1) (dC (.int 0))) (dCons (dC (.bl false)) dNil)))))) dNext)
  (dSeq (dIfS (dNot (dTru (dVar 5))) (dRet (dLst (dCons (dC (.str "root")) (dCons (dBM isL mIndex (dVar 4) (dCons (dC (.bl false)) dNil)) (dCons (dOp oIx (dVar 1) (dBM isL mIndex (dVar 4) (dCons (dC (.bl false)) dNil))) (dCons (dC (.bl false)) dNil)))))) dNext)
  (dRet (dLst (dCons (dC (.str "told")) (dCons (dCallP 1 wp__law_levels (dCons (dVar 1) dNil)) dNil))))))))))))))))
theorem ok__law_due (T : Txt K mg) : FnOk P w K mg base (L2.CX P w) 2 T.a__law_due T.d__law_due ["which", "places", "at"] (spOf K mg 3 wp__law_due) :=
  fn_ok (k := 1) T.F__law_due sc__law_due rfl fun cdv A outer s H E hr => by
    have tk := takes_of (X := cxOf (L2.CX P w) P w K mg base ["which", "places", "at", "wrong", "on", "whole", "staying", "going", "place", "k"] "_law_due" (defScope s__law_due) T.a__law_due cdv A outer s H E) (E := E) rfl rfl rfl rfl
    have po := passes_of (X := cxOf (L2.CX P w) P w K mg base ["which", "places", "at", "wrong", "on", "whole", "staying", "going", "place", "k"] "_law_due" (defScope s__law_due) T.a__law_due cdv A outer s H E) rfl
    exact ⟨_, (db_cons (ds_if (dw_or (dt_cmp op_lt lr_lt (de_cb callK_len lc_len T.n_len (by decide +kernel) (da_cons (de_var 1) da_nil)) de_int) (dw_or1 (dt_cmp op_gt lr_gt (de_cb callK_len lc_len T.n_len (by decide +kernel) (da_cons (de_var 1) da_nil)) de_int))).t (db_one (ds_ret (de_lst (da_cons de_str (da_cons (de_cb callK_len lc_len T.n_len (by decide +kernel) (da_cons (de_var 1) da_nil)) (da_cons de_bl da_nil)))))) db_nil)
      (db_cons (ds_setLc 3 (w := [8]) [("place", 8)] sc__law_due.nd (di_list (de_var 1)) (show blkC ["which", "places", "at", "wrong", "on", "whole", "staying", "going", "place", "k"] (defScope s__law_due) _ [("place", 8)] = true by decide +kernel) (by decide) (fun _ _ _ _ _ => (dg_name (i := 8) sc__law_due.nd)) (fun _ _ _ _ _ => (dts_one (dw_or (dt_cmp op_lt lr_lt (de_var 8) (de_neg de_int)) (dw_or1 (dt_cmp op_gt lr_gt (de_var 8) de_int))).t)) (fun _ _ _ _ _ => (de_var 8)))
      (db_cons (ds_if (dt_tru (de_var 3)) (db_one (ds_ret (de_lst (da_cons de_str (da_cons (de_ix (de_var 3) de_int) (da_cons de_bl da_nil)))))) db_nil)
      (db_cons (ds_if (dt_cmp (op_eqU hr.units) lr_eq (de_var 0) de_int) (db_cons (ds_if (dw_or (dt_cmp op_lt lr_lt (de_var 2) de_int) (dw_or1 (dt_cmp op_ge lr_ge (de_var 2) (de_cb callK_len lc_len T.n_len (by decide +kernel) (da_cons (de_var 1) da_nil))))).t (db_one (ds_ret (de_lst (da_cons de_str (da_cons (de_var 2) (da_cons de_bl da_nil)))))) db_nil)
      (db_cons (ds_set 4 sc__law_due.nd (de_callP (ok__law_on T) (hr.mono (by decide)) T.g__law_on T.F__law_on.kp (bd__law_on T) tk (da_cons (de_var 1) (da_cons (de_var 2) da_nil))))
      (db_cons (ds_setLc 6 (w := [9]) [("k", 9)] sc__law_due.nd (di_range1 (da_cons (de_cb callK_len lc_len T.n_len (by decide +kernel) (da_cons (de_var 1) da_nil)) da_nil) T.n_range) (show blkC ["which", "places", "at", "wrong", "on", "whole", "staying", "going", "place", "k"] (defScope s__law_due) _ [("k", 9)] = true by decide +kernel) (by decide) (fun _ _ _ _ _ => (dg_name (i := 9) sc__law_due.nd)) (fun _ _ _ _ _ => (dts_one (dt_not (dt_tru (de_ix (de_var 4) (de_var 9)))))) (fun _ _ _ _ _ => (de_ix (de_var 1) (de_var 9))))
      (db_cons (ds_setLc 7 (w := [9]) [("k", 9)] sc__law_due.nd (di_range1 (da_cons (de_cb callK_len lc_len T.n_len (by decide +kernel) (da_cons (de_var 1) da_nil)) da_nil) T.n_range) (show blkC ["which", "places", "at", "wrong", "on", "whole", "staying", "going", "place", "k"] (defScope s__law_due) _ [("k", 9)] = true by decide +kernel) (by decide) (fun _ _ _ _ _ => (dg_name (i := 9) sc__law_due.nd)) (fun _ _ _ _ _ => (dts_one (dt_tru (de_ix (de_var 4) (de_var 9))))) (fun _ _ _ _ _ => (de_ix (de_var 1) (de_var 9))))
      (db_one (ds_ret (de_lst (da_cons de_str (da_cons (de_tup (da_cons (de_var 6) (da_cons (de_var 7) da_nil))) da_nil))))))))) db_nil)
      (db_cons (ds_set 4 sc__law_due.nd (de_callP (ok__law_on T) (hr.mono (by decide)) T.g__law_on T.F__law_on.kp (bd__law_on T) tk (da_cons (de_var 1) (da_cons de_int da_nil))))
      (db_cons (ds_set 5 sc__law_due.nd (de_and (de_cmp (op_eqU hr.units) lr_eq (de_ix (de_var 1) de_int) de_int) (de_one (de_cmp opK_notIn lr_in de_bl (de_var 4)))))
      (db_cons (ds_if (dt_cmp (op_eqU hr.units) lr_eq (de_var 0) de_int) (db_one (ds_ret (de_lst (da_cons de_str (da_cons (de_var 5) da_nil))))) db_nil)
      (db_cons (ds_if (dt_cmp (op_eqU hr.units) lr_eq (de_var 0) de_int) (db_one (ds_ret (de_lst (da_cons de_str (da_cons (de_and (de_var 5) (de_one (de_callP (ok__law_strict T) (hr.mono (by decide)) T.g__law_strict T.F__law_strict.kp (bd__law_strict T) tk (da_cons (de_var 1) da_nil)))) da_nil))))) db_nil)
      (db_cons (ds_if (dt_cmp (op_eqU hr.units) lr_eq (de_var 0) de_int) (db_one (ds_ret (de_lst (da_cons de_str (da_cons (de_and (de_var 5) (de_one (de_cmp op_ge lr_ge (de_cb (crK_min rfl hr.units) lc_minL T.n_min (by decide +kernel) (da_cons (de_var 1) da_nil)) de_int))) da_nil))))) db_nil)
      (db_cons (ds_if (dt_cmp (op_neU hr.units) lr_ne (de_ix (de_var 1) de_int) de_int) (db_one (ds_ret (de_lst (da_cons de_str (da_cons de_int (da_cons (de_ix (de_var 1) de_int) (da_cons de_bl da_nil))))))) db_nil)
      (db_cons (ds_if (dt_not (dt_tru (de_var 5))) (db_one (ds_ret (de_lst (da_cons de_str (da_cons (de_bm PySem.F.plainAttrs_list PySem.F.slot_list_index PySem.F.type_list_index mtK_index lm_index tyO_L (de_var 4) (da_cons de_bl da_nil)) (da_cons (de_ix (de_var 1) (de_bm PySem.F.plainAttrs_list PySem.F.slot_list_index PySem.F.type_list_index mtK_index lm_index tyO_L (de_var 4) (da_cons de_bl da_nil))) (da_cons de_bl da_nil))))))) db_nil)
      (db_one (ds_ret (de_lst (da_cons de_str (da_cons (de_callP (ok__law_levels T) (hr.mono (by decide)) T.g__law_levels T.F__law_levels.kp (bd__law_levels T) tk (da_cons (de_var 1) da_nil)) da_nil))))))))))))))))⟩
/-! _law_ask -/
def hs__law_ask_1 : List HdD := (⟨"RootError", some 3, (fun a cls d => (dRet (dLstM (dCons (dC (.str "root")) (dCons (dXf a cls d "RootError" "x" (dVar 3)) (dCons (dXf a cls d "RootError" "y" (dVar 3)) (dCons (dCB (cIsE kitT a cls d) (dCons (dVar 3) (dCons (dTup (dCons (dC (.cls "NumberError")) (dCons (dC (.cls "SizeError")) (dCons (dC (.cls "WordError")) dNil)))) dNil))) dNil)))))))⟩ :: (⟨"NumberError", some 3, (fun a cls d => (dRet (dLstM (dCons (dC (.str "number")) (dCons (dXf a cls d "NumberError" "number" (dVar 3)) (dCons (dCB (cIsE kitT a cls d) (dCons (dVar 3) (dCons (dTup (dCons (dC (.cls "RootError")) (dCons (dC (.cls "SizeError")) (dCons (dC (.cls "WordError")) dNil)))) dNil))) dNil))))))⟩ :: (⟨"SizeError", some 3, (fun a cls d => (dRet (dLstM (dCons (dC (.str "size")) (dCons (dXf a cls d "SizeError" "count" (dVar 3)) (dCons (dCB (cIsE kitT a cls d) (dCons (dVar 3) (dCons (dTup (dCons (dC (.cls "NumberError")) (dCons (dC (.cls "RootError")) (dCons (dC (.cls "WordError")) dNil)))) dNil))) dNil))))))⟩ :: (⟨"RimmachinesError", none, (fun a cls d => (dRet (dLstM (dCons (dC (.str "other")) dNil))))⟩ :: []))))
def wp__law_ask : DFn := dFn 5 ((dSeq (dTry exmT (dIfS (dTst (dOp oEq (dVar 0) (dC (.int 0)))) (dAsg (dCallP 1 wp_is_pyramid (dCons (dVar 1) dNil)) (gdName 4)) (dIfS (dTst (dOp oEq (dVar 0) (dC (.int 1)))) (dAsg (dCallP 1 wp_is_strict (dCons (dVar 1) dNil)) (gdName 4)) (dIfS (dTst (dOp oEq (dVar 0) (dC (.int 2)))) (dAsg (dCallP 1 wp_is_half (dCons (dVar 1) dNil)) (gdName 4)) (dIfS (dTst (dOp oEq (dVar 0) (dC (.int 3)))) (dAsg (dCallM 1 wp_levels (dCons (dVar 1) dNil)) (gdName 4)) (dAsg (dCallM 2 wp_pushed (dCons (dVar 1) (dCons (dVar 2) dNil))) (gdName 4)))))) hs__law_ask_1)
  (dRet (dLstM (dCons (dC (.str "told")) (dCons (dVar 4) dNil))))))
theorem ok__law_ask (T : Txt K mg) : FnOk P w K mg base (L2.CX P w) 6 T.a__law_ask T.d__law_ask ["which", "places", "at"] (spOf K mg 3 wp__law_ask) :=
  fn_ok (k := 5) T.F__law_ask sc__law_ask rfl fun cdv A outer s H E hr => by
    have tk := takes_of (X := cxOf (L2.CX P w) P w K mg base ["which", "places", "at", "e", "told"] "_law_ask" (defScope s__law_ask) T.a__law_ask cdv A outer s H E) (E := E) rfl rfl rfl rfl
    have po := passes_of (X := cxOf (L2.CX P w) P w K mg base ["which", "places", "at", "e", "told"] "_law_ask" (defScope s__law_ask) T.a__law_ask cdv A outer s H E) rfl
    exact ⟨_, (db_cons (ds_tryX sc__law_ask.nd tk T.tab (fun W2 pn xe tk2 po2 => (db_one (ds_if (dt_cmp (op_eqU hr.units) lr_eq (de_var 0) de_int) (db_one (ds_set 4 sc__law_ask.nd (de_callP (ok_is_pyramid T) (hr.mono (by decide)) T.g_is_pyramid T.F_is_pyramid.kp (bd_is_pyramid T) tk2 (da_cons (de_var 1) da_nil)))) (db_one (ds_if (dt_cmp (op_eqU hr.units) lr_eq (de_var 0) de_int) (db_one (ds_set 4 sc__law_ask.nd (de_callP (ok_is_strict T) (hr.mono (by decide)) T.g_is_strict T.F_is_strict.kp (bd_is_strict T) tk2 (da_cons (de_var 1) da_nil)))) (db_one (ds_if (dt_cmp (op_eqU hr.units) lr_eq (de_var 0) de_int) (db_one (ds_set 4 sc__law_ask.nd (de_callP (ok_is_half T) (hr.mono (by decide)) T.g_is_half T.F_is_half.kp (bd_is_half T) tk2 (da_cons (de_var 1) da_nil)))) (db_one (ds_if (dt_cmp (op_eqU hr.units) lr_eq (de_var 0) de_int) (db_one (ds_set 4 sc__law_ask.nd (de_callM (ok_levels T) (hr.mono (by decide)) T.g_levels T.F_levels.kp (bd_levels T) tk2 (da_cons (de_var 1) da_nil)))) (db_one (ds_set 4 sc__law_ask.nd (de_callM (ok_pushed T) (hr.mono (by decide)) T.g_pushed T.F_pushed.kp (bd_pushed T) tk2 (da_cons (de_var 1) (da_cons (de_var 2) da_nil)))))))))))))) (DHd.named 3 T.gc_RootError (fun a oe cls d pn hz hf => (db_one (ds_ret (de_lstM (da_cons de_str (da_cons (de_xf T.ex_RootError.xf T.no_RootError_x T.gc_RootError hz hf (de_var 3)) (da_cons (de_xf T.ex_RootError.xf T.no_RootError_y T.gc_RootError hz hf (de_var 3)) (da_cons (de_cb (call_isE2 hz hf) (lc_isE T.kit) T.n_isinstance (by decide +kernel) (da_cons (de_var 3) (da_cons (de_tup (da_cons (de_cls T.gc_NumberError) (da_cons (de_cls T.gc_SizeError) (da_cons (de_cls T.gc_WordError) da_nil)))) da_nil))) da_nil)))))))) (DHd.named 3 T.gc_NumberError (fun a oe cls d pn hz hf => (db_one (ds_ret (de_lstM (da_cons de_str (da_cons (de_xf T.ex_NumberError.xf T.no_NumberError_number T.gc_NumberError hz hf (de_var 3)) (da_cons (de_cb (call_isE2 hz hf) (lc_isE T.kit) T.n_isinstance (by decide +kernel) (da_cons (de_var 3) (da_cons (de_tup (da_cons (de_cls T.gc_RootError) (da_cons (de_cls T.gc_SizeError) (da_cons (de_cls T.gc_WordError) da_nil)))) da_nil))) da_nil))))))) (DHd.named 3 T.gc_SizeError (fun a oe cls d pn hz hf => (db_one (ds_ret (de_lstM (da_cons de_str (da_cons (de_xf T.ex_SizeError.xf T.no_SizeError_count T.gc_SizeError hz hf (de_var 3)) (da_cons (de_cb (call_isE2 hz hf) (lc_isE T.kit) T.n_isinstance (by decide +kernel) (da_cons (de_var 3) (da_cons (de_tup (da_cons (de_cls T.gc_NumberError) (da_cons (de_cls T.gc_RootError) (da_cons (de_cls T.gc_WordError) da_nil)))) da_nil))) da_nil))))))) (DHd.plain T.gc_RimmachinesError (fun a oe cls d pn hz hf => (db_one (ds_ret (de_lstM (da_cons de_str da_nil))))) DHd.nil)))))
      (db_one (ds_ret (de_lstM (da_cons de_str (da_cons (de_var 4) da_nil))))))⟩
/-! _law_heap -/
def lb__law_heap_1 : DSt := (dSeq (dAsg (dCallP 3 wp__law_due (dCons (dVar 2) (dCons (dVar 0) (dCons (dVar 1) dNil)))) (gdName 3))
  (dSeq (dAsg (dCB cList (dCons (dVar 0) dNil)) (gdName 4))
  (dSeq (dAsg (dCallM 3 wp__law_ask (dCons (dVar 2) (dCons (dVar 4) (dCons (dVar 1) dNil)))) (gdName 5))
  (dSeq (dIfS (dOr (dNot (dTru (dCall 2 wp__law_same (dCons (dVar 5) (dCons (dVar 3) dNil))))) (dNot (dTru (dCallP 2 wp__law_same (dCons (dVar 4) (dCons (dVar 0) dNil)))))) (dRet (dC (.bl false))) dNext)
  (dSeq (dIfS (dAnd (dTst (dOp oEq (dVar 2) (dC (.int 3)))) (dTst (dOp oEq (dOp oIx (dVar 3) (dC (.int 0))) (dC (.str "told"))))) (dDrop (dBM isL mApp (dOp oIx (dVar 5) (dC (.int 1))) (dCons (dC (.int 7)) dNil))) dNext)
  (dSeq (dIfS (dAnd (dTst (dOp oEq (dVar 2) (dC (.int 4)))) (dTst (dOp oEq (dOp oIx (dVar 3) (dC (.int 0))) (dC (.str "told"))))) (dSeq (dDrop (dBM isL mApp (dOp oIx (dOp oIx (dVar 5) (dC (.int 1))) (dC (.int 0))) (dCons (dC (.int 7)) dNil)))
  (dDrop (dBM isL mApp (dOp oIx (dOp oIx (dVar 5) (dC (.int 1))) (dC (.int 1))) (dCons (dC (.int 7)) dNil)))) dNext)
  (dIfS (dNot (dTru (dCall 2 wp__law_same (dCons (dCallM 3 wp__law_ask (dCons (dVar 2) (dCons (dCB cTuple (dCons (dVar 0) dNil)) (dCons (dVar 1) dNil)))) (dCons (dVar 3) dNil))))) (dRet (dC (.bl false))) dNext)))))))
def wp__law_heap : DFn := dFn 6 ((dSeq (dFor (diR1 (dCons (dC (.int 5)) dNil)) (gdName 2) lb__law_heap_1)
  (dRet (dC (.bl true)))))
theorem ok__law_heap (T : Txt K mg) : FnG P w K mg base (L2.CX P w) 7 T.a__law_heap T.d__law_heap ["places", "at"] (spOf K mg 2 wp__law_heap) :=
  fnG_ok (k := 6) T.F__law_heap sc__law_heap rfl fun cdv A outer s H E hgd hr => by
    have tk := takes_of (X := cxOf (L2.CX P w) P w K mg base ["places", "at", "which", "due", "given", "told"] "_law_heap" (defScope s__law_heap) T.a__law_heap cdv A outer s H E) (E := E) rfl rfl rfl rfl
    have po := passes_of (X := cxOf (L2.CX P w) P w K mg base ["places", "at", "which", "due", "given", "told"] "_law_heap" (defScope s__law_heap) T.a__law_heap cdv A outer s H E) rfl
    exact ⟨_, (db_cons (ds_for po (di_range1 (da_cons de_int da_nil) T.n_range) (dg_name (i := 2) sc__law_heap.nd) (db_cons (ds_set 3 sc__law_heap.nd (de_callP (ok__law_due T) (hr.mono (by decide)) T.g__law_due T.F__law_due.kp (bd__law_due T) tk (da_cons (de_var 2) (da_cons (de_var 0) (da_cons (de_var 1) da_nil)))))
      (db_cons (ds_set 4 sc__law_heap.nd (de_ct callK_list lc_list T.n_list (by decide +kernel) (da_cons (de_var 0) da_nil)))
      (db_cons (ds_set 5 sc__law_heap.nd (de_callM (ok__law_ask T) (hr.mono (by decide)) T.g__law_ask T.F__law_ask.kp (bd__law_ask T) tk (da_cons (de_var 2) (da_cons (de_var 4) (da_cons (de_var 1) da_nil)))))
      (db_cons (ds_if (dw_or (dt_not (dt_tru (deG_call (ok__law_same T) hgd (hr.mono (by decide)) T.g__law_same T.F__law_same.kp (bd__law_same T) tk (da_cons (de_var 5) (da_cons (de_var 3) da_nil))))) (dw_or1 (dt_not (dt_tru (deG_callP (ok__law_same T) hgd (hr.mono (by decide)) T.g__law_same T.F__law_same.kp (bd__law_same T) tk (da_cons (de_var 4) (da_cons (de_var 0) da_nil))))))).t (db_one (ds_ret de_bl)) db_nil)
      (db_cons (ds_if (dw_and (dt_cmp (op_eqU hr.units) lr_eq (de_var 2) de_int) (dw_and1 (dt_cmp (op_eqU hr.units) lr_eq (de_ix (de_var 3) de_int) de_str))).t (db_one (ds_expr (de_bm PySem.F.plainAttrs_list PySem.F.slot_list_append PySem.F.type_list_append mt_append lm_app tyO_L (de_ix (de_var 5) de_int) (da_cons de_int da_nil)))) db_nil)
      (db_cons (ds_if (dw_and (dt_cmp (op_eqU hr.units) lr_eq (de_var 2) de_int) (dw_and1 (dt_cmp (op_eqU hr.units) lr_eq (de_ix (de_var 3) de_int) de_str))).t (db_cons (ds_expr (de_bm PySem.F.plainAttrs_list PySem.F.slot_list_append PySem.F.type_list_append mt_append lm_app tyO_L (de_ix (de_ix (de_var 5) de_int) de_int) (da_cons de_int da_nil)))
      (db_one (ds_expr (de_bm PySem.F.plainAttrs_list PySem.F.slot_list_append PySem.F.type_list_append mt_append lm_app tyO_L (de_ix (de_ix (de_var 5) de_int) de_int) (da_cons de_int da_nil))))) db_nil)
      (db_one (ds_if (dt_not (dt_tru (deG_call (ok__law_same T) hgd (hr.mono (by decide)) T.g__law_same T.F__law_same.kp (bd__law_same T) tk (da_cons (de_callM (ok__law_ask T) (hr.mono (by decide)) T.g__law_ask T.F__law_ask.kp (bd__law_ask T) tk (da_cons (de_var 2) (da_cons (de_ct callK_tuple lc_tuple T.n_tuple (by decide +kernel) (da_cons (de_var 0) da_nil)) (da_cons (de_var 1) da_nil)))) (da_cons (de_var 3) da_nil))))) (db_one (ds_ret de_bl)) db_nil)))))))))
      (db_one (ds_ret de_bl)))⟩
/-! _law_pyramid -/
def lb__law_pyramid_1 : DSt := (dSeq (dAsg (dOp oIx (dVar 3) (dCall 2 wp__law_draw (dCons (dVar 0) (dCons (dCB cLen (dCons (dVar 3) dNil)) dNil)))) (gdName 5))
  (dDrop (dBM isL mApp (dVar 3) (dCons (dCB cMax2 (dCons (dVar 2) (dCons (dOp oSub (dOp oPlus (dVar 5) (dCall 2 wp__law_draw (dCons (dVar 0) (dCons (dC (.int 3)) dNil)))) (dC (.int 1))) dNil))) dNil))))
def wp__law_pyramid : DFn := dFn 6 ((dSeq (dAsg (dLstM (dCons (dC (.int 0)) dNil)) (gdName 3))
  (dSeq (dFor (diR1 (dCons (dOp oSub (dVar 1) (dC (.int 1))) dNil)) (gdName 4) lb__law_pyramid_1)
  (dRet (dFrz (dVar 3))))))
theorem ok__law_pyramid (T : Txt K mg) : FnOk P w K mg base (L2.CX P w) 2 T.a__law_pyramid T.d__law_pyramid ["pool", "size", "least"] (spOf K mg 3 wp__law_pyramid) :=
  fn_ok (k := 1) T.F__law_pyramid sc__law_pyramid rfl fun cdv A outer s H E hr => by
    have tk := takes_of (X := cxOf (L2.CX P w) P w K mg base ["pool", "size", "least", "places", "k", "near"] "_law_pyramid" (defScope s__law_pyramid) T.a__law_pyramid cdv A outer s H E) (E := E) rfl rfl rfl rfl
    have po := passes_of (X := cxOf (L2.CX P w) P w K mg base ["pool", "size", "least", "places", "k", "near"] "_law_pyramid" (defScope s__law_pyramid) T.a__law_pyramid cdv A outer s H E) rfl
    exact ⟨_, (db_cons (ds_set 3 sc__law_pyramid.nd (de_lstM (da_cons de_int da_nil)))
      (db_cons (ds_for po (di_range1 (da_cons (de_op op_sub lr_sub (de_var 1) de_int) da_nil) T.n_range) (dg_name (i := 4) sc__law_pyramid.nd) (db_cons (ds_set 5 sc__law_pyramid.nd (de_ix (de_var 3) (de_call (ok__law_draw T) (hr.mono (by decide)) T.g__law_draw T.F__law_draw.kp (bd__law_draw T) tk (da_cons (de_var 0) (da_cons (de_cb callK_len lc_len T.n_len (by decide +kernel) (da_cons (de_var 3) da_nil)) da_nil)))))
      (db_one (ds_expr (de_bm PySem.F.plainAttrs_list PySem.F.slot_list_append PySem.F.type_list_append mt_append lm_app tyO_L (de_var 3) (da_cons (de_cb (call_max2 rfl) lc_max2 T.n_max (by decide +kernel) (da_cons (de_var 2) (da_cons (de_op op_sub lr_sub (de_op op_plus lr_plus (de_var 5) (de_call (ok__law_draw T) (hr.mono (by decide)) T.g__law_draw T.F__law_draw.kp (bd__law_draw T) tk (da_cons (de_var 0) (da_cons de_int da_nil)))) de_int) da_nil))) da_nil))))))
      (db_one (ds_ret (de_frz (de_var 3))))))⟩
/-! _law_strict_one -/
def lb__law_strict_one_1 : DSt := (dSeq (dAsg (dOp oIx (dVar 2) (dCall 2 wp__law_draw (dCons (dVar 0) (dCons (dCB cLen (dCons (dVar 2) dNil)) dNil)))) (gdName 4))
  (dSeq (dAsg (dOp oSub (dOp oPlus (dVar 4) (dC (.int 1))) (dOp oMul (dC (.int 2)) (dCall 2 wp__law_draw (dCons (dVar 0) (dCons (dC (.int 2)) dNil))))) (gdName 5))
  (dIfS (dTru (dCallP 1 wp__law_strict (dCons (dOp oPlus (dVar 2) (dLst (dCons (dVar 5) dNil))) dNil))) (dDrop (dBM isL mApp (dVar 2) (dCons (dVar 5) dNil))) dNext)))
def wp__law_strict_one : DFn := dFn 6 ((dSeq (dAsg (dLstM (dCons (dC (.int 0)) dNil)) (gdName 2))
  (dSeq (dFor (diR1 (dCons (dOp oSub (dVar 1) (dC (.int 1))) dNil)) (gdName 3) lb__law_strict_one_1)
  (dRet (dFrz (dVar 2))))))
theorem ok__law_strict_one (T : Txt K mg) : FnOk P w K mg base (L2.CX P w) 2 T.a__law_strict_one T.d__law_strict_one ["pool", "size"] (spOf K mg 2 wp__law_strict_one) :=
  fn_ok (k := 1) T.F__law_strict_one sc__law_strict_one rfl fun cdv A outer s H E hr => by
    have tk := takes_of (X := cxOf (L2.CX P w) P w K mg base ["pool", "size", "places", "k", "near", "place"] "_law_strict_one" (defScope s__law_strict_one) T.a__law_strict_one cdv A outer s H E) (E := E) rfl rfl rfl rfl
    have po := passes_of (X := cxOf (L2.CX P w) P w K mg base ["pool", "size", "places", "k", "near", "place"] "_law_strict_one" (defScope s__law_strict_one) T.a__law_strict_one cdv A outer s H E) rfl
    exact ⟨_, (db_cons (ds_set 2 sc__law_strict_one.nd (de_lstM (da_cons de_int da_nil)))
      (db_cons (ds_for po (di_range1 (da_cons (de_op op_sub lr_sub (de_var 1) de_int) da_nil) T.n_range) (dg_name (i := 3) sc__law_strict_one.nd) (db_cons (ds_set 4 sc__law_strict_one.nd (de_ix (de_var 2) (de_call (ok__law_draw T) (hr.mono (by decide)) T.g__law_draw T.F__law_draw.kp (bd__law_draw T) tk (da_cons (de_var 0) (da_cons (de_cb callK_len lc_len T.n_len (by decide +kernel) (da_cons (de_var 2) da_nil)) da_nil)))))
      (db_cons (ds_set 5 sc__law_strict_one.nd (de_op op_sub lr_sub (de_op op_plus lr_plus (de_var 4) de_int) (de_op op_mulW lr_mul de_int (de_call (ok__law_draw T) (hr.mono (by decide)) T.g__law_draw T.F__law_draw.kp (bd__law_draw T) tk (da_cons (de_var 0) (da_cons de_int da_nil))))))
      (db_one (ds_if (dt_tru (de_callP (ok__law_strict T) (hr.mono (by decide)) T.g__law_strict T.F__law_strict.kp (bd__law_strict T) tk (da_cons (de_op op_plus lr_plus (de_var 2) (de_lst (da_cons (de_var 5) da_nil))) da_nil))) (db_one (ds_expr (de_bm PySem.F.plainAttrs_list PySem.F.slot_list_append PySem.F.type_list_append mt_append lm_app tyO_L (de_var 2) (da_cons (de_var 5) da_nil)))) db_nil)))))
      (db_one (ds_ret (de_frz (de_var 2))))))⟩
/-! _law_any -/
def wp__law_any : DFn := dFn 4 ((dSeq (dAsg (dC (.int 7)) (gdName 2))
  (dSeq (dIfS (dTst (dOp oEq (dCall 2 wp__law_draw (dCons (dVar 0) (dCons (dC (.int 2)) dNil))) (dC (.int 1)))) (dAsg (dC (.int 121)) (gdName 2)) dNext)
  (dRet (dLc (diR1 (dCons (dVar 1) dNil)) (gdName 3) dYes (dOp oSub (dCall 2 wp__law_draw (dCons (dVar 0) (dCons (dVar 2) dNil))) (dOp oFdiv (dVar 2) (dC (.int 2)))) [3])))))
theorem ok__law_any (T : Txt K mg) : FnOk P w K mg base (L2.CX P w) 2 T.a__law_any T.d__law_any ["pool", "size"] (spOf K mg 2 wp__law_any) :=
  fn_ok (k := 1) T.F__law_any sc__law_any rfl fun cdv A outer s H E hr => by
    have tk := takes_of (X := cxOf (L2.CX P w) P w K mg base ["pool", "size", "wide", "k"] "_law_any" (defScope s__law_any) T.a__law_any cdv A outer s H E) (E := E) rfl rfl rfl rfl
    have po := passes_of (X := cxOf (L2.CX P w) P w K mg base ["pool", "size", "wide", "k"] "_law_any" (defScope s__law_any) T.a__law_any cdv A outer s H E) rfl
    exact ⟨_, (db_cons (ds_set 2 sc__law_any.nd de_int)
      (db_cons (ds_if (dt_cmp (op_eqU hr.units) lr_eq (de_call (ok__law_draw T) (hr.mono (by decide)) T.g__law_draw T.F__law_draw.kp (bd__law_draw T) tk (da_cons (de_var 0) (da_cons de_int da_nil))) de_int) (db_one (ds_set 2 sc__law_any.nd de_int)) db_nil)
      (db_one (ds_ret (de_lc (w := [3]) [("k", 3)] sc__law_any.nd (di_range1 (da_cons (de_var 1) da_nil) T.n_range) (show blkC ["pool", "size", "wide", "k"] (defScope s__law_any) _ [("k", 3)] = true by decide +kernel) (by decide) (fun _ _ _ _ _ => (dg_name (i := 3) sc__law_any.nd)) (fun _ _ _ _ _ => dts_nil) (fun _ _ _ _ _ => (de_op op_sub lr_sub (de_call (ok__law_draw T) (hr.mono (by decide)) T.g__law_draw T.F__law_draw.kp (bd__law_draw T) takes0 (da_cons (de_var 0) (da_cons (de_var 2) da_nil))) (de_op op_fdivW lr_fdiv (de_var 2) de_int))))))))⟩
/-! _law_changed -/
def wp__law_changed : DFn := dFn 6 ((dSeq (dAsg (dOp oPlus (dC (.int 1)) (dCall 2 wp__law_draw (dCons (dVar 0) (dCons (dCB cLen (dCons (dVar 1) dNil)) dNil)))) (gdName 2))
  (dSeq (dAsg (dOp oPlus (dOp oPlus (dCB cMaxL (dCons (dVar 1) dNil)) (dC (.int 2))) (dCall 2 wp__law_draw (dCons (dVar 0) (dCons (dC (.int 3)) dNil)))) (gdName 3))
  (dSeq (dIfS (dTst (dOp oEq (dCall 2 wp__law_draw (dCons (dVar 0) (dCons (dC (.int 2)) dNil))) (dC (.int 1)))) (dAsg (dOp oSub (dOp oSub (dCB cMinL (dCons (dVar 1) dNil)) (dC (.int 2))) (dCall 2 wp__law_draw (dCons (dVar 0) (dCons (dC (.int 3)) dNil)))) (gdName 3)) dNext)
  (dSeq (dAsg (dLstM (dCons (dOp oPlus (dOp oPlus (dSl (dVar 1) dNoPart (dPart (dVar 2))) (dLst (dCons (dVar 3) dNil))) (dSl (dVar 1) (dPart (dVar 2)) dNoPart)) dNil)) (gdName 4))
  (dSeq (dAsg (dOp oPlusM (dVar 4) (dLst (dCons (dOp oPlus (dVar 1) (dLst (dCons (dOp oIx (dVar 1) (dNeg (dC (.int 1)))) dNil))) (dCons (dOp oPlus (dLst (dCons (dC (.int 1)) dNil)) (dVar 1)) dNil)))) (gdName 4))
  (dSeq (dDrop (dBM isL mApp (dVar 4) (dCons (dLc (diL (dVar 1)) (gdName 5) dYes (dOp oPlus (dVar 5) (dC (.int 1))) [5]) dNil)))
  (dSeq (dDrop (dBM isL mApp (dVar 4) (dCons (dLc (diL (dVar 1)) (gdName 5) dYes (dOp oSub (dVar 5) (dC (.int 1))) [5]) dNil)))
  (dRet (dFrz (dVar 4)))))))))))
theorem ok__law_changed (T : Txt K mg) : FnOk P w K mg base (L2.CX P w) 2 T.a__law_changed T.d__law_changed ["pool", "places"] (spOf K mg 2 wp__law_changed) :=
  fn_ok (k := 1) T.F__law_changed sc__law_changed rfl fun cdv A outer s H E hr => by
    have tk := takes_of (X := cxOf (L2.CX P w) P w K mg base ["pool", "places", "cut", "far", "found", "place"] "_law_changed" (defScope s__law_changed) T.a__law_changed cdv A outer s H E) (E := E) rfl rfl rfl rfl
    have po := passes_of (X := cxOf (L2.CX P w) P w K mg base ["pool", "places", "cut", "far", "found", "place"] "_law_changed" (defScope s__law_changed) T.a__law_changed cdv A outer s H E) rfl
    exact ⟨_, (db_cons (ds_set 2 sc__law_changed.nd (de_op op_plus lr_plus de_int (de_call (ok__law_draw T) (hr.mono (by decide)) T.g__law_draw T.F__law_draw.kp (bd__law_draw T) tk (da_cons (de_var 0) (da_cons (de_cb callK_len lc_len T.n_len (by decide +kernel) (da_cons (de_var 1) da_nil)) da_nil)))))
      (db_cons (ds_set 3 sc__law_changed.nd (de_op op_plus lr_plus (de_op op_plus lr_plus (de_cb (crK_max rfl hr.units) lc_maxL T.n_max (by decide +kernel) (da_cons (de_var 1) da_nil)) de_int) (de_call (ok__law_draw T) (hr.mono (by decide)) T.g__law_draw T.F__law_draw.kp (bd__law_draw T) tk (da_cons (de_var 0) (da_cons de_int da_nil)))))
      (db_cons (ds_if (dt_cmp (op_eqU hr.units) lr_eq (de_call (ok__law_draw T) (hr.mono (by decide)) T.g__law_draw T.F__law_draw.kp (bd__law_draw T) tk (da_cons (de_var 0) (da_cons de_int da_nil))) de_int) (db_one (ds_set 3 sc__law_changed.nd (de_op op_sub lr_sub (de_op op_sub lr_sub (de_cb (crK_min rfl hr.units) lc_minL T.n_min (by decide +kernel) (da_cons (de_var 1) da_nil)) de_int) (de_call (ok__law_draw T) (hr.mono (by decide)) T.g__law_draw T.F__law_draw.kp (bd__law_draw T) tk (da_cons (de_var 0) (da_cons de_int da_nil)))))) db_nil)
      (db_cons (ds_set 4 sc__law_changed.nd (de_lstM (da_cons (de_op op_plus lr_plus (de_op op_plus lr_plus (de_slice (de_var 1) do_none (do_some (de_var 2))) (de_lst (da_cons (de_var 3) da_nil))) (de_slice (de_var 1) (do_some (de_var 2)) do_none)) da_nil)))
      (db_cons (ds_set 4 sc__law_changed.nd (de_op op_plus lr_plusM (de_var 4) (de_lst (da_cons (de_op op_plus lr_plus (de_var 1) (de_lst (da_cons (de_ix (de_var 1) (de_neg de_int)) da_nil))) (da_cons (de_op op_plus lr_plus (de_lst (da_cons de_int da_nil)) (de_var 1)) da_nil)))))
      (db_cons (ds_expr (de_bm PySem.F.plainAttrs_list PySem.F.slot_list_append PySem.F.type_list_append mt_append lm_app tyO_L (de_var 4) (da_cons (de_lc (w := [5]) [("place", 5)] sc__law_changed.nd (di_list (de_var 1)) (show blkC ["pool", "places", "cut", "far", "found", "place"] (defScope s__law_changed) _ [("place", 5)] = true by decide +kernel) (by decide) (fun _ _ _ _ _ => (dg_name (i := 5) sc__law_changed.nd)) (fun _ _ _ _ _ => dts_nil) (fun _ _ _ _ _ => (de_op op_plus lr_plus (de_var 5) de_int))) da_nil)))
      (db_cons (ds_expr (de_bm PySem.F.plainAttrs_list PySem.F.slot_list_append PySem.F.type_list_append mt_append lm_app tyO_L (de_var 4) (da_cons (de_lc (w := [5]) [("place", 5)] sc__law_changed.nd (di_list (de_var 1)) (show blkC ["pool", "places", "cut", "far", "found", "place"] (defScope s__law_changed) _ [("place", 5)] = true by decide +kernel) (by decide) (fun _ _ _ _ _ => (dg_name (i := 5) sc__law_changed.nd)) (fun _ _ _ _ _ => dts_nil) (fun _ _ _ _ _ => (de_op op_sub lr_sub (de_var 5) de_int))) da_nil)))
      (db_one (ds_ret (de_frz (de_var 4)))))))))))⟩
/-! _law_beyond -/
def wp__law_beyond : DFn := dFn 9 ((dSeq (dAsg (dCall 2 wp__law_draw (dCons (dVar 0) (dCons (dOp oPow (dC (.int 10)) (dC (.int 20))) dNil))) (gdName 2))
  (dSeq (dAsg (dOp oIx (dLst (dCons (dNeg (dC (.int 61))) (dCons (dC (.int 61)) (dCons (dOp oSub (dNeg (dC (.int 61))) (dVar 2)) (dCons (dOp oPlus (dC (.int 61)) (dVar 2)) dNil))))) (dCall 2 wp__law_draw (dCons (dVar 0) (dCons (dC (.int 4)) dNil)))) (gdName 3))
  (dSeq (dAsg (dCall 2 wp__law_draw (dCons (dVar 0) (dCons (dOp oPlus (dCB cLen (dCons (dVar 1) dNil)) (dC (.int 1))) dNil))) (gdName 4))
  (dSeq (dAsg (dOp oPlus (dSl (dVar 1) dNoPart (dPart (dVar 4))) (dLst (dCons (dVar 3) dNil))) (gdName 5))
  (dSeq (dAsg (dOp oPlus (dC (.int 61)) (dCall 2 wp__law_draw (dCons (dVar 0) (dCons (dC (.int 3)) dNil)))) (gdName 6))
  (dSeq (dAsg (dLstM (dCons (dOp oPlus (dVar 5) (dSl (dVar 1) (dPart (dVar 4)) dNoPart)) (dCons (dOp oPlus (dOp oPlus (dVar 5) (dLst (dCons (dNeg (dVar 3)) dNil))) (dSl (dVar 1) (dPart (dVar 4)) dNoPart)) (dCons (dLst dNil) dNil)))) (gdName 7))
  (dSeq (dDrop (dBM isL mApp (dVar 7) (dCons (dLc (diR1 (dCons (dVar 6) dNil)) (gdName 8) dYes (dC (.int 0)) [8]) dNil)))
  (dSeq (dDrop (dBM isL mApp (dVar 7) (dCons (dLc (diR1 (dCons (dVar 6) dNil)) (gdName 8) dYes (dVar 3) [8]) dNil)))
  (dRet (dFrz (dVar 7))))))))))))
theorem ok__law_beyond (T : Txt K mg) : FnOk P w K mg base (L2.CX P w) 2 T.a__law_beyond T.d__law_beyond ["pool", "places"] (spOf K mg 2 wp__law_beyond) :=
  fn_ok (k := 1) T.F__law_beyond sc__law_beyond rfl fun cdv A outer s H E hr => by
    have tk := takes_of (X := cxOf (L2.CX P w) P w K mg base ["pool", "places", "far", "bad", "cut", "low", "size", "found", "k"] "_law_beyond" (defScope s__law_beyond) T.a__law_beyond cdv A outer s H E) (E := E) rfl rfl rfl rfl
    have po := passes_of (X := cxOf (L2.CX P w) P w K mg base ["pool", "places", "far", "bad", "cut", "low", "size", "found", "k"] "_law_beyond" (defScope s__law_beyond) T.a__law_beyond cdv A outer s H E) rfl
    exact ⟨_, (db_cons (ds_set 2 sc__law_beyond.nd (de_call (ok__law_draw T) (hr.mono (by decide)) T.g__law_draw T.F__law_draw.kp (bd__law_draw T) tk (da_cons (de_var 0) (da_cons (de_op op_pow lr_pow de_int de_int) da_nil))))
      (db_cons (ds_set 3 sc__law_beyond.nd (de_ix (de_lst (da_cons (de_neg de_int) (da_cons de_int (da_cons (de_op op_sub lr_sub (de_neg de_int) (de_var 2)) (da_cons (de_op op_plus lr_plus de_int (de_var 2)) da_nil))))) (de_call (ok__law_draw T) (hr.mono (by decide)) T.g__law_draw T.F__law_draw.kp (bd__law_draw T) tk (da_cons (de_var 0) (da_cons de_int da_nil)))))
      (db_cons (ds_set 4 sc__law_beyond.nd (de_call (ok__law_draw T) (hr.mono (by decide)) T.g__law_draw T.F__law_draw.kp (bd__law_draw T) tk (da_cons (de_var 0) (da_cons (de_op op_plus lr_plus (de_cb callK_len lc_len T.n_len (by decide +kernel) (da_cons (de_var 1) da_nil)) de_int) da_nil))))
      (db_cons (ds_set 5 sc__law_beyond.nd (de_op op_plus lr_plus (de_slice (de_var 1) do_none (do_some (de_var 4))) (de_lst (da_cons (de_var 3) da_nil))))
      (db_cons (ds_set 6 sc__law_beyond.nd (de_op op_plus lr_plus de_int (de_call (ok__law_draw T) (hr.mono (by decide)) T.g__law_draw T.F__law_draw.kp (bd__law_draw T) tk (da_cons (de_var 0) (da_cons de_int da_nil)))))
      (db_cons (ds_set 7 sc__law_beyond.nd (de_lstM (da_cons (de_op op_plus lr_plus (de_var 5) (de_slice (de_var 1) (do_some (de_var 4)) do_none)) (da_cons (de_op op_plus lr_plus (de_op op_plus lr_plus (de_var 5) (de_lst (da_cons (de_neg (de_var 3)) da_nil))) (de_slice (de_var 1) (do_some (de_var 4)) do_none)) (da_cons (de_lst da_nil) da_nil)))))
      (db_cons (ds_expr (de_bm PySem.F.plainAttrs_list PySem.F.slot_list_append PySem.F.type_list_append mt_append lm_app tyO_L (de_var 7) (da_cons (de_lc (w := [8]) [("k", 8)] sc__law_beyond.nd (di_range1 (da_cons (de_var 6) da_nil) T.n_range) (show blkC ["pool", "places", "far", "bad", "cut", "low", "size", "found", "k"] (defScope s__law_beyond) _ [("k", 8)] = true by decide +kernel) (by decide) (fun _ _ _ _ _ => (dg_name (i := 8) sc__law_beyond.nd)) (fun _ _ _ _ _ => dts_nil) (fun _ _ _ _ _ => de_int)) da_nil)))
      (db_cons (ds_expr (de_bm PySem.F.plainAttrs_list PySem.F.slot_list_append PySem.F.type_list_append mt_append lm_app tyO_L (de_var 7) (da_cons (de_lc (w := [8]) [("k", 8)] sc__law_beyond.nd (di_range1 (da_cons (de_var 6) da_nil) T.n_range) (show blkC ["pool", "places", "far", "bad", "cut", "low", "size", "found", "k"] (defScope s__law_beyond) _ [("k", 8)] = true by decide +kernel) (by decide) (fun _ _ _ _ _ => (dg_name (i := 8) sc__law_beyond.nd)) (fun _ _ _ _ _ => dts_nil) (fun _ _ _ _ _ => (de_var 3))) da_nil)))
      (db_one (ds_ret (de_frz (de_var 7))))))))))))⟩
/-! law -/
def lb_law_1 : DSt := (dIfS (dNot (dTru (dCallP 2 wp__law_heap (dCons (dVar 8) (dCons (dOp oSub (dCall 2 wp__law_draw (dCons (dVar 1) (dCons (dOp oPlus (dCB cLen (dCons (dVar 8) dNil)) (dC (.int 2))) dNil))) (dC (.int 1))) dNil))))) (dRet (dC (.bl false))) dNext)
def wp_law : DFn := dFn 11 ((dSeq (dAsg (dCallM 1 wp__law_pool (dCons (dVar 0) dNil)) (gdName 1))
  (dSeq (dAsg (dCall 3 wp__law_pyramid (dCons (dVar 1) (dCons (dOp oPlus (dC (.int 1)) (dCall 2 wp__law_draw (dCons (dVar 1) (dCons (dC (.int 10)) dNil)))) (dCons (dNeg (dC (.int 60))) dNil)))) (gdName 2))
  (dSeq (dAsg (dCall 3 wp__law_pyramid (dCons (dVar 1) (dCons (dOp oPlus (dC (.int 1)) (dCall 2 wp__law_draw (dCons (dVar 1) (dCons (dC (.int 10)) dNil)))) (dCons (dC (.int 0)) dNil)))) (gdName 3))
  (dSeq (dAsg (dCall 2 wp__law_strict_one (dCons (dVar 1) (dCons (dOp oPlus (dC (.int 1)) (dCall 2 wp__law_draw (dCons (dVar 1) (dCons (dC (.int 10)) dNil)))) dNil))) (gdName 4))
  (dSeq (dAsg (dCall 2 wp__law_any (dCons (dVar 1) (dCons (dOp oPlus (dC (.int 1)) (dCall 2 wp__law_draw (dCons (dVar 1) (dCons (dC (.int 10)) dNil)))) dNil))) (gdName 5))
  (dSeq (dAsg (dOp oEq (dCall 2 wp__law_draw (dCons (dVar 1) (dCons (dC (.int 8)) dNil))) (dC (.int 0))) (gdName 6))
  (dSeq (dAsg (dOp oPlus (dLst (dCons (dVar 2) (dCons (dVar 3) (dCons (dVar 4) (dCons (dVar 5) dNil))))) (dCall 2 wp__law_changed (dCons (dVar 1) (dCons (dVar 2) dNil)))) (gdName 7))
  (dSeq (dAsg (dOp oPlus (dVar 7) (dCall 2 wp__law_changed (dCons (dVar 1) (dCons (dVar 4) dNil)))) (gdName 7))
  (dSeq (dFor (diL (dOp oPlus (dVar 7) (dCall 2 wp__law_beyond (dCons (dVar 1) (dCons (dVar 3) dNil))))) (gdName 8) lb_law_1)
  (dSeq (dIfS (dOr (dNot (dTru (dCallP 2 wp__law_heap (dCons (dVar 2) (dCons (dCB cLen (dCons (dVar 2) dNil)) dNil))))) (dNot (dTru (dCallP 2 wp__law_heap (dCons (dVar 2) (dCons (dNeg (dC (.int 1))) dNil)))))) (dRet (dC (.bl false))) dNext)
  (dSeq (dAsg (dOp oPlus (dCB cLen (dCons (dVar 2) dNil)) (dCall 2 wp__law_draw (dCons (dVar 1) (dCons (dOp oPow (dC (.int 10)) (dC (.int 20))) dNil)))) (gdName 9))
  (dSeq (dIfS (dOr (dNot (dTru (dCallP 2 wp__law_heap (dCons (dVar 2) (dCons (dVar 9) dNil))))) (dNot (dTru (dCallP 2 wp__law_heap (dCons (dVar 2) (dCons (dOp oSub (dNeg (dC (.int 1))) (dVar 9)) dNil)))))) (dRet (dC (.bl false))) dNext)
  (dSeq (dIfS (dTru (dVar 6)) (dSeq (dAsg (dCall 3 wp__law_pyramid (dCons (dVar 1) (dCons (dC (.int 60)) (dCons (dNeg (dC (.int 60))) dNil)))) (gdName 10))
  (dIfS (dNot (dTru (dCallP 2 wp__law_heap (dCons (dVar 10) (dCons (dCall 2 wp__law_draw (dCons (dVar 1) (dCons (dC (.int 60)) dNil))) dNil))))) (dRet (dC (.bl false))) dNext)) dNext)
  (dSeq (dIfS (dNot (dTru (dCall 2 wp__law_same (dCons (dCallM 1 wp_levels (dCons (dCB cTuple (dCons (dVar 2) dNil)) dNil)) (dCons (dCallP 1 wp__law_levels (dCons (dVar 2) dNil)) dNil))))) (dRet (dC (.bl false))) dNext)
  (dRet (dAndV (dCallP 2 wp__law_heap (dCons (dVar 4) (dCons (dC (.int 0)) dNil))) (dCallP 2 wp__law_heap (dCons (dVar 2) (dCons (dC (.int 0)) dNil))))))))))))))))))))
theorem ok_law (T : Txt K mg) : FnG P w K mg base (L2.CX P w) 8 T.a_law T.d_law ["script"] (spOf K mg 1 wp_law) :=
  fnG_ok (k := 7) T.F_law sc_law rfl fun cdv A outer s H E hgd hr => by
    have tk := takes_of (X := cxOf (L2.CX P w) P w K mg base ["script", "pool", "first", "half", "strict", "other", "great", "heaps", "places", "far", "high"] "law" (defScope s_law) T.a_law cdv A outer s H E) (E := E) rfl rfl rfl rfl
    have po := passes_of (X := cxOf (L2.CX P w) P w K mg base ["script", "pool", "first", "half", "strict", "other", "great", "heaps", "places", "far", "high"] "law" (defScope s_law) T.a_law cdv A outer s H E) rfl
    exact ⟨_, (db_cons (ds_set 1 sc_law.nd (de_callM (ok__law_pool T) (hr.mono (by decide)) T.g__law_pool T.F__law_pool.kp (bd__law_pool T) tk (da_cons (de_var 0) da_nil)))
      (db_cons (ds_set 2 sc_law.nd (de_call (ok__law_pyramid T) (hr.mono (by decide)) T.g__law_pyramid T.F__law_pyramid.kp (bd__law_pyramid T) tk (da_cons (de_var 1) (da_cons (de_op op_plus lr_plus de_int (de_call (ok__law_draw T) (hr.mono (by decide)) T.g__law_draw T.F__law_draw.kp (bd__law_draw T) tk (da_cons (de_var 1) (da_cons de_int da_nil)))) (da_cons (de_neg de_int) da_nil)))))
      (db_cons (ds_set 3 sc_law.nd (de_call (ok__law_pyramid T) (hr.mono (by decide)) T.g__law_pyramid T.F__law_pyramid.kp (bd__law_pyramid T) tk (da_cons (de_var 1) (da_cons (de_op op_plus lr_plus de_int (de_call (ok__law_draw T) (hr.mono (by decide)) T.g__law_draw T.F__law_draw.kp (bd__law_draw T) tk (da_cons (de_var 1) (da_cons de_int da_nil)))) (da_cons de_int da_nil)))))
      (db_cons (ds_set 4 sc_law.nd (de_call (ok__law_strict_one T) (hr.mono (by decide)) T.g__law_strict_one T.F__law_strict_one.kp (bd__law_strict_one T) tk (da_cons (de_var 1) (da_cons (de_op op_plus lr_plus de_int (de_call (ok__law_draw T) (hr.mono (by decide)) T.g__law_draw T.F__law_draw.kp (bd__law_draw T) tk (da_cons (de_var 1) (da_cons de_int da_nil)))) da_nil))))
      (db_cons (ds_set 5 sc_law.nd (de_call (ok__law_any T) (hr.mono (by decide)) T.g__law_any T.F__law_any.kp (bd__law_any T) tk (da_cons (de_var 1) (da_cons (de_op op_plus lr_plus de_int (de_call (ok__law_draw T) (hr.mono (by decide)) T.g__law_draw T.F__law_draw.kp (bd__law_draw T) tk (da_cons (de_var 1) (da_cons de_int da_nil)))) da_nil))))
      (db_cons (ds_set 6 sc_law.nd (de_cmp (op_eqU hr.units) lr_eq (de_call (ok__law_draw T) (hr.mono (by decide)) T.g__law_draw T.F__law_draw.kp (bd__law_draw T) tk (da_cons (de_var 1) (da_cons de_int da_nil))) de_int))
      (db_cons (ds_set 7 sc_law.nd (de_op op_plus lr_plus (de_lst (da_cons (de_var 2) (da_cons (de_var 3) (da_cons (de_var 4) (da_cons (de_var 5) da_nil))))) (de_call (ok__law_changed T) (hr.mono (by decide)) T.g__law_changed T.F__law_changed.kp (bd__law_changed T) tk (da_cons (de_var 1) (da_cons (de_var 2) da_nil)))))
      (db_cons (ds_set 7 sc_law.nd (de_op op_plus lr_plus (de_var 7) (de_call (ok__law_changed T) (hr.mono (by decide)) T.g__law_changed T.F__law_changed.kp (bd__law_changed T) tk (da_cons (de_var 1) (da_cons (de_var 4) da_nil)))))
      (db_cons (ds_for po (di_list (de_op op_plus lr_plus (de_var 7) (de_call (ok__law_beyond T) (hr.mono (by decide)) T.g__law_beyond T.F__law_beyond.kp (bd__law_beyond T) tk (da_cons (de_var 1) (da_cons (de_var 3) da_nil))))) (dg_name (i := 8) sc_law.nd) (db_one (ds_if (dt_not (dt_tru (deG_callP (ok__law_heap T) hgd (hr.mono (by decide)) T.g__law_heap T.F__law_heap.kp (bd__law_heap T) tk (da_cons (de_var 8) (da_cons (de_op op_sub lr_sub (de_call (ok__law_draw T) (hr.mono (by decide)) T.g__law_draw T.F__law_draw.kp (bd__law_draw T) tk (da_cons (de_var 1) (da_cons (de_op op_plus lr_plus (de_cb callK_len lc_len T.n_len (by decide +kernel) (da_cons (de_var 8) da_nil)) de_int) da_nil))) de_int) da_nil))))) (db_one (ds_ret de_bl)) db_nil)))
      (db_cons (ds_if (dw_or (dt_not (dt_tru (deG_callP (ok__law_heap T) hgd (hr.mono (by decide)) T.g__law_heap T.F__law_heap.kp (bd__law_heap T) tk (da_cons (de_var 2) (da_cons (de_cb callK_len lc_len T.n_len (by decide +kernel) (da_cons (de_var 2) da_nil)) da_nil))))) (dw_or1 (dt_not (dt_tru (deG_callP (ok__law_heap T) hgd (hr.mono (by decide)) T.g__law_heap T.F__law_heap.kp (bd__law_heap T) tk (da_cons (de_var 2) (da_cons (de_neg de_int) da_nil))))))).t (db_one (ds_ret de_bl)) db_nil)
      (db_cons (ds_set 9 sc_law.nd (de_op op_plus lr_plus (de_cb callK_len lc_len T.n_len (by decide +kernel) (da_cons (de_var 2) da_nil)) (de_call (ok__law_draw T) (hr.mono (by decide)) T.g__law_draw T.F__law_draw.kp (bd__law_draw T) tk (da_cons (de_var 1) (da_cons (de_op op_pow lr_pow de_int de_int) da_nil)))))
      (db_cons (ds_if (dw_or (dt_not (dt_tru (deG_callP (ok__law_heap T) hgd (hr.mono (by decide)) T.g__law_heap T.F__law_heap.kp (bd__law_heap T) tk (da_cons (de_var 2) (da_cons (de_var 9) da_nil))))) (dw_or1 (dt_not (dt_tru (deG_callP (ok__law_heap T) hgd (hr.mono (by decide)) T.g__law_heap T.F__law_heap.kp (bd__law_heap T) tk (da_cons (de_var 2) (da_cons (de_op op_sub lr_sub (de_neg de_int) (de_var 9)) da_nil))))))).t (db_one (ds_ret de_bl)) db_nil)
      (db_cons (ds_if (dt_tru (de_var 6)) (db_cons (ds_set 10 sc_law.nd (de_call (ok__law_pyramid T) (hr.mono (by decide)) T.g__law_pyramid T.F__law_pyramid.kp (bd__law_pyramid T) tk (da_cons (de_var 1) (da_cons de_int (da_cons (de_neg de_int) da_nil)))))
      (db_one (ds_if (dt_not (dt_tru (deG_callP (ok__law_heap T) hgd (hr.mono (by decide)) T.g__law_heap T.F__law_heap.kp (bd__law_heap T) tk (da_cons (de_var 10) (da_cons (de_call (ok__law_draw T) (hr.mono (by decide)) T.g__law_draw T.F__law_draw.kp (bd__law_draw T) tk (da_cons (de_var 1) (da_cons de_int da_nil))) da_nil))))) (db_one (ds_ret de_bl)) db_nil))) db_nil)
      (db_cons (ds_if (dt_not (dt_tru (deG_call (ok__law_same T) hgd (hr.mono (by decide)) T.g__law_same T.F__law_same.kp (bd__law_same T) tk (da_cons (de_callKwM (ok_levels T) (hr.mono (by decide)) T.g_levels T.F_levels.kp (kw_levels T) tk (de_ct callK_tuple lc_tuple T.n_tuple (by decide +kernel) (da_cons (de_var 2) da_nil))) (da_cons (de_callP (ok__law_levels T) (hr.mono (by decide)) T.g__law_levels T.F__law_levels.kp (bd__law_levels T) tk (da_cons (de_var 2) da_nil)) da_nil))))) (db_one (ds_ret de_bl)) db_nil)
      (db_one (ds_ret (de_and (deG_callP (ok__law_heap T) hgd (hr.mono (by decide)) T.g__law_heap T.F__law_heap.kp (bd__law_heap T) tk (da_cons (de_var 4) (da_cons de_int da_nil))) (de_one (deG_callP (ok__law_heap T) hgd (hr.mono (by decide)) T.g__law_heap T.F__law_heap.kp (bd__law_heap T) tk (da_cons (de_var 2) (da_cons de_int da_nil)))))))))))))))))))))⟩
end
/-! what the top has written -/
theorem all_mk {P : Program} {w : World} {K : Frg} {h : Heap} {mg : Gm} {fa : Addr} (X : K.In h) (G : h.Ns mainGlobals mg) (hfa : mg "law" = some (.ref fa))
    {f_check_number : Addr} {od_check_number an_check_number : Option Addr} {sl_check_number : Array (Option Value)} {oc_check_number kV_check_number dc_check_number pm_check_number cd_check_number ct_check_number : Value}
    (a_check_number : PySem.W.nsIn K mainGlobals "check_number" = some (some (.ref f_check_number)))
    (l_check_number : K.lookup f_check_number = some ⟨oc_check_number, od_check_number, .func (PySem.W.fnOf "check_number" "check_number" (defArgs s_check_number) (defBody s_check_number) (defScope s_check_number) .none kV_check_number dc_check_number pm_check_number an_check_number cd_check_number ct_check_number), sl_check_number⟩)
    (c_check_number : PySem.W.codeIn K cd_check_number "check_number" = true)
    (k_check_number : PySem.W.keepIn K (.ref f_check_number) = true)
    {f_check_size : Addr} {od_check_size an_check_size : Option Addr} {sl_check_size : Array (Option Value)} {oc_check_size kV_check_size dc_check_size pm_check_size cd_check_size ct_check_size : Value}
    (a_check_size : PySem.W.nsIn K mainGlobals "check_size" = some (some (.ref f_check_size)))
    (l_check_size : K.lookup f_check_size = some ⟨oc_check_size, od_check_size, .func (PySem.W.fnOf "check_size" "check_size" (defArgs s_check_size) (defBody s_check_size) (defScope s_check_size) .none kV_check_size dc_check_size pm_check_size an_check_size cd_check_size ct_check_size), sl_check_size⟩)
    (c_check_size : PySem.W.codeIn K cd_check_size "check_size" = true)
    (k_check_size : PySem.W.keepIn K (.ref f_check_size) = true)
    {f_check_places : Addr} {od_check_places an_check_places : Option Addr} {sl_check_places : Array (Option Value)} {oc_check_places kV_check_places dc_check_places pm_check_places cd_check_places ct_check_places : Value}
    (a_check_places : PySem.W.nsIn K mainGlobals "check_places" = some (some (.ref f_check_places)))
    (l_check_places : K.lookup f_check_places = some ⟨oc_check_places, od_check_places, .func (PySem.W.fnOf "check_places" "check_places" (defArgs s_check_places) (defBody s_check_places) (defScope s_check_places) .none kV_check_places dc_check_places pm_check_places an_check_places cd_check_places ct_check_places), sl_check_places⟩)
    (c_check_places : PySem.W.codeIn K cd_check_places "check_places" = true)
    (k_check_places : PySem.W.keepIn K (.ref f_check_places) = true)
    {f_lying_on : Addr} {od_lying_on an_lying_on : Option Addr} {sl_lying_on : Array (Option Value)} {oc_lying_on kV_lying_on dc_lying_on pm_lying_on cd_lying_on ct_lying_on : Value}
    (a_lying_on : PySem.W.nsIn K mainGlobals "lying_on" = some (some (.ref f_lying_on)))
    (l_lying_on : K.lookup f_lying_on = some ⟨oc_lying_on, od_lying_on, .func (PySem.W.fnOf "lying_on" "lying_on" (defArgs s_lying_on) (defBody s_lying_on) (defScope s_lying_on) .none kV_lying_on dc_lying_on pm_lying_on an_lying_on cd_lying_on ct_lying_on), sl_lying_on⟩)
    (c_lying_on : PySem.W.codeIn K cd_lying_on "lying_on" = true)
    (k_lying_on : PySem.W.keepIn K (.ref f_lying_on) = true)
    {f_first_astray : Addr} {od_first_astray an_first_astray : Option Addr} {sl_first_astray : Array (Option Value)} {oc_first_astray kV_first_astray dc_first_astray pm_first_astray cd_first_astray ct_first_astray : Value}
    (a_first_astray : PySem.W.nsIn K mainGlobals "first_astray" = some (some (.ref f_first_astray)))
    (l_first_astray : K.lookup f_first_astray = some ⟨oc_first_astray, od_first_astray, .func (PySem.W.fnOf "first_astray" "first_astray" (defArgs s_first_astray) (defBody s_first_astray) (defScope s_first_astray) .none kV_first_astray dc_first_astray pm_first_astray an_first_astray cd_first_astray ct_first_astray), sl_first_astray⟩)
    (c_first_astray : PySem.W.codeIn K cd_first_astray "first_astray" = true)
    (k_first_astray : PySem.W.keepIn K (.ref f_first_astray) = true)
    {f_drop : Addr} {od_drop an_drop : Option Addr} {sl_drop : Array (Option Value)} {oc_drop kV_drop dc_drop pm_drop cd_drop ct_drop : Value}
    (a_drop : PySem.W.nsIn K mainGlobals "drop" = some (some (.ref f_drop)))
    (l_drop : K.lookup f_drop = some ⟨oc_drop, od_drop, .func (PySem.W.fnOf "drop" "drop" (defArgs s_drop) (defBody s_drop) (defScope s_drop) .none kV_drop dc_drop pm_drop an_drop cd_drop ct_drop), sl_drop⟩)
    (c_drop : PySem.W.codeIn K cd_drop "drop" = true)
    (k_drop : PySem.W.keepIn K (.ref f_drop) = true)
    {f_split_at : Addr} {od_split_at an_split_at : Option Addr} {sl_split_at : Array (Option Value)} {oc_split_at kV_split_at dc_split_at pm_split_at cd_split_at ct_split_at : Value}
    (a_split_at : PySem.W.nsIn K mainGlobals "split_at" = some (some (.ref f_split_at)))
    (l_split_at : K.lookup f_split_at = some ⟨oc_split_at, od_split_at, .func (PySem.W.fnOf "split_at" "split_at" (defArgs s_split_at) (defBody s_split_at) (defScope s_split_at) .none kV_split_at dc_split_at pm_split_at an_split_at cd_split_at ct_split_at), sl_split_at⟩)
    (c_split_at : PySem.W.codeIn K cd_split_at "split_at" = true)
    (k_split_at : PySem.W.keepIn K (.ref f_split_at) = true)
    {f_is_pyramid : Addr} {od_is_pyramid an_is_pyramid : Option Addr} {sl_is_pyramid : Array (Option Value)} {oc_is_pyramid kV_is_pyramid dc_is_pyramid pm_is_pyramid cd_is_pyramid ct_is_pyramid : Value}
    (a_is_pyramid : PySem.W.nsIn K mainGlobals "is_pyramid" = some (some (.ref f_is_pyramid)))
    (l_is_pyramid : K.lookup f_is_pyramid = some ⟨oc_is_pyramid, od_is_pyramid, .func (PySem.W.fnOf "is_pyramid" "is_pyramid" (defArgs s_is_pyramid) (defBody s_is_pyramid) (defScope s_is_pyramid) .none kV_is_pyramid dc_is_pyramid pm_is_pyramid an_is_pyramid cd_is_pyramid ct_is_pyramid), sl_is_pyramid⟩)
    (c_is_pyramid : PySem.W.codeIn K cd_is_pyramid "is_pyramid" = true)
    (k_is_pyramid : PySem.W.keepIn K (.ref f_is_pyramid) = true)
    {f_is_strict : Addr} {od_is_strict an_is_strict : Option Addr} {sl_is_strict : Array (Option Value)} {oc_is_strict kV_is_strict dc_is_strict pm_is_strict cd_is_strict ct_is_strict : Value}
    (a_is_strict : PySem.W.nsIn K mainGlobals "is_strict" = some (some (.ref f_is_strict)))
    (l_is_strict : K.lookup f_is_strict = some ⟨oc_is_strict, od_is_strict, .func (PySem.W.fnOf "is_strict" "is_strict" (defArgs s_is_strict) (defBody s_is_strict) (defScope s_is_strict) .none kV_is_strict dc_is_strict pm_is_strict an_is_strict cd_is_strict ct_is_strict), sl_is_strict⟩)
    (c_is_strict : PySem.W.codeIn K cd_is_strict "is_strict" = true)
    (k_is_strict : PySem.W.keepIn K (.ref f_is_strict) = true)
    {f_is_half : Addr} {od_is_half an_is_half : Option Addr} {sl_is_half : Array (Option Value)} {oc_is_half kV_is_half dc_is_half pm_is_half cd_is_half ct_is_half : Value}
    (a_is_half : PySem.W.nsIn K mainGlobals "is_half" = some (some (.ref f_is_half)))
    (l_is_half : K.lookup f_is_half = some ⟨oc_is_half, od_is_half, .func (PySem.W.fnOf "is_half" "is_half" (defArgs s_is_half) (defBody s_is_half) (defScope s_is_half) .none kV_is_half dc_is_half pm_is_half an_is_half cd_is_half ct_is_half), sl_is_half⟩)
    (c_is_half : PySem.W.codeIn K cd_is_half "is_half" = true)
    (k_is_half : PySem.W.keepIn K (.ref f_is_half) = true)
    {f_levels : Addr} {od_levels an_levels : Option Addr} {sl_levels : Array (Option Value)} {oc_levels kV_levels dc_levels pm_levels cd_levels ct_levels : Value}
    (a_levels : PySem.W.nsIn K mainGlobals "levels" = some (some (.ref f_levels)))
    (l_levels : K.lookup f_levels = some ⟨oc_levels, od_levels, .func (PySem.W.fnOf "levels" "levels" (defArgs s_levels) (defBody s_levels) (defScope s_levels) .none kV_levels dc_levels pm_levels an_levels cd_levels ct_levels), sl_levels⟩)
    (c_levels : PySem.W.codeIn K cd_levels "levels" = true)
    (k_levels : PySem.W.keepIn K (.ref f_levels) = true)
    {f_pushed : Addr} {od_pushed an_pushed : Option Addr} {sl_pushed : Array (Option Value)} {oc_pushed kV_pushed dc_pushed pm_pushed cd_pushed ct_pushed : Value}
    (a_pushed : PySem.W.nsIn K mainGlobals "pushed" = some (some (.ref f_pushed)))
    (l_pushed : K.lookup f_pushed = some ⟨oc_pushed, od_pushed, .func (PySem.W.fnOf "pushed" "pushed" (defArgs s_pushed) (defBody s_pushed) (defScope s_pushed) .none kV_pushed dc_pushed pm_pushed an_pushed cd_pushed ct_pushed), sl_pushed⟩)
    (c_pushed : PySem.W.codeIn K cd_pushed "pushed" = true)
    (k_pushed : PySem.W.keepIn K (.ref f_pushed) = true)
    {f__law_pool : Addr} {od__law_pool an__law_pool : Option Addr} {sl__law_pool : Array (Option Value)} {oc__law_pool kV__law_pool dc__law_pool pm__law_pool cd__law_pool ct__law_pool : Value}
    (a__law_pool : PySem.W.nsIn K mainGlobals "_law_pool" = some (some (.ref f__law_pool)))
    (l__law_pool : K.lookup f__law_pool = some ⟨oc__law_pool, od__law_pool, .func (PySem.W.fnOf "_law_pool" "_law_pool" (defArgs s__law_pool) (defBody s__law_pool) (defScope s__law_pool) .none kV__law_pool dc__law_pool pm__law_pool an__law_pool cd__law_pool ct__law_pool), sl__law_pool⟩)
    (c__law_pool : PySem.W.codeIn K cd__law_pool "_law_pool" = true)
    (k__law_pool : PySem.W.keepIn K (.ref f__law_pool) = true)
    {f__law_draw : Addr} {od__law_draw an__law_draw : Option Addr} {sl__law_draw : Array (Option Value)} {oc__law_draw kV__law_draw dc__law_draw pm__law_draw cd__law_draw ct__law_draw : Value}
    (a__law_draw : PySem.W.nsIn K mainGlobals "_law_draw" = some (some (.ref f__law_draw)))
    (l__law_draw : K.lookup f__law_draw = some ⟨oc__law_draw, od__law_draw, .func (PySem.W.fnOf "_law_draw" "_law_draw" (defArgs s__law_draw) (defBody s__law_draw) (defScope s__law_draw) .none kV__law_draw dc__law_draw pm__law_draw an__law_draw cd__law_draw ct__law_draw), sl__law_draw⟩)
    (c__law_draw : PySem.W.codeIn K cd__law_draw "_law_draw" = true)
    (k__law_draw : PySem.W.keepIn K (.ref f__law_draw) = true)
    {f__law_same : Addr} {od__law_same an__law_same : Option Addr} {sl__law_same : Array (Option Value)} {oc__law_same kV__law_same dc__law_same pm__law_same cd__law_same ct__law_same : Value}
    (a__law_same : PySem.W.nsIn K mainGlobals "_law_same" = some (some (.ref f__law_same)))
    (l__law_same : K.lookup f__law_same = some ⟨oc__law_same, od__law_same, .func (PySem.W.fnOf "_law_same" "_law_same" (defArgs s__law_same) (defBody s__law_same) (defScope s__law_same) .none kV__law_same dc__law_same pm__law_same an__law_same cd__law_same ct__law_same), sl__law_same⟩)
    (c__law_same : PySem.W.codeIn K cd__law_same "_law_same" = true)
    (k__law_same : PySem.W.keepIn K (.ref f__law_same) = true)
    {f__law_on : Addr} {od__law_on an__law_on : Option Addr} {sl__law_on : Array (Option Value)} {oc__law_on kV__law_on dc__law_on pm__law_on cd__law_on ct__law_on : Value}
    (a__law_on : PySem.W.nsIn K mainGlobals "_law_on" = some (some (.ref f__law_on)))
    (l__law_on : K.lookup f__law_on = some ⟨oc__law_on, od__law_on, .func (PySem.W.fnOf "_law_on" "_law_on" (defArgs s__law_on) (defBody s__law_on) (defScope s__law_on) .none kV__law_on dc__law_on pm__law_on an__law_on cd__law_on ct__law_on), sl__law_on⟩)
    (c__law_on : PySem.W.codeIn K cd__law_on "_law_on" = true)
    (k__law_on : PySem.W.keepIn K (.ref f__law_on) = true)
    {f__law_levels : Addr} {od__law_levels an__law_levels : Option Addr} {sl__law_levels : Array (Option Value)} {oc__law_levels kV__law_levels dc__law_levels pm__law_levels cd__law_levels ct__law_levels : Value}
    (a__law_levels : PySem.W.nsIn K mainGlobals "_law_levels" = some (some (.ref f__law_levels)))
    (l__law_levels : K.lookup f__law_levels = some ⟨oc__law_levels, od__law_levels, .func (PySem.W.fnOf "_law_levels" "_law_levels" (defArgs s__law_levels) (defBody s__law_levels) (defScope s__law_levels) .none kV__law_levels dc__law_levels pm__law_levels an__law_levels cd__law_levels ct__law_levels), sl__law_levels⟩)
    (c__law_levels : PySem.W.codeIn K cd__law_levels "_law_levels" = true)
    (k__law_levels : PySem.W.keepIn K (.ref f__law_levels) = true)
    {f__law_strict : Addr} {od__law_strict an__law_strict : Option Addr} {sl__law_strict : Array (Option Value)} {oc__law_strict kV__law_strict dc__law_strict pm__law_strict cd__law_strict ct__law_strict : Value}
    (a__law_strict : PySem.W.nsIn K mainGlobals "_law_strict" = some (some (.ref f__law_strict)))
    (l__law_strict : K.lookup f__law_strict = some ⟨oc__law_strict, od__law_strict, .func (PySem.W.fnOf "_law_strict" "_law_strict" (defArgs s__law_strict) (defBody s__law_strict) (defScope s__law_strict) .none kV__law_strict dc__law_strict pm__law_strict an__law_strict cd__law_strict ct__law_strict), sl__law_strict⟩)
    (c__law_strict : PySem.W.codeIn K cd__law_strict "_law_strict" = true)
    (k__law_strict : PySem.W.keepIn K (.ref f__law_strict) = true)
    {f__law_due : Addr} {od__law_due an__law_due : Option Addr} {sl__law_due : Array (Option Value)} {oc__law_due kV__law_due dc__law_due pm__law_due cd__law_due ct__law_due : Value}
    (a__law_due : PySem.W.nsIn K mainGlobals "_law_due" = some (some (.ref f__law_due)))
    (l__law_due : K.lookup f__law_due = some ⟨oc__law_due, od__law_due, .func (PySem.W.fnOf "_law_due" "_law_due" (defArgs s__law_due) (defBody s__law_due) (defScope s__law_due) .none kV__law_due dc__law_due pm__law_due an__law_due cd__law_due ct__law_due), sl__law_due⟩)
    (c__law_due : PySem.W.codeIn K cd__law_due "_law_due" = true)
    (k__law_due : PySem.W.keepIn K (.ref f__law_due) = true)
    {f__law_ask : Addr} {od__law_ask an__law_ask : Option Addr} {sl__law_ask : Array (Option Value)} {oc__law_ask kV__law_ask dc__law_ask pm__law_ask cd__law_ask ct__law_ask : Value}
    (a__law_ask : PySem.W.nsIn K mainGlobals "_law_ask" = some (some (.ref f__law_ask)))
    (l__law_ask : K.lookup f__law_ask = some ⟨oc__law_ask, od__law_ask, .func (PySem.W.fnOf "_law_ask" "_law_ask" (defArgs s__law_ask) (defBody s__law_ask) (defScope s__law_ask) .none kV__law_ask dc__law_ask pm__law_ask an__law_ask cd__law_ask ct__law_ask), sl__law_ask⟩)
    (c__law_ask : PySem.W.codeIn K cd__law_ask "_law_ask" = true)
    (k__law_ask : PySem.W.keepIn K (.ref f__law_ask) = true)
    {f__law_heap : Addr} {od__law_heap an__law_heap : Option Addr} {sl__law_heap : Array (Option Value)} {oc__law_heap kV__law_heap dc__law_heap pm__law_heap cd__law_heap ct__law_heap : Value}
    (a__law_heap : PySem.W.nsIn K mainGlobals "_law_heap" = some (some (.ref f__law_heap)))
    (l__law_heap : K.lookup f__law_heap = some ⟨oc__law_heap, od__law_heap, .func (PySem.W.fnOf "_law_heap" "_law_heap" (defArgs s__law_heap) (defBody s__law_heap) (defScope s__law_heap) .none kV__law_heap dc__law_heap pm__law_heap an__law_heap cd__law_heap ct__law_heap), sl__law_heap⟩)
    (c__law_heap : PySem.W.codeIn K cd__law_heap "_law_heap" = true)
    (k__law_heap : PySem.W.keepIn K (.ref f__law_heap) = true)
    {f__law_pyramid : Addr} {od__law_pyramid an__law_pyramid : Option Addr} {sl__law_pyramid : Array (Option Value)} {oc__law_pyramid kV__law_pyramid dc__law_pyramid pm__law_pyramid cd__law_pyramid ct__law_pyramid : Value}
    (a__law_pyramid : PySem.W.nsIn K mainGlobals "_law_pyramid" = some (some (.ref f__law_pyramid)))
    (l__law_pyramid : K.lookup f__law_pyramid = some ⟨oc__law_pyramid, od__law_pyramid, .func (PySem.W.fnOf "_law_pyramid" "_law_pyramid" (defArgs s__law_pyramid) (defBody s__law_pyramid) (defScope s__law_pyramid) .none kV__law_pyramid dc__law_pyramid pm__law_pyramid an__law_pyramid cd__law_pyramid ct__law_pyramid), sl__law_pyramid⟩)
    (c__law_pyramid : PySem.W.codeIn K cd__law_pyramid "_law_pyramid" = true)
    (k__law_pyramid : PySem.W.keepIn K (.ref f__law_pyramid) = true)
    {f__law_strict_one : Addr} {od__law_strict_one an__law_strict_one : Option Addr} {sl__law_strict_one : Array (Option Value)} {oc__law_strict_one kV__law_strict_one dc__law_strict_one pm__law_strict_one cd__law_strict_one ct__law_strict_one : Value}
    (a__law_strict_one : PySem.W.nsIn K mainGlobals "_law_strict_one" = some (some (.ref f__law_strict_one)))
    (l__law_strict_one : K.lookup f__law_strict_one = some ⟨oc__law_strict_one, od__law_strict_one, .func (PySem.W.fnOf "_law_strict_one" "_law_strict_one" (defArgs s__law_strict_one) (defBody s__law_strict_one) (defScope s__law_strict_one) .none kV__law_strict_one dc__law_strict_one pm__law_strict_one an__law_strict_one cd__law_strict_one ct__law_strict_one), sl__law_strict_one⟩)
    (c__law_strict_one : PySem.W.codeIn K cd__law_strict_one "_law_strict_one" = true)
    (k__law_strict_one : PySem.W.keepIn K (.ref f__law_strict_one) = true)
    {f__law_any : Addr} {od__law_any an__law_any : Option Addr} {sl__law_any : Array (Option Value)} {oc__law_any kV__law_any dc__law_any pm__law_any cd__law_any ct__law_any : Value}
    (a__law_any : PySem.W.nsIn K mainGlobals "_law_any" = some (some (.ref f__law_any)))
    (l__law_any : K.lookup f__law_any = some ⟨oc__law_any, od__law_any, .func (PySem.W.fnOf "_law_any" "_law_any" (defArgs s__law_any) (defBody s__law_any) (defScope s__law_any) .none kV__law_any dc__law_any pm__law_any an__law_any cd__law_any ct__law_any), sl__law_any⟩)
    (c__law_any : PySem.W.codeIn K cd__law_any "_law_any" = true)
    (k__law_any : PySem.W.keepIn K (.ref f__law_any) = true)
    {f__law_changed : Addr} {od__law_changed an__law_changed : Option Addr} {sl__law_changed : Array (Option Value)} {oc__law_changed kV__law_changed dc__law_changed pm__law_changed cd__law_changed ct__law_changed : Value}
    (a__law_changed : PySem.W.nsIn K mainGlobals "_law_changed" = some (some (.ref f__law_changed)))
    (l__law_changed : K.lookup f__law_changed = some ⟨oc__law_changed, od__law_changed, .func (PySem.W.fnOf "_law_changed" "_law_changed" (defArgs s__law_changed) (defBody s__law_changed) (defScope s__law_changed) .none kV__law_changed dc__law_changed pm__law_changed an__law_changed cd__law_changed ct__law_changed), sl__law_changed⟩)
    (c__law_changed : PySem.W.codeIn K cd__law_changed "_law_changed" = true)
    (k__law_changed : PySem.W.keepIn K (.ref f__law_changed) = true)
    {f__law_beyond : Addr} {od__law_beyond an__law_beyond : Option Addr} {sl__law_beyond : Array (Option Value)} {oc__law_beyond kV__law_beyond dc__law_beyond pm__law_beyond cd__law_beyond ct__law_beyond : Value}
    (a__law_beyond : PySem.W.nsIn K mainGlobals "_law_beyond" = some (some (.ref f__law_beyond)))
    (l__law_beyond : K.lookup f__law_beyond = some ⟨oc__law_beyond, od__law_beyond, .func (PySem.W.fnOf "_law_beyond" "_law_beyond" (defArgs s__law_beyond) (defBody s__law_beyond) (defScope s__law_beyond) .none kV__law_beyond dc__law_beyond pm__law_beyond an__law_beyond cd__law_beyond ct__law_beyond), sl__law_beyond⟩)
    (c__law_beyond : PySem.W.codeIn K cd__law_beyond "_law_beyond" = true)
    (k__law_beyond : PySem.W.keepIn K (.ref f__law_beyond) = true)
    {f_law : Addr} {od_law an_law : Option Addr} {sl_law : Array (Option Value)} {oc_law kV_law dc_law pm_law cd_law ct_law : Value}
    (a_law : PySem.W.nsIn K mainGlobals "law" = some (some (.ref f_law)))
    (l_law : K.lookup f_law = some ⟨oc_law, od_law, .func (PySem.W.fnOf "law" "law" (defArgs s_law) (defBody s_law) (defScope s_law) .none kV_law dc_law pm_law an_law cd_law ct_law), sl_law⟩)
    (c_law : PySem.W.codeIn K cd_law "law" = true)
    (k_law : PySem.W.keepIn K (.ref f_law) = true)
    (zx3 : PySem.W.specialIn K (.builtin "object.__class__") "__get__" = some (some (.builtin "getset_descriptor.__get__"))) (zx4 : PySem.W.takesIn K (.builtin "object.__class__") = some true)
    {C_NumberError N_NumberError I_NumberError : Addr} {nm_NumberError qn_NumberError : Str} {bs_NumberError bm_NumberError sub_NumberError : List Value} {sn_NumberError : List Str} {ab_NumberError : Bool} {col_NumberError : Option Bool} {dd_NumberError : Option Addr} {m0_NumberError m1_NumberError m2_NumberError m3_NumberError m5_NumberError : Option Value}
    {iod_NumberError ian_NumberError : Option Addr} {isl_NumberError : Array (Option Value)} {ioc_NumberError ikV_NumberError idc_NumberError ipm_NumberError icd_NumberError ict_NumberError : Value}
    (xa_NumberError : PySem.W.nsIn K mainGlobals "NumberError" = some (some (.ref C_NumberError)))
    (xL_NumberError : K.lookup C_NumberError = some (excClassObj nm_NumberError qn_NumberError C_NumberError N_NumberError bs_NumberError bm_NumberError true sn_NumberError sub_NumberError ab_NumberError col_NumberError dd_NumberError m0_NumberError m1_NumberError m2_NumberError m3_NumberError m5_NumberError "ValueError.__new__"))
    (xr_NumberError : PySem.HandSPX.refsVE bm_NumberError = true)
    (x1_NumberError : PySem.W.findIn K (.ref C_NumberError) "__setattr__" = some (some (.builtin "object.__setattr__")))
    (x2_NumberError : PySem.W.findIn K (.ref C_NumberError) "__getattribute__" = some (some (.builtin "BaseException.__getattribute__")))
    (x3_NumberError : PySem.W.findIn K (.ref C_NumberError) "__getattr__" = some none)
    (x4_NumberError : PySem.W.hasDictIn K C_NumberError = true)
    (x5_NumberError : PySem.W.keepIn K (.ref C_NumberError) = true)
    (x6_NumberError : PySem.W.findIn K (.ref C_NumberError) "__class__" = some (some (.builtin "object.__class__")))
    (x7_NumberError : PySem.W.mroIn K C_NumberError (.type "object") = some true)
    (x8_NumberError : PySem.W.findIn K (.ref C_NumberError) "__init__" = some (some (.ref I_NumberError)))
    (x9_NumberError : PySem.W.typeIn K (.ref I_NumberError) = some (.type "function"))
    (xl_NumberError : K.lookup I_NumberError = some ⟨ioc_NumberError, iod_NumberError, .func (PySem.W.fnOf "__init__" "NumberError.__init__" (defArgs i_NumberError) (defBody i_NumberError) (defScope i_NumberError) .none ikV_NumberError idc_NumberError ipm_NumberError ian_NumberError icd_NumberError ict_NumberError), isl_NumberError⟩)
    (xc_NumberError : PySem.W.codeIn K icd_NumberError "NumberError.__init__" = true)
    (xk_NumberError : PySem.W.keepIn K (.ref I_NumberError) = true)
    (xn_NumberError_number : PySem.W.findIn K (.ref C_NumberError) "number" = some none)
    {C_SizeError N_SizeError I_SizeError : Addr} {nm_SizeError qn_SizeError : Str} {bs_SizeError bm_SizeError sub_SizeError : List Value} {sn_SizeError : List Str} {ab_SizeError : Bool} {col_SizeError : Option Bool} {dd_SizeError : Option Addr} {m0_SizeError m1_SizeError m2_SizeError m3_SizeError m5_SizeError : Option Value}
    {iod_SizeError ian_SizeError : Option Addr} {isl_SizeError : Array (Option Value)} {ioc_SizeError ikV_SizeError idc_SizeError ipm_SizeError icd_SizeError ict_SizeError : Value}
    (xa_SizeError : PySem.W.nsIn K mainGlobals "SizeError" = some (some (.ref C_SizeError)))
    (xL_SizeError : K.lookup C_SizeError = some (excClassObj nm_SizeError qn_SizeError C_SizeError N_SizeError bs_SizeError bm_SizeError true sn_SizeError sub_SizeError ab_SizeError col_SizeError dd_SizeError m0_SizeError m1_SizeError m2_SizeError m3_SizeError m5_SizeError "ValueError.__new__"))
    (xr_SizeError : PySem.HandSPX.refsVE bm_SizeError = true)
    (x1_SizeError : PySem.W.findIn K (.ref C_SizeError) "__setattr__" = some (some (.builtin "object.__setattr__")))
    (x2_SizeError : PySem.W.findIn K (.ref C_SizeError) "__getattribute__" = some (some (.builtin "BaseException.__getattribute__")))
    (x3_SizeError : PySem.W.findIn K (.ref C_SizeError) "__getattr__" = some none)
    (x4_SizeError : PySem.W.hasDictIn K C_SizeError = true)
    (x5_SizeError : PySem.W.keepIn K (.ref C_SizeError) = true)
    (x6_SizeError : PySem.W.findIn K (.ref C_SizeError) "__class__" = some (some (.builtin "object.__class__")))
    (x7_SizeError : PySem.W.mroIn K C_SizeError (.type "object") = some true)
    (x8_SizeError : PySem.W.findIn K (.ref C_SizeError) "__init__" = some (some (.ref I_SizeError)))
    (x9_SizeError : PySem.W.typeIn K (.ref I_SizeError) = some (.type "function"))
    (xl_SizeError : K.lookup I_SizeError = some ⟨ioc_SizeError, iod_SizeError, .func (PySem.W.fnOf "__init__" "SizeError.__init__" (defArgs i_SizeError) (defBody i_SizeError) (defScope i_SizeError) .none ikV_SizeError idc_SizeError ipm_SizeError ian_SizeError icd_SizeError ict_SizeError), isl_SizeError⟩)
    (xc_SizeError : PySem.W.codeIn K icd_SizeError "SizeError.__init__" = true)
    (xk_SizeError : PySem.W.keepIn K (.ref I_SizeError) = true)
    (xn_SizeError_count : PySem.W.findIn K (.ref C_SizeError) "count" = some none)
    {C_WordError N_WordError I_WordError : Addr} {nm_WordError qn_WordError : Str} {bs_WordError bm_WordError sub_WordError : List Value} {sn_WordError : List Str} {ab_WordError : Bool} {col_WordError : Option Bool} {dd_WordError : Option Addr} {m0_WordError m1_WordError m2_WordError m3_WordError m5_WordError : Option Value}
    {iod_WordError ian_WordError : Option Addr} {isl_WordError : Array (Option Value)} {ioc_WordError ikV_WordError idc_WordError ipm_WordError icd_WordError ict_WordError : Value}
    (xa_WordError : PySem.W.nsIn K mainGlobals "WordError" = some (some (.ref C_WordError)))
    (xL_WordError : K.lookup C_WordError = some (excClassObj nm_WordError qn_WordError C_WordError N_WordError bs_WordError bm_WordError true sn_WordError sub_WordError ab_WordError col_WordError dd_WordError m0_WordError m1_WordError m2_WordError m3_WordError m5_WordError "ValueError.__new__"))
    (xr_WordError : PySem.HandSPX.refsVE bm_WordError = true)
    (x1_WordError : PySem.W.findIn K (.ref C_WordError) "__setattr__" = some (some (.builtin "object.__setattr__")))
    (x2_WordError : PySem.W.findIn K (.ref C_WordError) "__getattribute__" = some (some (.builtin "BaseException.__getattribute__")))
    (x3_WordError : PySem.W.findIn K (.ref C_WordError) "__getattr__" = some none)
    (x4_WordError : PySem.W.hasDictIn K C_WordError = true)
    (x5_WordError : PySem.W.keepIn K (.ref C_WordError) = true)
    (x6_WordError : PySem.W.findIn K (.ref C_WordError) "__class__" = some (some (.builtin "object.__class__")))
    (x7_WordError : PySem.W.mroIn K C_WordError (.type "object") = some true)
    (x8_WordError : PySem.W.findIn K (.ref C_WordError) "__init__" = some (some (.ref I_WordError)))
    (x9_WordError : PySem.W.typeIn K (.ref I_WordError) = some (.type "function"))
    (xl_WordError : K.lookup I_WordError = some ⟨ioc_WordError, iod_WordError, .func (PySem.W.fnOf "__init__" "WordError.__init__" (defArgs i_WordError) (defBody i_WordError) (defScope i_WordError) .none ikV_WordError idc_WordError ipm_WordError ian_WordError icd_WordError ict_WordError), isl_WordError⟩)
    (xc_WordError : PySem.W.codeIn K icd_WordError "WordError.__init__" = true)
    (xk_WordError : PySem.W.keepIn K (.ref I_WordError) = true)
    (xn_WordError_at : PySem.W.findIn K (.ref C_WordError) "at" = some none)
    {C_RootError N_RootError I_RootError : Addr} {nm_RootError qn_RootError : Str} {bs_RootError bm_RootError sub_RootError : List Value} {sn_RootError : List Str} {ab_RootError : Bool} {col_RootError : Option Bool} {dd_RootError : Option Addr} {m0_RootError m1_RootError m2_RootError m3_RootError m5_RootError : Option Value}
    {iod_RootError ian_RootError : Option Addr} {isl_RootError : Array (Option Value)} {ioc_RootError ikV_RootError idc_RootError ipm_RootError icd_RootError ict_RootError : Value}
    (xa_RootError : PySem.W.nsIn K mainGlobals "RootError" = some (some (.ref C_RootError)))
    (xL_RootError : K.lookup C_RootError = some (excClassObj nm_RootError qn_RootError C_RootError N_RootError bs_RootError bm_RootError true sn_RootError sub_RootError ab_RootError col_RootError dd_RootError m0_RootError m1_RootError m2_RootError m3_RootError m5_RootError "ValueError.__new__"))
    (xr_RootError : PySem.HandSPX.refsVE bm_RootError = true)
    (x1_RootError : PySem.W.findIn K (.ref C_RootError) "__setattr__" = some (some (.builtin "object.__setattr__")))
    (x2_RootError : PySem.W.findIn K (.ref C_RootError) "__getattribute__" = some (some (.builtin "BaseException.__getattribute__")))
    (x3_RootError : PySem.W.findIn K (.ref C_RootError) "__getattr__" = some none)
    (x4_RootError : PySem.W.hasDictIn K C_RootError = true)
    (x5_RootError : PySem.W.keepIn K (.ref C_RootError) = true)
    (x6_RootError : PySem.W.findIn K (.ref C_RootError) "__class__" = some (some (.builtin "object.__class__")))
    (x7_RootError : PySem.W.mroIn K C_RootError (.type "object") = some true)
    (x8_RootError : PySem.W.findIn K (.ref C_RootError) "__init__" = some (some (.ref I_RootError)))
    (x9_RootError : PySem.W.typeIn K (.ref I_RootError) = some (.type "function"))
    (xl_RootError : K.lookup I_RootError = some ⟨ioc_RootError, iod_RootError, .func (PySem.W.fnOf "__init__" "RootError.__init__" (defArgs i_RootError) (defBody i_RootError) (defScope i_RootError) .none ikV_RootError idc_RootError ipm_RootError ian_RootError icd_RootError ict_RootError), isl_RootError⟩)
    (xc_RootError : PySem.W.codeIn K icd_RootError "RootError.__init__" = true)
    (xk_RootError : PySem.W.keepIn K (.ref I_RootError) = true)
    (xn_RootError_x : PySem.W.findIn K (.ref C_RootError) "x" = some none)
    (xn_RootError_y : PySem.W.findIn K (.ref C_RootError) "y" = some none)
    {C_RimmachinesError : Addr}
    (xa_RimmachinesError : PySem.W.nsIn K mainGlobals "RimmachinesError" = some (some (.ref C_RimmachinesError)))
    (y1_NumberError : PySem.W.subIn K (.ref C_NumberError) (.type "BaseException") = some true)
    (y2_NumberError : PySem.W.isClsIn K C_NumberError = true)
    (y3_NumberError : PySem.W.typeIn K (.ref C_NumberError) = some (.type "type"))
    (y4_NumberError : PySem.W.subIn K (.ref C_NumberError) (.ref C_NumberError) = some true)
    (y1_SizeError : PySem.W.subIn K (.ref C_SizeError) (.type "BaseException") = some true)
    (y2_SizeError : PySem.W.isClsIn K C_SizeError = true)
    (y3_SizeError : PySem.W.typeIn K (.ref C_SizeError) = some (.type "type"))
    (y4_SizeError : PySem.W.subIn K (.ref C_SizeError) (.ref C_SizeError) = some true)
    (y1_WordError : PySem.W.subIn K (.ref C_WordError) (.type "BaseException") = some true)
    (y2_WordError : PySem.W.isClsIn K C_WordError = true)
    (y3_WordError : PySem.W.typeIn K (.ref C_WordError) = some (.type "type"))
    (y4_WordError : PySem.W.subIn K (.ref C_WordError) (.ref C_WordError) = some true)
    (y1_RootError : PySem.W.subIn K (.ref C_RootError) (.type "BaseException") = some true)
    (y2_RootError : PySem.W.isClsIn K C_RootError = true)
    (y3_RootError : PySem.W.typeIn K (.ref C_RootError) = some (.type "type"))
    (y4_RootError : PySem.W.subIn K (.ref C_RootError) (.ref C_RootError) = some true)
    (y1_RimmachinesError : PySem.W.subIn K (.ref C_RimmachinesError) (.type "BaseException") = some true)
    (y2_RimmachinesError : PySem.W.isClsIn K C_RimmachinesError = true)
    (y3_RimmachinesError : PySem.W.typeIn K (.ref C_RimmachinesError) = some (.type "type"))
    (y4_RimmachinesError : PySem.W.subIn K (.ref C_RimmachinesError) (.ref C_RimmachinesError) = some true)
    (s_NumberError_RootError : PySem.W.subIn K (.ref C_NumberError) (.ref C_RootError) = some false)
    (s_NumberError_NumberError : PySem.W.subIn K (.ref C_NumberError) (.ref C_NumberError) = some true)
    (s_NumberError_SizeError : PySem.W.subIn K (.ref C_NumberError) (.ref C_SizeError) = some false)
    (s_NumberError_RimmachinesError : PySem.W.subIn K (.ref C_NumberError) (.ref C_RimmachinesError) = some true)
    (s_NumberError_WordError : PySem.W.subIn K (.ref C_NumberError) (.ref C_WordError) = some false)
    (s_SizeError_RootError : PySem.W.subIn K (.ref C_SizeError) (.ref C_RootError) = some false)
    (s_SizeError_NumberError : PySem.W.subIn K (.ref C_SizeError) (.ref C_NumberError) = some false)
    (s_SizeError_SizeError : PySem.W.subIn K (.ref C_SizeError) (.ref C_SizeError) = some true)
    (s_SizeError_RimmachinesError : PySem.W.subIn K (.ref C_SizeError) (.ref C_RimmachinesError) = some true)
    (s_SizeError_WordError : PySem.W.subIn K (.ref C_SizeError) (.ref C_WordError) = some false)
    (s_WordError_RootError : PySem.W.subIn K (.ref C_WordError) (.ref C_RootError) = some false)
    (s_WordError_NumberError : PySem.W.subIn K (.ref C_WordError) (.ref C_NumberError) = some false)
    (s_WordError_SizeError : PySem.W.subIn K (.ref C_WordError) (.ref C_SizeError) = some false)
    (s_WordError_RimmachinesError : PySem.W.subIn K (.ref C_WordError) (.ref C_RimmachinesError) = some true)
    (s_WordError_WordError : PySem.W.subIn K (.ref C_WordError) (.ref C_WordError) = some true)
    (s_RootError_RootError : PySem.W.subIn K (.ref C_RootError) (.ref C_RootError) = some true)
    (s_RootError_NumberError : PySem.W.subIn K (.ref C_RootError) (.ref C_NumberError) = some false)
    (s_RootError_SizeError : PySem.W.subIn K (.ref C_RootError) (.ref C_SizeError) = some false)
    (s_RootError_RimmachinesError : PySem.W.subIn K (.ref C_RootError) (.ref C_RimmachinesError) = some true)
    (s_RootError_WordError : PySem.W.subIn K (.ref C_RootError) (.ref C_WordError) = some false)
    (z_abs : PySem.W.nsIn K mainGlobals "abs" = some none)
    (z_enumerate : PySem.W.nsIn K mainGlobals "enumerate" = some none)
    (z_int : PySem.W.nsIn K mainGlobals "int" = some none)
    (z_isinstance : PySem.W.nsIn K mainGlobals "isinstance" = some none)
    (z_len : PySem.W.nsIn K mainGlobals "len" = some none)
    (z_list : PySem.W.nsIn K mainGlobals "list" = some none)
    (z_max : PySem.W.nsIn K mainGlobals "max" = some none)
    (z_min : PySem.W.nsIn K mainGlobals "min" = some none)
    (z_range : PySem.W.nsIn K mainGlobals "range" = some none)
    (z_repr : PySem.W.nsIn K mainGlobals "repr" = some none)
    (z_tuple : PySem.W.nsIn K mainGlobals "tuple" = some none)
    (z_zip : PySem.W.nsIn K mainGlobals "zip" = some none)
    {t_MOST : Tok}
    (v_MOST : PySem.W.nsIn K mainGlobals "MOST" = some (some (.int 60 t_MOST))) :
    ∃ fd : FuncData, (∀ (s : Shared) (u : Value), BindsTo s fd ⟨[u], []⟩ [("script", u)]) ∧ ∀ base : Heap, K.In base → base.Ns mainGlobals mg → RunC P w K mg base fa fd "script" (spOf K mg 1 wp_law) := by
  have e := hfa.symm.trans (PySem.W.mg_of X G a_law)
  cases e
  have ex_NumberError : ExK K C_NumberError := ⟨⟨⟨nm_NumberError, qn_NumberError, N_NumberError, bs_NumberError, bm_NumberError, sn_NumberError, sub_NumberError, ab_NumberError, col_NumberError, dd_NumberError, m0_NumberError, m1_NumberError, m2_NumberError, m3_NumberError, m5_NumberError, xL_NumberError, xr_NumberError⟩, x1_NumberError, y1_NumberError, y3_NumberError, x5_NumberError⟩, ⟨x2_NumberError, x3_NumberError, y1_NumberError, x4_NumberError⟩, x6_NumberError, zx3, zx4, x7_NumberError⟩
  have ex_SizeError : ExK K C_SizeError := ⟨⟨⟨nm_SizeError, qn_SizeError, N_SizeError, bs_SizeError, bm_SizeError, sn_SizeError, sub_SizeError, ab_SizeError, col_SizeError, dd_SizeError, m0_SizeError, m1_SizeError, m2_SizeError, m3_SizeError, m5_SizeError, xL_SizeError, xr_SizeError⟩, x1_SizeError, y1_SizeError, y3_SizeError, x5_SizeError⟩, ⟨x2_SizeError, x3_SizeError, y1_SizeError, x4_SizeError⟩, x6_SizeError, zx3, zx4, x7_SizeError⟩
  have ex_WordError : ExK K C_WordError := ⟨⟨⟨nm_WordError, qn_WordError, N_WordError, bs_WordError, bm_WordError, sn_WordError, sub_WordError, ab_WordError, col_WordError, dd_WordError, m0_WordError, m1_WordError, m2_WordError, m3_WordError, m5_WordError, xL_WordError, xr_WordError⟩, x1_WordError, y1_WordError, y3_WordError, x5_WordError⟩, ⟨x2_WordError, x3_WordError, y1_WordError, x4_WordError⟩, x6_WordError, zx3, zx4, x7_WordError⟩
  have ex_RootError : ExK K C_RootError := ⟨⟨⟨nm_RootError, qn_RootError, N_RootError, bs_RootError, bm_RootError, sn_RootError, sub_RootError, ab_RootError, col_RootError, dd_RootError, m0_RootError, m1_RootError, m2_RootError, m3_RootError, m5_RootError, xL_RootError, xr_RootError⟩, x1_RootError, y1_RootError, y3_RootError, x5_RootError⟩, ⟨x2_RootError, x3_RootError, y1_RootError, x4_RootError⟩, x6_RootError, zx3, zx4, x7_RootError⟩
  have ck_NumberError : ClsOk K C_NumberError := ⟨y1_NumberError, y2_NumberError, y3_NumberError, y4_NumberError⟩
  have ck_SizeError : ClsOk K C_SizeError := ⟨y1_SizeError, y2_SizeError, y3_SizeError, y4_SizeError⟩
  have ck_WordError : ClsOk K C_WordError := ⟨y1_WordError, y2_WordError, y3_WordError, y4_WordError⟩
  have ck_RootError : ClsOk K C_RootError := ⟨y1_RootError, y2_RootError, y3_RootError, y4_RootError⟩
  have ck_RimmachinesError : ClsOk K C_RimmachinesError := ⟨y1_RimmachinesError, y2_RimmachinesError, y3_RimmachinesError, y4_RimmachinesError⟩
  have sb : SubOk K mg subL := (sub_cons (PySem.W.mg_of X G xa_NumberError) (PySem.W.mg_of X G xa_RootError) ck_RootError s_NumberError_RootError (sub_cons (PySem.W.mg_of X G xa_NumberError) (PySem.W.mg_of X G xa_NumberError) ck_NumberError s_NumberError_NumberError (sub_cons (PySem.W.mg_of X G xa_NumberError) (PySem.W.mg_of X G xa_SizeError) ck_SizeError s_NumberError_SizeError (sub_cons (PySem.W.mg_of X G xa_NumberError) (PySem.W.mg_of X G xa_RimmachinesError) ck_RimmachinesError s_NumberError_RimmachinesError (sub_cons (PySem.W.mg_of X G xa_NumberError) (PySem.W.mg_of X G xa_WordError) ck_WordError s_NumberError_WordError (sub_cons (PySem.W.mg_of X G xa_SizeError) (PySem.W.mg_of X G xa_RootError) ck_RootError s_SizeError_RootError (sub_cons (PySem.W.mg_of X G xa_SizeError) (PySem.W.mg_of X G xa_NumberError) ck_NumberError s_SizeError_NumberError (sub_cons (PySem.W.mg_of X G xa_SizeError) (PySem.W.mg_of X G xa_SizeError) ck_SizeError s_SizeError_SizeError (sub_cons (PySem.W.mg_of X G xa_SizeError) (PySem.W.mg_of X G xa_RimmachinesError) ck_RimmachinesError s_SizeError_RimmachinesError (sub_cons (PySem.W.mg_of X G xa_SizeError) (PySem.W.mg_of X G xa_WordError) ck_WordError s_SizeError_WordError (sub_cons (PySem.W.mg_of X G xa_WordError) (PySem.W.mg_of X G xa_RootError) ck_RootError s_WordError_RootError (sub_cons (PySem.W.mg_of X G xa_WordError) (PySem.W.mg_of X G xa_NumberError) ck_NumberError s_WordError_NumberError (sub_cons (PySem.W.mg_of X G xa_WordError) (PySem.W.mg_of X G xa_SizeError) ck_SizeError s_WordError_SizeError (sub_cons (PySem.W.mg_of X G xa_WordError) (PySem.W.mg_of X G xa_RimmachinesError) ck_RimmachinesError s_WordError_RimmachinesError (sub_cons (PySem.W.mg_of X G xa_WordError) (PySem.W.mg_of X G xa_WordError) ck_WordError s_WordError_WordError (sub_cons (PySem.W.mg_of X G xa_RootError) (PySem.W.mg_of X G xa_RootError) ck_RootError s_RootError_RootError (sub_cons (PySem.W.mg_of X G xa_RootError) (PySem.W.mg_of X G xa_NumberError) ck_NumberError s_RootError_NumberError (sub_cons (PySem.W.mg_of X G xa_RootError) (PySem.W.mg_of X G xa_SizeError) ck_SizeError s_RootError_SizeError (sub_cons (PySem.W.mg_of X G xa_RootError) (PySem.W.mg_of X G xa_RimmachinesError) ck_RimmachinesError s_RootError_RimmachinesError (sub_cons (PySem.W.mg_of X G xa_RootError) (PySem.W.mg_of X G xa_WordError) ck_WordError s_RootError_WordError sub_nil))))))))))))))))))))
  have hE : ∀ C, C ∈ (["NumberError", "SizeError", "WordError", "RootError"] : List Str) → ∃ A, mg C = some (.ref A) ∧ ExK K A := by
    intro C hC
    simp only [List.mem_cons, List.not_mem_nil, or_false] at hC
    rcases hC with rfl | rfl | rfl | rfl
    · exact ⟨_, PySem.W.mg_of X G xa_NumberError, ex_NumberError⟩
    · exact ⟨_, PySem.W.mg_of X G xa_SizeError, ex_SizeError⟩
    · exact ⟨_, PySem.W.mg_of X G xa_WordError, ex_WordError⟩
    · exact ⟨_, PySem.W.mg_of X G xa_RootError, ex_RootError⟩
  exact ⟨_, fun s u => .of_eq rfl, fun base _ _ => (ok_law (P := P) (w := w) (base := base) (show Txt K mg from {
    a_check_number := _, d_check_number := _, F_check_number := fun_mk (st := s_check_number) l_check_number c_check_number k_check_number, g_check_number := PySem.W.mg_of X G a_check_number,
    a_check_size := _, d_check_size := _, F_check_size := fun_mk (st := s_check_size) l_check_size c_check_size k_check_size, g_check_size := PySem.W.mg_of X G a_check_size,
    a_check_places := _, d_check_places := _, F_check_places := fun_mk (st := s_check_places) l_check_places c_check_places k_check_places, g_check_places := PySem.W.mg_of X G a_check_places,
    a_lying_on := _, d_lying_on := _, F_lying_on := fun_mk (st := s_lying_on) l_lying_on c_lying_on k_lying_on, g_lying_on := PySem.W.mg_of X G a_lying_on,
    a_first_astray := _, d_first_astray := _, F_first_astray := fun_mk (st := s_first_astray) l_first_astray c_first_astray k_first_astray, g_first_astray := PySem.W.mg_of X G a_first_astray,
    a_drop := _, d_drop := _, F_drop := fun_mk (st := s_drop) l_drop c_drop k_drop, g_drop := PySem.W.mg_of X G a_drop,
    a_split_at := _, d_split_at := _, F_split_at := fun_mk (st := s_split_at) l_split_at c_split_at k_split_at, g_split_at := PySem.W.mg_of X G a_split_at,
    a_is_pyramid := _, d_is_pyramid := _, F_is_pyramid := fun_mk (st := s_is_pyramid) l_is_pyramid c_is_pyramid k_is_pyramid, g_is_pyramid := PySem.W.mg_of X G a_is_pyramid,
    a_is_strict := _, d_is_strict := _, F_is_strict := fun_mk (st := s_is_strict) l_is_strict c_is_strict k_is_strict, g_is_strict := PySem.W.mg_of X G a_is_strict,
    a_is_half := _, d_is_half := _, F_is_half := fun_mk (st := s_is_half) l_is_half c_is_half k_is_half, g_is_half := PySem.W.mg_of X G a_is_half,
    a_levels := _, d_levels := _, F_levels := fun_mk (st := s_levels) l_levels c_levels k_levels, g_levels := PySem.W.mg_of X G a_levels,
    a_pushed := _, d_pushed := _, F_pushed := fun_mk (st := s_pushed) l_pushed c_pushed k_pushed, g_pushed := PySem.W.mg_of X G a_pushed,
    a__law_pool := _, d__law_pool := _, F__law_pool := fun_mk (st := s__law_pool) l__law_pool c__law_pool k__law_pool, g__law_pool := PySem.W.mg_of X G a__law_pool,
    a__law_draw := _, d__law_draw := _, F__law_draw := fun_mk (st := s__law_draw) l__law_draw c__law_draw k__law_draw, g__law_draw := PySem.W.mg_of X G a__law_draw,
    a__law_same := _, d__law_same := _, F__law_same := fun_mk (st := s__law_same) l__law_same c__law_same k__law_same, g__law_same := PySem.W.mg_of X G a__law_same,
    a__law_on := _, d__law_on := _, F__law_on := fun_mk (st := s__law_on) l__law_on c__law_on k__law_on, g__law_on := PySem.W.mg_of X G a__law_on,
    a__law_levels := _, d__law_levels := _, F__law_levels := fun_mk (st := s__law_levels) l__law_levels c__law_levels k__law_levels, g__law_levels := PySem.W.mg_of X G a__law_levels,
    a__law_strict := _, d__law_strict := _, F__law_strict := fun_mk (st := s__law_strict) l__law_strict c__law_strict k__law_strict, g__law_strict := PySem.W.mg_of X G a__law_strict,
    a__law_due := _, d__law_due := _, F__law_due := fun_mk (st := s__law_due) l__law_due c__law_due k__law_due, g__law_due := PySem.W.mg_of X G a__law_due,
    a__law_ask := _, d__law_ask := _, F__law_ask := fun_mk (st := s__law_ask) l__law_ask c__law_ask k__law_ask, g__law_ask := PySem.W.mg_of X G a__law_ask,
    a__law_heap := _, d__law_heap := _, F__law_heap := fun_mk (st := s__law_heap) l__law_heap c__law_heap k__law_heap, g__law_heap := PySem.W.mg_of X G a__law_heap,
    a__law_pyramid := _, d__law_pyramid := _, F__law_pyramid := fun_mk (st := s__law_pyramid) l__law_pyramid c__law_pyramid k__law_pyramid, g__law_pyramid := PySem.W.mg_of X G a__law_pyramid,
    a__law_strict_one := _, d__law_strict_one := _, F__law_strict_one := fun_mk (st := s__law_strict_one) l__law_strict_one c__law_strict_one k__law_strict_one, g__law_strict_one := PySem.W.mg_of X G a__law_strict_one,
    a__law_any := _, d__law_any := _, F__law_any := fun_mk (st := s__law_any) l__law_any c__law_any k__law_any, g__law_any := PySem.W.mg_of X G a__law_any,
    a__law_changed := _, d__law_changed := _, F__law_changed := fun_mk (st := s__law_changed) l__law_changed c__law_changed k__law_changed, g__law_changed := PySem.W.mg_of X G a__law_changed,
    a__law_beyond := _, d__law_beyond := _, F__law_beyond := fun_mk (st := s__law_beyond) l__law_beyond c__law_beyond k__law_beyond, g__law_beyond := PySem.W.mg_of X G a__law_beyond,
    a_law := _, d_law := _, F_law := fun_mk (st := s_law) l_law c_law k_law, g_law := PySem.W.mg_of X G a_law,
    n_abs := PySem.W.mg_none_of X G z_abs,
    n_enumerate := PySem.W.mg_none_of X G z_enumerate,
    n_int := PySem.W.mg_none_of X G z_int,
    n_isinstance := PySem.W.mg_none_of X G z_isinstance,
    n_len := PySem.W.mg_none_of X G z_len,
    n_list := PySem.W.mg_none_of X G z_list,
    n_max := PySem.W.mg_none_of X G z_max,
    n_min := PySem.W.mg_none_of X G z_min,
    n_range := PySem.W.mg_none_of X G z_range,
    n_repr := PySem.W.mg_none_of X G z_repr,
    n_tuple := PySem.W.mg_none_of X G z_tuple,
    n_zip := PySem.W.mg_none_of X G z_zip,
    t_MOST := t_MOST, g_MOST := PySem.W.mg_of X G v_MOST,
    c_NumberError := C_NumberError, f_NumberError := I_NumberError, e_NumberError := _, gc_NumberError := PySem.W.mg_of X G xa_NumberError, ex_NumberError := ex_NumberError, Fi_NumberError := fun_mk (st := i_NumberError) xl_NumberError xc_NumberError xk_NumberError, ii_NumberError := x8_NumberError, ti_NumberError := x9_NumberError,
    no_NumberError_number := xn_NumberError_number,
    c_SizeError := C_SizeError, f_SizeError := I_SizeError, e_SizeError := _, gc_SizeError := PySem.W.mg_of X G xa_SizeError, ex_SizeError := ex_SizeError, Fi_SizeError := fun_mk (st := i_SizeError) xl_SizeError xc_SizeError xk_SizeError, ii_SizeError := x8_SizeError, ti_SizeError := x9_SizeError,
    no_SizeError_count := xn_SizeError_count,
    c_WordError := C_WordError, f_WordError := I_WordError, e_WordError := _, gc_WordError := PySem.W.mg_of X G xa_WordError, ex_WordError := ex_WordError, Fi_WordError := fun_mk (st := i_WordError) xl_WordError xc_WordError xk_WordError, ii_WordError := x8_WordError, ti_WordError := x9_WordError,
    no_WordError_at := xn_WordError_at,
    c_RootError := C_RootError, f_RootError := I_RootError, e_RootError := _, gc_RootError := PySem.W.mg_of X G xa_RootError, ex_RootError := ex_RootError, Fi_RootError := fun_mk (st := i_RootError) xl_RootError xc_RootError xk_RootError, ii_RootError := x8_RootError, ti_RootError := x9_RootError,
    no_RootError_x := xn_RootError_x,
    no_RootError_y := xn_RootError_y,
    c_RimmachinesError := C_RimmachinesError, gc_RimmachinesError := PySem.W.mg_of X G xa_RimmachinesError,
    tab := sb.tab, kit := sb.kit hE })).runC ⟨rfl, by decide, by decide⟩⟩
end K42
local macro_rules | `(tactic| walk_at "dl") => `(tactic| (repeat (first | with_reducible refine DL.ev_seq ?_ | with_reducible refine DL.ev_ret ?_ | ((with_reducible apply DL.ev_var); exact rfl) | with_reducible refine DL.ev_next ?_ | with_reducible refine DL.ev_asg ?_ | with_reducible refine DL.ev_fn ?_ | with_reducible refine DL.ev_ifS ?_ | with_reducible refine DL.ev_drop ?_ | with_reducible refine DL.ev_op ?_ | with_reducible refine DL.ev_gName ?_ | with_reducible refine DL.ev_c ?_ | with_reducible refine DL.ev_cb ?_ | with_reducible refine DL.ev_cons ?_ | with_reducible refine DL.ev_nil ?_ | with_reducible refine DL.ev_cint ?_ | with_reducible refine DL.ev_tst ?_ | with_reducible refine DL.ev_bl ?_ | with_reducible refine DL.ev_eq ?_ | with_reducible refine DL.ev_lt ?_ | with_reducible refine DL.ev_le ?_ | with_reducible refine DL.ev_gt ?_ | with_reducible refine DL.ev_ge ?_ | with_reducible refine DL.ev_ne ?_ | with_reducible refine DL.ev_add ?_ | with_reducible refine DL.ev_sub ?_ | with_reducible refine DL.ev_plusI ?_ | with_reducible refine DL.ev_plusMI ?_ | with_reducible refine DL.ev_eqS ?_ | with_reducible refine DL.ev_neS ?_ | with_reducible refine DL.ev_for ?_ | with_reducible refine DL.ev_diL ?_ | with_reducible refine DL.ev_dr1 ?_ | with_reducible refine DL.ev_dr2 ?_ | with_reducible refine DL.ev_diE ?_ | with_reducible refine DL.ev_diZ ?_ | with_reducible refine DL.ev_diT ?_ | with_reducible refine DL.ev_diS ?_ | with_reducible refine DL.ev_bm ?_ | with_reducible refine DL.ev_bm0 ?_ | with_reducible refine DL.ev_if ?_ | with_reducible refine DL.ev_andV ?_ | with_reducible refine DL.ev_orV ?_ | with_reducible refine DL.ev_notV ?_ | with_reducible refine DL.ev_neg ?_ | with_reducible refine DL.ev_chain ?_ | with_reducible refine DL.ev_lst ?_ | with_reducible refine DL.ev_lstM ?_ | with_reducible refine DL.ev_tup ?_ | with_reducible refine DL.ev_frz ?_ | with_reducible refine DL.ev_slice ?_ | with_reducible refine DL.ev_noPart ?_ | with_reducible refine DL.ev_part ?_ | with_reducible refine DL.ev_int ?_ | with_reducible refine DL.ev_tru ?_ | with_reducible refine DL.ev_and ?_ | with_reducible refine DL.ev_or ?_ | with_reducible refine DL.ev_not ?_ | with_reducible refine DL.ev_yes ?_ | with_reducible refine DL.ev_yesI ?_ | with_reducible refine DL.ev_noI ?_ | with_reducible refine DL.ev_nyI ?_ | with_reducible refine DL.ev_nnI ?_ | with_reducible refine DL.ev_TI ?_ | with_reducible refine DL.ev_FI ?_ | with_reducible refine DL.ev_call ?_ | with_reducible refine DL.ev_callP ?_ | with_reducible refine DL.ev_callM ?_ | with_reducible refine DL.ev_abs ?_ | with_reducible refine DL.ev_cintB ?_ | with_reducible refine DL.ev_max2 ?_ | with_reducible refine DL.ev_min2 ?_ | with_reducible refine DL.ev_retN ?_ | with_reducible refine DL.ev_break ?_ | with_reducible refine DL.ev_cont ?_ | with_reducible refine DL.ev_setL ?_ | with_reducible refine DL.ev_putD ?_ | with_reducible refine DL.ev_gCons ?_ | with_reducible refine DL.ev_gNil ?_ | with_reducible refine DL.ev_lc ?_ | with_reducible refine DL.ev_lcM ?_ | with_reducible refine DL.ev_raise ?_ | with_reducible refine DL.ev_try ?_ | with_reducible refine DL.ev_xf ?_ | with_reducible refine DL.ev_get2 ?_ | with_reducible refine DL.ev_isNN ?_ | with_reducible refine DL.ev_notNN ?_ | with_reducible refine DL.ev_isNI ?_ | with_reducible refine DL.ev_isNL ?_ | with_reducible refine DL.ev_isNT ?_ | with_reducible refine DL.ev_isNR ?_ | with_reducible refine DL.ev_isNB ?_ | with_reducible refine DL.ev_isNS ?_ | with_reducible refine DL.ev_notNI ?_ | with_reducible refine DL.ev_notNL ?_ | with_reducible refine DL.ev_notNT ?_ | with_reducible refine DL.ev_notNR ?_ | with_reducible refine DL.ev_notNB ?_ | with_reducible refine DL.ev_notNS ?_ | ((with_reducible apply DL.ev_aug); exact rfl) | ((with_reducible apply DL.ev_argc); exact rfl) | ((with_reducible apply DL.ev_gTup); exact rfl; exact rfl) | ((with_reducible apply DL.ev_truth); exact rfl) | with_reducible refine DL.ev_few (by first | exact Nat.le_of_ble_eq_true rfl | assumption) ?_ | ((with_reducible apply DL.ev_len); exact rfl) | ((with_reducible apply DL.ev_some); exact rfl) | ((with_reducible apply DL.ev_diER); exact rfl) | ((with_reducible apply DL.ev_diZR); exact rfl; exact rfl) | dsimp only [List.set, DL.Ed.x])))
namespace K42
open PySem PySem.Spec PyProof.Rows L2 DL
/-! what the functions compute -/
theorem check_number_wp {n lo hi : Int} {m : Sr} {P : Pv} {Ξ : Xv} (h1 : lo ≤ n → n ≤ hi → P .non m) (h2 : (n < lo ∨ hi < n) → Ξ "NumberError" [("number", .int n)] m) : wp_check_number [.int n, .int lo, .int hi] m P Ξ := by
  unfold wp_check_number
  walk_at "dl"
  apply ev_ite <;> intro a1
  · walk_at "dl"
    exact h2 (.inl a1)
  walk_at "dl"
  apply ev_ite <;> intro a2
  · walk_at "dl"
    exact h2 (.inr a2)
  walk_at "dl"
  exact h1 (by omega) (by omega)
theorem check_size_wp {n lo hi : Int} {m : Sr} {P : Pv} {Ξ : Xv} (h1 : lo ≤ n → n ≤ hi → P .non m) (h2 : (n < lo ∨ hi < n) → Ξ "SizeError" [("count", .int n)] m) : wp_check_size [.int n, .int lo, .int hi] m P Ξ := by
  unfold wp_check_size
  walk_at "dl"
  apply ev_ite <;> intro a1
  · walk_at "dl"
    exact h2 (.inl a1)
  walk_at "dl"
  apply ev_ite <;> intro a2
  · walk_at "dl"
    exact h2 (.inr a2)
  walk_at "dl"
  exact h1 (by omega) (by omega)
def chkErr (ns : List Int) : Option (Str × List (Str × D)) :=
  if ns.length < 1 ∨ 60 < ns.length then some ("SizeError", [("count", .int (ns.length : Int))]) else (ns.find? fun n => decide (n < -60) || decide (60 < n)).map fun n => ("NumberError", [("number", .int n)])
theorem check_places_loop {D₁ : Ed} {x : D} : ∀ (ns : List Int) (o : Option D) (m : Sr), ((ns.find? fun n => decide (n < -60) || decide (60 < n)) = none → ∀ o, D₁.nx [some x, o] m) → (∀ n, (ns.find? fun n => decide (n < -60) || decide (60 < n)) = some n → ∀ o, D₁.xt "NumberError" [("number", .int n)] [some x, o] m) →
    dForL (gdName 1) lb_check_places_1 (iL ns) D₁ [some x, o] m
  | [], o, m, h1, _ => h1 rfl o
  | n :: r, o, m, h1, h2 => by
    show gdName 1 (.int n) [some x, o] m _
    unfold lb_check_places_1
    walk_at "dl"
    refine check_number_wp (fun a b => ?_) fun a => ?_
    · have e : (decide (n < -60) || decide (60 < n)) = false := by simp; omega
      rw [List.find?_cons, e] at h1 h2
      exact check_places_loop r _ m h1 h2
    · have e : (decide (n < -60) || decide (60 < n)) = true := by simp; omega
      rw [List.find?_cons, e] at h2
      exact h2 n rfl _
theorem check_places_wp {x : D} {ns : List Int} {m : Sr} {P : Pv} {Ξ : Xv} (hx : frzS x = some (iL ns)) (h1 : chkErr ns = none → P .non m) (h2 : ∀ e, chkErr ns = some e → Ξ e.1 e.2 m) : wp_check_places [x] m P Ξ := by
  unfold wp_check_places
  walk_at "dl"
  refine ev_len (seqOf_frz hx) ?_
  walk_at "dl"
  rw [List.length_map]
  refine check_size_wp (fun a b => ?_) fun a => ?_
  · have e : ¬ (ns.length < 1 ∨ 60 < ns.length) := by omega
    unfold chkErr at h1 h2
    rw [if_neg e] at h1 h2
    walk_at "dl"
    refine ⟨_, hx, ?_⟩
    refine check_places_loop ns _ m (fun f o => ?_) fun n f o => ?_
    · exact h1 (by rw [f]; rfl)
    · exact h2 ("NumberError", [("number", .int n)]) (by rw [f]; rfl)
  · have e : (ns.length < 1 ∨ 60 < ns.length) := by omega
    unfold chkErr at h2
    rw [if_pos e] at h2
    exact h2 _ rfl

/-! which pieces lie -/
def near (dn : List (Int × Bool)) (p : Int) : Bool := dn.any fun q => q.2 && (decide (q.1 - 1 ≤ p) && decide (p < q.1 + 2))
def onGo (a : Int) : List (Int × Bool) → List Int → List (Int × Bool)
  | dn, [] => dn
  | dn, p :: r => onGo a (dn ++ [(p, decide ((dn.length : Int) = a) || near dn p)]) r
def onL (a : Int) (ns : List Int) : List Bool := (onGo a [] ns).map (·.2)
theorem near_app (dn : List (Int × Bool)) (q : Int × Bool) (p : Int) : near (dn ++ [q]) p = (near dn p || (q.2 && (decide (q.1 - 1 ≤ p) && decide (p < q.1 + 2)))) := by
  unfold near
  rw [List.any_append]
  simp
/-- the dict knows where one may lie -/
def Nr (kvs : List (Key × D)) (dn : List (Int × Bool)) : Prop := ∀ c : Int, (valD kvs (.inl c)).isSome = near dn c
theorem Nr.put3 {kvs : List (Key × D)} {dn : List (Int × Bool)} (h : Nr kvs dn) (p : Int) : Nr (putD (putD (putD kvs (.inl (p - 1)) (.bl true)) (.inl p) (.bl true)) (.inl (p + 1)) (.bl true)) (dn ++ [(p, true)]) := fun c => by
  rw [valD_put, valD_put, valD_put, near_app]
  by_cases e1 : p + 1 = c
  · subst e1; simp; right; omega
  by_cases e2 : p = c
  · subst e2; simp; right; omega
  by_cases e3 : p - 1 = c
  · subst e3; simp; right; omega
  have e : (decide (p - 1 ≤ c) && decide (c < p + 2)) = false := by simp; omega
  simp [e1, e2, e3, h c]
  omega
theorem Nr.skip {kvs : List (Key × D)} {dn : List (Int × Bool)} (h : Nr kvs dn) (p : Int) : Nr kvs (dn ++ [(p, false)]) := fun c => by
  rw [near_app, h c]; simp
theorem lying_loop {D₁ : Ed} {x : D} {a : Int} {pn pl : Addr} (hne : pn ≠ pl) : ∀ (ns : List Int) (dn : List (Int × Bool)) (kvs : List (Key × D)) (m : Sr) (o4 o5 o6 o7 : Option D),
    (∀ n ∈ ns, -1000 ≤ n ∧ n ≤ 1000) → m pn = some (.dic kvs) → m pl = some (.lst (dn.map fun q => .bl q.2)) → Nr kvs dn → kvs.length ≤ 3 * dn.length → dn.length + ns.length ≤ 10000 →
    (∀ m' o4 o5 o6 o7, m' pl = some (.lst ((onGo a dn ns).map fun q => .bl q.2)) → D₁.nx [some x, some (.int a), some (.ref pn), some (.ref pl), o4, o5, o6, o7] m') →
    dForL (gdTup 2 (gdCons (gdName 4) (gdCons (gdName 5) gdNil))) lb_lying_on_2 (numbered dn.length (iL ns)) D₁ [some x, some (.int a), some (.ref pn), some (.ref pl), o4, o5, o6, o7] m
  | [], dn, kvs, m, o4, o5, o6, o7, hb, h1, h2, h3, h4, h5, hk => hk m o4 o5 o6 o7 h2
  | p :: r, dn, kvs, m, o4, o5, o6, o7, hb, h1, h2, h3, h4, h5, hk => by
    have hp := hb p List.mem_cons_self
    have hr : ∀ n ∈ r, -1000 ≤ n ∧ n ≤ 1000 := fun n hn => hb n (List.mem_cons_of_mem _ hn)
    have hl : dn.length < sizeLine := small_lt (by omega)
    rw [List.length_cons] at h5
    show gdTup 2 _ (.tup [.int (dn.length : Int), .int p]) _ m _
    have last : ∀ (b : Bool) (kvs' : List (Key × D)) (m' : Sr) (o7' : Option D), b = (decide ((dn.length : Int) = a) || near dn p) → m' pn = some (.dic kvs') → m' pl = some (.lst (dn.map fun q => .bl q.2)) → Nr kvs' (dn ++ [(p, b)]) → kvs'.length ≤ 3 * (dn.length + 1) →
        dForL (gdTup 2 (gdCons (gdName 4) (gdCons (gdName 5) gdNil))) lb_lying_on_2 (numbered (dn.length + 1) (iL r)) D₁ [some x, some (.int a), some (.ref pn), some (.ref pl), some (.int (dn.length : Int)), some (.int p), some (.bl b), o7'] (put m' pl (.lst ((dn.map fun q => .bl q.2) ++ [.bl b]))) := by
      intro b kvs' m' o7' hb' e1 e2 e3 e4
      have e5 : (dn ++ [(p, b)]).length = dn.length + 1 := by simp
      rw [← e5]
      refine lying_loop hne r (dn ++ [(p, b)]) kvs' _ _ _ _ _ hr (by rw [put_ne hne]; exact e1) (by rw [put_same, List.map_append]; rfl) e3 (by rw [e5]; exact e4) (by rw [e5]; omega) fun m'' p4 p5 p6 p7 hm => hk m'' p4 p5 p6 p7 ?_
      rw [hm, onGo, hb']
    unfold lb_lying_on_2
    walk_at "dl"
    apply ev_ite <;> intro a1
    rotate_left 1
    · walk_at "dl"
      refine ev_din (dicOf_ref h1) rfl ?_
      simp only [Bool.false_eq_true, if_false]
      rw [show (Sum.inl p : Key) = .inl p from rfl, h3 p]
      cases hn : near dn p
      · walk_at "dl"
        refine ev_isL (seqL_ref h2) ?_
        walk_at "dl"
        refine ev_app h2 (by rw [List.length_map]; exact hl) ?_
        refine last false kvs m _ (by rw [hn]; simp [a1]) h1 h2 (h3.skip p) (by omega)
      · walk_at "dl"
        refine ev_dr2R (by omega) (by omega) (by omega) (by omega) ?_
        rw [show (p + 2 - (p - 1)).toNat = 3 by omega, show (List.range 3) = [0, 1, 2] from rfl]
        unfold lb_lying_on_1
        dsimp only [List.map, dForL]
        walk_at "dl"
        refine ev_putDR h1 rfl (small_lt (by omega)) ?_
        walk_at "dl"
        refine ev_putDR put_same rfl (small_lt (Nat.le_trans (putD_len _ _ _) (by omega))) ?_
        walk_at "dl"
        refine ev_putDR put_same rfl (small_lt (Nat.le_trans (putD_len _ _ _) (Nat.le_trans (Nat.add_le_add_right (putD_len _ _ _) 1) (by omega)))) ?_
        walk_at "dl"
        have h2' : (put (put (put m pn (.dic (putD kvs (.inl (p - 1 + ((0 : Nat) : Int))) (.bl true)))) pn (.dic (putD (putD kvs (.inl (p - 1 + ((0 : Nat) : Int))) (.bl true)) (.inl (p - 1 + ((1 : Nat) : Int))) (.bl true)))) pn (.dic (putD (putD (putD kvs (.inl (p - 1 + ((0 : Nat) : Int))) (.bl true)) (.inl (p - 1 + ((1 : Nat) : Int))) (.bl true)) (.inl (p - 1 + ((2 : Nat) : Int))) (.bl true)))) pl = some (.lst (dn.map fun q => .bl q.2)) := by
          rw [put_ne hne.symm, put_ne hne.symm, put_ne hne.symm]; exact h2
        refine ev_isL (seqL_ref h2') ?_
        walk_at "dl"
        refine ev_app h2' (by rw [List.length_map]; exact hl) ?_
        refine last true _ _ _ (by first | rw [hn]; simp | simp [a1]) put_same h2' ?_ ?_
        · have e := h3.put3 p
          rw [show p - 1 + ((0 : Nat) : Int) = p - 1 by omega, show p - 1 + ((1 : Nat) : Int) = p by omega, show p - 1 + ((2 : Nat) : Int) = p + 1 by omega]
          exact e
        · refine Nat.le_trans (putD_len _ _ _) (Nat.le_trans (Nat.add_le_add_right (Nat.le_trans (putD_len _ _ _) (Nat.add_le_add_right (putD_len _ _ _) 1)) 1) (by omega))
    · walk_at "dl"
      refine ev_dr2R (by omega) (by omega) (by omega) (by omega) ?_
      rw [show (p + 2 - (p - 1)).toNat = 3 by omega, show (List.range 3) = [0, 1, 2] from rfl]
      unfold lb_lying_on_1
      dsimp only [List.map, dForL]
      walk_at "dl"
      refine ev_putDR h1 rfl (small_lt (by omega)) ?_
      walk_at "dl"
      refine ev_putDR put_same rfl (small_lt (Nat.le_trans (putD_len _ _ _) (by omega))) ?_
      walk_at "dl"
      refine ev_putDR put_same rfl (small_lt (Nat.le_trans (putD_len _ _ _) (Nat.le_trans (Nat.add_le_add_right (putD_len _ _ _) 1) (by omega)))) ?_
      walk_at "dl"
      have h2' : (put (put (put m pn (.dic (putD kvs (.inl (p - 1 + ((0 : Nat) : Int))) (.bl true)))) pn (.dic (putD (putD kvs (.inl (p - 1 + ((0 : Nat) : Int))) (.bl true)) (.inl (p - 1 + ((1 : Nat) : Int))) (.bl true)))) pn (.dic (putD (putD (putD kvs (.inl (p - 1 + ((0 : Nat) : Int))) (.bl true)) (.inl (p - 1 + ((1 : Nat) : Int))) (.bl true)) (.inl (p - 1 + ((2 : Nat) : Int))) (.bl true)))) pl = some (.lst (dn.map fun q => .bl q.2)) := by
        rw [put_ne hne.symm, put_ne hne.symm, put_ne hne.symm]; exact h2
      refine ev_isL (seqL_ref h2') ?_
      walk_at "dl"
      refine ev_app h2' (by rw [List.length_map]; exact hl) ?_
      refine last true _ _ _ (by first | rw [hn]; simp | simp [a1]) put_same h2' ?_ ?_
      · have e := h3.put3 p
        rw [show p - 1 + ((0 : Nat) : Int) = p - 1 by omega, show p - 1 + ((1 : Nat) : Int) = p by omega, show p - 1 + ((2 : Nat) : Int) = p + 1 by omega]
        exact e
      · refine Nat.le_trans (putD_len _ _ _) (Nat.le_trans (Nat.add_le_add_right (Nat.le_trans (putD_len _ _ _) (Nat.add_le_add_right (putD_len _ _ _) 1)) 1) (by omega))

def Small (ns : List Int) : Prop := ∀ n ∈ ns, -1000 ≤ n ∧ n ≤ 1000
theorem lying_on_wp {x : D} {ns : List Int} {a : Int} {m : Sr} {P : Pv} {Ξ : Xv} (hx : frzS x = some (iL ns)) (hb : Small ns) (hl : ns.length ≤ 10000) (h : ∀ m', P (.lst ((onL a ns).map D.bl)) m') : wp_lying_on [x, .int a] m P Ξ := by
  unfold wp_lying_on
  walk_at "dl"
  intro pn hpn
  walk_at "dl"
  intro pl hpl
  have hne : pn ≠ pl := fun e => by rw [← e, put_same] at hpl; cases hpl
  walk_at "dl"
  refine ev_diER hx ?_
  refine lying_loop (x := x) hne ns [] [] _ none none none none hb (by rw [put_ne hne]; exact put_same) put_same (fun c => rfl) (by simp) (by simpa using hl) fun m' p4 p5 p6 p7 hm => ?_
  walk_at "dl"
  refine ev_frzR hm ?_
  have e : ((onGo a [] ns).map fun q => D.bl q.2) = (onL a ns).map D.bl := by unfold onL; rw [List.map_map]; rfl
  rw [e]
  exact h _
/-- the first that does not lie -/
def astray (ns : List Int) : Option Nat := (onL 0 ns).findIdx? fun b => !b
theorem astray_loop {D₁ : Ed} {x : D} : ∀ (bs : List Bool) (i : Nat) (o1 o2 : Option D) (m : Sr), (bs.findIdx? (fun b => !b) = none → ∀ o1 o2, D₁.nx [some x, o1, o2] m) → (∀ k, bs.findIdx? (fun b => !b) = some k → D₁.rt (.int ((i + k : Nat) : Int)) m) →
    dForL (gdTup 2 (gdCons (gdName 1) (gdCons (gdName 2) gdNil))) lb_first_astray_1 (numbered i (bs.map D.bl)) D₁ [some x, o1, o2] m
  | [], i, o1, o2, m, h1, _ => h1 rfl o1 o2
  | b :: r, i, o1, o2, m, h1, h2 => by
    show gdTup 2 _ (.tup [.int (i : Int), .bl b]) _ m _
    rw [List.findIdx?_cons] at h1 h2
    unfold lb_first_astray_1
    walk_at "dl"
    cases b
    · walk_at "dl"
      exact h2 0 rfl
    · walk_at "dl"
      refine astray_loop r (i + 1) _ _ m (fun e => h1 (by simp [e])) fun k e => ?_
      have z := h2 (k + 1) (by simp [e])
      rw [show i + 1 + k = i + (k + 1) by omega]
      exact z
theorem first_astray_wp {x : D} {ns : List Int} {m : Sr} {P : Pv} {Ξ : Xv} (hx : frzS x = some (iL ns)) (hb : Small ns) (hl : ns.length ≤ 10000) (h0 : ns ≠ [])
    (h1 : ns.head? ≠ some 0 → P (.int 0) m) (h2 : ns.head? = some 0 → astray ns = none → P .non m) (h3 : ∀ k : Nat, ns.head? = some 0 → astray ns = some k → P (.int (k : Int)) m) : wp_first_astray [x] m P Ξ := by
  obtain ⟨n, r, rfl⟩ : ∃ n r, ns = n :: r := by
    cases ns with
    | nil => exact (h0 rfl).elim
    | cons n r => exact ⟨n, r, rfl⟩
  unfold wp_first_astray
  walk_at "dl"
  refine ev_ix (seqOf_frz hx) (atI_iL (k := 0) rfl) ?_
  walk_at "dl"
  by_cases hn : n = 0
  · subst hn
    simp only [decide_true, Bool.not_true]
    walk_at "dl"
    refine lying_on_wp hx hb hl fun m' => ?_
    walk_at "dl"
    refine astray_loop _ 0 _ _ m (fun e o1 o2 => ?_) fun k e => ?_
    · walk_at "dl"
      exact h2 rfl e
    · rw [Nat.zero_add]
      exact h3 k rfl e
  · simp only [decide_eq_false hn, Bool.not_false]
    walk_at "dl"
    exact h1 (by simpa using hn)
end K42
namespace K42
open PySem PySem.Spec PyProof.Rows L2 DL
/-! the levels -/
def ab (i : Int) : Int := if i < 0 then -i else i
def lvStep (p h : Int) (q : Int × Int) : Int := if ab (q.1 - p) < 2 then (if q.2 + 2 - ab (q.1 - p) > h then q.2 + 2 - ab (q.1 - p) else h) else h
def hi (dn : List (Int × Int)) (p : Int) : Int := dn.foldl (lvStep p) 0
def lvGo : List (Int × Int) → List Int → List (Int × Int)
  | dn, [] => dn
  | dn, p :: r => lvGo (dn ++ [(p, hi dn p)]) r
def lvL (ns : List Int) : List Int := (lvGo [] ns).map (·.2)
theorem hi_spec (p : Int) : ∀ (dn : List (Int × Int)) (h : Int), h ≤ dn.foldl (lvStep p) h ∧ (∀ q ∈ dn, ab (q.1 - p) < 2 → q.2 + 2 - ab (q.1 - p) ≤ dn.foldl (lvStep p) h) ∧
    (dn.foldl (lvStep p) h = h ∨ ∃ q ∈ dn, ab (q.1 - p) < 2 ∧ dn.foldl (lvStep p) h = q.2 + 2 - ab (q.1 - p))
  | [], h => ⟨Int.le_refl _, (fun q hq => by cases hq), .inl rfl⟩
  | q :: r, h => by
    obtain ⟨h1, h2, h3⟩ := hi_spec p r (lvStep p h q)
    rw [List.foldl_cons]
    have a1 : h ≤ lvStep p h q := by
      unfold lvStep; split
      · split <;> omega
      · omega
    have a2 : ab (q.1 - p) < 2 → q.2 + 2 - ab (q.1 - p) ≤ lvStep p h q := fun z => by
      unfold lvStep; rw [if_pos z]
      split <;> omega
    have a3 : lvStep p h q = h ∨ (ab (q.1 - p) < 2 ∧ lvStep p h q = q.2 + 2 - ab (q.1 - p)) := by
      unfold lvStep; split
      · split
        · exact .inr ⟨by assumption, rfl⟩
        · exact .inl rfl
      · exact .inl rfl
    refine ⟨Int.le_trans a1 h1, fun q' hq' z => ?_, ?_⟩
    · rcases List.mem_cons.mp hq' with rfl | hq'
      · exact Int.le_trans (a2 z) h1
      · exact h2 q' hq' z
    · rcases h3 with h3 | ⟨q', hq', z1, z2⟩
      · rw [h3]
        rcases a3 with a3 | ⟨z1, z2⟩
        · exact .inl a3
        · exact .inr ⟨q, List.mem_cons_self, z1, z2⟩
      · exact .inr ⟨q', List.mem_cons_of_mem _ hq', z1, z2⟩
def up (l : Int) (h : Option Int) (s : Int) : Int := match h with
  | none => l
  | some h => if h + s > l then h + s else l
/-- the highest piece above each place -/
structure Hg (g : Int → Option Int) (dn : List (Int × Int)) : Prop where
  no : ∀ c, g c = none → ∀ q ∈ dn, q.1 ≠ c
  yes : ∀ c h, g c = some h → (∀ q ∈ dn, q.1 = c → q.2 ≤ h) ∧ ∃ q ∈ dn, q.1 = c ∧ q.2 = h
theorem up_ge (l : Int) (h : Option Int) (s : Int) : l ≤ up l h s := by
  unfold up; split
  · omega
  · split <;> omega
theorem up_in (l : Int) {h s : Int} : h + s ≤ up l (some h) s := by
  show h + s ≤ if h + s > l then h + s else l
  split <;> omega
theorem up_is (l : Int) (h : Option Int) (s : Int) : up l h s = l ∨ ∃ k, h = some k ∧ up l h s = k + s := by
  cases h with
  | none => exact .inl rfl
  | some k =>
    show (if k + s > l then k + s else l) = l ∨ _
    split
    · rename_i z
      exact .inr ⟨k, rfl, if_pos z⟩
    · exact .inl rfl
theorem Hg.hi {g : Int → Option Int} {dn : List (Int × Int)} (G : Hg g dn) (p : Int) : up (up (up 0 (g (p - 1)) 1) (g p) 2) (g (p + 1)) 1 = K42.hi dn p := by
  obtain ⟨h1, h2, h3⟩ := hi_spec p dn 0
  have near : ∀ c s k, g c = some k → (c = p ∧ s = 2 ∨ c = p - 1 ∧ s = 1 ∨ c = p + 1 ∧ s = 1) → k + s ≤ K42.hi dn p := fun c s k e z => by
    obtain ⟨_, q, hq, e1, e2⟩ := G.yes c k e
    have := h2 q hq (by unfold ab; split <;> omega)
    refine Int.le_trans ?_ this
    unfold ab; split <;> omega
  apply Int.le_antisymm
  · rcases up_is (up (up 0 (g (p - 1)) 1) (g p) 2) (g (p + 1)) 1 with e | ⟨k, e, e'⟩
    · rw [e]
      rcases up_is (up 0 (g (p - 1)) 1) (g p) 2 with e | ⟨k, e, e'⟩
      · rw [e]
        rcases up_is 0 (g (p - 1)) 1 with e | ⟨k, e, e'⟩
        · rw [e]; exact h1
        · rw [e']; exact near _ _ k e (.inr (.inl ⟨rfl, rfl⟩))
      · rw [e']; exact near _ _ k e (.inl ⟨rfl, rfl⟩)
    · rw [e']; exact near _ _ k e (.inr (.inr ⟨rfl, rfl⟩))
  · rcases h3 with h3 | ⟨q, hq, z1, z2⟩
    · show dn.foldl (lvStep p) 0 ≤ _
      rw [h3]
      exact Int.le_trans (up_ge _ _ _) (Int.le_trans (up_ge _ _ _) (up_ge _ _ _))
    · show dn.foldl (lvStep p) 0 ≤ _
      rw [z2]
      have top : ∀ c, q.1 = c → ∃ k, g c = some k ∧ q.2 ≤ k := fun c e => by
        cases h : g c with
        | none => exact (G.no c h q hq e).elim
        | some k => exact ⟨k, rfl, (G.yes c k h).1 q hq e⟩
      have z3 : q.1 = p ∨ q.1 = p - 1 ∨ q.1 = p + 1 := by
        unfold ab at z1; split at z1 <;> omega
      rcases z3 with e | e | e
      · obtain ⟨k, e1, e2⟩ := top p e
        rw [e1]
        have e3 : ab (q.1 - p) = 0 := by unfold ab; split <;> omega
        have := up_in (up 0 (g (p - 1)) 1) (h := k) (s := 2)
        have := up_ge (up (up 0 (g (p - 1)) 1) (some k) 2) (g (p + 1)) 1
        omega
      · obtain ⟨k, e1, e2⟩ := top (p - 1) e
        rw [e1]
        have e3 : ab (q.1 - p) = 1 := by unfold ab; split <;> omega
        have := up_in 0 (h := k) (s := 1)
        have := up_ge (up 0 (some k) 1) (g p) 2
        have := up_ge (up (up 0 (some k) 1) (g p) 2) (g (p + 1)) 1
        omega
      · obtain ⟨k, e1, e2⟩ := top (p + 1) e
        rw [e1]
        have e3 : ab (q.1 - p) = 1 := by unfold ab; split <;> omega
        have := up_in (up (up 0 (g (p - 1)) 1) (g p) 2) (h := k) (s := 1)
        omega
theorem Hg.put {g : Int → Option Int} {dn : List (Int × Int)} (G : Hg g dn) (p : Int) : Hg (fun c => if p = c then some (K42.hi dn p) else g c) (dn ++ [(p, K42.hi dn p)]) := by
  have big : ∀ q ∈ dn, q.1 = p → q.2 ≤ K42.hi dn p := fun q hq e => by
    have := (hi_spec p dn 0).2.1 q hq (by unfold ab; split <;> omega)
    have e3 : ab (q.1 - p) = 0 := by unfold ab; split <;> omega
    show q.2 ≤ dn.foldl (lvStep p) 0
    omega
  refine ⟨fun c h q hq => ?_, fun c h e => ?_⟩
  · by_cases hc : p = c
    · rw [if_pos hc] at h; cases h
    · rw [if_neg hc] at h
      rcases List.mem_append.mp hq with hq | hq
      · exact G.no c h q hq
      · rw [List.mem_singleton.mp hq]; exact hc
  · by_cases hc : p = c
    · rw [if_pos hc] at e
      cases e
      refine ⟨fun q hq z => ?_, (p, K42.hi dn p), List.mem_append_right _ List.mem_cons_self, hc, rfl⟩
      rcases List.mem_append.mp hq with hq | hq
      · exact big q hq (z.trans hc.symm)
      · rw [List.mem_singleton.mp hq]; exact Int.le_refl _
    · rw [if_neg hc] at e
      obtain ⟨h1, q, hq, e1, e2⟩ := G.yes c h e
      refine ⟨fun q hq z => ?_, q, List.mem_append_left _ hq, e1, e2⟩
      rcases List.mem_append.mp hq with hq | hq
      · exact h1 q hq z
      · rw [List.mem_singleton.mp hq] at z; exact (hc z).elim
theorem drop_inner {D₁ : Ed} {x : D} {ph pr : Addr} {p : Int} {kvs : List (Key × D)} {m : Sr} {g : Int → Option Int} (h1 : m ph = some (.dic kvs)) (hg : ∀ c, valD kvs (.inl c) = (g c).map D.int) : ∀ (cs : List (Int × Int)) (l : Int) (o5 o6 : Option D),
    (∀ o5 o6, D₁.nx [some x, some (.ref ph), some (.ref pr), some (.int p), some (.int (cs.foldl (fun l q => up l (g q.1) q.2) l)), o5, o6] m) →
    dForL (gdTup 2 (gdCons (gdName 5) (gdCons (gdName 6) gdNil))) lb_drop_1 (cs.map fun q => .tup [.int q.1, .int q.2]) D₁ [some x, some (.ref ph), some (.ref pr), some (.int p), some (.int l), o5, o6] m
  | [], l, o5, o6, h => h o5 o6
  | (c, s) :: r, l, o5, o6, h => by
    show gdTup 2 _ (.tup [.int c, .int s]) _ m _
    rw [List.foldl_cons] at h
    unfold lb_drop_1
    walk_at "dl"
    refine ev_din (dicOf_ref h1) rfl ?_
    walk_at "dl"
    simp only [Bool.false_eq_true, if_false]
    rw [show (Sum.inl c : Key) = .inl c from rfl, hg c]
    cases hc : g c with
    | none =>
      simp only [Option.map_none, Option.isSome_none]
      walk_at "dl"
      refine drop_inner h1 hg r l _ _ fun p5 p6 => ?_
      have z := h p5 p6
      dsimp only at z
      rw [hc] at z
      exact z
    | some k =>
      simp only [Option.map_some, Option.isSome_some]
      walk_at "dl"
      refine ev_dget (dicOf_ref h1) (by rfl) (show valD kvs (.inl c) = some (.int k) by rw [hg c, hc]; rfl) ?_
      walk_at "dl"
      refine drop_inner h1 hg r _ _ _ fun p5 p6 => ?_
      have z := h p5 p6
      dsimp only at z
      rw [hc] at z
      exact z
theorem drop_loop {D₁ : Ed} {x : D} {ph pr : Addr} (hne : ph ≠ pr) : ∀ (ns : List Int) (dn : List (Int × Int)) (kvs : List (Key × D)) (g : Int → Option Int) (m : Sr) (o3 o4 o5 o6 : Option D),
    m ph = some (.dic kvs) → m pr = some (.lst (dn.map fun q => .int q.2)) → (∀ c, valD kvs (.inl c) = (g c).map D.int) → Hg g dn → kvs.length ≤ dn.length → dn.length + ns.length ≤ 10000 →
    (∀ m' o3 o4 o5 o6, m' pr = some (.lst ((lvGo dn ns).map fun q => .int q.2)) → D₁.nx [some x, some (.ref ph), some (.ref pr), o3, o4, o5, o6] m') →
    dForL (gdName 3) lb_drop_2 (iL ns) D₁ [some x, some (.ref ph), some (.ref pr), o3, o4, o5, o6] m
  | [], dn, kvs, g, m, o3, o4, o5, o6, h1, h2, hg, G, h4, h5, hk => hk m o3 o4 o5 o6 h2
  | p :: r, dn, kvs, g, m, o3, o4, o5, o6, h1, h2, hg, G, h4, h5, hk => by
    rw [List.length_cons] at h5
    show gdName 3 (.int p) _ m _
    unfold lb_drop_2
    walk_at "dl"
    refine drop_inner h1 hg [(p - 1, 1), (p, 2), (p + 1, 1)] 0 o5 o6 fun p5 p6 => ?_
    have e : ([(p - 1, 1), (p, 2), (p + 1, 1)] : List (Int × Int)).foldl (fun l q => up l (g q.1) q.2) 0 = hi dn p := G.hi p
    rw [e]
    walk_at "dl"
    refine ev_putDR h1 rfl (small_lt (by omega)) ?_
    walk_at "dl"
    have h2' : (put m ph (.dic (putD kvs (.inl p) (.int (hi dn p))))) pr = some (.lst (dn.map fun q => .int q.2)) := by rw [put_ne hne.symm]; exact h2
    refine ev_isL (seqL_ref h2') ?_
    walk_at "dl"
    refine ev_app h2' (by rw [List.length_map]; exact small_lt (by omega)) ?_
    refine drop_loop hne r (dn ++ [(p, hi dn p)]) (putD kvs (.inl p) (.int (hi dn p))) (fun c => if p = c then some (hi dn p) else g c) _ _ _ _ _ (by rw [put_ne hne]; exact put_same) (by rw [put_same, List.map_append]; rfl) (fun c => ?_) (G.put p) ?_ ?_ fun m' p3 p4 p5 p6 hm => hk m' p3 p4 p5 p6 hm
    · rw [valD_put]
      by_cases e : p = c
      · subst e; simp
      · simp [e, hg c]
    · have := putD_len kvs (.inl p) (.int (hi dn p))
      rw [List.length_append]; show _ ≤ dn.length + 1; omega
    · rw [List.length_append]; show dn.length + 1 + _ ≤ _; omega
theorem drop_wp {x : D} {ns : List Int} {m : Sr} {P : Pv} {Ξ : Xv} (hx : frzS x = some (iL ns)) (hl : ns.length ≤ 10000) (h : ∀ p m', m' p = some (.lst (iL (lvL ns))) → P (.ref p) m') : wp_drop [x] m P Ξ := by
  unfold wp_drop
  walk_at "dl"
  intro ph hph
  walk_at "dl"
  intro pr hpr
  have hne : ph ≠ pr := fun e => by rw [← e, put_same] at hpr; cases hpr
  walk_at "dl"
  refine ⟨_, hx, ?_⟩
  refine drop_loop (x := x) hne ns [] [] (fun _ => none) _ none none none none (by rw [put_ne hne]; exact put_same) put_same (fun c => rfl) ⟨(fun c _ q hq => by cases hq), fun c h e => nomatch e⟩ (by simp) (by simpa using hl) fun m' p3 p4 p5 p6 hm => ?_
  walk_at "dl"
  refine h pr m' ?_
  rw [hm]
  unfold lvL
  rw [iL, List.map_map]
  rfl
end K42
namespace K42
open PySem PySem.Spec PyProof.Rows L2 DL
/-! the law's levels -/
theorem get_mid {α : Type} {a b : List α} {x : α} {n : Nat} (h : a.length = n) : (a ++ x :: b)[n]? = some x := by
  subst h
  rw [List.getElem?_append_right (Nat.le_refl _), Nat.sub_self]; rfl
theorem levels_inner {D₁ : Ed} {x : D} {pf : Addr} {p : Int} {m : Sr} {ns : List Int} {dn : List (Int × Int)} {k : Nat} (hx : ∀ m, seqOf m x = some (iL ns)) (h2 : m pf = some (.lst (dn.map fun q => .int q.2))) (hp : ns[k]? = some p) (hd : ∀ (j : Nat) q, dn[j]? = some q → ns[j]? = some q.1) :
    ∀ (b a : List (Int × Int)) (h : Int) (o4 o5 : Option D), dn = a ++ b → (∀ o4 o5, D₁.nx [some x, some (.ref pf), some (.int (k : Int)), some (.int (b.foldl (lvStep p) h)), o4, o5] m) →
    dForL (gdName 4) lb__law_levels_1 (itemsFrom (a.length : Int) b.length) D₁ [some x, some (.ref pf), some (.int (k : Int)), some (.int h), o4, o5] m
  | [], a, h, o4, o5, e, hk => hk o4 o5
  | q :: b, a, h, o4, o5, e, hk => by
    have eq1 : dn[a.length]? = some q := by rw [e]; exact get_mid rfl
    have rest : ∀ (h' : Int) (o5' : Option D), h' = lvStep p h q → dForL (gdName 4) lb__law_levels_1 (itemsFrom ((a.length : Int) + 1) b.length) D₁ [some x, some (.ref pf), some (.int (k : Int)), some (.int h'), some (.int (a.length : Int)), o5'] m := fun h' o5' eh => by
      have z := levels_inner hx h2 hp hd b (a ++ [q]) h' (some (.int (a.length : Int))) o5' (by rw [e, List.append_assoc]; rfl) (fun p4 p5 => by rw [eh]; exact hk p4 p5)
      rw [List.length_append] at z
      exact z
    show gdName 4 (.int (a.length : Int)) _ m _
    unfold lb__law_levels_1
    walk_at "dl"
    refine ev_ix (hx m) (atI_iL (hd _ _ eq1)) ?_
    walk_at "dl"
    refine ev_ix (hx m) (atI_iL hp) ?_
    walk_at "dl"
    apply ev_ite <;> intro a1
    · walk_at "dl"
      refine ev_ix (seqOf_ref h2) (atI_at (x := .int q.2) (by rw [List.getElem?_map, eq1]; rfl)) ?_
      walk_at "dl"
      refine rest _ _ ?_
      unfold lvStep ab
      rw [if_pos a1]
    · walk_at "dl"
      refine rest _ _ ?_
      unfold lvStep ab
      rw [if_neg a1]
theorem levels_loop {D₁ : Ed} {x : D} {pf : Addr} {ns : List Int} (hx : ∀ m, seqOf m x = some (iL ns)) (hn : ns.length ≤ 10000) : ∀ (r : List Int) (dn : List (Int × Int)) (m : Sr) (o2 o3 o4 o5 : Option D), ns = dn.map (·.1) ++ r → m pf = some (.lst (dn.map fun q => .int q.2)) →
    (∀ m' o2 o3 o4 o5, m' pf = some (.lst ((lvGo dn r).map fun q => .int q.2)) → D₁.nx [some x, some (.ref pf), o2, o3, o4, o5] m') →
    dForL (gdName 2) lb__law_levels_2 (itemsFrom (dn.length : Int) r.length) D₁ [some x, some (.ref pf), o2, o3, o4, o5] m
  | [], dn, m, o2, o3, o4, o5, e, h2, hk => hk m o2 o3 o4 o5 h2
  | p :: r, dn, m, o2, o3, o4, o5, e, h2, hk => by
    have hl : dn.length + (r.length + 1) = ns.length := by rw [e]; simp
    have hp : ns[dn.length]? = some p := by rw [e]; exact get_mid (by rw [List.length_map])
    have hd : ∀ (j : Nat) q, dn[j]? = some q → ns[j]? = some q.1 := fun j q hj => by
      have lt := (List.getElem?_eq_some_iff.mp hj).1
      rw [e, List.getElem?_append_left (by rw [List.length_map]; exact lt), List.getElem?_map, hj]; rfl
    show gdName 2 (.int (dn.length : Int)) _ m _
    unfold lb__law_levels_2
    walk_at "dl"
    refine ev_dr1R (by omega) (by omega) ?_
    rw [Int.toNat_natCast, items_0]
    refine levels_inner hx h2 hp hd dn [] 0 o4 o5 rfl fun p4 p5 => ?_
    walk_at "dl"
    refine ev_isL (seqL_ref h2) ?_
    walk_at "dl"
    refine ev_app h2 (by rw [List.length_map]; exact small_lt (by omega)) ?_
    have z := levels_loop (D₁ := D₁) hx hn r (dn ++ [(p, hi dn p)]) (put m pf (.lst ((dn.map fun q => .int q.2) ++ [.int (hi dn p)]))) (some (.int (dn.length : Int))) (some (.int (hi dn p))) p4 p5 (by rw [e, List.map_append, List.append_assoc]; rfl) (by rw [put_same, List.map_append]; rfl) hk
    rw [List.length_append] at z
    exact z
theorem law_levels_wp {x : D} {ns : List Int} {m : Sr} {P : Pv} {Ξ : Xv} (hx : frzS x = some (iL ns)) (hl : ns.length ≤ 10000) (h0 : ns ≠ []) (h : ∀ m', P (.lst (iL (lvL ns))) m') : wp__law_levels [x] m P Ξ := by
  obtain ⟨n, r, rfl⟩ : ∃ n r, ns = n :: r := by
    cases ns with
    | nil => exact (h0 rfl).elim
    | cons n r => exact ⟨n, r, rfl⟩
  rw [List.length_cons] at hl
  unfold wp__law_levels
  walk_at "dl"
  intro pf hpf
  walk_at "dl"
  refine ev_len (seqOf_frz hx) ?_
  walk_at "dl"
  rw [List.length_map, List.length_cons]
  refine ev_dr2R (by omega) (by omega) (by omega) (by omega) ?_
  rw [show ((((r.length + 1 : Nat) : Int)) - 1).toNat = r.length by omega, items_r]
  refine levels_loop (fun m => seqOf_frz hx) (by simpa using hl) r [(n, 0)] _ none none none none rfl put_same fun m' p2 p3 p4 p5 hm => ?_
  walk_at "dl"
  refine ev_frzR hm ?_
  have e : ((lvGo [(n, 0)] r).map fun q => D.int q.2) = iL (lvL (n :: r)) := by unfold lvL; rw [show lvGo [] (n :: r) = lvGo [(n, 0)] r from rfl, iL, List.map_map]; rfl
  rw [e]
  exact h _
/-! the law's lying -/
def anyN (p : Int) (b : List (Int × Bool)) : Bool := b.any fun q => q.2 && decide (ab (q.1 - p) < 2)
theorem anyN_near (b : List (Int × Bool)) (p : Int) : anyN p b = near b p := by
  unfold anyN near
  congr 1
  funext q
  congr 1
  unfold ab
  by_cases h : q.1 - 1 ≤ p ∧ p < q.1 + 2
  · rw [decide_eq_true h.1, decide_eq_true h.2]
    exact decide_eq_true (by split <;> omega)
  · have e : (decide (q.1 - 1 ≤ p) && decide (p < q.1 + 2)) = false := by simp; omega
    rw [e]
    exact decide_eq_false (by split <;> omega)
theorem on_inner {D₁ : Ed} {x : D} {pf : Addr} {p a : Int} {m : Sr} {ns : List Int} {dn : List (Int × Bool)} {k : Nat} (hx : ∀ m, seqOf m x = some (iL ns)) (h2 : m pf = some (.lst (dn.map fun q => .bl q.2))) (hp : ns[k]? = some p) (hd : ∀ (j : Nat) q, dn[j]? = some q → ns[j]? = some q.1) :
    ∀ (b c : List (Int × Bool)) (l : Bool) (o5 : Option D), dn = c ++ b → (∀ o5, D₁.nx [some x, some (.int a), some (.ref pf), some (.int (k : Int)), some (.bl (l || anyN p b)), o5] m) →
    dForL (gdName 5) lb__law_on_1 (itemsFrom (c.length : Int) b.length) D₁ [some x, some (.int a), some (.ref pf), some (.int (k : Int)), some (.bl l), o5] m
  | [], c, l, o5, e, hk => by
    have z := hk o5
    rw [show anyN p [] = false from rfl, Bool.or_false] at z
    exact z
  | q :: b, c, l, o5, e, hk => by
    have eq1 : dn[c.length]? = some q := by rw [e]; exact get_mid rfl
    have rest : ∀ (l' : Bool) , l' = (l || (q.2 && decide (ab (q.1 - p) < 2))) → dForL (gdName 5) lb__law_on_1 (itemsFrom ((c.length : Int) + 1) b.length) D₁ [some x, some (.int a), some (.ref pf), some (.int (k : Int)), some (.bl l'), some (.int (c.length : Int))] m := fun l' el => by
      have z := on_inner hx h2 hp hd b (c ++ [q]) l' (some (.int (c.length : Int))) (by rw [e, List.append_assoc]; rfl) (fun p5 => by
        have z := hk p5
        rw [show anyN p (q :: b) = ((q.2 && decide (ab (q.1 - p) < 2)) || anyN p b) from rfl, ← Bool.or_assoc, ← el] at z
        exact z)
      rw [List.length_append] at z
      exact z
    show gdName 5 (.int (c.length : Int)) _ m _
    unfold lb__law_on_1
    walk_at "dl"
    refine ev_ix (seqOf_ref h2) (atI_at (x := .bl q.2) (by rw [List.getElem?_map, eq1]; rfl)) ?_
    walk_at "dl"
    cases hq : q.2
    · walk_at "dl"
      exact rest l (by rw [hq]; simp)
    · walk_at "dl"
      refine ev_ix (hx m) (atI_iL (hd _ _ eq1)) ?_
      walk_at "dl"
      refine ev_ix (hx m) (atI_iL hp) ?_
      walk_at "dl"
      apply ev_ite <;> intro a1
      · walk_at "dl"
        refine rest true ?_
        rw [hq, show decide (ab (q.1 - p) < 2) = true from decide_eq_true a1]; simp
      · walk_at "dl"
        refine rest l ?_
        rw [show decide (ab (q.1 - p) < 2) = false from decide_eq_false a1]; simp
theorem near_none {dn : List (Int × Bool)} {p : Int} (h : ∀ q ∈ dn, q.2 = false) : near dn p = false := by
  unfold near
  rw [List.any_eq_false]
  intro q hq
  rw [h q hq]; simp
theorem on_loop {D₁ : Ed} {x : D} {pf : Addr} {ns : List Int} {a : Nat} (hx : ∀ m, seqOf m x = some (iL ns)) (hn : ns.length ≤ 10000) (ha : a ≤ 10000) : ∀ (r : List Int) (dn : List (Int × Bool)) (m : Sr) (o3 o4 o5 : Option D), ns = dn.map (·.1) ++ r → m pf = some (.lst (dn.map fun q => .bl q.2)) → (∀ q ∈ dn.take a, q.2 = false) →
    (∀ m' o3 o4 o5, m' pf = some (.lst ((onGo (a : Int) dn r).map fun q => .bl q.2)) → D₁.nx [some x, some (.int (a : Int)), some (.ref pf), o3, o4, o5] m') →
    dForL (gdName 3) lb__law_on_2 (itemsFrom (dn.length : Int) r.length) D₁ [some x, some (.int (a : Int)), some (.ref pf), o3, o4, o5] m
  | [], dn, m, o3, o4, o5, e, h2, hf, hk => hk m o3 o4 o5 h2
  | p :: r, dn, m, o3, o4, o5, e, h2, hf, hk => by
    have hl : dn.length + (r.length + 1) = ns.length := by rw [e]; simp
    have hp : ns[dn.length]? = some p := by rw [e]; exact get_mid (by rw [List.length_map])
    have hd : ∀ (j : Nat) q, dn[j]? = some q → ns[j]? = some q.1 := fun j q hj => by
      have lt := (List.getElem?_eq_some_iff.mp hj).1
      rw [e, List.getElem?_append_left (by rw [List.length_map]; exact lt), List.getElem?_map, hj]; rfl
    have split : near dn p = near (dn.drop a) p := by
      have z := near_none (p := p) hf
      conv => lhs; rw [← List.take_append_drop a dn]
      unfold near at z ⊢
      rw [List.any_append, z, Bool.false_or]
    have next : ∀ (b : Bool) (o5 : Option D), b = (decide ((dn.length : Int) = (a : Int)) || near dn p) → dForL (gdName 3) lb__law_on_2 (itemsFrom ((dn.length : Int) + 1) r.length) D₁ [some x, some (.int (a : Int)), some (.ref pf), some (.int (dn.length : Int)), some (.bl b), o5] (put m pf (.lst ((dn.map fun q => .bl q.2) ++ [.bl b]))) := fun b o5 eb => by
      have z := on_loop (D₁ := D₁) hx hn ha r (dn ++ [(p, b)]) (put m pf (.lst ((dn.map fun q => .bl q.2) ++ [.bl b]))) (some (.int (dn.length : Int))) (some (.bl b)) o5 (by rw [e, List.map_append, List.append_assoc]; rfl) (by rw [put_same, List.map_append]; rfl) (fun q hq => ?_) (fun m' p3 p4 p5 hm => hk m' p3 p4 p5 (by rw [hm, onGo, eb]))
      · rw [List.length_append] at z
        exact z
      · rw [List.take_append] at hq
        rcases List.mem_append.mp hq with hq | hq
        · exact hf q hq
        · by_cases c : a ≤ dn.length
          · rw [Nat.sub_eq_zero_of_le c] at hq; cases hq
          · have hz : ∀ q ∈ dn, q.2 = false := fun q hq => hf q (by rw [List.take_of_length_le (by omega)]; exact hq)
            have e1 : b = false := by
              rw [eb, near_none hz, decide_eq_false (by omega)]; rfl
            have hq' := List.mem_of_mem_take hq
            rw [List.mem_singleton.mp hq']; exact e1
    show gdName 3 (.int (dn.length : Int)) _ m _
    unfold lb__law_on_2
    walk_at "dl"
    refine ev_dr2R (by omega) (by omega) (by omega) (by omega) ?_
    rw [items_r]
    by_cases c : a ≤ dn.length
    · have e3 : ((dn.length : Int) - (a : Int)).toNat = (dn.drop a).length := by rw [List.length_drop]; omega
      have e4 : (a : Int) = ((dn.take a).length : Int) := by rw [List.length_take]; omega
      rw [e3]
      have z := on_inner (D₁ := { nx := dDrop (dBM isL mApp (dVar 2) (dCons (dVar 4) dNil)) { nx := fun ρ2 m2 => dForL (gdName 3) lb__law_on_2 (itemsFrom ((dn.length : Int) + 1) r.length) D₁ ρ2 m2, rt := D₁.rt, bk := D₁.nx, ct := fun ρ2 m2 => dForL (gdName 3) lb__law_on_2 (itemsFrom ((dn.length : Int) + 1) r.length) D₁ ρ2 m2, xt := D₁.xt }, rt := D₁.rt, bk := D₁.nx, ct := fun ρ2 m2 => dForL (gdName 3) lb__law_on_2 (itemsFrom ((dn.length : Int) + 1) r.length) D₁ ρ2 m2, xt := D₁.xt }) (a := (a : Int)) hx h2 hp hd (dn.drop a) (dn.take a) (decide ((dn.length : Int) = (a : Int))) o5 (List.take_append_drop a dn).symm fun p5 => ?_
      · rw [← e4] at z
        exact z
      · walk_at "dl"
        refine ev_isL (seqL_ref h2) ?_
        walk_at "dl"
        refine ev_app h2 (by rw [List.length_map]; exact small_lt (by omega)) ?_
        refine next _ _ ?_
        rw [anyN_near, split]
    · have e3 : ((dn.length : Int) - (a : Int)).toNat = 0 := by omega
      rw [e3]
      dsimp only [itemsFrom, dForL]
      walk_at "dl"
      refine ev_isL (seqL_ref h2) ?_
      walk_at "dl"
      refine ev_app h2 (by rw [List.length_map]; exact small_lt (by omega)) ?_
      refine next _ _ ?_
      have hz : ∀ q ∈ dn, q.2 = false := fun q hq => hf q (by rw [List.take_of_length_le (by omega)]; exact hq)
      rw [near_none hz, Bool.or_false]
theorem law_on_wp {x : D} {ns : List Int} {a : Nat} {m : Sr} {P : Pv} {Ξ : Xv} (hx : frzS x = some (iL ns)) (hl : ns.length ≤ 10000) (ha : a ≤ 10000) (h : ∀ m', P (.lst ((onL (a : Int) ns).map D.bl)) m') : wp__law_on [x, .int (a : Int)] m P Ξ := by
  unfold wp__law_on
  walk_at "dl"
  intro pf hpf
  walk_at "dl"
  refine ev_len (seqOf_frz hx) ?_
  walk_at "dl"
  rw [List.length_map]
  refine ev_dr1R (by omega) (by omega) ?_
  rw [Int.toNat_natCast, items_0]
  refine on_loop (fun m => seqOf_frz hx) hl ha ns [] _ none none none rfl put_same (fun q hq => by simp at hq) fun m' p3 p4 p5 hm => ?_
  walk_at "dl"
  refine ev_frzR hm ?_
  have e : ((onGo (a : Int) [] ns).map fun q => D.bl q.2) = (onL (a : Int) ns).map D.bl := by unfold onL; rw [List.map_map]; rfl
  rw [e]
  exact h _
end K42
namespace K42
open PySem PySem.Spec PyProof.Rows L2 DL
/-! strict heaps -/
/-- dn: the places so far, the last one first -/
def bareR : List Int → Int → Bool
  | [], _ => false
  | q :: r, p => if q = p then true else if q = p - 1 ∨ q = p + 1 then false else bareR r p
def stGo : List Int → List Int → Bool
  | _, [] => true
  | dn, p :: r => if bareR dn p = true then false else stGo (p :: dn) r
def stL (ns : List Int) : Bool := stGo [] ns
theorem strict_loop {D₁ : Ed} {x : D} {pb : Addr} : ∀ (ns dn : List Int) (kvs : List (Key × D)) (m : Sr) (o2 : Option D), m pb = some (.dic kvs) → (∀ c : Int, (valD kvs (.inl c)).getD (.bl false) = .bl (bareR dn c)) → kvs.length ≤ 3 * dn.length → dn.length + ns.length ≤ 10000 →
    (stGo dn ns = true → ∀ m' o2, D₁.nx [some x, some (.ref pb), o2] m') → (stGo dn ns = false → ∀ m', D₁.rt (.bl false) m') → dForL (gdName 2) lb_is_strict_1 (iL ns) D₁ [some x, some (.ref pb), o2] m
  | [], dn, kvs, m, o2, h1, hv, h4, h5, k1, k2 => k1 rfl m o2
  | p :: r, dn, kvs, m, o2, h1, hv, h4, h5, k1, k2 => by
    rw [List.length_cons] at h5
    show gdName 2 (.int p) _ m _
    unfold lb_is_strict_1
    walk_at "dl"
    refine ⟨⟨kvs, dicOf_ref h1⟩, ?_⟩
    walk_at "dl"
    refine ev_look (dicOf_ref h1) rfl ?_
    rw [show (Sum.inl p : Key) = .inl p from rfl, hv p]
    walk_at "dl"
    cases hb : bareR dn p
    · walk_at "dl"
      refine ev_putDR h1 rfl (small_lt (by omega)) ?_
      walk_at "dl"
      refine ev_putDR put_same rfl (small_lt (Nat.le_trans (putD_len _ _ _) (by omega))) ?_
      walk_at "dl"
      refine ev_putDR put_same rfl (small_lt (Nat.le_trans (putD_len _ _ _) (Nat.le_trans (Nat.add_le_add_right (putD_len _ _ _) 1) (by omega)))) ?_
      rw [put_put, put_put]
      refine strict_loop r (p :: dn) _ _ _ put_same (fun c => ?_) ?_ (by rw [List.length_cons]; omega) (fun e => k1 ?_) fun e => k2 ?_
      · rw [valD_put, valD_put, valD_put]
        by_cases e1 : p + 1 = c
        · rw [if_pos (by rw [e1])]
          show D.bl false = .bl (bareR (p :: dn) c)
          unfold bareR
          rw [if_neg (by omega), if_pos (by omega)]
        rw [if_neg (fun z => e1 (Sum.inl.inj z))]
        by_cases e2 : p - 1 = c
        · rw [if_pos (by rw [e2])]
          show D.bl false = .bl (bareR (p :: dn) c)
          unfold bareR
          rw [if_neg (by omega), if_pos (by omega)]
        rw [if_neg (fun z => e2 (Sum.inl.inj z))]
        by_cases e3 : p = c
        · rw [if_pos (by rw [e3])]
          show D.bl true = .bl (bareR (p :: dn) c)
          unfold bareR
          rw [if_pos e3]
        rw [if_neg (fun z => e3 (Sum.inl.inj z)), hv c]
        congr 1
        conv => rhs; unfold bareR
        rw [if_neg e3, if_neg (by omega)]
      · refine Nat.le_trans (putD_len _ _ _) (Nat.le_trans (Nat.add_le_add_right (Nat.le_trans (putD_len _ _ _) (Nat.add_le_add_right (putD_len _ _ _) 1)) 1) ?_)
        rw [List.length_cons]; omega
      · unfold stGo; rw [if_neg (by rw [hb]; exact Bool.false_ne_true)]; exact e
      · unfold stGo; rw [if_neg (by rw [hb]; exact Bool.false_ne_true)]; exact e
    · walk_at "dl"
      refine k2 ?_ m
      unfold stGo
      rw [if_pos hb]
theorem bareR_not {v : List Int} {p : Int} (u : List Int) (h : ∀ q ∈ v, q ≠ p) : bareR (v ++ u) p = if p - 1 ∈ v ∨ p + 1 ∈ v then false else bareR u p := by
  induction v with
  | nil => simp
  | cons q v ih =>
    have h1 := h q List.mem_cons_self
    have ih := ih fun z hz => h z (List.mem_cons_of_mem _ hz)
    show (if q = p then true else if q = p - 1 ∨ q = p + 1 then false else bareR (v ++ u) p) = _
    rw [if_neg h1, ih]
    by_cases c : q = p - 1 ∨ q = p + 1
    · rw [if_pos c, if_pos]
      rcases c with rfl | rfl
      · exact .inl List.mem_cons_self
      · exact .inr List.mem_cons_self
    · rw [if_neg c]
      have e : (p - 1 ∈ q :: v ∨ p + 1 ∈ q :: v) ↔ (p - 1 ∈ v ∨ p + 1 ∈ v) := by
        simp only [List.mem_cons]
        constructor
        · rintro ((h | h) | (h | h))
          · exact (c (.inl h.symm)).elim
          · exact .inl h
          · exact (c (.inr h.symm)).elim
          · exact .inr h
        · rintro (h | h)
          · exact .inl (.inr h)
          · exact .inr (.inr h)
      simp only [e]
/-- the last of the same, and what lies between -/
theorem last_same (p : Int) : ∀ dn : List Int, (∀ q ∈ dn, q ≠ p) ∨ ∃ u v, dn = u ++ p :: v ∧ ∀ q ∈ v, q ≠ p
  | [] => .inl fun q h => by cases h
  | q :: r => by
    rcases last_same p r with h | ⟨u, v, rfl, h⟩
    · by_cases c : q = p
      · exact .inr ⟨[], r, by rw [c]; rfl, h⟩
      · refine .inl fun z hz => ?_
        rcases List.mem_cons.mp hz with rfl | hz
        · exact c
        · exact h z hz
    · exact .inr ⟨q :: u, v, rfl, h⟩
def sameL (p : Int) (dn : List Int) : List Nat := (List.range dn.length).filter fun j => decide (dn[j]? = some p)
theorem sameL_none {p : Int} {dn : List Int} (h : ∀ q ∈ dn, q ≠ p) : sameL p dn = [] := by
  unfold sameL
  rw [List.filter_eq_nil_iff]
  intro j _ e
  have e := of_decide_eq_true e
  exact h p (List.mem_of_getElem? e) rfl
theorem sameL_last {p : Int} {u v : List Int} (h : ∀ q ∈ v, q ≠ p) : ∃ l, sameL p (u ++ p :: v) = l ++ [u.length] := by
  unfold sameL
  have e : (u ++ p :: v).length = u.length + (1 + v.length) := by rw [List.length_append, List.length_cons]; omega
  rw [e, List.range_eq_range', List.range'_append_1.symm, List.filter_append, Nat.zero_add, List.range'_append_1.symm, List.filter_append]
  have e1 : (List.range' u.length 1).filter (fun j => decide ((u ++ p :: v)[j]? = some p)) = [u.length] := by
    rw [List.range'_one, List.filter_cons, if_pos]
    · rfl
    · exact decide_eq_true (get_mid rfl)
  have e2 : (List.range' (u.length + 1) v.length).filter (fun j => decide ((u ++ p :: v)[j]? = some p)) = [] := by
    rw [List.filter_eq_nil_iff]
    intro j hj hz
    have hj := List.mem_range'_1.mp hj
    have z := of_decide_eq_true hz
    rw [List.getElem?_append_right (by omega)] at z
    obtain ⟨k, hk⟩ : ∃ k, j - u.length = k + 1 := ⟨j - u.length - 1, by omega⟩
    rw [hk, List.getElem?_cons_succ] at z
    exact h p (List.mem_of_getElem? z) rfl
  rw [e1, e2, List.append_nil]
  exact ⟨_, rfl⟩
theorem inD_ints (c : Int) : ∀ ns : List Int, inD (.int c) (iL ns) = decide (c ∈ ns)
  | [] => rfl
  | n :: r => by
    show ((n == c) || inD (.int c) (iL r)) = _
    rw [inD_ints c r]
    by_cases h : n = c
    · subst h; simp
    · simp [h, Ne.symm h]
theorem flat_ints : ∀ ns : List Int, (iL ns).all flatD = true
  | [] => rfl
  | n :: r => by show (true && (iL r).all flatD) = true; rw [flat_ints r]; rfl
theorem law_strict_loop {D₁ : Ed} {x : D} {ns : List Int} (hx : frzS x = some (iL ns)) (hxl : ∀ m, seqL m x = some (iL ns)) (hn : ns.length ≤ 10000) : ∀ (r dn : List Int) (m : Sr) (o1 o2 o3 o4 : Option D), ns = dn ++ r →
    (stGo dn.reverse r = true → ∀ o1 o2 o3 o4, D₁.nx [some x, o1, o2, o3, o4] m) → (stGo dn.reverse r = false → D₁.rt (.bl false) m) → dForL (gdName 1) lb__law_strict_1 (itemsFrom (dn.length : Int) r.length) D₁ [some x, o1, o2, o3, o4] m
  | [], dn, m, o1, o2, o3, o4, e, k1, k2 => k1 rfl o1 o2 o3 o4
  | p :: r, dn, m, o1, o2, o3, o4, e, k1, k2 => by
    have hl : dn.length + (r.length + 1) = ns.length := by rw [e]; simp
    have hp : ns[dn.length]? = some p := by rw [e]; exact get_mid rfl
    have next : bareR dn.reverse p = false → ∀ o2 o3 o4, dForL (gdName 1) lb__law_strict_1 (itemsFrom ((dn.length : Int) + 1) r.length) D₁ [some x, some (.int (dn.length : Int)), o2, o3, o4] m := fun hb o2 o3 o4 => by
      have z := law_strict_loop (D₁ := D₁) hx hxl hn r (dn ++ [p]) m (some (.int (dn.length : Int))) o2 o3 o4 (by rw [e, List.append_assoc]; rfl) (fun h => k1 ?_) fun h => k2 ?_
      · rw [List.length_append] at z
        exact z
      · rw [List.reverse_append] at h
        unfold stGo; rw [if_neg (by rw [hb]; exact Bool.false_ne_true)]; exact h
      · rw [List.reverse_append] at h
        unfold stGo; rw [if_neg (by rw [hb]; exact Bool.false_ne_true)]; exact h
    have stop : bareR dn.reverse p = true → D₁.rt (.bl false) m := fun hb => k2 (by unfold stGo; rw [if_pos hb])
    show gdName 1 (.int (dn.length : Int)) _ m _
    unfold lb__law_strict_1
    walk_at "dl"
    refine ev_dr1R (by omega) (by omega) ?_
    rw [Int.toNat_natCast]
    refine lcGo_flt (fun d => match d with | .int j => if ns[j.toNat]? = some p then some (.int j) else none | _ => none) _ [] (small_sz (by simp; omega)) (fun y hy R R0 h1 h2 => ?_) ?_
    · obtain ⟨j, hj, rfl⟩ := List.mem_map.mp hy
      have hj := List.mem_range.mp hj
      obtain ⟨q, hq⟩ : ∃ q, ns[j]? = some q := ⟨ns[j]'(by omega), List.getElem?_eq_getElem (by omega)⟩
      have ej : ((j : Int)).toNat = j := Int.toNat_natCast j
      dsimp only at h1 h2
      rw [ej, hq] at h1 h2
      walk_at "dl"
      refine ev_ix (seqOf_frz hx) (atI_iL hq) ?_
      walk_at "dl"
      refine ev_ix (seqOf_frz hx) (atI_iL hp) ?_
      walk_at "dl"
      apply ev_ite <;> intro a1
      · walk_at "dl"
        exact h1 _ (by rw [a1, if_pos rfl])
      · exact h2 (by rw [if_neg (fun z => a1 (Option.some.inj z))])
    have es : ((List.range dn.length).map fun (k : Nat) => D.int (k : Int)).filterMap (fun d => match d with | .int j => if ns[j.toNat]? = some p then some (D.int j) else none | _ => none) = (sameL p dn).map fun (j : Nat) => D.int (j : Int) := by
      unfold sameL
      have gen : ∀ js : List Nat, (∀ j ∈ js, j < dn.length) → (js.map fun (k : Nat) => D.int (k : Int)).filterMap (fun d => match d with | .int j => if ns[j.toNat]? = some p then some (D.int j) else none | _ => none) = (js.filter fun j => decide (dn[j]? = some p)).map fun (j : Nat) => D.int (j : Int) := by
        intro js hj
        induction js with
        | nil => rfl
        | cons j js ih =>
          have lt := hj j List.mem_cons_self
          have ih := ih fun z hz => hj z (List.mem_cons_of_mem _ hz)
          have e1 : ns[j]? = dn[j]? := by rw [e, List.getElem?_append_left lt]
          rw [List.map_cons, List.filterMap_cons, List.filter_cons]
          dsimp only
          rw [Int.toNat_natCast, e1]
          by_cases c : dn[j]? = some p
          · rw [if_pos c, if_pos (decide_eq_true c), List.map_cons]
            dsimp only
            rw [ih]
          · rw [if_neg c, if_neg (by rw [decide_eq_false c]; exact Bool.false_ne_true)]
            dsimp only
            rw [ih]
      exact gen _ fun j hj => List.mem_range.mp hj
    rw [List.nil_append, es]
    rcases last_same p dn with hs | ⟨u, v, rfl, hv⟩
    · rw [sameL_none hs]
      walk_at "dl"
      refine next ?_ _ _ _
      have z := bareR_not (v := dn.reverse) (p := p) [] (fun q hq => hs q (List.mem_reverse.mp hq))
      rw [List.append_nil] at z
      rw [z]
      show (if _ then false else false) = false
      split <;> rfl
    · obtain ⟨l, el⟩ := sameL_last (u := u) hv
      rw [el, List.map_append]
      walk_at "dl"
      refine ev_itb (fun _ => ?_) fun z => ?_
      rotate_left 1
      · simp at z
      walk_at "dl"
      refine ev_ix rfl (L2.atI_last _ _) ?_
      walk_at "dl"
      refine .inl ⟨_, hxl m, ?_⟩
      have ec : DL.cutD (iL ns) (some ((u.length : Int) + 1)) (some (((u ++ p :: v).length : Nat) : Int)) = iL v := by
        unfold DL.cutD
        have z1 : ((u.length : Int) + 1) = ((u.length + 1 : Nat) : Int) := by omega
        rw [z1, HT.sIx_nat, HT.sIx_nat, List.length_map]
        have z2 : (u ++ p :: v).length = u.length + 1 + v.length := by rw [List.length_append, List.length_cons]; omega
        rw [z2, show min (u.length + 1) ns.length = u.length + 1 by omega, show min (u.length + 1 + v.length) ns.length = u.length + 1 + v.length by omega, e, show u.length + 1 + v.length - (u.length + 1) = v.length by omega]
        rw [iL, ← List.map_drop, ← List.map_take]
        congr 1
        rw [List.append_assoc, List.drop_append, List.drop_of_length_le (by omega), show u.length + 1 - u.length = 1 by omega, List.nil_append, List.cons_append, List.drop_succ_cons, List.drop_zero]
        exact List.take_left' rfl
      rw [ec]
      have hb : bareR (u ++ p :: v).reverse p = if p - 1 ∈ v ∨ p + 1 ∈ v then false else true := by
        rw [List.reverse_append, List.reverse_cons, List.append_assoc, bareR_not (v := v.reverse) _ (fun q hq => hv q (List.mem_reverse.mp hq))]
        simp only [List.mem_reverse]
        congr 1
        show (if p = p then true else _) = true
        rw [if_pos rfl]
      walk_at "dl"
      refine ev_ix (seqOf_frz hx) (atI_iL hp) ?_
      walk_at "dl"
      refine ev_in rfl rfl (flat_ints v) ?_
      walk_at "dl"
      rw [if_pos rfl, inD_ints]
      by_cases c1 : p - 1 ∈ v
      · rw [decide_eq_true c1]
        walk_at "dl"
        exact next (by rw [hb, if_pos (.inl c1)]) _ _ _
      · rw [decide_eq_false c1]
        walk_at "dl"
        refine ev_ix (seqOf_frz hx) (atI_iL hp) ?_
        walk_at "dl"
        refine ev_in rfl rfl (flat_ints v) ?_
        walk_at "dl"
        rw [if_pos rfl, inD_ints]
        by_cases c2 : p + 1 ∈ v
        · rw [decide_eq_true c2]
          walk_at "dl"
          exact next (by rw [hb, if_pos (.inr c2)]) _ _ _
        · rw [decide_eq_false c2]
          walk_at "dl"
          exact stop (by rw [hb, if_neg (fun z => z.elim c1 c2)])
theorem law_strict_wp {x : D} {ns : List Int} {m : Sr} {P : Pv} {Ξ : Xv} (hx : frzL x = some (iL ns)) (hl : ns.length ≤ 10000) (h : P (.bl (stL ns)) m) : wp__law_strict [x] m P Ξ := by
  unfold wp__law_strict
  walk_at "dl"
  refine ev_len (seqOf_frz (frzS_of hx)) ?_
  walk_at "dl"
  rw [List.length_map]
  refine ev_dr1R (by omega) (by omega) ?_
  rw [Int.toNat_natCast, items_0]
  refine law_strict_loop (frzS_of hx) (fun m => seqL_frz hx) hl ns [] m none none none none rfl (fun e p1 p2 p3 p4 => ?_) fun e => ?_
  · walk_at "dl"
    unfold stL at h
    rw [show stGo [] ns = true from e] at h
    exact h
  · unfold stL at h
    rw [show stGo [] ns = false from e] at h
    exact h
end K42
namespace K42
open PySem PySem.Spec PyProof.Rows L2 DL
theorem onGo_fst (a : Int) : ∀ (ns : List Int) (dn : List (Int × Bool)), (onGo a dn ns).map (·.1) = dn.map (·.1) ++ ns
  | [], dn => by rw [onGo, List.append_nil]
  | p :: r, dn => by rw [onGo, onGo_fst a r, List.map_append, List.append_assoc]; rfl
theorem onGo_len (a : Int) (ns : List Int) : (onGo a [] ns).length = ns.length := by
  have z := congrArg List.length (onGo_fst a ns [])
  rw [List.length_map] at z
  exact z
def stayL (a : Int) (ns : List Int) : List Int := ((onGo a [] ns).filter fun q => !q.2).map (·.1)
def goL (a : Int) (ns : List Int) : List Int := ((onGo a [] ns).filter fun q => q.2).map (·.1)
theorem zip_on (a : Int) (ns : List Int) : List.zipWith (fun a b => D.tup [a, b]) (iL ns) ((onL a ns).map D.bl) = (onGo a [] ns).map fun q => .tup [.int q.1, .bl q.2] := by
  have e : ns = (onGo a [] ns).map (·.1) := (onGo_fst a ns []).symm
  have e2 : iL ns = (onGo a [] ns).map fun q => .int q.1 := by
    show ns.map D.int = _
    conv => lhs; rw [e]
    rw [List.map_map]; rfl
  rw [e2]
  unfold onL
  rw [List.map_map, List.zipWith_map, List.zipWith_self]
  rfl
theorem filt_map {α : Type} (f : α → Bool) (g : α → D) : ∀ l : List α, l.filterMap (fun q => if f q = true then some (g q) else none) = (l.filter f).map g
  | [] => rfl
  | q :: r => by
    rw [List.filterMap_cons, List.filter_cons, filt_map f g r]
    cases f q <;> rfl
theorem split_at_wp {x : D} {ns : List Int} {a : Int} {P : Pv} {Ξ : Xv} (hx : frzS x = some (iL ns)) (hb : Small ns) (hl : ns.length ≤ 10000)
    (h : ∀ p q m', p ≠ q → m' p = some (.lst (iL (stayL a ns))) → m' q = some (.lst (iL (goL a ns))) → P (.tup [.ref p, .ref q]) m') : wp_split_at [x, .int a] emp P Ξ := by
  unfold wp_split_at
  walk_at "dl"
  refine lying_on_wp hx hb hl fun m' => ?_
  walk_at "dl"
  refine ev_diZR hx rfl ?_
  rw [zip_on]
  refine lcGo_flt (fun d => match d with | .tup [d, .bl b] => if (!b) = true then some d else none | _ => none) _ [] (small_sz (by rw [List.length_map, onGo_len]; simp; omega)) (fun y hy R R0 h1 h2 => ?_) ?_
  · obtain ⟨q, _, rfl⟩ := List.mem_map.mp hy
    dsimp only at h1 h2
    walk_at "dl"
    cases hq : q.2
    · rw [hq] at h1
      walk_at "dl"
      exact h1 _ rfl
    · rw [hq] at h2
      walk_at "dl"
      exact h2 rfl
  intro p hp
  have e1 : ((onGo a [] ns).map fun q => D.tup [.int q.1, .bl q.2]).filterMap (fun d => match d with | .tup [d, .bl b] => if (!b) = true then some d else none | _ => none) = iL (stayL a ns) := by
    rw [List.filterMap_map]
    show (onGo a [] ns).filterMap (fun q => if (!q.2) = true then some (D.int q.1) else none) = _
    rw [filt_map (fun q : Int × Bool => !q.2) (fun q => .int q.1)]
    unfold stayL
    rw [iL, List.map_map]; rfl
  rw [List.nil_append, e1]
  walk_at "dl"
  refine ev_diZR hx rfl ?_
  rw [zip_on]
  refine lcGo_flt (fun d => match d with | .tup [d, .bl b] => if b = true then some d else none | _ => none) _ [] (small_sz (by rw [List.length_map, onGo_len]; simp; omega)) (fun y hy R R0 h1 h2 => ?_) ?_
  · obtain ⟨q, _, rfl⟩ := List.mem_map.mp hy
    dsimp only at h1 h2
    walk_at "dl"
    cases hq : q.2
    · rw [hq] at h2
      walk_at "dl"
      exact h2 rfl
    · rw [hq] at h1
      walk_at "dl"
      exact h1 _ rfl
  intro p2 hp2
  have e2 : ((onGo a [] ns).map fun q => D.tup [.int q.1, .bl q.2]).filterMap (fun d => match d with | .tup [d, .bl b] => if b = true then some d else none | _ => none) = iL (goL a ns) := by
    rw [List.filterMap_map]
    show (onGo a [] ns).filterMap (fun q => if q.2 = true then some (D.int q.1) else none) = _
    rw [filt_map (fun q : Int × Bool => q.2) (fun q => .int q.1)]
    unfold goL
    rw [iL, List.map_map]; rfl
  rw [List.nil_append, e2]
  have hne : p ≠ p2 := fun e => by rw [← e, put_same] at hp2; cases hp2
  walk_at "dl"
  exact h p p2 _ hne (by rw [put_ne hne]; exact put_same) put_same
/-! the outcomes -/
def wholeB (ns : List Int) : Bool := decide (ns.head? = some 0) && (astray ns).isNone
def minB (ns : List Int) : Bool := ns.all fun n => decide (0 ≤ n)
theorem chk_none {ns : List Int} (h : chkErr ns = none) : ns ≠ [] ∧ ns.length ≤ 60 ∧ Small ns ∧ ∀ n ∈ ns, -60 ≤ n ∧ n ≤ 60 := by
  unfold chkErr at h
  by_cases c : ns.length < 1 ∨ 60 < ns.length
  · rw [if_pos c] at h; cases h
  · rw [if_neg c] at h
    have h' := Option.map_eq_none_iff.mp h
    rw [List.find?_eq_none] at h'
    have b : ∀ n ∈ ns, -60 ≤ n ∧ n ≤ 60 := fun n hn => by
      have z := h' n hn
      simp at z
      omega
    refine ⟨fun e => c (.inl (by rw [e]; exact Nat.zero_lt_one)), by omega, fun n hn => ?_, b⟩
    have := b n hn
    omega
section
variable {x : D} {ns : List Int} {m : Sr} {P : Pv} {Ξ : Xv}
theorem is_pyramid_wp (hx : frzS x = some (iL ns)) (h1 : chkErr ns = none → P (.bl (wholeB ns)) m) (h2 : ∀ e, chkErr ns = some e → Ξ e.1 e.2 m) : wp_is_pyramid [x] m P Ξ := by
  unfold wp_is_pyramid
  walk_at "dl"
  refine check_places_wp hx (fun c => ?_) h2
  obtain ⟨n0, n1, n2, n3⟩ := chk_none c
  have h1 := h1 c
  unfold wholeB at h1
  walk_at "dl"
  refine first_astray_wp hx n2 (by omega) n0 (fun e => ?_) (fun e e2 => ?_) fun k e e2 => ?_
  · rw [decide_eq_false e] at h1
    walk_at "dl"
    exact h1
  · rw [decide_eq_true e, e2] at h1
    walk_at "dl"
    exact h1
  · rw [decide_eq_true e, e2] at h1
    walk_at "dl"
    exact h1
theorem is_strict_wp (hx : frzS x = some (iL ns)) (h1 : chkErr ns = none → ∀ m', P (.bl (wholeB ns && stL ns)) m') (h2 : ∀ e, chkErr ns = some e → Ξ e.1 e.2 m) : wp_is_strict [x] m P Ξ := by
  unfold wp_is_strict
  walk_at "dl"
  refine check_places_wp hx (fun c => ?_) h2
  obtain ⟨n0, n1, n2, n3⟩ := chk_none c
  have h1 := h1 c
  unfold wholeB stL at h1
  walk_at "dl"
  intro pb hpb
  walk_at "dl"
  refine ⟨_, hx, ?_⟩
  refine strict_loop ns [] [] _ none put_same (fun c => rfl) (by simp) (by simp; omega) (fun e m' o2 => ?_) fun e m' => ?_
  · rw [e, Bool.and_true] at h1
    walk_at "dl"
    refine first_astray_wp hx n2 (by omega) n0 (fun e => ?_) (fun e e2 => ?_) fun k e e2 => ?_
    · rw [decide_eq_false e] at h1
      walk_at "dl"
      exact h1 _
    · rw [decide_eq_true e, e2] at h1
      walk_at "dl"
      exact h1 _
    · rw [decide_eq_true e, e2] at h1
      walk_at "dl"
      exact h1 _
  · rw [e, Bool.and_false] at h1
    exact h1 m'
theorem min_all {ns : List Int} {a : Int} (ha : a ∈ ns) (hb : ∀ b ∈ ns, a ≤ b) : decide (0 ≤ a) = minB ns := by
  unfold minB
  by_cases c : 0 ≤ a
  · rw [decide_eq_true c]
    symm
    rw [List.all_eq_true]
    intro n hn
    have := hb n hn
    exact decide_eq_true (by omega)
  · rw [decide_eq_false c]
    symm
    rw [List.all_eq_false]
    exact ⟨a, ha, by rw [decide_eq_false c]; exact Bool.false_ne_true⟩
theorem is_half_wp (hx : frzS x = some (iL ns)) (h1 : chkErr ns = none → P (.bl (wholeB ns && minB ns)) m) (h2 : ∀ e, chkErr ns = some e → Ξ e.1 e.2 m) : wp_is_half [x] m P Ξ := by
  unfold wp_is_half
  walk_at "dl"
  refine check_places_wp hx (fun c => ?_) h2
  obtain ⟨n0, n1, n2, n3⟩ := chk_none c
  have h1 := h1 c
  unfold wholeB at h1
  walk_at "dl"
  refine first_astray_wp hx n2 (by omega) n0 (fun e => ?_) (fun e e2 => ?_) fun k e e2 => ?_
  · rw [decide_eq_false e] at h1
    walk_at "dl"
    exact h1
  · rw [decide_eq_true e, e2] at h1
    walk_at "dl"
    refine ev_minL (seqOf_frz hx) (by have := List.length_pos_iff.mpr n0; omega) fun a ha hb => ?_
    walk_at "dl"
    rw [min_all ha hb]
    exact h1
  · rw [decide_eq_true e, e2] at h1
    walk_at "dl"
    exact h1
theorem pushed_wp {a : Int} (hx : frzS x = some (iL ns)) (h1 : chkErr ns = none → 0 ≤ a → a < ns.length → ∀ p q m', p ≠ q → m' p = some (.lst (iL (stayL a ns))) → m' q = some (.lst (iL (goL a ns))) → P (.tup [.ref p, .ref q]) m')
    (h2 : ∀ e, chkErr ns = some e → Ξ e.1 e.2 emp) (h3 : chkErr ns = none → (a < 0 ∨ (ns.length : Int) ≤ a) → Ξ "NumberError" [("number", .int a)] emp) : wp_pushed [x, .int a] emp P Ξ := by
  unfold wp_pushed
  walk_at "dl"
  refine check_places_wp hx (fun c => ?_) h2
  obtain ⟨n0, n1, n2, n3⟩ := chk_none c
  walk_at "dl"
  refine ev_len (seqOf_frz hx) ?_
  walk_at "dl"
  rw [List.length_map]
  refine check_number_wp (fun a1 a2 => ?_) fun a1 => h3 c (by omega)
  walk_at "dl"
  refine split_at_wp hx n2 (by omega) fun p q m' hne e1 e2 _ => ?_
  refine h1 c (by omega) (by omega) p q _ hne ?_ ?_
  · show (emp p).or (m' p) = _
    rw [e1]; rfl
  · show (emp q).or (m' q) = _
    rw [e2]; rfl
theorem levels_wp (hx : frzS x = some (iL ns)) (h1 : chkErr ns = none → ns.head? = some 0 → astray ns = none → ∀ p m', m' p = some (.lst (iL (lvL ns))) → P (.ref p) m')
    (h2 : ∀ e, chkErr ns = some e → Ξ e.1 e.2 emp) (h3 : chkErr ns = none → ∀ z, ns.head? = some z → z ≠ 0 → Ξ "RootError" [("y", .int z), ("x", .int 0)] emp)
    (h4 : chkErr ns = none → ns.head? = some 0 → ∀ k z, astray ns = some k → ns[k]? = some z → Ξ "RootError" [("y", .int z), ("x", .int (k : Int))] emp) : wp_levels [x] emp P Ξ := by
  unfold wp_levels
  walk_at "dl"
  refine check_places_wp hx (fun c => ?_) h2
  obtain ⟨n0, n1, n2, n3⟩ := chk_none c
  walk_at "dl"
  refine first_astray_wp hx n2 (by omega) n0 (fun e => ?_) (fun e e2 => ?_) fun k e e2 => ?_
  · obtain ⟨z, hz⟩ : ∃ z, ns.head? = some z := by
      cases ns with
      | nil => exact (n0 rfl).elim
      | cons n r => exact ⟨n, rfl⟩
    walk_at "dl"
    refine ev_ix (seqOf_frz hx) (atI_iL (k := 0) (by rw [← List.head?_eq_getElem?]; exact hz)) ?_
    walk_at "dl"
    exact h3 c z hz (fun z0 => e (by rw [hz, z0]))
  · walk_at "dl"
    refine drop_wp hx (by omega) fun p m' hm _ => ?_
    exact h1 c e e2 p _ (by show (emp p).or (m' p) = _; rw [hm]; rfl)
  · have hk : k < ns.length := by
      have z := (List.findIdx?_eq_some_iff_getElem.mp e2).1
      unfold onL at z
      rw [List.length_map, onGo_len] at z
      exact z
    walk_at "dl"
    refine ev_ix (seqOf_frz hx) (atI_iL (List.getElem?_eq_getElem hk)) ?_
    walk_at "dl"
    exact h4 c e k _ e2 (List.getElem?_eq_getElem hk)
end
end K42
namespace K42
open PySem PySem.Spec PyProof.Rows L2 DL
/-! what is due -/
def badP (n : Int) : Bool := decide (n < -60) || decide (60 < n)
def dueL (w : Int) (ns : List Int) (a : Int) : List PyData :=
  if ns.length < 1 ∨ 60 < ns.length then [.str "size", .int (ns.length : Int), .bool false]
  else match ns.find? badP with
    | some n => [.str "number", .int n, .bool false]
    | none =>
      if w = 4 then (if a < 0 ∨ (ns.length : Int) ≤ a then [.str "number", .int a, .bool false] else [.str "told", .tuple [.list ((stayL a ns).map .int), .list ((goL a ns).map .int)]])
      else if w = 0 then [.str "told", .bool (wholeB ns)]
      else if w = 1 then [.str "told", .bool (wholeB ns && stL ns)]
      else if w = 2 then [.str "told", .bool (wholeB ns && minB ns)]
      else if ns.headD 0 ≠ 0 then [.str "root", .int 0, .int (ns.headD 0), .bool false]
      else match astray ns with
        | some k => [.str "root", .int (k : Int), .int (ns.getD k 0), .bool false]
        | none => [.str "told", .list ((lvL ns).map .int)]
theorem range_flt {α : Type} (f : α → Option D) : ∀ (l pre : List α) (all : List α), all = pre ++ l → (itemsFrom (pre.length : Int) l.length).filterMap (fun d => match d with | .int j => (all[j.toNat]?).bind f | _ => none) = l.filterMap f
  | [], pre, all, e => rfl
  | x :: l, pre, all, e => by
    show (D.int (pre.length : Int) :: itemsFrom ((pre.length : Int) + 1) l.length).filterMap _ = _
    have z := range_flt f l (pre ++ [x]) all (by rw [e, List.append_assoc]; rfl)
    rw [List.length_append] at z
    have z' : (itemsFrom ((pre.length : Int) + 1) l.length).filterMap (fun d => match d with | .int j => (all[j.toNat]?).bind f | _ => none) = l.filterMap f := z
    rw [List.filterMap_cons, List.filterMap_cons, z']
    have e1 : all[pre.length]? = some x := by rw [e]; exact get_mid rfl
    dsimp only
    rw [Int.toNat_natCast, e1]
    rfl
theorem items_mem {y : D} : ∀ (n : Nat) (i : Int), y ∈ itemsFrom i n → ∃ k : Nat, k < n ∧ y = .int (i + k)
  | 0, i, h => by cases h
  | n + 1, i, h => by
    rcases List.mem_cons.mp h with rfl | h
    · exact ⟨0, by omega, by simp⟩
    · obtain ⟨k, hk, rfl⟩ := items_mem n (i + 1) h
      refine ⟨k + 1, by omega, ?_⟩
      congr 1
      omega
theorem find_filter {α : Type} (f : α → Bool) : ∀ l : List α, l.find? f = (l.filter f).head?
  | [] => rfl
  | q :: r => by
    rw [List.find?_cons, List.filter_cons]
    cases h : f q
    · exact find_filter f r
    · rfl
theorem inD_bools (c : Bool) : ∀ bs : List Bool, inD (.bl c) (bs.map D.bl) = decide (c ∈ bs)
  | [] => rfl
  | b :: r => by
    show ((b == c) || inD (.bl c) (r.map D.bl)) = _
    rw [inD_bools c r]
    cases b <;> cases c <;> simp
theorem flat_bools : ∀ bs : List Bool, (bs.map D.bl).all flatD = true
  | [] => rfl
  | n :: r => by show (true && (r.map D.bl).all flatD) = true; rw [flat_bools r]; rfl
theorem astray_in (ns : List Int) : (astray ns).isNone = !decide (false ∈ onL 0 ns) := by
  unfold astray
  cases h : (onL 0 ns).findIdx? fun b => !b with
  | none =>
    rw [List.findIdx?_eq_none_iff] at h
    have e : ¬ false ∈ onL 0 ns := fun z => by simpa using h false z
    rw [decide_eq_false e]; rfl
  | some k =>
    obtain ⟨h1, h2, _⟩ := List.findIdx?_eq_some_iff_getElem.mp h
    have e : false ∈ onL 0 ns := by
      have h3 : (onL 0 ns)[k] = false := by simpa using h2
      exact List.mem_iff_getElem.mpr ⟨k, h1, h3⟩
    rw [decide_eq_true e]; rfl
theorem astray_lt {ns : List Int} {k : Nat} (h : astray ns = some k) : k < ns.length := by
  have z := (List.findIdx?_eq_some_iff_getElem.mp h).1
  unfold onL at z
  rw [List.length_map, onGo_len] at z
  exact z
theorem law_due_wp {x : D} {ns : List Int} {w a : Int} {m : Sr} {P : Pv} {Ξ : Xv} (hx : frzL x = some (iL ns)) (hl : ns.length ≤ 1000) (h : ∀ m', P (.lst (fzA (dueL w ns a))) m') : wp__law_due [.int w, x, .int a] m P Ξ := by
  have hxS := frzS_of hx
  have hxO : ∀ {m}, seqOf m x = some (iL ns) := fun {m} => seqOf_frz hxS
  unfold wp__law_due
  walk_at "dl"
  refine ev_len hxO ?_
  walk_at "dl"
  rw [List.length_map]
  have size : (ns.length < 1 ∨ 60 < ns.length) → P (.lst [.str "size", .int (ns.length : Int), .bl false]) m := fun c => by
    have z := h m
    unfold dueL at z
    rw [if_pos c] at z
    exact z
  apply ev_ite <;> intro c1
  · walk_at "dl"
    refine ev_len hxO ?_
    walk_at "dl"
    rw [List.length_map]
    exact size (by omega)
  walk_at "dl"
  refine ev_len hxO ?_
  walk_at "dl"
  rw [List.length_map]
  apply ev_ite <;> intro c2
  · walk_at "dl"
    refine ev_len hxO ?_
    walk_at "dl"
    rw [List.length_map]
    exact size (by omega)
  have c0 : ¬ (ns.length < 1 ∨ 60 < ns.length) := by omega
  walk_at "dl"
  refine ⟨_, hxS, ?_⟩
  refine lcGo_flt (fun d => match d with | .int n => if badP n = true then some (.int n) else none | _ => none) _ [] (small_sz (by rw [List.length_map]; simp; omega)) (fun y hy R R0 h1 h2 => ?_) ?_
  · obtain ⟨n, _, rfl⟩ := List.mem_map.mp hy
    dsimp only at h1 h2
    unfold badP at h1 h2
    walk_at "dl"
    apply ev_ite <;> intro a1
    · walk_at "dl"
      exact h1 _ (by rw [if_pos (by rw [decide_eq_true a1]; rfl)])
    · walk_at "dl"
      apply ev_ite <;> intro a2
      · walk_at "dl"
        exact h1 _ (by rw [if_pos (by rw [decide_eq_true a2, Bool.or_true])])
      · exact h2 (by rw [if_neg (by rw [decide_eq_false a1, decide_eq_false a2]; exact Bool.false_ne_true)])
  have ef : (iL ns).filterMap (fun d => match d with | .int n => if badP n = true then some (D.int n) else none | _ => none) = iL (ns.filter badP) := by
    rw [iL, List.filterMap_map]
    exact filt_map badP D.int ns
  rw [List.nil_append, ef]
  have hf := find_filter badP ns
  cases hfl : ns.filter badP with
  | cons n r =>
    rw [hfl] at hf
    walk_at "dl"
    refine ev_nyI ?_
    walk_at "dl"
    refine ev_ix (ds := iL (n :: r)) (y := .int n) rfl (atI_iL (k := 0) rfl) ?_
    walk_at "dl"
    have z := h m
    unfold dueL at z
    rw [if_neg c0, hf] at z
    exact z
  | nil =>
    rw [hfl] at hf
    unfold dueL at h
    rw [if_neg c0, hf] at h
    have h : ∀ m' : Sr, P (.lst (fzA (if w = 4 then _ else _))) m' := h
    have hn : ∀ n ∈ ns, -60 ≤ n ∧ n ≤ 60 := fun n hn => by
      have z := List.filter_eq_nil_iff.mp hfl n hn
      unfold badP at z
      simp at z
      omega
    have hb : Small ns := fun n hh => by have := hn n hh; omega
    have h0 : ns ≠ [] := fun e => c0 (.inl (by rw [e]; exact Nat.zero_lt_one))
    walk_at "dl"
    refine ev_nnI ?_
    walk_at "dl"
    apply ev_ite <;> intro w4
    · rw [if_pos w4] at h
      walk_at "dl"
      apply ev_ite <;> intro a1
      · rw [if_pos (.inl a1)] at h
        walk_at "dl"
        exact h m
      walk_at "dl"
      refine ev_len hxO ?_
      walk_at "dl"
      rw [List.length_map]
      apply ev_ite <;> intro a2
      · rw [if_pos (.inr a2)] at h
        walk_at "dl"
        exact h m
      rw [if_neg (by omega)] at h
      walk_at "dl"
      obtain ⟨an, rfl⟩ : ∃ an : Nat, a = an := ⟨a.toNat, by omega⟩
      refine law_on_wp hxS (by omega) (by omega) fun m' => ?_
      walk_at "dl"
      refine ev_len hxO ?_
      walk_at "dl"
      rw [List.length_map]
      refine ev_dr1R (by omega) (by omega) ?_
      rw [Int.toNat_natCast, items_0]
      have lk : ∀ k : Nat, k < ns.length → ∃ q, (onGo an [] ns)[k]? = some q ∧ ns[k]? = some q.1 ∧ ((onL an ns).map D.bl)[k]? = some (.bl q.2) := fun k hk => by
        have hk' : k < (onGo an [] ns).length := by rw [onGo_len]; exact hk
        refine ⟨_, List.getElem?_eq_getElem hk', ?_, ?_⟩
        · have z := onGo_fst an ns []
          rw [List.map_nil, List.nil_append] at z
          have z2 : ((onGo an [] ns).map (·.1))[k]? = ns[k]? := congrArg (·[k]?) z
          rw [← z2, List.getElem?_map, List.getElem?_eq_getElem hk']; rfl
        · unfold onL
          rw [List.map_map, List.getElem?_map, List.getElem?_eq_getElem hk']; rfl
      have both : ∀ (f : Int × Bool → Option D), (itemsFrom 0 ns.length).filterMap (fun d => match d with | .int j => ((onGo an [] ns)[j.toNat]?).bind f | _ => none) = (onGo an [] ns).filterMap f := fun f => by
        have z := range_flt f (onGo an [] ns) [] _ rfl
        rw [onGo_len] at z
        exact z
      refine lcGo_flt (fun d => match d with | .int j => ((onGo an [] ns)[j.toNat]?).bind (fun q => if (!q.2) = true then some (.int q.1) else none) | _ => none) _ [] (small_sz (by rw [items_len]; simp; omega)) (fun y hy R R0 h1 h2 => ?_) ?_
      · obtain ⟨k, hk, rfl⟩ := items_mem _ _ hy
        rw [Int.zero_add] at h1 h2 ⊢
        obtain ⟨q, q1, q2, q3⟩ := lk k hk
        dsimp only at h1 h2
        rw [Int.toNat_natCast, q1] at h1 h2
        walk_at "dl"
        refine ev_ix rfl (atI_at q3) ?_
        walk_at "dl"
        cases hq : q.2
        · walk_at "dl"
          refine ev_ix hxO (atI_iL q2) ?_
          exact h1 _ (by rw [Option.bind_some, hq]; rfl)
        · walk_at "dl"
          exact h2 (by rw [Option.bind_some, hq]; rfl)
      rw [List.nil_append, both, filt_map (fun q : Int × Bool => !q.2) (fun q => .int q.1)]
      walk_at "dl"
      refine ev_len hxO ?_
      walk_at "dl"
      rw [List.length_map]
      refine ev_dr1R (by omega) (by omega) ?_
      rw [Int.toNat_natCast, items_0]
      refine lcGo_flt (fun d => match d with | .int j => ((onGo an [] ns)[j.toNat]?).bind (fun q => if q.2 = true then some (.int q.1) else none) | _ => none) _ [] (small_sz (by rw [items_len]; simp; omega)) (fun y hy R R0 h1 h2 => ?_) ?_
      · obtain ⟨k, hk, rfl⟩ := items_mem _ _ hy
        rw [Int.zero_add] at h1 h2 ⊢
        obtain ⟨q, q1, q2, q3⟩ := lk k hk
        dsimp only at h1 h2
        rw [Int.toNat_natCast, q1] at h1 h2
        walk_at "dl"
        refine ev_ix rfl (atI_at q3) ?_
        walk_at "dl"
        cases hq : q.2
        · walk_at "dl"
          exact h2 (by rw [Option.bind_some, hq]; rfl)
        · walk_at "dl"
          refine ev_ix hxO (atI_iL q2) ?_
          exact h1 _ (by rw [Option.bind_some, hq]; rfl)
      rw [List.nil_append, both, filt_map (fun q : Int × Bool => q.2) (fun q => .int q.1)]
      walk_at "dl"
      have z := h m
      simp only [fzA, fz, fzA_ints] at z
      unfold stayL goL at z
      rw [iL, iL, List.map_map, List.map_map] at z
      exact z
    rw [if_neg w4] at h
    walk_at "dl"
    refine law_on_wp (a := 0) hxS (by omega) (by omega) fun m' => ?_
    walk_at "dl"
    obtain ⟨n0, hn0, hd⟩ : ∃ n0, ns[0]? = some n0 ∧ ns.head? = some n0 := by
      cases ns with
      | nil => exact (h0 rfl).elim
      | cons n r => exact ⟨n, rfl, rfl⟩
    have hD : ns.headD 0 = n0 := by rw [List.headD_eq_head?_getD, hd]; rfl
    refine ev_ix hxO (atI_iL (k := 0) hn0) ?_
    walk_at "dl"
    have h : ∀ m' : Sr, P (.lst (fzA (if w = 0 then _ else _))) m' := h
    rw [hD] at h
    by_cases c : n0 = 0
    · rw [decide_eq_true c]
      walk_at "dl"
      refine ev_in rfl rfl (flat_bools _) ?_
      rw [if_pos rfl, inD_bools]
      have hw : wholeB ns = !decide (false ∈ onL 0 ns) := by
        unfold wholeB
        rw [hd, c, decide_eq_true rfl, Bool.true_and, astray_in]
      have ha := astray_in ns
      cases hk : astray ns with
      | none =>
        rw [hk] at ha
        rw [← ha] at hw
        have e0 : (!decide (false ∈ onL ((0 : Nat) : Int) ns)) = true := ha.symm
        rw [e0]
        walk_at "dl"
        apply ev_ite <;> intro w0
        · rw [if_pos w0, hw] at h
          walk_at "dl"
          exact h m
        rw [if_neg w0] at h
        walk_at "dl"
        apply ev_ite <;> intro w1
        · rw [if_pos w1, hw] at h
          walk_at "dl"
          refine law_strict_wp hx (by omega) ?_
          walk_at "dl"
          exact h m
        rw [if_neg w1] at h
        walk_at "dl"
        apply ev_ite <;> intro w2
        · rw [if_pos w2, hw] at h
          walk_at "dl"
          refine ev_minL hxO (by have := List.length_pos_iff.mpr h0; omega) fun a ha hb => ?_
          walk_at "dl"
          rw [min_all ha hb]
          exact h m
        rw [if_neg w2, if_neg (fun z => z c), hk] at h
        walk_at "dl"
        refine ev_ix hxO (atI_iL (k := 0) hn0) ?_
        walk_at "dl"
        rw [decide_eq_true c]
        walk_at "dl"
        refine law_levels_wp hxS (by omega) h0 fun m' => ?_
        walk_at "dl"
        have z := h m
        simp only [fzA, fz, fzA_ints] at z
        exact z
      | some k =>
        rw [hk] at ha
        rw [← ha] at hw
        have e0 : (!decide (false ∈ onL ((0 : Nat) : Int) ns)) = false := ha.symm
        have hkl := astray_lt hk
        obtain ⟨hk1, hk2, hk3⟩ := List.findIdx?_eq_some_iff_getElem.mp hk
        have ix : ∀ {m : Sr} {R : Pv}, R (.int (k : Int)) m → mIndex (.lst ((onL ((0 : Nat) : Int) ns).map D.bl)) [.bl false] m R := fun {m R} r => by
          refine ev_index (z := .bl false) rfl rfl (flat_bools _) (j := k) ?_ rfl (fun i z hi hz => ?_) r
          · rw [List.getElem?_map, List.getElem?_eq_getElem (show k < (onL ((0 : Nat) : Int) ns).length from hk1)]
            have e : (onL 0 ns)[k] = false := by simpa using hk2
            show some (D.bl ((onL 0 ns)[k])) = _
            rw [e]
          · have lt : i < (onL 0 ns).length := Nat.lt_trans hi hk1
            rw [List.getElem?_map, List.getElem?_eq_getElem (show i < (onL ((0 : Nat) : Int) ns).length from lt)] at hz
            have e := hk3 i hi
            have e2 : (onL 0 ns)[i] = true := by simpa using e
            have hz : some (D.bl ((onL 0 ns)[i])) = some z := hz
            rw [e2] at hz
            cases hz
            rfl
        rw [e0]
        walk_at "dl"
        apply ev_ite <;> intro w0
        · rw [if_pos w0, hw] at h
          walk_at "dl"
          exact h m
        rw [if_neg w0] at h
        walk_at "dl"
        apply ev_ite <;> intro w1
        · rw [if_pos w1, hw] at h
          walk_at "dl"
          exact h m
        rw [if_neg w1] at h
        walk_at "dl"
        apply ev_ite <;> intro w2
        · rw [if_pos w2, hw] at h
          walk_at "dl"
          exact h m
        rw [if_neg w2] at h
        walk_at "dl"
        rw [if_neg (fun z => z c), hk] at h
        refine ev_ix hxO (atI_iL (k := 0) hn0) ?_
        walk_at "dl"
        rw [decide_eq_true c]
        walk_at "dl"
        refine ev_isL rfl ?_
        walk_at "dl"
        refine ix ?_
        walk_at "dl"
        refine ev_isL rfl ?_
        walk_at "dl"
        refine ix ?_
        refine ev_ix hxO (atI_iL (List.getElem?_eq_getElem hkl)) ?_
        walk_at "dl"
        have z : P (.lst (fzA [.str "root", .int (k : Int), .int (ns.getD k 0), .bool false])) m := h m
        rw [show ns.getD k 0 = ns[k] by rw [List.getD_eq_getElem?_getD, List.getElem?_eq_getElem hkl]; rfl] at z
        exact z
    · rw [decide_eq_false c]
      have hw : wholeB ns = false := by
        unfold wholeB
        rw [hd, decide_eq_false (fun z => c (Option.some.inj z))]; rfl
      walk_at "dl"
      apply ev_ite <;> intro w0
      · rw [if_pos w0, hw] at h
        walk_at "dl"
        exact h m
      rw [if_neg w0] at h
      walk_at "dl"
      apply ev_ite <;> intro w1
      · rw [if_pos w1, hw] at h
        walk_at "dl"
        exact h m
      rw [if_neg w1] at h
      walk_at "dl"
      apply ev_ite <;> intro w2
      · rw [if_pos w2, hw] at h
        walk_at "dl"
        exact h m
      rw [if_neg w2] at h
      walk_at "dl"
      rw [if_pos c] at h
      refine ev_ix hxO (atI_iL (k := 0) hn0) ?_
      walk_at "dl"
      rw [decide_eq_false c]
      walk_at "dl"
      refine ev_ix hxO (atI_iL (k := 0) hn0) ?_
      walk_at "dl"
      exact h m
end K42
namespace K42
open PySem PySem.Spec PyProof.Rows L2 DL
theorem uni_new {m m' : Sr} {p : Addr} {o : MO} (d : ∀ p o, m p = some o → m' p = none) (h : m' p = some o) : uni m m' p = some o := by
  unfold uni
  cases e : m p with
  | none => exact h
  | some u => rw [d p u e] at h; cases h
mutual
theorem py_grow {m m' : Sr} (k : ∀ p o, m p = some o → m' p = some o) : ∀ {x : D} {d : PyData}, Py m x d → Py m' x d
  | _, _, .non => .non
  | _, _, .bl b => .bl b
  | _, _, .int i => .int i
  | _, _, .str x => .str x
  | _, _, .lst h => .lst (pyA_grow k h)
  | _, _, .tup h => .tup (pyA_grow k h)
  | _, _, .wtp h => .wtp (pyA_grow k h)
  | _, _, .ref e h => .ref (k _ _ e) (pyA_grow k h)
theorem pyA_grow {m m' : Sr} (k : ∀ p o, m p = some o → m' p = some o) : ∀ {x : List D} {d : List PyData}, PyA m x d → PyA m' x d
  | _, _, .nil => .nil
  | _, _, .cons h r => .cons (py_grow k h) (pyA_grow k r)
end
theorem law_same_wp {x y : D} {d : PyData} {m : Sr} {P : Pv} {Ξ : Xv} (hd : OkD d) (hx : Py m x d) (hy : Py m y d) (lx : (lstOf m x).isSome = true) (ly : (lstOf m y).isSome = true) (h : P (.bl true) m) : wp__law_same [x, y] m P Ξ := by
  unfold wp__law_same
  walk_at "dl"
  refine ev_eqD hx hy hd.shaped hd.shaped ?_
  rw [hd.eqv]
  walk_at "dl"
  refine ev_repr lx hx hd.shaped hd.showable hd.short ?_
  walk_at "dl"
  refine ev_repr ly hy hd.shaped hd.showable hd.short ?_
  walk_at "dl"
  rw [decide_eq_true rfl]
  exact h
/-! asking -/
section
variable {D₁ : Ed} {r0 r1 r2 r3 r4 : Option D} {m : Sr} {n k : Int}
theorem ask_number (h : ∀ p, m p = none → D₁.rt (.ref p) (put m p (.lst [.str "number", .int n, .bl false]))) : dHs exmT D₁ hs__law_ask_1 "NumberError" [("number", .int n)] [r0, r1, r2, r3, r4] m := by
  unfold hs__law_ask_1
  refine ev_miss (by decide +kernel) (ev_hit (by decide +kernel) fun a cls d hd => ?_)
  cases d with
  | none => cases hd rfl
  | some dx =>
    dsimp only
    walk_at "dl"
    refine ev_xfR (by rfl) ?_
    walk_at "dl"
    refine ⟨"NumberError", dx, _, ["RootError", "SizeError", "WordError"], false, rfl, rfl, by decide +kernel, ?_⟩
    walk_at "dl"
    exact h
theorem ask_size (h : ∀ p, m p = none → D₁.rt (.ref p) (put m p (.lst [.str "size", .int n, .bl false]))) : dHs exmT D₁ hs__law_ask_1 "SizeError" [("count", .int n)] [r0, r1, r2, r3, r4] m := by
  unfold hs__law_ask_1
  refine ev_miss (by decide +kernel) (ev_miss (by decide +kernel) (ev_hit (by decide +kernel) fun a cls d hd => ?_))
  cases d with
  | none => cases hd rfl
  | some dx =>
    dsimp only
    walk_at "dl"
    refine ev_xfR (by rfl) ?_
    walk_at "dl"
    refine ⟨"SizeError", dx, _, ["NumberError", "RootError", "WordError"], false, rfl, rfl, by decide +kernel, ?_⟩
    walk_at "dl"
    exact h
theorem ask_root (h : ∀ p, m p = none → D₁.rt (.ref p) (put m p (.lst [.str "root", .int n, .int k, .bl false]))) : dHs exmT D₁ hs__law_ask_1 "RootError" [("y", .int k), ("x", .int n)] [r0, r1, r2, r3, r4] m := by
  unfold hs__law_ask_1
  refine ev_hit (by decide +kernel) fun a cls d hd => ?_
  cases d with
  | none => cases hd rfl
  | some dx =>
    dsimp only
    walk_at "dl"
    refine ev_xfR (by rfl) ?_
    walk_at "dl"
    refine ev_xfR (by rfl) ?_
    walk_at "dl"
    refine ⟨"RootError", dx, _, ["NumberError", "SizeError", "WordError"], false, rfl, rfl, by decide +kernel, ?_⟩
    walk_at "dl"
    exact h
end
/-- what an answer is -/
structure Told (w : Int) (es : List PyData) (p : Addr) (m : Sr) : Prop where
  py : Py m (.ref p) (.list es)
  lst : ∃ ys, m p = some (.lst ys)
  three : w = 3 → es.head? = some (.str "told") → ∃ q zs, m p = some (.lst [.str "told", .ref q]) ∧ q ≠ p ∧ m q = some (.lst zs) ∧ zs.length ≤ 1000
  four : w = 4 → es.head? = some (.str "told") → ∃ q r zs us, m p = some (.lst [.str "told", .tup [.ref q, .ref r]]) ∧ q ≠ p ∧ r ≠ p ∧ q ≠ r ∧ m q = some (.lst zs) ∧ m r = some (.lst us) ∧ zs.length ≤ 1000 ∧ us.length ≤ 1000
theorem Told.flat {w : Int} {es : List PyData} {p : Addr} {m : Sr} {ys : List D} (hm : m p = some (.lst ys)) (h : PyA m ys es) (h3 : w = 3 → es.head? ≠ some (.str "told")) (h4 : w = 4 → es.head? ≠ some (.str "told")) : Told w es p m :=
  ⟨.ref hm h, ⟨ys, hm⟩, (fun a b => (h3 a b).elim), fun a b => (h4 a b).elim⟩
theorem Told.uni {w : Int} {es : List PyData} {p : Addr} {m m' : Sr} (d : ∀ p o, m p = some o → m' p = none) (h : Told w es p m') : Told w es p (uni m m') := by
  have g : ∀ q o, m' q = some o → DL.uni m m' q = some o := fun q o e => uni_new d e
  refine ⟨py_grow g h.py, ?_, fun a b => ?_, fun a b => ?_⟩
  · obtain ⟨ys, e⟩ := h.lst
    exact ⟨ys, g _ _ e⟩
  · obtain ⟨q, zs, e1, e2, e3, e4⟩ := h.three a b
    exact ⟨q, zs, g _ _ e1, e2, g _ _ e3, e4⟩
  · obtain ⟨q, r, zs, us, e1, e2, e3, e4, e5, e6, e7, e8⟩ := h.four a b
    exact ⟨q, r, zs, us, g _ _ e1, e2, e3, e4, g _ _ e5, g _ _ e6, e7, e8⟩
theorem chk_due {ns : List Int} {w a : Int} {e : Str × List (Str × D)} (h : chkErr ns = some e) : (e = (("SizeError", [("count", D.int (ns.length : Int))]) : Str × List (Str × D)) ∧ dueL w ns a = [.str "size", .int (ns.length : Int), .bool false]) ∨ ∃ n, e = (("NumberError", [("number", D.int n)]) : Str × List (Str × D)) ∧ dueL w ns a = [.str "number", .int n, .bool false] := by
  unfold chkErr at h
  unfold dueL
  by_cases c : ns.length < 1 ∨ 60 < ns.length
  · rw [if_pos c] at h ⊢
    exact .inl ⟨(Option.some.inj h).symm, rfl⟩
  · rw [if_neg c] at h ⊢
    obtain ⟨n, hn, e⟩ := Option.map_eq_some_iff.mp h
    refine .inr ⟨n, e.symm, ?_⟩
    rw [show ns.find? badP = some n from hn]
theorem no_told {s : Str} {r : List PyData} (h : s ≠ "told") : (PyData.str s :: r).head? ≠ some (.str "told") := fun z => h (PyData.str.inj (Option.some.inj z))
theorem due_chk {ns : List Int} {w a : Int} (h : chkErr ns = none) : dueL w ns a =
      if w = 4 then (if a < 0 ∨ (ns.length : Int) ≤ a then [.str "number", .int a, .bool false] else [.str "told", .tuple [.list ((stayL a ns).map .int), .list ((goL a ns).map .int)]])
      else if w = 0 then [.str "told", .bool (wholeB ns)]
      else if w = 1 then [.str "told", .bool (wholeB ns && stL ns)]
      else if w = 2 then [.str "told", .bool (wholeB ns && minB ns)]
      else if ns.headD 0 ≠ 0 then [.str "root", .int 0, .int (ns.headD 0), .bool false]
      else match astray ns with
        | some k => [.str "root", .int (k : Int), .int (ns.getD k 0), .bool false]
        | none => [.str "told", .list ((lvL ns).map .int)] := by
  unfold chkErr at h
  unfold dueL
  by_cases c : ns.length < 1 ∨ 60 < ns.length
  · rw [if_pos c] at h; cases h
  · rw [if_neg c] at h ⊢
    rw [show ns.find? badP = none from Option.map_eq_none_iff.mp h]
    try rfl
theorem stay_len (a : Int) (ns : List Int) : (stayL a ns).length ≤ ns.length := by
  unfold stayL
  rw [List.length_map]
  exact Nat.le_trans (List.length_filter_le _ _) (Nat.le_of_eq (onGo_len a ns))
theorem go_len (a : Int) (ns : List Int) : (goL a ns).length ≤ ns.length := by
  unfold goL
  rw [List.length_map]
  exact Nat.le_trans (List.length_filter_le _ _) (Nat.le_of_eq (onGo_len a ns))
theorem lvGo_len : ∀ (ns : List Int) (dn : List (Int × Int)), (lvGo dn ns).length = dn.length + ns.length
  | [], dn => rfl
  | p :: r, dn => by rw [lvGo, lvGo_len r, List.length_append]; simp; omega
theorem lv_len (ns : List Int) : (lvL ns).length = ns.length := by
  unfold lvL
  rw [List.length_map, lvGo_len]; simp
theorem tell {w : Int} {es : List PyData} {m : Sr} {P : Pv} {ys : List D} (hk : ∀ p m', Told w es p m' → P (.ref p) m') (h : ∀ p, Told w es p (put m p (.lst ys))) : ∀ p, m p = none → P (.ref p) (put m p (.lst ys)) := fun p _ => hk p _ (h p)
theorem law_ask_wp {x : D} {ns : List Int} {w a : Int} {P : Pv} {Ξ : Xv} (hw : w = 0 ∨ w = 1 ∨ w = 2 ∨ w = 3 ∨ w = 4) (hx : frzS x = some (iL ns)) (h : ∀ p m', Told w (dueL w ns a) p m' → P (.ref p) m') : wp__law_ask [.int w, x, .int a] emp P Ξ := by
  have err : ∀ {D₁ : Ed} {r0 r1 r2 r3 r4 : Option D} (e : Str × List (Str × D)), chkErr ns = some e → (∀ v m, P v m → D₁.rt v m) → dHs exmT D₁ hs__law_ask_1 e.1 e.2 [r0, r1, r2, r3, r4] emp := fun {D₁ r0 r1 r2 r3 r4} e he hD => by
    rcases chk_due (w := w) (a := a) he with ⟨rfl, ed⟩ | ⟨n, rfl, ed⟩
    · refine ask_size fun p _ => hD _ _ (h p _ ?_)
      rw [ed]
      exact .flat put_same (.cons (.str _) (.cons (.int _) (.cons (.bl _) .nil))) (fun _ => no_told (by decide +kernel)) fun _ => no_told (by decide +kernel)
    · refine ask_number fun p _ => hD _ _ (h p _ ?_)
      rw [ed]
      exact .flat put_same (.cons (.str _) (.cons (.int _) (.cons (.bl _) .nil))) (fun _ => no_told (by decide +kernel)) fun _ => no_told (by decide +kernel)
  unfold wp__law_ask
  walk_at "dl"
  rcases hw with rfl | rfl | rfl | rfl | rfl
  · rw [show decide ((0 : Int) = 0) = true from rfl]
    walk_at "dl"
    refine is_pyramid_wp hx (fun c => ?_) fun e he => err e he fun _ _ z => z
    walk_at "dl"
    intro p hp
    refine h p _ ?_
    rw [due_chk c]
    exact .flat put_same (.cons (.str _) (.cons (.bl _) .nil)) (fun z => by cases z) fun z => by cases z
  · rw [show decide ((1 : Int) = 0) = false from rfl]
    walk_at "dl"
    rw [show decide ((1 : Int) = 1) = true from rfl]
    walk_at "dl"
    refine is_strict_wp hx (fun c m' => ?_) fun e he => err e he fun _ _ z => z
    walk_at "dl"
    intro p hp
    refine h p _ ?_
    rw [due_chk c]
    exact .flat put_same (.cons (.str _) (.cons (.bl _) .nil)) (fun z => by cases z) fun z => by cases z
  · rw [show decide ((2 : Int) = 0) = false from rfl]
    walk_at "dl"
    rw [show decide ((2 : Int) = 1) = false from rfl]
    walk_at "dl"
    rw [show decide ((2 : Int) = 2) = true from rfl]
    walk_at "dl"
    refine is_half_wp hx (fun c => ?_) fun e he => err e he fun _ _ z => z
    walk_at "dl"
    intro p hp
    refine h p _ ?_
    rw [due_chk c]
    exact .flat put_same (.cons (.str _) (.cons (.bl _) .nil)) (fun z => by cases z) fun z => by cases z
  · rw [show decide ((3 : Int) = 0) = false from rfl]
    walk_at "dl"
    rw [show decide ((3 : Int) = 1) = false from rfl]
    walk_at "dl"
    rw [show decide ((3 : Int) = 2) = false from rfl]
    walk_at "dl"
    rw [show decide ((3 : Int) = 3) = true from rfl]
    walk_at "dl"
    refine levels_wp hx (fun c e1 e2 q m' hq d => ?_) (fun e he => err e he fun _ _ z => z) (fun c z hz z0 => ?_) fun c e1 k z hk hz => ?_
    · walk_at "dl"
      intro p hp
      have hqp : q ≠ p := fun e => by rw [← e, uni_new d hq] at hp; cases hp
      have hq' : (put (DL.uni emp m') p (.lst [.str "told", .ref q])) q = some (.lst (iL (lvL ns))) := by rw [put_ne hqp]; exact uni_new d hq
      refine h p _ ?_
      have e3 : ns.headD 0 = 0 := by rw [List.headD_eq_head?_getD, e1]; rfl
      rw [due_chk c, e2, e3]
      refine ⟨.ref put_same (.cons (.str _) (.cons (.ref hq' (PyA.ints _ _)) .nil)), ⟨_, put_same⟩, fun _ _ => ⟨q, _, put_same, hqp, hq', ?_⟩, fun z => by cases z⟩
      rw [List.length_map, lv_len]
      have := (chk_none c).2.1
      omega
    · refine ask_root fun p _ => h p _ ?_
      have e3 : ns.headD 0 = z := by rw [List.headD_eq_head?_getD, hz]; rfl
      rw [due_chk c, e3, if_neg (by decide), if_neg (by decide), if_neg (by decide), if_neg (by decide), if_pos z0]
      exact .flat put_same (.cons (.str _) (.cons (.int _) (.cons (.int _) (.cons (.bl _) .nil)))) (fun _ => no_told (by decide +kernel)) fun _ => no_told (by decide +kernel)
    · refine ask_root fun p _ => h p _ ?_
      have e3 : ns.headD 0 = 0 := by rw [List.headD_eq_head?_getD, e1]; rfl
      have e4 : ns.getD k 0 = z := by rw [List.getD_eq_getElem?_getD, hz]; rfl
      rw [due_chk c, e3, hk, if_neg (by decide), if_neg (by decide), if_neg (by decide), if_neg (by decide), if_neg (by decide)]
      dsimp only
      rw [e4]
      exact .flat put_same (.cons (.str _) (.cons (.int _) (.cons (.int _) (.cons (.bl _) .nil)))) (fun _ => no_told (by decide +kernel)) fun _ => no_told (by decide +kernel)
  · rw [show decide ((4 : Int) = 0) = false from rfl]
    walk_at "dl"
    rw [show decide ((4 : Int) = 1) = false from rfl]
    walk_at "dl"
    rw [show decide ((4 : Int) = 2) = false from rfl]
    walk_at "dl"
    rw [show decide ((4 : Int) = 3) = false from rfl]
    walk_at "dl"
    refine pushed_wp hx (fun c a1 a2 q r m' hne hq hr d => ?_) (fun e he => err e he fun _ _ z => z) fun c a1 => ?_
    · walk_at "dl"
      intro p hp
      have hqp : q ≠ p := fun e => by rw [← e, uni_new d hq] at hp; cases hp
      have hrp : r ≠ p := fun e => by rw [← e, uni_new d hr] at hp; cases hp
      have hq' : (put (DL.uni emp m') p (.lst [.str "told", .tup [.ref q, .ref r]])) q = some (.lst (iL (stayL a ns))) := by rw [put_ne hqp]; exact uni_new d hq
      have hr' : (put (DL.uni emp m') p (.lst [.str "told", .tup [.ref q, .ref r]])) r = some (.lst (iL (goL a ns))) := by rw [put_ne hrp]; exact uni_new d hr
      refine h p _ ?_
      have := (chk_none c).2.1
      have := stay_len a ns
      have := go_len a ns
      rw [due_chk c, if_pos rfl, if_neg (by omega)]
      refine ⟨.ref put_same (.cons (.str _) (.cons (.tup (.cons (.ref hq' (PyA.ints _ _)) (.cons (.ref hr' (PyA.ints _ _)) .nil))) .nil)), ⟨_, put_same⟩, (fun z => by cases z), fun _ _ => ⟨q, r, _, _, put_same, hqp, hrp, hne, hq', hr', ?_, ?_⟩⟩
      · rw [List.length_map]; omega
      · rw [List.length_map]; omega
    · refine ask_number fun p _ => h p _ ?_
      rw [due_chk c, if_pos rfl, if_pos a1]
      exact .flat put_same (.cons (.str _) (.cons (.int _) (.cons (.bl _) .nil))) (fun _ => no_told (by decide +kernel)) fun _ => no_told (by decide +kernel)
end K42
namespace K42
open PySem PySem.Spec PyProof.Rows L2 DL
/-! all that is told can be shown -/
def Fits (n : Int) : Prop := n.natAbs < 10 ^ 40
theorem small_fits {n : Int} (h1 : -1000000 ≤ n) (h2 : n ≤ 1000000) : Fits n := by
  have : n.natAbs ≤ 1000000 := by omega
  exact Nat.lt_of_le_of_lt this (by decide)
theorem stay_mem {a : Int} {ns : List Int} {n : Int} (h : n ∈ stayL a ns) : n ∈ ns := by
  unfold stayL at h
  obtain ⟨q, hq, rfl⟩ := List.mem_map.mp h
  have z := onGo_fst a ns []
  rw [List.map_nil, List.nil_append] at z
  rw [← z]
  exact List.mem_map.mpr ⟨q, (List.mem_filter.mp hq).1, rfl⟩
theorem go_mem {a : Int} {ns : List Int} {n : Int} (h : n ∈ goL a ns) : n ∈ ns := by
  unfold goL at h
  obtain ⟨q, hq, rfl⟩ := List.mem_map.mp h
  have z := onGo_fst a ns []
  rw [List.map_nil, List.nil_append] at z
  rw [← z]
  exact List.mem_map.mpr ⟨q, (List.mem_filter.mp hq).1, rfl⟩
theorem lv_bound : ∀ (ns : List Int) (dn : List (Int × Int)) (B : Int), 0 ≤ B → (∀ q ∈ dn, 0 ≤ q.2 ∧ q.2 ≤ B) → ∀ q ∈ lvGo dn ns, 0 ≤ q.2 ∧ q.2 ≤ B + 2 * (ns.length : Int)
  | [], dn, B, hB, h, q, hq => by
    have := h q hq
    simp only [List.length_nil]
    omega
  | p :: r, dn, B, hB, h, q, hq => by
    rw [lvGo] at hq
    have hi1 : 0 ≤ hi dn p ∧ hi dn p ≤ B + 2 := by
      obtain ⟨h1, h2, h3⟩ := hi_spec p dn 0
      refine ⟨h1, ?_⟩
      rcases h3 with h3 | ⟨q, hq, z1, z2⟩
      · show dn.foldl (lvStep p) 0 ≤ _
        omega
      · show dn.foldl (lvStep p) 0 ≤ _
        have b := h q hq
        have : 0 ≤ ab (q.1 - p) := by unfold ab; split <;> omega
        omega
    have z := lv_bound r (dn ++ [(p, hi dn p)]) (B + 2) (by omega) (fun q hq => ?_) q hq
    · rw [List.length_cons]; omega
    · rcases List.mem_append.mp hq with hq | hq
      · have := h q hq; omega
      · rw [List.mem_singleton.mp hq]; exact hi1
theorem lv_fits {ns : List Int} (hl : ns.length ≤ 1000) : ∀ n ∈ lvL ns, Fits n := fun n hn => by
  unfold lvL at hn
  obtain ⟨q, hq, rfl⟩ := List.mem_map.mp hn
  have := lv_bound ns [] 0 (Int.le_refl _) (fun q hq => by cases hq) q hq
  exact small_fits (by omega) (by omega)
theorem s_told : PySem.PyData.strOk "told" = true := by decide +kernel
theorem s_root : PySem.PyData.strOk "root" = true := by decide +kernel
theorem s_number : PySem.PyData.strOk "number" = true := by decide +kernel
theorem s_size : PySem.PyData.strOk "size" = true := by decide +kernel
theorem ok_flat {s : Str} {r : List PyData} (hs : PySem.PyData.strOk s = true) (hz : s.cps.size ≤ 100) (hf : fitAll r = true) (hd : PyData.depthAll r ≤ 10) (hb : PyData.bulkAll r ≤ 10000) : OkD (.list (.str s :: r)) := by
  refine ⟨?_, ?_, ?_⟩
  · show (PySem.PyData.strOk s && fitAll r) = true
    rw [hs, hf]; rfl
  · show max 0 (PyData.depthAll r) + 1 ≤ 64
    omega
  · show s.cps.size + 1 + PyData.bulkAll r ≤ 100000
    omega
theorem fit_i {n : Int} (h : Fits n) : fit (.int n) = true := by simp only [fit, decide_eq_true_eq]; exact h
theorem fit_ib {n : Int} {b : Bool} (h : Fits n) : fitAll [.int n, .bool b] = true := by
  show (fit (.int n) && (true && true)) = true
  rw [fit_i h]; rfl
theorem fit_iib {n k : Int} {b : Bool} (h : Fits n) (h' : Fits k) : fitAll [.int n, .int k, .bool b] = true := by
  show (fit (.int n) && (fit (.int k) && (true && true))) = true
  rw [fit_i h, fit_i h']; rfl
theorem due_ok {w a : Int} {ns : List Int} (hn : ∀ n ∈ ns, Fits n) (ha : Fits a) (hl : ns.length ≤ 1000) : OkD (.list (dueL w ns a)) := by
  have tB : ∀ b : Bool, OkD (.list [.str "told", .bool b]) := fun b => ok_flat s_told (by decide) rfl (by show (0 : Nat) ≤ 10; decide) (by show (1 : Nat) ≤ 10000; decide)
  have ib : ∀ {s : Str} {n : Int} {b : Bool}, PySem.PyData.strOk s = true → s.cps.size ≤ 100 → Fits n → OkD (.list [.str s, .int n, .bool b]) := fun h1 h2 h3 => ok_flat h1 h2 (fit_ib h3) (by show (0 : Nat) ≤ 10; decide) (by show (2 : Nat) ≤ 10000; decide)
  unfold dueL
  split
  · exact ib s_size (by decide) (small_fits (by omega) (by omega))
  split
  · rename_i n hf
    exact ib s_number (by decide) (hn n (List.mem_of_find?_eq_some hf))
  split
  · split
    · exact ib s_number (by decide) ha
    · have h1 := fit_ints (stayL a ns) fun n h => hn n (stay_mem h)
      have h2 := fit_ints (goL a ns) fun n h => hn n (go_mem h)
      have l1 := stay_len a ns
      have l2 := go_len a ns
      refine ok_flat s_told (by decide) ?_ ?_ ?_
      · simp only [fitAll, fit, h1, h2, Bool.and_self]
      · simp only [PyData.depthAll, PyData.depth, depth_ints]; decide
      · simp only [PyData.bulkAll, PyData.bulk, bulk_ints]; omega
  split
  · exact tB _
  split
  · exact tB _
  split
  · exact tB _
  split
  · refine ok_flat s_root (by decide) (fit_iib (small_fits (by decide) (by decide)) ?_) (by show (0 : Nat) ≤ 10; decide) (by show (3 : Nat) ≤ 10000; decide)
    rw [List.headD_eq_head?_getD]
    cases h : ns.head? with
    | none => exact small_fits (by decide) (by decide)
    | some z => exact hn z (List.mem_of_mem_head? h)
  split
  · rename_i k hk
    refine ok_flat s_root (by decide) (fit_iib (small_fits (by omega) (by have := astray_lt hk; omega)) ?_) (by show (0 : Nat) ≤ 10; decide) (by show (3 : Nat) ≤ 10000; decide)
    rw [List.getD_eq_getElem?_getD]
    cases h : ns[k]? with
    | none => exact small_fits (by decide) (by decide)
    | some z => exact hn z (List.mem_of_getElem? h)
  · have h1 := fit_ints (lvL ns) (lv_fits hl)
    have l1 := lv_len ns
    refine ok_flat s_told (by decide) ?_ ?_ ?_
    · simp only [fitAll, fit, h1, Bool.and_self]
    · simp only [PyData.depthAll, PyData.depth, depth_ints]; decide
    · simp only [PyData.bulkAll, PyData.bulk, bulk_ints]; omega
theorem ints_ok {ns : List Int} (hn : ∀ n ∈ ns, Fits n) (hl : ns.length ≤ 1000) : OkD (.list (ns.map .int)) :=
  ⟨by simp only [fit]; exact fit_ints ns hn, by simp only [PyData.depth, depth_ints]; decide, by simp only [PyData.bulk, bulk_ints]; omega⟩
/-- the first word of what is due -/
theorem due_head (w : Int) (ns : List Int) (a : Int) : ∃ s r, dueL w ns a = .str s :: r := by
  unfold dueL
  split
  · exact ⟨_, _, rfl⟩
  split
  · exact ⟨_, _, rfl⟩
  split
  · split <;> exact ⟨_, _, rfl⟩
  split
  · exact ⟨_, _, rfl⟩
  split
  · exact ⟨_, _, rfl⟩
  split
  · exact ⟨_, _, rfl⟩
  split
  · exact ⟨_, _, rfl⟩
  split <;> exact ⟨_, _, rfl⟩
theorem heap_step {D₁ : Ed} {ns : List Int} {w a : Int} {m : Sr} {o3 o4 o5 : Option D} (hw : w = 0 ∨ w = 1 ∨ w = 2 ∨ w = 3 ∨ w = 4) (hn : ∀ n ∈ ns, Fits n) (ha : Fits a) (hl : ns.length ≤ 1000)
    (k : ∀ m' o3 o4 o5, D₁.nx [some (.lst (iL ns)), some (.int a), some (.int w), o3, o4, o5] m') : lb__law_heap_1 D₁ [some (.lst (iL ns)), some (.int a), some (.int w), o3, o4, o5] m := by
  have hd := due_ok (w := w) hn ha hl
  obtain ⟨s, r, es⟩ := due_head w ns a
  unfold lb__law_heap_1
  walk_at "dl"
  refine law_due_wp rfl hl fun m' => ?_
  walk_at "dl"
  refine ev_list rfl ?_
  walk_at "dl"
  refine law_ask_wp hw rfl fun p m2 T d => ?_
  walk_at "dl"
  have T := T.uni d
  generalize DL.uni m m2 = m3 at T ⊢
  have pd : ∀ m, Py m (.lst (fzA (dueL w ns a))) (.list (dueL w ns a)) := fun m => .lst (fzA_py m _ (by have := hd.f; simpa only [fit] using this))
  obtain ⟨ys, hys⟩ := T.lst
  refine law_same_wp hd T.py (pd _) (by rw [lstOf_ref hys]; rfl) rfl ?_
  walk_at "dl"
  refine law_same_wp (ints_ok hn hl) (.lst (PyA.ints _ ns)) (.lst (PyA.ints _ ns)) rfl rfl ?_
  walk_at "dl"
  have tag : ∀ {m : Sr} {R : Pv}, R (.str s) m → oIx (.lst (fzA (dueL w ns a))) (.int 0) m R := fun {m R} z => ev_ix rfl (atI_at (k := 0) (by rw [es]; rfl)) z
  by_cases w3 : w = 3
  · rw [decide_eq_true w3]
    walk_at "dl"
    refine tag ?_
    walk_at "dl"
    by_cases ts : s = "told"
    · rw [decide_eq_true ts]
      obtain ⟨q, zs, e1, e2, e3, e4⟩ := T.three w3 (by rw [es, ts]; rfl)
      walk_at "dl"
      refine ev_ix (seqOf_ref e1) (atI_at (k := 1) rfl) ?_
      walk_at "dl"
      refine ev_isL (seqL_ref e3) ?_
      walk_at "dl"
      refine ev_app e3 (small_lt (by omega)) ?_
      walk_at "dl"
      rw [decide_eq_false (by omega)]
      walk_at "dl"
      refine ev_tupL rfl ?_
      walk_at "dl"
      refine law_ask_wp hw rfl fun p m2 T d => ?_
      walk_at "dl"
      have T := T.uni d
      revert T
      generalize DL.uni _ m2 = m4
      intro T
      obtain ⟨ys, hys⟩ := T.lst
      refine law_same_wp hd T.py (pd _) (by rw [lstOf_ref hys]; rfl) rfl ?_
      walk_at "dl"
      exact k _ _ _ _
    · rw [decide_eq_false ts]
      walk_at "dl"
      rw [decide_eq_false (by omega)]
      walk_at "dl"
      refine ev_tupL rfl ?_
      walk_at "dl"
      refine law_ask_wp hw rfl fun p m2 T d => ?_
      walk_at "dl"
      have T := T.uni d
      revert T
      generalize DL.uni _ m2 = m4
      intro T
      obtain ⟨ys, hys⟩ := T.lst
      refine law_same_wp hd T.py (pd _) (by rw [lstOf_ref hys]; rfl) rfl ?_
      walk_at "dl"
      exact k _ _ _ _
  · rw [decide_eq_false w3]
    walk_at "dl"
    by_cases w4 : w = 4
    · rw [decide_eq_true w4]
      walk_at "dl"
      refine tag ?_
      walk_at "dl"
      by_cases ts : s = "told"
      · rw [decide_eq_true ts]
        obtain ⟨q, r, zs, us, e1, e2, e3, e4, e5, e6, e7, e8⟩ := T.four w4 (by rw [es, ts]; rfl)
        walk_at "dl"
        refine ev_ix (seqOf_ref e1) (atI_at (k := 1) rfl) ?_
        walk_at "dl"
        refine ev_ix rfl (atI_at (k := 0) rfl) ?_
        walk_at "dl"
        refine ev_isL (seqL_ref e5) ?_
        walk_at "dl"
        refine ev_app e5 (small_lt (by omega)) ?_
        have f1 : (put m3 q (.lst (zs ++ [.int 7]))) p = some (.lst [.str "told", .tup [.ref q, .ref r]]) := by rw [put_ne (Ne.symm e2)]; exact e1
        have f2 : (put m3 q (.lst (zs ++ [.int 7]))) r = some (.lst us) := by rw [put_ne (Ne.symm e4)]; exact e6
        walk_at "dl"
        refine ev_ix (seqOf_ref f1) (atI_at (k := 1) rfl) ?_
        walk_at "dl"
        refine ev_ix rfl (atI_at (k := 1) rfl) ?_
        walk_at "dl"
        refine ev_isL (seqL_ref f2) ?_
        walk_at "dl"
        refine ev_app f2 (small_lt (by omega)) ?_
        walk_at "dl"
        refine ev_tupL rfl ?_
        walk_at "dl"
        refine law_ask_wp hw rfl fun p m2 T d => ?_
        walk_at "dl"
        have T := T.uni d
        revert T
        generalize DL.uni _ m2 = m4
        intro T
        obtain ⟨ys, hys⟩ := T.lst
        refine law_same_wp hd T.py (pd _) (by rw [lstOf_ref hys]; rfl) rfl ?_
        walk_at "dl"
        exact k _ _ _ _
      · rw [decide_eq_false ts]
        walk_at "dl"
        refine ev_tupL rfl ?_
        walk_at "dl"
        refine law_ask_wp hw rfl fun p m2 T d => ?_
        walk_at "dl"
        have T := T.uni d
        revert T
        generalize DL.uni _ m2 = m4
        intro T
        obtain ⟨ys, hys⟩ := T.lst
        refine law_same_wp hd T.py (pd _) (by rw [lstOf_ref hys]; rfl) rfl ?_
        walk_at "dl"
        exact k _ _ _ _
    · rw [decide_eq_false w4]
      walk_at "dl"
      refine ev_tupL rfl ?_
      walk_at "dl"
      refine law_ask_wp hw rfl fun p m2 T d => ?_
      walk_at "dl"
      have T := T.uni d
      revert T
      generalize DL.uni _ m2 = m4
      intro T
      obtain ⟨ys, hys⟩ := T.lst
      refine law_same_wp hd T.py (pd _) (by rw [lstOf_ref hys]; rfl) rfl ?_
      walk_at "dl"
      exact k _ _ _ _
theorem law_heap_wp {ns : List Int} {a : Int} {m : Sr} {P : Pv} {Ξ : Xv} (hn : ∀ n ∈ ns, Fits n) (ha : Fits a) (hl : ns.length ≤ 1000) (h : ∀ m', P (.bl true) m') : wp__law_heap [.lst (iL ns), .int a] m P Ξ := by
  unfold wp__law_heap
  walk_at "dl"
  refine ev_dr1R (by decide) (by decide) ?_
  rw [show ((5 : Int).toNat) = 5 from rfl, items_0]
  dsimp only [itemsFrom, dForL]
  walk_at "dl"
  refine heap_step (.inl rfl) hn ha hl fun m' p3 p4 p5 => ?_
  walk_at "dl"
  refine heap_step (.inr (.inl rfl)) hn ha hl fun m' p3 p4 p5 => ?_
  walk_at "dl"
  refine heap_step (.inr (.inr (.inl rfl))) hn ha hl fun m' p3 p4 p5 => ?_
  walk_at "dl"
  refine heap_step (.inr (.inr (.inr (.inl rfl)))) hn ha hl fun m' p3 p4 p5 => ?_
  walk_at "dl"
  refine heap_step (.inr (.inr (.inr (.inr rfl)))) hn ha hl fun m' p3 p4 p5 => ?_
  walk_at "dl"
  exact h _
end K42
namespace K42
open PySem PySem.Spec PyProof.Rows L2 DL
/-! the pool -/
def Pool (m : Sr) (q : Addr) : Prop := ∃ a xs, m q = some (.lst (iL (a :: xs))) ∧ 0 ≤ a ∧ (∀ x ∈ xs, 0 ≤ x) ∧ xs.length ≤ 1000
theorem div_ok {x many : Int} (h : 0 < many) (h2 : many ≤ 10 ^ 20) : CDivW x many := by
  refine ⟨h, ?_⟩
  have h3 : many.natAbs ≠ 0 := by omega
  have h4 : many.natAbs < 2 ^ 70 := by
    have : (10 : Int) ^ 20 < 2 ^ 70 := by decide
    have e : ((2 : Int) ^ 70) = ((2 ^ 70 : Nat) : Int) := by decide
    omega
  have := (Nat.log2_lt h3).mpr h4
  omega
theorem draw_wp {q : Addr} {many : Int} {m : Sr} {P : Pv} {Ξ : Xv} (hp : Pool m q) (h0 : 0 < many) (h1 : many ≤ 10 ^ 20) (h : ∀ r m', 0 ≤ r → r < many → Pool m' q → (∀ p, p ≠ q → m' p = m p) → P (.int r) m') : wp__law_draw [.ref q, .int many] m P Ξ := by
  obtain ⟨a, xs, hm, ha, hx, hl⟩ := hp
  have md : ∀ z : Int, 0 ≤ z % many ∧ z % many < many := fun z => ⟨Int.emod_nonneg z (by omega), Int.emod_lt_of_pos z h0⟩
  unfold wp__law_draw
  walk_at "dl"
  refine ev_ix (seqOf_ref hm) (atI_iL (k := 0) rfl) ?_
  walk_at "dl"
  refine ev_setLR hm (ixN_at (k := 0) (by simp)) ?_
  have e1 : (iL (a :: xs)).set 0 (.int (a + 1)) = iL ((a + 1) :: xs) := rfl
  rw [e1]
  walk_at "dl"
  refine ev_len (seqOf_ref put_same) ?_
  walk_at "dl"
  rw [List.length_map]
  cases xs with
  | nil =>
    rw [show decide ((([a + 1] : List Int).length : Int) = 1) = true from rfl]
    walk_at "dl"
    refine ev_ix (seqOf_ref put_same) (atI_iL (k := 0) rfl) ?_
    walk_at "dl"
    refine ev_mod h0 ?_
    exact h _ _ (md _).1 (md _).2 ⟨a + 1, [], put_same, by omega, (fun x hx => by cases hx), by simp⟩ fun p hp => put_ne hp
  | cons b xs =>
    rw [show decide ((((a + 1) :: b :: xs : List Int).length : Int) = 1) = false from decide_eq_false (by simp only [List.length_cons]; omega)]
    have hb := hx b List.mem_cons_self
    have hx' : ∀ x ∈ xs, 0 ≤ x := fun x hh => hx x (List.mem_cons_of_mem _ hh)
    rw [List.length_cons] at hl
    walk_at "dl"
    refine ev_ix (seqOf_ref put_same) (atI_iL (k := 1) rfl) ?_
    walk_at "dl"
    refine ev_fdiv (div_ok h0 h1) ?_
    walk_at "dl"
    refine ev_setLR put_same (ixN_at (k := 1) (by simp)) ?_
    have e2 : (iL ((a + 1) :: b :: xs)).set 1 (.int (b / many)) = iL ((a + 1) :: (b / many) :: xs) := rfl
    rw [e2, put_put]
    walk_at "dl"
    refine ev_ix (seqOf_ref put_same) (atI_iL (k := 1) rfl) ?_
    walk_at "dl"
    have fin : ∀ m', (∃ ys, m' = put m q (.lst (iL ((a + 1) :: ys))) ∧ (∀ x ∈ ys, 0 ≤ x) ∧ ys.length ≤ 1000) → P (.int (b % many)) m' := by
      rintro m' ⟨ys, rfl, h2, h3⟩
      exact h _ _ (md _).1 (md _).2 ⟨a + 1, ys, put_same, by omega, h2, h3⟩ fun p hp => put_ne hp
    apply ev_ite <;> intro c
    · walk_at "dl"
      refine ev_isL (seqL_ref put_same) ?_
      walk_at "dl"
      refine ev_popAt (k := 1) (y := .int (b / many)) put_same (by decide) (by decide) ?_ rfl ?_
      · exact (L2.ixN_seq (ixN_at (k := 1) (by simp))).1
      rw [put_put]
      walk_at "dl"
      refine ev_mod h0 ?_
      exact fin _ ⟨xs, rfl, hx', by omega⟩
    · walk_at "dl"
      refine ev_mod h0 ?_
      refine fin _ ⟨(b / many) :: xs, rfl, fun x hh => ?_, by rw [List.length_cons]; omega⟩
      rcases List.mem_cons.mp hh with rfl | hh
      · exact Int.ediv_nonneg hb (by omega)
      · exact hx' x hh
theorem cut_iL (ns : List Int) (l h : Option Int) : ∃ a b, DL.cutD (iL ns) l h = iL ((ns.drop a).take b) := by
  unfold DL.cutD
  exact ⟨_, _, by rw [iL, ← List.map_drop, ← List.map_take]⟩
theorem cut_mem {ns : List Int} {a b : Nat} {n : Int} (h : n ∈ (ns.drop a).take b) : n ∈ ns := List.mem_of_mem_drop (List.mem_of_mem_take h)
theorem cut_len (ns : List Int) (a b : Nat) : ((ns.drop a).take b).length ≤ ns.length := by
  rw [List.length_take, List.length_drop]; omega
theorem flt_all {α : Type} (f : α → D) (l : List α) : (l.map f).filterMap (fun d => some d) = l.map f := by rw [List.filterMap_some]
theorem law_pool_wp {ns : List Int} {P : Pv} {Ξ : Xv} (hl : ns.length ≤ 63) (h : ∀ q m', Pool m' q → P (.ref q) m') : wp__law_pool [.scr (iL ns)] emp P Ξ := by
  unfold wp__law_pool
  walk_at "dl"
  refine .inl ⟨_, rfl, ?_⟩
  obtain ⟨a, b, e⟩ := cut_iL ns none (some 63)
  have l2 := cut_len ns a b
  rw [e]
  generalize (ns.drop a).take b = xs at *
  walk_at "dl"
  refine lcGo_flt (fun d => match d with | .int n => some (.int ((if n < 0 then -n else n) % 10 ^ 60)) | _ => none) _ [] (small_sz (by rw [List.length_map]; simp; omega)) (fun y hy R R0 h1 h2 => ?_) ?_
  · obtain ⟨n, _, rfl⟩ := List.mem_map.mp hy
    walk_at "dl"
    refine ev_pow ⟨by decide, by decide, by decide⟩ ?_
    refine ev_mod (by decide) ?_
    walk_at "dl"
    exact h1 _ rfl
  · have e2 : (iL xs).filterMap (fun d => match d with | .int n => some (D.int ((if n < 0 then -n else n) % 10 ^ 60)) | _ => none) = iL (xs.map fun n => (if n < 0 then -n else n) % 10 ^ 60) := by
      rw [iL, List.filterMap_map, iL, List.map_map, ← List.filterMap_eq_map]
      rfl
    rw [List.nil_append, e2]
    walk_at "dl"
    refine ev_plusML rfl rfl (small_sz (by simp only [List.length_map, List.length_cons, List.length_nil]; omega)) fun p hp => ?_
    refine h p _ ⟨0, _, put_same, Int.le_refl _, fun x hx => ?_, by rw [List.length_map]; omega⟩
    obtain ⟨n, _, rfl⟩ := List.mem_map.mp hx
    exact Int.emod_nonneg _ (by decide)
/-! pyramids -/
theorem onGo_app (a : Int) (p : Int) : ∀ (ns : List Int) (dn : List (Int × Bool)), onGo a dn (ns ++ [p]) = onGo a dn ns ++ [(p, decide (((onGo a dn ns).length : Int) = a) || near (onGo a dn ns) p)]
  | [], dn => rfl
  | n :: r, dn => by rw [List.cons_append, onGo, onGo, onGo_app a p r]
/-- all lie on the first -/
structure Pyr (ns : List Int) : Prop where
  hd : ns.head? = some 0
  all : ∀ q ∈ onGo 0 [] ns, q.2 = true
  lo : ∀ n ∈ ns, -60 ≤ n
  up : ∀ n ∈ ns, n < (ns.length : Int)
theorem Pyr.one : Pyr [0] := ⟨rfl, (fun q hq => by
  have hq : q ∈ [((0 : Int), true)] := hq
  rw [List.mem_singleton.mp hq]), (fun n hn => by rw [List.mem_singleton.mp hn]; decide), fun n hn => by rw [List.mem_singleton.mp hn]; decide⟩
theorem Pyr.snoc {ns : List Int} (h : Pyr ns) {n p : Int} (hn : n ∈ ns) (h1 : n - 1 ≤ p) (h2 : p ≤ n + 1) (h3 : -60 ≤ p) : Pyr (ns ++ [p]) := by
  have mem : ∃ q ∈ onGo 0 [] ns, q.1 = n := by
    have z := onGo_fst 0 ns []
    rw [List.map_nil, List.nil_append] at z
    rw [← z] at hn
    obtain ⟨q, hq, e⟩ := List.mem_map.mp hn
    exact ⟨q, hq, e⟩
  obtain ⟨q, hq, eq1⟩ := mem
  refine ⟨?_, fun r hr => ?_, fun r hr => ?_, fun r hr => ?_⟩
  · cases ns with
    | nil => cases hn
    | cons a b => exact h.hd
  · rw [onGo_app] at hr
    rcases List.mem_append.mp hr with hr | hr
    · exact h.all r hr
    · rw [List.mem_singleton.mp hr]
      have : near (onGo 0 [] ns) p = true := by
        unfold near
        rw [List.any_eq_true]
        refine ⟨q, hq, ?_⟩
        rw [h.all q hq, eq1, decide_eq_true (by omega), decide_eq_true (by omega)]
        rfl
      show (_ || near (onGo 0 [] ns) p) = true
      rw [this, Bool.or_true]
  · rcases List.mem_append.mp hr with hr | hr
    · exact h.lo r hr
    · rw [List.mem_singleton.mp hr]; exact h3
  · rw [List.length_append]
    show r < ((ns.length + 1 : Nat) : Int)
    rcases List.mem_append.mp hr with hr | hr
    · have := h.up r hr; omega
    · rw [List.mem_singleton.mp hr]
      have := h.up n hn
      omega
theorem Pyr.ne {ns : List Int} (h : Pyr ns) : ns ≠ [] := fun e => by
  have z := h.hd
  rw [e] at z; cases z
theorem get_draw {ns : List Int} {r : Int} (h0 : 0 ≤ r) (h1 : r < (ns.length : Int)) : ∃ n, n ∈ ns ∧ L2.atI (iL ns) r = some (.int n) := by
  obtain ⟨k, rfl⟩ : ∃ k : Nat, r = k := ⟨r.toNat, by omega⟩
  have hk : k < ns.length := by omega
  exact ⟨ns[k], List.getElem_mem hk, atI_iL (List.getElem?_eq_getElem hk)⟩
theorem pyramid_loop {D₁ : Ed} {q pp : Addr} {size least : Int} (hne : q ≠ pp) (hl1 : -60 ≤ least) (hl2 : least ≤ 0) : ∀ (k : Nat) (i : Int) (ns : List Int) (m : Sr) (o4 o5 : Option D), Pool m q → m pp = some (.lst (iL ns)) → Pyr ns → (∀ n ∈ ns, least ≤ n) → ns.length + k ≤ 100 →
    (∀ ns' m' o4 o5, Pool m' q → m' pp = some (.lst (iL ns')) → Pyr ns' → ns'.length = ns.length + k → D₁.nx [some (.ref q), some (.int size), some (.int least), some (.ref pp), o4, o5] m') →
    dForL (gdName 4) lb__law_pyramid_1 (itemsFrom i k) D₁ [some (.ref q), some (.int size), some (.int least), some (.ref pp), o4, o5] m
  | 0, i, ns, m, o4, o5, hp, hm, hy, hl, hs, hk => hk ns m o4 o5 hp hm hy rfl
  | k + 1, i, ns, m, o4, o5, hp, hm, hy, hl, hs, hk => by
    have pos := List.length_pos_iff.mpr hy.ne
    show gdName 4 (.int i) _ m _
    unfold lb__law_pyramid_1
    walk_at "dl"
    refine ev_len (seqOf_ref hm) ?_
    walk_at "dl"
    rw [List.length_map]
    refine draw_wp hp (by omega) (Int.le_trans (b := 100) (by omega) (by decide)) fun r m1 r0 r1 hp1 hk1 => ?_
    have hm1 : m1 pp = some (.lst (iL ns)) := by rw [hk1 pp hne.symm]; exact hm
    obtain ⟨n, hn, en⟩ := get_draw r0 r1
    refine ev_ix (seqOf_ref hm1) en ?_
    walk_at "dl"
    refine ev_isL (seqL_ref hm1) ?_
    walk_at "dl"
    refine draw_wp hp1 (by decide) (by decide) fun d m2 d0 d1 hp2 hk2 => ?_
    have hm2 : m2 pp = some (.lst (iL ns)) := by rw [hk2 pp hne.symm]; exact hm1
    walk_at "dl"
    have bn := hl n hn
    have z : ∀ p : Int, p = (if n + d - 1 > least then n + d - 1 else least) → mApp (.ref pp) [.int p] m2 fun _ m3 => dForL (gdName 4) lb__law_pyramid_1 (itemsFrom (i + 1) k) D₁ [some (.ref q), some (.int size), some (.int least), some (.ref pp), some (.int i), some (.int n)] m3 := fun p ep => by
      have hp1 : n - 1 ≤ p ∧ p ≤ n + 1 ∧ least ≤ p := by rw [ep]; split <;> omega
      refine ev_app hm2 (by rw [List.length_map]; exact small_lt (by omega)) ?_
      refine pyramid_loop hne hl1 hl2 k (i + 1) (ns ++ [p]) _ _ _ ?_ (by rw [put_same, iL, iL, List.map_append]; rfl) (hy.snoc hn hp1.1 hp1.2.1 (by omega)) (fun r hr => ?_) (by rw [List.length_append]; show ns.length + 1 + k ≤ 100; omega) fun ns' m' p4 p5 a1 a2 a3 a4 => hk ns' m' p4 p5 a1 a2 a3 ?_
      · obtain ⟨a, xs, e1, e2⟩ := hp2
        exact ⟨a, xs, by rw [put_ne hne]; exact e1, e2⟩
      · rcases List.mem_append.mp hr with hr | hr
        · exact hl r hr
        · rw [List.mem_singleton.mp hr]; exact hp1.2.2
      · rw [a4, List.length_append]; show ns.length + 1 + k = _; omega
    exact z _ rfl
theorem Pool.ne {m : Sr} {q p : Addr} (h : Pool m q) (hp : m p = none) : q ≠ p := fun e => by
  obtain ⟨a, xs, e1, _⟩ := h
  rw [e, hp] at e1; cases e1
theorem Pool.put {m : Sr} {q p : Addr} {o : MO} (h : Pool m q) (hne : q ≠ p) : Pool (DL.put m p o) q := by
  obtain ⟨a, xs, e1, e2⟩ := h
  exact ⟨a, xs, by rw [put_ne hne]; exact e1, e2⟩
theorem Pool.drp {m : Sr} {q p : Addr} (h : Pool m q) (hne : q ≠ p) : Pool (DL.drp m p) q := by
  obtain ⟨a, xs, e1, e2⟩ := h
  exact ⟨a, xs, by rw [drp_ne hne]; exact e1, e2⟩
theorem pyramid_wp {q : Addr} {size least : Int} {m : Sr} {P : Pv} {Ξ : Xv} (hp : Pool m q) (h1 : 1 ≤ size) (h2 : size ≤ 60) (hl1 : -60 ≤ least) (hl2 : least ≤ 0) (h : ∀ ns m', Pool m' q → Pyr ns → (ns.length : Int) = size → P (.lst (iL ns)) m') : wp__law_pyramid [.ref q, .int size, .int least] m P Ξ := by
  unfold wp__law_pyramid
  walk_at "dl"
  intro pp hpp
  have hne := hp.ne hpp
  walk_at "dl"
  refine ev_dr1R (by omega) (by omega) ?_
  rw [items_0]
  refine pyramid_loop hne hl1 hl2 _ 0 [0] _ none none (hp.put hne) put_same Pyr.one (fun n hn => by rw [List.mem_singleton.mp hn]; exact hl2) (by show 1 + _ ≤ 100; omega) fun ns m' p4 p5 a1 a2 a3 a4 => ?_
  walk_at "dl"
  refine ev_frzR a2 ?_
  refine h ns _ (a1.drp hne) a3 ?_
  rw [a4]
  show ((1 + (size - 1).toNat : Nat) : Int) = size
  omega
end K42
namespace K42
open PySem PySem.Spec PyProof.Rows L2 DL
/-! drawn heaps -/
def Bd (B : Int) (ns : List Int) : Prop := ∀ n ∈ ns, -B ≤ n ∧ n ≤ B
theorem Bd.app {B : Int} {a b : List Int} (h1 : Bd B a) (h2 : Bd B b) : Bd B (a ++ b) := fun n hn => by
  rcases List.mem_append.mp hn with hn | hn
  · exact h1 n hn
  · exact h2 n hn
theorem Bd.one {B n : Int} (h1 : -B ≤ n) (h2 : n ≤ B) : Bd B [n] := fun k hk => by rw [List.mem_singleton.mp hk]; exact ⟨h1, h2⟩
theorem Bd.mono {B C : Int} {a : List Int} (h : Bd B a) (hc : B ≤ C) : Bd C a := fun n hn => by have := h n hn; omega
theorem Bd.cut {B : Int} {ns : List Int} {a b : Nat} (h : Bd B ns) : Bd B ((ns.drop a).take b) := fun n hn => h n (cut_mem hn)
theorem mul_ok {d : Int} (h0 : 0 ≤ d) (h1 : d < 2) : CMulW 2 d := by
  have e : d = 0 ∨ d = 1 := by omega
  rcases e with rfl | rfl
  · show (2 : Int).natAbs.log2 + (0 : Int).natAbs.log2 < 1000000
    decide
  · show (2 : Int).natAbs.log2 + (1 : Int).natAbs.log2 < 1000000
    decide
theorem strict_one_loop {D₁ : Ed} {q pp : Addr} {size : Int} (hne : q ≠ pp) : ∀ (k : Nat) (i : Int) (ns : List Int) (m : Sr) (o3 o4 o5 : Option D), Pool m q → m pp = some (.lst (iL ns)) → ns ≠ [] → Bd (ns.length : Int) ns → ns.length + k ≤ 100 →
    (∀ ns' m' o3 o4 o5, Pool m' q → m' pp = some (.lst (iL ns')) → ns' ≠ [] → Bd 100 ns' → ns'.length ≤ 100 → D₁.nx [some (.ref q), some (.int size), some (.ref pp), o3, o4, o5] m') →
    dForL (gdName 3) lb__law_strict_one_1 (itemsFrom i k) D₁ [some (.ref q), some (.int size), some (.ref pp), o3, o4, o5] m
  | 0, i, ns, m, o3, o4, o5, hp, hm, h0, hb, hs, hk => hk ns m o3 o4 o5 hp hm h0 (hb.mono (by omega)) (by omega)
  | k + 1, i, ns, m, o3, o4, o5, hp, hm, h0, hb, hs, hk => by
    have pos := List.length_pos_iff.mpr h0
    show gdName 3 (.int i) _ m _
    unfold lb__law_strict_one_1
    walk_at "dl"
    refine ev_len (seqOf_ref hm) ?_
    walk_at "dl"
    rw [List.length_map]
    refine draw_wp hp (by omega) (Int.le_trans (b := 100) (by omega) (by decide)) fun r m1 r0 r1 hp1 hk1 => ?_
    have hm1 : m1 pp = some (.lst (iL ns)) := by rw [hk1 pp hne.symm]; exact hm
    obtain ⟨n, hn, en⟩ := get_draw r0 r1
    refine ev_ix (seqOf_ref hm1) en ?_
    walk_at "dl"
    refine draw_wp hp1 (by decide) (by decide) fun d m2 d0 d1 hp2 hk2 => ?_
    have hm2 : m2 pp = some (.lst (iL ns)) := by rw [hk2 pp hne.symm]; exact hm1
    refine ev_mul (mul_ok d0 d1) ?_
    walk_at "dl"
    refine ev_plusL (lstOf_ref hm2) rfl (small_sz (by simp only [List.length_map, List.length_cons, List.length_nil]; omega)) ?_
    walk_at "dl"
    have bn := hb n hn
    have e : iL ns ++ [D.int (n + 1 - 2 * d)] = iL (ns ++ [n + 1 - 2 * d]) := by rw [iL, iL, List.map_append]; rfl
    rw [e]
    refine law_strict_wp rfl (by rw [List.length_append]; show ns.length + 1 ≤ 10000; omega) ?_
    walk_at "dl"
    cases stL (ns ++ [n + 1 - 2 * d])
    · walk_at "dl"
      exact strict_one_loop hne k (i + 1) ns m2 _ _ _ hp2 hm2 h0 hb (by omega) hk
    · walk_at "dl"
      refine ev_isL (seqL_ref hm2) ?_
      walk_at "dl"
      refine ev_app hm2 (by rw [List.length_map]; exact small_lt (by omega)) ?_
      refine strict_one_loop hne k (i + 1) (ns ++ [n + 1 - 2 * d]) _ _ _ _ (hp2.put hne) (by rw [put_same]; show some (MO.lst (iL ns ++ [D.int (n + 1 - 2 * d)])) = _; rw [e]) (by simp) ?_ (by rw [List.length_append]; show ns.length + 1 + k ≤ 100; omega) hk
      rw [List.length_append]
      exact (hb.mono (by omega)).app (Bd.one (by show -((ns.length + 1 : Nat) : Int) ≤ _; omega) (by show _ ≤ ((ns.length + 1 : Nat) : Int); omega))
theorem strict_one_wp {q : Addr} {size : Int} {m : Sr} {P : Pv} {Ξ : Xv} (hp : Pool m q) (h1 : 1 ≤ size) (h2 : size ≤ 60) (h : ∀ ns m', Pool m' q → ns ≠ [] → Bd 100 ns → ns.length ≤ 100 → P (.lst (iL ns)) m') : wp__law_strict_one [.ref q, .int size] m P Ξ := by
  unfold wp__law_strict_one
  walk_at "dl"
  intro pp hpp
  have hne := hp.ne hpp
  walk_at "dl"
  refine ev_dr1R (by omega) (by omega) ?_
  rw [items_0]
  refine strict_one_loop hne _ 0 [0] _ none none none (hp.put hne) put_same (by simp) (Bd.one (by decide) (by decide)) (by show 1 + _ ≤ 100; omega) fun ns m' p3 p4 p5 a1 a2 a3 a4 a5 => ?_
  walk_at "dl"
  refine ev_frzR a2 ?_
  exact h ns _ (a1.drp hne) a3 a4 a5
theorem any_loop {q : Addr} {size wide : Int} {kk : List D → Sr → Prop} (w1 : 1 ≤ wide) (w2 : wide ≤ 1000) : ∀ (k : Nat) (i : Int) (acc : List Int) (m : Sr), Pool m q → Bd 1000 acc → acc.length + k ≤ 100 →
    (∀ acc' m', Pool m' q → Bd 1000 acc' → acc'.length = acc.length + k → kk (iL acc') m') →
    dLcGo (gdName 3) dYes (dOp oSub (dCall 2 wp__law_draw (dCons (dVar 0) (dCons (dVar 2) dNil))) (dOp oFdiv (dVar 2) (dC (.int 2)))) [some (.ref q), some (.int size), some (.int wide), none] kk (itemsFrom i k) (iL acc) m
  | 0, i, acc, m, hp, hb, hl, hk => hk acc m hp hb rfl
  | k + 1, i, acc, m, hp, hb, hl, hk => by
    show gdName 3 (.int i) _ m _
    walk_at "dl"
    refine draw_wp hp (by omega) (Int.le_trans (b := 1000) w2 (by decide)) fun r m1 r0 r1 hp1 hk1 => ?_
    walk_at "dl"
    refine ev_fdiv (div_ok (by decide) (by decide)) ?_
    walk_at "dl"
    refine ⟨small_lt (by rw [List.length_map]; omega), ?_⟩
    have e : iL acc ++ [D.int (r - wide / 2)] = iL (acc ++ [r - wide / 2]) := by rw [iL, iL, List.map_append]; rfl
    rw [e]
    refine any_loop w1 w2 k (i + 1) (acc ++ [r - wide / 2]) m1 hp1 (hb.app (Bd.one (by omega) (by omega))) (by rw [List.length_append]; show acc.length + 1 + k ≤ 100; omega) fun acc' m' a1 a2 a3 => hk acc' m' a1 a2 ?_
    rw [a3, List.length_append]; show acc.length + 1 + k = _; omega
theorem any_wp {q : Addr} {size : Int} {m : Sr} {P : Pv} {Ξ : Xv} (hp : Pool m q) (h1 : 1 ≤ size) (h2 : size ≤ 60) (h : ∀ ns m', Pool m' q → Bd 1000 ns → ns.length ≤ 100 → P (.lst (iL ns)) m') : wp__law_any [.ref q, .int size] m P Ξ := by
  unfold wp__law_any
  walk_at "dl"
  refine draw_wp hp (by decide) (by decide) fun r m1 r0 r1 hp1 hk1 => ?_
  walk_at "dl"
  apply ev_ite <;> intro c
  · walk_at "dl"
    refine ev_dr1R (by omega) (by omega) ?_
    rw [items_0]
    exact any_loop (by decide) (by decide) _ 0 [] m1 hp1 (fun n hn => by cases hn) (by simp; omega) fun acc m' a1 a2 a3 => h acc m' a1 a2 (by rw [a3]; simp; omega)
  · walk_at "dl"
    refine ev_dr1R (by omega) (by omega) ?_
    rw [items_0]
    exact any_loop (by decide) (by decide) _ 0 [] m1 hp1 (fun n hn => by cases hn) (by simp; omega) fun acc m' a1 a2 a3 => h acc m' a1 a2 (by rw [a3]; simp; omega)
/-! lists of heaps -/
abbrev HB : Int := 1000000000000000000000
def Gd (ns : List Int) : Prop := Bd HB ns ∧ ns.length ≤ 300
abbrev hL (nss : List (List Int)) : List D := nss.map fun ns => .lst (iL ns)
theorem cut_gd {B : Int} {ns : List Int} (hb : Bd B ns) (l h : Option Int) : ∃ xs, DL.cutD (iL ns) l h = iL xs ∧ Bd B xs ∧ xs.length ≤ ns.length := by
  obtain ⟨a, b, e⟩ := cut_iL ns l h
  exact ⟨_, e, hb.cut, cut_len ns a b⟩
theorem iL_app (a b : List Int) : iL a ++ iL b = iL (a ++ b) := by rw [iL, iL, iL, List.map_append]
theorem lc_map {g : Int → Int} (ns : List Int) : (iL ns).filterMap (fun d => match d with | .int n => some (D.int (g n)) | _ => none) = iL (ns.map g) := by
  rw [iL, List.filterMap_map, iL, List.map_map, ← List.filterMap_eq_map]
  rfl
theorem changed_wp {q : Addr} {ns : List Int} {m : Sr} {P : Pv} {Ξ : Xv} (hp : Pool m q) (h0 : ns ≠ []) (hb : Bd 100 ns) (hl : ns.length ≤ 100) (h : ∀ nss m', Pool m' q → nss.length ≤ 5 → (∀ ns ∈ nss, Gd ns) → P (.lst (hL nss)) m') : wp__law_changed [.ref q, .lst (iL ns)] m P Ξ := by
  have pos := List.length_pos_iff.mpr h0
  obtain ⟨zl, hzl, eL⟩ : ∃ zl, zl ∈ ns ∧ L2.atI (iL ns) (-1) = some (.int zl) := by
    refine ⟨ns.getLast h0, List.getLast_mem h0, ?_⟩
    conv => lhs; rw [← List.dropLast_concat_getLast h0]
    rw [iL, List.map_append]
    exact L2.atI_last _ _
  unfold wp__law_changed
  walk_at "dl"
  rw [List.length_map]
  refine draw_wp hp (by omega) (Int.le_trans (b := 100) (by omega) (by decide)) fun c m1 c0 c1 hp1 hk1 => ?_
  walk_at "dl"
  refine ev_maxL rfl (by omega) fun mx hmx _ => ?_
  have bx := hb mx hmx
  walk_at "dl"
  refine draw_wp hp1 (by decide) (by decide) fun d m2 d0 d1 hp2 hk2 => ?_
  walk_at "dl"
  refine draw_wp hp2 (by decide) (by decide) fun e m3 e0 e1 hp3 hk3 => ?_
  walk_at "dl"
  apply ev_ite <;> intro cc
  · walk_at "dl"
    refine ev_minL rfl (by omega) fun mn hmn _ => ?_
    have bm := hb mn hmn
    walk_at "dl"
    refine draw_wp hp3 (by decide) (by decide) fun f m4 f0 f1 hp4 hk4 => ?_
    walk_at "dl"
    obtain ⟨far, ef⟩ : ∃ far, far = mn - 2 - f := ⟨_, rfl⟩
    rw [← ef]
    have hpX := hp4
    obtain ⟨x1, e1, b1, l1⟩ := cut_gd hb none (some (1 + c))
    refine .inl ⟨_, rfl, ?_⟩
    rw [e1]
    walk_at "dl"
    refine ev_plusL rfl rfl (small_sz (by simp only [List.length_map, List.length_cons, List.length_nil]; omega)) ?_
    walk_at "dl"
    obtain ⟨x2, e2, b2, l2⟩ := cut_gd hb (some (1 + c)) none
    refine .inl ⟨_, rfl, ?_⟩
    rw [e2]
    refine ev_plusL rfl rfl (small_sz (by simp only [List.length_append, List.length_map, List.length_cons, List.length_nil]; omega)) ?_
    walk_at "dl"
    intro pf hpf
    walk_at "dl"
    refine ev_ix rfl eL ?_
    walk_at "dl"
    refine ev_plusL rfl rfl (small_sz (by simp only [List.length_map, List.length_cons, List.length_nil]; omega)) ?_
    walk_at "dl"
    refine ev_plusL rfl rfl (small_sz (by simp only [List.length_map, List.length_cons, List.length_nil]; omega)) ?_
    walk_at "dl"
    refine ev_plusML (lstOf_ref put_same) rfl (show (3 : Nat) ≤ sizeLine by decide) fun pg hpg => ?_
    walk_at "dl"
    refine ev_isL (seqL_ref put_same) ?_
    walk_at "dl"
    refine lcGo_flt (fun d => match d with | .int n => some (.int (n + 1)) | _ => none) _ [] (small_sz (by simp only [List.length_map, List.length_nil]; omega)) (fun y hy R R0 h1 h2 => ?_) ?_
    · obtain ⟨n, _, rfl⟩ := List.mem_map.mp hy
      walk_at "dl"
      exact h1 _ rfl
    rw [List.nil_append, lc_map]
    walk_at "dl"
    refine ev_app put_same (show (3 : Nat) < sizeLine by decide) ?_
    rw [put_put]
    walk_at "dl"
    refine ev_isL (seqL_ref put_same) ?_
    walk_at "dl"
    refine lcGo_flt (fun d => match d with | .int n => some (.int (n - 1)) | _ => none) _ [] (small_sz (by simp only [List.length_map, List.length_nil]; omega)) (fun y hy R R0 h1 h2 => ?_) ?_
    · obtain ⟨n, _, rfl⟩ := List.mem_map.mp hy
      walk_at "dl"
      exact h1 _ rfl
    rw [List.nil_append, lc_map]
    walk_at "dl"
    refine ev_app put_same (show (4 : Nat) < sizeLine by decide) ?_
    rw [put_put]
    walk_at "dl"
    refine ev_frzR put_same ?_
    have hqf : q ≠ pf := Pool.ne hpX hpf
    have hqg : q ≠ pg := Pool.ne (hpX.put hqf) hpg
    have o1 : Bd 1000 [far] := Bd.one (by omega) (by omega)
    have k1 := hb.mono (show (100 : Int) ≤ 1000 by decide)
    have eh : [D.lst (iL x1 ++ [D.int far] ++ iL x2)] ++ [D.lst (iL ns ++ [D.int zl]), D.lst ([D.int 1] ++ iL ns)] ++ [D.lst (iL (ns.map fun n => n + 1))] ++ [D.lst (iL (ns.map fun n => n - 1))] = hL [x1 ++ [far] ++ x2, ns ++ [zl], [1] ++ ns, ns.map (fun n => n + 1), ns.map (fun n => n - 1)] := by
      simp only [hL, iL, List.map_append, List.map_cons, List.map_nil, List.cons_append, List.nil_append, List.append_assoc]
    rw [eh]
    refine h [x1 ++ [far] ++ x2, ns ++ [zl], [1] ++ ns, ns.map (fun n => n + 1), ns.map (fun n => n - 1)] _ (((hpX.put hqf).put hqg).drp hqg) (Nat.le_refl 5) (fun xs hx => ?_)
    have gd : ∀ xs : List Int, Bd 1000 xs → xs.length ≤ 300 → Gd xs := fun xs a b => ⟨a.mono (by decide), b⟩
    have m1 : ∀ g : Int → Int, (∀ n, g n = n + 1 ∨ g n = n - 1) → Gd (ns.map g) := fun g hg => gd _ (fun n hn => by
      obtain ⟨z, hz, rfl⟩ := List.mem_map.mp hn
      have := hb z hz
      have := hg z
      omega) (by rw [List.length_map]; omega)
    simp only [List.mem_cons, List.not_mem_nil, or_false] at hx
    rcases hx with rfl | rfl | rfl | rfl | rfl
    · exact gd _ (((b1.mono (by decide)).app o1).app (b2.mono (by decide))) (by simp only [List.length_append, List.length_cons, List.length_nil]; omega)
    · exact gd _ (k1.app (Bd.one (by have := hb zl hzl; omega) (by have := hb zl hzl; omega))) (by simp only [List.length_append, List.length_cons, List.length_nil]; omega)
    · exact gd _ ((Bd.one (by decide) (by decide)).app k1) (by simp only [List.length_append, List.length_cons, List.length_nil]; omega)
    · exact m1 _ fun n => .inl rfl
    · exact m1 _ fun n => .inr rfl
  · walk_at "dl"
    obtain ⟨far, ef⟩ : ∃ far, far = mx + 2 + d := ⟨_, rfl⟩
    rw [← ef]
    have hpX := hp3
    obtain ⟨x1, e1, b1, l1⟩ := cut_gd hb none (some (1 + c))
    refine .inl ⟨_, rfl, ?_⟩
    rw [e1]
    walk_at "dl"
    refine ev_plusL rfl rfl (small_sz (by simp only [List.length_map, List.length_cons, List.length_nil]; omega)) ?_
    walk_at "dl"
    obtain ⟨x2, e2, b2, l2⟩ := cut_gd hb (some (1 + c)) none
    refine .inl ⟨_, rfl, ?_⟩
    rw [e2]
    refine ev_plusL rfl rfl (small_sz (by simp only [List.length_append, List.length_map, List.length_cons, List.length_nil]; omega)) ?_
    walk_at "dl"
    intro pf hpf
    walk_at "dl"
    refine ev_ix rfl eL ?_
    walk_at "dl"
    refine ev_plusL rfl rfl (small_sz (by simp only [List.length_map, List.length_cons, List.length_nil]; omega)) ?_
    walk_at "dl"
    refine ev_plusL rfl rfl (small_sz (by simp only [List.length_map, List.length_cons, List.length_nil]; omega)) ?_
    walk_at "dl"
    refine ev_plusML (lstOf_ref put_same) rfl (show (3 : Nat) ≤ sizeLine by decide) fun pg hpg => ?_
    walk_at "dl"
    refine ev_isL (seqL_ref put_same) ?_
    walk_at "dl"
    refine lcGo_flt (fun d => match d with | .int n => some (.int (n + 1)) | _ => none) _ [] (small_sz (by simp only [List.length_map, List.length_nil]; omega)) (fun y hy R R0 h1 h2 => ?_) ?_
    · obtain ⟨n, _, rfl⟩ := List.mem_map.mp hy
      walk_at "dl"
      exact h1 _ rfl
    rw [List.nil_append, lc_map]
    walk_at "dl"
    refine ev_app put_same (show (3 : Nat) < sizeLine by decide) ?_
    rw [put_put]
    walk_at "dl"
    refine ev_isL (seqL_ref put_same) ?_
    walk_at "dl"
    refine lcGo_flt (fun d => match d with | .int n => some (.int (n - 1)) | _ => none) _ [] (small_sz (by simp only [List.length_map, List.length_nil]; omega)) (fun y hy R R0 h1 h2 => ?_) ?_
    · obtain ⟨n, _, rfl⟩ := List.mem_map.mp hy
      walk_at "dl"
      exact h1 _ rfl
    rw [List.nil_append, lc_map]
    walk_at "dl"
    refine ev_app put_same (show (4 : Nat) < sizeLine by decide) ?_
    rw [put_put]
    walk_at "dl"
    refine ev_frzR put_same ?_
    have hqf : q ≠ pf := Pool.ne hpX hpf
    have hqg : q ≠ pg := Pool.ne (hpX.put hqf) hpg
    have o1 : Bd 1000 [far] := Bd.one (by omega) (by omega)
    have k1 := hb.mono (show (100 : Int) ≤ 1000 by decide)
    have eh : [D.lst (iL x1 ++ [D.int far] ++ iL x2)] ++ [D.lst (iL ns ++ [D.int zl]), D.lst ([D.int 1] ++ iL ns)] ++ [D.lst (iL (ns.map fun n => n + 1))] ++ [D.lst (iL (ns.map fun n => n - 1))] = hL [x1 ++ [far] ++ x2, ns ++ [zl], [1] ++ ns, ns.map (fun n => n + 1), ns.map (fun n => n - 1)] := by
      simp only [hL, iL, List.map_append, List.map_cons, List.map_nil, List.cons_append, List.nil_append, List.append_assoc]
    rw [eh]
    refine h [x1 ++ [far] ++ x2, ns ++ [zl], [1] ++ ns, ns.map (fun n => n + 1), ns.map (fun n => n - 1)] _ (((hpX.put hqf).put hqg).drp hqg) (Nat.le_refl 5) (fun xs hx => ?_)
    have gd : ∀ xs : List Int, Bd 1000 xs → xs.length ≤ 300 → Gd xs := fun xs a b => ⟨a.mono (by decide), b⟩
    have m1 : ∀ g : Int → Int, (∀ n, g n = n + 1 ∨ g n = n - 1) → Gd (ns.map g) := fun g hg => gd _ (fun n hn => by
      obtain ⟨z, hz, rfl⟩ := List.mem_map.mp hn
      have := hb z hz
      have := hg z
      omega) (by rw [List.length_map]; omega)
    simp only [List.mem_cons, List.not_mem_nil, or_false] at hx
    rcases hx with rfl | rfl | rfl | rfl | rfl
    · exact gd _ (((b1.mono (by decide)).app o1).app (b2.mono (by decide))) (by simp only [List.length_append, List.length_cons, List.length_nil]; omega)
    · exact gd _ (k1.app (Bd.one (by have := hb zl hzl; omega) (by have := hb zl hzl; omega))) (by simp only [List.length_append, List.length_cons, List.length_nil]; omega)
    · exact gd _ ((Bd.one (by decide) (by decide)).app k1) (by simp only [List.length_append, List.length_cons, List.length_nil]; omega)
    · exact m1 _ fun n => .inl rfl
    · exact m1 _ fun n => .inr rfl
end K42
namespace K42
open PySem PySem.Spec PyProof.Rows L2 DL
theorem lc_const (c : Int) (n : Nat) (i : Int) : (itemsFrom i n).filterMap (fun _ => some (D.int c)) = iL (List.replicate n c) := by
  induction n generalizing i with
  | zero => rfl
  | succ n ih =>
    show (D.int i :: itemsFrom (i + 1) n).filterMap _ = _
    rw [List.filterMap_cons, ih (i + 1)]
    rfl
theorem beyond_wp {q : Addr} {ns : List Int} {m : Sr} {P : Pv} {Ξ : Xv} (hp : Pool m q) (hb : Bd 100 ns) (hl : ns.length ≤ 100) (h : ∀ nss m', Pool m' q → nss.length ≤ 5 → (∀ ns ∈ nss, Gd ns) → P (.lst (hL nss)) m') : wp__law_beyond [.ref q, .lst (iL ns)] m P Ξ := by
  have big : (10 : Int) ^ (20 : Int).toNat = 100000000000000000000 := by decide
  unfold wp__law_beyond
  walk_at "dl"
  refine ev_pow ⟨by decide, by decide, by decide⟩ ?_
  rw [big]
  walk_at "dl"
  refine draw_wp hp (by decide) (by decide) fun f m1 f0 f1 hp1 hk1 => ?_
  walk_at "dl"
  refine draw_wp hp1 (by decide) (by decide) fun g m2 g0 g1 hp2 hk2 => ?_
  have pick : ∃ bad, L2.atI [D.int (-61), D.int 61, D.int (-61 - f), D.int (61 + f)] g = some (.int bad) ∧ -100000000000000000061 ≤ bad ∧ bad ≤ 100000000000000000061 := by
    have e : g = 0 ∨ g = 1 ∨ g = 2 ∨ g = 3 := by omega
    rcases e with rfl | rfl | rfl | rfl
    · exact ⟨-61, rfl, by decide, by decide⟩
    · exact ⟨61, rfl, by decide, by decide⟩
    · exact ⟨-61 - f, rfl, by omega, by omega⟩
    · exact ⟨61 + f, rfl, by omega, by omega⟩
  obtain ⟨bad, eb, b0, b1⟩ := pick
  refine ev_ix rfl eb ?_
  walk_at "dl"
  rw [List.length_map]
  refine draw_wp hp2 (by omega) (Int.le_trans (b := 101) (by omega) (by decide)) fun c m3 c0 c1 hp3 hk3 => ?_
  walk_at "dl"
  obtain ⟨x1, e1, bb1, l1⟩ := cut_gd hb none (some c)
  refine .inl ⟨_, rfl, ?_⟩
  rw [e1]
  walk_at "dl"
  refine ev_plusL rfl rfl (small_sz (by simp only [List.length_map, List.length_cons, List.length_nil]; omega)) ?_
  walk_at "dl"
  refine draw_wp hp3 (by decide) (by decide) fun s m4 s0 s1 hp4 hk4 => ?_
  walk_at "dl"
  obtain ⟨x2, e2, bb2, l2⟩ := cut_gd hb (some c) none
  refine .inl ⟨_, rfl, ?_⟩
  rw [e2]
  refine ev_plusL rfl rfl (small_sz (by simp only [List.length_append, List.length_map, List.length_cons, List.length_nil]; omega)) ?_
  walk_at "dl"
  refine ev_plusL rfl rfl (small_sz (by simp only [List.length_append, List.length_map, List.length_cons, List.length_nil]; omega)) ?_
  walk_at "dl"
  refine .inl ⟨_, rfl, ?_⟩
  rw [e2]
  refine ev_plusL rfl rfl (small_sz (by simp only [List.length_append, List.length_map, List.length_cons, List.length_nil]; omega)) ?_
  walk_at "dl"
  intro pf hpf
  have hqf := hp4.ne hpf
  walk_at "dl"
  refine ev_isL (seqL_ref put_same) ?_
  walk_at "dl"
  refine ev_dr1R (by omega) (by omega) ?_
  rw [items_0]
  refine lcGo_flt (fun _ => some (.int 0)) _ [] (small_sz (by rw [items_len]; simp; omega)) (fun y hy R R0 h1 h2 => ?_) ?_
  · walk_at "dl"
    exact h1 _ rfl
  rw [List.nil_append, lc_const]
  walk_at "dl"
  refine ev_app put_same (show (3 : Nat) < sizeLine by decide) ?_
  rw [put_put]
  walk_at "dl"
  refine ev_isL (seqL_ref put_same) ?_
  walk_at "dl"
  refine ev_dr1R (by omega) (by omega) ?_
  rw [items_0]
  refine lcGo_flt (fun _ => some (.int bad)) _ [] (small_sz (by rw [items_len]; simp; omega)) (fun y hy R R0 h1 h2 => ?_) ?_
  · walk_at "dl"
    exact h1 _ rfl
  rw [List.nil_append, lc_const]
  walk_at "dl"
  refine ev_app put_same (show (4 : Nat) < sizeLine by decide) ?_
  rw [put_put]
  walk_at "dl"
  refine ev_frzR put_same ?_
  have eh : [D.lst (iL x1 ++ [D.int bad] ++ iL x2), D.lst (iL x1 ++ [D.int bad] ++ [D.int (-bad)] ++ iL x2), D.lst []] ++ [D.lst (iL (List.replicate (61 + s).toNat 0))] ++ [D.lst (iL (List.replicate (61 + s).toNat bad))] = hL [x1 ++ [bad] ++ x2, x1 ++ [bad] ++ [-bad] ++ x2, [], List.replicate (61 + s).toNat 0, List.replicate (61 + s).toNat bad] := by
    simp only [hL, iL, List.map_append, List.map_cons, List.map_nil, List.cons_append, List.nil_append, List.append_assoc]
  rw [eh]
  refine h _ _ ((hp4.put hqf).drp hqf) (Nat.le_refl 5) (fun xs hx => ?_)
  have k1 : Bd HB x1 := bb1.mono (by decide)
  have k2 : Bd HB x2 := bb2.mono (by decide)
  have k3 : Bd HB [bad] := Bd.one (by show -1000000000000000000000 ≤ bad; omega) (by show bad ≤ 1000000000000000000000; omega)
  have k4 : Bd HB [-bad] := Bd.one (by show -1000000000000000000000 ≤ -bad; omega) (by show -bad ≤ 1000000000000000000000; omega)
  have rp : ∀ z : Int, -HB ≤ z → z ≤ HB → Gd (List.replicate (61 + s).toNat z) := fun z z1 z2 => ⟨fun n hn => by rw [List.eq_of_mem_replicate hn]; exact ⟨z1, z2⟩, by rw [List.length_replicate]; omega⟩
  simp only [List.mem_cons, List.not_mem_nil, or_false] at hx
  rcases hx with rfl | rfl | rfl | rfl | rfl
  · exact ⟨(k1.app k3).app k2, by simp only [List.length_append, List.length_cons, List.length_nil]; omega⟩
  · exact ⟨((k1.app k3).app k4).app k2, by simp only [List.length_append, List.length_cons, List.length_nil]; omega⟩
  · exact ⟨fun n hn => (by cases hn), by decide⟩
  · exact rp 0 (by decide) (by decide)
  · exact rp bad (by show -1000000000000000000000 ≤ bad; omega) (by show bad ≤ 1000000000000000000000; omega)
/-! the law -/
theorem fits_hb {n : Int} (h1 : -10000000000000000000000 ≤ n) (h2 : n ≤ 10000000000000000000000) : Fits n := by
  have h : n.natAbs ≤ 10000000000000000000000 := by omega
  exact Nat.lt_of_le_of_lt h (by decide)
theorem Bd.fits {ns : List Int} (h : Bd HB ns) : ∀ n ∈ ns, Fits n := fun n hn => by
  have := h n hn
  have e : HB = 1000000000000000000000 := rfl
  exact fits_hb (by omega) (by omega)
theorem law_loop {D₁ : Ed} {q : Addr} {o0 o2 o3 o4 o5 o6 o7 o9 o10 : Option D} : ∀ (nss : List (List Int)) (o8 : Option D) (m : Sr), Pool m q → (∀ ns ∈ nss, Gd ns) →
    (∀ m' o8, Pool m' q → D₁.nx [o0, some (.ref q), o2, o3, o4, o5, o6, o7, o8, o9, o10] m') →
    dForL (gdName 8) lb_law_1 (hL nss) D₁ [o0, some (.ref q), o2, o3, o4, o5, o6, o7, o8, o9, o10] m
  | [], o8, m, hp, hg, hk => hk m o8 hp
  | ns :: r, o8, m, hp, hg, hk => by
    have g := hg ns List.mem_cons_self
    have l := g.2
    show gdName 8 (.lst (iL ns)) _ m _
    unfold lb_law_1
    walk_at "dl"
    rw [List.length_map]
    refine draw_wp hp (by omega) (Int.le_trans (b := 1000) (by omega) (by decide)) fun c m1 c0 c1 hp1 hk1 => ?_
    walk_at "dl"
    refine law_heap_wp g.1.fits (fits_hb (by omega) (by omega)) (by omega) fun m' => ?_
    walk_at "dl"
    exact law_loop r _ m1 hp1 (fun ns hns => hg ns (List.mem_cons_of_mem _ hns)) hk
theorem Pyr.astray {ns : List Int} (h : Pyr ns) : astray ns = none := by
  unfold K42.astray
  rw [List.findIdx?_eq_none_iff]
  intro b hb
  unfold onL at hb
  obtain ⟨q, hq, rfl⟩ := List.mem_map.mp hb
  rw [h.all q hq]; rfl
theorem Pyr.chk {ns : List Int} (h : Pyr ns) (hl : ns.length ≤ 60) : chkErr ns = none := by
  have pos := List.length_pos_iff.mpr h.ne
  unfold chkErr
  rw [if_neg (by omega)]
  rw [Option.map_eq_none_iff, List.find?_eq_none]
  intro n hn
  have := h.lo n hn
  have := h.up n hn
  simp
  omega
theorem Pyr.bd {ns : List Int} (h : Pyr ns) (hl : ns.length ≤ 60) : Bd 100 ns := fun n hn => by
  have := h.lo n hn
  have := h.up n hn
  omega
theorem law_true (script : List Int) (h1 : script.length ≤ 63) (h2 : ∀ z ∈ script, Builtin.Int.intBits z ≤ 1048576) : wp_law [.scr (script.map D.int)] emp (fun y _ => y = .bl true) fun _ _ _ => False := by
  have big : (10 : Int) ^ (20 : Int).toNat = 100000000000000000000 := by decide
  unfold wp_law
  walk_at "dl"
  refine law_pool_wp h1 fun q m1 hp d => ?_
  have hp : Pool (DL.uni emp m1) q := by
    obtain ⟨a, xs, e, r⟩ := hp
    exact ⟨a, xs, uni_new d e, r⟩
  generalize DL.uni emp m1 = m2 at hp ⊢
  walk_at "dl"
  refine draw_wp hp (by decide) (by decide) fun s1 m3 s10 s11 hp hk => ?_
  walk_at "dl"
  refine pyramid_wp hp (by omega) (by omega) (by decide) (by decide) fun first m4 hp pf lf => ?_
  walk_at "dl"
  refine draw_wp hp (by decide) (by decide) fun s2 m5 s20 s21 hp hk => ?_
  walk_at "dl"
  refine pyramid_wp hp (by omega) (by omega) (by decide) (by decide) fun half m6 hp ph lh => ?_
  walk_at "dl"
  refine draw_wp hp (by decide) (by decide) fun s3 m7 s30 s31 hp hk => ?_
  walk_at "dl"
  refine strict_one_wp hp (by omega) (by omega) fun strict m8 hp n3 b3 l3 => ?_
  walk_at "dl"
  refine draw_wp hp (by decide) (by decide) fun s4 m9 s40 s41 hp hk => ?_
  walk_at "dl"
  refine any_wp hp (by omega) (by omega) fun other m10 hp b4 l4 => ?_
  walk_at "dl"
  refine draw_wp hp (by decide) (by decide) fun s5 m11 s50 s51 hp hk => ?_
  walk_at "dl"
  have b1 := pf.bd (by omega)
  have b2 := ph.bd (by omega)
  refine changed_wp hp pf.ne b1 (by omega) fun c1 m12 hp n1 g1 => ?_
  refine ev_plusL rfl rfl (small_sz (by simp only [List.length_map, List.length_cons, List.length_nil]; omega)) ?_
  walk_at "dl"
  refine changed_wp hp n3 b3 (by omega) fun c2 m13 hp n2 g2 => ?_
  refine ev_plusL rfl rfl (small_sz (by simp only [List.length_append, List.length_map, List.length_cons, List.length_nil]; omega)) ?_
  walk_at "dl"
  refine beyond_wp hp b2 (by omega) fun c3 m14 hp n3' g3 => ?_
  refine ev_plusL rfl rfl (small_sz (by simp only [List.length_append, List.length_map, List.length_cons, List.length_nil]; omega)) ?_
  walk_at "dl"
  have eh : [D.lst (iL first), D.lst (iL half), D.lst (iL strict), D.lst (iL other)] ++ hL c1 ++ hL c2 ++ hL c3 = hL ([first, half, strict, other] ++ c1 ++ c2 ++ c3) := by
    simp only [hL, List.map_append, List.map_cons, List.map_nil]
  rw [eh]
  have gd : ∀ {B : Int} {xs : List Int}, Bd B xs → B ≤ HB → xs.length ≤ 300 → Gd xs := fun a b c => ⟨a.mono b, c⟩
  have q1 := gd b1 (by decide) (by omega)
  have q3 := gd b3 (by decide) (by omega)
  refine law_loop _ none m14 hp (fun xs hx => ?_) fun m15 o8 hp => ?_
  · rcases List.mem_append.mp hx with hx | hx
    · rcases List.mem_append.mp hx with hx | hx
      · rcases List.mem_append.mp hx with hx | hx
        · simp only [List.mem_cons, List.not_mem_nil, or_false] at hx
          rcases hx with rfl | rfl | rfl | rfl
          · exact q1
          · exact gd b2 (by decide) (by omega)
          · exact q3
          · exact gd b4 (by decide) (by omega)
        · exact g1 xs hx
      · exact g2 xs hx
    · exact g3 xs hx
  have ff := q1.1.fits
  have fl : first.length ≤ 60 := by omega
  walk_at "dl"
  rw [List.length_map]
  refine law_heap_wp ff (fits_hb (by omega) (by omega)) (by omega) fun m' => ?_
  walk_at "dl"
  refine law_heap_wp ff (fits_hb (by omega) (by omega)) (by omega) fun m' => ?_
  walk_at "dl"
  rw [List.length_map]
  refine ev_pow ⟨by decide, by decide, by decide⟩ ?_
  rw [big]
  walk_at "dl"
  refine draw_wp hp (by decide) (by decide) fun s6 m16 s60 s61 hp hk => ?_
  walk_at "dl"
  refine law_heap_wp ff (fits_hb (by omega) (by omega)) (by omega) fun m' => ?_
  walk_at "dl"
  refine law_heap_wp ff (fits_hb (by omega) (by omega)) (by omega) fun m' => ?_
  walk_at "dl"
  apply ev_ite <;> intro cg
  · walk_at "dl"
    refine pyramid_wp hp (by omega) (by omega) (by decide) (by decide) fun high m17 hp pg lg => ?_
    have bg := pg.bd (by omega)
    walk_at "dl"
    refine draw_wp hp (by decide) (by decide) fun s7 m18 s70 s71 hp hk => ?_
    walk_at "dl"
    refine law_heap_wp (gd bg (by decide) (by omega)).1.fits (fits_hb (by omega) (by omega)) (by omega) fun m' => ?_
    walk_at "dl"
    refine ev_tupL rfl ?_
    walk_at "dl"
    refine levels_wp (ns := first) rfl (fun _ _ _ p m' hm d => ?_) (fun e he => by rw [pf.chk fl] at he; cases he) (fun _ z hz z0 => by rw [pf.hd] at hz; cases hz; exact (z0 rfl).elim) fun _ _ k z hk hz => by rw [pf.astray] at hk; cases hk
    have hm := uni_new d hm
    revert hm
    generalize DL.uni _ m' = m19
    intro hm
    walk_at "dl"
    refine law_levels_wp rfl (by omega) pf.ne fun m'' => ?_
    walk_at "dl"
    refine law_same_wp (d := .list ((lvL first).map .int)) (ints_ok (lv_fits (by omega)) (by rw [lv_len]; omega)) (.ref hm (PyA.ints _ _)) (.lst (PyA.ints _ _)) (by rw [lstOf_ref hm]; rfl) rfl ?_
    walk_at "dl"
    refine law_heap_wp q3.1.fits (fits_hb (by omega) (by omega)) (by omega) fun m' => ?_
    walk_at "dl"
    refine law_heap_wp ff (fits_hb (by omega) (by omega)) (by omega) fun m' => ?_
    rfl
  · walk_at "dl"
    refine ev_tupL rfl ?_
    walk_at "dl"
    refine levels_wp (ns := first) rfl (fun _ _ _ p m' hm d => ?_) (fun e he => by rw [pf.chk fl] at he; cases he) (fun _ z hz z0 => by rw [pf.hd] at hz; cases hz; exact (z0 rfl).elim) fun _ _ k z hk hz => by rw [pf.astray] at hk; cases hk
    have hm := uni_new d hm
    revert hm
    generalize DL.uni _ m' = m19
    intro hm
    walk_at "dl"
    refine law_levels_wp rfl (by omega) pf.ne fun m'' => ?_
    walk_at "dl"
    refine law_same_wp (d := .list ((lvL first).map .int)) (ints_ok (lv_fits (by omega)) (by rw [lv_len]; omega)) (.ref hm (PyA.ints _ _)) (.lst (PyA.ints _ _)) (by rw [lstOf_ref hm]; rfl) rfl ?_
    walk_at "dl"
    refine law_heap_wp q3.1.fits (fits_hb (by omega) (by omega)) (by omega) fun m' => ?_
    walk_at "dl"
    refine law_heap_wp ff (fits_hb (by omega) (by omega)) (by omega) fun m' => ?_
    rfl
end K42
open PySem PySem.W PyProof.Rows DL
set_option maxRecDepth 100000 in
set_option maxHeartbeats 0 in
theorem PySem.Challenge.cw_rimmachines_k42_heaps_fall_holds : PySem.Challenge.rw_rimmachines_k42_heaps_fall.Holds := by
  w_on; o_law; k_head; (case hw => w_witness2)
  k_fill
  refine end_law (l := PySem.Challenge.rw_rimmachines_k42_heaps_fall) (n := 63) (x := "script") rfl (by decide) rfl (fun w h Y => PySem.W.kIn_of Y) K42.wp_law ?F K42.law_true
  case F =>
    intro w mg fa h KX G hmg
    refine' K42.all_mk KX G hmg ?a_check_number ?l_check_number ?c_check_number ?k_check_number ?a_check_size ?l_check_size ?c_check_size ?k_check_size ?a_check_places ?l_check_places ?c_check_places ?k_check_places ?a_lying_on ?l_lying_on ?c_lying_on ?k_lying_on ?a_first_astray ?l_first_astray ?c_first_astray ?k_first_astray ?a_drop ?l_drop ?c_drop ?k_drop ?a_split_at ?l_split_at ?c_split_at ?k_split_at ?a_is_pyramid ?l_is_pyramid ?c_is_pyramid ?k_is_pyramid ?a_is_strict ?l_is_strict ?c_is_strict ?k_is_strict ?a_is_half ?l_is_half ?c_is_half ?k_is_half ?a_levels ?l_levels ?c_levels ?k_levels ?a_pushed ?l_pushed ?c_pushed ?k_pushed ?a__law_pool ?l__law_pool ?c__law_pool ?k__law_pool ?a__law_draw ?l__law_draw ?c__law_draw ?k__law_draw ?a__law_same ?l__law_same ?c__law_same ?k__law_same ?a__law_on ?l__law_on ?c__law_on ?k__law_on ?a__law_levels ?l__law_levels ?c__law_levels ?k__law_levels ?a__law_strict ?l__law_strict ?c__law_strict ?k__law_strict ?a__law_due ?l__law_due ?c__law_due ?k__law_due ?a__law_ask ?l__law_ask ?c__law_ask ?k__law_ask ?a__law_heap ?l__law_heap ?c__law_heap ?k__law_heap ?a__law_pyramid ?l__law_pyramid ?c__law_pyramid ?k__law_pyramid ?a__law_strict_one ?l__law_strict_one ?c__law_strict_one ?k__law_strict_one ?a__law_any ?l__law_any ?c__law_any ?k__law_any ?a__law_changed ?l__law_changed ?c__law_changed ?k__law_changed ?a__law_beyond ?l__law_beyond ?c__law_beyond ?k__law_beyond ?a_law ?l_law ?c_law ?k_law ?zx3 ?zx4 ?xa_NumberError ?xL_NumberError ?xr_NumberError ?x1_NumberError ?x2_NumberError ?x3_NumberError ?x4_NumberError ?x5_NumberError ?x6_NumberError ?x7_NumberError ?x8_NumberError ?x9_NumberError ?xl_NumberError ?xc_NumberError ?xk_NumberError ?xn_NumberError_number ?xa_SizeError ?xL_SizeError ?xr_SizeError ?x1_SizeError ?x2_SizeError ?x3_SizeError ?x4_SizeError ?x5_SizeError ?x6_SizeError ?x7_SizeError ?x8_SizeError ?x9_SizeError ?xl_SizeError ?xc_SizeError ?xk_SizeError ?xn_SizeError_count ?xa_WordError ?xL_WordError ?xr_WordError ?x1_WordError ?x2_WordError ?x3_WordError ?x4_WordError ?x5_WordError ?x6_WordError ?x7_WordError ?x8_WordError ?x9_WordError ?xl_WordError ?xc_WordError ?xk_WordError ?xn_WordError_at ?xa_RootError ?xL_RootError ?xr_RootError ?x1_RootError ?x2_RootError ?x3_RootError ?x4_RootError ?x5_RootError ?x6_RootError ?x7_RootError ?x8_RootError ?x9_RootError ?xl_RootError ?xc_RootError ?xk_RootError ?xn_RootError_x ?xn_RootError_y ?xa_RimmachinesError ?y1_NumberError ?y2_NumberError ?y3_NumberError ?y4_NumberError ?y1_SizeError ?y2_SizeError ?y3_SizeError ?y4_SizeError ?y1_WordError ?y2_WordError ?y3_WordError ?y4_WordError ?y1_RootError ?y2_RootError ?y3_RootError ?y4_RootError ?y1_RimmachinesError ?y2_RimmachinesError ?y3_RimmachinesError ?y4_RimmachinesError ?s_NumberError_RootError ?s_NumberError_NumberError ?s_NumberError_SizeError ?s_NumberError_RimmachinesError ?s_NumberError_WordError ?s_SizeError_RootError ?s_SizeError_NumberError ?s_SizeError_SizeError ?s_SizeError_RimmachinesError ?s_SizeError_WordError ?s_WordError_RootError ?s_WordError_NumberError ?s_WordError_SizeError ?s_WordError_RimmachinesError ?s_WordError_WordError ?s_RootError_RootError ?s_RootError_NumberError ?s_RootError_SizeError ?s_RootError_RimmachinesError ?s_RootError_WordError ?z_abs ?z_enumerate ?z_int ?z_isinstance ?z_len ?z_list ?z_max ?z_min ?z_range ?z_repr ?z_tuple ?z_zip ?v_MOST
    (case a_check_number => k_is)
    (case l_check_number => k_is)
    (case c_check_number => k_is)
    (case k_check_number => k_is)
    (case a_check_size => k_is)
    (case l_check_size => k_is)
    (case c_check_size => k_is)
    (case k_check_size => k_is)
    (case a_check_places => k_is)
    (case l_check_places => k_is)
    (case c_check_places => k_is)
    (case k_check_places => k_is)
    (case a_lying_on => k_is)
    (case l_lying_on => k_is)
    (case c_lying_on => k_is)
    (case k_lying_on => k_is)
    (case a_first_astray => k_is)
    (case l_first_astray => k_is)
    (case c_first_astray => k_is)
    (case k_first_astray => k_is)
    (case a_drop => k_is)
    (case l_drop => k_is)
    (case c_drop => k_is)
    (case k_drop => k_is)
    (case a_split_at => k_is)
    (case l_split_at => k_is)
    (case c_split_at => k_is)
    (case k_split_at => k_is)
    (case a_is_pyramid => k_is)
    (case l_is_pyramid => k_is)
    (case c_is_pyramid => k_is)
    (case k_is_pyramid => k_is)
    (case a_is_strict => k_is)
    (case l_is_strict => k_is)
    (case c_is_strict => k_is)
    (case k_is_strict => k_is)
    (case a_is_half => k_is)
    (case l_is_half => k_is)
    (case c_is_half => k_is)
    (case k_is_half => k_is)
    (case a_levels => k_is)
    (case l_levels => k_is)
    (case c_levels => k_is)
    (case k_levels => k_is)
    (case a_pushed => k_is)
    (case l_pushed => k_is)
    (case c_pushed => k_is)
    (case k_pushed => k_is)
    (case a__law_pool => k_is)
    (case l__law_pool => k_is)
    (case c__law_pool => k_is)
    (case k__law_pool => k_is)
    (case a__law_draw => k_is)
    (case l__law_draw => k_is)
    (case c__law_draw => k_is)
    (case k__law_draw => k_is)
    (case a__law_same => k_is)
    (case l__law_same => k_is)
    (case c__law_same => k_is)
    (case k__law_same => k_is)
    (case a__law_on => k_is)
    (case l__law_on => k_is)
    (case c__law_on => k_is)
    (case k__law_on => k_is)
    (case a__law_levels => k_is)
    (case l__law_levels => k_is)
    (case c__law_levels => k_is)
    (case k__law_levels => k_is)
    (case a__law_strict => k_is)
    (case l__law_strict => k_is)
    (case c__law_strict => k_is)
    (case k__law_strict => k_is)
    (case a__law_due => k_is)
    (case l__law_due => k_is)
    (case c__law_due => k_is)
    (case k__law_due => k_is)
    (case a__law_ask => k_is)
    (case l__law_ask => k_is)
    (case c__law_ask => k_is)
    (case k__law_ask => k_is)
    (case a__law_heap => k_is)
    (case l__law_heap => k_is)
    (case c__law_heap => k_is)
    (case k__law_heap => k_is)
    (case a__law_pyramid => k_is)
    (case l__law_pyramid => k_is)
    (case c__law_pyramid => k_is)
    (case k__law_pyramid => k_is)
    (case a__law_strict_one => k_is)
    (case l__law_strict_one => k_is)
    (case c__law_strict_one => k_is)
    (case k__law_strict_one => k_is)
    (case a__law_any => k_is)
    (case l__law_any => k_is)
    (case c__law_any => k_is)
    (case k__law_any => k_is)
    (case a__law_changed => k_is)
    (case l__law_changed => k_is)
    (case c__law_changed => k_is)
    (case k__law_changed => k_is)
    (case a__law_beyond => k_is)
    (case l__law_beyond => k_is)
    (case c__law_beyond => k_is)
    (case k__law_beyond => k_is)
    (case a_law => k_is)
    (case l_law => k_is)
    (case c_law => k_is)
    (case k_law => k_is)
    (case zx3 => k_is)
    (case zx4 => k_is)
    (case xa_NumberError => k_is)
    (case xL_NumberError => k_is)
    (case xr_NumberError => decide +kernel)
    (case x1_NumberError => k_is)
    (case x2_NumberError => k_is)
    (case x3_NumberError => k_is)
    (case x4_NumberError => k_is)
    (case x5_NumberError => k_is)
    (case x6_NumberError => k_is)
    (case x7_NumberError => k_is)
    (case x8_NumberError => k_is)
    (case x9_NumberError => k_is)
    (case xl_NumberError => k_is)
    (case xc_NumberError => k_is)
    (case xk_NumberError => k_is)
    (case xn_NumberError_number => k_is)
    (case xa_SizeError => k_is)
    (case xL_SizeError => k_is)
    (case xr_SizeError => decide +kernel)
    (case x1_SizeError => k_is)
    (case x2_SizeError => k_is)
    (case x3_SizeError => k_is)
    (case x4_SizeError => k_is)
    (case x5_SizeError => k_is)
    (case x6_SizeError => k_is)
    (case x7_SizeError => k_is)
    (case x8_SizeError => k_is)
    (case x9_SizeError => k_is)
    (case xl_SizeError => k_is)
    (case xc_SizeError => k_is)
    (case xk_SizeError => k_is)
    (case xn_SizeError_count => k_is)
    (case xa_WordError => k_is)
    (case xL_WordError => k_is)
    (case xr_WordError => decide +kernel)
    (case x1_WordError => k_is)
    (case x2_WordError => k_is)
    (case x3_WordError => k_is)
    (case x4_WordError => k_is)
    (case x5_WordError => k_is)
    (case x6_WordError => k_is)
    (case x7_WordError => k_is)
    (case x8_WordError => k_is)
    (case x9_WordError => k_is)
    (case xl_WordError => k_is)
    (case xc_WordError => k_is)
    (case xk_WordError => k_is)
    (case xn_WordError_at => k_is)
    (case xa_RootError => k_is)
    (case xL_RootError => k_is)
    (case xr_RootError => decide +kernel)
    (case x1_RootError => k_is)
    (case x2_RootError => k_is)
    (case x3_RootError => k_is)
    (case x4_RootError => k_is)
    (case x5_RootError => k_is)
    (case x6_RootError => k_is)
    (case x7_RootError => k_is)
    (case x8_RootError => k_is)
    (case x9_RootError => k_is)
    (case xl_RootError => k_is)
    (case xc_RootError => k_is)
    (case xk_RootError => k_is)
    (case xn_RootError_x => k_is)
    (case xn_RootError_y => k_is)
    (case xa_RimmachinesError => k_is)
    (case y1_NumberError => k_is)
    (case y2_NumberError => k_is)
    (case y3_NumberError => k_is)
    (case y4_NumberError => k_is)
    (case y1_SizeError => k_is)
    (case y2_SizeError => k_is)
    (case y3_SizeError => k_is)
    (case y4_SizeError => k_is)
    (case y1_WordError => k_is)
    (case y2_WordError => k_is)
    (case y3_WordError => k_is)
    (case y4_WordError => k_is)
    (case y1_RootError => k_is)
    (case y2_RootError => k_is)
    (case y3_RootError => k_is)
    (case y4_RootError => k_is)
    (case y1_RimmachinesError => k_is)
    (case y2_RimmachinesError => k_is)
    (case y3_RimmachinesError => k_is)
    (case y4_RimmachinesError => k_is)
    (case s_NumberError_RootError => k_is)
    (case s_NumberError_NumberError => k_is)
    (case s_NumberError_SizeError => k_is)
    (case s_NumberError_RimmachinesError => k_is)
    (case s_NumberError_WordError => k_is)
    (case s_SizeError_RootError => k_is)
    (case s_SizeError_NumberError => k_is)
    (case s_SizeError_SizeError => k_is)
    (case s_SizeError_RimmachinesError => k_is)
    (case s_SizeError_WordError => k_is)
    (case s_WordError_RootError => k_is)
    (case s_WordError_NumberError => k_is)
    (case s_WordError_SizeError => k_is)
    (case s_WordError_RimmachinesError => k_is)
    (case s_WordError_WordError => k_is)
    (case s_RootError_RootError => k_is)
    (case s_RootError_NumberError => k_is)
    (case s_RootError_SizeError => k_is)
    (case s_RootError_RimmachinesError => k_is)
    (case s_RootError_WordError => k_is)
    (case z_abs => k_is)
    (case z_enumerate => k_is)
    (case z_int => k_is)
    (case z_isinstance => k_is)
    (case z_len => k_is)
    (case z_list => k_is)
    (case z_max => k_is)
    (case z_min => k_is)
    (case z_range => k_is)
    (case z_repr => k_is)
    (case z_tuple => k_is)
    (case z_zip => k_is)
    (case v_MOST => k_is)
