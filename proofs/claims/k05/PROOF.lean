import PyProof.Rows.All
import Wide.All
import OpenK.AllK
import Wide.FinOn
import HandS.ForMost
import HandS.Zip
import HandS.IsInst
import HandS.Style
import HandS.Flow
import HandS.Conv
import HandS.RevRange
import HandS.TupAny
import HandS.TupMul
import HandS.Walk
import HandS.Deep
import HandS.Wide
import HandS.Evl
import KE.DataMinMax
import KE.KTupSum
import KE.GoesEnum
import KE.GoesMore
import KE.GoesNew
import PyProof.EnumMake
import HandS.SetBool
import HandS.SetKeys
import HandS.Dict
import KE.SortData
import PyProof.Rows.SetFrom
import HandS.Strs
import HandS.SetFor
import PyProof.StrOps2
import HandS.Comp
import HandS.ExcInit
import HandS.ExcField
import HandS.ExcIs
import HandS.ExcOwn
import HandS.WordsExc
import KE.KExcIs
import PySem.Challenge.RW_deepoven_k05_when_one_loaf_can_be_out
set_option Elab.async false
set_option linter.all false
set_option maxRecDepth 100000
/-! The data layer 1: data in the heap, environments. -/
namespace DL
open PySem L2

/-- the script, as data that nothing but its own readers know -/
def scr (ns : List Int) : PyData := .dict [(.none, .list (ns.map .int))]
/-- a dict of texts and ints -/
def dctD (m : List (Str × Int)) : PyData := .dict ((.bool true, .none) :: m.map fun x => (.str x.1, .int x.2))
def dctK (m : List (Str × Int)) : List (Key × V) := m.map fun x => (.inr x.1, .int x.2)

mutual
inductive Da (K : PySem.W.Frag) (S : Hp) : V → PyData → Prop
  | non : Da K S .non .none
  | bl (b : Bool) : Da K S (.bl b) (.bool b)
  | int (i : Int) : Da K S (.int i) (.int i)
  | str (x : Str) : Da K S (.str x) (.str x)
  | lst {a : Addr} {xs : List V} {ds : List PyData} : S a = some (.lst xs) → DaAll K S xs ds → Da K S (.ref a) (.list ds)
  | tup {a : Addr} {xs : List V} {ds : List PyData} : S a = some (.tup xs) → DaAll K S xs ds → Da K S (.ref a) (.tuple ds)
  | scr {a : Addr} {ns : List Int} : SqL K S a (ns.map V.int) → Da K S (.ref a) (scr ns)
  | dct {a : Addr} {m : List (Str × Int)} : S a = some (.dK (dctK m)) → Da K S (.ref a) (dctD m)
inductive DaAll (K : PySem.W.Frag) (S : Hp) : List V → List PyData → Prop
  | nil : DaAll K S [] []
  | cons {v : V} {vs : List V} {d : PyData} {ds : List PyData} : Da K S v d → DaAll K S vs ds → DaAll K S (v :: vs) (d :: ds)
end

section
variable {K : PySem.W.Frag} {S S' H H' : Hp}
mutual
theorem Da.mono (e : Same S S') : ∀ {v : V} {d : PyData}, Da K S v d → Da K S' v d
  | _, _, .non => .non
  | _, _, .bl b => .bl b
  | _, _, .int b => .int b
  | _, _, .str b => .str b
  | _, _, .lst h r => .lst (e _ _ h) (DaAll.mono e r)
  | _, _, .tup h r => .tup (e _ _ h) (DaAll.mono e r)
  | _, _, .scr h => .scr (e.seq h)
  | _, _, .dct h => .dct (e _ _ h)
theorem DaAll.mono (e : Same S S') : ∀ {vs : List V} {ds : List PyData}, DaAll K S vs ds → DaAll K S' vs ds
  | _, _, .nil => .nil
  | _, _, .cons h r => .cons (Da.mono e h) (DaAll.mono e r)
end
theorem DaAll.length : ∀ {vs : List V} {ds : List PyData}, DaAll K S vs ds → vs.length = ds.length
  | _, _, .nil => rfl
  | _, _, .cons _ r => by rw [List.length_cons, List.length_cons, DaAll.length r]
theorem DaAll.get : ∀ {vs : List V} {ds : List PyData} {i : Nat} {v : V}, DaAll K S vs ds → vs[i]? = some v → ∃ d, ds[i]? = some d ∧ Da K S v d
  | _, _, _, _, .nil, e => by simp at e
  | _, _, 0, _, .cons h _, e => by simp at e; subst e; exact ⟨_, rfl, h⟩
  | _, _, i + 1, v, .cons _ r, e => by
    obtain ⟨d, h1, h2⟩ := DaAll.get (i := i) (v := v) r (by simpa using e)
    exact ⟨d, by simpa using h1, h2⟩
theorem DaAll.at : ∀ {vs : List V} {ds : List PyData} {i : Nat} {d : PyData}, DaAll K S vs ds → ds[i]? = some d → ∃ v, vs[i]? = some v ∧ Da K S v d
  | _, _, _, _, .nil, e => by simp at e
  | _, _, 0, _, .cons h _, e => by simp at e; subst e; exact ⟨_, rfl, h⟩
  | _, _, i + 1, d, .cons _ r, e => by
    obtain ⟨v, h1, h2⟩ := DaAll.at (i := i) (d := d) r (by simpa using e)
    exact ⟨v, by simpa using h1, h2⟩
theorem DaAll.append : ∀ {vs us : List V} {ds es : List PyData}, DaAll K S vs ds → DaAll K S us es → DaAll K S (vs ++ us) (ds ++ es)
  | _, _, _, _, .nil, s => s
  | _, _, _, _, .cons h r, s => .cons h (DaAll.append r s)
theorem DaAll.one {v : V} {d : PyData} (h : Da K S v d) : DaAll K S [v] [d] := .cons h .nil
theorem DaAll.set {v : V} {d : PyData} (h : Da K S v d) : ∀ {vs : List V} {ds : List PyData} (i : Nat), DaAll K S vs ds → DaAll K S (vs.set i v) (ds.set i d)
  | _, _, _, .nil => .nil
  | _, _, 0, .cons _ r => .cons h r
  | _, _, i + 1, .cons q r => .cons q (DaAll.set h i r)
theorem DaAll.drop : ∀ {vs : List V} {ds : List PyData} (n : Nat), DaAll K S vs ds → DaAll K S (vs.drop n) (ds.drop n)
  | _, _, 0, r => r
  | _, _, _ + 1, .nil => .nil
  | _, _, n + 1, .cons _ r => DaAll.drop n r
theorem DaAll.take : ∀ {vs : List V} {ds : List PyData} (n : Nat), DaAll K S vs ds → DaAll K S (vs.take n) (ds.take n)
  | _, _, 0, _ => .nil
  | _, _, _ + 1, .nil => .nil
  | _, _, n + 1, .cons h r => .cons h (DaAll.take n r)
theorem DaAll.reverse {vs : List V} {ds : List PyData} (h : DaAll K S vs ds) : DaAll K S vs.reverse ds.reverse := by
  induction ds generalizing vs with
  | nil => cases h; exact .nil
  | cons d ds ih =>
    cases h with
    | cons h1 h2 =>
      rw [List.reverse_cons, List.reverse_cons]
      exact (ih h2).append (.one h1)
theorem DaAll.erase : ∀ {vs : List V} {ds : List PyData} (i : Nat), DaAll K S vs ds → DaAll K S (vs.eraseIdx i) (ds.eraseIdx i)
  | _, _, _, .nil => .nil
  | _, _, 0, .cons _ r => r
  | _, _, i + 1, .cons q r => .cons q (DaAll.erase i r)
theorem DaAll.rep {vs : List V} {ds : List PyData} (h : DaAll K S vs ds) : ∀ k : Nat, DaAll K S (List.replicate k vs).flatten (List.replicate k ds).flatten
  | 0 => .nil
  | k + 1 => by
    rw [List.replicate_succ, List.replicate_succ, List.flatten_cons, List.flatten_cons]
    exact h.append (DaAll.rep h k)
theorem DaAll.dropLast {vs : List V} {ds : List PyData} (h : DaAll K S vs ds) : DaAll K S vs.dropLast ds.dropLast := by
  rw [List.dropLast_eq_take, List.dropLast_eq_take, h.length]
  exact h.take _
theorem DaAll.ints : ∀ {vs : List V} {ns : List Int}, DaAll K S vs (ns.map .int) → vs = ns.map V.int
  | _, [], .nil => rfl
  | _, n :: ns, .cons (.int _) r => by rw [List.map_cons, DaAll.ints r]
theorem DaAll.strs : ∀ {vs : List V} {ns : List Str}, DaAll K S vs (ns.map .str) → vs = ns.map V.str
  | _, [], .nil => rfl
  | _, n :: ns, .cons (.str _) r => by rw [List.map_cons, DaAll.strs r]
theorem DaAll.bls : ∀ {vs : List V} {ns : List Bool}, DaAll K S vs (ns.map .bool) → vs = ns.map V.bl
  | _, [], .nil => rfl
  | _, n :: ns, .cons (.bl _) r => by rw [List.map_cons, DaAll.bls r]
theorem DaAll.ofInts : ∀ {ns : List Int}, DaAll K S (ns.map V.int) (ns.map .int)
  | [] => .nil
  | n :: ns => .cons (.int n) DaAll.ofInts
theorem DaAll.ofStrs : ∀ {ns : List Str}, DaAll K S (ns.map V.str) (ns.map .str)
  | [] => .nil
  | n :: ns => .cons (.str n) DaAll.ofStrs
mutual
theorem Da.dp (e : Same S H) : ∀ {v : V} {d : PyData}, Da K S v d → SeqAt.shaped d = true → Dp K H v d
  | _, _, .non, _ => .non
  | _, _, .bl b, _ => .bl b
  | _, _, .int b, _ => .int b
  | _, _, .str b, _ => .str b
  | _, _, .lst h r, s => .lst (SqL.of (e _ _ h)) (DaAll.dp e r (by
      have c := SeqAt.canLay_of_shaped s
      simpa [PyData.canLay0] using c))
  | _, _, .tup h r, s => .tup (SqT.of (e _ _ h)) (DaAll.dp e r (by
      have c := SeqAt.canLay_of_shaped s
      simpa [PyData.canLay0] using c))
  | _, _, .scr h, s => by
      have c := SeqAt.canLay_of_shaped s
      simp [scr, PyData.canLay0] at c
  | _, _, .dct h, s => by
      have c := SeqAt.canLay_of_shaped s
      simp [dctD, PyData.canLay0] at c
theorem Da.dp' (e : Same S H) : ∀ {v : V} {d : PyData}, Da K S v d → d.canLay0 = true → Dp K H v d
  | _, _, .non, _ => .non
  | _, _, .bl b, _ => .bl b
  | _, _, .int b, _ => .int b
  | _, _, .str b, _ => .str b
  | _, _, .lst h r, s => .lst (SqL.of (e _ _ h)) (DaAll.dp e r (by simpa [PyData.canLay0] using s))
  | _, _, .tup h r, s => .tup (SqT.of (e _ _ h)) (DaAll.dp e r (by simpa [PyData.canLay0] using s))
  | _, _, .scr h, s => by simp [scr, PyData.canLay0] at s
  | _, _, .dct h, s => by simp [dctD, PyData.canLay0] at s
theorem DaAll.dp (e : Same S H) : ∀ {vs : List V} {ds : List PyData}, DaAll K S vs ds → PyData.canLayAll0 ds = true → DpAll K H vs ds
  | _, _, .nil, _ => .nil
  | _, _, .cons h r, s => by
    simp only [PyData.canLayAll0, Bool.and_eq_true] at s
    exact .cons (Da.dp' e h s.1) (DaAll.dp e r s.2)
end
end

/-! ### environments -/
/-- a slot: not known, shared data, a list made here that only this frame holds, a list handed in that this frame may change -/
inductive Sl where
  | no | da (d : PyData) | ow (ds : List PyData) | pa (ds : List PyData)
abbrev En := List Sl
def Sl.ls : Sl → Option (List PyData)
  | .ow ds => some ds
  | .pa ds => some ds
  | _ => none
/-- the list in a slot exchanged -/
def Sl.put : Sl → List PyData → Sl
  | .pa _, es => .pa es
  | _, es => .ow es
/-- a result: shared data, a new list, what stands in a slot -/
inductive Rv where
  | da (d : PyData) | fr (ds : List PyData) | bo (i : Nat)

/-- what stays: the frame B, the data S0 at the start, the list handed in -/
structure Et where
  B : Hp
  S0 : Hp
  pp : Option Addr

structure Rep (K : PySem.W.Frag) (t : Et) (S H : Hp) (σ : L2.St) (ρ : En) : Prop where
  sh : Same S H
  s0 : Same t.S0 S
  sn : ∀ b, t.B b ≠ none → t.S0 b = none → S b = none
  bh : Same t.B H
  ph : ∀ a, t.pp = some a → H a ≠ none
  len : σ.length = ρ.length
  dat : ∀ (i : Nat) (d : PyData), ρ[i]? = some (.da d) → ∃ v, σ[i]? = some (some v) ∧ Da K S v d
  own : ∀ (i : Nat) (s : Sl) (ds : List PyData), ρ[i]? = some s → s.ls = some ds → ∃ a vs, σ[i]? = some (some (.ref a)) ∧ H a = some (.lst vs) ∧ S a = none ∧ t.B a = none ∧ DaAll K S vs ds ∧ (t.pp = some a ↔ s = .pa ds)
  dis : ∀ (i j : Nat) (s s' : Sl) (ds ds' : List PyData) (a : Addr), i ≠ j → ρ[i]? = some s → s.ls = some ds → ρ[j]? = some s' → s'.ls = some ds' → σ[i]? = some (some (.ref a)) → σ[j]? = some (some (.ref a)) → False

/-- the heaps have grown -/
structure New (S H S' H' : Hp) : Prop where
  ss : Same S S'
  hh : Same H H'
  sh : Same S' H'
  fr : ∀ b, H b ≠ none → S b = none → S' b = none
theorem New.refl {S H : Hp} (h : Same S H) : New S H S H := ⟨Same.refl _, Same.refl _, h, fun _ _ h => h⟩
theorem New.trans {S H S1 H1 S2 H2 : Hp} (a : New S H S1 H1) (b : New S1 H1 S2 H2) : New S H S2 H2 :=
  ⟨a.ss.trans b.ss, a.hh.trans b.hh, b.sh, fun c h1 h2 => b.fr c (fun z => h1 (a.hh.free z)) (a.fr c h1 h2)⟩
/-- a new object that is data -/
theorem New.put {S H : Hp} {p : Addr} {o : HO} (h : Same S H) (hp : H p = none) : New S H (upd S p o) (upd H p o) := by
  refine ⟨fun b u e => ?_, fun b u e => ?_, fun b u e => ?_, fun b h1 h2 => ?_⟩
  · rw [upd_ne (ne_of_none e (h.free hp))]; exact e
  · rw [upd_ne (ne_of_none e hp)]; exact e
  · by_cases q : b = p
    · subst q; rw [upd_same] at e ⊢; exact e
    · rw [upd_ne q] at e ⊢; exact h _ _ e
  · have q : b ≠ p := fun z => by subst z; exact h1 hp
    rw [upd_ne q]; exact h2
/-- a new object that is not data yet -/
theorem New.lay {S H : Hp} {p : Addr} {o : HO} (h : Same S H) (hp : H p = none) : New S H S (upd H p o) := by
  refine ⟨Same.refl _, fun b u e => ?_, fun b u e => ?_, fun b _ h2 => h2⟩
  · rw [upd_ne (ne_of_none e hp)]; exact e
  · rw [upd_ne (ne_of_none (h _ _ e) hp)]; exact h _ _ e

section
variable {K : PySem.W.Frag} {t : Et} {S S' H H' : Hp} {σ : L2.St} {ρ : En}
theorem none_ne {o : HO} {x : Option HO} (h : x = some o) : x ≠ none := fun z => by rw [h] at z; cases z
theorem Rep.new (R : Rep K t S H σ ρ) (N : New S H S' H') : Rep K t S' H' σ ρ := by
  refine ⟨N.sh, R.s0.trans N.ss, fun b h1 h2 => N.fr b ?_ (R.sn b h1 h2), R.bh.trans N.hh, fun a h => ?_, R.len, fun i d h => ?_, fun i s ds h1 h2 => ?_, R.dis⟩
  · intro z
    cases q : t.B b with
    | none => exact h1 q
    | some o => rw [R.bh b o q] at z; cases z
  · intro z
    exact R.ph a h (N.hh.free z)
  · obtain ⟨v, e, q⟩ := R.dat i d h
    exact ⟨v, e, q.mono N.ss⟩
  · obtain ⟨a, vs, e1, e2, e3, e4, e5, e6⟩ := R.own i s ds h1 h2
    exact ⟨a, vs, e1, N.hh _ _ e2, N.fr a (none_ne e2) e3, e4, e5.mono N.ss, e6⟩
end

/-- data, or a list that someone holds, seen as data -/
def Vw (K : PySem.W.Frag) (S H : Hp) (v : V) (d : PyData) : Prop :=
  Da K S v d ∨ ∃ a vs ds, v = .ref a ∧ d = .list ds ∧ H a = some (.lst vs) ∧ DaAll K S vs ds
section
variable {K : PySem.W.Frag} {S S' H H' : Hp} {v : V}
theorem Vw.da {d : PyData} (h : Vw K S H v d) (e : Same S H) : Da K H v d := by
  rcases h with h | ⟨a, vs, ds, rfl, rfl, h1, h2⟩
  · exact h.mono e
  · exact .lst h1 (h2.mono e)
theorem Vw.int {i : Int} (h : Vw K S H v (.int i)) : v = .int i := by
  rcases h with h | ⟨a, vs, ds, _, h, _⟩
  · cases h; rfl
  · cases h
theorem Vw.str {i : Str} (h : Vw K S H v (.str i)) : v = .str i := by
  rcases h with h | ⟨a, vs, ds, _, h, _⟩
  · cases h; rfl
  · cases h
theorem Vw.bl {i : Bool} (h : Vw K S H v (.bool i)) : v = .bl i := by
  rcases h with h | ⟨a, vs, ds, _, h, _⟩
  · cases h; rfl
  · cases h
theorem Vw.non (h : Vw K S H v .none) : v = .non := by
  rcases h with h | ⟨a, vs, ds, _, h, _⟩
  · cases h; rfl
  · cases h
theorem Vw.lst {ds : List PyData} (h : Vw K S H v (.list ds)) (e : Same S H) : ∃ a vs, v = .ref a ∧ H a = some (.lst vs) ∧ DaAll K S vs ds := by
  rcases h with h | ⟨a, vs, es, rfl, h, h1, h2⟩
  · cases h with
    | lst h1 h2 => exact ⟨_, _, rfl, e _ _ h1, h2⟩
  · cases h; exact ⟨a, vs, rfl, h1, h2⟩
theorem Vw.tup {ds : List PyData} (h : Vw K S H v (.tuple ds)) : ∃ a vs, v = .ref a ∧ S a = some (.tup vs) ∧ DaAll K S vs ds := by
  rcases h with h | ⟨a, vs, es, _, h, _⟩
  · cases h with
    | tup h1 h2 => exact ⟨_, _, rfl, h1, h2⟩
  · cases h
theorem Vw.of {d : PyData} (h : Da K S v d) : Vw K S H v d := .inl h
theorem Vw.new {d : PyData} (h : Vw K S H v d) (N : New S H S' H') : Vw K S' H' v d := by
  rcases h with h | ⟨a, vs, ds, h0, h1, h2, h3⟩
  · exact .inl (h.mono N.ss)
  · exact .inr ⟨a, vs, ds, h0, h1, N.hh _ _ h2, h3.mono N.ss⟩
end

/-- a result that is data or a new list -/
def RO (K : PySem.W.Frag) (H S' H' : Hp) (v : V) : Rv → Prop
  | .da d => Da K S' v d
  | .fr ds => ∃ p vs, v = .ref p ∧ H p = none ∧ H' p = some (.lst vs) ∧ S' p = none ∧ DaAll K S' vs ds
  | .bo _ => False
/-- a result beside an environment -/
def RvOk (K : PySem.W.Frag) (t : Et) (S H : Hp) (σ : L2.St) (ρ : En) (v : V) : Rv → Prop
  | .da d => Da K S v d
  | .fr ds => ∃ a vs, v = .ref a ∧ H a = some (.lst vs) ∧ S a = none ∧ t.B a = none ∧ t.pp ≠ some a ∧ DaAll K S vs ds ∧ ∀ (i : Nat) (s : Sl) (ds : List PyData), ρ[i]? = some s → s.ls = some ds → σ[i]? ≠ some (some (.ref a))
  | .bo i => σ[i]? = some (some v)
theorem RO.rv {K : PySem.W.Frag} {t : Et} {S H S' H' : Hp} {σ : L2.St} {ρ : En} {v : V} {r : Rv} (R : Rep K t S H σ ρ) (N : New S H S' H') (h : RO K H S' H' v r) : RvOk K t S' H' σ ρ v r := by
  cases r with
  | da d => exact h
  | bo i => exact False.elim h
  | fr ds =>
    obtain ⟨p, vs, e, h1, h2, h3, h4⟩ := h
    refine ⟨p, vs, e, h2, h3, R.bh.free h1, fun z => R.ph p z h1, h4, fun i s ds' q1 q2 z => ?_⟩
    obtain ⟨a, us, z1, z2, _⟩ := R.own i s ds' q1 q2
    rw [z] at z1
    cases z1
    rw [h1] at z2
    cases z2

/-! ### changes of the environment -/
section
variable {K : PySem.W.Frag} {t : Et} {S S' H H' : Hp} {σ : L2.St} {ρ : En}
/-- a list that stands by itself becomes data -/
theorem same_put {a : Addr} {o : HO} (e : S a = none) : Same S (upd S a o) := fun b u q => by rw [upd_ne (ne_of_none q e)]; exact q
theorem put_same {a : Addr} {o : HO} (h : Same S H) (e : H a = some o) : Same (upd S a o) H := fun b u q => by
  by_cases z : b = a
  · subst z; rw [upd_same] at q; cases q; exact e
  · rw [upd_ne z] at q; exact h _ _ q
theorem Rep.grow {a : Addr} {vs : List V} (R : Rep K t S H σ ρ) (h1 : H a = some (.lst vs)) (h2 : S a = none) (h3 : t.B a = none) (h4 : ∀ (i : Nat) (s : Sl) (ds : List PyData), ρ[i]? = some s → s.ls = some ds → σ[i]? ≠ some (some (.ref a))) :
    Rep K t (upd S a (.lst vs)) H σ ρ := by
  have ss : Same S (upd S a (.lst vs)) := same_put h2
  refine ⟨put_same R.sh h1, R.s0.trans ss, fun b q1 q2 => ?_, R.bh, R.ph, R.len, fun i d q => ?_, fun i s ds q1 q2 => ?_, R.dis⟩
  · have z : b ≠ a := fun z => by subst z; exact q1 h3
    rw [upd_ne z]; exact R.sn b q1 q2
  · obtain ⟨v, e, q⟩ := R.dat i d q
    exact ⟨v, e, q.mono ss⟩
  · obtain ⟨b, us, e1, e2, e3, e4, e5, e6⟩ := R.own i s ds q1 q2
    have z : b ≠ a := fun z => by subst z; exact h4 i s ds q1 q2 e1
    exact ⟨b, us, e1, e2, by rw [upd_ne z]; exact e3, e4, e5.mono ss, e6⟩
/-- a slot is forgotten -/
theorem Rep.drop (R : Rep K t S H σ ρ) (i : Nat) : Rep K t S H σ (ρ.set i .no) := by
  have at_ : ∀ {j s}, (ρ.set i .no)[j]? = some s → s ≠ .no → j ≠ i ∧ ρ[j]? = some s := fun {j s} e hs => by
    by_cases z : i = j
    · subst z
      by_cases hl : i < ρ.length
      · rw [List.getElem?_set_self hl] at e; cases e; exact absurd rfl hs
      · rw [List.getElem?_eq_none (by simpa using hl)] at e; cases e
    · rw [List.getElem?_set_ne z] at e; exact ⟨fun q => z q.symm, e⟩
  have ls_ne : ∀ {s : Sl} {ds}, s.ls = some ds → s ≠ .no := fun {s ds} e z => by subst z; cases e
  refine ⟨R.sh, R.s0, R.sn, R.bh, R.ph, by rw [List.length_set]; exact R.len, fun j d q => ?_, fun j s ds q1 q2 => ?_, fun j k s s' ds ds' a h q1 q2 q3 q4 => ?_⟩
  · exact R.dat j d (at_ q (fun z => nomatch z)).2
  · exact R.own j s ds (at_ q1 (ls_ne q2)).2 q2
  · exact R.dis j k s s' ds ds' a h (at_ q1 (ls_ne q2)).2 q2 (at_ q3 (ls_ne q4)).2 q4
theorem set_get {α : Type} {l : List α} {i j : Nat} {x y : α} (e : (l.set i x)[j]? = some y) : (j = i ∧ y = x ∧ i < l.length) ∨ (j ≠ i ∧ l[j]? = some y) := by
  by_cases z : i = j
  · subst z
    by_cases hl : i < l.length
    · rw [List.getElem?_set_self hl] at e; cases e; exact .inl ⟨rfl, rfl, hl⟩
    · rw [List.getElem?_eq_none (by simpa using hl)] at e; cases e
  · rw [List.getElem?_set_ne z] at e; exact .inr ⟨fun q => z q.symm, e⟩
/-- the frame's own list is given up: it is data from now on -/
theorem Rep.give {i : Nat} {ds : List PyData} (R : Rep K t S H σ ρ) (h : ρ[i]? = some (.ow ds)) :
    ∃ S', Same S S' ∧ Rep K t S' H σ (ρ.set i (.da (.list ds))) ∧ ∃ v, σ[i]? = some (some v) ∧ Da K S' v (.list ds) := by
  obtain ⟨a, vs, e1, e2, e3, e4, e5, e6⟩ := R.own i _ ds h rfl
  have ss : Same S (upd S a (.lst vs)) := same_put e3
  have R1 : Rep K t (upd S a (.lst vs)) H σ (ρ.set i .no) := (R.drop i).grow e2 e3 e4 fun j s es q1 q2 z => by
    rcases set_get q1 with ⟨rfl, rfl, _⟩ | ⟨hj, q⟩
    · cases q2
    · exact R.dis j i s _ es ds a hj q q2 h rfl z e1
  have dv : Da K (upd S a (.lst vs)) (.ref a) (.list ds) := .lst upd_same (e5.mono ss)
  refine ⟨_, ss, ⟨R1.sh, R1.s0, R1.sn, R1.bh, R1.ph, by rw [List.length_set]; exact R.len, fun j d q => ?_, fun j s es q1 q2 => ?_, fun j k s s' es es' b hb q1 q2 q3 q4 => ?_⟩, _, e1, dv⟩
  · rcases set_get q with ⟨rfl, z, _⟩ | ⟨hj, q⟩
    · cases z; exact ⟨_, e1, dv⟩
    · obtain ⟨v, z1, z2⟩ := R.dat j d q
      exact ⟨v, z1, z2.mono ss⟩
  · rcases set_get q1 with ⟨rfl, rfl, _⟩ | ⟨hj, q⟩
    · cases q2
    · exact R1.own j s es (by rw [List.getElem?_set_ne (fun z => hj z.symm)]; exact q) q2
  · rcases set_get q1 with ⟨rfl, rfl, _⟩ | ⟨hj, q⟩
    · cases q2
    · rcases set_get q3 with ⟨rfl, rfl, _⟩ | ⟨hk, q'⟩
      · cases q4
      · exact R.dis j k s s' es es' b hb q q2 q' q4
/-- a slot gets data -/
theorem Rep.setD {i : Nat} {v : V} {d : PyData} (R : Rep K t S H σ ρ) (h : Da K S v d) (hp : ∀ ds, ρ[i]? ≠ some (.pa ds)) : Rep K t S H (σ.set i (some v)) (ρ.set i (.da d)) := by
  refine ⟨R.sh, R.s0, R.sn, R.bh, R.ph, by rw [List.length_set, List.length_set]; exact R.len, fun j e q => ?_, fun j s es q1 q2 => ?_, fun j k s s' es es' b hb q1 q2 q3 q4 z1 z2 => ?_⟩
  · rcases set_get q with ⟨rfl, z, hl⟩ | ⟨hj, q⟩
    · cases z; exact ⟨v, by rw [List.getElem?_set_self (by rw [R.len]; exact hl)], h⟩
    · obtain ⟨u, z1, z2⟩ := R.dat j e q
      exact ⟨u, by rw [List.getElem?_set_ne (fun z => hj z.symm)]; exact z1, z2⟩
  · rcases set_get q1 with ⟨rfl, rfl, _⟩ | ⟨hj, q⟩
    · cases q2
    · obtain ⟨a, vs, e1, e⟩ := R.own j s es q q2
      exact ⟨a, vs, by rw [List.getElem?_set_ne (fun z => hj z.symm)]; exact e1, e⟩
  · rcases set_get q1 with ⟨rfl, rfl, _⟩ | ⟨hj, q⟩
    · cases q2
    · rcases set_get q3 with ⟨rfl, rfl, _⟩ | ⟨hk, q'⟩
      · cases q4
      · rw [List.getElem?_set_ne (fun z => hj z.symm)] at z1
        rw [List.getElem?_set_ne (fun z => hk z.symm)] at z2
        exact R.dis j k s s' es es' b hb q q2 q' q4 z1 z2
/-- a slot gets a new list -/
theorem Rep.setO {i : Nat} {v : V} {ds : List PyData} (R : Rep K t S H σ ρ) (h : RvOk K t S H σ ρ v (.fr ds)) (hp : ∀ ds, ρ[i]? ≠ some (.pa ds)) : Rep K t S H (σ.set i (some v)) (ρ.set i (.ow ds)) := by
  obtain ⟨a, vs, rfl, h1, h2, h3, h4, h5, h6⟩ := h
  refine ⟨R.sh, R.s0, R.sn, R.bh, R.ph, by rw [List.length_set, List.length_set]; exact R.len, fun j e q => ?_, fun j s es q1 q2 => ?_, fun j k s s' es es' b hb q1 q2 q3 q4 z1 z2 => ?_⟩
  · rcases set_get q with ⟨rfl, z, hl⟩ | ⟨hj, q⟩
    · cases z
    · obtain ⟨u, z1, z2⟩ := R.dat j e q
      exact ⟨u, by rw [List.getElem?_set_ne (fun z => hj z.symm)]; exact z1, z2⟩
  · rcases set_get q1 with ⟨rfl, rfl, hl⟩ | ⟨hj, q⟩
    · have q2' : some ds = some es := q2
      cases q2'
      exact ⟨a, vs, by rw [List.getElem?_set_self (by rw [R.len]; exact hl)], h1, h2, h3, h5, fun z => absurd z h4, fun z => nomatch z⟩
    · obtain ⟨b, us, e1, e⟩ := R.own j s es q q2
      exact ⟨b, us, by rw [List.getElem?_set_ne (fun z => hj z.symm)]; exact e1, e⟩
  · rcases set_get q1 with ⟨rfl, rfl, hl⟩ | ⟨hj, q⟩
    · rw [List.getElem?_set_self (by rw [R.len]; exact hl)] at z1
      cases z1
      rcases set_get q3 with ⟨rfl, rfl, _⟩ | ⟨hk, q'⟩
      · exact hb rfl
      · rw [List.getElem?_set_ne (fun z => hk z.symm)] at z2
        exact h6 k s' es' q' q4 z2
    · rw [List.getElem?_set_ne (fun z => hj z.symm)] at z1
      rcases set_get q3 with ⟨rfl, rfl, hl⟩ | ⟨hk, q'⟩
      · rw [List.getElem?_set_self (by rw [R.len]; exact hl)] at z2
        cases z2
        exact h6 j s es q q2 z1
      · rw [List.getElem?_set_ne (fun z => hk z.symm)] at z2
        exact R.dis j k s s' es es' b hb q q2 q' q4 z1 z2
/-- the list in a slot is changed -/
theorem Rep.mut {i : Nat} {s : Sl} {ds es : List PyData} {a : Addr} {us : List V} (R : Rep K t S H σ ρ) (h : ρ[i]? = some s) (hs : s.ls = some ds) (ha : σ[i]? = some (some (.ref a))) (hu : DaAll K S us es) :
    Rep K t S (upd H a (.lst us)) σ (ρ.set i (s.put es)) := by
  obtain ⟨a', vs, e1, e2, e3, e4, e5, e6⟩ := R.own i s ds h hs
  rw [ha] at e1
  cases e1
  have hm : Same t.B (upd H a (.lst us)) := fun b o q => by rw [upd_ne (ne_of_none q e4)]; exact R.bh b o q
  have hil : i < ρ.length := (List.getElem?_eq_some_iff.mp h).1
  refine ⟨fun b o q => by rw [upd_ne (ne_of_none q e3)]; exact R.sh b o q, R.s0, R.sn, hm, fun b q => ?_, by rw [List.length_set]; exact R.len, fun j e q => ?_, fun j s' fs q1 q2 => ?_, fun j k s1 s2 fs fs' b hb q1 q2 q3 q4 z1 z2 => ?_⟩
  · by_cases z : b = a
    · subst z; rw [upd_same]; exact fun z => nomatch z
    · rw [upd_ne z]; exact R.ph b q
  · rcases set_get q with ⟨rfl, z, hl⟩ | ⟨hj, q⟩
    · cases s <;> first | cases z | cases hs
    · exact R.dat j e q
  · rcases set_get q1 with ⟨rfl, rfl, hl⟩ | ⟨hj, q⟩
    · cases s with
      | no => cases hs
      | da _ => cases hs
      | ow z =>
        have q2' : some es = some fs := q2
        cases q2'
        refine ⟨a, us, ha, upd_same, e3, e4, hu, fun z => ?_, fun z => nomatch z⟩
        have := e6.mp z
        cases this
      | pa z =>
        have q2' : some es = some fs := q2
        cases q2'
        refine ⟨a, us, ha, upd_same, e3, e4, hu, fun _ => rfl, fun _ => e6.mpr ?_⟩
        have hs' : some z = some ds := hs
        cases hs'
        rfl
    · obtain ⟨b, vs', z1, z2, z3⟩ := R.own j s' fs q q2
      have hba : b ≠ a := fun z => by
        subst z
        exact R.dis j i s' s fs ds b hj q q2 h hs z1 ha
      exact ⟨b, vs', z1, by rw [upd_ne hba]; exact z2, z3⟩
  · have fix : ∀ {k : Nat} {s2 : Sl} {fs' : List PyData}, (ρ.set i (s.put es))[k]? = some s2 → s2.ls = some fs' → ∃ (s3 : Sl) (fs3 : List PyData), ρ[k]? = some s3 ∧ s3.ls = some fs3 := fun {k s2 fs'} q q' => by
      rcases set_get q with ⟨rfl, rfl, hl⟩ | ⟨hj, q⟩
      · exact ⟨s, ds, h, hs⟩
      · exact ⟨s2, fs', q, q'⟩
    obtain ⟨s3, f3, y1, y2⟩ := fix q1 q2
    obtain ⟨s4, f4, y3, y4⟩ := fix q3 q4
    exact R.dis j k s3 s4 f3 f4 b hb y1 y2 y3 y4 z1 z2

/-! the frame rule: all but the lists of our own may be told to stay -/
open Classical in
noncomputable def cut (H : Hp) (σ : L2.St) (ρ : En) : Hp := fun b => if ∃ (i : Nat) (s : Sl) (ds : List PyData), ρ[i]? = some s ∧ s.ls = some ds ∧ σ[i]? = some (some (.ref b)) then none else H b
theorem cut_some {b : Addr} {o : HO} (e : cut H σ ρ b = some o) : H b = some o ∧ ∀ (i : Nat) (s : Sl) (ds : List PyData), ρ[i]? = some s → s.ls = some ds → σ[i]? ≠ some (some (.ref b)) := by
  unfold cut at e
  split at e
  · cases e
  · rename_i h
    exact ⟨e, fun i s ds h1 h2 h3 => h ⟨i, s, ds, h1, h2, h3⟩⟩
theorem cut_of {b : Addr} {o : HO} (e : H b = some o) (h : ∀ (i : Nat) (s : Sl) (ds : List PyData), ρ[i]? = some s → s.ls = some ds → σ[i]? ≠ some (some (.ref b))) : cut H σ ρ b = some o := by
  unfold cut
  rw [if_neg (fun ⟨i, s, ds, h1, h2, h3⟩ => h i s ds h1 h2 h3)]
  exact e
noncomputable def Et.re (t : Et) (S H : Hp) (σ : L2.St) (ρ : En) : Et := ⟨cut H σ ρ, S, t.pp⟩
theorem Rep.base (R : Rep K t S H σ ρ) : Rep K (t.re S H σ ρ) S H σ ρ := by
  refine ⟨R.sh, Same.refl _, fun b _ h => h, fun b o e => (cut_some e).1, R.ph, R.len, R.dat, fun i s ds h1 h2 => ?_, R.dis⟩
  obtain ⟨a, vs, e1, e2, e3, e4, e5, e6⟩ := R.own i s ds h1 h2
  refine ⟨a, vs, e1, e2, e3, ?_, e5, e6⟩
  cases q : cut H σ ρ a with
  | none => exact q
  | some o => exact absurd e1 ((cut_some q).2 i s ds h1 h2)
theorem Rep.unbase {σ' : L2.St} {ρ' : En} (R : Rep K t S H σ ρ) (R' : Rep K (t.re S H σ ρ) S' H' σ' ρ') : Rep K t S' H' σ' ρ' := by
  have cb : ∀ b o, t.B b = some o → cut H σ ρ b = some o := fun b o e => cut_of (R.bh b o e) fun i s ds h1 h2 z => by
    obtain ⟨a, vs, e1, _, _, e4, _⟩ := R.own i s ds h1 h2
    rw [e1] at z
    cases z
    rw [e] at e4
    cases e4
  refine ⟨R'.sh, R.s0.trans R'.s0, fun b h1 h2 => ?_, fun b o e => R'.bh b o (cb b o e), R'.ph, R'.len, R'.dat, fun i s ds h1 h2 => ?_, R'.dis⟩
  · refine R'.sn b (fun z => ?_) (R.sn b h1 h2)
    cases q : t.B b with
    | none => exact h1 q
    | some o =>
      have z' : cut H σ ρ b = none := z
      rw [cb b o q] at z'
      cases z'
  · obtain ⟨a, vs, e1, e2, e3, e4, e5, e6⟩ := R'.own i s ds h1 h2
    refine ⟨a, vs, e1, e2, e3, ?_, e5, e6⟩
    cases q : t.B a with
    | none => rfl
    | some o =>
      have e4' : cut H σ ρ a = none := e4
      rw [cb a o q] at e4'
      cases e4'
/-- what is no list of our own stays where the frame was told anew -/
theorem Rep.held {σ' : L2.St} {ρ' : En} {b : Addr} {o : HO} (R' : Rep K (t.re S H σ ρ) S' H' σ' ρ') (e : H b = some o) (h : ∀ (i : Nat) (s : Sl) (ds : List PyData), ρ[i]? = some s → s.ls = some ds → σ[i]? ≠ some (some (.ref b))) : H' b = some o :=
  R'.bh b o (cut_of e h)
theorem RvOk.unbase {σ' : L2.St} {ρ' : En} {v : V} {r : Rv} (R : Rep K t S H σ ρ) (h : RvOk K (t.re S H σ ρ) S' H' σ' ρ' v r) : RvOk K t S' H' σ' ρ' v r := by
  cases r with
  | da d => exact h
  | bo i => exact h
  | fr ds =>
    obtain ⟨a, vs, e, h1, h2, h3, h4, h5, h6⟩ := h
    refine ⟨a, vs, e, h1, h2, ?_, h4, h5, h6⟩
    cases q : t.B a with
    | none => rfl
    | some o =>
      have h3' : cut H σ ρ a = none := h3
      rw [cut_of (R.bh a o q) (fun i s ds z1 z2 z => by
        obtain ⟨a', vs', e1, _, _, e4, _⟩ := R.own i s ds z1 z2
        rw [e1] at z
        cases z
        rw [q] at e4
        cases e4)] at h3'
      cases h3'
end
end DL
/-! The data layer 2: expressions. -/
namespace DL
open PySem L2

abbrev EF := En → Option (Rv × En)
abbrev TF := En → Option (Bool × En)
abbrev AF := En → Option (List Rv × En)
abbrev OF := En → Option (Option Int × En)


/-- a result and what stands behind it, handed on -/
def ob {α β γ : Type} (x : Option (α × β)) (f : α → β → Option γ) : Option γ := match x with
  | some z => f z.1 z.2
  | none => none
def ol {α γ : Type} (x : Option α) (f : α → Option γ) : Option γ := match x with
  | some z => f z
  | none => none
theorem ob_some {α β γ : Type} {x : Option (α × β)} {f : α → β → Option γ} {c : γ} (h : ob x f = some c) : ∃ a b, x = some (a, b) ∧ f a b = some c := by
  cases x with
  | none => cases h
  | some z => exact ⟨z.1, z.2, rfl, h⟩
theorem ol_some {α γ : Type} {x : Option α} {f : α → Option γ} {c : γ} (h : ol x f = some c) : ∃ a, x = some a ∧ f a = some c := by
  cases x with
  | none => cases h
  | some z => exact ⟨z, rfl, h⟩
@[simp] theorem ob_mk {α β γ : Type} (a : α) (b : β) (f : α → β → Option γ) : ob (some (a, b)) f = f a b := rfl
@[simp] theorem ob_no {α β γ : Type} (f : α → β → Option γ) : ob none f = none := rfl
@[simp] theorem ol_mk {α γ : Type} (a : α) (f : α → Option γ) : ol (some a) f = f a := rfl
@[simp] theorem ol_no {α γ : Type} (f : α → Option γ) : ol none f = none := rfl

/-- a result that can wait: data, or what stands in a slot -/
def RvV (K : PySem.W.Frag) (S : Hp) (σ : L2.St) (v : V) : Rv → Prop
  | .da d => Da K S v d
  | .bo i => σ[i]? = some (some v)
  | .fr _ => False
def RvsOk (K : PySem.W.Frag) (S : Hp) (σ : L2.St) : List V → List Rv → Prop
  | [], [] => True
  | v :: vs, r :: rs => RvV K S σ v r ∧ RvsOk K S σ vs rs
  | _, _ => False

def rdE (K : PySem.W.Frag) (f : EF) : TE := fun σ H Q => ∃ (t : Et) (S : Hp) (ρ : En) (r : Rv) (ρ' : En), Rep K t S H σ ρ ∧ f ρ = some (r, ρ') ∧
  ∀ v H' S', Rep K t S' H' σ ρ' → Same S S' → RvOk K t S' H' σ ρ' v r → Q v H'
def rdT (K : PySem.W.Frag) (f : TF) : TT := fun σ H Q => ∃ (t : Et) (S : Hp) (ρ : En) (r : Bool) (ρ' : En), Rep K t S H σ ρ ∧ f ρ = some (r, ρ') ∧
  ∀ H' S', Rep K t S' H' σ ρ' → Same S S' → Q r H'
def rdA (K : PySem.W.Frag) (f : AF) : TA := fun σ H Q => ∃ (t : Et) (S : Hp) (ρ : En) (r : List Rv) (ρ' : En), Rep K t S H σ ρ ∧ f ρ = some (r, ρ') ∧
  ∀ vs H' S', Rep K t S' H' σ ρ' → Same S S' → RvsOk K S' σ vs r → Q vs H'
def rdO (K : PySem.W.Frag) (f : OF) : TO := fun σ H Q => ∃ (t : Et) (S : Hp) (ρ : En) (r : Option Int) (ρ' : En), Rep K t S H σ ρ ∧ f ρ = some (r, ρ') ∧
  ∀ H' S', Rep K t S' H' σ ρ' → Same S S' → Q r H'
abbrev OkE (X : Cx) (e : Expr) (f : EF) : Prop := PE X e (rdE X.K f)
abbrev OkT (X : Cx) (e : Expr) (f : TF) : Prop := PT X e (rdT X.K f)
abbrev OkW (X : Cx) (e : Expr) (f : TF) : Prop := PW X e (rdT X.K f)
abbrev OkA (X : Cx) (es : List Expr) (f : AF) : Prop := PA X es (rdA X.K f)
abbrev OkO (X : Cx) (e : Option Expr) (f : OF) : Prop := PO X e (rdO X.K f)

section
variable {X : Cx}
theorem pe_imp {e : Expr} {u u' : TE} (h : PE X e u) (i : ∀ σ H Q, u' σ H Q → u σ H Q) : PE X e u' := ⟨fun pins s σ H Q I hw => h.run pins s σ H Q I (i σ H Q hw)⟩
theorem pt_imp {e : Expr} {u u' : TT} (h : PT X e u) (i : ∀ σ H Q, u' σ H Q → u σ H Q) : PT X e u' := ⟨fun pins s σ H Q I hw => h.run pins s σ H Q I (i σ H Q hw)⟩
theorem pw_imp {e : Expr} {u u' : TT} (h : PW X e u) (i : ∀ σ H Q, u' σ H Q → u σ H Q) : PW X e u' := ⟨fun wh pins s σ H Q I hw => h.run wh pins s σ H Q I (i σ H Q hw)⟩
theorem pa_imp {e : List Expr} {u u' : TA} (h : PA X e u) (i : ∀ σ H Q, u' σ H Q → u σ H Q) : PA X e u' := ⟨fun pos pins s σ H Q I hw => h.run pos pins s σ H Q I (i σ H Q hw)⟩
theorem po_imp {e : Option Expr} {u u' : TO} (h : PO X e u) (i : ∀ σ H Q, u' σ H Q → u σ H Q) : PO X e u' := ⟨fun pins s σ H Q I hw => h.run pins s σ H Q I (i σ H Q hw)⟩
theorem ps_imp {e : Stmt} {u u' : TS} (h : PS X e u) (i : ∀ D σ H, u' D σ H → u D σ H) : PS X e u' := ⟨fun pins s σ H D I hw => h.run pins s σ H D I (i D σ H hw)⟩
theorem pss_imp {e : List Stmt} {u u' : TS} (h : PSs X e u) (i : ∀ D σ H, u' D σ H → u D σ H) : PSs X e u' := ⟨fun pins s σ H D I hw => h.run pins s σ H D I (i D σ H hw)⟩
theorem pg_imp {e : Expr} {u u' : TG} (h : PG X e u) (i : ∀ v σ H Q, u' v σ H Q → u v σ H Q) : PG X e u' := ⟨fun pins s σ H v w Q I r hw => h.run pins s σ H v w Q I r (i v σ H Q hw)⟩
end

/-! ### results that wait, views, what is stored -/
def deg : Rv → Rv
  | .fr ds => .da (.list ds)
  | .da d => .da d
  | .bo i => .bo i
/-- a slot seen as data -/
def Sl.vw : Sl → Option PyData
  | .ow ds => some (.list ds)
  | .pa ds => some (.list ds)
  | .da d => some d
  | .no => none
def vw (ρ : En) : Rv → Option PyData
  | .da d => some d
  | .fr ds => some (.list ds)
  | .bo i => ol ρ[i]? Sl.vw
def stoS (ρ : En) (i : Nat) : Sl → Option (PyData × En)
  | .ow ds => some (.list ds, ρ.set i (.da (.list ds)))
  | .da d => some (d, ρ)
  | .pa _ => none
  | .no => none
def sto (ρ : En) : Rv → Option (PyData × En)
  | .da d => some (d, ρ)
  | .fr ds => some (.list ds, ρ)
  | .bo i => ol ρ[i]? (stoS ρ i)
def vws (ρ : En) : List Rv → Option (List PyData)
  | [] => some []
  | r :: rs => ol (vw ρ r) fun d => ol (vws ρ rs) fun ds => some (d :: ds)
def stos (ρ : En) : List Rv → Option (List PyData × En)
  | [] => some ([], ρ)
  | r :: rs => ob (sto ρ r) fun d ρ1 => ob (stos ρ1 rs) fun ds ρ2 => some (d :: ds, ρ2)

section
variable {K : PySem.W.Frag} {t : Et} {S S' H H' : Hp} {σ : L2.St} {ρ ρ' : En} {v : V} {r : Rv}
theorem RvV.mono (e : Same S S') (h : RvV K S σ v r) : RvV K S' σ v r := by
  cases r with
  | da d => exact Da.mono e h
  | bo i => exact h
  | fr ds => exact h
theorem RvsOk.mono (e : Same S S') : ∀ {vs : List V} {rs : List Rv}, RvsOk K S σ vs rs → RvsOk K S' σ vs rs
  | [], [], _ => trivial
  | v :: vs, r :: rs, h => ⟨h.1.mono e, RvsOk.mono e h.2⟩
  | [], _ :: _, h => h.elim
  | _ :: _, [], h => h.elim
theorem Rep.deg (R : Rep K t S H σ ρ) (h : RvOk K t S H σ ρ v r) : ∃ S', Same S S' ∧ Rep K t S' H σ ρ ∧ RvV K S' σ v (DL.deg r) := by
  cases r with
  | da d => exact ⟨S, Same.refl _, R, h⟩
  | bo i => exact ⟨S, Same.refl _, R, h⟩
  | fr ds =>
    obtain ⟨a, vs, rfl, h1, h2, h3, h4, h5, h6⟩ := h
    exact ⟨_, same_put h2, R.grow h1 h2 h3 h6, .lst upd_same (h5.mono (same_put h2))⟩
theorem Rep.at_bo {i : Nat} {s : Sl} (R : Rep K t S H σ ρ) (h : σ[i]? = some (some v)) (e : ρ[i]? = some s) {d : PyData} (hd : s.vw = some d) : Vw K S H v d := by
  cases s with
  | no => cases hd
  | da d' =>
    cases hd
    obtain ⟨u, e1, q⟩ := R.dat i _ e
    rw [h] at e1
    cases e1
    exact .inl q
  | ow ds =>
    cases hd
    obtain ⟨a, vs, e1, e2, _, _, e5, _⟩ := R.own i _ ds e rfl
    rw [h] at e1
    cases e1
    exact .inr ⟨a, vs, ds, rfl, rfl, e2, e5⟩
  | pa ds =>
    cases hd
    obtain ⟨a, vs, e1, e2, _, _, e5, _⟩ := R.own i _ ds e rfl
    rw [h] at e1
    cases e1
    exact .inr ⟨a, vs, ds, rfl, rfl, e2, e5⟩
theorem Rep.vw (R : Rep K t S H σ ρ) (h : RvV K S σ v r) {d : PyData} (e : DL.vw ρ r = some d) : Vw K S H v d := by
  cases r with
  | da d' => cases e; exact .inl h
  | fr ds => exact False.elim h
  | bo i =>
    obtain ⟨s, q, e⟩ := ol_some e
    exact R.at_bo h q e
theorem Rep.vwO (R : Rep K t S H σ ρ) (h : RvOk K t S H σ ρ v r) {d : PyData} (e : DL.vw ρ r = some d) : Vw K S H v d := by
  cases r with
  | da d' => exact R.vw (r := .da d') h e
  | bo i => exact R.vw (r := .bo i) h e
  | fr ds =>
    cases e
    obtain ⟨a, vs, rfl, h1, h2, h3, h4, h5, h6⟩ := h
    exact .inr ⟨a, vs, ds, rfl, rfl, h1, h5⟩
theorem Rep.stoV (R : Rep K t S H σ ρ) (h : RvV K S σ v r) {d : PyData} (e : DL.sto ρ r = some (d, ρ')) : ∃ S', Same S S' ∧ Rep K t S' H σ ρ' ∧ Da K S' v d := by
  cases r with
  | da d' => cases e; exact ⟨S, Same.refl _, R, h⟩
  | fr ds => exact False.elim h
  | bo i =>
    obtain ⟨s, q, e⟩ := ol_some e
    have h' : σ[i]? = some (some v) := h
    cases s with
    | no => cases e
    | pa ds => cases e
    | da d' =>
      cases e
      obtain ⟨u, e1, z⟩ := R.dat i _ q
      rw [h'] at e1
      cases e1
      exact ⟨S, Same.refl _, R, z⟩
    | ow ds =>
      cases e
      obtain ⟨S', ss, R', u, e1, z⟩ := R.give q
      rw [h'] at e1
      cases e1
      exact ⟨S', ss, R', z⟩
theorem Rep.stoO (R : Rep K t S H σ ρ) (h : RvOk K t S H σ ρ v r) {d : PyData} (e : DL.sto ρ r = some (d, ρ')) : ∃ S', Same S S' ∧ Rep K t S' H σ ρ' ∧ Da K S' v d := by
  cases r with
  | da d' => exact R.stoV (r := .da d') h e
  | bo i => exact R.stoV (r := .bo i) h e
  | fr ds =>
    cases e
    obtain ⟨S', ss, R', q⟩ := R.deg h
    exact ⟨S', ss, R', q⟩
theorem Rep.stos : ∀ {vs : List V} {rs : List Rv} {ds : List PyData} {S : Hp} {ρ ρ' : En}, Rep K t S H σ ρ → RvsOk K S σ vs rs → DL.stos ρ rs = some (ds, ρ') → ∃ S', Same S S' ∧ Rep K t S' H σ ρ' ∧ DaAll K S' vs ds
  | [], [], ds, S, ρ, ρ', R, _, e => by cases e; exact ⟨S, Same.refl _, R, .nil⟩
  | v :: vs, r :: rs, ds, S, ρ, ρ', R, h, e => by
    obtain ⟨d, ρ1, q, e⟩ := ob_some e
    obtain ⟨es, ρ2, q2, e⟩ := ob_some e
    cases e
    obtain ⟨S1, s1, R1, d1⟩ := R.stoV h.1 q
    obtain ⟨S2, s2, R2, d2⟩ := Rep.stos R1 (h.2.mono s1) q2
    exact ⟨S2, s1.trans s2, R2, .cons (d1.mono s2) d2⟩
  | [], _ :: _, _, _, _, _, _, h, _ => h.elim
  | _ :: _, [], _, _, _, _, _, h, _ => h.elim
end
def VwAll (K : PySem.W.Frag) (S H : Hp) : List V → List PyData → Prop
  | [], [] => True
  | v :: vs, d :: ds => Vw K S H v d ∧ VwAll K S H vs ds
  | _, _ => False
theorem Rep.vws {K : PySem.W.Frag} {t : Et} {S H : Hp} {σ : L2.St} {ρ : En} (R : Rep K t S H σ ρ) : ∀ {vs : List V} {rs : List Rv} {ds : List PyData}, RvsOk K S σ vs rs → DL.vws ρ rs = some ds → VwAll K S H vs ds
  | [], [], ds, _, e => by cases e; trivial
  | v :: vs, r :: rs, ds, h, e => by
    obtain ⟨d, q, e⟩ := ol_some e
    obtain ⟨es, q2, e⟩ := ol_some e
    cases e
    exact ⟨R.vw h.1 q, R.vws h.2 q2⟩
  | [], _ :: _, _, h, _ => h.elim
  | _ :: _, [], _, h, _ => h.elim
theorem VwAll.da {K : PySem.W.Frag} {S H : Hp} (e : Same S H) : ∀ {vs : List V} {ds : List PyData}, VwAll K S H vs ds → DaAll K H vs ds
  | [], [], _ => .nil
  | _ :: _, _ :: _, h => .cons (h.1.da e) (VwAll.da e h.2)
  | [], _ :: _, h => h.elim
  | _ :: _, [], h => h.elim

/-! ### names, constants -/
def eC (d : PyData) : EF := fun ρ => some (.da d, ρ)
def eSl (i : Nat) : Sl → Option Rv
  | .da d => some (.da d)
  | .ow _ => some (.bo i)
  | .pa _ => some (.bo i)
  | .no => none
def eVar (i : Nat) : EF := fun ρ => ol ρ[i]? fun s => ol (eSl i s) fun r => some (r, ρ)
section
variable {X : Cx} {pos : Pos}
theorem rd_c {K : PySem.W.Frag} {v : V} {d : PyData} (h : ∀ S, Da K S v d) : ∀ σ H Q, rdE K (eC d) σ H Q → tC v σ H Q := fun σ H Q ⟨t, S, ρ, r, ρ', R, e, k⟩ => by
  cases e
  exact k v H S R (Same.refl _) (h S)
theorem ok_int {i : Int} {j pos} : OkE X (.Constant (.int i) j pos) (eC (.int i)) := pe_imp pe_int (rd_c fun _ => .int i)
theorem ok_bl {b : Bool} {j pos} : OkE X (.Constant (.bool b) j pos) (eC (.bool b)) := pe_imp pe_bl (rd_c fun _ => .bl b)
theorem ok_non {j pos} : OkE X (.Constant .none j pos) (eC .none) := pe_imp pe_non (rd_c fun _ => .non)
theorem ok_str {x : Str} {j pos} : OkE X (.Constant (.str x) j pos) (eC (.str x)) := pe_imp pe_str (rd_c fun _ => .str x)
theorem rd_var {K : PySem.W.Frag} {i : Nat} : ∀ σ H Q, rdE K (eVar i) σ H Q → tVar i σ H Q := fun σ H Q ⟨t, S, ρ, r, ρ', R, e, k⟩ => by
  obtain ⟨s, q, e⟩ := ol_some e
  obtain ⟨r', q2, e⟩ := ol_some e
  cases e
  cases s with
  | no => cases q2
  | da d =>
    cases q2
    obtain ⟨v, e1, z⟩ := R.dat i d q
    exact ⟨v, e1, k v H S R (Same.refl _) z⟩
  | ow ds =>
    cases q2
    obtain ⟨a, vs, e1, _⟩ := R.own i _ ds q rfl
    exact ⟨_, e1, k _ H S R (Same.refl _) e1⟩
  | pa ds =>
    cases q2
    obtain ⟨a, vs, e1, _⟩ := R.own i _ ds q rfl
    exact ⟨_, e1, k _ H S R (Same.refl _) e1⟩
theorem ok_name (i : Nat) {x : Str} {pos : Pos} (hN : X.N[i]? = some x := by rfl) (hv : Vis X.env.scope x := by first | exact Or.inl rfl | exact Or.inr (Or.inl rfl) | exact Or.inr (Or.inr rfl)) (hd : (x == ("__debug__" : Str)) = false := by decide)
    (hcd : (x == ("__classdict__" : Str)) = false := by decide) : OkE X (.Name x pos) (eVar i) := pe_imp (pe_var hN hv hd hcd) rd_var
/-- a constant of the module: an int, a text -/
theorem ok_globI {x : Str} {i : Int} {tk : Tok} {pos : Pos} (hg : Gl X x) (hm : X.mg x = some (.int i tk)) (hd : (x == ("__debug__" : Str)) = false := by decide) : OkE X (.Name x pos) (eC (.int i)) :=
  pe_imp (pe_glob (v := .int i) hg hm ⟨_, rfl⟩ hd) (rd_c fun _ => .int i)
theorem ok_globS {x z : Str} {tk : Tok} {pos : Pos} (hg : Gl X x) (hm : X.mg x = some (.str z tk)) (hd : (x == ("__debug__" : Str)) = false := by decide) : OkE X (.Name x pos) (eC (.str z)) :=
  pe_imp (pe_glob (v := .str z) hg hm ⟨_, rfl⟩ hd) (rd_c fun _ => .str z)
end

/-! ### two-place operators -/
def eBin (op : PyData → PyData → Option Rv) (a b : EF) : EF := fun ρ =>
  ob (a ρ) fun x ρ1 => ob (b ρ1) fun y ρ2 => ol (vw ρ2 (deg x)) fun d => ol (vw ρ2 y) fun e => ol (op d e) fun r => some (r, ρ2)
/-- the operation on data says what the rule r gives -/
def OpOk (K : PySem.W.Frag) (r : R2) (f : PyData → PyData → Option Rv) : Prop :=
  ∀ (S H : Hp) (x y : V) (d e : PyData) (res : Rv), Same S H → Vw K S H x d → Vw K S H y e → f d e = some res → ∀ Q : VK, (∀ v H' S', New S H S' H' → RO K H S' H' v res → Q v H') → r x y H Q
section
variable {X : Cx} {pos : Pos} {a b : Expr} {fa fb : EF} {K : PySem.W.Frag}
theorem rd_bin {r : R2} {f : PyData → PyData → Option Rv} (hf : OpOk K r f) : ∀ σ H Q, rdE K (eBin f fa fb) σ H Q → tOp r (rdE K fa) (rdE K fb) σ H Q := fun σ H Q ⟨t, S, ρ, res, ρ', R, e, k⟩ => by
  obtain ⟨x, ρ1, q1, e⟩ := ob_some e
  obtain ⟨y, ρ2, q2, e⟩ := ob_some e
  obtain ⟨d, q3, e⟩ := ol_some e
  obtain ⟨d', q4, e⟩ := ol_some e
  obtain ⟨r', q5, e⟩ := ol_some e
  cases e
  refine ⟨t, S, ρ, x, ρ1, R, q1, fun v1 H1 S1 R1 s1 o1 => ?_⟩
  obtain ⟨S2, s2, R2, o2⟩ := R1.deg o1
  refine ⟨t, S2, ρ1, y, _, R2, q2, fun v2 H3 S3 R3 s3 o3 => ?_⟩
  refine hf S3 H3 v1 v2 d d' _ R3.sh (R3.vw (o2.mono s3) q3) (R3.vwO o3 q4) q5 _ fun v H4 S4 N o => ?_
  exact k v H4 S4 (R3.new N) (((s1.trans s2).trans s3).trans N.ss) (o.rv R3 N)
theorem ok_bin {op : Operator} {r : R2} {f : PyData → PyData → Option Rv} (ho : OpR X (binaryOp op) r) (hf : OpOk X.K r f) (ha : OkE X a fa) (hb : OkE X b fb) : OkE X (.BinOp a op b pos) (eBin f fa fb) := pe_imp (pe_op ho ha hb) (rd_bin hf)
theorem ok_cmp {op : CmpOp} {r : R2} {f : PyData → PyData → Option Rv} (ho : OpR X (compareOp op) r) (hf : OpOk X.K r f) (ha : OkE X a fa) (hb : OkE X b fb) (hm : behindInMarks op b = false) : OkE X (.Compare a [op] [b] pos) (eBin f fa fb) := pe_imp (pe_cmpR ho ha hb hm) (rd_bin hf)
end
def toB : Rv → Option Bool
  | .da (.bool b) => some b
  | _ => none
theorem toB_some {r : Rv} {c : Bool} (h : toB r = some c) : r = .da (.bool c) := by
  unfold toB at h
  split at h
  · cases h; rfl
  · cases h
@[simp] theorem toB_b (c : Bool) : toB (.da (.bool c)) = some c := rfl
theorem bl_of {K : PySem.W.Frag} {S : Hp} {v : V} {c : Bool} (h : Da K S v (.bool c)) : v = .bl c := by cases h; rfl
theorem int_of {K : PySem.W.Frag} {S : Hp} {v : V} {c : Int} (h : Da K S v (.int c)) : v = .int c := by cases h; rfl
/-- a test made of an expression that gives a truth -/
def tE (f : EF) : TF := fun ρ => ob (f ρ) fun r ρ1 => ol (toB r) fun c => some (c, ρ1)
section
variable {X : Cx} {pos : Pos} {a b : Expr} {fa fb : EF} {K : PySem.W.Frag}
theorem rd_test {f : EF} {u : TE} (h : ∀ σ H Q, rdE K f σ H Q → u σ H Q) : ∀ σ H Q, rdT K (tE f) σ H Q → tTest u σ H Q := fun σ H Q ⟨t, S, ρ, res, ρ', R, e, k⟩ => by
  obtain ⟨x, ρ1, q1, e⟩ := ob_some e
  obtain ⟨c, q2, e⟩ := ol_some e
  cases e
  cases toB_some q2
  exact h σ H _ ⟨t, S, ρ, _, _, R, q1, fun v H1 S1 R1 s1 o1 => ⟨_, bl_of o1, k H1 S1 R1 s1⟩⟩
theorem okT_cmp {op : CmpOp} {r : R2} {f : PyData → PyData → Option Rv} (ho : OpR X (compareOp op) r) (hf : OpOk X.K r f) (ha : OkE X a fa) (hb : OkE X b fb) (hm : behindInMarks op b = false) : OkT X (.Compare a [op] [b] pos) (tE (eBin f fa fb)) :=
  pt_imp (pt_cmpR ho ha hb hm) (rd_test (rd_bin hf))
theorem okT_val {e : Expr} {f : EF} (h : OkE X e f) (he : ∀ whole, isTrue e X.env whole = (do let v ← whole; standAt e.pos; holding [v] (truthy v)) := by intro _; rfl) : OkT X e (tE f) :=
  pt_imp (pt_val h he) (rd_test fun _ _ _ h => h)
end

/-! ### and, or, not, if-else -/
def tAndF (f g : TF) : TF := fun ρ => ob (f ρ) fun c ρ1 => if c = true then g ρ1 else some (false, ρ1)
def tOrF (f g : TF) : TF := fun ρ => ob (f ρ) fun c ρ1 => if c = true then some (true, ρ1) else g ρ1
def tNotF (f : TF) : TF := fun ρ => ob (f ρ) fun c ρ1 => some (!c, ρ1)
def eAndF (f g : EF) : EF := fun ρ => ob (f ρ) fun r ρ1 => ol (toB r) fun c => if c = true then g ρ1 else some (.da (.bool false), ρ1)
def eOrF (f g : EF) : EF := fun ρ => ob (f ρ) fun r ρ1 => ol (toB r) fun c => if c = true then some (.da (.bool true), ρ1) else g ρ1
def eNotF (f : EF) : EF := fun ρ => ob (f ρ) fun r ρ1 => ol (toB r) fun c => some (.da (.bool (!c)), ρ1)
def eIfF (c : TF) (f g : EF) : EF := fun ρ => ob (c ρ) fun b ρ1 => if b = true then f ρ1 else g ρ1
section
variable {X : Cx} {pos : Pos} {a b c : Expr} {rest : List Expr} {fa fb : EF} {ta tb tc : TF} {K : PySem.W.Frag}
theorem okW_and1 (ha : OkT X a ta) : OkW X (.BoolOp .And [a] pos) ta := pw_and1 ha
theorem okW_or1 (ha : OkT X a ta) : OkW X (.BoolOp .Or [a] pos) ta := pw_or1 ha
theorem okW_and (ha : OkT X a ta) (hb : OkW X (.BoolOp .And (b :: rest) pos) tb) : OkW X (.BoolOp .And (a :: b :: rest) pos) (tAndF ta tb) :=
  pw_imp (pw_and ha hb) fun σ H Q ⟨t, S, ρ, b', ρ', R, e, k⟩ => by
    obtain ⟨c, ρ1, q, e⟩ := ob_some e
    refine ⟨t, S, ρ, c, ρ1, R, q, fun H1 S1 R1 s1 => ?_⟩
    cases c with
    | true => exact iteT ⟨t, S1, ρ1, b', ρ', R1, by simpa using e, fun H2 S2 R2 s2 => k H2 S2 R2 (s1.trans s2)⟩
    | false =>
      cases e
      exact iteF (k H1 S1 R1 s1)
theorem okW_or (ha : OkT X a ta) (hb : OkW X (.BoolOp .Or (b :: rest) pos) tb) : OkW X (.BoolOp .Or (a :: b :: rest) pos) (tOrF ta tb) :=
  pw_imp (pw_or ha hb) fun σ H Q ⟨t, S, ρ, b', ρ', R, e, k⟩ => by
    obtain ⟨c, ρ1, q, e⟩ := ob_some e
    refine ⟨t, S, ρ, c, ρ1, R, q, fun H1 S1 R1 s1 => ?_⟩
    cases c with
    | false => exact iteF ⟨t, S1, ρ1, b', ρ', R1, by simpa using e, fun H2 S2 R2 s2 => k H2 S2 R2 (s1.trans s2)⟩
    | true =>
      cases e
      exact iteT (k H1 S1 R1 s1)
theorem okT_w (h : OkW X a ta) : OkT X a ta := PW.pt h
theorem okT_not (ha : OkT X a ta) : OkT X (.UnaryOp .Not a pos) (tNotF ta) :=
  pt_imp (pt_not ha) fun σ H Q ⟨t, S, ρ, b', ρ', R, e, k⟩ => by
    obtain ⟨c, ρ1, q, e⟩ := ob_some e
    cases e
    exact ⟨t, S, ρ, c, _, R, q, fun H1 S1 R1 s1 => k H1 S1 R1 s1⟩
theorem ok_one {op} (h : OkE X a fa) : OkE X (.BoolOp op [a] pos) fa := pe_one h
theorem ok_and (ha : OkE X a fa) (hb : OkE X (.BoolOp .And (b :: rest) pos) fb) : OkE X (.BoolOp .And (a :: b :: rest) pos) (eAndF fa fb) :=
  pe_imp (pe_and ha hb) fun σ H Q ⟨t, S, ρ, r, ρ', R, e, k⟩ => by
    obtain ⟨x, ρ1, q, e⟩ := ob_some e
    obtain ⟨c, q2, e⟩ := ol_some e
    cases toB_some q2
    refine ⟨t, S, ρ, _, _, R, q, fun v H1 S1 R1 s1 o => ⟨c, bl_of o, ?_⟩⟩
    cases c with
    | true => exact iteT ⟨t, S1, ρ1, r, ρ', R1, by simpa using e, fun v H2 S2 R2 s2 o2 => k v H2 S2 R2 (s1.trans s2) o2⟩
    | false =>
      cases e
      exact iteF (k _ H1 S1 R1 s1 (.bl false))
theorem ok_or (ha : OkE X a fa) (hb : OkE X (.BoolOp .Or (b :: rest) pos) fb) : OkE X (.BoolOp .Or (a :: b :: rest) pos) (eOrF fa fb) :=
  pe_imp (pe_or ha hb) fun σ H Q ⟨t, S, ρ, r, ρ', R, e, k⟩ => by
    obtain ⟨x, ρ1, q, e⟩ := ob_some e
    obtain ⟨c, q2, e⟩ := ol_some e
    cases toB_some q2
    refine ⟨t, S, ρ, _, _, R, q, fun v H1 S1 R1 s1 o => ⟨c, bl_of o, ?_⟩⟩
    cases c with
    | false => exact iteF ⟨t, S1, ρ1, r, ρ', R1, by simpa using e, fun v H2 S2 R2 s2 o2 => k v H2 S2 R2 (s1.trans s2) o2⟩
    | true =>
      cases e
      exact iteT (k _ H1 S1 R1 s1 (.bl true))
theorem ok_not (ha : OkE X a fa) : OkE X (.UnaryOp .Not a pos) (eNotF fa) :=
  pe_imp (pe_not ha) fun σ H Q ⟨t, S, ρ, r, ρ', R, e, k⟩ => by
    obtain ⟨x, ρ1, q, e⟩ := ob_some e
    obtain ⟨c, q2, e⟩ := ol_some e
    cases e
    cases toB_some q2
    exact ⟨t, S, ρ, _, _, R, q, fun v H1 S1 R1 s1 o => ⟨c, bl_of o, k _ H1 S1 R1 s1 (.bl _)⟩⟩
theorem ok_if (hc : OkT X c tc) (ha : OkE X a fa) (hb : OkE X b fb) : OkE X (.IfExp c a b pos) (eIfF tc fa fb) :=
  pe_imp (pe_ifExp hc ha hb) fun σ H Q ⟨t, S, ρ, r, ρ', R, e, k⟩ => by
    obtain ⟨b', ρ1, q, e⟩ := ob_some e
    refine ⟨t, S, ρ, b', ρ1, R, q, fun H1 S1 R1 s1 => ?_⟩
    cases b' with
    | true => exact iteT ⟨t, S1, ρ1, r, ρ', R1, by simpa using e, fun v H2 S2 R2 s2 o => k v H2 S2 R2 (s1.trans s2) o⟩
    | false => exact iteF ⟨t, S1, ρ1, r, ρ', R1, by simpa using e, fun v H2 S2 R2 s2 o => k v H2 S2 R2 (s1.trans s2) o⟩
end

/-! ### chains a < b < c -/
def eChain (op op' : PyData → PyData → Option Rv) (a b c : EF) : EF := fun ρ =>
  ob (a ρ) fun x ρ1 => ob (b ρ1) fun y ρ2 => ol (vw ρ2 (deg x)) fun d => ol (vw ρ2 y) fun e => ol (op d e) fun r => ol (toB r) fun k =>
    if k = true then ob (c ρ2) fun z ρ3 => ol (vw ρ3 (deg y)) fun e' => ol (vw ρ3 z) fun g => ol (op' e' g) fun r => some (r, ρ3) else some (.da (.bool false), ρ2)
section
variable {X : Cx} {pos : Pos} {a b c : Expr} {fa fb fc : EF} {K : PySem.W.Frag}
theorem rd_chain {r r' : R2} {f f' : PyData → PyData → Option Rv} (hf : OpOk K r f) (hf' : OpOk K r' f') : ∀ σ H Q, rdE K (eChain f f' fa fb fc) σ H Q → tChain r r' (rdE K fa) (rdE K fb) (rdE K fc) σ H Q := fun σ H Q ⟨t, S, ρ, res, ρ', R, e, k⟩ => by
  obtain ⟨x, ρ1, q1, e⟩ := ob_some e
  obtain ⟨y, ρ2, q2, e⟩ := ob_some e
  obtain ⟨d, q3, e⟩ := ol_some e
  obtain ⟨d', q4, e⟩ := ol_some e
  obtain ⟨r', q5, e⟩ := ol_some e
  obtain ⟨kb, q6, e⟩ := ol_some e
  cases toB_some q6
  refine ⟨t, S, ρ, x, ρ1, R, q1, fun v1 H1 S1 R1 s1 o1 => ?_⟩
  obtain ⟨S2, s2, R2, o2⟩ := R1.deg o1
  refine ⟨t, S2, ρ1, y, ρ2, R2, q2, fun v2 H3 S3 R3 s3 o3 => ?_⟩
  refine hf S3 H3 v1 v2 d d' _ R3.sh (R3.vw (o2.mono s3) q3) (R3.vwO o3 q4) q5 _ fun v H4 S4 N o => ?_
  have R4 := R3.new N
  refine ⟨kb, bl_of o, ?_⟩
  cases kb with
  | false =>
    cases e
    exact iteF (k _ H4 S4 R4 (((s1.trans s2).trans s3).trans N.ss) (.bl false))
  | true =>
    refine iteT ?_
    simp only [toB_b, ol_mk, if_true] at e
    obtain ⟨z, ρ3, q7, e⟩ := ob_some e
    obtain ⟨e', q8, e⟩ := ol_some e
    obtain ⟨g, q9, e⟩ := ol_some e
    obtain ⟨r2, q10, e⟩ := ol_some e
    cases e
    have o3' : RvOk K t S4 H4 σ ρ2 v2 y := by
      cases y with
      | da w => exact Da.mono N.ss o3
      | bo i => exact o3
      | fr ds =>
        obtain ⟨a, vs, e1, e2, e3, e4, e5, e6, e7⟩ := o3
        exact ⟨a, vs, e1, N.hh _ _ e2, N.fr a (none_ne e2) e3, e4, e5, e6.mono N.ss, e7⟩
    obtain ⟨S5, s5, R5, o5⟩ := R4.deg o3'
    refine ⟨t, S5, ρ2, z, _, R5, q7, fun v5 H6 S6 R6 s6 o6 => ?_⟩
    refine hf' S6 H6 v2 v5 e' g _ R6.sh (R6.vw (o5.mono s6) q8) (R6.vwO o6 q9) q10 _ fun v7 H7 S7 N7 o7 => ?_
    exact k v7 H7 S7 (R6.new N7) ((((((s1.trans s2).trans s3).trans N.ss).trans s5).trans s6).trans N7.ss) (o7.rv R6 N7)
theorem ok_chain {op op' : CmpOp} {r r' : R2} {f f' : PyData → PyData → Option Rv} (ho : OpR X (compareOp op) r) (ho' : OpR X (compareOp op') r') (hf : OpOk X.K r f) (hf' : OpOk X.K r' f') (ha : OkE X a fa) (hb : OkE X b fb) (hc : OkE X c fc)
    (hm : lastMarks [op, op'] [b, c] = false := by with_unfolding_all rfl) : OkE X (.Compare a [op, op'] [b, c] pos) (eChain f f' fa fb fc) := pe_imp (pe_chain ho ho' ha hb hc hm) (rd_chain hf hf')
theorem okT_chain {op op' : CmpOp} {r r' : R2} {f f' : PyData → PyData → Option Rv} (ho : OpR X (compareOp op) r) (ho' : OpR X (compareOp op') r') (hf : OpOk X.K r f) (hf' : OpOk X.K r' f') (ha : OkE X a fa) (hb : OkE X b fb) (hc : OkE X c fc)
    (hm : lastMarks [op, op'] [b, c] = false := by with_unfolding_all rfl) : OkT X (.Compare a [op, op'] [b, c] pos) (tE (eChain f f' fa fb fc)) := pt_imp (pt_chain ho ho' ha hb hc hm) (rd_test (rd_chain hf hf'))
end

/-! ### arguments, displays -/
def aNil : AF := fun ρ => some ([], ρ)
def aCons (e : EF) (as : AF) : AF := fun ρ => ob (e ρ) fun x ρ1 => ob (as ρ1) fun xs ρ2 => some (deg x :: xs, ρ2)
def eTup (as : AF) : EF := fun ρ => ob (as ρ) fun rs ρ1 => ob (stos ρ1 rs) fun ds ρ2 => if ds.length ≤ 16777216 then some (.da (.tuple ds), ρ2) else none
def eLst (as : AF) : EF := fun ρ => ob (as ρ) fun rs ρ1 => ob (stos ρ1 rs) fun ds ρ2 => if ds.length ≤ 16777216 then some (.fr ds, ρ2) else none
theorem line_eq : sizeLine = 16777216 := sizeLine_eq
section
variable {X : Cx} {pos : Pos} {e : Expr} {es : List Expr} {f : EF} {g : AF}
theorem okA_nil : OkA X [] aNil := pa_imp pa_nil fun σ H Q ⟨t, S, ρ, r, ρ', R, e, k⟩ => by
  cases e
  exact k [] H S R (Same.refl _) trivial
theorem okA_cons (he : OkE X e f) (hr : OkA X es g) (hs : starEach (e :: es) X.env = (false, eval e X.env) :: starEach es X.env := by rfl) : OkA X (e :: es) (aCons f g) :=
  pa_imp (pa_cons he hr hs) fun σ H Q ⟨t, S, ρ, r, ρ', R, e, k⟩ => by
    obtain ⟨x, ρ1, q1, e⟩ := ob_some e
    obtain ⟨xs, ρ2, q2, e⟩ := ob_some e
    cases e
    refine ⟨t, S, ρ, x, ρ1, R, q1, fun v1 H1 S1 R1 s1 o1 => ?_⟩
    obtain ⟨S2, s2, R2, o2⟩ := R1.deg o1
    exact ⟨t, S2, ρ1, xs, _, R2, q2, fun vs H3 S3 R3 s3 o3 => k (v1 :: vs) H3 S3 R3 ((s1.trans s2).trans s3) ⟨o2.mono s3, o3⟩⟩
theorem ok_tup {x1} (h : OkA X es g) : OkE X (.Tuple es x1 pos) (eTup g) := pe_imp (pe_tup h) fun σ H Q ⟨t, S, ρ, r, ρ', R, e, k⟩ => by
  obtain ⟨rs, ρ1, q1, e⟩ := ob_some e
  obtain ⟨ds, ρ2, q2, e⟩ := ob_some e
  split at e
  · rename_i hl
    cases e
    refine ⟨t, S, ρ, rs, ρ1, R, q1, fun vs H1 S1 R1 s1 o1 => ?_⟩
    obtain ⟨S2, s2, R2, d2⟩ := R1.stos o1 q2
    refine ⟨by rw [line_eq, d2.length]; exact hl, fun p hp => ?_⟩
    have N := New.put (o := .tup vs) R2.sh hp
    exact k _ _ _ (R2.new N) ((s1.trans s2).trans N.ss) (.tup upd_same (d2.mono N.ss))
  · cases e
theorem ok_lst (h : OkA X es g) : OkE X (.List es pos) (eLst g) := pe_imp (pe_lst h) fun σ H Q ⟨t, S, ρ, r, ρ', R, e, k⟩ => by
  obtain ⟨rs, ρ1, q1, e⟩ := ob_some e
  obtain ⟨ds, ρ2, q2, e⟩ := ob_some e
  split at e
  · rename_i hl
    cases e
    refine ⟨t, S, ρ, rs, ρ1, R, q1, fun vs H1 S1 R1 s1 o1 => ?_⟩
    obtain ⟨S2, s2, R2, d2⟩ := R1.stos o1 q2
    refine ⟨by rw [line_eq, d2.length]; exact hl, fun p hp => ?_⟩
    have N := New.lay (o := .lst vs) R2.sh hp
    have o : RO X.K H1 S2 (upd H1 p (.lst vs)) (.ref p) (.fr ds) := ⟨p, vs, rfl, hp, upd_same, R2.sh.free hp, d2⟩
    exact k _ _ _ (R2.new N) (s1.trans s2) (RO.rv R2 N o)
  · cases e
end

/-! ### calls of built-ins on values -/
def CallOk (K : PySem.W.Frag) (r : List V → Hp → VK → Prop) (f : List PyData → Option Rv) : Prop :=
  ∀ (S H : Hp) (vs : List V) (ds : List PyData) (res : Rv), Same S H → VwAll K S H vs ds → f ds = some res → ∀ Q : VK, (∀ v H' S', New S H S' H' → RO K H S' H' v res → Q v H') → r vs H Q
def eCb (f : List PyData → Option Rv) (as : AF) : EF := fun ρ => ob (as ρ) fun rs ρ1 => ol (vws ρ1 rs) fun ds => ol (f ds) fun r => some (r, ρ1)
section
variable {X : Cx} {pos p : Pos} {e : Expr} {es : List Expr} {g : AF} {K : PySem.W.Frag}
theorem rd_cb {r : List V → Hp → VK → Prop} {f : List PyData → Option Rv} (hf : CallOk K r f) : ∀ σ H Q, rdE K (eCb f g) σ H Q → tCB r (rdA K g) σ H Q := fun σ H Q ⟨t, S, ρ, res, ρ', R, e, k⟩ => by
  obtain ⟨rs, ρ1, q1, e⟩ := ob_some e
  obtain ⟨ds, q2, e⟩ := ol_some e
  obtain ⟨r', q3, e⟩ := ol_some e
  cases e
  refine ⟨t, S, ρ, rs, _, R, q1, fun vs H1 S1 R1 s1 o1 => ?_⟩
  exact hf S1 H1 vs ds _ R1.sh (R1.vws o1 q2) q3 _ fun v H2 S2 N o => k v H2 S2 (R1.new N) (s1.trans N.ss) (o.rv R1 N)
theorem ok_callB {id : String} {r : List V → Hp → VK → Prop} {f : List PyData → Option Rv} {x : Str} (hc : CallR X (.builtin id) r) (hf : CallOk X.K r f) (hg : Gl X x) (hm : X.mg x = none) (hv : bootBuiltins x = some (.builtin id)) (ha : OkA X (e :: es) g)
    (hn : x ≠ "__name__" := by decide) (hdb : (x == ("__debug__" : Str)) = false := by decide)
    (he : starEach (e :: es) X.env = (false, eval e X.env) :: starEach es X.env := by rfl) (hpl : (backTo pos (starEach es X.env)).any (·.1) = false := by rfl) : OkE X (.Call (.Name x p) (e :: es) [] pos) (eCb f g) := pe_imp (pe_callB hc hg hm hv ha hn hdb he hpl) (rd_cb hf)
theorem ok_callTy {T : String} {r : List V → Hp → VK → Prop} {f : List PyData → Option Rv} {x : Str} (hc : CallR X (.type T) r) (hf : CallOk X.K r f) (hg : Gl X x) (hm : X.mg x = none) (hv : bootBuiltins x = some (.type T)) (ha : OkA X (e :: es) g)
    (hn : x ≠ "__name__" := by decide) (hdb : (x == ("__debug__" : Str)) = false := by decide)
    (he : starEach (e :: es) X.env = (false, eval e X.env) :: starEach es X.env := by rfl) (hpl : (backTo pos (starEach es X.env)).any (·.1) = false := by rfl) : OkE X (.Call (.Name x p) (e :: es) [] pos) (eCb f g) := pe_imp (pe_callTy hc hg hm hv ha hn hdb he hpl) (rd_cb hf)
end
end DL
/-! The data layer 3: operators on data. -/
namespace DL
open PySem L2

/-! ### + - * // % ** -/
def addD : PyData → PyData → Option Rv
  | .int i, .int j => some (.da (.int (i + j)))
  | .str a, .str b => if a.length + b.length ≤ 16777216 then some (.da (.str (a ++ b))) else none
  | .tuple a, .tuple b => if a.length + b.length ≤ 16777216 then some (.da (.tuple (a ++ b))) else none
  | .list a, .list b => if a.length + b.length ≤ 16777216 then some (.fr (a ++ b)) else none
  | _, _ => none
abbrev rAddS : R2 := fun x y H Q => ∃ i j, x = .str i ∧ y = .str j ∧ i.length + j.length ≤ sizeLine ∧ Q (.str (i ++ j)) H
abbrev rAddU (K : PySem.W.Frag) : R2 := fun x y H Q => rI0 (fun i j => .int (i + j)) x y H Q ∨ (rAddS x y H Q ∨ (rCatA K x y H Q ∨ rCat x y H Q))
def CMulB (i j : Int) : Bool := (decide (-(2 ^ 64) < i) && decide (i < 2 ^ 64)) || (decide (-(2 ^ 64) < j) && decide (j < 2 ^ 64))
theorem CMulB.ok {i j : Int} (h : CMulB i j = true) : CMul i j := by
  unfold CMulB at h
  simp only [Bool.or_eq_true, Bool.and_eq_true, decide_eq_true_eq] at h
  exact h
def subD : PyData → PyData → Option Rv
  | .int i, .int j => some (.da (.int (i - j)))
  | _, _ => none
def mulD : PyData → PyData → Option Rv
  | .int i, .int j => if CMulB i j = true then some (.da (.int (i * j))) else none
  | _, _ => none
def fdivD : PyData → PyData → Option Rv
  | .int i, .int j => if 0 < j ∧ j < 1073741824 then some (.da (.int (i / j))) else none
  | _, _ => none
def modD : PyData → PyData → Option Rv
  | .int i, .int j => if 0 < j then some (.da (.int (i % j))) else none
  | _, _ => none
def powD : PyData → PyData → Option Rv
  | .int i, .int j => if 0 ≤ j ∧ j ≤ 1000000 ∧ i.natAbs < 18446744073709551616 then some (.da (.int (i ^ j.toNat))) else none
  | _, _ => none
section
variable {K : PySem.W.Frag} {X : Cx}
theorem two_int {S H : Hp} {x y : V} {i j : Int} {g : Int → Int → V} {D : PyData} (ss : Same S H) (hx : Vw K S H x (.int i)) (hy : Vw K S H y (.int j)) (hg : ∀ S, Da K S (g i j) D) {Q : VK} (k : ∀ v H' S', New S H S' H' → RO K H S' H' v (.da D) → Q v H') : rI0 g x y H Q :=
  ⟨i, j, hx.int, hy.int, k _ H S (New.refl ss) (hg S)⟩
theorem opAdd : OpR X (binaryOp .Add) (rAddU X.K) := op_add.or (op_add_str.or (op_catA.or op_cat))
theorem okAdd : OpOk K (rAddU K) addD := fun S H x y d e res ss hx hy hf Q k => by
  unfold addD at hf
  split at hf
  · cases hf
    exact .inl (two_int ss hx hy (fun _ => .int _) k)
  · split at hf
    · rename_i h
      cases hf
      exact .inr (.inl ⟨_, _, hx.str, hy.str, by rw [line_eq]; exact h, k _ H S (New.refl ss) (.str _)⟩)
    · cases hf
  · split at hf
    · rename_i h
      cases hf
      obtain ⟨a, vs, rfl, ha, da⟩ := hx.tup
      obtain ⟨b, us, rfl, hb, db⟩ := hy.tup
      refine .inr (.inr (.inl ⟨a, b, vs, us, rfl, rfl, SqT.of (ss _ _ ha), SqT.of (ss _ _ hb), by rw [line_eq, da.length, db.length]; exact h, fun e => ?_, fun _ e => ?_, fun _ _ p hp => ?_⟩))
      · subst e
        cases da
        exact k _ H S (New.refl ss) (.tup hb db)
      · subst e
        cases db
        rw [List.append_nil] at k
        exact k _ H S (New.refl ss) (.tup ha da)
      · have N := New.put (o := .tup (vs ++ us)) ss hp
        exact k _ _ _ N (.tup upd_same ((da.append db).mono N.ss))
    · cases hf
  · split at hf
    · rename_i h
      cases hf
      obtain ⟨a, vs, rfl, ha, da⟩ := hx.lst ss
      obtain ⟨b, us, rfl, hb, db⟩ := hy.lst ss
      refine .inr (.inr (.inr ⟨a, b, vs, us, rfl, rfl, ha, hb, by rw [line_eq, da.length, db.length]; exact h, fun p hp => ?_⟩))
      exact k _ _ _ (New.lay ss hp) ⟨p, _, rfl, hp, upd_same, ss.free hp, da.append db⟩
    · cases hf
  · cases hf
theorem okSub : OpOk K (rI0 fun i j => .int (i - j)) subD := fun S H x y d e res ss hx hy hf Q k => by
  unfold subD at hf
  split at hf
  · cases hf
    exact two_int ss hx hy (fun _ => .int _) k
  · cases hf
theorem okMul : OpOk K (rI CMul fun i j => .int (i * j)) mulD := fun S H x y d e res ss hx hy hf Q k => by
  unfold mulD at hf
  split at hf
  · split at hf
    · rename_i h
      cases hf
      exact ⟨_, _, hx.int, hy.int, CMulB.ok h, k _ H S (New.refl ss) (.int _)⟩
    · cases hf
  · cases hf
theorem okFdiv : OpOk K (rI CDiv fun i j => .int (i / j)) fdivD := fun S H x y d e res ss hx hy hf Q k => by
  unfold fdivD at hf
  split at hf
  · split at hf
    · rename_i h
      cases hf
      exact ⟨_, _, hx.int, hy.int, h, k _ H S (New.refl ss) (.int _)⟩
    · cases hf
  · cases hf
theorem okMod : OpOk K (rI (fun _ j => 0 < j) fun i j => .int (i % j)) modD := fun S H x y d e res ss hx hy hf Q k => by
  unfold modD at hf
  split at hf
  · split at hf
    · rename_i h
      cases hf
      exact ⟨_, _, hx.int, hy.int, h, k _ H S (New.refl ss) (.int _)⟩
    · cases hf
  · cases hf
theorem okPow : OpOk K (rI CPow fun i j => .int (i ^ j.toNat)) powD := fun S H x y d e res ss hx hy hf Q k => by
  unfold powD at hf
  split at hf
  · split at hf
    · rename_i h
      cases hf
      exact ⟨_, _, hx.int, hy.int, ⟨h.1, h.2.1, by have := h.2.2; omega⟩, k _ H S (New.refl ss) (.int _)⟩
    · cases hf
  · cases hf
end

/-! ### comparisons -/
def ltD : PyData → PyData → Option Rv
  | .int i, .int j => some (.da (.bool (decide (i < j))))
  | _, _ => none
def leD : PyData → PyData → Option Rv
  | .int i, .int j => some (.da (.bool (decide (i ≤ j))))
  | _, _ => none
def gtD : PyData → PyData → Option Rv
  | .int i, .int j => some (.da (.bool (decide (j < i))))
  | _, _ => none
def geD : PyData → PyData → Option Rv
  | .int i, .int j => some (.da (.bool (decide (j ≤ i))))
  | _, _ => none
def eqD (d e : PyData) : Option Rv := if (SeqAt.shaped d && SeqAt.shaped e) = true then some (.da (.bool (PyData.eqv d e))) else none
def neD (d e : PyData) : Option Rv := if (SeqAt.shaped d && SeqAt.shaped e) = true then some (.da (.bool (!PyData.eqv d e))) else none
def isNone : PyData → Bool
  | .none => true
  | _ => false
def isD (d e : PyData) : Option Rv := match e with
  | .none => some (.da (.bool (isNone d)))
  | .bool b => match d with
    | .bool a => some (.da (.bool (decide (a = b))))
    | _ => none
  | _ => none
def isnD (d e : PyData) : Option Rv := match e with
  | .none => some (.da (.bool (!isNone d)))
  | .bool b => match d with
    | .bool a => some (.da (.bool (!decide (a = b))))
    | _ => none
  | _ => none
abbrev rIsU : R2 := fun x y H Q => (y = .non ∧ Q (.bl (decide (x = .non))) H) ∨ rIsB x y H Q
abbrev rIsnU : R2 := fun x y H Q => (y = .non ∧ Q (.bl (!decide (x = .non))) H) ∨ rNotB x y H Q
section
variable {K : PySem.W.Frag} {X : Cx}
theorem okLt : OpOk K (rI0 fun i j => .bl (decide (i < j))) ltD := fun S H x y d e res ss hx hy hf Q k => by
  unfold ltD at hf
  split at hf
  · cases hf
    exact two_int ss hx hy (fun _ => .bl _) k
  · cases hf
theorem okLe : OpOk K (rI0 fun i j => .bl (decide (i ≤ j))) leD := fun S H x y d e res ss hx hy hf Q k => by
  unfold leD at hf
  split at hf
  · cases hf
    exact two_int ss hx hy (fun _ => .bl _) k
  · cases hf
theorem okGt : OpOk K (rI0 fun i j => .bl (decide (j < i))) gtD := fun S H x y d e res ss hx hy hf Q k => by
  unfold gtD at hf
  split at hf
  · cases hf
    exact two_int ss hx hy (fun _ => .bl _) k
  · cases hf
theorem okGe : OpOk K (rI0 fun i j => .bl (decide (j ≤ i))) geD := fun S H x y d e res ss hx hy hf Q k => by
  unfold geD at hf
  split at hf
  · cases hf
    exact two_int ss hx hy (fun _ => .bl _) k
  · cases hf
theorem Vw.dp {S H : Hp} {v : V} {d : PyData} (h : Vw K S H v d) (e : Same S H) (s : SeqAt.shaped d = true) : Dp K H v d := Da.dp (Same.refl _) (h.da e) s
theorem okEq : OpOk K (rEqD K) eqD := fun S H x y d e res ss hx hy hf Q k => by
  unfold eqD at hf
  split at hf
  · rename_i h
    rw [Bool.and_eq_true] at h
    cases hf
    exact ⟨d, e, hx.dp ss h.1, hy.dp ss h.2, h.1, h.2, k _ H S (New.refl ss) (.bl _)⟩
  · cases hf
theorem okNe : OpOk K (rNeD K) neD := fun S H x y d e res ss hx hy hf Q k => by
  unfold neD at hf
  split at hf
  · rename_i h
    rw [Bool.and_eq_true] at h
    cases hf
    exact ⟨d, e, hx.dp ss h.1, hy.dp ss h.2, h.1, h.2, k _ H S (New.refl ss) (.bl _)⟩
  · cases hf
theorem Vw.isNon {S H : Hp} {v : V} {d : PyData} (h : Vw K S H v d) : decide (v = .non) = isNone d := by
  rcases h with h | ⟨a, vs, ds, rfl, rfl, _⟩
  · cases h <;> rfl
  · rfl
theorem opIs : OpR X (compareOp .Is) rIsU := op_isN.or op_isBl
theorem opIsn : OpR X (compareOp .IsNot) rIsnU := op_notN.or op_notBl
theorem okIs : OpOk K rIsU isD := fun S H x y d e res ss hx hy hf Q k => by
  unfold isD at hf
  split at hf
  · cases hf
    exact .inl ⟨hy.non, by rw [hx.isNon]; exact k _ H S (New.refl ss) (.bl _)⟩
  · split at hf
    · cases hf
      exact .inr ⟨_, _, hx.bl, hy.bl, k _ H S (New.refl ss) (.bl _)⟩
    · cases hf
  · cases hf
theorem okIsn : OpOk K rIsnU isnD := fun S H x y d e res ss hx hy hf Q k => by
  unfold isnD at hf
  split at hf
  · cases hf
    exact .inl ⟨hy.non, by rw [hx.isNon]; exact k _ H S (New.refl ss) (.bl _)⟩
  · split at hf
    · cases hf
      exact .inr ⟨_, _, hx.bl, hy.bl, k _ H S (New.refl ss) (.bl _)⟩
    · cases hf
  · cases hf
end

/-! ### in, not in -/
def flatD : PyData → Bool
  | .none => true
  | .bool _ => true
  | .int _ => true
  | .str _ => true
  | _ => false
def one? (x : Str) : Option Nat := match x.cps.toList with
  | [c] => some c
  | _ => none
def inB (d : PyData) (es : List PyData) : Bool := es.any fun z => PyData.eqv z d
def inD (d e : PyData) : Option Bool := match e with
  | .str s => match d with
    | .str x => ol (one? x) fun c => some (decide (c ∈ s.cps.toList))
    | _ => none
  | .list es => if (SeqAt.shaped d && SeqAt.shaped (.list es)) = true then some (inB d es) else none
  | .tuple es => if (flatD d && es.all flatD) = true then some (inB d es) else none
  | _ => none
def inR (d e : PyData) : Option Rv := ol (inD d e) fun b => some (.da (.bool b))
def ninR (d e : PyData) : Option Rv := ol (inD d e) fun b => some (.da (.bool (!b)))
abbrev rInU (K : PySem.W.Frag) (neg : Bool) : R2 := fun x y H Q => (∃ (c : Nat) (z : Str), x = .str ⟨#[c]⟩ ∧ y = .str z ∧ Q (.bl (if neg then !decide (c ∈ z.cps.toList) else decide (c ∈ z.cps.toList))) H) ∨
  ((∃ d ds, Dp K H x d ∧ Dp K H y (.list ds) ∧ SeqAt.shaped d = true ∧ SeqAt.shaped (.list ds) = true ∧ Q (.bl (if neg then !ds.any fun z => PyData.eqv z d else ds.any fun z => PyData.eqv z d)) H) ∨ rIn K neg x y H Q)
theorem one_some {x : Str} {c : Nat} (h : one? x = some c) : x = ⟨#[c]⟩ := by
  obtain ⟨a⟩ := x
  obtain ⟨l⟩ := a
  unfold one? at h
  split at h
  · rename_i c' e
    cases h
    have e' : l = [c] := e
    subst e'
    rfl
  · cases h
section
variable {K : PySem.W.Frag} {X : Cx}
theorem opIn (hu : X.A.units + 65 < cLine) : OpR X (compareOp .In) (rInU X.K false) := op_in_sign.or ((op_inD hu).or op_in_seq)
theorem opNotIn (hu : X.A.units + 65 < cLine) : OpR X (compareOp .NotIn) (rInU X.K true) := op_notIn_sign.or ((op_notInD hu).or op_notIn_seq)
theorem Vw.flat {S H : Hp} {v : V} {d : PyData} (h : Vw K S H v d) (f : flatD d = true) : flatV v = true := by
  rcases h with h | ⟨a, vs, ds, rfl, rfl, _⟩
  · cases h <;> first | rfl | cases f
  · cases f
theorem Da.flat {S : Hp} {v : V} {d : PyData} (h : Da K S v d) (f : flatD d = true) : flatV v = true := (Vw.of (H := S) h).flat f
theorem DaAll.flat {S : Hp} : ∀ {vs : List V} {ds : List PyData}, DaAll K S vs ds → ds.all flatD = true → vs.all flatV = true
  | _, _, .nil, _ => rfl
  | _, _, .cons h r, e => by
    rw [List.all_cons, Bool.and_eq_true] at e ⊢
    exact ⟨h.flat e.1, DaAll.flat r e.2⟩
theorem eqV_eqv {S : Hp} {v w : V} {d e : PyData} (h1 : Da K S v d) (h2 : Da K S w e) (f1 : flatD d = true) (f2 : flatD e = true) : eqV v w = PyData.eqv d e := by
  cases h1 with
  | lst _ _ => cases f1
  | tup _ _ => cases f1
  | scr _ => cases f1
  | dct _ => cases f1
  | non => cases h2 with
    | lst _ _ => cases f2
    | tup _ _ => cases f2
    | scr _ => cases f2
    | dct _ => cases f2
    | _ => simp [eqV, PyData.eqv]
  | bl a => cases h2 with
    | lst _ _ => cases f2
    | tup _ _ => cases f2
    | scr _ => cases f2
    | dct _ => cases f2
    | _ => simp [eqV, PyData.eqv]
  | int a => cases h2 with
    | lst _ _ => cases f2
    | tup _ _ => cases f2
    | scr _ => cases f2
    | dct _ => cases f2
    | _ => simp [eqV, PyData.eqv]
  | str a => cases h2 with
    | lst _ _ => cases f2
    | tup _ _ => cases f2
    | scr _ => cases f2
    | dct _ => cases f2
    | _ => simp [eqV, PyData.eqv]
theorem inV_inB {S : Hp} {v : V} {d : PyData} (h1 : Da K S v d) (f1 : flatD d = true) : ∀ {vs : List V} {ds : List PyData}, DaAll K S vs ds → ds.all flatD = true → inV v vs = inB d ds
  | _, _, .nil, _ => rfl
  | _, _, .cons h r, e => by
    rw [List.all_cons, Bool.and_eq_true] at e
    have := inV_inB h1 f1 r e.2
    unfold inV inB at this ⊢
    rw [List.any_cons, List.any_cons, this, eqV_eqv h h1 e.1 f1]
theorem inU_ok {neg : Bool} {S H : Hp} {x y : V} {d e : PyData} {b : Bool} (ss : Same S H) (hx : Vw K S H x d) (hy : Vw K S H y e) (hf : inD d e = some b) {Q : VK} (k : Q (.bl (if neg then !b else b)) H) : rInU K neg x y H Q := by
  unfold inD at hf
  split at hf
  · split at hf
    · obtain ⟨c, q, hf⟩ := ol_some hf
      cases hf
      cases one_some q
      exact .inl ⟨c, _, hx.str, hy.str, k⟩
    · cases hf
  · split at hf
    · rename_i h
      rw [Bool.and_eq_true] at h
      cases hf
      exact .inr (.inl ⟨d, _, hx.dp ss h.1, hy.dp ss h.2, h.1, h.2, k⟩)
    · cases hf
  · split at hf
    · rename_i h
      rw [Bool.and_eq_true] at h
      cases hf
      obtain ⟨a, vs, rfl, ha, da⟩ := hy.tup
      refine .inr (.inr ⟨a, vs, rfl, .inr (SqT.of (ss _ _ ha)), hx.flat h.1, da.flat h.2, ?_⟩)
      rw [inV_inB (hx.da ss) h.1 (da.mono ss) h.2]
      exact k
    · cases hf
  · cases hf
theorem okIn : OpOk K (rInU K false) inR := fun S H x y d e res ss hx hy hf Q k => by
  obtain ⟨b, q, hf⟩ := ol_some hf
  cases hf
  exact inU_ok ss hx hy q (k _ H S (New.refl ss) (.bl _))
theorem okNotIn : OpOk K (rInU K true) ninR := fun S H x y d e res ss hx hy hf Q k => by
  obtain ⟨b, q, hf⟩ := ol_some hf
  cases hf
  exact inU_ok ss hx hy q (k _ H S (New.refl ss) (.bl _))
end

/-! ### items, slices -/
def ixD : PyData → PyData → Option PyData
  | .list xs, .int i => atI xs i
  | .tuple xs, .int i => atI xs i
  | .dict [(.none, .list xs)], .int i => atI xs i
  | .str z, .int i => if z.length ≤ 16777216 then ol (atI z.cps.toList i) fun c => some (.str ⟨#[c]⟩) else none
  | _, _ => none
def ixR (d e : PyData) : Option Rv := ol (ixD d e) fun z => some (.da z)
section
variable {K : PySem.W.Frag} {X : Cx}
theorem DaAll.atI {S : Hp} {vs : List V} {ds : List PyData} {i : Int} {d : PyData} (h : DaAll K S vs ds) (e : L2.atI ds i = some d) : ∃ v, L2.atI vs i = some v ∧ Da K S v d := by
  unfold L2.atI at e ⊢
  rw [h.length]
  cases q : ixN ds.length i with
  | none => rw [q] at e; cases e
  | some j =>
    rw [q] at e
    exact h.at e
theorem Vw.scr {S H : Hp} {v : V} {xs : List PyData} (h : Vw K S H v (.dict [(.none, .list xs)])) : ∃ (a : Addr) (ns : List Int), v = .ref a ∧ xs = ns.map .int ∧ SqL K S a (ns.map V.int) := by
  rcases h with h | ⟨a, vs, es, _, h, _⟩
  · generalize hd : PyData.dict [(.none, .list xs)] = d at h
    cases h with
    | scr h =>
      unfold DL.scr at hd
      cases hd
      exact ⟨_, _, rfl, rfl, h⟩
    | dct h =>
      unfold DL.dctD at hd
      cases hd
    | _ => cases hd
  · cases h
theorem okIx : OpOk K (rIx K) ixR := fun S H x y d e res ss hx hy hf Q k => by
  obtain ⟨z, q, hf⟩ := ol_some hf
  cases hf
  unfold ixD at q
  split at q
  · obtain ⟨a, vs, rfl, ha, da⟩ := hx.lst ss
    obtain ⟨v, e1, dv⟩ := da.atI q
    exact .inl ⟨a, vs, _, v, rfl, hy.int, SqL.of ha, e1, k _ H S (New.refl ss) dv⟩
  · obtain ⟨a, vs, rfl, ha, da⟩ := hx.tup
    obtain ⟨v, e1, dv⟩ := da.atI q
    exact .inr (.inl ⟨a, vs, _, v, rfl, hy.int, SqT.of (ss _ _ ha), e1, k _ H S (New.refl ss) dv⟩)
  · obtain ⟨a, ns, rfl, rfl, hs⟩ := hx.scr
    obtain ⟨v, e1, dv⟩ := (DaAll.ofInts (K := K) (S := S) (ns := ns)).atI q
    exact .inl ⟨a, _, _, v, rfl, hy.int, ss.seq hs, e1, k _ H S (New.refl ss) dv⟩
  · split at q
    · rename_i h
      obtain ⟨c, e1, q⟩ := ol_some q
      cases q
      exact .inr (.inr ⟨_, _, c, hx.str, hy.int, by rw [line_eq]; exact h, e1, k _ H S (New.refl ss) (.str _)⟩)
    · cases q
  · cases q
theorem ok_ix {a b : Expr} {pos : Pos} {fa fb : EF} (ha : OkE X a fa) (hb : OkE X b fb) (hs : PlainIx b := by intro _ _; rfl) : OkE X (.Subscript a b pos) (eBin ixR fa fb) := pe_imp (pe_ix ix_seq ha hb hs) (rd_bin okIx)
end
def oNo : OF := fun ρ => some (none, ρ)
def intR : Rv → Option Int
  | .da (.int i) => some i
  | _ => none
theorem intR_some {r : Rv} {c : Int} (h : intR r = some c) : r = .da (.int c) := by
  unfold intR at h
  split at h
  · cases h; rfl
  · cases h
@[simp] theorem intR_i (c : Int) : intR (.da (.int c)) = some c := rfl
def oE (f : EF) : OF := fun ρ => ob (f ρ) fun r ρ1 => ol (intR r) fun i => some (some i, ρ1)
def cutD {α : Type} (xs : List α) (lo hi : Option Int) : List α := (xs.drop (HT.sIx xs.length 0 lo)).take (HT.sIx xs.length xs.length hi - HT.sIx xs.length 0 lo)
def slD (d : PyData) (lo hi : Option Int) : Option Rv := match d with
  | .list xs => some (.fr (cutD xs lo hi))
  | .tuple xs => some (.da (.tuple (cutD xs lo hi)))
  | _ => none
def eSlice (a : EF) (lo hi : OF) : EF := fun ρ => ob (a ρ) fun x ρ1 => ob (lo ρ1) fun l ρ2 => ob (hi ρ2) fun h ρ3 => ol (vw ρ3 (deg x)) fun d => ol (slD d l h) fun r => some (r, ρ3)
section
variable {K : PySem.W.Frag} {X : Cx} {e : Expr} {lo hi : Option Expr} {pos p2 : Pos} {f : EF} {fl fh : OF}
theorem okO_no : OkO X none oNo := po_imp po_none fun σ H Q ⟨t, S, ρ, r, ρ', R, e, k⟩ => by
  cases e
  exact k H S R (Same.refl _)
theorem okO_e (h : OkE X e f) : OkO X (some e) (oE f) := po_imp (po_some h) fun σ H Q ⟨t, S, ρ, r, ρ', R, e, k⟩ => by
  obtain ⟨x, ρ1, q1, e⟩ := ob_some e
  obtain ⟨i, q2, e⟩ := ol_some e
  cases e
  cases intR_some q2
  exact ⟨t, S, ρ, _, _, R, q1, fun v H1 S1 R1 s1 o1 => ⟨i, int_of o1, k H1 S1 R1 s1⟩⟩
theorem DaAll.cut {S : Hp} {vs : List V} {ds : List PyData} (h : DaAll K S vs ds) (lo hi : Option Int) : DaAll K S (cutV vs lo hi) (cutD ds lo hi) := by
  unfold cutV cutD
  rw [h.length]
  exact (h.drop _).take _
abbrev rSlU (K : PySem.W.Frag) : V → Option Int → Option Int → Hp → VK → Prop := fun x lo hi H Q => rSlA K x lo hi H Q ∨ rSlL K x lo hi H Q
theorem ok_sl (he : OkE X e f) (hl : OkO X lo fl) (hh : OkO X hi fh) : OkE X (.Subscript e (.Slice lo hi none p2) pos) (eSlice f fl fh) :=
  pe_imp (pe_slice (r := rSlU X.K) (sl_tupA.or sl_list) he hl hh) fun σ H Q ⟨t, S, ρ, r, ρ', R, e, k⟩ => by
    obtain ⟨x, ρ1, q1, e⟩ := ob_some e
    obtain ⟨l, ρ2, q2, e⟩ := ob_some e
    obtain ⟨h, ρ3, q3, e⟩ := ob_some e
    obtain ⟨d, q4, e⟩ := ol_some e
    obtain ⟨r', q5, e⟩ := ol_some e
    cases e
    refine ⟨t, S, ρ, x, ρ1, R, q1, fun v1 H1 S1 R1 s1 o1 => ?_⟩
    obtain ⟨S2, s2, R2, o2⟩ := R1.deg o1
    refine ⟨t, S2, ρ1, l, ρ2, R2, q2, fun H3 S3 R3 s3 => ⟨t, S3, ρ2, h, _, R3, q3, fun H4 S4 R4 s4 => ?_⟩⟩
    have hv := R4.vw ((o2.mono s3).mono s4) q4
    have ss := ((s1.trans s2).trans s3).trans s4
    have sh := R4.sh
    unfold slD at q5
    split at q5
    · cases q5
      obtain ⟨a, vs, rfl, ha, da⟩ := hv.lst sh
      refine .inr ⟨a, vs, rfl, SqL.of ha, fun p hp => ?_⟩
      have N := New.lay (o := .lst (cutV vs l h)) sh hp
      exact k _ _ _ (R4.new N) ss (RO.rv (H := H4) R4 N ⟨p, _, rfl, hp, upd_same, sh.free hp, da.cut l h⟩)
    · cases q5
      obtain ⟨a, vs, rfl, ha, da⟩ := hv.tup
      refine .inl ⟨a, vs, rfl, SqT.of (sh _ _ ha), fun w => ?_, fun _ p hp => ?_⟩
      · have N := New.refl sh
        refine k _ _ _ R4 ss (.tup ha ?_)
        have e : cutV vs l h = vs := by
          unfold cutV
          rw [w.1, w.2]
          simp
        have z := da.cut l h
        rw [e] at z
        exact z
      · have N := New.put (o := .tup (cutV vs l h)) sh hp
        exact k _ _ _ (R4.new N) (ss.trans N.ss) (.tup upd_same ((da.cut l h).mono N.ss))
    · cases q5
end
end DL
/-! The data layer 4: calls of built-ins, of methods, of own defs. -/
namespace DL
open PySem L2

/-! ### isinstance(x, T) -/
def tyName : PyData → String
  | .none => "NoneType"
  | .bool _ => "bool"
  | .int _ => "int"
  | .str _ => "str"
  | .list _ => "list"
  | .tuple _ => "tuple"
  | .dict _ => "dict"
def isiD (T : String) : PyData → Bool
  | .none => T == "NoneType"
  | .bool _ => T == "bool" || T == "int"
  | .int _ => T == "int"
  | .str _ => T == "str"
  | .list _ => T == "list"
  | .tuple _ => T == "tuple"
  | .dict _ => false
def noDict : PyData → Bool
  | .dict _ => false
  | _ => true
def eIsi (T : String) (f : EF) : EF := fun ρ => ob (f ρ) fun r ρ1 => ol (vw ρ1 r) fun d => if noDict d = true then some (.da (.bool (isiD T d)), ρ1) else none
section
variable {K : PySem.W.Frag} {X : Cx}
theorem da_ty {H : Hp} {v : V} {d : PyData} (h : Da K H v d) (n : noDict d = true) : TyX K H v (.type (tyName d)) := by
  cases h with
  | non => exact .base .non
  | bl b => exact .base (.bl b)
  | int b => exact .base (.int b)
  | str b => exact .base (.str b)
  | lst h1 h2 => exact .base (.lst h1)
  | tup h1 h2 => exact .base (.tup h1)
  | scr h => cases n
  | dct h => cases n
theorem ok_isi {T : String} {e : Expr} {x : Str} {p q pos : Pos} {f : EF} (hg : Gl X "isinstance") (hm : X.mg "isinstance" = none) (hgT : Gl X x) (hmT : X.mg x = none) (hvT : bootBuiltins x = some (.type T)) (he : OkE X e f)
    (hT : ∀ d, noDict d = true → kitB (tyName d) T = some (isiD T d))
    (hn : x ≠ "__name__" := by decide) (hdb : (x == ("__debug__" : Str)) = false := by decide)
    (hs : starEach [e, .Name x q] X.env = (false, eval e X.env) :: starEach [.Name x q] X.env := by rfl) (hs2 : starEach [.Name x q] X.env = (false, eval (.Name x q) X.env) :: starEach [] X.env := by rfl)
    (hpl : (backTo pos (starEach [.Name x q] X.env)).any (·.1) = false := by rfl) : OkE X (.Call (.Name "isinstance" p) [e, .Name x q] [] pos) (eIsi T f) :=
  pe_imp (pe_callB call_isi hg hm (by decide +kernel) (pa_cons he (pa_cons (pe_bltn (v := .ty T) hgT hmT hvT rfl hn hdb) pa_nil hs2) hs) (by decide) (by decide) hs hpl) fun σ H Q ⟨t, S, ρ, r, ρ', R, e, k⟩ => by
    obtain ⟨x, ρ1, q1, e⟩ := ob_some e
    obtain ⟨d, q2, e⟩ := ol_some e
    split at e
    · rename_i h
      cases e
      refine ⟨t, S, ρ, x, _, R, q1, fun v H1 S1 R1 s1 o1 => ?_⟩
      exact ⟨v, .ty T, _, _, _, rfl, .ty T, da_ty ((R1.vwO o1 q2).da R1.sh) h, kit_ty (hT d h), k _ H1 S1 R1 s1 (.bl _)⟩
    · cases e
theorem isi_of {T : String} (h : (["NoneType", "bool", "int", "str", "list", "tuple"].map fun a => kitB a T) = [some (T == "NoneType"), some (T == "bool" || T == "int"), some (T == "int"), some (T == "str"), some (T == "list"), some (T == "tuple")]) :
    ∀ d, noDict d = true → kitB (tyName d) T = some (isiD T d) := by
  simp only [List.map_cons, List.map_nil, List.cons.injEq, and_true] at h
  obtain ⟨h1, h2, h3, h4, h5, h6⟩ := h
  intro d n
  cases d <;> first | assumption | cases n
theorem isi_int : ∀ d, noDict d = true → kitB (tyName d) "int" = some (isiD "int" d) := isi_of (by decide +kernel)
theorem isi_bool : ∀ d, noDict d = true → kitB (tyName d) "bool" = some (isiD "bool" d) := isi_of (by decide +kernel)
theorem isi_str : ∀ d, noDict d = true → kitB (tyName d) "str" = some (isiD "str" d) := isi_of (by decide +kernel)
theorem isi_tuple : ∀ d, noDict d = true → kitB (tyName d) "tuple" = some (isiD "tuple" d) := isi_of (by decide +kernel)
theorem isi_list : ∀ d, noDict d = true → kitB (tyName d) "list" = some (isiD "list" d) := isi_of (by decide +kernel)
end

/-! ### len, min, max, sum, any, all, list, tuple, int -/
def lenD : List PyData → Option Rv
  | [.list xs] => some (.da (.int xs.length))
  | [.tuple xs] => some (.da (.int xs.length))
  | [.str z] => if z.length ≤ 16777216 then some (.da (.int z.length)) else none
  | [.dict [(.none, .list xs)]] => some (.da (.int xs.length))
  | _ => none
def intsD : List PyData → Option (List Int)
  | [] => some []
  | .int i :: r => ol (intsD r) fun is => some (i :: is)
  | _ :: _ => none
def blsD : List PyData → Option (List Bool)
  | [] => some []
  | .bool i :: r => ol (blsD r) fun is => some (i :: is)
  | _ :: _ => none
def strsD : List PyData → Option (List Str)
  | [] => some []
  | .str i :: r => ol (strsD r) fun is => some (i :: is)
  | _ :: _ => none
def maxI : List Int → Option Int
  | [] => none
  | n :: ns => some (ns.foldl max n)
def minI : List Int → Option Int
  | [] => none
  | n :: ns => some (ns.foldl min n)
def maxD : List PyData → Option Rv
  | [.int i, .int j] => some (.da (.int (if j > i then j else i)))
  | [.list xs] => ol (intsD xs) fun ns => ol (maxI ns) fun m => some (.da (.int m))
  | [.tuple xs] => ol (intsD xs) fun ns => ol (maxI ns) fun m => some (.da (.int m))
  | _ => none
def minD : List PyData → Option Rv
  | [.int i, .int j] => some (.da (.int (if j < i then j else i)))
  | [.list xs] => ol (intsD xs) fun ns => ol (minI ns) fun m => some (.da (.int m))
  | [.tuple xs] => ol (intsD xs) fun ns => ol (minI ns) fun m => some (.da (.int m))
  | _ => none
def sumD : List PyData → Option Rv
  | [.list xs] => ol (intsD xs) fun ns => some (.da (.int ns.sum))
  | [.tuple xs] => ol (intsD xs) fun ns => some (.da (.int ns.sum))
  | _ => none
def allD : List PyData → Option Rv
  | [.list xs] => ol (blsD xs) fun bs => some (.da (.bool (bs.all id)))
  | _ => none
def anyD : List PyData → Option Rv
  | [.list xs] => ol (blsD xs) fun bs => some (.da (.bool (bs.any id)))
  | _ => none
def listD : List PyData → Option Rv
  | [.list xs] => some (.fr xs)
  | [.tuple xs] => some (.fr xs)
  | _ => none
def tupleD : List PyData → Option Rv
  | [.list xs] => some (.da (.tuple xs))
  | [.tuple xs] => some (.da (.tuple xs))
  | _ => none
def intD : List PyData → Option Rv
  | [.int i] => some (.da (.int i))
  | [.bool b] => some (.da (.int (if b then 1 else 0)))
  | _ => none
theorem intsD_some : ∀ {xs : List PyData} {ns : List Int}, intsD xs = some ns → xs = ns.map .int
  | [], _, h => by cases h; rfl
  | x :: xs, ns, h => by
    cases x <;> try cases h
    obtain ⟨is, q, h⟩ := ol_some h
    cases h
    rw [intsD_some q, List.map_cons]
theorem blsD_some : ∀ {xs : List PyData} {ns : List Bool}, blsD xs = some ns → xs = ns.map .bool
  | [], _, h => by cases h; rfl
  | x :: xs, ns, h => by
    cases x <;> try cases h
    obtain ⟨is, q, h⟩ := ol_some h
    cases h
    rw [blsD_some q, List.map_cons]
theorem strsD_some : ∀ {xs : List PyData} {ns : List Str}, strsD xs = some ns → xs = ns.map .str
  | [], _, h => by cases h; rfl
  | x :: xs, ns, h => by
    cases x <;> try cases h
    obtain ⟨is, q, h⟩ := ol_some h
    cases h
    rw [strsD_some q, List.map_cons]
@[simp] theorem intsD_map : ∀ ns : List Int, intsD (ns.map .int) = some ns
  | [] => rfl
  | n :: ns => by rw [List.map_cons]; show ol (intsD (ns.map .int)) _ = _; rw [intsD_map ns]; rfl
@[simp] theorem blsD_map : ∀ ns : List Bool, blsD (ns.map .bool) = some ns
  | [] => rfl
  | n :: ns => by rw [List.map_cons]; show ol (blsD (ns.map .bool)) _ = _; rw [blsD_map ns]; rfl
@[simp] theorem strsD_map : ∀ ns : List Str, strsD (ns.map .str) = some ns
  | [] => rfl
  | n :: ns => by rw [List.map_cons]; show ol (strsD (ns.map .str)) _ = _; rw [strsD_map ns]; rfl
theorem foldl_max (ns : List Int) : ∀ n : Int, (ns.foldl max n = n ∨ ns.foldl max n ∈ ns) ∧ n ≤ ns.foldl max n ∧ ∀ y ∈ ns, y ≤ ns.foldl max n := by
  induction ns with
  | nil => intro n; exact ⟨.inl rfl, Int.le_refl _, fun _ h => nomatch h⟩
  | cons m ns ih =>
    intro n
    rw [List.foldl_cons]
    obtain ⟨h1, h2, h3⟩ := ih (max n m)
    refine ⟨?_, by omega, fun y hy => ?_⟩
    · rcases h1 with h1 | h1
      · rw [h1]
        rcases Int.le_total n m with q | q
        · right; rw [Int.max_eq_right q]; exact List.mem_cons_self
        · left; exact Int.max_eq_left q
      · exact .inr (List.mem_cons_of_mem _ h1)
    · rcases List.mem_cons.mp hy with rfl | hy
      · omega
      · exact h3 y hy
theorem foldl_min (ns : List Int) : ∀ n : Int, (ns.foldl min n = n ∨ ns.foldl min n ∈ ns) ∧ ns.foldl min n ≤ n ∧ ∀ y ∈ ns, ns.foldl min n ≤ y := by
  induction ns with
  | nil => intro n; exact ⟨.inl rfl, Int.le_refl _, fun _ h => nomatch h⟩
  | cons m ns ih =>
    intro n
    rw [List.foldl_cons]
    obtain ⟨h1, h2, h3⟩ := ih (min n m)
    refine ⟨?_, by omega, fun y hy => ?_⟩
    · rcases h1 with h1 | h1
      · rw [h1]
        rcases Int.le_total n m with q | q
        · left; exact Int.min_eq_left q
        · right; rw [Int.min_eq_right q]; exact List.mem_cons_self
      · exact .inr (List.mem_cons_of_mem _ h1)
    · rcases List.mem_cons.mp hy with rfl | hy
      · omega
      · exact h3 y hy
theorem maxI_is {ns : List Int} {m : Int} (h : maxI ns = some m) : m ∈ ns ∧ ∀ y ∈ ns, y ≤ m := by
  cases ns with
  | nil => cases h
  | cons n ns =>
    cases h
    obtain ⟨h1, h2, h3⟩ := foldl_max ns n
    refine ⟨?_, fun y hy => ?_⟩
    · rcases h1 with h1 | h1
      · rw [h1]; exact List.mem_cons_self
      · exact List.mem_cons_of_mem _ h1
    · rcases List.mem_cons.mp hy with rfl | hy
      · exact h2
      · exact h3 y hy
theorem minI_is {ns : List Int} {m : Int} (h : minI ns = some m) : m ∈ ns ∧ ∀ y ∈ ns, m ≤ y := by
  cases ns with
  | nil => cases h
  | cons n ns =>
    cases h
    obtain ⟨h1, h2, h3⟩ := foldl_min ns n
    refine ⟨?_, fun y hy => ?_⟩
    · rcases h1 with h1 | h1
      · rw [h1]; exact List.mem_cons_self
      · exact List.mem_cons_of_mem _ h1
    · rcases List.mem_cons.mp hy with rfl | hy
      · exact h2
      · exact h3 y hy
section
variable {K : PySem.W.Frag} {X : Cx}
theorem VwAll.one {S H : Hp} {vs : List V} {d : PyData} (h : VwAll K S H vs [d]) : ∃ v, vs = [v] ∧ Vw K S H v d := by
  match vs, h with
  | [v], h => exact ⟨v, rfl, h.1⟩
theorem VwAll.two {S H : Hp} {vs : List V} {d e : PyData} (h : VwAll K S H vs [d, e]) : ∃ v u, vs = [v, u] ∧ Vw K S H v d ∧ Vw K S H u e := by
  match vs, h with
  | [v, u], h => exact ⟨v, u, rfl, h.1, h.2.1⟩
abbrev rLenU (K : PySem.W.Frag) : List V → Hp → VK → Prop := fun xs H Q => ∃ x n, xs = [x] ∧ LenV K x H n ∧ Q (.int n) H
theorem okLen : CallOk K (rLenU K) lenD := fun S H vs ds res ss h hf Q k => by
  unfold lenD at hf
  split at hf
  · cases hf
    obtain ⟨v, rfl, hv⟩ := h.one
    obtain ⟨a, us, rfl, ha, da⟩ := hv.lst ss
    exact ⟨_, _, rfl, .inl ⟨us, SqL.of ha, rfl⟩, by rw [da.length]; exact k _ H S (New.refl ss) (.int _)⟩
  · cases hf
    obtain ⟨v, rfl, hv⟩ := h.one
    obtain ⟨a, us, rfl, ha, da⟩ := hv.tup
    exact ⟨_, _, rfl, .inr ⟨us, SqT.of (ss _ _ ha), rfl⟩, by rw [da.length]; exact k _ H S (New.refl ss) (.int _)⟩
  · split at hf
    · rename_i hl
      cases hf
      obtain ⟨v, rfl, hv⟩ := h.one
      cases hv.str
      exact ⟨_, _, rfl, ⟨by rw [line_eq]; exact hl, rfl⟩, k _ H S (New.refl ss) (.int _)⟩
    · cases hf
  · cases hf
    obtain ⟨v, rfl, hv⟩ := h.one
    obtain ⟨a, ns, rfl, rfl, hs⟩ := hv.scr
    exact ⟨_, _, rfl, .inl ⟨_, ss.seq hs, rfl⟩, by
      have e : (ns.map V.int).length = (ns.map PyData.int).length := by rw [List.length_map, List.length_map]
      rw [e]; exact k _ H S (New.refl ss) (.int _)⟩
  · cases hf
abbrev rMaxT (K : PySem.W.Frag) : List V → Hp → VK → Prop := fun xs H Q => ∃ (a : Addr) (ns : List Int), xs = [V.ref a] ∧ SqT K H a (ns.map V.int) ∧ 0 < ns.length ∧ ∀ m, m ∈ ns → (∀ y, y ∈ ns → y ≤ m) → Q (.int m) H
abbrev rMinT (K : PySem.W.Frag) : List V → Hp → VK → Prop := fun xs H Q => ∃ (a : Addr) (ns : List Int), xs = [V.ref a] ∧ SqT K H a (ns.map V.int) ∧ 0 < ns.length ∧ ∀ m, m ∈ ns → (∀ y, y ∈ ns → m ≤ y) → Q (.int m) H
abbrev rSumT (K : PySem.W.Frag) : List V → Hp → VK → Prop := fun xs H Q => ∃ (a : Addr) (ns : List Int), xs = [V.ref a] ∧ SqT K H a (ns.map V.int) ∧ Q (.int ns.sum) H
abbrev rMaxU (K : PySem.W.Frag) : List V → Hp → VK → Prop := fun xs H Q => (∃ i j, xs = [.int i, .int j] ∧ Q (.int (if j > i then j else i)) H) ∨ (rMax K xs H Q ∨ rMaxT K xs H Q)
abbrev rMinU (K : PySem.W.Frag) : List V → Hp → VK → Prop := fun xs H Q => (∃ i j, xs = [.int i, .int j] ∧ Q (.int (if j < i then j else i)) H) ∨ (rMin K xs H Q ∨ rMinT K xs H Q)
abbrev rSumU (K : PySem.W.Frag) : List V → Hp → VK → Prop := fun xs H Q => rSum K xs H Q ∨ rSumT K xs H Q
theorem reads_ints {h : Heap} : ∀ {us : List Value} {ns : List Int}, PyProof.Rows.IntsAre us ns → ∃ as, ReadsAll h us (ns.map .int) as
  | _, _, .nil => ⟨_, .nil⟩
  | _, _, .cons _ _ r => by
    obtain ⟨as, q⟩ := reads_ints (h := h) r
    exact ⟨_, .cons (.int _ _) q⟩
theorem alike_ints (ns : List Int) : PySem.W.AlikeAll (ns.map .int) := by
  refine ⟨fun x hx y hy => ?_, fun x hx => ?_⟩
  · obtain ⟨i, _, rfl⟩ := List.mem_map.mp hx
    obtain ⟨j, _, rfl⟩ := List.mem_map.mp hy
    rfl
  · obtain ⟨i, _, rfl⟩ := List.mem_map.mp hx
    exact fun z => nomatch z
theorem depth_ints : ∀ ns : List Int, PyData.depthAll (ns.map .int) ≤ 1
  | [] => by simp [PyData.depthAll]
  | n :: ns => by
    have := depth_ints ns
    simp [PyData.depthAll, PyData.depth]
    omega
theorem reads_int {h : Heap} {v : Value} {i : Int} {as : List Addr} (r : Reads h v (.int i) as) : ∃ t, v = .int i t := by cases r; exact ⟨_, rfl⟩
theorem cr_maxT (hc : X.calm = true) (hu : X.A.units + 64 < cLine) : CallR X (.builtin "max") (rMaxT X.K) := by
  intro pins s σ H vs us Q I r h
  obtain ⟨a, ns, rfl, hs, hne, q⟩ := h
  obtain ⟨its, rv, hl, _⟩ := I.tuple hs
  rw [Vals.ref1 r]
  cases ns with
  | nil => exact absurd hne (Nat.lt_irrefl 0)
  | cons n ns =>
    obtain ⟨as, hr⟩ := reads_ints (h := s.heap) rv.ints
    refine PySem.W.max_tuple_data (xs := ns.map .int) (x := .int n) (I.ok.hd hc) (show s.heap.IsTuple a its.toArray from hl) hr (alike_ints (n :: ns)) (by have := depth_ints (n :: ns); simp only [List.map_cons] at this; omega) fun i v h' tk bs _ hv hk => ?_
    rw [PySem.W.maxD_ints] at hv
    obtain ⟨t, rfl⟩ := reads_int hv
    obtain ⟨h1, h2⟩ := maxI_is (show maxI (n :: ns) = some _ from rfl)
    exact ⟨.int _, H, I.kept hk, ⟨_, rfl⟩, q _ h1 h2⟩
theorem cr_minT (hc : X.calm = true) (hu : X.A.units + 64 < cLine) : CallR X (.builtin "min") (rMinT X.K) := by
  intro pins s σ H vs us Q I r h
  obtain ⟨a, ns, rfl, hs, hne, q⟩ := h
  obtain ⟨its, rv, hl, _⟩ := I.tuple hs
  rw [Vals.ref1 r]
  cases ns with
  | nil => exact absurd hne (Nat.lt_irrefl 0)
  | cons n ns =>
    obtain ⟨as, hr⟩ := reads_ints (h := s.heap) rv.ints
    refine PySem.W.min_tuple_data (xs := ns.map .int) (x := .int n) (I.ok.hd hc) (show s.heap.IsTuple a its.toArray from hl) hr (alike_ints (n :: ns)) (by have := depth_ints (n :: ns); simp only [List.map_cons] at this; omega) fun i v h' tk bs _ hv hk => ?_
    rw [PySem.W.minD_ints] at hv
    obtain ⟨t, rfl⟩ := reads_int hv
    obtain ⟨h1, h2⟩ := minI_is (show minI (n :: ns) = some _ from rfl)
    exact ⟨.int _, H, I.kept hk, ⟨_, rfl⟩, q _ h1 h2⟩
theorem cr_sumT (hc : X.calm = true) : CallR X (.builtin "sum") (rSumT X.K) := by
  intro pins s σ H vs us Q I r h
  obtain ⟨a, ns, rfl, hs, q⟩ := h
  obtain ⟨its, rv, hl, _⟩ := I.tuple hs
  rw [Vals.ref1 r]
  have hi := rv.ints
  have hl : s.heap.IsTuple a its.toArray := hl
  obtain ⟨xs, hx⟩ := hi.allInts.items
  have hn : numsOf its.toArray.toList = ns := by rw [show its.toArray.toList = its from rfl, hi.numsOf]
  rw [hx] at hl hn
  rw [nums_intItems] at hn
  refine PySem.W.ktm_sumG (I.ok.hd hc) hl fun h' tk t' hk => ?_
  rw [preSum_eq, List.take_of_length_le (by simp), hn]
  exact ⟨.int _, H, I.kept hk, ⟨_, rfl⟩, q⟩
theorem ints_of {S : Hp} {vs : List V} {xs : List PyData} {ns : List Int} (h : DaAll K S vs xs) (e : intsD xs = some ns) : vs = ns.map V.int := by
  rw [intsD_some e] at h
  exact h.ints
theorem bls_of {S : Hp} {vs : List V} {xs : List PyData} {ns : List Bool} (h : DaAll K S vs xs) (e : blsD xs = some ns) : vs = ns.map V.bl := by
  rw [blsD_some e] at h
  exact h.bls
theorem strs_of {S : Hp} {vs : List V} {xs : List PyData} {ns : List Str} (h : DaAll K S vs xs) (e : strsD xs = some ns) : vs = ns.map V.str := by
  rw [strsD_some e] at h
  exact h.strs
theorem maxI_pos {ns : List Int} {m : Int} (h : maxI ns = some m) : 0 < ns.length := by
  cases ns with
  | nil => cases h
  | cons _ _ => exact Nat.zero_lt_succ _
theorem minI_pos {ns : List Int} {m : Int} (h : minI ns = some m) : 0 < ns.length := by
  cases ns with
  | nil => cases h
  | cons _ _ => exact Nat.zero_lt_succ _
theorem opMax (hc : X.calm = true) (hu : X.A.units + 64 < cLine) : CallR X (.builtin "max") (rMaxU X.K) := (call_max2 hc).or ((cr_max hc).or (cr_maxT hc hu))
theorem opMin (hc : X.calm = true) (hu : X.A.units + 64 < cLine) : CallR X (.builtin "min") (rMinU X.K) := (call_min2 hc).or ((cr_min hc).or (cr_minT hc hu))
theorem opSum (hc : X.calm = true) : CallR X (.builtin "sum") (rSumU X.K) := (cr_sum hc).or (cr_sumT hc)
theorem okMax : CallOk K (rMaxU K) maxD := fun S H vs ds res ss h hf Q k => by
  unfold maxD at hf
  split at hf
  · cases hf
    obtain ⟨v, u, rfl, h1, h2⟩ := h.two
    cases h1.int
    cases h2.int
    exact .inl ⟨_, _, rfl, k _ H S (New.refl ss) (.int _)⟩
  · obtain ⟨ns, q1, hf⟩ := ol_some hf
    obtain ⟨m, q2, hf⟩ := ol_some hf
    cases hf
    obtain ⟨v, rfl, hv⟩ := h.one
    obtain ⟨a, us, rfl, ha, da⟩ := hv.lst ss
    cases ints_of da q1
    obtain ⟨m1, m2⟩ := maxI_is q2
    refine .inr (.inl ⟨a, ns, rfl, SqL.of ha, maxI_pos q2, fun m' h1 h2 => ?_⟩)
    have e : m' = m := by
      have a1 := h2 _ m1
      have a2 := m2 _ h1
      omega
    rw [e]
    exact k _ H S (New.refl ss) (.int _)
  · obtain ⟨ns, q1, hf⟩ := ol_some hf
    obtain ⟨m, q2, hf⟩ := ol_some hf
    cases hf
    obtain ⟨v, rfl, hv⟩ := h.one
    obtain ⟨a, us, rfl, ha, da⟩ := hv.tup
    cases ints_of da q1
    obtain ⟨m1, m2⟩ := maxI_is q2
    refine .inr (.inr ⟨a, ns, rfl, SqT.of (ss _ _ ha), maxI_pos q2, fun m' h1 h2 => ?_⟩)
    have e : m' = m := by
      have a1 := h2 _ m1
      have a2 := m2 _ h1
      omega
    rw [e]
    exact k _ H S (New.refl ss) (.int _)
  · cases hf
theorem okMin : CallOk K (rMinU K) minD := fun S H vs ds res ss h hf Q k => by
  unfold minD at hf
  split at hf
  · cases hf
    obtain ⟨v, u, rfl, h1, h2⟩ := h.two
    cases h1.int
    cases h2.int
    exact .inl ⟨_, _, rfl, k _ H S (New.refl ss) (.int _)⟩
  · obtain ⟨ns, q1, hf⟩ := ol_some hf
    obtain ⟨m, q2, hf⟩ := ol_some hf
    cases hf
    obtain ⟨v, rfl, hv⟩ := h.one
    obtain ⟨a, us, rfl, ha, da⟩ := hv.lst ss
    cases ints_of da q1
    obtain ⟨m1, m2⟩ := minI_is q2
    refine .inr (.inl ⟨a, ns, rfl, SqL.of ha, minI_pos q2, fun m' h1 h2 => ?_⟩)
    have e : m' = m := by
      have a1 := h2 _ m1
      have a2 := m2 _ h1
      omega
    rw [e]
    exact k _ H S (New.refl ss) (.int _)
  · obtain ⟨ns, q1, hf⟩ := ol_some hf
    obtain ⟨m, q2, hf⟩ := ol_some hf
    cases hf
    obtain ⟨v, rfl, hv⟩ := h.one
    obtain ⟨a, us, rfl, ha, da⟩ := hv.tup
    cases ints_of da q1
    obtain ⟨m1, m2⟩ := minI_is q2
    refine .inr (.inr ⟨a, ns, rfl, SqT.of (ss _ _ ha), minI_pos q2, fun m' h1 h2 => ?_⟩)
    have e : m' = m := by
      have a1 := h2 _ m1
      have a2 := m2 _ h1
      omega
    rw [e]
    exact k _ H S (New.refl ss) (.int _)
  · cases hf
theorem okSum : CallOk K (rSumU K) sumD := fun S H vs ds res ss h hf Q k => by
  unfold sumD at hf
  split at hf
  · obtain ⟨ns, q1, hf⟩ := ol_some hf
    cases hf
    obtain ⟨v, rfl, hv⟩ := h.one
    obtain ⟨a, us, rfl, ha, da⟩ := hv.lst ss
    cases ints_of da q1
    exact .inl ⟨a, ns, rfl, SqL.of ha, k _ H S (New.refl ss) (.int _)⟩
  · obtain ⟨ns, q1, hf⟩ := ol_some hf
    cases hf
    obtain ⟨v, rfl, hv⟩ := h.one
    obtain ⟨a, us, rfl, ha, da⟩ := hv.tup
    cases ints_of da q1
    exact .inr ⟨a, ns, rfl, SqT.of (ss _ _ ha), k _ H S (New.refl ss) (.int _)⟩
  · cases hf
theorem okAll : CallOk K (rAll K) allD := fun S H vs ds res ss h hf Q k => by
  unfold allD at hf
  split at hf
  · obtain ⟨ns, q1, hf⟩ := ol_some hf
    cases hf
    obtain ⟨v, rfl, hv⟩ := h.one
    obtain ⟨a, us, rfl, ha, da⟩ := hv.lst ss
    cases bls_of da q1
    exact ⟨a, ns, rfl, SqL.of ha, k _ H S (New.refl ss) (.bl _)⟩
  · cases hf
theorem okAny : CallOk K (rAny K) anyD := fun S H vs ds res ss h hf Q k => by
  unfold anyD at hf
  split at hf
  · obtain ⟨ns, q1, hf⟩ := ol_some hf
    cases hf
    obtain ⟨v, rfl, hv⟩ := h.one
    obtain ⟨a, us, rfl, ha, da⟩ := hv.lst ss
    cases bls_of da q1
    exact ⟨a, ns, rfl, SqL.of ha, k _ H S (New.refl ss) (.bl _)⟩
  · cases hf
abbrev rListU (K : PySem.W.Frag) : List V → Hp → VK → Prop := fun xs H Q => ∃ p ys, xs = [.ref p] ∧ (SqL K H p ys ∨ SqT K H p ys) ∧ ∀ l, H l = none → Q (.ref l) (upd H l (.lst ys))
abbrev rTupleU (K : PySem.W.Frag) : List V → Hp → VK → Prop := fun xs H Q => ∃ a ys, xs = [.ref a] ∧ ((SqL K H a ys ∧ ∀ l, H l = none → Q (.ref l) (upd H l (.tup ys))) ∨ (SqT K H a ys ∧ Q (.ref a) H))
theorem okList : CallOk K (rListU K) listD := fun S H vs ds res ss h hf Q k => by
  unfold listD at hf
  split at hf
  · cases hf
    obtain ⟨v, rfl, hv⟩ := h.one
    obtain ⟨a, us, rfl, ha, da⟩ := hv.lst ss
    exact ⟨a, us, rfl, .inl (SqL.of ha), fun p hp => k _ _ _ (New.lay ss hp) ⟨p, _, rfl, hp, upd_same, ss.free hp, da⟩⟩
  · cases hf
    obtain ⟨v, rfl, hv⟩ := h.one
    obtain ⟨a, us, rfl, ha, da⟩ := hv.tup
    exact ⟨a, us, rfl, .inr (SqT.of (ss _ _ ha)), fun p hp => k _ _ _ (New.lay ss hp) ⟨p, _, rfl, hp, upd_same, ss.free hp, da⟩⟩
  · cases hf
theorem okTuple : CallOk K (rTupleU K) tupleD := fun S H vs ds res ss h hf Q k => by
  unfold tupleD at hf
  split at hf
  · cases hf
    obtain ⟨v, rfl, hv⟩ := h.one
    obtain ⟨a, us, rfl, ha, da⟩ := hv.lst ss
    refine ⟨a, us, rfl, .inl ⟨SqL.of ha, fun p hp => ?_⟩⟩
    have N := New.put (o := .tup us) ss hp
    exact k _ _ _ N (.tup upd_same (da.mono N.ss))
  · cases hf
    obtain ⟨v, rfl, hv⟩ := h.one
    obtain ⟨a, us, rfl, ha, da⟩ := hv.tup
    exact ⟨a, us, rfl, .inr ⟨SqT.of (ss _ _ ha), k _ H S (New.refl ss) (.tup ha da)⟩⟩
  · cases hf
abbrev rIntU : List V → Hp → VK → Prop := fun xs H Q => (∃ i, xs = [.int i] ∧ Q (.int i) H) ∨ ∃ k, xs = [.bl k] ∧ Q (.int (if k then 1 else 0)) H
theorem okInt : CallOk K rIntU intD := fun S H vs ds res ss h hf Q k => by
  unfold intD at hf
  split at hf
  · cases hf
    obtain ⟨v, rfl, hv⟩ := h.one
    cases hv.int
    exact .inl ⟨_, rfl, k _ H S (New.refl ss) (.int _)⟩
  · cases hf
    obtain ⟨v, rfl, hv⟩ := h.one
    cases hv.bl
    exact .inr ⟨_, rfl, k _ H S (New.refl ss) (.int _)⟩
  · cases hf
end
end DL
/-! The data layer 5: methods of lists, calls of own defs. -/
namespace DL
open PySem L2

/-! ### xs.append(e), xs.pop(), xs.pop(k), xs.index(e) -/
def eApp (i : Nat) (e : EF) : EF := fun ρ => ol ρ[i]? fun s0 => ol s0.ls fun _ => ob (e ρ) fun x ρ1 => ob (sto ρ1 x) fun d ρ2 => ol ρ2[i]? fun s => ol s.ls fun ds =>
  if ds.length < 16777216 then some (.da .none, ρ2.set i (s.put (ds ++ [d]))) else none
def ePop0 (i : Nat) : EF := fun ρ => ol ρ[i]? fun s => ol s.ls fun ds => ol ds[ds.length - 1]? fun d => some (.da d, ρ.set i (s.put ds.dropLast))
def ePop (i : Nat) (e : EF) : EF := fun ρ => ol ρ[i]? fun s0 => ol s0.ls fun _ => ob (e ρ) fun x ρ1 => ol (intR x) fun k => ol ρ1[i]? fun s => ol s.ls fun ds =>
  if -(2 ^ 63) ≤ k ∧ k < 2 ^ 63 then ol (ixN ds.length k) fun j => ol ds[j]? fun d => some (.da d, ρ1.set i (s.put (ds.eraseIdx j))) else none
def lsD : PyData → Option (List PyData)
  | .list xs => some xs
  | _ => none
theorem lsD_some {d : PyData} {xs : List PyData} (h : lsD d = some xs) : d = .list xs := by
  unfold lsD at h
  split at h
  · cases h; rfl
  · cases h
def eIndex (a b : EF) : EF := fun ρ => ob (a ρ) fun x ρ1 => ol (vw ρ1 x) fun d0 => ol (lsD d0) fun _ => ob (b ρ1) fun y ρ2 => ol (vw ρ2 (deg x)) fun d => ol (vw ρ2 y) fun e => ol (lsD d) fun xs =>
  if (flatD e && xs.all flatD) = true then ol (xs.findIdx? fun z => PyData.eqv z e) fun j => some (.da (.int j), ρ2) else none
section
variable {X : Cx} {o e : Expr} {f fa : EF} {apos cpos : Pos} {K : PySem.W.Frag}
theorem Rep.ty {t : Et} {S H : Hp} {σ : L2.St} {ρ : En} {i : Nat} {s : Sl} {ds : List PyData} (R : Rep K t S H σ ρ) (h : ρ[i]? = some s) (hs : s.ls = some ds) :
    ∃ a vs, σ[i]? = some (some (.ref a)) ∧ H a = some (.lst vs) ∧ DaAll K S vs ds ∧ tyV K "list" (.ref a) H := by
  obtain ⟨a, vs, e1, e2, _, _, e5, _⟩ := R.own i s ds h hs
  exact ⟨a, vs, e1, e2, e5, .inl ⟨rfl, _, SqL.of e2⟩⟩
theorem ok_app {i : Nat} (ho : PE X o (tVar i)) (he : OkE X e f) (hbase : attributeBase o "append" X.env (eval o X.env) = eval o X.env := by rfl)
    (hfew : ((backTo cpos (starEach [e] X.env)).all (fun x => !x.1) && (backToKw cpos (keywordEach [] X.env)).all (fun x => x.1.isSome)
      && decide (([e] : List Expr).length + ([] : List Keyword).length + (if ([] : List Keyword).isEmpty then 0 else 1) < 30)) = true := by rfl)
    (hline : (apos.endLine == cpos.line) = true := by rfl) (hs : starEach [e] X.env = (false, eval e X.env) :: starEach [] X.env := by rfl) (hplain : (backTo cpos (starEach [] X.env)).any (·.1) = false := by rfl) :
    OkE X (.Call (.Attribute o "append" apos) [e] [] cpos) (eApp i f) :=
  pe_imp (pe_bm PySem.F.plainAttrs_list PySem.F.slot_list_append PySem.F.type_list_append mt_append ho (pa_cons he pa_nil hs) hbase hfew hline hs hplain) fun σ H Q ⟨t, S, ρ, r, ρ', R, e, k⟩ => by
    obtain ⟨s0, p1, e⟩ := ol_some e
    obtain ⟨ds0, p2, e⟩ := ol_some e
    obtain ⟨x, ρ1, q1, e⟩ := ob_some e
    obtain ⟨d, ρ2, q2, e⟩ := ob_some e
    obtain ⟨s, q3, e⟩ := ol_some e
    obtain ⟨ds, q4, e⟩ := ol_some e
    split at e
    · rename_i hl
      cases e
      obtain ⟨a, vs, e1, e2, e3, e4⟩ := R.ty p1 p2
      refine ⟨_, e1, e4, t, S, ρ, x, ρ1, R, q1, fun v H1 S1 R1 s1 o1 => ?_⟩
      obtain ⟨S2, s2, R2, d2⟩ := R1.stoO o1 q2
      obtain ⟨a', us, f1, f2, f3, f4⟩ := R2.ty q3 q4
      rw [e1] at f1
      cases f1
      refine ⟨a, us, v, rfl, rfl, f2, by rw [line_eq, f3.length]; exact hl, ?_⟩
      exact k _ _ S2 (R2.mut q3 q4 e1 (f3.append (.one d2))) (s1.trans s2) .non
    · cases e
theorem ok_pop0 {i : Nat} (ho : PE X o (tVar i)) (hbase : attributeBase o "pop" X.env (eval o X.env) = eval o X.env := by rfl) (hline : (apos.endLine == cpos.line) = true := by rfl) :
    OkE X (.Call (.Attribute o "pop" apos) [] [] cpos) (ePop0 i) :=
  pe_imp (pe_bm0 PySem.F.plainAttrs_list PySem.F.slot_list_pop PySem.F.type_list_pop mt_pop ho hbase hline) fun σ H Q ⟨t, S, ρ, r, ρ', R, e, k⟩ => by
    obtain ⟨s, q3, e⟩ := ol_some e
    obtain ⟨ds, q4, e⟩ := ol_some e
    obtain ⟨d, q5, e⟩ := ol_some e
    cases e
    obtain ⟨a, vs, e1, e2, e3, e4⟩ := R.ty q3 q4
    obtain ⟨v, z1, z2⟩ := e3.at q5
    refine ⟨_, e1, e4, a, vs, v, rfl, rfl, e2, by rw [e3.length]; exact z1, ?_⟩
    exact k _ _ S (R.mut q3 q4 e1 e3.dropLast) (Same.refl _) z2
theorem ok_pop {i : Nat} (ho : PE X o (tVar i)) (he : OkE X e f) (hbase : attributeBase o "pop" X.env (eval o X.env) = eval o X.env := by rfl)
    (hfew : ((backTo cpos (starEach [e] X.env)).all (fun x => !x.1) && (backToKw cpos (keywordEach [] X.env)).all (fun x => x.1.isSome)
      && decide (([e] : List Expr).length + ([] : List Keyword).length + (if ([] : List Keyword).isEmpty then 0 else 1) < 30)) = true := by rfl)
    (hline : (apos.endLine == cpos.line) = true := by rfl) (hs : starEach [e] X.env = (false, eval e X.env) :: starEach [] X.env := by rfl) (hplain : (backTo cpos (starEach [] X.env)).any (·.1) = false := by rfl) :
    OkE X (.Call (.Attribute o "pop" apos) [e] [] cpos) (ePop i f) :=
  pe_imp (pe_bm PySem.F.plainAttrs_list PySem.F.slot_list_pop PySem.F.type_list_pop mt_popAt ho (pa_cons he pa_nil hs) hbase hfew hline hs hplain) fun σ H Q ⟨t, S, ρ, r, ρ', R, e, k⟩ => by
    obtain ⟨s0, p1, e⟩ := ol_some e
    obtain ⟨ds0, p2, e⟩ := ol_some e
    obtain ⟨x, ρ1, q1, e⟩ := ob_some e
    obtain ⟨z, q2, e⟩ := ol_some e
    obtain ⟨s, q3, e⟩ := ol_some e
    obtain ⟨ds, q4, e⟩ := ol_some e
    split at e
    · rename_i hl
      obtain ⟨j, q5, e⟩ := ol_some e
      obtain ⟨d, q6, e⟩ := ol_some e
      cases e
      cases intR_some q2
      obtain ⟨a, vs, e1, e2, e3, e4⟩ := R.ty p1 p2
      refine ⟨_, e1, e4, t, S, ρ, _, _, R, q1, fun v H1 S1 R1 s1 o1 => ?_⟩
      obtain ⟨a', us, f1, f2, f3, f4⟩ := R1.ty q3 q4
      rw [e1] at f1
      cases f1
      cases int_of o1
      obtain ⟨v, z1, z2⟩ := f3.at q6
      obtain ⟨g1, _⟩ := ixN_seq q5
      refine ⟨a, us, z, j, v, rfl, rfl, f2, hl.1, hl.2, by rw [f3.length]; exact g1, z1, ?_⟩
      exact k _ _ S1 (R1.mut q3 q4 e1 (f3.erase j)) s1 z2
    · cases e
theorem DaAll.findIdx {S : Hp} {v : V} {d : PyData} (hd : Da K S v d) (fd : flatD d = true) : ∀ {vs : List V} {ds : List PyData} {j : Nat}, DaAll K S vs ds → ds.all flatD = true → ds.findIdx? (fun z => PyData.eqv z d) = some j →
    ∃ z, vs[j]? = some z ∧ eqV z v = true ∧ ∀ m z', m < j → vs[m]? = some z' → eqV z' v = false
  | _, _, _, .nil, _, h => by cases h
  | v0 :: vs, d0 :: ds, j, .cons h r, f, q => by
    rw [List.all_cons, Bool.and_eq_true] at f
    rw [List.findIdx?_cons] at q
    have e0 := eqV_eqv h hd f.1 fd
    cases c : PyData.eqv d0 d with
    | true =>
      rw [c] at q
      simp at q
      subst q
      exact ⟨v0, rfl, by rw [e0, c], fun m _ hm => absurd hm (Nat.not_lt_zero m)⟩
    | false =>
      rw [c] at q
      simp at q
      obtain ⟨j', q1, rfl⟩ := q
      obtain ⟨z, z1, z2, z3⟩ := DaAll.findIdx hd fd r f.2 q1
      refine ⟨z, by simpa using z1, z2, fun m z' hm hz => ?_⟩
      cases m with
      | zero =>
        have : v0 = z' := by simpa using hz
        subst this
        rw [e0, c]
      | succ m => exact z3 m z' (by omega) (by simpa using hz)
theorem ok_index (ho : OkE X o fa) (he : OkE X e f) (hbase : attributeBase o "index" X.env (eval o X.env) = eval o X.env := by rfl)
    (hfew : ((backTo cpos (starEach [e] X.env)).all (fun x => !x.1) && (backToKw cpos (keywordEach [] X.env)).all (fun x => x.1.isSome)
      && decide (([e] : List Expr).length + ([] : List Keyword).length + (if ([] : List Keyword).isEmpty then 0 else 1) < 30)) = true := by rfl)
    (hline : (apos.endLine == cpos.line) = true := by rfl) (hs : starEach [e] X.env = (false, eval e X.env) :: starEach [] X.env := by rfl) (hplain : (backTo cpos (starEach [] X.env)).any (·.1) = false := by rfl) :
    OkE X (.Call (.Attribute o "index" apos) [e] [] cpos) (eIndex fa f) :=
  pe_imp (pe_bm PySem.F.plainAttrs_list PySem.F.slot_list_index PySem.F.type_list_index mt_index ho (pa_cons he pa_nil hs) hbase hfew hline hs hplain) fun σ H Q ⟨t, S, ρ, r, ρ', R, e, k⟩ => by
    obtain ⟨x, ρ1, q1, e⟩ := ob_some e
    obtain ⟨d0, p1, e⟩ := ol_some e
    obtain ⟨xs0, p2, e⟩ := ol_some e
    obtain ⟨y, ρ2, q2, e⟩ := ob_some e
    obtain ⟨d, q3, e⟩ := ol_some e
    obtain ⟨d', q4, e⟩ := ol_some e
    obtain ⟨xs, q5, e⟩ := ol_some e
    split at e
    · rename_i hl
      rw [Bool.and_eq_true] at hl
      obtain ⟨j, q6, e⟩ := ol_some e
      cases e
      cases lsD_some q5
      cases lsD_some p2
      refine ⟨t, S, ρ, x, ρ1, R, q1, fun v H1 S1 R1 s1 o1 => ?_⟩
      obtain ⟨a0, us0, rfl, g1, _⟩ := (R1.vwO o1 p1).lst R1.sh
      obtain ⟨S2, s2, R2, o2⟩ := R1.deg o1
      refine ⟨.inl ⟨rfl, _, SqL.of g1⟩, t, S2, ρ1, y, _, R2, q2, fun v2 H3 S3 R3 s3 o3 => ?_⟩
      obtain ⟨a, us, ea, g2, g3⟩ := (R3.vw (o2.mono s3) q3).lst R3.sh
      cases ea
      have g4 := (R3.vwO o3 q4).da R3.sh
      have g5 := g3.mono R3.sh
      obtain ⟨z, z1, z2, z3⟩ := g5.findIdx g4 hl.1 hl.2 q6
      refine ⟨a0, us, v2, j, z, rfl, rfl, SqL.of g2, g4.flat hl.1, g3.flat hl.2, z1, z2, z3, ?_⟩
      exact k _ H3 S3 R3 ((s1.trans s2).trans s3) (.int _)
    · cases e
end

/-! ### calls of own defs -/
def scalR : Rv → Bool
  | .da d => flatD d
  | _ => false
/-- the promise of a def that is the function F of data -/
def spF (K : PySem.W.Frag) (F : List PyData → Option Rv) : Sp := fun vs H Q _ => ∃ (S : Hp) (ds : List PyData) (r : Rv), Same S H ∧ DaAll K S vs ds ∧ F ds = some r ∧
  ∀ v H' S', New S H S' H' → RO K H S' H' v r → Q v H'
def eCall (F : List PyData → Option Rv) (as : AF) : EF := fun ρ => ob (as ρ) fun rs ρ1 => ob (stos ρ1 rs) fun ds ρ2 => ol (F ds) fun r => some (r, ρ2)
/-- the lists in slots are only lent, the result is flat -/
def eCallV (F : List PyData → Option Rv) (as : AF) : EF := fun ρ => ob (as ρ) fun rs ρ1 => ol (vws ρ1 rs) fun ds => ol (F ds) fun r => if scalR r = true then some (r, ρ1) else none
theorem Da.flatAny {K : PySem.W.Frag} {S S' : Hp} {v : V} {d : PyData} (h : Da K S v d) (f : flatD d = true) : Da K S' v d := by
  cases h with
  | non => exact .non
  | bl b => exact .bl b
  | int b => exact .int b
  | str b => exact .str b
  | lst _ _ => cases f
  | tup _ _ => cases f
  | scr _ => cases f
  | dct _ => cases f
section
variable {X : Cx} {e : Expr} {es : List Expr} {g : AF} {k : Nat} {f : Addr} {fd : FuncData} {ps : List Str} {F : List PyData → Option Rv} {x : Str} {p pos : Pos} {K : PySem.W.Frag}
theorem rd_call : ∀ σ H Q, rdE K (eCall F g) σ H Q → tCall (spF K F) [] E0 (rdA K g) σ H Q := fun σ H Q ⟨t, S, ρ, r, ρ', R, e, k⟩ => by
  obtain ⟨rs, ρ1, q1, e⟩ := ob_some e
  obtain ⟨ds, ρ2, q2, e⟩ := ob_some e
  obtain ⟨r', q3, e⟩ := ol_some e
  cases e
  refine ⟨t, S, ρ, rs, ρ1, R, q1, fun vs H1 S1 R1 s1 o1 => ?_⟩
  obtain ⟨S2, s2, R2, d2⟩ := R1.stos o1 q2
  refine ⟨S2, ds, _, R2.sh, by rw [List.append_nil]; exact d2, q3, fun v H' S' N o => ?_⟩
  exact k v H' S' (R2.new N) ((s1.trans s2).trans N.ss) (o.rv R2 N)
theorem rd_callV : ∀ σ H Q, rdE K (eCallV F g) σ H Q → tCall (spF K F) [] E0 (rdA K g) σ H Q := fun σ H Q ⟨t, S, ρ, r, ρ', R, e, k⟩ => by
  obtain ⟨rs, ρ1, q1, e⟩ := ob_some e
  obtain ⟨ds, q2, e⟩ := ol_some e
  obtain ⟨r', q3, e⟩ := ol_some e
  split at e
  · rename_i hf
    cases e
    refine ⟨t, S, ρ, rs, _, R, q1, fun vs H1 S1 R1 s1 o1 => ?_⟩
    refine ⟨H1, ds, _, Same.refl _, by rw [List.append_nil]; exact (R1.vws o1 q2).da R1.sh, q3, fun v H' S' N o => ?_⟩
    have N2 : New S1 H1 S1 H' := ⟨Same.refl _, N.hh, R1.sh.trans N.hh, fun _ _ h => h⟩
    cases r with
    | fr ds => cases hf
    | bo i => cases hf
    | da d =>
      have o' : RO K H1 S1 H' v (.da d) := Da.flatAny (o : Da K S' v d) hf
      exact k v H' S1 (R1.new N2) s1 (o'.rv R1 N2)
  · cases e
theorem ok_call (C : FnOk X.prog X.w X.K X.mg X.base CX0 k f fd ps (spF X.K F)) (hr : Room k X.A) (hg : Gl X x) (hm : X.mg x = some (.ref f)) (hk : PySem.W.keepIn X.K (.ref f) = true) (hb : Binds X.K fd ps [])
    (ha : OkA X (e :: es) g) (hdb : (x == ("__debug__" : Str)) = false := by decide) (he : starEach (e :: es) X.env = (false, eval e X.env) :: starEach es X.env := by rfl) (hpl : (backTo pos (starEach es X.env)).any (·.1) = false := by rfl) :
    OkE X (.Call (.Name x p) (e :: es) [] pos) (eCall F g) := pe_imp (pe_call C hr hg hm hk hb .nil pass0 ha hdb he hpl) rd_call
theorem ok_callV (C : FnOk X.prog X.w X.K X.mg X.base CX0 k f fd ps (spF X.K F)) (hr : Room k X.A) (hg : Gl X x) (hm : X.mg x = some (.ref f)) (hk : PySem.W.keepIn X.K (.ref f) = true) (hb : Binds X.K fd ps [])
    (ha : OkA X (e :: es) g) (hdb : (x == ("__debug__" : Str)) = false := by decide) (he : starEach (e :: es) X.env = (false, eval e X.env) :: starEach es X.env := by rfl) (hpl : (backTo pos (starEach es X.env)).any (·.1) = false := by rfl) :
    OkE X (.Call (.Name x p) (e :: es) [] pos) (eCallV F g) := pe_imp (pe_call C hr hg hm hk hb .nil pass0 ha hdb he hpl) rd_callV
theorem ok_call0 (C : FnOk X.prog X.w X.K X.mg X.base CX0 k f fd ps (spF X.K F)) (hr : Room k X.A) (hg : Gl X x) (hm : X.mg x = some (.ref f)) (hk : PySem.W.keepIn X.K (.ref f) = true) (hb : Binds X.K fd ps [])
    (hdb : (x == ("__debug__" : Str)) = false := by decide) : OkE X (.Call (.Name x p) [] [] pos) (eCall F aNil) :=
  pe_imp (pe_call0 C hr hg hm hk hb .nil pass0 hdb) fun σ H Q ⟨t, S, ρ, r, ρ', R, e, k⟩ => by
    obtain ⟨rs, ρ1, q1, e⟩ := ob_some e
    cases q1
    obtain ⟨ds, ρ2, q2, e⟩ := ob_some e
    cases q2
    obtain ⟨r', q3, e⟩ := ol_some e
    cases e
    exact ⟨S, [], _, R.sh, .nil, q3, fun v H' S' N o => k v H' S' (R.new N) N.ss (o.rv R N)⟩
end

/-! ### defs that change a list that is handed in (its place j) -/
def spB (K : PySem.W.Frag) (j : Nat) (F : List PyData → List PyData → Option (Rv × List PyData)) : Sp := fun vs H Q _ =>
  ∃ (S : Hp) (a : Addr) (ms ds : List PyData) (mv : List V) (r : Rv) (ms' : List PyData), Same S H ∧ vs[j]? = some (.ref a) ∧ H a = some (.lst mv) ∧ S a = none ∧ DaAll K S mv ms ∧ DaAll K S (vs.eraseIdx j) ds ∧ F ms ds = some (r, ms') ∧
    ∀ v H' S' mv', Same S S' → Same S' H' → (∀ b, H b ≠ none → S b = none → S' b = none) → (∀ b o, b ≠ a → H b = some o → H' b = some o) → H' a = some (.lst mv') → DaAll K S' mv' ms' → RO K H S' H' v r → Q v H'
/-- which slot it stands in -/
def boI : Rv → Option Nat
  | .bo i => some i
  | _ => none
theorem boI_some {r : Rv} {i : Nat} (h : boI r = some i) : r = .bo i := by
  cases r <;> first | (cases h; rfl) | cases h
def eCallO (j : Nat) (F : List PyData → List PyData → Option (Rv × List PyData)) (as : AF) : EF := fun ρ => ob (as ρ) fun rs ρ1 => ol rs[j]? fun rj => ol (boI rj) fun i => ob (stos ρ1 (rs.eraseIdx j)) fun ds ρ2 => ol ρ2[i]? fun s => ol s.ls fun ms =>
  ob (F ms ds) fun r ms' => some (r, ρ2.set i (s.put ms'))
section
variable {K : PySem.W.Frag} {t : Et} {S S' H H' : Hp} {σ : L2.St} {ρ : En}
theorem RvsOk.erase : ∀ {vs : List V} {rs : List Rv} (j : Nat), RvsOk K S σ vs rs → RvsOk K S σ (vs.eraseIdx j) (rs.eraseIdx j)
  | [], [], _, _ => trivial
  | v :: vs, r :: rs, 0, h => h.2
  | v :: vs, r :: rs, j + 1, h => ⟨h.1, RvsOk.erase j h.2⟩
  | [], _ :: _, _, h => h.elim
  | _ :: _, [], _, h => h.elim
theorem RvsOk.get : ∀ {vs : List V} {rs : List Rv} {j : Nat} {r : Rv}, RvsOk K S σ vs rs → rs[j]? = some r → ∃ v, vs[j]? = some v ∧ RvV K S σ v r
  | [], [], _, _, _, e => by simp at e
  | v :: vs, r :: rs, 0, _, h, e => by simp at e; subst e; exact ⟨v, rfl, h.1⟩
  | v :: vs, r :: rs, j + 1, _, h, e => by
    obtain ⟨u, h1, h2⟩ := RvsOk.get h.2 (by simpa using e)
    exact ⟨u, by simpa using h1, h2⟩
  | [], _ :: _, _, _, h, _ => h.elim
  | _ :: _, [], _, _, h, _ => h.elim
/-- behind a call that changed the list at a, the one in slot i -/
theorem Rep.after {i : Nat} {s : Sl} {ms ms' : List PyData} {a : Addr} {mv' : List V} (R : Rep K t S H σ ρ) (h : ρ[i]? = some s) (hs : s.ls = some ms) (ha : σ[i]? = some (some (.ref a)))
    (n1 : Same S S') (n2 : Same S' H') (n3 : ∀ b, H b ≠ none → S b = none → S' b = none) (n4 : ∀ b o, b ≠ a → H b = some o → H' b = some o) (n5 : H' a = some (.lst mv')) (n6 : DaAll K S' mv' ms') : Rep K t S' H' σ (ρ.set i (s.put ms')) := by
  obtain ⟨a', mv, e1, e2, e3, e4, e5, e6⟩ := R.own i s ms h hs
  rw [ha] at e1
  cases e1
  have il : i < ρ.length := (List.getElem?_eq_some_iff.mp h).1
  refine ⟨n2, R.s0.trans n1, fun b h1 h2 => ?_, fun b o q => n4 b o (ne_of_none q e4) (R.bh b o q), fun b q z => ?_, by rw [List.length_set]; exact R.len, fun j d q => ?_, fun j s' fs q1 q2 => ?_, fun j k s1 s2 fs fs' b hb q1 q2 q3 q4 z1 z2 => ?_⟩
  · refine n3 b (fun z => ?_) (R.sn b h1 h2)
    cases q : t.B b with
    | none => exact h1 q
    | some o => rw [R.bh b o q] at z; cases z
  · cases q2 : H b with
    | none => exact R.ph b q q2
    | some o =>
      by_cases hb : b = a
      · subst hb; rw [n5] at z; cases z
      · rw [n4 b o hb q2] at z; cases z
  · rcases set_get q with ⟨rfl, z, hl⟩ | ⟨hj, q⟩
    · cases s <;> first | cases z | cases hs
    · obtain ⟨v, z1, z2⟩ := R.dat j d q
      exact ⟨v, z1, z2.mono n1⟩
  · rcases set_get q1 with ⟨rfl, rfl, hl⟩ | ⟨hj, q⟩
    · cases s with
      | no => cases hs
      | da _ => cases hs
      | ow z =>
        have q2' : some ms' = some fs := q2
        cases q2'
        refine ⟨a, mv', ha, n5, n3 a (none_ne e2) e3, e4, n6, fun z => ?_, fun z => nomatch z⟩
        have := e6.mp z
        cases this
      | pa z =>
        have q2' : some ms' = some fs := q2
        cases q2'
        refine ⟨a, mv', ha, n5, n3 a (none_ne e2) e3, e4, n6, fun _ => rfl, fun _ => e6.mpr ?_⟩
        have hs' : some z = some ms := hs
        cases hs'
        rfl
    · obtain ⟨b, vs', z1, z2, z3, z4, z5, z6⟩ := R.own j s' fs q q2
      have hba : b ≠ a := fun z => by
        subst z
        exact R.dis j i s' s fs ms b hj q q2 h hs z1 ha
      exact ⟨b, vs', z1, n4 b _ hba z2, n3 b (none_ne z2) z3, z4, z5.mono n1, z6⟩
  · have fix : ∀ {k : Nat} {s2 : Sl} {fs' : List PyData}, (ρ.set i (s.put ms'))[k]? = some s2 → s2.ls = some fs' → ∃ (s3 : Sl) (fs3 : List PyData), ρ[k]? = some s3 ∧ s3.ls = some fs3 := fun {k s2 fs'} q q' => by
      rcases set_get q with ⟨rfl, rfl, hl⟩ | ⟨hj, q⟩
      · exact ⟨s, ms, h, hs⟩
      · exact ⟨s2, fs', q, q'⟩
    obtain ⟨s3, f3, y1, y2⟩ := fix q1 q2
    obtain ⟨s4, f4, y3, y4⟩ := fix q3 q4
    exact R.dis j k s3 s4 f3 f4 b hb y1 y2 y3 y4 z1 z2
end
section
variable {X : Cx} {e : Expr} {es : List Expr} {g : AF} {k j : Nat} {f : Addr} {fd : FuncData} {ps : List Str} {F : List PyData → List PyData → Option (Rv × List PyData)} {x : Str} {p pos : Pos} {K : PySem.W.Frag}
theorem rd_callO : ∀ σ H Q, rdE K (eCallO j F g) σ H Q → tCall (spB K j F) [] E0 (rdA K g) σ H Q := fun σ H Q ⟨t, S, ρ, r, ρ', R, e, k⟩ => by
  obtain ⟨rs, ρ1, q1, e⟩ := ob_some e
  obtain ⟨rj, q2, e⟩ := ol_some e
  obtain ⟨i, q3, e⟩ := ol_some e
  obtain ⟨ds, ρ2, q4, e⟩ := ob_some e
  obtain ⟨s, q5, e⟩ := ol_some e
  obtain ⟨ms, q6, e⟩ := ol_some e
  obtain ⟨r', ms', q7, e⟩ := ob_some e
  cases e
  cases boI_some q3
  refine ⟨t, S, ρ, rs, ρ1, R, q1, fun vs H1 S1 R1 s1 o1 => ?_⟩
  obtain ⟨v, g1, g2⟩ := o1.get q2
  obtain ⟨S2, s2, R2, d2⟩ := R1.stos (o1.erase j) q4
  obtain ⟨a, mv, e1, e2, e3, e4, e5, e6⟩ := R2.own i s ms q5 q6
  have g2' : σ[i]? = some (some v) := g2
  rw [g2'] at e1
  cases e1
  refine ⟨S2, a, ms, ds, mv, _, ms', R2.sh, by rw [List.append_nil]; exact g1, e2, e3, e5, by rw [List.append_nil]; exact d2, q7, fun v H' S' mv' n1 n2 n3 n4 n5 n6 o => ?_⟩
  have R3 := R2.after q5 q6 g2' n1 n2 n3 n4 n5 n6
  refine k v H' S' R3 ((s1.trans s2).trans n1) ?_
  cases r with
  | da d => exact o
  | bo i => exact False.elim o
  | fr fs =>
    obtain ⟨b, ws, z, h1, h2, h3, h4⟩ := o
    refine ⟨b, ws, z, h2, h3, R2.bh.free h1, fun y => R2.ph b y h1, h4, fun l s' ds' y1 y2 y => ?_⟩
    obtain ⟨c, us, y3, y4, _⟩ := R3.own l s' ds' y1 y2
    rw [y] at y3
    cases y3
    rcases set_get y1 with ⟨rfl, _, _⟩ | ⟨hl, y1⟩
    · rw [y] at g2'
      cases g2'
      rw [h1] at e2
      cases e2
    · obtain ⟨c', us', w1, w2, _⟩ := R2.own l s' ds' y1 y2
      rw [y] at w1
      cases w1
      rw [h1] at w2
      cases w2
theorem ok_callO (C : FnOk X.prog X.w X.K X.mg X.base CX0 k f fd ps (spB X.K j F)) (hr : Room k X.A) (hg : Gl X x) (hm : X.mg x = some (.ref f)) (hk : PySem.W.keepIn X.K (.ref f) = true) (hb : Binds X.K fd ps [])
    (ha : OkA X (e :: es) g) (hdb : (x == ("__debug__" : Str)) = false := by decide) (he : starEach (e :: es) X.env = (false, eval e X.env) :: starEach es X.env := by rfl) (hpl : (backTo pos (starEach es X.env)).any (·.1) = false := by rfl) :
    OkE X (.Call (.Name x p) (e :: es) [] pos) (eCallO j F g) := pe_imp (pe_call C hr hg hm hk hb .nil pass0 ha hdb he hpl) rd_callO
end
end DL
/-! The data layer 6: statements, targets. -/
namespace DL
open PySem L2

inductive Out where
  | nx (ρ : En) | rt (r : Rv) (ρ : En) | bk (ρ : En) | ct (ρ : En)
abbrev SF := En → Option Out
def OutOk (K : PySem.W.Frag) (t : Et) (S : Hp) (n : Nat) (D : Ends) : Out → Prop
  | .nx ρ' => ∀ σ' H' S', Rep K t S' H' σ' ρ' → Same S S' → σ'.length = n → D.nx σ' H'
  | .bk ρ' => ∀ σ' H' S', Rep K t S' H' σ' ρ' → Same S S' → σ'.length = n → D.bk σ' H'
  | .ct ρ' => ∀ σ' H' S', Rep K t S' H' σ' ρ' → Same S S' → σ'.length = n → D.ct σ' H'
  | .rt r ρ' => ∀ v σ' H' S', Rep K t S' H' σ' ρ' → Same S S' → RvOk K t S' H' σ' ρ' v r → D.rt v H'
def rdS (K : PySem.W.Frag) (f : SF) : TS := fun D σ H => ∃ (t : Et) (S : Hp) (ρ : En) (o : Out), Rep K t S H σ ρ ∧ f ρ = some o ∧ OutOk K t S σ.length D o
abbrev OkS (X : Cx) (st : Stmt) (f : SF) : Prop := PS X st (rdS X.K f)
abbrev OkSs (X : Cx) (st : List Stmt) (f : SF) : Prop := PSs X st (rdS X.K f)
theorem OutOk.mono {K : PySem.W.Frag} {t : Et} {S S1 : Hp} {n : Nat} {D : Ends} {o : Out} (h : OutOk K t S n D o) (e : Same S S1) : OutOk K t S1 n D o := by
  cases o with
  | nx ρ' => exact fun σ' H' S' R s l => h σ' H' S' R (e.trans s) l
  | bk ρ' => exact fun σ' H' S' R s l => h σ' H' S' R (e.trans s) l
  | ct ρ' => exact fun σ' H' S' R s l => h σ' H' S' R (e.trans s) l
  | rt r ρ' => exact fun v σ' H' S' R s o => h v σ' H' S' R (e.trans s) o

def sNil : SF := fun ρ => some (.nx ρ)
def andThen (o : Out) (g : SF) : Option Out := match o with
  | .nx ρ => g ρ
  | .rt r ρ => some (.rt r ρ)
  | .bk ρ => some (.bk ρ)
  | .ct ρ => some (.ct ρ)
@[simp] theorem andThen_nx (ρ : En) (g : SF) : andThen (.nx ρ) g = g ρ := rfl
@[simp] theorem andThen_rt (r : Rv) (ρ : En) (g : SF) : andThen (.rt r ρ) g = some (.rt r ρ) := rfl
@[simp] theorem andThen_bk (ρ : En) (g : SF) : andThen (.bk ρ) g = some (.bk ρ) := rfl
@[simp] theorem andThen_ct (ρ : En) (g : SF) : andThen (.ct ρ) g = some (.ct ρ) := rfl
def sSeq (a b : SF) : SF := fun ρ => ol (a ρ) fun o => andThen o b
def sDrop (e : EF) : SF := fun ρ => ob (e ρ) fun _ ρ1 => some (.nx ρ1)
/-- what is handed back: a list that only this frame holds is the caller's from then on -/
def retS (ρ : En) (i : Nat) : Sl → Option Out
  | .ow ds => some (.rt (.fr ds) (ρ.set i .no))
  | .da d => some (.rt (.da d) ρ)
  | .pa _ => none
  | .no => none
def retR (ρ : En) : Rv → Option Out
  | .da d => some (.rt (.da d) ρ)
  | .fr ds => some (.rt (.fr ds) ρ)
  | .bo i => ol ρ[i]? (retS ρ i)
def sRet (e : EF) : SF := fun ρ => ob (e ρ) fun r ρ1 => retR ρ1 r
def sRetN : SF := fun ρ => some (.rt (.da .none) ρ)
def sIf (c : TF) (a b : SF) : SF := fun ρ => ob (c ρ) fun k ρ1 => if k = true then a ρ1 else b ρ1
def sPass : SF := fun ρ => some (.nx ρ)
def sBreak : SF := fun ρ => some (.bk ρ)
def sCont : SF := fun ρ => some (.ct ρ)
def sNever : SF := fun _ => none
section
variable {X : Cx} {K : PySem.W.Frag} {st : Stmt} {rest : List Stmt} {f g : SF} {e : Expr} {fe : EF} {pos : Pos} {c : Expr} {a b : List Stmt} {tc : TF}
theorem okSs_nil : OkSs X [] sNil := pss_imp pss_nil fun D σ H ⟨t, S, ρ, o, R, e, k⟩ => by
  cases e
  exact k σ H S R (Same.refl _) rfl
theorem okSs_cons (h1 : OkS X st f) (h2 : OkSs X rest g) : OkSs X (st :: rest) (sSeq f g) := pss_imp (pss_cons h1 h2) fun D σ H ⟨t, S, ρ, o, R, e, k⟩ => by
  obtain ⟨o1, q1, e⟩ := ol_some e
  refine ⟨t, S, ρ, o1, R, q1, ?_⟩
  cases o1 with
  | nx ρ1 => exact fun σ' H' S' R' s l => ⟨t, S', ρ1, o, R', e, by rw [l]; exact k.mono s⟩
  | rt r ρ1 => cases e; exact k
  | bk ρ1 => cases e; exact k
  | ct ρ1 => cases e; exact k
theorem okSs_one (h1 : OkS X st f) : OkSs X [st] f := pss_one h1
theorem okS_expr (he : OkE X e fe) (hs : swapsWith e none pos.line X.env = pure false := by rfl) : OkS X (.Expr e pos) (sDrop fe) := ps_imp (ps_expr he hs) fun D σ H ⟨t, S, ρ, o, R, e, k⟩ => by
  obtain ⟨r, ρ1, q1, e⟩ := ob_some e
  cases e
  exact ⟨t, S, ρ, r, _, R, q1, fun v H1 S1 R1 s1 o1 => k σ H1 S1 R1 s1 rfl⟩
theorem okS_ret (he : OkE X e fe) : OkS X (.Return (some e) pos) (sRet fe) := ps_imp (ps_ret he) fun D σ H ⟨t, S, ρ, o, R, e, k⟩ => by
  obtain ⟨r, ρ1, q1, e⟩ := ob_some e
  refine ⟨t, S, ρ, r, ρ1, R, q1, fun v H1 S1 R1 s1 o1 => ?_⟩
  cases r with
  | da d => cases e; exact k v σ H1 S1 R1 s1 o1
  | fr ds => cases e; exact k v σ H1 S1 R1 s1 o1
  | bo i =>
    obtain ⟨s, q2, e⟩ := ol_some e
    have o1' : σ[i]? = some (some v) := o1
    cases s with
    | no => cases e
    | pa ds => cases e
    | da d =>
      cases e
      obtain ⟨u, z1, z2⟩ := R1.dat i _ q2
      rw [o1'] at z1
      cases z1
      exact k v σ H1 S1 R1 s1 z2
    | ow ds =>
      cases e
      obtain ⟨x, vs, e1, e2, e3, e4, e5, e6⟩ := R1.own i _ ds q2 rfl
      rw [o1'] at e1
      cases e1
      refine k _ σ H1 S1 (R1.drop i) s1 ⟨x, vs, rfl, e2, e3, e4, fun z => ?_, e5, fun j s' ds' y1 y2 y => ?_⟩
      · have := e6.mp z
        cases this
      · rcases set_get y1 with ⟨rfl, rfl, _⟩ | ⟨hj, y1⟩
        · cases y2
        · exact R1.dis j i s' _ ds' ds x hj y1 y2 q2 rfl y o1'
theorem okS_retN : OkS X (.Return none pos) sRetN := ps_imp ps_retN fun D σ H ⟨t, S, ρ, o, R, e, k⟩ => by
  cases e
  exact k .non σ H S R (Same.refl _) .non
theorem okS_if (hc : OkT X c tc) (ha : OkSs X a f) (hb : OkSs X b g) : OkS X (.If c a b pos) (sIf tc f g) := ps_imp (ps_if hc ha hb) fun D σ H ⟨t, S, ρ, o, R, e, k⟩ => by
  obtain ⟨kb, ρ1, q1, e⟩ := ob_some e
  refine ⟨t, S, ρ, kb, ρ1, R, q1, fun H1 S1 R1 s1 => ?_⟩
  cases kb with
  | true => exact iteT ⟨t, S1, ρ1, o, R1, by simpa using e, k.mono s1⟩
  | false => exact iteF ⟨t, S1, ρ1, o, R1, by simpa using e, k.mono s1⟩
theorem okS_pass : OkS X (.Pass pos) sPass := ps_imp ps_pass fun D σ H ⟨t, S, ρ, o, R, e, k⟩ => by
  cases e
  exact k σ H S R (Same.refl _) rfl
theorem okS_break : OkS X (.Break pos) sBreak := ps_imp ps_break fun D σ H ⟨t, S, ρ, o, R, e, k⟩ => by
  cases e
  exact k σ H S R (Same.refl _) rfl
theorem okS_cont : OkS X (.Continue pos) sCont := ps_imp ps_continue fun D σ H ⟨t, S, ρ, o, R, e, k⟩ => by
  cases e
  exact k σ H S R (Same.refl _) rfl
theorem okS_never : OkS X st sNever := ps_imp ps_never fun D σ H ⟨t, S, ρ, o, R, e, k⟩ => by cases e
theorem okSs_never {sts : List Stmt} : OkSs X sts sNever := pss_imp pss_never fun D σ H ⟨t, S, ρ, o, R, e, k⟩ => by cases e
end

/-! ### targets -/
abbrev GF := Rv → En → Option En
abbrev GFs := List PyData → En → Option En
def rdG (K : PySem.W.Frag) (ws : List Nat) (g : GF) : TG := fun v σ H Q => ∃ (t : Et) (S : Hp) (ρ : En) (r : Rv) (ρ' : En), Rep K t S H σ ρ ∧ RvOk K t S H σ ρ v r ∧ g r ρ = some ρ' ∧
  ∀ σ' H' S', Rep K t S' H' σ' ρ' → Same S S' → (∀ j, j ∉ ws → σ'[j]? = σ[j]?) → σ'.length = σ.length → Q σ' H'
def rdGs (K : PySem.W.Frag) (ws : List Nat) (g : GFs) : TGs := fun vs σ H Q => ∃ (t : Et) (S : Hp) (ρ : En) (ds : List PyData) (ρ' : En), Rep K t S H σ ρ ∧ DaAll K S vs ds ∧ g ds ρ = some ρ' ∧
  ∀ σ' H' S', Rep K t S' H' σ' ρ' → Same S S' → (∀ j, j ∉ ws → σ'[j]? = σ[j]?) → σ'.length = σ.length → Q σ' H'
structure OkG (X : Cx) (e : Expr) (ws : List Nat) (g : GF) : Prop where
  run : PG X e (rdG X.K ws g)
structure OkGs (X : Cx) (es : List Expr) (ws : List Nat) (g : GFs) : Prop where
  run : PGs X es (rdGs X.K ws g)
theorem pgs_imp {X : Cx} {e : List Expr} {u u' : TGs} (h : PGs X e u) (i : ∀ v σ H Q, u' v σ H Q → u v σ H Q) : PGs X e u' := ⟨fun pins s σ H v w Q I r hw => h.run pins s σ H v w Q I r (i v σ H Q hw)⟩
def setS (i : Nat) (ρ : En) (s : Sl) : Option En := match ρ[i]? with
  | some (.pa _) => none
  | some _ => some (ρ.set i s)
  | none => none
def gNm (i : Nat) : GF := fun r ρ => match r with
  | .da d => setS i ρ (.da d)
  | .fr ds => setS i ρ (.ow ds)
  | .bo j => ob (sto ρ (.bo j)) fun d ρ1 => setS i ρ1 (.da d)
def gNil : GFs := fun ds ρ => match ds with
  | [] => some ρ
  | _ => none
def gCons (g : GF) (gs : GFs) : GFs := fun ds ρ => match ds with
  | d :: ds => ol (g (.da d) ρ) fun ρ1 => gs ds ρ1
  | [] => none
def gTup (n : Nat) (gs : GFs) : GF := fun r ρ => match r with
  | .da (.tuple ds) => if ds.length = n then gs ds ρ else none
  | _ => none
/-- xs[e] = v -/
def gSub (i : Nat) (f : EF) : GF := fun r ρ => ob (sto ρ r) fun d ρ0 => ol ρ0[i]? fun s0 => ol s0.ls fun _ => ob (f ρ0) fun x ρ1 => ol (intR x) fun k => ol ρ1[i]? fun s => ol s.ls fun ds => ol (ixN ds.length k) fun j => some (ρ1.set i (s.put (ds.set j d)))
theorem setS_some {i : Nat} {ρ ρ' : En} {s : Sl} (h : setS i ρ s = some ρ') : ρ' = ρ.set i s ∧ ∀ ds, ρ[i]? ≠ some (.pa ds) := by
  unfold setS at h
  split at h
  · cases h
  · rename_i s' e hs
    cases h
    refine ⟨rfl, fun ds z => ?_⟩
    rw [hs] at z
    cases z
    exact e ds rfl
  · cases h
section
variable {X : Cx} {K : PySem.W.Frag} {pos : Pos}
theorem set_other {σ : L2.St} {i : Nat} {v : Option V} : ∀ j, j ∉ [i] → (σ.set i v)[j]? = σ[j]? := fun j hj => by
  rw [List.getElem?_set_ne]
  intro z
  subst z
  exact hj (by simp)
theorem rd_gNm (i : Nat) : ∀ v σ H Q, rdG K [i] (gNm i) v σ H Q → gName i v σ H Q := fun v σ H Q ⟨t, S, ρ, r, ρ', R, o, e, k⟩ => by
  cases r with
  | da d =>
    obtain ⟨rfl, hp⟩ := setS_some e
    exact k _ H S (R.setD o hp) (Same.refl _) set_other (List.length_set)
  | fr ds =>
    obtain ⟨rfl, hp⟩ := setS_some e
    exact k _ H S (R.setO o hp) (Same.refl _) set_other (List.length_set)
  | bo j =>
    obtain ⟨d, ρ1, q, e⟩ := ob_some (show ob (sto ρ (.bo j)) (fun d ρ1 => setS i ρ1 (.da d)) = some ρ' from e)
    obtain ⟨rfl, hp⟩ := setS_some e
    obtain ⟨S1, s1, R1, d1⟩ := R.stoO o q
    exact k _ H S1 (R1.setD d1 hp) s1 set_other (List.length_set)
theorem okG_name (i : Nat) {x : Str} (hN : X.N.Nodup) (hi : X.N[i]? = some x) (hx : Loc X.env.scope x) (hf : X.fn x = true ∨ X.env.scope.names.lookup x = some .local := by first | exact .inl rfl | exact .inr rfl | assumption) : OkG X (.Name x pos) [i] (gNm i) :=
  ⟨pg_imp (pg_name hN hi hx hf) (rd_gNm i)⟩
theorem okGs_nil : OkGs X [] [] gNil := ⟨pgs_imp pgs_nil fun vs σ H Q ⟨t, S, ρ, ds, ρ', R, o, e, k⟩ => by
  cases ds with
  | nil =>
    cases e
    cases o
    exact ⟨rfl, k σ H S R (Same.refl _) (fun _ _ => rfl) rfl⟩
  | cons _ _ => cases e⟩
theorem okGs_cons {e : Expr} {es : List Expr} {ws ws' : List Nat} {g : GF} {gs : GFs} (h1 : OkG X e ws g) (h2 : OkGs X es ws' gs) (hs : (assignEach (e :: es) X.env).map (·.2) = assign e X.env :: (assignEach es X.env).map (·.2) := by rfl) : OkGs X (e :: es) (ws ++ ws') (gCons g gs) :=
  ⟨pgs_imp (pgs_cons h1.run h2.run hs) fun vs σ H Q ⟨t, S, ρ, ds, ρ', R, o, e, k⟩ => by
    cases ds with
    | nil => cases e
    | cons d ds =>
      cases o with
      | cons o1 o2 =>
        obtain ⟨ρ1, q1, e⟩ := ol_some e
        refine ⟨_, _, rfl, t, S, ρ, .da d, ρ1, R, o1, q1, fun σ1 H1 S1 R1 s1 f1 l1 => ?_⟩
        refine ⟨t, S1, ρ1, ds, ρ', R1, o2.mono s1, e, fun σ2 H2 S2 R2 s2 f2 l2 => ?_⟩
        exact k σ2 H2 S2 R2 (s1.trans s2) (fun j hj => by
          rw [f2 j (fun z => hj (List.mem_append_right _ z)), f1 j (fun z => hj (List.mem_append_left _ z))]) (l2.trans l1)⟩
theorem okG_tup {es : List Expr} {kk n : Nat} {ws : List Nat} {gs : GFs} (hc : X.calm = true) (h : OkGs X es ws gs) (hn : (assignEach es X.env).length = n := by rfl) (hst : (assignEach es X.env).findIdx? (·.1) = none := by rfl) :
    OkG X (.Tuple es kk pos) ws (gTup n gs) := ⟨pg_imp (pg_tup hc h.run hn hst) fun v σ H Q ⟨t, S, ρ, r, ρ', R, o, e, k⟩ => by
  unfold gTup at e
  split at e
  · split at e
    · rename_i ds hl
      obtain ⟨a, vs, rfl, h1, h2⟩ := (Vw.of (H := H) (o : Da X.K S v (.tuple ds))).tup
      exact ⟨a, vs, rfl, SqT.of (R.sh _ _ h1), by rw [h2.length]; exact hl, t, S, ρ, ds, ρ', R, h2, e, k⟩
    · cases e
  · cases e⟩
theorem okG_sub {o ix : Expr} {i : Nat} {f : EF} (ho : PE X o (tVar i)) (hi : OkE X ix f) (ha : ∀ v, assign (.Subscript o ix pos) X.env v = (do
      let ov ← holding [v] (eval o X.env)
      let iv ← holding [v, ov] (eval ix X.env)
      standAt pos
      holding [v, ov, iv] (setItem ov iv v)
      release [v, ov, iv] []) := by intro _; rfl) : OkG X (.Subscript o ix pos) [] (gSub i f) := ⟨pg_imp (pg_sub ho hi set_list ha) fun v σ H Q ⟨t, S, ρ, r, ρ', R, o, e, k⟩ => by
  obtain ⟨d, ρ0, q1, e⟩ := ob_some e
  obtain ⟨s0, q2, e⟩ := ol_some e
  obtain ⟨ds0, q3, e⟩ := ol_some e
  obtain ⟨x, ρ1, q4, e⟩ := ob_some e
  obtain ⟨z, q5, e⟩ := ol_some e
  obtain ⟨s, q6, e⟩ := ol_some e
  obtain ⟨ds, q7, e⟩ := ol_some e
  obtain ⟨j, q8, e⟩ := ol_some e
  cases e
  cases intR_some q5
  obtain ⟨S1, s1, R1, d1⟩ := R.stoO o q1
  obtain ⟨a, vs, e1, e2, e3, e4⟩ := R1.ty (K := X.K) q2 q3
  refine ⟨_, e1, t, S1, ρ0, _, _, R1, q4, fun u H2 S2 R2 s2 o2 => ?_⟩
  obtain ⟨a', us, f1, f2, f3, f4⟩ := R2.ty (K := X.K) q6 q7
  rw [e1] at f1
  cases f1
  cases int_of o2
  refine ⟨a, us, z, j, rfl, rfl, f2, by rw [f3.length]; exact q8, ?_⟩
  exact k σ _ S2 (R2.mut q6 q7 e1 (f3.set (d1.mono s2) j)) (s1.trans s2) (fun _ _ => rfl) rfl⟩
end

/-! ### assignments -/
def sAsg (e : EF) (g : GF) : SF := fun ρ => ob (e ρ) fun r ρ1 => ol (g r ρ1) fun ρ2 => some (.nx ρ2)
section
variable {X : Cx} {K : PySem.W.Frag} {pos : Pos} {e tg : Expr} {fe : EF} {g : GF} {ws : List Nat}
theorem rd_asg {te : TE} {tgr : TG} (h1 : ∀ σ H Q, rdE K fe σ H Q → te σ H Q) (h2 : ∀ v σ H Q, rdG K ws g v σ H Q → tgr v σ H Q) : ∀ D σ H, rdS K (sAsg fe g) D σ H → tAsg te tgr D σ H := fun D σ H ⟨t, S, ρ, o, R, e, k⟩ => by
  obtain ⟨r, ρ1, q1, e⟩ := ob_some e
  obtain ⟨ρ2, q2, e⟩ := ol_some e
  cases e
  exact h1 σ H _ ⟨t, S, ρ, r, ρ1, R, q1, fun v H1 S1 R1 s1 o1 => h2 v σ H1 _ ⟨t, S1, ρ1, r, _, R1, o1, q2, fun σ2 H2 S2 R2 s2 _ l2 => k σ2 H2 S2 R2 (s1.trans s2) l2⟩⟩
theorem okS_asg (he : OkE X e fe) (hg : OkG X tg ws g) (hs : swapsWithSole [tg] e pos.line X.env = pure false := by rfl) (hw : swappedStores [tg] e X.env = pure none := by rfl)
    (h1 : (assignEach [tg] X.env).map (·.2) = [assign tg X.env] := by rfl) : OkS X (.Assign [tg] e pos) (sAsg fe g) := ps_imp (ps_asg he hg.run hs hw h1) (rd_asg (fun _ _ _ h => h) fun _ _ _ _ h => h)
theorem okS_set (i : Nat) {x : Str} {pos' : Pos} (hN : X.N.Nodup) (hi : X.N[i]? = some x) (hx : Loc X.env.scope x) (he : OkE X e fe) (hs : swapsWith e (some (.Name x pos')) pos.line X.env = pure false := by rfl)
    (hf : X.fn x = true ∨ X.env.scope.names.lookup x = some .local := by first | exact .inl rfl | exact .inr rfl | assumption) : OkS X (.Assign [.Name x pos'] e pos) (sAsg fe (gNm i)) :=
  ps_imp (ps_set hN hi hx he hs hf) (rd_asg (fun _ _ _ h => h) (rd_gNm i))
end

/-! ### a, b = x, y; a, b, c = x, y, z with plain names: new lists stay the frame's own -/
/-- what is kept till the stores: data or a new list -/
def pst (ρ : En) : Rv → Option (Rv × En)
  | .da d => some (.da d, ρ)
  | .fr ds => some (.fr ds, ρ)
  | .bo i => ob (sto ρ (.bo i)) fun d ρ1 => some (.da d, ρ1)
def pNil : AF := fun ρ => some ([], ρ)
def pCons (e : EF) (as : AF) : AF := fun ρ => ob (e ρ) fun x ρ1 => ob (pst ρ1 x) fun y ρ2 => ob (as ρ2) fun ys ρ3 => some (y :: ys, ρ3)
def isFr : Rv → Bool
  | .fr _ => true
  | _ => false
def isDF : Rv → Bool
  | .bo _ => false
  | _ => true
def RvsP (K : PySem.W.Frag) (t : Et) (S H : Hp) (σ : L2.St) (ρ : En) : List V → List Rv → Prop
  | [], [] => True
  | v :: vs, r :: rs => isDF r = true ∧ RvOk K t S H σ ρ v r ∧ (∀ (j : Nat) (u : V) (r' : Rv), vs[j]? = some u → rs[j]? = some r' → isFr r = true → isFr r' = true → v ≠ u) ∧ RvsP K t S H σ ρ vs rs
  | _, _ => False
def rdP (K : PySem.W.Frag) (f : AF) : TA := fun σ H Q => ∃ (t : Et) (S : Hp) (ρ : En) (r : List Rv) (ρ' : En), Rep K t S H σ ρ ∧ f ρ = some (r, ρ') ∧
  ∀ vs H' S', Rep K t S' H' σ ρ' → Same S S' → RvsP K t S' H' σ ρ' vs r → Q vs H'
abbrev OkP (X : Cx) (es : List Expr) (f : AF) : Prop := PA X es (rdP X.K f)
section
variable {X : Cx} {e : Expr} {es : List Expr} {f : EF} {g : AF} {K : PySem.W.Frag} {t : Et} {S S' H H' : Hp} {σ : L2.St} {ρ ρ' : En} {v : V} {r r' : Rv}
theorem Rep.pst (R : Rep K t S H σ ρ) (h : RvOk K t S H σ ρ v r) (e : DL.pst ρ r = some (r', ρ')) : ∃ S', Same S S' ∧ Rep K t S' H σ ρ' ∧ RvOk K t S' H σ ρ' v r' ∧ isDF r' = true := by
  cases r with
  | da d => cases e; exact ⟨S, Same.refl _, R, h, rfl⟩
  | fr ds => cases e; exact ⟨S, Same.refl _, R, h, rfl⟩
  | bo i =>
    obtain ⟨d, ρ1, q, e⟩ := ob_some (show ob (sto ρ (.bo i)) (fun d ρ1 => some (Rv.da d, ρ1)) = some (r', ρ') from e)
    cases e
    obtain ⟨S1, s1, R1, d1⟩ := R.stoO h q
    exact ⟨S1, s1, R1, d1, rfl⟩
theorem RvsP.unbase (R : Rep K t S H σ ρ) : ∀ {vs : List V} {rs : List Rv}, RvsP K (t.re S H σ ρ) S' H' σ ρ' vs rs → RvsP K t S' H' σ ρ' vs rs
  | [], [], _ => trivial
  | v :: vs, r :: rs, h => ⟨h.1, h.2.1.unbase R, h.2.2.1, RvsP.unbase R h.2.2.2⟩
  | [], _ :: _, h => h.elim
  | _ :: _, [], h => h.elim
theorem RvsP.fresh : ∀ {vs : List V} {rs : List Rv} {j : Nat} {u : V} {r : Rv}, RvsP K t S H σ ρ vs rs → vs[j]? = some u → rs[j]? = some r → isFr r = true → ∃ a, u = .ref a ∧ t.B a = none
  | [], [], _, _, _, _, e, _, _ => by simp at e
  | v :: vs, r :: rs, 0, _, _, h, e1, e2, e3 => by
    simp at e1 e2
    subst e1 e2
    cases r with
    | da d => cases e3
    | bo i => cases e3
    | fr ds =>
      obtain ⟨a, us, z, _, _, h3, _⟩ := h.2.1
      exact ⟨a, z, h3⟩
  | v :: vs, r :: rs, j + 1, _, _, h, e1, e2, e3 => RvsP.fresh (j := j) h.2.2.2 (by simpa using e1) (by simpa using e2) e3
  | [], _ :: _, _, _, _, h, _, _, _ => h.elim
  | _ :: _, [], _, _, _, h, _, _, _ => h.elim
/-- a new list that waits, behind an evaluation in which it was told to stay -/
theorem RvOk.wait (R : Rep K t S H σ ρ) (h : RvOk K t S H σ ρ v r) (hd : isDF r = true) (R' : Rep K (t.re S H σ ρ) S' H' σ ρ') : RvOk K t S' H' σ ρ' v r ∧ (isFr r = true → ∃ a, v = .ref a ∧ (t.re S H σ ρ).B a ≠ none) := by
  cases r with
  | bo i => cases hd
  | da d => exact ⟨Da.mono R'.s0 h, fun z => nomatch z⟩
  | fr ds =>
    obtain ⟨a, vs, rfl, h1, h2, h3, h4, h5, h6⟩ := h
    have hc : cut H σ ρ a = some (.lst vs) := cut_of h1 h6
    refine ⟨⟨a, vs, rfl, R'.bh _ _ hc, ?_, h3, h4, h5.mono R'.s0, fun i s ds' q1 q2 q => ?_⟩, fun _ => ⟨a, rfl, none_ne hc⟩⟩
    · exact R'.sn a (none_ne hc) h2
    · obtain ⟨b, us, z1, z2, z3, z4, _⟩ := R'.own i s ds' q1 q2
      rw [q] at z1
      cases z1
      have z4' : cut H σ ρ a = none := z4
      rw [hc] at z4'
      cases z4'
theorem okP_nil : OkP X [] pNil := pa_imp pa_nil fun σ H Q ⟨t, S, ρ, r, ρ', R, e, k⟩ => by
  cases e
  exact k [] H S R (Same.refl _) trivial
theorem okP_cons (he : OkE X e f) (hr : OkP X es g) (hs : starEach (e :: es) X.env = (false, eval e X.env) :: starEach es X.env := by rfl) : OkP X (e :: es) (pCons f g) :=
  pa_imp (pa_cons he hr hs) fun σ H Q ⟨t, S, ρ, r, ρ', R, e, k⟩ => by
    obtain ⟨x, ρ1, q1, e⟩ := ob_some e
    obtain ⟨y, ρ2, q2, e⟩ := ob_some e
    obtain ⟨ys, ρ3, q3, e⟩ := ob_some e
    cases e
    refine ⟨t, S, ρ, x, ρ1, R, q1, fun v1 H1 S1 R1 s1 o1 => ?_⟩
    obtain ⟨S2, s2, R2, o2, d2⟩ := R1.pst o1 q2
    refine ⟨t.re S2 H1 σ ρ2, S2, ρ2, ys, _, R2.base, q3, fun vs H3 S3 R3 s3 o3 => ?_⟩
    obtain ⟨w1, w2⟩ := RvOk.wait R2 o2 d2 R3
    refine k (v1 :: vs) H3 S3 (R2.unbase R3) ((s1.trans s2).trans s3) ⟨d2, w1, fun j u r' p1 p2 p3 p4 z => ?_, o3.unbase R2⟩
    obtain ⟨a, ea, hb⟩ := w2 p3
    obtain ⟨b, eb, hn⟩ := o3.fresh p1 p2 p4
    rw [ea, eb] at z
    cases z
    exact hb hn
/-- a store of one that waited, the others still wait -/
theorem RvOk.stored {i : Nat} {u : V} (R : Rep K t S H σ ρ) (h : RvOk K t S H σ ρ v r) (hd : isDF r = true) {r2 : Rv} (h2 : RvOk K t S H σ ρ u r2) (hd2 : isDF r2 = true) (hne : isFr r = true → isFr r2 = true → v ≠ u) {ρ1 : En} (e : gNm i r ρ = some ρ1) :
    Rep K t S H (σ.set i (some v)) ρ1 ∧ RvOk K t S H (σ.set i (some v)) ρ1 u r2 := by
  have R1 : Rep K t S H (σ.set i (some v)) ρ1 := by
    cases r with
    | bo j => cases hd
    | da d =>
      obtain ⟨rfl, hp⟩ := setS_some e
      exact R.setD h hp
    | fr ds =>
      obtain ⟨rfl, hp⟩ := setS_some e
      exact R.setO h hp
  refine ⟨R1, ?_⟩
  cases r2 with
  | bo j => cases hd2
  | da d => exact h2
  | fr ds =>
    obtain ⟨a, vs, rfl, h1, g2, g3, g4, g5, g6⟩ := h2
    refine ⟨a, vs, rfl, h1, g2, g3, g4, g5, fun j s ds' q1 q2 q => ?_⟩
    by_cases hj : j = i
    · subst hj
      have hl : j < σ.length := by
        have := (List.getElem?_eq_some_iff.mp q1).1
        rw [← R1.len, List.length_set] at this
        exact this
      rw [List.getElem?_set_self hl] at q
      cases q
      cases r with
      | bo j => cases hd
      | fr ds => exact hne rfl rfl rfl
      | da d =>
        obtain ⟨rfl, hp⟩ := setS_some e
        rw [List.getElem?_set_self (by rw [← R.len]; exact hl)] at q1
        cases q1
        cases q2
    · rw [List.getElem?_set_ne (fun z => hj z.symm)] at q
      have q1' : ρ[j]? = some s := by
        cases r with
        | bo j => cases hd
        | da d =>
          obtain ⟨rfl, hp⟩ := setS_some e
          rw [List.getElem?_set_ne (fun z => hj z.symm)] at q1
          exact q1
        | fr ds =>
          obtain ⟨rfl, hp⟩ := setS_some e
          rw [List.getElem?_set_ne (fun z => hj z.symm)] at q1
          exact q1
      exact g6 j s ds' q1' q2 q
end
def two? : List Rv → Option (Rv × Rv)
  | [a, b] => some (a, b)
  | _ => none
def sPar (i j : Nat) (as : AF) : SF := fun ρ => ob (as ρ) fun rs ρ1 => ob (two? rs) fun a b => ol (gNm i a ρ1) fun ρ2 => ol (gNm j b ρ2) fun ρ3 => some (.nx ρ3)
def three? : List Rv → Option (Rv × (Rv × Rv))
  | [a, b, c] => some (a, (b, c))
  | _ => none
def sPar3 (i j l : Nat) (as : AF) : SF := fun ρ => ob (as ρ) fun rs ρ1 => ob (three? rs) fun a bc => ol (gNm i a ρ1) fun ρ2 => ol (gNm j bc.1 ρ2) fun ρ3 => ol (gNm l bc.2 ρ3) fun ρ4 => some (.nx ρ4)
section
variable {X : Cx} {K : PySem.W.Frag} {g : AF} {pos : Pos}
theorem two_some {rs : List Rv} {a b : Rv} (h : two? rs = some (a, b)) : rs = [a, b] := by
  unfold two? at h
  split at h
  · cases h; rfl
  · cases h
theorem three_some {rs : List Rv} {a : Rv} {b : Rv × Rv} (h : three? rs = some (a, b)) : rs = [a, b.1, b.2] := by
  unfold three? at h
  split at h
  · cases h; rfl
  · cases h
theorem RvOk.last {t : Et} {S H : Hp} {σ : L2.St} {ρ ρ1 : En} {v : V} {r : Rv} {i : Nat} (R : Rep K t S H σ ρ) (h : RvOk K t S H σ ρ v r) (hd : isDF r = true) (e : gNm i r ρ = some ρ1) : Rep K t S H (σ.set i (some v)) ρ1 :=
  (RvOk.stored (u := .non) (r2 := .da .none) R h hd (show Da K S .non .none from .non) rfl (fun _ z => nomatch z) e).1
theorem rd_par {i j : Nat} : ∀ D σ H, rdS K (sPar i j g) D σ H → tPar i j (rdP K g) D σ H := fun D σ H ⟨t, S, ρ, o, R, e, k⟩ => by
  obtain ⟨rs, ρ1, q1, e⟩ := ob_some e
  obtain ⟨a, b, q2, e⟩ := ob_some e
  obtain ⟨ρ2, q3, e⟩ := ol_some e
  obtain ⟨ρ3, q4, e⟩ := ol_some e
  cases e
  cases two_some q2
  refine ⟨t, S, ρ, _, ρ1, R, q1, fun vs H1 S1 R1 s1 o1 => ?_⟩
  match vs, o1 with
  | [v, w], ⟨d1, h1, n1, d2, h2, _, _⟩ =>
    obtain ⟨R2, h2'⟩ := RvOk.stored R1 h1 d1 h2 d2 (fun z1 z2 => n1 0 w b rfl rfl z1 z2) q3
    have R3 := RvOk.last R2 h2' d2 q4
    exact ⟨v, w, rfl, k _ H1 S1 R3 s1 (by rw [List.length_set, List.length_set])⟩
theorem rd_par3 {i j l : Nat} : ∀ D σ H, rdS K (sPar3 i j l g) D σ H → tPar3 i j l (rdP K g) D σ H := fun D σ H ⟨t, S, ρ, o, R, e, k⟩ => by
  obtain ⟨rs, ρ1, q1, e⟩ := ob_some e
  obtain ⟨a, bc, q2, e⟩ := ob_some e
  obtain ⟨ρ2, q3, e⟩ := ol_some e
  obtain ⟨ρ3, q4, e⟩ := ol_some e
  obtain ⟨ρ4, q5, e⟩ := ol_some e
  cases e
  cases three_some q2
  refine ⟨t, S, ρ, _, ρ1, R, q1, fun vs H1 S1 R1 s1 o1 => ?_⟩
  match vs, o1 with
  | [u, v, w], ⟨d1, h1, n1, d2, h2, n2, d3, h3, _, _⟩ =>
    obtain ⟨R2, h2'⟩ := RvOk.stored R1 h1 d1 h2 d2 (fun z1 z2 => n1 0 v bc.1 rfl rfl z1 z2) q3
    obtain ⟨_, h3'⟩ := RvOk.stored R1 h1 d1 h3 d3 (fun z1 z2 => n1 1 w bc.2 rfl rfl z1 z2) q3
    obtain ⟨R3, h3''⟩ := RvOk.stored R2 h2' d2 h3' d3 (fun z1 z2 => n2 0 w bc.2 rfl rfl z1 z2) q4
    have R4 := RvOk.last R3 h3'' d3 q5
    exact ⟨u, v, w, rfl, k _ H1 S1 R4 s1 (by rw [List.length_set, List.length_set, List.length_set])⟩
theorem okS_par (i j : Nat) {x y : Str} {a b : Expr} {px py pt : Pos} {kt k2 pt2} (hc : X.calm = true) (hN : X.N.Nodup) (hi : X.N[i]? = some x) (hj : X.N[j]? = some y) (hij : i ≠ j)
    (hx : X.env.scope.names.lookup x = some .local) (hy : X.env.scope.names.lookup y = some .local) (ha : OkP X [a, b] g)
    (hw : swappedStores [.Tuple [.Name x px, .Name y py] kt pt] (.Tuple [a, b] k2 pt2) X.env = pure (some [x, y]) := by rfl)
    (hs : swapsWithSole [.Tuple [.Name x px, .Name y py] kt pt] (.Tuple [a, b] k2 pt2) pos.line X.env = pure false := by rfl) :
    OkS X (.Assign [.Tuple [.Name x px, .Name y py] kt pt] (.Tuple [a, b] k2 pt2) pos) (sPar i j g) := ps_imp (ps_par hc hN hi hj hij hx hy ha hw hs) rd_par
theorem okS_par3 (i j l : Nat) {x y z : Str} {a b c : Expr} {px py pz pt : Pos} {kt k2 pt2} (hc : X.calm = true) (hN : X.N.Nodup) (hi : X.N[i]? = some x) (hj : X.N[j]? = some y) (hl : X.N[l]? = some z) (hij : i ≠ j) (hil : i ≠ l) (hjl : j ≠ l)
    (h : ∀ ta, PA X [a, b, c] ta → PS X (.Assign [.Tuple [.Name x px, .Name y py, .Name z pz] kt pt] (.Tuple [a, b, c] k2 pt2) pos) (tPar3 i j l ta)) (ha : OkP X [a, b, c] g) :
    OkS X (.Assign [.Tuple [.Name x px, .Name y py, .Name z pz] kt pt] (.Tuple [a, b, c] k2 pt2) pos) (sPar3 i j l g) := ps_imp (h _ ha) rd_par3
end
end DL
/-! The data layer 7: what is walked. -/
namespace DL
open PySem L2 PySem.Spec PyProof.Rows

/-! ### enumerate and zip over lists and tuples in any mix -/
/-- k: a tuple; else a list -/
def IsItB (k : Bool) (h : Heap) (it a : Addr) (i : Nat) : Prop := match k with
  | true => h.IsTupleIter it a i
  | false => h.IsListIter it a i
def SqB (k : Bool) (K : PySem.W.Frag) (H : Hp) (a : Addr) (xs : List V) : Prop := match k with
  | true => SqT K H a xs
  | false => SqL K H a xs
def IsSeqB (k : Bool) (h : Heap) (a : Addr) (items : Array Value) : Prop := match k with
  | true => h.IsTuple a items
  | false => h.IsList a items
def itObjB (k : Bool) (a : Addr) : Obj := match k with
  | true => { cls := .type "tuple_iterator", data := .fields #[.ref a, .int 0 0] }
  | false => { cls := .type "list_iterator", data := .fields #[.ref a, .int 0 0] }
theorem SqB.same {k : Bool} {K : PySem.W.Frag} {H H' : Hp} {a : Addr} {xs : List V} (e : Same H H') (h : SqB k K H a xs) : SqB k K H' a xs := by
  cases k with
  | false => exact e.seq h
  | true => exact Evl.ex_t e h
theorem draws_B {prog : Program} {w : World} {A : Around} (hh : A.handled = none) (k : Bool) (it a : Addr) (hne : a ≠ it) (items : Array Value) :
    Draws prog w A it [it, a] items.size (fun i v => items[i]? = some v) (fun i h => IsItB k h it a i ∧ IsSeqB k h a items) := by
  cases k with
  | true => exact Draws.tuple hh it a hne items
  | false => exact Draws.list hh it a hne items
theorem begins_B (k : Bool) (a : Addr) (items : Array Value) : Begins (.ref a) (itObjB k a) (fun h => IsSeqB k h a items) := by
  cases k with
  | true => exact begins_tuple a items
  | false => exact begins_list a items
theorem IsItB.at {k : Bool} {h h' : Heap} {it a : Addr} {i : Nat} (x : IsItB k h it a i) (kk : ∀ o, h.get? it = some o → h'.get? it = some o) : IsItB k h' it a i := by
  cases k with
  | true => exact Heap.IsTupleIter.at x kk
  | false => exact Heap.IsListIter.at x kk
theorem IsItB.get {k : Bool} {h : Heap} {it a : Addr} {i : Nat} (x : IsItB k h it a i) : ∃ o, h.get? it = some o ∧ ∀ v, o.data ≠ .cell v := by
  cases k with
  | true =>
    obtain ⟨o, e, _, d⟩ := x
    exact ⟨o, e, fun v z => by rw [d] at z; cases z⟩
  | false =>
    obtain ⟨o, e, _, d⟩ := x
    exact ⟨o, e, fun v z => by rw [d] at z; cases z⟩
theorem IsItB.new {k : Bool} {h : Heap} {it a : Addr} (e : h.get? it = some (itObjB k a)) : IsItB k h it a 0 := by
  cases k with
  | true => exact ⟨_, e, rfl, rfl⟩
  | false => exact ⟨_, e, rfl, rfl⟩
section
variable {X : Cx} {pins : List (Addr × Obj)} {σ : L2.St} {H : Hp} {s : Shared} {a : Addr} {xs ys : List V} {k : Bool}
theorem seqB (I : Inv X pins σ H s) (h : SqB k X.K H a xs) : ∃ its : List Value, Vals xs its ∧ IsSeqB k s.heap a its.toArray ∧ a < s.heap.objs.size := by
  cases k with
  | true =>
    obtain ⟨its, rv, p, _⟩ := I.tuple h
    obtain ⟨o, ho, _⟩ := id p
    exact ⟨its, rv, p, Heap.lt_size ho⟩
  | false =>
    obtain ⟨its, rv, p, _⟩ := I.list h
    exact ⟨its, rv, p.isList, p.lt⟩
theorem seqB_inj (I : Inv X pins σ H s) (h : SqB k X.K H a xs) (h' : SqB k X.K H a ys) : xs = ys := by
  cases k with
  | true => exact I.tuple_inj h h'
  | false => exact I.list_inj h h'
end
/-- the sequence at a as it stands at each turn, its items numbered in new pairs -/
def ItEnB (k : Bool) (K : PySem.W.Frag) (a : Addr) : It where
  go i H := ∃ (xs : List V) (x : V), SqB k K H a xs ∧ xs[i]? = some x
  yld i H v H' := ∃ T x, v = .ref T ∧ H T = none ∧ H' = upd H T (.tup [.int (i : Nat), x]) ∧ ∀ xs, SqB k K H a xs → xs[i]? = some x
  stop i H := ∃ xs : List V, SqB k K H a xs ∧ xs.length = i
/-- two of them, the items in new pairs -/
def ItZpB (k k' : Bool) (K : PySem.W.Frag) (a b : Addr) : It where
  go i H := ∃ (xs ys : List V) (x y : V), SqB k K H a xs ∧ SqB k' K H b ys ∧ xs[i]? = some x ∧ ys[i]? = some y
  yld i H v H' := ∃ T x y, v = .ref T ∧ H T = none ∧ H' = upd H T (.tup [x, y]) ∧ (∀ xs, SqB k K H a xs → xs[i]? = some x) ∧ ∀ ys, SqB k' K H b ys → ys[i]? = some y
  stop i H := ∃ xs ys : List V, SqB k K H a xs ∧ SqB k' K H b ys ∧ min xs.length ys.length = i
theorem new_pair {P : Program} {w : World} {H : Hp} {h : Heap} {T : Addr} {x y : V} {u u' : Value} (ru : RelV x u) (ru' : RelV y u') (hT : h.IsTuple T #[u, u']) : ObjOk P w (upd H T (.tup [x, y])) h T (.tup [x, y]) :=
  ⟨by show 2 ≤ sizeLine; decide, [u, u'], .cons ru (.cons ru' .nil), hT⟩
theorem turn_enB {P : Program} {w : World} {K : PySem.W.Frag} {elts : List Expr} {kk : Nat} {tpos : Pos} (k : Bool) (a e it : Addr) (h1 : a ≠ it) (h2 : e ≠ a) (h3 : e ≠ it) :
    Turn P w K (.Tuple elts kk tpos) (ItEnB k K a) [e, it] e (fun i h => (∃ old, IsEnum h e it ((i : Nat) : Int) old) ∧ IsItB k h it a i) where
  mem := by simp
  obj := fun i h st b hb => by
    obtain ⟨⟨old, he⟩, hi⟩ := st
    have e' : b = e ∨ b = it := by simpa using hb
    rcases e' with z | z
    · subst z; exact ⟨_, he, fun v q => nomatch q⟩
    · subst z; exact hi.get
  keep := fun i h h' st kp => let ⟨⟨old, he⟩, hi⟩ := st; ⟨⟨old, kp e (by simp) _ he⟩, hi.at fun o q => kp it (by simp) o q⟩
  item := by
    intro X hP hw hK hc i pins s σ H E I hf st hg
    subst hP hw hK
    obtain ⟨⟨old, he⟩, hi⟩ := st
    obtain ⟨xs, x, hq, hx⟩ := hg
    obtain ⟨its, rv, p, _⟩ := seqB I hq
    obtain ⟨u, hu, ru⟩ := rv.get hx
    have D := draws_B (prog := X.prog) (w := X.w) (A := X.A.in1) (I.ok.hd hc) k it a h1 its.toArray
    have W := GoesN.ofWalksT (elts := elts) (k := kk) (pos := tpos) (WalksT.enumFrom 0 D e h3 (by simp [h2, h3]) (by simp))
    have st0 : (∃ old, IsEnum s.heap e it ((0 : Int) + ((i : Nat) : Int)) old) ∧ IsItB k s.heap it a i ∧ IsSeqB k s.heap a its.toArray := ⟨⟨old, by rw [Int.zero_add]; exact he⟩, hi, p⟩
    refine thn (W.goes i s _ E (by simpa using (List.getElem?_eq_some_iff.mp hu).1) st0 fun v h' tk hY st' hk htk => ?_) fun r s1 hr => hr
    obtain ⟨T, vals, rfl, hnew, ⟨t, z, hz, rfl⟩, hT⟩ := hY
    have ez : z = u := by
      have hz' : its.toArray[i]? = some z := hz
      rw [List.getElem?_toArray, hu] at hz'
      exact (Option.some.inj hz').symm
    subst ez
    have I1 : Inv X pins σ (upd H T (.tup [.int (i : Nat), x])) { s with heap := h', toks := tk } :=
      I.turnedNew (ch := [e, it]) (fun b ob hb q => hk b ob hb q) hf hnew (new_pair (x := .int (i : Nat)) ⟨t, by rw [Int.zero_add]⟩ ru hT)
    obtain ⟨⟨old', he'⟩, hi', _⟩ := st'
    refine ⟨.ref T, _, I1, rfl, ⟨T, x, rfl, I.hok.fresh hnew, rfl, fun ys hy => by rw [seqB_inj I hy hq]; exact hx⟩, ⟨⟨old', ?_⟩, hi'⟩, fun b hb => ?_⟩
    · rw [Int.zero_add] at he'; exact he'
    · have hlt : b < s.heap.objs.size := by
        have e' : b = e ∨ b = it := by simpa using hb
        rcases e' with z | z
        · subst z; exact Heap.lt_size he
        · subst z
          obtain ⟨o, ho, _⟩ := hi.get
          exact Heap.lt_size ho
      rw [upd_ne (Nat.ne_of_lt (Nat.lt_of_lt_of_le hlt hnew))]
      exact (hf b hb).1
  done := by
    intro X hP hw hK hc i pins s σ H E I hf st hg
    subst hP hw hK
    obtain ⟨⟨old, he⟩, hi⟩ := st
    obtain ⟨xs, hq, hx⟩ := hg
    obtain ⟨its, rv, p, _⟩ := seqB I hq
    have D := draws_B (prog := X.prog) (w := X.w) (A := X.A.in1) (I.ok.hd hc) k it a h1 its.toArray
    have W := GoesN.ofWalksT (elts := elts) (k := kk) (pos := tpos) (WalksT.enumFrom 0 D e h3 (by simp [h2, h3]) (by simp))
    have en : its.toArray.size = i := by rw [List.size_toArray, ← rv.length]; exact hx
    have st0 : (∃ old, IsEnum s.heap e it ((0 : Int) + ((its.toArray.size : Nat) : Int)) old) ∧ IsItB k s.heap it a its.toArray.size ∧ IsSeqB k s.heap a its.toArray := by
      rw [en]
      exact ⟨⟨old, by rw [Int.zero_add]; exact he⟩, hi, p⟩
    exact W.stops s _ E st0 fun h' tk hk htk => I.turnedL (ch := [e, it]) (fun b o hb q => hk b o hb q) hf
  self := fun A i s Q E st h => let ⟨⟨_, he⟩, _⟩ := st; wpAny_pyIter_enum he h
theorem turn_zpB {P : Program} {w : World} {K : PySem.W.Frag} {elts : List Expr} {kk : Nat} {tpos : Pos} (k k' : Bool) (a b N : Addr) (ha : a < N) (hb : b < N) :
    Turn P w K (.Tuple elts kk tpos) (ItZpB k k' K a b) [N + 4, N + 2, N + 3, N, N + 1] (N + 4) (fun i h => IsZip h (N + 4) (N + 2) (N + 3) .none ∧ IsTupOf2 h (N + 2) (.ref N) (.ref (N + 1)) ∧ (∃ x y, IsTupOf2 h (N + 3) x y) ∧ IsItB k h N a i ∧ IsItB k' h (N + 1) b i) where
  mem := by simp
  obj := fun i h st c hc => by
    obtain ⟨hz, hTI, ⟨x, y, hTO⟩, h1, h2⟩ := st
    have e' : c = N + 4 ∨ c = N + 2 ∨ c = N + 3 ∨ c = N ∨ c = N + 1 := by simpa using hc
    rcases e' with q | q | q | q | q
    · rw [q]; exact ⟨_, hz, fun v q => nomatch q⟩
    · rw [q]; exact ⟨_, hTI, fun v q => nomatch q⟩
    · rw [q]; exact ⟨_, hTO, fun v q => nomatch q⟩
    · rw [q]; exact h1.get
    · rw [q]; exact h2.get
  keep := fun i h h' st kp => by
    obtain ⟨hz, hTI, ⟨x, y, hTO⟩, h1, h2⟩ := st
    exact ⟨kp _ (by simp) _ hz, kp _ (by simp) _ hTI, ⟨x, y, kp _ (by simp) _ hTO⟩, h1.at fun o q => kp _ (by simp) o q, h2.at fun o q => kp _ (by simp) o q⟩
  item := by
    intro X hP hw hK hc i pins s σ H E I hf st hg
    subst hP hw hK
    obtain ⟨hz, hTI, hTO, h1, h2⟩ := st
    obtain ⟨xs, ys, x, y, hqx, hqy, hx, hy⟩ := hg
    obtain ⟨its, rv, p, _⟩ := seqB I hqx
    obtain ⟨its2, rv2, p2, _⟩ := seqB I hqy
    obtain ⟨u, hu, ru⟩ := rv.get hx
    obtain ⟨u2, hu2, ru2⟩ := rv2.get hy
    have D1 := draws_B (prog := X.prog) (w := X.w) (A := X.A.in1) (I.ok.hd hc) k N a (Nat.ne_of_lt ha) its.toArray
    have D2 := draws_B (prog := X.prog) (w := X.w) (A := X.A.in1) (I.ok.hd hc) k' (N + 1) b (Nat.ne_of_lt (Nat.lt_succ_of_lt hb)) its2.toArray
    have W := GoesN.ofWalksT (elts := elts) (k := kk) (pos := tpos) (WalksT.zipD2 (zip_sep2 (N := N) (fp1 := [a]) (fp2 := [b]) (by simpa using ha) (by simpa using hb)) D1 D2)
    have hi : i < min its.toArray.size its2.toArray.size := by
      have a1 := (List.getElem?_eq_some_iff.mp hu).1
      have a2 := (List.getElem?_eq_some_iff.mp hu2).1
      simp only [List.size_toArray]
      omega
    refine thn (W.goes i s _ E hi ⟨hz, hTI, hTO, ⟨h1, p⟩, h2, p2⟩ fun v h' tk hY st' hk htk => ?_) fun r s1 hr => hr
    obtain ⟨T, vals, rfl, hnew, ⟨z, z2, hz1, hz2, rfl⟩, hT⟩ := hY
    have ez : z = u := by
      have hz' : its.toArray[i]? = some z := hz1
      rw [List.getElem?_toArray, hu] at hz'
      exact (Option.some.inj hz').symm
    have ez2 : z2 = u2 := by
      have hz' : its2.toArray[i]? = some z2 := hz2
      rw [List.getElem?_toArray, hu2] at hz'
      exact (Option.some.inj hz').symm
    subst ez ez2
    have sub : ∀ c ∈ ([N + 4, N + 3, N, N + 1] : List Addr), c ∈ ([N + 4, N + 2, N + 3, N, N + 1] : List Addr) := by
      intro c hc
      have e' : c = N + 4 ∨ c = N + 3 ∨ c = N ∨ c = N + 1 := by simpa using hc
      rcases e' with q | q | q | q <;> rw [q] <;> simp
    have I1 : Inv X pins σ (upd H T (.tup [x, y])) { s with heap := h', toks := tk } :=
      I.turnedNew (ch := [N + 4, N + 3, N, N + 1]) (fun b ob hb q => hk b ob hb q) (fun c hc => hf c (sub c hc)) hnew (new_pair ru ru2 hT)
    obtain ⟨z1, z2, z3, ⟨z4, _⟩, z5, _⟩ := st'
    refine ⟨.ref T, _, I1, rfl, ⟨T, x, y, rfl, I.hok.fresh hnew, rfl, fun l hl => by rw [seqB_inj I hl hqx]; exact hx, fun l hl => by rw [seqB_inj I hl hqy]; exact hy⟩, ⟨z1, z2, z3, z4, z5⟩, fun c hc => ?_⟩
    have hlt : c < s.heap.objs.size := by
      have e' : c = N + 4 ∨ c = N + 2 ∨ c = N + 3 ∨ c = N ∨ c = N + 1 := by simpa using hc
      obtain ⟨_, _, g3⟩ := hTO
      obtain ⟨_, g4, _⟩ := h1.get
      obtain ⟨_, g5, _⟩ := h2.get
      rcases e' with q | q | q | q | q
      · rw [q]; exact Heap.lt_size hz
      · rw [q]; exact Heap.lt_size hTI
      · rw [q]; exact Heap.lt_size g3
      · rw [q]; exact Heap.lt_size g4
      · rw [q]; exact Heap.lt_size g5
    rw [upd_ne (Nat.ne_of_lt (Nat.lt_of_lt_of_le hlt hnew))]
    exact (hf c hc).1
  done := by
    intro X hP hw hK hc i pins s σ H E I hf st hg
    subst hP hw hK
    obtain ⟨hz, hTI, hTO, h1, h2⟩ := st
    obtain ⟨xs, ys, hqx, hqy, hend⟩ := hg
    obtain ⟨its, rv, p, _⟩ := seqB I hqx
    obtain ⟨its2, rv2, p2, _⟩ := seqB I hqy
    have D1 := draws_B (prog := X.prog) (w := X.w) (A := X.A.in1) (I.ok.hd hc) k N a (Nat.ne_of_lt ha) its.toArray
    have D2 := draws_B (prog := X.prog) (w := X.w) (A := X.A.in1) (I.ok.hd hc) k' (N + 1) b (Nat.ne_of_lt (Nat.lt_succ_of_lt hb)) its2.toArray
    have W := GoesN.ofWalksT (elts := elts) (k := kk) (pos := tpos) (WalksT.zipD2 (zip_sep2 (N := N) (fp1 := [a]) (fp2 := [b]) (by simpa using ha) (by simpa using hb)) D1 D2)
    have en : min its.toArray.size its2.toArray.size = i := by rw [List.size_toArray, List.size_toArray, ← rv.length, ← rv2.length]; exact hend
    have sub : ∀ c ∈ ([N + 4, N + 3, N, N + 1] : List Addr), c ∈ ([N + 4, N + 2, N + 3, N, N + 1] : List Addr) := by
      intro c hc
      have e' : c = N + 4 ∨ c = N + 3 ∨ c = N ∨ c = N + 1 := by simpa using hc
      rcases e' with q | q | q | q <;> rw [q] <;> simp
    refine W.stops s _ E ?_ fun h' tk hk htk => I.turnedL (ch := [N + 4, N + 3, N, N + 1]) (fun b o hb q => hk b o hb q) fun c hc => hf c (sub c hc)
    rw [en]
    exact ⟨hz, hTI, hTO, ⟨h1, p⟩, h2, p2⟩
  self := fun A i s Q E st h => wpAny_pyIter_zip st.1 h

/-- enumerate(v), v a list or a tuple: its two new cells -/
theorem meets_enumB {v : Value} {o : Obj} {H : Heap → Prop} (B : Begins v o H) : Meets (Builtin.«enumerate.__new__» ⟨[.type "enumerate", v], []⟩) (fun _ R s =>
      H s.heap ∧ R (.ok (.ret (.ref (s.heap.push o).objs.size))) { s with heap := (s.heap.push o).push { cls := .type "enumerate", data := .fields #[.none, .bool false, .ref s.heap.objs.size, rawInt 0, .none, .none] } }) :=
  .of_wp fun prog w A R s h => by
    obtain ⟨hp, g, d, tk, os⟩ := s
    obtain ⟨h1, h⟩ := h
    have hsub := sub_enumerate
    have q1 : ∀ {A' : Around} {E : Value → Shared → Prop} {Q : Value → Shared → Prop}, Q (.ref hp.objs.size) ⟨hp.push o, g, d, tk, os⟩ → wpAny (model prog w) A' (pyIter v) Q E ⟨hp, g, d, tk, os⟩ := fun q => B.iter prog w _ _ ⟨hp, g, d, tk, os⟩ _ h1 q
    wp_walk using q1
    refine wpAny_stack_any fun st => wpAny_pure ?_
    split
    · rename_i c _ _ _ _ _
      cases (c == Value.type "enumerate")
      all_goals
        wp_walk using q1
        exact ⟨_, rfl, h⟩
    · wp_walk using q1
      exact ⟨_, rfl, h⟩
theorem call_enumB {prog : Program} {w : World} {A : Around} {E : Value → Shared → Prop} {s : Shared} {v : Value} {o : Obj} {H : Heap → Prop} {Q : Value → Shared → Prop} (B : Begins v o H) (h1 : H s.heap)
    (h : ∀ h', IsEnum h' (s.heap.objs.size + 1) s.heap.objs.size 0 .none → h'.get? s.heap.objs.size = some o → (∀ b o, s.heap.get? b = some o → h'.get? b = some o) → Q (.ref (s.heap.objs.size + 1)) { s with heap := h' }) :
    wpAny (model prog w) A (call (.type "enumerate") [v]) Q E s := by
  refine callType_new F.called_enumerate (by decide) (F.typeCall_enumerate_1 _) (F.newCall_enumerate_1 _) (fun obj => F.args_object_init_2 obj _) F.entry_enumerate_new (meets_enumB B) ⟨h1, ?_⟩
  have hz : (s.heap.push o).objs.size = s.heap.objs.size + 1 := Heap.size_push ..
  rw [hz]
  have he : IsEnum ((s.heap.push o).push { cls := .type "enumerate", data := .fields #[.none, .bool false, .ref s.heap.objs.size, rawInt 0, .none, .none] }) (s.heap.objs.size + 1) s.heap.objs.size 0 .none := by
    have := Heap.get?_push_size (s.heap.push o) (o := { cls := .type "enumerate", data := .fields #[.none, .bool false, .ref s.heap.objs.size, rawInt 0, .none, .none] }) rfl
    rw [hz] at this
    exact this
  exact ⟨⟨_, he, rfl⟩, h _ he (Heap.get?_push_of_some _ (Heap.get?_push_size _ B.free)) fun b o x => Heap.get?_push_of_some _ (Heap.get?_push_of_some _ x)⟩

def iEnB (K : PySem.W.Frag) (ta : TA) : TI := fun σ H R => ta σ H fun vs H1 => ∃ (k : Bool) (a : Addr) (xs : List V), vs = [.ref a] ∧ SqB k K H1 a xs ∧ R (ItEnB k K a) H1
theorem pi_enB {X : Cx} {e : Expr} {ta : TA} {p pos tpos : Pos} {elts : List Expr} {kk : Nat} (hg : Gl X "enumerate") (hm : X.mg "enumerate" = none) (ha : PA X [e] ta) (hs : starEach [e] X.env = [(false, eval e X.env)] := by rfl) :
    PI X (.Tuple elts kk tpos) (.Call (.Name "enumerate" p) [e] [] pos) (iEnB X.K ta) := by
  refine ⟨fun pins s σ H R I h => ?_⟩
  refine Call_ (ld_blt I hg hm boot_enumerate (PyProof.Rows.callWith_type1 (thn (ha.run pos pins s σ H _ I h) fun us s1 ⟨vs, H1, I1, r1, q1⟩ => ?_) hs rfl))
  obtain ⟨k, a, xs, ex, hq, q⟩ := q1
  subst ex
  cases Vals.ref1 r1
  obtain ⟨its, rv, p', hlt⟩ := seqB I1 hq
  refine call_enumB (begins_B k a its.toArray) p' fun h' he hit hk => wpAny_pyIter_enum he ?_
  have I2 : Inv X pins σ H1 { s1 with heap := h' } := I1.kept (t' := s1.toks) hk
  refine ⟨s1.heap.objs.size + 1, [s1.heap.objs.size + 1, s1.heap.objs.size], _, _, H1, rfl, I2, turn_enB k a (s1.heap.objs.size + 1) s1.heap.objs.size (Nat.ne_of_lt hlt) (Nat.ne_of_gt (Nat.lt_succ_of_lt hlt)) (Nat.succ_ne_self _), ⟨⟨.none, he⟩, .new hit⟩, fun b hb => ?_, q⟩
  have e' : b = s1.heap.objs.size + 1 ∨ b = s1.heap.objs.size := by simpa using hb
  have hle : s1.heap.objs.size ≤ b := by
    rcases e' with z | z
    · rw [z]; exact Nat.le_add_right _ _
    · rw [z]; exact Nat.le_refl _
  exact I1.fpOk hle (I1.hok.fresh hle)
def iZpB (K : PySem.W.Frag) (ta : TA) : TI := fun σ H R => ta σ H fun vs H1 => ∃ (k k' : Bool) (a b : Addr) (xs ys : List V), vs = [.ref a, .ref b] ∧ SqB k K H1 a xs ∧ SqB k' K H1 b ys ∧ R (ItZpB k k' K a b) H1
theorem pi_zpB {X : Cx} {e e2 : Expr} {ta : TA} {p pos tpos : Pos} {elts : List Expr} {kk : Nat} (hg : Gl X "zip") (hm : X.mg "zip" = none) (ha : PA X [e, e2] ta)
    (hs : starEach [e, e2] X.env = (false, eval e X.env) :: starEach [e2] X.env := by rfl) (hpl : (backTo pos (starEach [e2] X.env)).any (·.1) = false := by rfl) : PI X (.Tuple elts kk tpos) (.Call (.Name "zip" p) [e, e2] [] pos) (iZpB X.K ta) := by
  refine ⟨fun pins s σ H R I h => ?_⟩
  refine Call_ (ld_blt I hg hm PyProof.Rows.boot_zip (PyProof.Rows.callWith_type1 (thn (ha.run pos pins s σ H _ I h) fun us s1 ⟨vs, H1, I1, r1, q1⟩ => ?_) hs hpl))
  obtain ⟨k, k', a, b, xs, ys, ex, hqx, hqy, q⟩ := q1
  subst ex
  obtain ⟨u1, u2, rfl, r1, r2⟩ := vals2 r1
  cases (show u1 = Value.ref a from r1)
  cases (show u2 = Value.ref b from r2)
  obtain ⟨its, rv, p1, hl1⟩ := seqB I1 hqx
  obtain ⟨its2, rv2, p2, hl2⟩ := seqB I1 hqy
  refine zip_begins2 (begins_B k a its.toArray) (begins_B k' b its2.toArray) p1 p2 fun h' hz hTI hTO g1 g2 hsz hk => wpAny_pyIter_zip hz ?_
  have I2 : Inv X pins σ H1 { s1 with heap := h' } := I1.kept (t' := s1.toks) hk
  refine ⟨s1.heap.objs.size + 4, _, _, _, H1, rfl, I2, turn_zpB k k' a b s1.heap.objs.size hl1 hl2, ⟨hz, hTI, ⟨_, _, hTO⟩, .new g1, .new g2⟩, fun c hc => ?_, q⟩
  have e' : c = s1.heap.objs.size + 4 ∨ c = s1.heap.objs.size + 2 ∨ c = s1.heap.objs.size + 3 ∨ c = s1.heap.objs.size ∨ c = s1.heap.objs.size + 1 := by simpa using hc
  have hle : s1.heap.objs.size ≤ c := by
    rcases e' with z | z | z | z | z
    · rw [z]; exact Nat.le_add_right _ _
    · rw [z]; exact Nat.le_add_right _ _
    · rw [z]; exact Nat.le_add_right _ _
    · rw [z]; exact Nat.le_refl _
    · rw [z]; exact Nat.le_add_right _ _
  exact I1.fpOk hle (I1.hok.fresh hle)
end DL
/-! The data layer 8: loops, comprehensions, defs. -/
namespace DL
open PySem L2

/-! ### what is walked, as data -/
abbrev IF := En → Option (List PyData × En)
structure WalkD (K : PySem.W.Frag) (J : It) (S : Hp) (ds : List PyData) : Prop where
  go : ∀ i S2 H2, Same S S2 → Same S2 H2 → i < ds.length → J.go i H2
  yl : ∀ i S2 H2 x H3, Same S S2 → Same S2 H2 → i < ds.length → J.yld i H2 x H3 → ∃ S3 d, New S2 H2 S3 H3 ∧ ds[i]? = some d ∧ Da K S3 x d
  st : ∀ S2 H2, Same S S2 → Same S2 H2 → J.stop ds.length H2
def rdI (K : PySem.W.Frag) (f : IF) : TI := fun σ H R => ∃ (t : Et) (S : Hp) (ρ : En) (ds : List PyData) (ρ' : En), Rep K t S H σ ρ ∧ f ρ = some (ds, ρ') ∧
  ∀ J H' S', Rep K t S' H' σ ρ' → Same S S' → WalkD K J S' ds → R J H'
structure OkI (X : Cx) (tg e : Expr) (f : IF) : Prop where
  run : PI X tg e (rdI X.K f)
theorem pi_imp {X : Cx} {tg e : Expr} {u u' : TI} (h : PI X tg e u) (i : ∀ σ H Q, u' σ H Q → u σ H Q) : PI X tg e u' := ⟨fun pins s σ H Q I hw => h.run pins s σ H Q I (i σ H Q hw)⟩
theorem pi_or {X : Cx} {tg e : Expr} {u u' : TI} (h : PI X tg e u) (h' : PI X tg e u') : PI X tg e (fun σ H R => u σ H R ∨ u' σ H R) := ⟨fun pins s σ H Q I hw => hw.elim (h.run pins s σ H Q I) (h'.run pins s σ H Q I)⟩
def seqD : PyData → Option (List PyData)
  | .list xs => some xs
  | .tuple xs => some xs
  | _ => none
def isTupD : PyData → Bool
  | .tuple _ => true
  | _ => false
def strItems (z : Str) : List PyData := z.cps.toList.map fun c => .str ⟨#[c]⟩
def walkedD : PyData → Option (List PyData)
  | .list xs => some xs
  | .tuple xs => some xs
  | .str z => some (strItems z)
  | _ => none
def iSeq (e : EF) : IF := fun ρ => ob (e ρ) fun r ρ1 => ob (sto ρ1 r) fun d ρ2 => ol (walkedD d) fun xs => some (xs, ρ2)
def rangeD (lo : Int) (n : Nat) : List PyData := (List.range n).map fun i => .int (lo + (i : Nat))
def downD (hi : Int) (n : Nat) : List PyData := (List.range n).map fun i => .int (hi - (i : Nat))
def isBig (i : Int) : Bool := decide (-1000000000 ≤ i) && decide (i ≤ 1000000000)
def iRange1 (e : EF) : IF := fun ρ => ob (e ρ) fun r ρ1 => ol (intR r) fun n => if isBig n = true then some (rangeD 0 n.toNat, ρ1) else none
def iRange2 (e f : EF) : IF := fun ρ => ob (e ρ) fun r ρ1 => ol (intR r) fun i => ob (f ρ1) fun r2 ρ2 => ol (intR r2) fun j => if (isBig i && isBig j) = true then some (rangeD i (j - i).toNat, ρ2) else none
/-- range(e, f, -1) -/
def iRange3 (e f : EF) : IF := fun ρ => ob (e ρ) fun r ρ1 => ol (intR r) fun i => ob (f ρ1) fun r2 ρ2 => ol (intR r2) fun j => if (isBig i && isBig j) = true then some (downD i (i - j).toNat, ρ2) else none
/-- reversed(range(e)) -/
def iRev1 (e : EF) : IF := fun ρ => ob (e ρ) fun r ρ1 => ol (intR r) fun n => if isBig n = true then some (downD (n - 1) n.toNat, ρ1) else none
def enumD : Nat → List PyData → List PyData
  | _, [] => []
  | i, d :: ds => .tuple [.int (i : Nat), d] :: enumD (i + 1) ds
def zipD : List PyData → List PyData → List PyData
  | x :: xs, y :: ys => .tuple [x, y] :: zipD xs ys
  | _, _ => []
def one1 : List PyData → Option PyData
  | [d] => some d
  | _ => none
def two2 : List PyData → Option (PyData × PyData)
  | [d, e] => some (d, e)
  | _ => none
def iEnum (as : AF) : IF := fun ρ => ob (as ρ) fun rs ρ1 => ob (stos ρ1 rs) fun ds ρ2 => ol (one1 ds) fun d => ol (seqD d) fun xs => some (enumD 0 xs, ρ2)
def iZip (as : AF) : IF := fun ρ => ob (as ρ) fun rs ρ1 => ob (stos ρ1 rs) fun ds ρ2 => ob (two2 ds) fun d e => ol (seqD d) fun xs => ol (seqD e) fun ys => some (zipD xs ys, ρ2)
section
variable {K : PySem.W.Frag}
theorem isBig_le {i : Int} (h : isBig i = true) : -1000000000 ≤ i ∧ i ≤ 1000000000 := by
  unfold isBig at h
  simpa using h
theorem walkD_seq {S : Hp} {a : Addr} {vs : List V} {ds : List PyData} {k : Bool} (ha : ∀ H, Same S H → SqB k K H a vs) (h : DaAll K S vs ds) : WalkD K (if k then Itt K a else Itl K a) S ds := by
  have hl := h.length
  cases k with
  | true =>
    refine ⟨fun i S2 H2 s1 s2 hi => ?_, fun i S2 H2 x H3 s1 s2 hi y => ?_, fun S2 H2 s1 s2 => ?_⟩
    · have q := ha H2 (s1.trans s2)
      exact ⟨vs, vs[i], q, by simp [hl, hi]⟩
    · obtain ⟨e, y⟩ := y
      subst e
      obtain ⟨d, e1, e2⟩ := h.get (y vs (ha H3 (s1.trans s2)))
      exact ⟨S2, d, New.refl s2, e1, e2.mono s1⟩
    · exact ⟨vs, ha H2 (s1.trans s2), by rw [hl]; exact Nat.le_refl _⟩
  | false =>
    refine ⟨fun i S2 H2 s1 s2 hi => ?_, fun i S2 H2 x H3 s1 s2 hi y => ?_, fun S2 H2 s1 s2 => ?_⟩
    · have q := ha H2 (s1.trans s2)
      exact ⟨vs, vs[i], q, by simp [hl, hi]⟩
    · obtain ⟨e, y⟩ := y
      subst e
      obtain ⟨d, e1, e2⟩ := h.get (y vs (ha H3 (s1.trans s2)))
      exact ⟨S2, d, New.refl s2, e1, e2.mono s1⟩
    · exact ⟨vs, ha H2 (s1.trans s2), by rw [hl]; exact Nat.le_refl _⟩
theorem walkD_str {S : Hp} {z : Str} : WalkD K (Its z) S (strItems z) := by
  have hl : (strItems z).length = z.cps.size := by simp [strItems]
  refine ⟨fun i S2 H2 s1 s2 hi => ?_, fun i S2 H2 x H3 s1 s2 hi y => ?_, fun S2 H2 s1 s2 => ?_⟩
  · rw [hl] at hi; exact hi
  · obtain ⟨e, c, h1, h2⟩ := y
    subst e h2
    refine ⟨S2, .str ⟨#[c]⟩, New.refl s2, ?_, .str _⟩
    unfold strItems
    rw [List.getElem?_map]
    have : z.cps.toList[i]? = some c := by simpa using h1
    rw [this]
    rfl
  · rw [hl]; exact Nat.le_refl _
theorem walkD_range {S : Hp} {lo : Int} {n : Nat} : WalkD K (Itr lo n) S (rangeD lo n) := by
  have hl : (rangeD lo n).length = n := by simp [rangeD]
  refine ⟨fun i S2 H2 s1 s2 hi => ?_, fun i S2 H2 x H3 s1 s2 hi y => ?_, fun S2 H2 s1 s2 => ?_⟩
  · rw [hl] at hi; exact hi
  · obtain ⟨e, y⟩ := y
    subst e y
    rw [hl] at hi
    refine ⟨S2, .int (lo + (i : Nat)), New.refl s2, ?_, .int _⟩
    unfold rangeD
    rw [List.getElem?_map, List.getElem?_range hi]
    rfl
  · rw [hl]; exact Nat.le_refl _
theorem walkD_down {S : Hp} {hi : Int} {n : Nat} : WalkD K (Itc hi (-1) n) S (downD hi n) := by
  have hl : (downD hi n).length = n := by simp [downD]
  refine ⟨fun i S2 H2 s1 s2 hi => ?_, fun i S2 H2 x H3 s1 s2 hi' y => ?_, fun S2 H2 s1 s2 => ?_⟩
  · rw [hl] at hi; exact hi
  · obtain ⟨e, y⟩ := y
    subst e y
    rw [hl] at hi'
    refine ⟨S2, .int (hi - (i : Nat)), New.refl s2, ?_, ?_⟩
    · unfold downD
      rw [List.getElem?_map, List.getElem?_range hi']
      rfl
    · have e : hi + ((i : Nat) : Int) * (-1) = hi - ((i : Nat) : Int) := by omega
      rw [e]
      exact .int _
  · rw [hl]; exact Nat.le_refl _
theorem enumD_length : ∀ (k : Nat) (ds : List PyData), (enumD k ds).length = ds.length
  | _, [] => rfl
  | k, d :: ds => by unfold enumD; rw [List.length_cons, List.length_cons, enumD_length]
theorem enumD_get : ∀ (k : Nat) (ds : List PyData) (i : Nat) (d : PyData), ds[i]? = some d → (enumD k ds)[i]? = some (.tuple [.int ((k + i : Nat) : Int), d])
  | _, [], _, _, h => by simp at h
  | k, x :: ds, 0, d, h => by
    have : x = d := by simpa using h
    subst this
    rfl
  | k, x :: ds, i + 1, d, h => by
    have := enumD_get (k + 1) ds i d (by simpa using h)
    unfold enumD
    rw [List.getElem?_cons_succ, this]
    have e : k + 1 + i = k + (i + 1) := by omega
    rw [e]
theorem zipD_length : ∀ (xs ys : List PyData), (zipD xs ys).length = min xs.length ys.length
  | [], ys => by simp [zipD]
  | x :: xs, [] => by simp [zipD]
  | x :: xs, y :: ys => by
    unfold zipD
    rw [List.length_cons, List.length_cons, List.length_cons, zipD_length]
    omega
theorem zipD_get : ∀ (xs ys : List PyData) (i : Nat) (d e : PyData), xs[i]? = some d → ys[i]? = some e → (zipD xs ys)[i]? = some (.tuple [d, e])
  | [], _, _, _, _, h, _ => by simp at h
  | _ :: _, [], _, _, _, _, h => by simp at h
  | x :: xs, y :: ys, 0, d, e, h, h' => by
    have q1 : x = d := by simpa using h
    have q2 : y = e := by simpa using h'
    subst q1 q2
    rfl
  | x :: xs, y :: ys, i + 1, d, e, h, h' => by
    unfold zipD
    rw [List.getElem?_cons_succ]
    exact zipD_get xs ys i d e (by simpa using h) (by simpa using h')
theorem pair_new {S H : Hp} {T : Addr} {x y : V} {d e : PyData} (h : Same S H) (hn : H T = none) (hx : Da K S x d) (hy : Da K S y e) : ∃ S3, New S H S3 (upd H T (.tup [x, y])) ∧ Da K S3 (.ref T) (.tuple [d, e]) := by
  have N := New.put (o := .tup [x, y]) h hn
  exact ⟨_, N, .tup upd_same (.cons (hx.mono N.ss) (.cons (hy.mono N.ss) .nil))⟩
theorem walkD_enum {S : Hp} {a : Addr} {vs : List V} {ds : List PyData} {k : Bool} (ha : ∀ H, Same S H → SqB k K H a vs) (h : DaAll K S vs ds) : WalkD K (ItEnB k K a) S (enumD 0 ds) := by
  have hl := h.length
  refine ⟨fun i S2 H2 s1 s2 hi => ?_, fun i S2 H2 x H3 s1 s2 hi y => ?_, fun S2 H2 s1 s2 => ?_⟩
  · rw [enumD_length] at hi
    exact ⟨vs, vs[i]'(by omega), ha H2 (s1.trans s2), by simp [hl, hi]⟩
  · obtain ⟨T, z, e1, e2, e3, e4⟩ := y
    subst e1 e3
    obtain ⟨d, f1, f2⟩ := h.get (e4 vs (ha H2 (s1.trans s2)))
    obtain ⟨S3, N, q⟩ := pair_new s2 e2 (.int ((i : Nat) : Int)) (f2.mono s1)
    refine ⟨S3, _, N, ?_, q⟩
    have := enumD_get 0 ds i d f1
    rw [Nat.zero_add] at this
    exact this
  · exact ⟨vs, ha H2 (s1.trans s2), by rw [enumD_length, hl]⟩
theorem walkD_zip {S : Hp} {a b : Addr} {vs us : List V} {ds es : List PyData} {k k' : Bool} (ha : ∀ H, Same S H → SqB k K H a vs) (hb : ∀ H, Same S H → SqB k' K H b us) (h : DaAll K S vs ds) (h' : DaAll K S us es) : WalkD K (ItZpB k k' K a b) S (zipD ds es) := by
  have hl := h.length
  have hl' := h'.length
  refine ⟨fun i S2 H2 s1 s2 hi => ?_, fun i S2 H2 x H3 s1 s2 hi y => ?_, fun S2 H2 s1 s2 => ?_⟩
  · rw [zipD_length] at hi
    exact ⟨vs, us, vs[i]'(by omega), us[i]'(by omega), ha H2 (s1.trans s2), hb H2 (s1.trans s2), by simp, by simp⟩
  · obtain ⟨T, z, z', e1, e2, e3, e4, e5⟩ := y
    subst e1 e3
    obtain ⟨d, f1, f2⟩ := h.get (e4 vs (ha H2 (s1.trans s2)))
    obtain ⟨d', f3, f4⟩ := h'.get (e5 us (hb H2 (s1.trans s2)))
    obtain ⟨S3, N, q⟩ := pair_new s2 e2 (f2.mono s1) (f4.mono s1)
    exact ⟨S3, _, N, zipD_get ds es i d d' f1 f3, q⟩
  · exact ⟨vs, us, ha H2 (s1.trans s2), hb H2 (s1.trans s2), by rw [zipD_length, hl, hl']⟩
theorem seq_at {S : Hp} {v : V} {d : PyData} {xs : List PyData} (h : Da K S v d) (e : seqD d = some xs) : ∃ (a : Addr) (vs : List V), v = .ref a ∧ DaAll K S vs xs ∧ ∀ H, Same S H → SqB (isTupD d) K H a vs := by
  unfold seqD at e
  split at e
  · cases e
    cases h with
    | lst h1 h2 => exact ⟨_, _, rfl, h2, fun H s => SqL.of (s _ _ h1)⟩
  · cases e
    cases h with
    | tup h1 h2 => exact ⟨_, _, rfl, h2, fun H s => SqT.of (s _ _ h1)⟩
  · cases e
end
section
variable {X : Cx} {tg e e2 : Expr} {f f2 : EF} {g : AF} {p pos tpos : Pos} {elts : List Expr} {kk : Nat}
theorem okI_seq (he : OkE X e f) : OkI X tg e (iSeq f) := ⟨pi_imp (pi_or (pi_or (pi_list he) (pi_tup he)) (pi_str he)) fun σ H Q ⟨t, S, ρ, ds, ρ', R, e, k⟩ => by
  obtain ⟨r, ρ1, q1, e⟩ := ob_some e
  obtain ⟨d, ρ2, q2, e⟩ := ob_some e
  obtain ⟨xs, q3, e⟩ := ol_some e
  cases e
  unfold walkedD at q3
  split at q3
  · cases q3
    refine .inl (.inl ⟨t, S, ρ, r, ρ1, R, q1, fun v H1 S1 R1 s1 o1 => ?_⟩)
    obtain ⟨S2, s2, R2, d2⟩ := R1.stoO o1 q2
    obtain ⟨a, vs, rfl, h1, h2⟩ := seq_at d2 rfl
    exact ⟨a, rfl, ⟨vs, h2 H1 R2.sh⟩, k _ H1 S2 R2 (s1.trans s2) (walkD_seq (k := false) h2 h1)⟩
  · cases q3
    refine .inl (.inr ⟨t, S, ρ, r, ρ1, R, q1, fun v H1 S1 R1 s1 o1 => ?_⟩)
    obtain ⟨S2, s2, R2, d2⟩ := R1.stoO o1 q2
    obtain ⟨a, vs, rfl, h1, h2⟩ := seq_at d2 rfl
    exact ⟨a, rfl, ⟨vs, h2 H1 R2.sh⟩, k _ H1 S2 R2 (s1.trans s2) (walkD_seq (k := true) h2 h1)⟩
  · cases q3
    refine .inr ⟨t, S, ρ, r, ρ1, R, q1, fun v H1 S1 R1 s1 o1 => ?_⟩
    obtain ⟨S2, s2, R2, d2⟩ := R1.stoO o1 q2
    cases (Vw.of (H := H1) d2).str
    exact ⟨_, rfl, k _ H1 S2 R2 (s1.trans s2) walkD_str⟩
  · cases q3⟩
theorem okI_range1 (hg : Gl X "range") (hm : X.mg "range" = none) (he : OkE X e f) (hs : starEach [e] X.env = [(false, eval e X.env)] := by rfl) (hs' : starEach [e] X.env = (false, eval e X.env) :: starEach [] X.env := by rfl) : OkI X tg (.Call (.Name "range" p) [e] [] pos) (iRange1 f) :=
  ⟨pi_imp (pi_range1 hg hm (pa_cons he pa_nil hs') hs) fun σ H Q ⟨t, S, ρ, ds, ρ', R, e, k⟩ => by
    obtain ⟨r, ρ1, q1, e⟩ := ob_some e
    obtain ⟨n, q2, e⟩ := ol_some e
    split at e
    · rename_i hb
      cases e
      cases intR_some q2
      obtain ⟨b1, b2⟩ := isBig_le hb
      refine ⟨t, S, ρ, _, _, R, q1, fun v H1 S1 R1 s1 o1 => ?_⟩
      cases int_of o1
      exact ⟨n, rfl, by omega, by omega, k _ H1 S1 R1 s1 walkD_range⟩
    · cases e⟩
theorem okI_range2 (hg : Gl X "range") (hm : X.mg "range" = none) (he : OkE X e f) (he2 : OkE X e2 f2) (hs : starEach [e, e2] X.env = [(false, eval e X.env), (false, eval e2 X.env)] := by rfl) (hs2 : starEach [e2] X.env = [(false, eval e2 X.env)] := by rfl)
    (hs' : starEach [e, e2] X.env = (false, eval e X.env) :: starEach [e2] X.env := by rfl) (hs2' : starEach [e2] X.env = (false, eval e2 X.env) :: starEach [] X.env := by rfl) : OkI X tg (.Call (.Name "range" p) [e, e2] [] pos) (iRange2 f f2) :=
  ⟨pi_imp (pi_range2 hg hm (pa_cons he (pa_cons he2 pa_nil hs2') hs') hs hs2) fun σ H Q ⟨t, S, ρ, ds, ρ', R, e, k⟩ => by
    obtain ⟨r, ρ1, q1, e⟩ := ob_some e
    obtain ⟨i, q2, e⟩ := ol_some e
    obtain ⟨r2, ρ2, q3, e⟩ := ob_some e
    obtain ⟨j, q4, e⟩ := ol_some e
    split at e
    · rename_i hb
      rw [Bool.and_eq_true] at hb
      cases e
      cases intR_some q2
      cases intR_some q4
      obtain ⟨b1, b2⟩ := isBig_le hb.1
      obtain ⟨b3, b4⟩ := isBig_le hb.2
      refine ⟨t, S, ρ, _, ρ1, R, q1, fun v H1 S1 R1 s1 o1 => ?_⟩
      cases int_of o1
      refine ⟨t, S1, ρ1, _, _, R1, q3, fun v H2 S2 R2 s2 o2 => ?_⟩
      cases int_of o2
      exact ⟨i, j, rfl, ⟨by omega, by omega, by omega, by omega⟩, k _ H2 S2 R2 (s1.trans s2) walkD_range⟩
    · cases e⟩
theorem okI_range3 {p2 p3 : Pos} {kc : Nat} (hg : Gl X "range") (hm : X.mg "range" = none) (he : OkE X e f) (he2 : OkE X e2 f2)
    (h : ∀ ta, PA X [e, e2, .UnaryOp .USub (.Constant (.int 1) kc p3) p2] ta → PI X tg (.Call (.Name "range" p) [e, e2, .UnaryOp .USub (.Constant (.int 1) kc p3) p2] [] pos) (iRng3 ta))
    (hs' : starEach [e, e2, .UnaryOp .USub (.Constant (.int 1) kc p3) p2] X.env = (false, eval e X.env) :: starEach [e2, .UnaryOp .USub (.Constant (.int 1) kc p3) p2] X.env := by rfl)
    (hs2' : starEach [e2, .UnaryOp .USub (.Constant (.int 1) kc p3) p2] X.env = (false, eval e2 X.env) :: starEach [.UnaryOp .USub (.Constant (.int 1) kc p3) p2] X.env := by rfl)
    (hs3' : starEach [.UnaryOp .USub (.Constant (.int 1) kc p3) p2] X.env = (false, eval (.UnaryOp .USub (.Constant (.int 1) kc p3) p2) X.env) :: starEach [] X.env := by rfl) :
    OkI X tg (.Call (.Name "range" p) [e, e2, .UnaryOp .USub (.Constant (.int 1) kc p3) p2] [] pos) (iRange3 f f2) :=
  ⟨pi_imp (h _ (pa_cons he (pa_cons he2 (pa_cons (pe_un un_neg pe_int) pa_nil hs3') hs2') hs')) fun σ H Q ⟨t, S, ρ, ds, ρ', R, e, k⟩ => by
    obtain ⟨r, ρ1, q1, e⟩ := ob_some e
    obtain ⟨i, q2, e⟩ := ol_some e
    obtain ⟨r2, ρ2, q3, e⟩ := ob_some e
    obtain ⟨j, q4, e⟩ := ol_some e
    split at e
    · rename_i hb
      rw [Bool.and_eq_true] at hb
      cases e
      cases intR_some q2
      cases intR_some q4
      obtain ⟨b1, b2⟩ := isBig_le hb.1
      obtain ⟨b3, b4⟩ := isBig_le hb.2
      refine ⟨t, S, ρ, _, ρ1, R, q1, fun v H1 S1 R1 s1 o1 => ?_⟩
      cases int_of o1
      refine ⟨t, S1, ρ1, _, _, R1, q3, fun v H2 S2 R2 s2 o2 => ?_⟩
      cases int_of o2
      exact ⟨1, rfl, i, j, -1, (i - j).toNat, rfl, RgC.neg (by omega) (by omega) (by omega) (by omega), k _ H2 S2 R2 (s1.trans s2) walkD_down⟩
    · cases e⟩
theorem okI_rev1 {q qos : Pos} (hg : Gl X "reversed") (hm : X.mg "reversed" = none) (hg2 : Gl X "range") (hm2 : X.mg "range" = none) (he : OkE X e f)
    (hs : starEach [.Call (.Name "range" q) [e] [] qos] X.env = (false, eval (.Call (.Name "range" q) [e] [] qos) X.env) :: starEach [] X.env := by rfl) (hs' : starEach [e] X.env = (false, eval e X.env) :: starEach [] X.env := by rfl) :
    OkI X tg (.Call (.Name "reversed" p) [.Call (.Name "range" q) [e] [] qos] [] pos) (iRev1 f) :=
  ⟨pi_imp (pi_revR hg hm (prg_1 hg2 hm2 he hs') hs) fun σ H Q ⟨t, S, ρ, ds, ρ', R, e, k⟩ => by
    obtain ⟨r, ρ1, q1, e⟩ := ob_some e
    obtain ⟨n, q2, e⟩ := ol_some e
    split at e
    · rename_i hb
      cases e
      cases intR_some q2
      obtain ⟨b1, b2⟩ := isBig_le hb
      refine ⟨t, S, ρ, _, _, R, q1, fun v H1 S1 R1 s1 o1 => ?_⟩
      cases int_of o1
      refine ⟨n, rfl, by omega, by omega, by omega, by omega, ?_⟩
      by_cases hn : 0 ≤ n
      · have e1 : (0 : Int) + (((n - 0).toNat : Nat) : Int) - 1 = n - 1 := by omega
        have e2 : (n - 0).toNat = n.toNat := by omega
        rw [e1, e2]
        exact k _ H1 S1 R1 s1 walkD_down
      · have e1 : (n - 0).toNat = 0 := by omega
        have e2 : n.toNat = 0 := by omega
        rw [e2] at k
        have w : WalkD X.K (Itc (0 + (((n - 0).toNat : Nat) : Int) - 1) (-1) (n - 0).toNat) S1 (downD (n - 1) 0) := by
          rw [e1]
          exact walkD_down (hi := 0 + ((0 : Nat) : Int) - 1) (n := 0)
        exact k _ H1 S1 R1 s1 w
    · cases e⟩
theorem okI_enum (hg : Gl X "enumerate") (hm : X.mg "enumerate" = none) (ha : OkA X [e] g) (hs : starEach [e] X.env = [(false, eval e X.env)] := by rfl) : OkI X (.Tuple elts kk tpos) (.Call (.Name "enumerate" p) [e] [] pos) (iEnum g) :=
  ⟨pi_imp (pi_enB hg hm ha hs) fun σ H Q ⟨t, S, ρ, ds, ρ', R, e, k⟩ => by
    obtain ⟨rs, ρ1, q1, e⟩ := ob_some e
    obtain ⟨ds', ρ2, q2, e⟩ := ob_some e
    obtain ⟨d, q3, e⟩ := ol_some e
    obtain ⟨xs, q4, e⟩ := ol_some e
    cases e
    refine ⟨t, S, ρ, rs, ρ1, R, q1, fun vs H1 S1 R1 s1 o1 => ?_⟩
    obtain ⟨S2, s2, R2, d2⟩ := R1.stos o1 q2
    unfold one1 at q3
    split at q3
    · cases q3
      cases d2 with
      | cons h1 h2 =>
        cases h2
        obtain ⟨a, us, rfl, g1, g2⟩ := seq_at h1 q4
        exact ⟨_, a, us, rfl, g2 H1 R2.sh, k _ H1 S2 R2 (s1.trans s2) (walkD_enum g2 g1)⟩
    · cases q3⟩
theorem okI_zip (hg : Gl X "zip") (hm : X.mg "zip" = none) (ha : OkA X [e, e2] g) (hs : starEach [e, e2] X.env = (false, eval e X.env) :: starEach [e2] X.env := by rfl) (hpl : (backTo pos (starEach [e2] X.env)).any (·.1) = false := by rfl) :
    OkI X (.Tuple elts kk tpos) (.Call (.Name "zip" p) [e, e2] [] pos) (iZip g) :=
  ⟨pi_imp (pi_zpB hg hm ha hs hpl) fun σ H Q ⟨t, S, ρ, ds, ρ', R, e, k⟩ => by
    obtain ⟨rs, ρ1, q1, e⟩ := ob_some e
    obtain ⟨ds', ρ2, q2, e⟩ := ob_some e
    obtain ⟨d, d', q3, e⟩ := ob_some e
    obtain ⟨xs, q4, e⟩ := ol_some e
    obtain ⟨ys, q5, e⟩ := ol_some e
    cases e
    refine ⟨t, S, ρ, rs, ρ1, R, q1, fun vs H1 S1 R1 s1 o1 => ?_⟩
    obtain ⟨S2, s2, R2, d2⟩ := R1.stos o1 q2
    unfold two2 at q3
    split at q3
    · cases q3
      cases d2 with
      | cons h1 h2 =>
        cases h2 with
        | cons h2 h3 =>
          cases h3
          obtain ⟨a, us, rfl, g1, g2⟩ := seq_at h1 q4
          obtain ⟨b, ws, rfl, g3, g4⟩ := seq_at h2 q5
          exact ⟨_, _, a, b, us, ws, rfl, g2 H1 R2.sh, g4 H1 R2.sh, k _ H1 S2 R2 (s1.trans s2) (walkD_zip g2 g4 g1 g3)⟩
    · cases q3⟩
end

/-! ### for -/
def forO (o : Out) (next : SF) : Option Out := match o with
  | .nx ρ => next ρ
  | .ct ρ => next ρ
  | .bk ρ => some (.nx ρ)
  | .rt r ρ => some (.rt r ρ)
@[simp] theorem forO_nx (ρ : En) (g : SF) : forO (.nx ρ) g = g ρ := rfl
@[simp] theorem forO_ct (ρ : En) (g : SF) : forO (.ct ρ) g = g ρ := rfl
@[simp] theorem forO_bk (ρ : En) (g : SF) : forO (.bk ρ) g = some (.nx ρ) := rfl
@[simp] theorem forO_rt (r : Rv) (ρ : En) (g : SF) : forO (.rt r ρ) g = some (.rt r ρ) := rfl
def forL (g : GF) (body : SF) : List PyData → SF
  | [], ρ => some (.nx ρ)
  | d :: ds, ρ => ol (g (.da d) ρ) fun ρ1 => ol (body ρ1) fun o => forO o (forL g body ds)
def sFor (it : IF) (g : GF) (body : SF) : SF := fun ρ => ob (it ρ) fun ds ρ1 => forL g body ds ρ1
section
variable {X : Cx} {tg e : Expr} {body : List Stmt} {fi : IF} {g : GF} {ws : List Nat} {fb : SF} {pos : Pos} {K : PySem.W.Frag}
theorem forW {J : It} {t : Et} {S0 : Hp} {ds : List PyData} {o : Out} {D : Ends} {n : Nat} (W : WalkD K J S0 ds) (k : OutOk K t S0 n D o) :
    ∀ (m i : Nat) (σ : L2.St) (H S : Hp) (ρ : En), i + m = ds.length → Rep K t S H σ ρ → Same S0 S → σ.length = n → forL g fb (ds.drop i) ρ = some o →
      (m = 0 → J.stop i H ∧ D.nx σ H) ∧ (0 < m → J.go i H ∧ ∀ x H', J.yld i H x H' → rdG K ws g x σ H' fun σ2 H2 => rdS K fb
        { D with nx := fun σ' H' => ∃ S' ρ', Rep K t S' H' σ' ρ' ∧ Same S0 S' ∧ σ'.length = n ∧ forL g fb (ds.drop (i + 1)) ρ' = some o,
                 ct := fun σ' H' => ∃ S' ρ', Rep K t S' H' σ' ρ' ∧ Same S0 S' ∧ σ'.length = n ∧ forL g fb (ds.drop (i + 1)) ρ' = some o, bk := D.nx } σ2 H2) := by
  intro m i σ H S ρ hm R ss hn e
  refine ⟨fun h0 => ?_, fun hp => ?_⟩
  · have hi : i = ds.length := by omega
    subst hi
    rw [List.drop_length] at e
    cases e
    exact ⟨W.st S H ss R.sh, k σ H S R ss hn⟩
  · have hi : i < ds.length := by omega
    refine ⟨W.go i S H ss R.sh hi, fun x H' y => ?_⟩
    obtain ⟨S3, d, N, e1, e2⟩ := W.yl i S H x H' ss R.sh hi y
    have ed : ds.drop i = d :: ds.drop (i + 1) := by
      rw [List.drop_eq_getElem_cons hi]
      congr 1
      rw [List.getElem?_eq_getElem hi] at e1
      exact Option.some.inj e1
    rw [ed] at e
    obtain ⟨ρ1, q1, e⟩ := ol_some (show ol (g (.da d) ρ) (fun ρ1 => ol (fb ρ1) fun o => forO o (forL g fb (ds.drop (i + 1)))) = some o from e)
    obtain ⟨o1, q2, e⟩ := ol_some e
    refine ⟨t, S3, ρ, .da d, ρ1, R.new N, e2, q1, fun σ2 H2 S2 R2 s2 _ l2 => ⟨t, S2, ρ1, o1, R2, q2, ?_⟩⟩
    have sx : Same S0 S2 := (ss.trans N.ss).trans s2
    have lx : σ2.length = n := l2.trans hn
    cases o1 with
    | nx ρ2 => exact fun σ' H' S' R' s' l' => ⟨S', ρ2, R', sx.trans s', l'.trans lx, e⟩
    | ct ρ2 => exact fun σ' H' S' R' s' l' => ⟨S', ρ2, R', sx.trans s', l'.trans lx, e⟩
    | bk ρ2 =>
      cases e
      exact fun σ' H' S' R' s' l' => k σ' H' S' R' (sx.trans s') (l'.trans lx)
    | rt r ρ2 =>
      cases e
      exact fun v σ' H' S' R' s' o' => k v σ' H' S' R' (sx.trans s') o'
theorem okS_for (hp : PassesOwn (model X.prog X.w) X.A X.env X.xe) (hc : X.calm = true) (hi : OkI X tg e fi) (hg : OkG X tg ws g) (hb : OkSs X body fb) (hs : ∀ x, foldedSetIterable e X.env x = pure x := by intro _; rfl) :
    OkS X (.For tg e body [] pos) (sFor fi g fb) := ps_imp (ps_for hp hc hi.run hg.run hb hs) fun D σ H ⟨t, S, ρ, o, R, e, k⟩ => by
  obtain ⟨ds, ρ1, q1, e⟩ := ob_some e
  refine ⟨t, S, ρ, ds, ρ1, R, q1, fun J H1 S1 R1 s1 W => ?_⟩
  have k1 := k.mono s1
  refine ⟨fun i m σ' H' => i + m = ds.length ∧ ∃ S' ρ', Rep X.K t S' H' σ' ρ' ∧ Same S1 S' ∧ σ'.length = σ.length ∧ forL g fb (ds.drop i) ρ' = some o, ⟨ds.length, by omega, S1, ρ1, R1, Same.refl _, rfl, e⟩, ?_⟩
  rintro i m σ' H' ⟨hm, S', ρ', R', s', l', e'⟩
  obtain ⟨w0, w1⟩ := forW (ws := ws) (D := D) W k1 m i σ' H' S' ρ' hm R' s' l' e'
  by_cases h0 : m = 0
  · exact .inl (w0 h0)
  · obtain ⟨g1, g2⟩ := w1 (by omega)
    exact .inr ⟨g1, _, fun σ2 H2 ⟨S2, ρ2, R2, s2, l2, e2⟩ => ⟨m - 1, by omega, by omega, S2, ρ2, R2, s2, l2, e2⟩, g2⟩
end

/-! ### while -/
def whileL (c : TF) (body : SF) : Nat → SF
  | 0, _ => none
  | n + 1, ρ => ob (c ρ) fun b ρ1 => if b = true then ol (body ρ1) fun o => forO o (whileL c body n) else some (.nx ρ1)
def sWhile (n : Nat) (c : TF) (body : SF) : SF := whileL c body n
section
variable {X : Cx} {c : Expr} {body : List Stmt} {fc : TF} {fb : SF} {pos : Pos}
theorem okS_while (n : Nat) (hp : PassesOwn (model X.prog X.w) X.A X.env X.xe) (hc : OkT X c fc) (hb : OkSs X body fb) : OkS X (.While c body [] pos) (sWhile n fc fb) := ps_imp (ps_while hp hc hb) fun D σ H ⟨t, S, ρ, o, R, e, k⟩ => by
  refine ⟨fun m σ' H' => ∃ S' ρ', Rep X.K t S' H' σ' ρ' ∧ Same S S' ∧ σ'.length = σ.length ∧ whileL fc fb m ρ' = some o, ⟨n, S, ρ, R, Same.refl _, rfl, e⟩, ?_⟩
  rintro m σ' H' ⟨S', ρ', R', s', l', e'⟩
  cases m with
  | zero => cases e'
  | succ m =>
    obtain ⟨b, ρ1, q1, e'⟩ := ob_some (show ob (fc ρ') (fun b ρ1 => if b = true then ol (fb ρ1) fun o => forO o (whileL fc fb m) else some (.nx ρ1)) = some o from e')
    refine ⟨t, S', ρ', b, ρ1, R', q1, fun H1 S1 R1 s1 => ?_⟩
    cases b with
    | false =>
      cases e'
      exact iteF (k σ' H1 S1 R1 (s'.trans s1) l')
    | true =>
      rw [if_pos rfl] at e'
      obtain ⟨o1, q2, e'⟩ := ol_some e'
      refine iteT ⟨fun σ2 H2 => ∃ S2 ρ2, Rep X.K t S2 H2 σ2 ρ2 ∧ Same S S2 ∧ σ2.length = σ.length ∧ whileL fc fb m ρ2 = some o, fun σ2 H2 w => ⟨m, Nat.lt_succ_self m, w⟩, t, S1, ρ1, o1, R1, q2, ?_⟩
      have sx := s'.trans s1
      cases o1 with
      | nx ρ2 => exact fun σ2 H2 S2 R2 s2 l2 => ⟨S2, ρ2, R2, sx.trans s2, l2.trans l', e'⟩
      | ct ρ2 => exact fun σ2 H2 S2 R2 s2 l2 => ⟨S2, ρ2, R2, sx.trans s2, l2.trans l', e'⟩
      | bk ρ2 =>
        cases e'
        exact fun σ2 H2 S2 R2 s2 l2 => k σ2 H2 S2 R2 (sx.trans s2) (l2.trans l')
      | rt r ρ2 =>
        cases e'
        exact fun v σ2 H2 S2 R2 s2 o2 => k v σ2 H2 S2 R2 (sx.trans s2) o2
end
end DL
/-! The data layer 9: comprehensions, defs. -/
namespace DL
open PySem L2

/-! ### slots of a comprehension's own names -/
def wipeE (ρ : En) : List Nat → En
  | [] => ρ
  | v :: vs => (wipeE ρ vs).set v .no
/-- behind it: the own names as they were, all else as it is -/
def backE (ρ0 : En) : List Nat → En → En
  | [], ρ => ρ
  | v :: vs, ρ => (backE ρ0 vs ρ).set v (ρ0.getD v .no)
def freeSl : Sl → Bool
  | .no => true
  | .da _ => true
  | _ => false
theorem wipeE_length (ρ : En) : ∀ vs, (wipeE ρ vs).length = ρ.length
  | [] => rfl
  | v :: vs => by unfold wipeE; rw [List.length_set, wipeE_length ρ vs]
theorem backE_length (ρ0 ρ : En) : ∀ vs, (backE ρ0 vs ρ).length = ρ.length
  | [] => rfl
  | v :: vs => by unfold backE; rw [List.length_set, backE_length ρ0 ρ vs]
theorem wipeE_get {ρ : En} {i : Nat} {s : Sl} : ∀ {vs : List Nat}, (wipeE ρ vs)[i]? = some s → s ≠ .no → i ∉ vs ∧ ρ[i]? = some s
  | [], h, _ => ⟨by simp, h⟩
  | v :: vs, h, hs => by
    rcases set_get h with ⟨_, e, _⟩ | ⟨h1, h2⟩
    · exact absurd e hs
    · obtain ⟨h3, h4⟩ := wipeE_get h2 hs
      exact ⟨by simp [h1, h3], h4⟩
theorem wipe_at (σ : L2.St) {i : Nat} : ∀ {vs : List Nat}, i ∉ vs → (wipe σ vs)[i]? = σ[i]?
  | [], _ => rfl
  | v :: vs, h => by
    simp only [List.mem_cons, not_or] at h
    unfold wipe
    rw [List.getElem?_set_ne (fun z => h.1 z.symm)]
    exact wipe_at σ h.2
theorem wipe_in (σ : L2.St) {i : Nat} : ∀ {vs : List Nat}, i ∈ vs → i < σ.length → (wipe σ vs)[i]? = some none
  | [], h, _ => by cases h
  | v :: vs, h, hl => by
    unfold wipe
    by_cases e : v = i
    · subst e
      rw [List.getElem?_set_self (by rw [wipe_length]; exact hl)]
    · rw [List.getElem?_set_ne e]
      rcases List.mem_cons.mp h with z | z
      · exact absurd z.symm e
      · exact wipe_in σ z hl
theorem wipe_eq {σ σ' : L2.St} {vs : List Nat} (hl : σ'.length = σ.length) (h : ∀ j, j ∉ vs → σ'[j]? = σ[j]?) : wipe σ' vs = wipe σ vs := by
  apply List.ext_getElem?
  intro i
  by_cases hi : i ∈ vs
  · by_cases hb : i < σ.length
    · rw [wipe_in σ hi hb, wipe_in σ' hi (by omega)]
    · rw [List.getElem?_eq_none (by rw [wipe_length]; omega), List.getElem?_eq_none (by rw [wipe_length]; omega)]
  · rw [wipe_at σ hi, wipe_at σ' hi, h i hi]
theorem wipe_wipe (σ : L2.St) (vs : List Nat) : wipe (wipe σ vs) vs = wipe σ vs := wipe_eq (wipe_length σ vs) fun j hj => wipe_at σ hj
section
variable {K : PySem.W.Frag} {t : Et} {S S' H H' : Hp} {σ : L2.St} {ρ ρ' : En}
theorem ls_no {s : Sl} {ds : List PyData} (h : s.ls = some ds) : s ≠ .no := fun z => by subst z; cases h
theorem Rep.wiped (R : Rep K t S H σ ρ) (vs : List Nat) : Rep K t S H (wipe σ vs) (wipeE ρ vs) := by
  refine ⟨R.sh, R.s0, R.sn, R.bh, R.ph, by rw [wipe_length, wipeE_length]; exact R.len, fun j d q => ?_, fun j s ds q1 q2 => ?_, fun j k s s' ds ds' a h q1 q2 q3 q4 z1 z2 => ?_⟩
  · obtain ⟨h1, h2⟩ := wipeE_get q (fun z => nomatch z)
    rw [wipe_at σ h1]
    exact R.dat j d h2
  · obtain ⟨h1, h2⟩ := wipeE_get q1 (ls_no q2)
    rw [wipe_at σ h1]
    exact R.own j s ds h2 q2
  · obtain ⟨h1, h2⟩ := wipeE_get q1 (ls_no q2)
    obtain ⟨h3, h4⟩ := wipeE_get q3 (ls_no q4)
    rw [wipe_at σ h1] at z1
    rw [wipe_at σ h3] at z2
    exact R.dis j k s s' ds ds' a h h2 q2 h4 q4 z1 z2
theorem backE_get {ρ0 ρ : En} {i : Nat} {s : Sl} : ∀ {vs : List Nat}, (backE ρ0 vs ρ)[i]? = some s → (i ∈ vs ∧ s = ρ0.getD i .no) ∨ (i ∉ vs ∧ ρ[i]? = some s)
  | [], h => .inr ⟨by simp, h⟩
  | v :: vs, h => by
    rcases set_get h with ⟨e1, e2, _⟩ | ⟨h1, h2⟩
    · subst e1; exact .inl ⟨by simp, e2⟩
    · rcases backE_get h2 with ⟨h3, h4⟩ | ⟨h3, h4⟩
      · exact .inl ⟨by simp [h3], h4⟩
      · exact .inr ⟨by simp [h1, h3], h4⟩
theorem Rep.back {ρ0 : En} {S0 H0 : Hp} {vs : List Nat} (R0 : Rep K t S0 H0 σ ρ0) (hf : ∀ i ∈ vs, freeSl (ρ0.getD i .no) = true) (ss : Same S0 S) (R : Rep K t S H (wipe σ vs) ρ) : Rep K t S H σ (backE ρ0 vs ρ) := by
  have nols : ∀ {i : Nat} {s : Sl} {ds : List PyData}, i ∈ vs → s = ρ0.getD i .no → s.ls = some ds → False := fun {i s ds} hi e h => by
    have := hf i hi
    rw [← e] at this
    cases s with
    | no => cases h
    | da _ => cases h
    | ow _ => cases this
    | pa _ => cases this
  refine ⟨R.sh, R.s0, R.sn, R.bh, R.ph, ?_, fun j d q => ?_, fun j s ds q1 q2 => ?_, fun j k s s' ds ds' a h q1 q2 q3 q4 z1 z2 => ?_⟩
  · rw [backE_length]
    have := R.len
    rw [wipe_length] at this
    exact this
  · rcases backE_get q with ⟨h1, h2⟩ | ⟨h1, h2⟩
    · have hq : ρ0[j]? = some (.da d) := by
        rw [List.getD_eq_getElem?_getD] at h2
        cases e : ρ0[j]? with
        | none => rw [e] at h2; cases h2
        | some s => rw [e] at h2; exact congrArg some h2.symm
      obtain ⟨v, z1, z2⟩ := R0.dat j d hq
      exact ⟨v, z1, z2.mono ss⟩
    · obtain ⟨v, z1, z2⟩ := R.dat j d h2
      rw [wipe_at σ h1] at z1
      exact ⟨v, z1, z2⟩
  · rcases backE_get q1 with ⟨h1, h2⟩ | ⟨h1, h2⟩
    · exact (nols h1 h2 q2).elim
    · have := R.own j s ds h2 q2
      rw [wipe_at σ h1] at this
      exact this
  · rcases backE_get q1 with ⟨h1, h2⟩ | ⟨h1, h2⟩
    · exact (nols h1 h2 q2).elim
    · rcases backE_get q3 with ⟨h3, h4⟩ | ⟨h3, h4⟩
      · exact (nols h3 h4 q4).elim
      · exact R.dis j k s s' ds ds' a h h2 q2 h4 q4 (by rw [wipe_at σ h1]; exact z1) (by rw [wipe_at σ h3]; exact z2)
end

/-! ### [e for target in iter if t] -/
structure OkTs (X : Cx) (ifs : List Expr) (f : TF) : Prop where
  run : PTs X ifs (rdT X.K f)
def tYesF : TF := fun ρ => some (true, ρ)
theorem pts_imp {X : Cx} {e : List Expr} {u u' : TT} (h : PTs X e u) (i : ∀ σ H Q, u' σ H Q → u σ H Q) : PTs X e u' := ⟨fun pins s σ H Q I hw => h.run pins s σ H Q I (i σ H Q hw)⟩
theorem okTs_nil {X : Cx} : OkTs X [] tYesF := ⟨pts_imp pts_nil fun σ H Q ⟨t, S, ρ, r, ρ', R, e, k⟩ => by
  cases e
  exact k H S R (Same.refl _)⟩
theorem okTs_one {X : Cx} {c : Expr} {f : TF} (h : OkT X c f) : OkTs X [c] f := ⟨pts_one h⟩
def lcL (g : GF) (ts : TF) (e : EF) (vs : List Nat) : List PyData → En → List PyData → Option (List PyData × En)
  | [], ρ, acc => some (acc, ρ)
  | d :: ds, ρ, acc => ol (g (.da d) ρ) fun ρ1 => ob (ts ρ1) fun b ρ2 => if b = true then ob (e ρ2) fun x ρ3 => ob (sto ρ3 x) fun y ρ4 => lcL g ts e vs ds (wipeE ρ4 vs) (acc ++ [y]) else lcL g ts e vs ds (wipeE ρ2 vs) acc
def eLc (it : IF) (g : GF) (ts : TF) (e : EF) (vs : List Nat) : EF := fun ρ => ob (it ρ) fun ds ρ1 => if (decide (ds.length ≤ 16777216) && vs.all fun i => freeSl (ρ1.getD i .no)) = true then
  ob (lcL g ts e vs ds (wipeE ρ1 vs) []) fun acc ρ2 => some (.fr acc, backE ρ1 vs ρ2) else none
/-- a list that is being made: it stands by itself -/
structure Grow (K : PySem.W.Frag) (t : Et) (S H : Hp) (σ : L2.St) (ρ : En) (D : Addr) (acc : List PyData) : Prop where
  at_ : ∃ vs, H D = some (.lst vs) ∧ DaAll K S vs acc
  s : S D = none
  b : t.B D = none
  p : t.pp ≠ some D
  o : ∀ (i : Nat) (s : Sl) (ds : List PyData), ρ[i]? = some s → s.ls = some ds → σ[i]? ≠ some (some (.ref D))
section
variable {X : Cx} {K : PySem.W.Frag} {g : GF} {ws vs : List Nat} {ts : TF} {fe : EF}
theorem Grow.step {t : Et} {S H S' H' : Hp} {σ σ' : L2.St} {ρ ρ' : En} {D : Addr} {acc : List PyData} (G : Grow K t S H σ ρ D acc) (R' : Rep K (t.re S H σ ρ) S' H' σ' ρ') : Grow K t S' H' σ' ρ' D acc := by
  obtain ⟨us, h1, h2⟩ := G.at_
  have hc : cut H σ ρ D = some (.lst us) := cut_of h1 G.o
  refine ⟨⟨us, R'.bh _ _ hc, h2.mono R'.s0⟩, R'.sn D (none_ne hc) G.s, G.b, G.p, fun i s ds q1 q2 q => ?_⟩
  obtain ⟨b, vs, z1, z2, z3, z4, _⟩ := R'.own i s ds q1 q2
  rw [q] at z1
  cases z1
  have z4' : cut H σ ρ D = none := z4
  rw [hc] at z4'
  cases z4'
theorem Grow.sub {t : Et} {S H : Hp} {σ σ' : L2.St} {ρ ρ' : En} {D : Addr} {acc : List PyData} (G : Grow K t S H σ ρ D acc) (h : ∀ (i : Nat) (s : Sl) (ds : List PyData), ρ'[i]? = some s → s.ls = some ds → ∃ (s' : Sl) (ds' : List PyData), ρ[i]? = some s' ∧ s'.ls = some ds' ∧ σ[i]? = σ'[i]?) : Grow K t S H σ' ρ' D acc :=
  ⟨G.at_, G.s, G.b, G.p, fun i s ds q1 q2 q => by
    obtain ⟨s', ds', z1, z2, z3⟩ := h i s ds q1 q2
    exact G.o i s' ds' z1 z2 (z3.trans q)⟩
theorem Rep.upd_other {t : Et} {S H : Hp} {σ : L2.St} {ρ : En} {D : Addr} {o : HO} (R : Rep K t S H σ ρ) (h1 : S D = none) (h2 : t.B D = none) (h3 : t.pp ≠ some D) (h4 : ∀ (i : Nat) (s : Sl) (ds : List PyData), ρ[i]? = some s → s.ls = some ds → σ[i]? ≠ some (some (.ref D))) : Rep K t S (upd H D o) σ ρ := by
  refine ⟨fun b u e => by rw [upd_ne (ne_of_none e h1)]; exact R.sh b u e, R.s0, R.sn, fun b u e => by rw [upd_ne (ne_of_none e h2)]; exact R.bh b u e, fun a q => ?_, R.len, R.dat, fun i s ds q1 q2 => ?_, R.dis⟩
  · have : a ≠ D := fun z => by subst z; exact h3 q
    rw [upd_ne this]
    exact R.ph a q
  · obtain ⟨a, vs, e1, e2, e3⟩ := R.own i s ds q1 q2
    have : a ≠ D := fun z => by subst z; exact h4 i s ds q1 q2 e1
    exact ⟨a, vs, e1, by rw [upd_ne this]; exact e2, e3⟩
/-- the turns of a comprehension -/
theorem lcW {J : It} {t : Et} {S0 : Hp} {ds : List PyData} {res : List PyData} {ρe : En} {σ : L2.St} {D : Addr} {Q : Hp → Prop} {v : List Nat} (hw : ∀ j ∈ ws, j ∈ vs) (W : WalkD K J S0 ds) (hsz : ds.length ≤ 16777216)
    (k : ∀ H S, Rep K t S H (wipe σ vs) ρe → Same S0 S → Grow K t S H (wipe σ vs) ρe D res → Q H) :
    ∀ (m i : Nat) (H S : Hp) (ρ : En) (acc : List PyData), i + m = ds.length → acc.length ≤ i → Rep K t S H (wipe σ vs) ρ → Same S0 S → Grow K t S H (wipe σ vs) ρ D acc → lcL g ts fe vs (ds.drop i) ρ acc = some (res, ρe) →
      (m = 0 → J.stop i H ∧ Q H) ∧ (0 < m → J.go i H ∧ ∀ x H', J.yld i H x H' → rdG K ws g x (wipe σ vs) H' fun σ2 H2 => wipe σ2 vs = wipe σ vs ∧ rdT K ts σ2 H2 fun b H3 =>
        if b = true then rdE K fe σ2 H3 fun y H4 => ∃ acc', H4 D = some (.lst acc') ∧ acc'.length < sizeLine ∧
          (∃ S' ρ' acc2, acc2.length ≤ i + 1 ∧ Rep K t S' (upd H4 D (.lst (acc' ++ [y]))) (wipe σ vs) ρ' ∧ Same S0 S' ∧ Grow K t S' (upd H4 D (.lst (acc' ++ [y]))) (wipe σ vs) ρ' D acc2 ∧ lcL g ts fe vs (ds.drop (i + 1)) ρ' acc2 = some (res, ρe))
        else (∃ S' ρ' acc2, acc2.length ≤ i + 1 ∧ Rep K t S' H3 (wipe σ vs) ρ' ∧ Same S0 S' ∧ Grow K t S' H3 (wipe σ vs) ρ' D acc2 ∧ lcL g ts fe vs (ds.drop (i + 1)) ρ' acc2 = some (res, ρe))) := by
  intro m i H S ρ acc hm ha R ss G e
  refine ⟨fun h0 => ?_, fun hp => ?_⟩
  · have hi : i = ds.length := by omega
    subst hi
    rw [List.drop_length] at e
    cases e
    exact ⟨W.st S H ss R.sh, k H S R ss G⟩
  · have hi : i < ds.length := by omega
    refine ⟨W.go i S H ss R.sh hi, fun x H' y => ?_⟩
    obtain ⟨S3, d, N, e1, e2⟩ := W.yl i S H x H' ss R.sh hi y
    have ed : ds.drop i = d :: ds.drop (i + 1) := by
      rw [List.drop_eq_getElem_cons hi]
      congr 1
      rw [List.getElem?_eq_getElem hi] at e1
      exact Option.some.inj e1
    rw [ed] at e
    obtain ⟨ρ1, q1, e⟩ := ol_some (show ol (g (.da d) ρ) (fun ρ1 => ob (ts ρ1) fun b ρ2 => if b = true then ob (fe ρ2) fun x ρ3 => ob (sto ρ3 x) fun y ρ4 => lcL g ts fe vs (ds.drop (i + 1)) (wipeE ρ4 vs) (acc ++ [y]) else lcL g ts fe vs (ds.drop (i + 1)) (wipeE ρ2 vs) acc) = some (res, ρe) from e)
    obtain ⟨b, ρ2, q2, e⟩ := ob_some e
    have RN := R.new N
    have GN : Grow K t S3 H' (wipe σ vs) ρ D acc := by
      obtain ⟨us, h1, h2⟩ := G.at_
      exact ⟨⟨us, N.hh _ _ h1, h2.mono N.ss⟩, N.fr D (none_ne h1) G.s, G.b, G.p, G.o⟩
    refine ⟨t.re S3 H' (wipe σ vs) ρ, S3, ρ, .da d, ρ1, RN.base, e2, q1, fun σ2 H2 S2 R2 s2 f2 l2 => ?_⟩
    have hwp : wipe σ2 vs = wipe σ vs := by
      rw [← wipe_wipe σ vs]
      exact wipe_eq l2 fun j hj => f2 j fun z => hj (hw j z)
    refine ⟨hwp, ?_⟩
    have G2 := GN.step R2
    have R2' := RN.unbase R2
    refine ⟨t.re S2 H2 σ2 ρ1, S2, ρ1, b, ρ2, R2'.base, q2, fun H4 S4 R4 s4 => ?_⟩
    have G4 := G2.step R4
    have R4' := R2'.unbase R4
    have sx : Same S0 S4 := ((ss.trans N.ss).trans s2).trans s4
    -- what is left of the turn: the own names forgotten
    have fin : ∀ {S5 H5 : Hp} {ρ5 : En} {acc5 : List PyData}, Rep K t S5 H5 σ2 ρ5 → Grow K t S5 H5 σ2 ρ5 D acc5 → Rep K t S5 H5 (wipe σ vs) (wipeE ρ5 vs) ∧ Grow K t S5 H5 (wipe σ vs) (wipeE ρ5 vs) D acc5 := fun {S5 H5 ρ5 acc5} R5 G5 => by
      have := R5.wiped vs
      rw [hwp] at this
      refine ⟨this, G5.sub fun j s es y1 y2 => ?_⟩
      obtain ⟨h1, h2⟩ := wipeE_get y1 (ls_no y2)
      exact ⟨s, es, h2, y2, by rw [← hwp, wipe_at σ2 h1]⟩
    cases b with
    | false =>
      obtain ⟨f1, f2⟩ := fin R4' G4
      exact iteF ⟨S4, wipeE ρ2 vs, acc, by omega, f1, sx, f2, by simpa using e⟩
    | true =>
      rw [if_pos rfl] at e
      obtain ⟨z, ρ3, q3, e⟩ := ob_some e
      obtain ⟨y', ρ4, q4, e⟩ := ob_some e
      refine iteT ⟨t.re S4 H4 σ2 ρ2, S4, ρ2, z, ρ3, R4'.base, q3, fun u H5 S5 R5 s5 o5 => ?_⟩
      have G5 := G4.step R5
      have R5' := R4'.unbase R5
      have o5' := o5.unbase R4'
      -- the item becomes data; the list that is made is no such
      have key : ∃ S6, Same S5 S6 ∧ Rep K t S6 H5 σ2 ρ4 ∧ Da K S6 u y' ∧ Grow K t S6 H5 σ2 ρ4 D acc := by
        cases z with
        | da d' =>
          cases q4
          exact ⟨S5, Same.refl _, R5', o5', G5⟩
        | fr fs =>
          cases q4
          obtain ⟨a, us, rfl, h1, h2, h3, h4, h5, h6⟩ := id o5'
          have haD : D ≠ a := fun hz => by
            subst hz
            obtain ⟨_, _, ea, _, _, g3, _⟩ := o5
            cases ea
            have g3' : cut H4 σ2 ρ2 D = none := g3
            obtain ⟨us', k1, _⟩ := G4.at_
            rw [cut_of k1 G4.o] at g3'
            cases g3'
          obtain ⟨us', k1, k2⟩ := G5.at_
          exact ⟨_, same_put h2, R5'.grow h1 h2 h3 h6, .lst upd_same (h5.mono (same_put h2)), ⟨us', k1, k2.mono (same_put h2)⟩, by rw [upd_ne haD]; exact G5.s, G5.b, G5.p, G5.o⟩
        | bo j =>
          obtain ⟨s, p1, p2⟩ := ol_some q4
          have o6 : σ2[j]? = some (some u) := o5'
          cases s with
          | no => cases p2
          | pa _ => cases p2
          | da d' =>
            cases p2
            obtain ⟨w, e3, e4⟩ := R5'.dat j _ p1
            rw [o6] at e3
            cases e3
            exact ⟨S5, Same.refl _, R5', e4, G5⟩
          | ow fs =>
            cases p2
            obtain ⟨a, us, e3, e4, e5, e6, e7, e8⟩ := R5'.own j _ fs p1 rfl
            have haD : D ≠ a := fun hz => by
              subst hz
              exact G5.o j _ fs p1 rfl e3
            rw [o6] at e3
            cases e3
            have hd := R5'.drop j
            have hg : Rep K t (upd S5 a (.lst us)) H5 σ2 (ρ3.set j .no) := hd.grow e4 e5 e6 fun l s' es y1 y2 y => by
              rcases set_get y1 with ⟨rfl, rfl, _⟩ | ⟨hl, y1⟩
              · cases y2
              · exact R5'.dis l j s' _ es fs a hl y1 y2 p1 rfl y o6
            have dv : Da K (upd S5 a (.lst us)) (.ref a) (.list fs) := .lst upd_same (e7.mono (same_put e5))
            obtain ⟨us', k1, k2⟩ := G5.at_
            have hset : Rep K t (upd S5 a (.lst us)) H5 σ2 (ρ3.set j (.da (.list fs))) := by
              have := hg.setD (i := j) dv (fun es y => by
                rcases set_get y with ⟨_, y, _⟩ | ⟨h0, _⟩
                · cases y
                · exact h0 rfl)
              rw [List.set_set] at this
              have es : σ2.set j (some (V.ref a)) = σ2 := by
                apply List.ext_getElem?
                intro l
                by_cases hl : j = l
                · subst hl
                  rw [List.getElem?_set_self (List.getElem?_eq_some_iff.mp o6).1, o6]
                · rw [List.getElem?_set_ne hl]
              rw [es] at this
              exact this
            refine ⟨_, same_put e5, hset, dv, ⟨us', k1, k2.mono (same_put e5)⟩, by rw [upd_ne haD]; exact G5.s, G5.b, G5.p, fun l s' es y1 y2 => ?_⟩
            rcases set_get y1 with ⟨rfl, rfl, _⟩ | ⟨hl, y1⟩
            · cases y2
            · exact G5.o l s' es y1 y2
      obtain ⟨S6, s6, R6, d6, G6⟩ := key
      obtain ⟨us, k1, k2⟩ := G6.at_
      have k3 : us.length < sizeLine := by rw [line_eq, k2.length]; omega
      refine ⟨us, k1, k3, S6, wipeE ρ4 vs, acc ++ [y'], by rw [List.length_append, List.length_singleton]; omega, ?_⟩
      have R7 := R6.upd_other (o := .lst (us ++ [u])) G6.s G6.b G6.p G6.o
      have G7 : Grow K t S6 (upd H5 D (.lst (us ++ [u]))) σ2 ρ4 D (acc ++ [y']) := ⟨⟨_, upd_same, k2.append (.one d6)⟩, G6.s, G6.b, G6.p, G6.o⟩
      obtain ⟨f1, f2⟩ := fin R7 G7
      exact ⟨f1, (sx.trans s5).trans s6, f2, e⟩
theorem rd_lc {fi : IF} (hw : ∀ j ∈ ws, j ∈ vs) : ∀ σ H Q, rdE K (eLc fi g ts fe vs) σ H Q → tLc (rdI K fi) (rdG K ws g) (rdT K ts) (rdE K fe) vs σ H Q := fun σ H Q ⟨t, S, ρ, r, ρ', R, e, k⟩ => by
  obtain ⟨ds, ρ1, q1, e⟩ := ob_some e
  split at e
  · rename_i hc
    rw [Bool.and_eq_true, decide_eq_true_eq, List.all_eq_true] at hc
    obtain ⟨acc, ρ2, q2, e⟩ := ob_some e
    cases e
    refine ⟨t, S, ρ, ds, ρ1, R, q1, fun J H1 S1 R1 s1 W D hD => ?_⟩
    have R2 := (R1.new (New.lay (o := .lst []) R1.sh hD)).wiped vs
    have hS : S1 D = none := R1.sh.free hD
    have G : Grow K t S1 (upd H1 D (.lst [])) (wipe σ vs) (wipeE ρ1 vs) D [] := by
      refine ⟨⟨[], upd_same, .nil⟩, hS, R1.bh.free hD, fun z => R1.ph D z hD, fun i s es y1 y2 y => ?_⟩
      obtain ⟨h1, h2⟩ := wipeE_get y1 (ls_no y2)
      rw [wipe_at σ h1] at y
      obtain ⟨a, us, z1, z2, _⟩ := R1.own i s es h2 y2
      rw [y] at z1
      cases z1
      rw [hD] at z2
      cases z2
    refine ⟨fun i m H' => i + m = ds.length ∧ ∃ S' ρ' acc', acc'.length ≤ i ∧ Rep K t S' H' (wipe σ vs) ρ' ∧ Same S1 S' ∧ Grow K t S' H' (wipe σ vs) ρ' D acc' ∧ lcL g ts fe vs (ds.drop i) ρ' acc' = some (acc, ρ2),
      ⟨ds.length, by omega, S1, wipeE ρ1 vs, [], Nat.le_refl _, R2, Same.refl _, G, q2⟩, ?_⟩
    rintro i m H' ⟨hm, S', ρ', acc', ha, R', s', G', e'⟩
    obtain ⟨w0, w1⟩ := lcW (v := vs) (Q := fun H'' => Q (.ref D) H'') hw W hc.1 (fun H'' S'' R'' s'' G'' => by
      have RB := R1.back hc.2 s'' R''
      obtain ⟨us, k1, k2⟩ := G''.at_
      refine k (.ref D) H'' S'' RB (s1.trans s'') ⟨D, us, rfl, k1, G''.s, G''.b, G''.p, k2, fun j s es y1 y2 y => ?_⟩
      rcases backE_get y1 with ⟨h1, h2⟩ | ⟨h1, h2⟩
      · have := hc.2 j h1
        rw [← h2] at this
        cases s with
        | no => cases y2
        | da _ => cases y2
        | ow _ => cases this
        | pa _ => cases this
      · exact G''.o j s es h2 y2 (by rw [wipe_at σ h1]; exact y)) m i H' S' ρ' acc' hm ha R' s' G' e'
    by_cases h0 : m = 0
    · exact .inl (w0 h0)
    · obtain ⟨g1, g2⟩ := w1 (by omega)
      exact .inr ⟨g1, fun H2 => ∃ S' ρ' acc2, acc2.length ≤ i + 1 ∧ Rep K t S' H2 (wipe σ vs) ρ' ∧ Same S1 S' ∧ Grow K t S' H2 (wipe σ vs) ρ' D acc2 ∧ lcL g ts fe vs (ds.drop (i + 1)) ρ' acc2 = some (acc, ρ2),
        fun H2 ⟨S2, ρ3, acc2, l2, R3, s2, G2, e2⟩ => ⟨m - 1, by omega, by omega, S2, ρ3, acc2, l2, R3, s2, G2, e2⟩, g2⟩
  · cases e
end
section
variable {X : Cx} {elt tg iter : Expr} {ifs : List Expr} {scope : Scope} {own : List (Str × Nat)} {pos : Pos} {fi : IF} {g : GF} {ts : TF} {fe : EF} {ws : List Nat}
theorem ok_lc (hc : X.calm = true) (hN : X.N.Nodup) (hi : OkI X tg iter fi) (ok : BlkOk X.N X.env.scope scope own)
    (hg : ∀ (s : Shared) (H : Hp) (C : Addr) (cl : List (Str × Addr)) (fp : List Addr), OkG (X.blk s H scope (compEnvC scope cl C X.env) fp) tg ws g) (ht : ∀ (s : Shared) (H : Hp) (C : Addr) (cl : List (Str × Addr)) (fp : List Addr), OkTs (X.blk s H scope (compEnvC scope cl C X.env) fp) ifs ts)
    (he : ∀ (s : Shared) (H : Hp) (C : Addr) (cl : List (Str × Addr)) (fp : List Addr), OkE (X.blk s H scope (compEnvC scope cl C X.env) fp) elt fe) (hw : ∀ j ∈ ws, j ∈ own.map (·.2) := by decide) (hs : ∀ x, foldedSetIterable iter X.env x = pure x := by intro _; rfl) :
    OkE X (.ListComp elt [⟨tg, iter, ifs, 0⟩] scope pos) (eLc fi g ts fe (own.map (·.2))) :=
  pe_imp (pe_lc hc hN hi.run ok (fun s H C cl fp => (hg s H C cl fp).run) (fun s H C cl fp => (ht s H C cl fp).run) he hs) (rd_lc hw)
theorem okS_setLc {i : Nat} {y : Str} {py spos : Pos} (hc : X.calm = true) (hN : X.N.Nodup) (hy : X.N[i]? = some y) (hyl : X.env.scope.names.lookup y = some .local)
    (hsw : swapsWith (.ListComp elt [⟨tg, iter, ifs, 0⟩] scope pos) (some (.Name y py)) spos.line X.env = pure true) (hi : OkI X tg iter fi) (ok : BlkOk X.N X.env.scope scope own)
    (hg : ∀ (s : Shared) (H : Hp) (C : Addr) (cl : List (Str × Addr)) (fp : List Addr), OkG (X.blk s H scope (compEnvC scope cl C X.env) fp) tg ws g) (ht : ∀ (s : Shared) (H : Hp) (C : Addr) (cl : List (Str × Addr)) (fp : List Addr), OkTs (X.blk s H scope (compEnvC scope cl C X.env) fp) ifs ts)
    (he : ∀ (s : Shared) (H : Hp) (C : Addr) (cl : List (Str × Addr)) (fp : List Addr), OkE (X.blk s H scope (compEnvC scope cl C X.env) fp) elt fe) (hw : ∀ j ∈ ws, j ∈ own.map (·.2) := by decide) (hs : ∀ x, foldedSetIterable iter X.env x = pure x := by intro _; rfl) :
    OkS X (.Assign [.Name y py] (.ListComp elt [⟨tg, iter, ifs, 0⟩] scope pos) spos) (sAsg (eLc fi g ts fe (own.map (·.2))) (gNm i)) :=
  ps_imp (ps_setLc hc hN hy hyl hsw hi.run ok (fun s H C cl fp => (hg s H C cl fp).run) (fun s H C cl fp => (ht s H C cl fp).run) he hs) (rd_asg (rd_lc hw) (rd_gNm i))
end

/-! ### defs -/
def startE (n N : Nat) (ds : List PyData) : Option En := if ds.length = n then some (ds.map Sl.da ++ List.replicate (N - n) .no) else none
def outF : Out → Option Rv
  | .rt (.da d) _ => some (.da d)
  | .rt (.fr ds) _ => some (.fr ds)
  | .nx _ => some (.da .none)
  | _ => none
/-- the def as a function of data: n parameters, N names in all -/
def fnF (n N : Nat) (body : SF) (ds : List PyData) : Option Rv := ol (startE n N ds) fun ρ => ol (body ρ) outF
/-- .. that may change the list handed in at place j -/
def startB (j n N : Nat) (ms ds : List PyData) : Option En := if ds.length + 1 = n ∧ j < n then some ((ds.take j).map Sl.da ++ .pa ms :: (ds.drop j).map Sl.da ++ List.replicate (N - n) .no) else none
def paOf (j : Nat) (ρ : En) : Option (List PyData) := match ρ[j]? with
  | some (.pa ms) => some ms
  | _ => none
def outB (j : Nat) : Out → Option (Rv × List PyData)
  | .rt (.da d) ρ => ol (paOf j ρ) fun ms => some (.da d, ms)
  | .rt (.fr ds) ρ => ol (paOf j ρ) fun ms => some (.fr ds, ms)
  | .nx ρ => ol (paOf j ρ) fun ms => some (.da .none, ms)
  | _ => none
def fnB (j n N : Nat) (body : SF) (ms ds : List PyData) : Option (Rv × List PyData) := ol (startB j n N ms ds) fun ρ => ol (body ρ) (outB j)
section
variable {P : Program} {w : World} {K : PySem.W.Frag} {mg : Str → Option Value} {base : Heap} {x qual : Str} {st : Stmt} {f : Addr} {fd : FuncData} {N ps : List Str} {k : Nat} {body : SF}
theorem start_rep {S H : Hp} {vs : List V} {ds : List PyData} (m : Nat) (h : DaAll K S vs ds) (sh : Same S H) : Rep K ⟨H, S, none⟩ S H (vs.map some ++ List.replicate m none) (ds.map Sl.da ++ List.replicate m .no) := by
  have hl := h.length
  have at_ : ∀ {i : Nat} {s : Sl}, (ds.map Sl.da ++ List.replicate m .no)[i]? = some s → s ≠ .no → ∃ d, s = .da d ∧ ds[i]? = some d := fun {i s} e hs => by
    by_cases hi : i < ds.length
    · rw [List.getElem?_append_left (by simpa using hi), List.getElem?_map] at e
      cases q : ds[i]? with
      | none => rw [q] at e; cases e
      | some d => rw [q] at e; cases e; exact ⟨d, rfl, rfl⟩
    · rw [List.getElem?_append_right (by simpa using hi)] at e
      have := List.mem_of_getElem? e
      rw [List.mem_replicate] at this
      exact absurd this.2 hs
  refine ⟨sh, Same.refl _, fun _ _ h => h, Same.refl _, fun _ z => (nomatch z), by simp [hl], fun i d e => ?_, fun i s es e1 e2 => ?_, fun i j s s' es es' a _ e1 e2 _ _ _ _ => ?_⟩
  · obtain ⟨d', z, e'⟩ := at_ e (fun z => nomatch z)
    cases z
    obtain ⟨v, z1, z2⟩ := h.at e'
    refine ⟨v, ?_, z2⟩
    rw [List.getElem?_append_left (by rw [List.length_map]; exact (List.getElem?_eq_some_iff.mp z1).1), List.getElem?_map, z1]
    rfl
  · obtain ⟨d', z, _⟩ := at_ e1 (ls_no e2)
    subst z
    cases e2
  · obtain ⟨d', z, _⟩ := at_ e1 (ls_no e2)
    subst z
    cases e2
/-- THE RULE of a def that changes nothing -/
theorem fn_ok (F : Fun K x qual st f fd) (Sc : FnScope N ps (defScope st))
    (hbody : ∀ (cdv : Value) (A : Around) (outer : List Env) (s : Shared) (H : Hp) (E : XK), Room k (A.deeper (PyProof.Rows.envOfC qual (defScope st) s.heap.objs.size f cdv)) → OkSs (cxOf CX0 P w K mg base N qual (defScope st) f cdv A outer s H E).nox (defBody st) body) :
    FnOk P w K mg base CX0 (k + 1) f fd ps (spF K (fnF ps.length N.length body)) := by
  refine F.ok Sc (fun vs H Q E h => ?_) (fun cdv A outer s H vs Q E hr h => ⟨_, hbody cdv A outer s H E hr, ?_⟩)
  · obtain ⟨S, ds, r, _, h1, h2, _⟩ := h
    obtain ⟨ρ, e, _⟩ := ol_some h2
    unfold startE at e
    split at e
    · rename_i hl
      rw [h1.length]; exact hl
    · cases e
  · obtain ⟨S, ds, r, sh, h1, h2, q⟩ := h
    obtain ⟨ρ, e, h2⟩ := ol_some h2
    obtain ⟨o, e2, h2⟩ := ol_some h2
    unfold startE at e
    split at e
    · rename_i hl
      cases e
      have R := start_rep (N.length - ps.length) h1 sh
      have es : L2.start N vs = vs.map some ++ List.replicate (N.length - ps.length) none := by
        unfold L2.start
        rw [h1.length, hl]
      rw [es]
      refine ⟨_, S, _, o, R, e2, ?_⟩
      have fin : ∀ {S' H' : Hp} {σ' : L2.St} {ρ' : En}, Rep K ⟨H, S, none⟩ S' H' σ' ρ' → Same S S' → New S H S' H' := fun {S' H' σ' ρ'} R' s' => ⟨s', R'.bh, R'.sh, R'.sn⟩
      cases o with
      | nx ρ' =>
        cases h2
        exact fun σ' H' S' R' s' _ => q _ H' S' (fin R' s') .non
      | bk ρ' => cases h2
      | ct ρ' => cases h2
      | rt r' ρ' =>
        cases r' with
        | da d =>
          cases h2
          exact fun v σ' H' S' R' s' o' => q v H' S' (fin R' s') o'
        | fr fs =>
          cases h2
          exact fun v σ' H' S' R' s' ⟨a, us, e1, e3, e4, e5, _, e6, _⟩ => q v H' S' (fin R' s') ⟨a, us, e1, e5, e3, e4, e6⟩
        | bo i => cases h2
    · cases e
end
end DL
/-! The data layer 10: defs that change a list handed in. -/
namespace DL
open PySem L2
theorem DaAll.split {K : PySem.W.Frag} {S : Hp} : ∀ {vs : List V} {ds : List PyData} (j : Nat), DaAll K S vs ds → DaAll K S (vs.take j) (ds.take j) ∧ DaAll K S (vs.drop j) (ds.drop j) := fun j h => ⟨h.take j, h.drop j⟩
section
variable {P : Program} {w : World} {K : PySem.W.Frag} {mg : Str → Option Value} {base : Heap} {x qual : Str} {st : Stmt} {f : Addr} {fd : FuncData} {N ps : List Str} {k : Nat} {body : SF}
theorem startB_rep {S H : Hp} {a : Addr} {mv : List V} {ms : List PyData} {us ws : List V} {ds es : List PyData} (m : Nat) (sh : Same S H) (ha : H a = some (.lst mv)) (hs : S a = none) (hm : DaAll K S mv ms) (h1 : DaAll K S us ds) (h2 : DaAll K S ws es) :
    Rep K ⟨fun b => if b = a then none else H b, S, some a⟩ S H ((us ++ V.ref a :: ws).map some ++ List.replicate m none) (ds.map Sl.da ++ Sl.pa ms :: es.map Sl.da ++ List.replicate m .no) := by
  have hl1 := h1.length
  have hl2 := h2.length
  have at_ : ∀ {i : Nat} {s : Sl}, (ds.map Sl.da ++ Sl.pa ms :: es.map Sl.da ++ List.replicate m .no)[i]? = some s → s ≠ .no → (i = ds.length ∧ s = .pa ms) ∨ ∃ d v, s = .da d ∧ ((us ++ V.ref a :: ws).map some ++ List.replicate m none)[i]? = some (some v) ∧ Da K S v d := fun {i s} e hs => by
    by_cases hi : i < ds.length
    · right
      rw [List.append_assoc, List.getElem?_append_left (by simpa using hi), List.getElem?_map] at e
      cases q : ds[i]? with
      | none => rw [q] at e; cases e
      | some d =>
        rw [q] at e
        cases e
        obtain ⟨v, z1, z2⟩ := h1.at q
        refine ⟨d, v, rfl, ?_, z2⟩
        rw [List.map_append, List.append_assoc, List.getElem?_append_left (by rw [List.length_map, hl1]; exact hi), List.getElem?_map, z1]
        rfl
    · rw [List.append_assoc, List.getElem?_append_right (by simpa using hi), List.length_map] at e
      cases q : i - ds.length with
      | zero =>
        rw [q] at e
        have e' : Sl.pa ms = s := by simpa using e
        exact .inl ⟨by omega, e'.symm⟩
      | succ j =>
        right
        rw [q] at e
        have e' : (es.map Sl.da ++ List.replicate m .no)[j]? = some s := by simpa using e
        by_cases hj : j < es.length
        · rw [List.getElem?_append_left (by simpa using hj), List.getElem?_map] at e'
          cases q2 : es[j]? with
          | none => rw [q2] at e'; cases e'
          | some d =>
            rw [q2] at e'
            cases e'
            obtain ⟨v, z1, z2⟩ := h2.at q2
            refine ⟨d, v, rfl, ?_, z2⟩
            rw [List.map_append, List.append_assoc, List.getElem?_append_right (by rw [List.length_map, hl1]; omega), List.length_map, hl1, q, List.map_cons, List.cons_append, List.getElem?_cons_succ, List.getElem?_append_left (by rw [List.length_map, hl2]; exact hj), List.getElem?_map, z1]
            rfl
        · rw [List.getElem?_append_right (by simpa using hj)] at e'
          have := List.mem_of_getElem? e'
          rw [List.mem_replicate] at this
          exact absurd this.2 hs
  have atP : ((us ++ V.ref a :: ws).map some ++ List.replicate m none)[ds.length]? = some (some (.ref a)) := by
    rw [List.map_append, List.append_assoc, List.getElem?_append_right (by rw [List.length_map, hl1]; exact Nat.le_refl _), List.length_map, hl1, Nat.sub_self]
    rfl
  have own : ∀ {i : Nat} {s : Sl} {fs : List PyData}, (ds.map Sl.da ++ Sl.pa ms :: es.map Sl.da ++ List.replicate m .no)[i]? = some s → s.ls = some fs → i = ds.length ∧ s = .pa ms := fun {i s fs} e e2 => by
    rcases at_ e (ls_no e2) with h | ⟨d, v, h, _⟩
    · exact h
    · subst h; cases e2
  refine ⟨sh, Same.refl _, fun b h1 h2 => h2, fun b o e => ?_, fun b e => ?_, by simp [hl1, hl2], fun i d e => ?_, fun i s fs e1 e2 => ?_, fun i j s s' fs fs' b hij e1 e2 e3 e4 _ _ => ?_⟩
  · have e' : (if b = a then none else H b) = some o := e
    split at e'
    · cases e'
    · exact e'
  · cases e
    exact none_ne ha
  · rcases at_ e (fun z => nomatch z) with ⟨_, z⟩ | ⟨d', v, z, h3, h4⟩
    · cases z
    · cases z
      exact ⟨v, h3, h4⟩
  · obtain ⟨rfl, rfl⟩ := own e1 e2
    have e2' : some ms = some fs := e2
    cases e2'
    exact ⟨a, mv, atP, ha, hs, by simp, hm, fun _ => rfl, fun _ => rfl⟩
  · obtain ⟨z1, _⟩ := own e1 e2
    obtain ⟨z2, _⟩ := own e3 e4
    exact hij (z1.trans z2.symm)
/-- THE RULE of a def that may change the list handed in at its place j -/
theorem fnB_ok (j : Nat) (F : Fun K x qual st f fd) (Sc : FnScope N ps (defScope st))
    (hbody : ∀ (cdv : Value) (A : Around) (outer : List Env) (s : Shared) (H : Hp) (E : XK), Room k (A.deeper (PyProof.Rows.envOfC qual (defScope st) s.heap.objs.size f cdv)) → OkSs (cxOf CX0 P w K mg base N qual (defScope st) f cdv A outer s H E).nox (defBody st) body) :
    FnOk P w K mg base CX0 (k + 1) f fd ps (spB K j (fnB j ps.length N.length body)) := by
  have len : ∀ vs H Q E, spB K j (fnB j ps.length N.length body) vs H Q E → vs.length = ps.length := fun vs H Q E h => by
    obtain ⟨S, a, ms, ds, mv, r, ms', _, h1, _, _, _, h2, h3, _⟩ := h
    obtain ⟨ρ, e, _⟩ := ol_some h3
    unfold startB at e
    split at e
    · rename_i hl
      have := h2.length
      have hj : j < vs.length := (List.getElem?_eq_some_iff.mp h1).1
      rw [List.length_eraseIdx_of_lt hj] at this
      omega
    · cases e
  refine F.ok Sc len (fun cdv A outer s H vs Q E hr h => ⟨_, hbody cdv A outer s H E hr, ?_⟩)
  have hlen := len _ _ _ _ h
  obtain ⟨S, a, ms, ds, mv, r, ms', sh, h1, ha, hs, hm, h2, h3, q⟩ := h
  obtain ⟨ρ, e, h3⟩ := ol_some h3
  obtain ⟨o, e2, h3⟩ := ol_some h3
  unfold startB at e
  split at e
  · rename_i hl
    cases e
    have hj : j < vs.length := (List.getElem?_eq_some_iff.mp h1).1
    have hds : ds.length + 1 = ps.length := hl.1
    have dl := h2.length
    have ev : vs = vs.take j ++ V.ref a :: vs.drop (j + 1) := by
      rw [List.getElem?_eq_getElem hj] at h1
      rw [← Option.some.inj h1, ← List.drop_eq_getElem_cons hj, List.take_append_drop]
    have e1 : (vs.eraseIdx j).take j = vs.take j := by
      rw [List.eraseIdx_eq_take_drop_succ, List.take_append_of_le_length (by rw [List.length_take]; omega), List.take_take, Nat.min_self]
    have e3 : (vs.eraseIdx j).drop j = vs.drop (j + 1) := by
      rw [List.eraseIdx_eq_take_drop_succ, List.drop_append, List.length_take, Nat.min_eq_left (Nat.le_of_lt hj), Nat.sub_self, List.drop_zero, List.drop_eq_nil_of_le (by rw [List.length_take]; omega), List.nil_append]
    have d1 := h2.take j
    have d2 := h2.drop j
    rw [e1] at d1
    rw [e3] at d2
    have R := startB_rep (N.length - ps.length) sh ha hs hm d1 d2
    have es : L2.start N vs = (vs.take j ++ V.ref a :: vs.drop (j + 1)).map some ++ List.replicate (N.length - ps.length) none := by
      unfold L2.start
      rw [← ev, hlen]
    rw [es]
    refine ⟨_, S, _, o, R, e2, ?_⟩
    have fin : ∀ {S' H' : Hp} {σ' : L2.St} {ρ' : En} {ms2 : List PyData} {v : V} {r2 : Rv}, Rep K ⟨fun b => if b = a then none else H b, S, some a⟩ S' H' σ' ρ' → Same S S' → paOf j ρ' = some ms2 →
        (match r2 with | .da d => Da K S' v d | .fr fs => RvOk K ⟨fun b => if b = a then none else H b, S, some a⟩ S' H' σ' ρ' v (.fr fs) | .bo _ => False) → (some (r2, ms2) = some (r, ms')) → Q v H' := fun {S' H' σ' ρ' ms2 v r2} R' s' hp o' ee => by
      cases ee
      unfold paOf at hp
      split at hp
      · rename_i ms3 hq
        cases hp
        obtain ⟨a', mv', z1, z2, z3, z4, z5, z6⟩ := R'.own j _ _ hq rfl
        have ea : a' = a := by
          have := z6.mpr rfl
          exact (Option.some.inj this).symm
        subst ea
        refine q v H' S' mv' s' R'.sh (fun b hb hb2 => ?_) (fun b o hb e => R'.bh b o (by show (if b = a' then none else H b) = some o; rw [if_neg hb]; exact e)) z2 z5 ?_
        · by_cases hba : b = a'
          · subst hba; exact z3
          · refine R'.sn b ?_ hb2
            show (if b = a' then none else H b) ≠ none
            rw [if_neg hba]; exact hb
        · cases r with
          | da d => exact o'
          | bo _ => exact o'
          | fr fs =>
            obtain ⟨c, us, y1, y2, y3, y4, y5, y6, _⟩ := o'
            have hca : c ≠ a' := fun z => y5 (by rw [z])
            have y4' : (if c = a' then none else H c) = none := y4
            rw [if_neg hca] at y4'
            exact ⟨c, us, y1, y4', y2, y3, y6⟩
      · cases hp
    cases o with
    | nx ρ' =>
      obtain ⟨ms2, hp, h3⟩ := ol_some h3
      exact fun σ' H' S' R' s' _ => fin (r2 := .da .none) R' s' hp .non h3
    | bk ρ' => cases h3
    | ct ρ' => cases h3
    | rt r' ρ' =>
      cases r' with
      | da d =>
        obtain ⟨ms2, hp, h3⟩ := ol_some h3
        exact fun v σ' H' S' R' s' o' => fin (r2 := .da d) R' s' hp o' h3
      | fr fs =>
        obtain ⟨ms2, hp, h3⟩ := ol_some h3
        exact fun v σ' H' S' R' s' o' => fin (r2 := .fr fs) R' s' hp o' h3
      | bo i => cases h3
  · cases e
end
end DL
/-! The data layer 11: further operators; what a caller knows of a def. -/
namespace DL
open PySem L2
theorem hu65 {k : Nat} {A : Around} (hr : Room k A) : A.units + 65 < cLine := by have := hr.un; omega
/-- a def that a caller calls -/
structure Cal (P : Program) (w : World) (K : PySem.W.Frag) (mg : Str → Option Value) (base : Heap) (k : Nat) (x : Str) (f : Addr) (fd : FuncData) (ps : List Str) (sp : Sp) : Prop where
  c : FnOk P w K mg base CX0 k f fd ps sp
  g : mg x = some (.ref f)
  k : PySem.W.keepIn K (.ref f) = true
  b : Binds K fd ps []
section
variable {X : Cx} {pos : Pos} {K : PySem.W.Frag}
theorem ok_negC {n : Int} {j : Nat} {p pos : Pos} : OkE X (.UnaryOp .USub (.Constant (.int n) j p) pos) (eC (.int (-n))) := pe_imp (pe_un un_neg pe_int) fun σ H Q ⟨t, S, ρ, r, ρ', R, e, k⟩ => by
  cases e
  exact ⟨n, rfl, k _ H S R (Same.refl _) (.int _)⟩
end
/-- ints; a tuple, a list so many times -/
def mulU : PyData → PyData → Option Rv
  | .int i, .int j => if CMulB i j = true then some (.da (.int (i * j))) else none
  | .tuple xs, .int k => if xs ≠ [] ∧ 2 ≤ k ∧ k ≤ 1000 ∧ xs.length ≤ 1000 then some (.da (.tuple (List.replicate k.toNat xs).flatten)) else none
  | .list xs, .int k => if 0 ≤ k ∧ k ≤ 1000 ∧ xs.length ≤ 1000 then some (.fr (List.replicate k.toNat xs).flatten) else none
  | _, _ => none
abbrev rMulU (K : PySem.W.Frag) : R2 := fun x y H Q => rI CMul (fun i j => .int (i * j)) x y H Q ∨ (rRepT K x y H Q ∨ rRep x y H Q)
section
variable {K : PySem.W.Frag} {X : Cx}
theorem opMulU : OpR X (binaryOp .Mult) (rMulU X.K) := op_mul.or (op_repT.or op_rep)
theorem okMulU : OpOk K (rMulU K) mulU := fun S H x y d e res ss hx hy hf Q k => by
  unfold mulU at hf
  split at hf
  · split at hf
    · rename_i h
      cases hf
      exact .inl ⟨_, _, hx.int, hy.int, CMulB.ok h, k _ H S (New.refl ss) (.int _)⟩
    · cases hf
  · split at hf
    · rename_i h
      cases hf
      obtain ⟨a, vs, rfl, ha, da⟩ := hx.tup
      have hn : vs ≠ [] := fun z => by
        subst z
        cases da
        exact h.1 rfl
      rename_i xs kk
      refine .inr (.inl ⟨a, _, vs, rfl, hy.int, SqT.of (ss _ _ ha), hn, h.2.1, h.2.2.1, by rw [da.length]; exact h.2.2.2, fun p hp => ?_⟩)
      have N := New.put (o := .tup (List.replicate kk.toNat vs).flatten) ss hp
      exact k _ _ _ N (.tup upd_same ((da.rep _).mono N.ss))
    · cases hf
  · split at hf
    · rename_i h
      cases hf
      obtain ⟨a, vs, rfl, ha, da⟩ := hx.lst ss
      refine .inr (.inr ⟨a, _, vs, rfl, hy.int, ha, by omega, by omega, ?_, fun p hp => ?_⟩)
      · rw [line_eq, da.length]
        rename_i xs kk
        have h1 : kk.toNat ≤ 1000 := by omega
        have := Nat.mul_le_mul h.2.2 h1
        omega
      · exact k _ _ _ (New.lay ss hp) ⟨p, _, rfl, hp, upd_same, ss.free hp, da.rep _⟩
    · cases hf
  · cases hf
end
/-- xs[::-1] of a list -/
def eRevS (f : EF) : EF := fun ρ => ob (f ρ) fun r ρ1 => ol (vw ρ1 r) fun d => ol (lsD d) fun xs => some (.fr xs.reverse, ρ1)
theorem ok_revS {X : Cx} {e : Expr} {f : EF} {k : Nat} {p1 p2 p3 pos : Pos} (he : OkE X e f) : OkE X (.Subscript e (.Slice none none (some (.UnaryOp .USub (.Constant (.int 1) k p1) p2)) p3) pos) (eRevS f) :=
  pe_imp (pe_revL he) fun σ H Q ⟨t, S, ρ, r, ρ', R, e, k⟩ => by
    obtain ⟨x, ρ1, q1, e⟩ := ob_some e
    obtain ⟨d, q2, e⟩ := ol_some e
    obtain ⟨xs, q3, e⟩ := ol_some e
    cases e
    cases lsD_some q3
    refine ⟨t, S, ρ, x, _, R, q1, fun v H1 S1 R1 s1 o1 => ?_⟩
    obtain ⟨a, vs, rfl, ha, da⟩ := (R1.vwO o1 q2).lst R1.sh
    refine ⟨a, vs, rfl, SqL.of ha, fun p hp => ?_⟩
    have N := New.lay (o := .lst vs.reverse) R1.sh hp
    exact k _ _ _ (R1.new N) s1 (RO.rv (H := H1) R1 N ⟨p, _, rfl, hp, upd_same, R1.sh.free hp, da.reverse⟩)
end DL
/-! The data layer 12: loops that forget what no later turn reads. -/
namespace DL
open PySem L2
section
variable {K : PySem.W.Frag} {t : Et} {S S' H H' : Hp} {σ : L2.St} {ρ ρ' : En}
theorem Rep.drops (R : Rep K t S H σ ρ) : ∀ vs : List Nat, Rep K t S H σ (wipeE ρ vs)
  | [] => R
  | v :: vs => (R.drops vs).drop v
end
def wipeO (vs : List Nat) : Out → Out
  | .nx ρ => .nx (wipeE ρ vs)
  | .ct ρ => .ct (wipeE ρ vs)
  | .bk ρ => .bk (wipeE ρ vs)
  | .rt r ρ => .rt r ρ
@[simp] theorem wipeO_nx (vs : List Nat) (ρ : En) : wipeO vs (.nx ρ) = .nx (wipeE ρ vs) := rfl
@[simp] theorem wipeO_ct (vs : List Nat) (ρ : En) : wipeO vs (.ct ρ) = .ct (wipeE ρ vs) := rfl
@[simp] theorem wipeO_bk (vs : List Nat) (ρ : En) : wipeO vs (.bk ρ) = .bk (wipeE ρ vs) := rfl
@[simp] theorem wipeO_rt (vs : List Nat) (r : Rv) (ρ : En) : wipeO vs (.rt r ρ) = .rt r ρ := rfl
/-- a block behind which the names at vs are forgotten -/
def sFg (vs : List Nat) (f : SF) : SF := fun ρ => ol (f ρ) fun o => some (wipeO vs o)
/-- .. ahead of which -/
def sFa (vs : List Nat) (f : SF) : SF := fun ρ => f (wipeE ρ vs)
section
variable {X : Cx} {st : Stmt} {sts : List Stmt} {f : SF}
theorem rd_fg {K : PySem.W.Frag} {vs : List Nat} : ∀ D σ H, rdS K (sFg vs f) D σ H → rdS K f D σ H := fun D σ H ⟨t, S, ρ, o, R, e, k⟩ => by
  obtain ⟨o1, q, e⟩ := ol_some e
  cases e
  refine ⟨t, S, ρ, o1, R, q, ?_⟩
  cases o1 with
  | nx ρ1 => exact fun σ' H' S' R' s l => k σ' H' S' (R'.drops vs) s l
  | ct ρ1 => exact fun σ' H' S' R' s l => k σ' H' S' (R'.drops vs) s l
  | bk ρ1 => exact fun σ' H' S' R' s l => k σ' H' S' (R'.drops vs) s l
  | rt r ρ1 => exact k
theorem rd_fa {K : PySem.W.Frag} {vs : List Nat} : ∀ D σ H, rdS K (sFa vs f) D σ H → rdS K f D σ H := fun D σ H ⟨t, S, ρ, o, R, e, k⟩ => ⟨t, S, _, o, R.drops vs, e, k⟩
theorem okSs_fg (vs : List Nat) (h : OkSs X sts f) : OkSs X sts (sFg vs f) := pss_imp h rd_fg
theorem okS_fa (vs : List Nat) (h : OkS X st f) : OkS X st (sFa vs f) := ps_imp h rd_fa
end

/-! ### evaluation, for simp -/
section
variable (ρ : En)
@[simp] theorem x_eC (d : PyData) : eC d ρ = some (.da d, ρ) := rfl
@[simp] theorem x_eVar (i : Nat) : eVar i ρ = ol ρ[i]? fun s => ol (eSl i s) fun r => some (r, ρ) := rfl
@[simp] theorem eSl_da (i : Nat) (d : PyData) : eSl i (.da d) = some (.da d) := rfl
@[simp] theorem eSl_ow (i : Nat) (d : List PyData) : eSl i (.ow d) = some (.bo i) := rfl
@[simp] theorem eSl_pa (i : Nat) (d : List PyData) : eSl i (.pa d) = some (.bo i) := rfl
@[simp] theorem x_eBin (op : PyData → PyData → Option Rv) (a b : EF) : eBin op a b ρ = ob (a ρ) fun x ρ1 => ob (b ρ1) fun y ρ2 => ol (vw ρ2 (deg x)) fun d => ol (vw ρ2 y) fun e => ol (op d e) fun r => some (r, ρ2) := rfl
@[simp] theorem deg_da (d : PyData) : deg (.da d) = .da d := rfl
@[simp] theorem deg_fr (d : List PyData) : deg (.fr d) = .da (.list d) := rfl
@[simp] theorem deg_bo (i : Nat) : deg (.bo i) = .bo i := rfl
@[simp] theorem vw_da (d : PyData) : vw ρ (.da d) = some d := rfl
@[simp] theorem vw_fr (d : List PyData) : vw ρ (.fr d) = some (.list d) := rfl
@[simp] theorem vw_bo (i : Nat) : vw ρ (.bo i) = ol ρ[i]? Sl.vw := rfl
@[simp] theorem Slvw_da (d : PyData) : (Sl.da d).vw = some d := rfl
@[simp] theorem Slvw_ow (d : List PyData) : (Sl.ow d).vw = some (.list d) := rfl
@[simp] theorem Slvw_pa (d : List PyData) : (Sl.pa d).vw = some (.list d) := rfl
@[simp] theorem Slls_da (d : PyData) : (Sl.da d).ls = none := rfl
@[simp] theorem Slls_ow (d : List PyData) : (Sl.ow d).ls = some d := rfl
@[simp] theorem Slls_pa (d : List PyData) : (Sl.pa d).ls = some d := rfl
@[simp] theorem Slput_ow (d e : List PyData) : (Sl.ow d).put e = .ow e := rfl
@[simp] theorem Slput_pa (d e : List PyData) : (Sl.pa d).put e = .pa e := rfl
@[simp] theorem sto_da (d : PyData) : sto ρ (.da d) = some (d, ρ) := rfl
@[simp] theorem sto_fr (d : List PyData) : sto ρ (.fr d) = some (.list d, ρ) := rfl
@[simp] theorem sto_bo (i : Nat) : sto ρ (.bo i) = ol ρ[i]? (stoS ρ i) := rfl
@[simp] theorem stoS_da (i : Nat) (d : PyData) : stoS ρ i (.da d) = some (d, ρ) := rfl
@[simp] theorem stoS_ow (i : Nat) (ds : List PyData) : stoS ρ i (.ow ds) = some (.list ds, ρ.set i (.da (.list ds))) := rfl
@[simp] theorem stos_nil : stos ρ [] = some ([], ρ) := rfl
@[simp] theorem stos_cons (r : Rv) (rs : List Rv) : stos ρ (r :: rs) = ob (sto ρ r) fun d ρ1 => ob (stos ρ1 rs) fun ds ρ2 => some (d :: ds, ρ2) := rfl
@[simp] theorem vws_nil : vws ρ [] = some [] := rfl
@[simp] theorem vws_cons (r : Rv) (rs : List Rv) : vws ρ (r :: rs) = ol (vw ρ r) fun d => ol (vws ρ rs) fun ds => some (d :: ds) := rfl
@[simp] theorem x_tE (f : EF) : tE f ρ = ob (f ρ) fun r ρ1 => ol (toB r) fun c => some (c, ρ1) := rfl
@[simp] theorem x_tAndF (f g : TF) : tAndF f g ρ = ob (f ρ) fun c ρ1 => if c = true then g ρ1 else some (false, ρ1) := rfl
@[simp] theorem x_tOrF (f g : TF) : tOrF f g ρ = ob (f ρ) fun c ρ1 => if c = true then some (true, ρ1) else g ρ1 := rfl
@[simp] theorem x_tNotF (f : TF) : tNotF f ρ = ob (f ρ) fun c ρ1 => some (!c, ρ1) := rfl
@[simp] theorem x_eAndF (f g : EF) : eAndF f g ρ = ob (f ρ) fun r ρ1 => ol (toB r) fun c => if c = true then g ρ1 else some (.da (.bool false), ρ1) := rfl
@[simp] theorem x_eOrF (f g : EF) : eOrF f g ρ = ob (f ρ) fun r ρ1 => ol (toB r) fun c => if c = true then some (.da (.bool true), ρ1) else g ρ1 := rfl
@[simp] theorem x_eNotF (f : EF) : eNotF f ρ = ob (f ρ) fun r ρ1 => ol (toB r) fun c => some (.da (.bool (!c)), ρ1) := rfl
@[simp] theorem x_eIfF (c : TF) (f g : EF) : eIfF c f g ρ = ob (c ρ) fun b ρ1 => if b = true then f ρ1 else g ρ1 := rfl
@[simp] theorem x_eChain (op op' : PyData → PyData → Option Rv) (a b c : EF) : eChain op op' a b c ρ = ob (a ρ) fun x ρ1 => ob (b ρ1) fun y ρ2 => ol (vw ρ2 (deg x)) fun d => ol (vw ρ2 y) fun e => ol (op d e) fun r => ol (toB r) fun k =>
    if k = true then ob (c ρ2) fun z ρ3 => ol (vw ρ3 (deg y)) fun e' => ol (vw ρ3 z) fun g => ol (op' e' g) fun r => some (r, ρ3) else some (.da (.bool false), ρ2) := rfl
@[simp] theorem x_aNil : aNil ρ = some ([], ρ) := rfl
@[simp] theorem x_aCons (e : EF) (as : AF) : aCons e as ρ = ob (e ρ) fun x ρ1 => ob (as ρ1) fun xs ρ2 => some (deg x :: xs, ρ2) := rfl
@[simp] theorem x_eTup (as : AF) : eTup as ρ = ob (as ρ) fun rs ρ1 => ob (stos ρ1 rs) fun ds ρ2 => if ds.length ≤ 16777216 then some (.da (.tuple ds), ρ2) else none := rfl
@[simp] theorem x_eLst (as : AF) : eLst as ρ = ob (as ρ) fun rs ρ1 => ob (stos ρ1 rs) fun ds ρ2 => if ds.length ≤ 16777216 then some (.fr ds, ρ2) else none := rfl
@[simp] theorem x_eCb (f : List PyData → Option Rv) (as : AF) : eCb f as ρ = ob (as ρ) fun rs ρ1 => ol (vws ρ1 rs) fun ds => ol (f ds) fun r => some (r, ρ1) := rfl
@[simp] theorem x_eIsi (T : String) (f : EF) : eIsi T f ρ = ob (f ρ) fun r ρ1 => ol (vw ρ1 r) fun d => if noDict d = true then some (.da (.bool (isiD T d)), ρ1) else none := rfl
@[simp] theorem x_eCall (F : List PyData → Option Rv) (as : AF) : eCall F as ρ = ob (as ρ) fun rs ρ1 => ob (stos ρ1 rs) fun ds ρ2 => ol (F ds) fun r => some (r, ρ2) := rfl
@[simp] theorem x_eCallV (F : List PyData → Option Rv) (as : AF) : eCallV F as ρ = ob (as ρ) fun rs ρ1 => ol (vws ρ1 rs) fun ds => ol (F ds) fun r => if scalR r = true then some (r, ρ1) else none := rfl
@[simp] theorem x_eCallO (j : Nat) (F : List PyData → List PyData → Option (Rv × List PyData)) (as : AF) : eCallO j F as ρ = ob (as ρ) fun rs ρ1 => ol rs[j]? fun rj => ol (boI rj) fun i => ob (stos ρ1 (rs.eraseIdx j)) fun ds ρ2 => ol ρ2[i]? fun s => ol s.ls fun ms =>
  ob (F ms ds) fun r ms' => some (r, ρ2.set i (s.put ms')) := rfl
@[simp] theorem boI_bo (i : Nat) : boI (.bo i) = some i := rfl
@[simp] theorem x_oNo : oNo ρ = some (none, ρ) := rfl
@[simp] theorem x_oE (f : EF) : oE f ρ = ob (f ρ) fun r ρ1 => ol (intR r) fun i => some (some i, ρ1) := rfl
@[simp] theorem x_eSlice (a : EF) (lo hi : OF) : eSlice a lo hi ρ = ob (a ρ) fun x ρ1 => ob (lo ρ1) fun l ρ2 => ob (hi ρ2) fun h ρ3 => ol (vw ρ3 (deg x)) fun d => ol (slD d l h) fun r => some (r, ρ3) := rfl
@[simp] theorem x_eRevS (f : EF) : eRevS f ρ = ob (f ρ) fun r ρ1 => ol (vw ρ1 r) fun d => ol (lsD d) fun xs => some (.fr xs.reverse, ρ1) := rfl
@[simp] theorem x_eApp (i : Nat) (e : EF) : eApp i e ρ = ol ρ[i]? fun s0 => ol s0.ls fun _ => ob (e ρ) fun x ρ1 => ob (sto ρ1 x) fun d ρ2 => ol ρ2[i]? fun s => ol s.ls fun ds =>
  if ds.length < 16777216 then some (.da .none, ρ2.set i (s.put (ds ++ [d]))) else none := rfl
@[simp] theorem x_ePop0 (i : Nat) : ePop0 i ρ = ol ρ[i]? fun s => ol s.ls fun ds => ol ds[ds.length - 1]? fun d => some (.da d, ρ.set i (s.put ds.dropLast)) := rfl
@[simp] theorem x_ePop (i : Nat) (e : EF) : ePop i e ρ = ol ρ[i]? fun s0 => ol s0.ls fun _ => ob (e ρ) fun x ρ1 => ol (intR x) fun k => ol ρ1[i]? fun s => ol s.ls fun ds =>
  if -(2 ^ 63) ≤ k ∧ k < 2 ^ 63 then ol (ixN ds.length k) fun j => ol ds[j]? fun d => some (.da d, ρ1.set i (s.put (ds.eraseIdx j))) else none := rfl
@[simp] theorem x_eIndex (a b : EF) : eIndex a b ρ = ob (a ρ) fun x ρ1 => ol (vw ρ1 x) fun d0 => ol (lsD d0) fun _ => ob (b ρ1) fun y ρ2 => ol (vw ρ2 (deg x)) fun d => ol (vw ρ2 y) fun e => ol (lsD d) fun xs =>
  if (flatD e && xs.all flatD) = true then ol (xs.findIdx? fun z => PyData.eqv z e) fun j => some (.da (.int j), ρ2) else none := rfl
@[simp] theorem lsD_l (xs : List PyData) : lsD (.list xs) = some xs := rfl
@[simp] theorem x_eLc (it : IF) (g : GF) (ts : TF) (e : EF) (vs : List Nat) : eLc it g ts e vs ρ = ob (it ρ) fun ds ρ1 => if (decide (ds.length ≤ 16777216) && vs.all fun i => freeSl (ρ1.getD i .no)) = true then
  ob (lcL g ts e vs ds (wipeE ρ1 vs) []) fun acc ρ2 => some (.fr acc, backE ρ1 vs ρ2) else none := rfl
@[simp] theorem x_tYesF : tYesF ρ = some (true, ρ) := rfl
@[simp] theorem lcL_nil (g : GF) (ts : TF) (e : EF) (vs : List Nat) (acc : List PyData) : lcL g ts e vs [] ρ acc = some (acc, ρ) := rfl
theorem lcL_cons (g : GF) (ts : TF) (e : EF) (vs : List Nat) (d : PyData) (ds acc : List PyData) : lcL g ts e vs (d :: ds) ρ acc = ol (g (.da d) ρ) fun ρ1 => ob (ts ρ1) fun b ρ2 =>
  if b = true then ob (e ρ2) fun x ρ3 => ob (sto ρ3 x) fun y ρ4 => lcL g ts e vs ds (wipeE ρ4 vs) (acc ++ [y]) else lcL g ts e vs ds (wipeE ρ2 vs) acc := rfl
@[simp] theorem freeSl_no : freeSl .no = true := rfl
@[simp] theorem freeSl_da (d : PyData) : freeSl (.da d) = true := rfl
@[simp] theorem wipeE_nil : wipeE ρ [] = ρ := rfl
@[simp] theorem wipeE_cons (v : Nat) (vs : List Nat) : wipeE ρ (v :: vs) = (wipeE ρ vs).set v .no := rfl
@[simp] theorem backE_nil (ρ0 : En) : backE ρ0 [] ρ = ρ := rfl
@[simp] theorem backE_cons (ρ0 : En) (v : Nat) (vs : List Nat) : backE ρ0 (v :: vs) ρ = (backE ρ0 vs ρ).set v (ρ0.getD v .no) := rfl
@[simp] theorem x_sNil : sNil ρ = some (.nx ρ) := rfl
@[simp] theorem x_sSeq (a b : SF) : sSeq a b ρ = ol (a ρ) fun o => andThen o b := rfl
@[simp] theorem x_sDrop (e : EF) : sDrop e ρ = ob (e ρ) fun _ ρ1 => some (.nx ρ1) := rfl
@[simp] theorem x_sRet (e : EF) : sRet e ρ = ob (e ρ) fun r ρ1 => retR ρ1 r := rfl
@[simp] theorem x_sRetN : sRetN ρ = some (.rt (.da .none) ρ) := rfl
@[simp] theorem retR_da (d : PyData) : retR ρ (.da d) = some (.rt (.da d) ρ) := rfl
@[simp] theorem retR_fr (ds : List PyData) : retR ρ (.fr ds) = some (.rt (.fr ds) ρ) := rfl
@[simp] theorem retR_bo (i : Nat) : retR ρ (.bo i) = ol ρ[i]? (retS ρ i) := rfl
@[simp] theorem retS_da (i : Nat) (d : PyData) : retS ρ i (.da d) = some (.rt (.da d) ρ) := rfl
@[simp] theorem retS_ow (i : Nat) (ds : List PyData) : retS ρ i (.ow ds) = some (.rt (.fr ds) (ρ.set i .no)) := rfl
@[simp] theorem x_sIf (c : TF) (a b : SF) : sIf c a b ρ = ob (c ρ) fun k ρ1 => if k = true then a ρ1 else b ρ1 := rfl
@[simp] theorem x_sPass : sPass ρ = some (.nx ρ) := rfl
@[simp] theorem x_sBreak : sBreak ρ = some (.bk ρ) := rfl
@[simp] theorem x_sCont : sCont ρ = some (.ct ρ) := rfl
@[simp] theorem x_sAsg (e : EF) (g : GF) : sAsg e g ρ = ob (e ρ) fun r ρ1 => ol (g r ρ1) fun ρ2 => some (.nx ρ2) := rfl
@[simp] theorem gNm_da (i : Nat) (d : PyData) : gNm i (.da d) ρ = setS i ρ (.da d) := rfl
@[simp] theorem gNm_fr (i : Nat) (ds : List PyData) : gNm i (.fr ds) ρ = setS i ρ (.ow ds) := rfl
@[simp] theorem gNm_bo (i j : Nat) : gNm i (.bo j) ρ = ob (sto ρ (.bo j)) fun d ρ1 => setS i ρ1 (.da d) := rfl
@[simp] theorem gNil_nil : gNil [] ρ = some ρ := rfl
@[simp] theorem gCons_cons (g : GF) (gs : GFs) (d : PyData) (ds : List PyData) : gCons g gs (d :: ds) ρ = ol (g (.da d) ρ) fun ρ1 => gs ds ρ1 := rfl
@[simp] theorem gTup_tup (n : Nat) (gs : GFs) (ds : List PyData) : gTup n gs (.da (.tuple ds)) ρ = if ds.length = n then gs ds ρ else none := rfl
@[simp] theorem x_gSub (i : Nat) (f : EF) (r : Rv) : DL.gSub i f r ρ = ob (sto ρ r) fun d ρ0 => ol ρ0[i]? fun s0 => ol s0.ls fun _ => ob (f ρ0) fun x ρ1 => ol (intR x) fun k => ol ρ1[i]? fun s => ol s.ls fun ds => ol (ixN ds.length k) fun j => some (ρ1.set i (s.put (ds.set j d))) := rfl
@[simp] theorem x_pNil : pNil ρ = some ([], ρ) := rfl
@[simp] theorem x_pCons (e : EF) (as : AF) : pCons e as ρ = ob (e ρ) fun x ρ1 => ob (pst ρ1 x) fun y ρ2 => ob (as ρ2) fun ys ρ3 => some (y :: ys, ρ3) := rfl
@[simp] theorem pst_da (d : PyData) : pst ρ (.da d) = some (.da d, ρ) := rfl
@[simp] theorem pst_fr (ds : List PyData) : pst ρ (.fr ds) = some (.fr ds, ρ) := rfl
@[simp] theorem pst_bo (i : Nat) : pst ρ (.bo i) = ob (sto ρ (.bo i)) fun d ρ1 => some (.da d, ρ1) := rfl
@[simp] theorem x_sPar (i j : Nat) (as : AF) : sPar i j as ρ = ob (as ρ) fun rs ρ1 => ob (two? rs) fun a b => ol (gNm i a ρ1) fun ρ2 => ol (gNm j b ρ2) fun ρ3 => some (.nx ρ3) := rfl
@[simp] theorem x_sPar3 (i j l : Nat) (as : AF) : sPar3 i j l as ρ = ob (as ρ) fun rs ρ1 => ob (three? rs) fun a bc => ol (gNm i a ρ1) fun ρ2 => ol (gNm j bc.1 ρ2) fun ρ3 => ol (gNm l bc.2 ρ3) fun ρ4 => some (.nx ρ4) := rfl
@[simp] theorem two_mk (a b : Rv) : two? [a, b] = some (a, b) := rfl
@[simp] theorem three_mk (a b c : Rv) : three? [a, b, c] = some (a, (b, c)) := rfl
@[simp] theorem x_iSeq (e : EF) : iSeq e ρ = ob (e ρ) fun r ρ1 => ob (sto ρ1 r) fun d ρ2 => ol (walkedD d) fun xs => some (xs, ρ2) := rfl
@[simp] theorem walkedD_l (xs : List PyData) : walkedD (.list xs) = some xs := rfl
@[simp] theorem walkedD_t (xs : List PyData) : walkedD (.tuple xs) = some xs := rfl
@[simp] theorem walkedD_s (z : Str) : walkedD (.str z) = some (strItems z) := rfl
@[simp] theorem seqD_l (xs : List PyData) : seqD (.list xs) = some xs := rfl
@[simp] theorem seqD_t (xs : List PyData) : seqD (.tuple xs) = some xs := rfl
@[simp] theorem x_iRange1 (e : EF) : iRange1 e ρ = ob (e ρ) fun r ρ1 => ol (intR r) fun n => if isBig n = true then some (rangeD 0 n.toNat, ρ1) else none := rfl
@[simp] theorem x_iRange2 (e f : EF) : iRange2 e f ρ = ob (e ρ) fun r ρ1 => ol (intR r) fun i => ob (f ρ1) fun r2 ρ2 => ol (intR r2) fun j => if (isBig i && isBig j) = true then some (rangeD i (j - i).toNat, ρ2) else none := rfl
@[simp] theorem x_iRange3 (e f : EF) : iRange3 e f ρ = ob (e ρ) fun r ρ1 => ol (intR r) fun i => ob (f ρ1) fun r2 ρ2 => ol (intR r2) fun j => if (isBig i && isBig j) = true then some (downD i (i - j).toNat, ρ2) else none := rfl
@[simp] theorem x_iRev1 (e : EF) : iRev1 e ρ = ob (e ρ) fun r ρ1 => ol (intR r) fun n => if isBig n = true then some (downD (n - 1) n.toNat, ρ1) else none := rfl
@[simp] theorem x_iEnum (as : AF) : iEnum as ρ = ob (as ρ) fun rs ρ1 => ob (stos ρ1 rs) fun ds ρ2 => ol (one1 ds) fun d => ol (seqD d) fun xs => some (enumD 0 xs, ρ2) := rfl
@[simp] theorem x_iZip (as : AF) : iZip as ρ = ob (as ρ) fun rs ρ1 => ob (stos ρ1 rs) fun ds ρ2 => ob (two2 ds) fun d e => ol (seqD d) fun xs => ol (seqD e) fun ys => some (zipD xs ys, ρ2) := rfl
@[simp] theorem one1_mk (d : PyData) : one1 [d] = some d := rfl
@[simp] theorem two2_mk (d e : PyData) : two2 [d, e] = some (d, e) := rfl
@[simp] theorem x_sFor (it : IF) (g : GF) (body : SF) : sFor it g body ρ = ob (it ρ) fun ds ρ1 => forL g body ds ρ1 := rfl
@[simp] theorem forL_nil (g : GF) (body : SF) : forL g body [] ρ = some (.nx ρ) := rfl
theorem forL_cons (g : GF) (body : SF) (d : PyData) (ds : List PyData) : forL g body (d :: ds) ρ = ol (g (.da d) ρ) fun ρ1 => ol (body ρ1) fun o => forO o (forL g body ds) := rfl
@[simp] theorem x_sWhile (n : Nat) (c : TF) (body : SF) : sWhile n c body ρ = whileL c body n ρ := rfl
theorem whileL_succ (c : TF) (body : SF) (n : Nat) : whileL c body (n + 1) ρ = ob (c ρ) fun b ρ1 => if b = true then ol (body ρ1) fun o => forO o (whileL c body n) else some (.nx ρ1) := rfl
@[simp] theorem x_sFg (vs : List Nat) (f : SF) : sFg vs f ρ = ol (f ρ) fun o => some (wipeO vs o) := rfl
@[simp] theorem x_sFa (vs : List Nat) (f : SF) : sFa vs f ρ = f (wipeE ρ vs) := rfl
end
theorem setS_eq {ρ : En} {i : Nat} {s x : Sl} (h : ρ[i]? = some s) (hp : s.ls = none ∨ ∃ ds, s = .ow ds) : setS i ρ x = some (ρ.set i x) := by
  unfold setS
  rw [h]
  rcases hp with hp | ⟨ds, rfl⟩
  · cases s with
    | pa _ => cases hp
    | _ => rfl
  · rfl
section
variable {i j : Int} {a b : List PyData} {p q : Bool} {x y : Str}
@[simp] theorem addD_ii : addD (.int i) (.int j) = some (.da (.int (i + j))) := rfl
@[simp] theorem addD_ss : addD (.str x) (.str y) = if x.length + y.length ≤ 16777216 then some (.da (.str (x ++ y))) else none := rfl
@[simp] theorem addD_tt : addD (.tuple a) (.tuple b) = if a.length + b.length ≤ 16777216 then some (.da (.tuple (a ++ b))) else none := rfl
@[simp] theorem addD_ll : addD (.list a) (.list b) = if a.length + b.length ≤ 16777216 then some (.fr (a ++ b)) else none := rfl
@[simp] theorem subD_ii : subD (.int i) (.int j) = some (.da (.int (i - j))) := rfl
@[simp] theorem mulU_ii : mulU (.int i) (.int j) = if CMulB i j = true then some (.da (.int (i * j))) else none := rfl
@[simp] theorem mulU_ti : mulU (.tuple a) (.int j) = if a ≠ [] ∧ 2 ≤ j ∧ j ≤ 1000 ∧ a.length ≤ 1000 then some (.da (.tuple (List.replicate j.toNat a).flatten)) else none := rfl
@[simp] theorem mulU_li : mulU (.list a) (.int j) = if 0 ≤ j ∧ j ≤ 1000 ∧ a.length ≤ 1000 then some (.fr (List.replicate j.toNat a).flatten) else none := rfl
@[simp] theorem fdivD_ii : fdivD (.int i) (.int j) = if 0 < j ∧ j < 1073741824 then some (.da (.int (i / j))) else none := rfl
@[simp] theorem modD_ii : modD (.int i) (.int j) = if 0 < j then some (.da (.int (i % j))) else none := rfl
@[simp] theorem powD_ii : powD (.int i) (.int j) = if 0 ≤ j ∧ j ≤ 1000000 ∧ i.natAbs < 18446744073709551616 then some (.da (.int (i ^ j.toNat))) else none := rfl
@[simp] theorem ltD_ii : ltD (.int i) (.int j) = some (.da (.bool (decide (i < j)))) := rfl
@[simp] theorem leD_ii : leD (.int i) (.int j) = some (.da (.bool (decide (i ≤ j)))) := rfl
@[simp] theorem gtD_ii : gtD (.int i) (.int j) = some (.da (.bool (decide (j < i)))) := rfl
@[simp] theorem geD_ii : geD (.int i) (.int j) = some (.da (.bool (decide (j ≤ i)))) := rfl
@[simp] theorem isD_n (d : PyData) : isD d .none = some (.da (.bool (isNone d))) := rfl
@[simp] theorem isnD_n (d : PyData) : isnD d .none = some (.da (.bool (!isNone d))) := rfl
@[simp] theorem isD_b : isD (.bool p) (.bool q) = some (.da (.bool (decide (p = q)))) := rfl
@[simp] theorem isnD_b : isnD (.bool p) (.bool q) = some (.da (.bool (!decide (p = q)))) := rfl
@[simp] theorem isNone_n : isNone .none = true := rfl
@[simp] theorem isNone_t : isNone (.tuple a) = false := rfl
@[simp] theorem isNone_l : isNone (.list a) = false := rfl
@[simp] theorem isNone_i : isNone (.int i) = false := rfl
@[simp] theorem isNone_b : isNone (.bool p) = false := rfl
@[simp] theorem isNone_s : isNone (.str x) = false := rfl
@[simp] theorem ixD_l : ixD (.list a) (.int i) = atI a i := rfl
@[simp] theorem ixD_t : ixD (.tuple a) (.int i) = atI a i := rfl
@[simp] theorem ixD_s : ixD (scr ns) (.int i) = atI (ns.map PyData.int) i := rfl
@[simp] theorem ixR_eq (d e : PyData) : ixR d e = ol (ixD d e) fun z => some (.da z) := rfl
@[simp] theorem lenD_l : lenD [.list a] = some (.da (.int a.length)) := rfl
@[simp] theorem lenD_t : lenD [.tuple a] = some (.da (.int a.length)) := rfl
@[simp] theorem lenD_s : lenD [scr ns] = some (.da (.int (ns.map PyData.int).length)) := rfl
@[simp] theorem lenD_x : lenD [.str x] = if x.length ≤ 16777216 then some (.da (.int x.length)) else none := rfl
@[simp] theorem maxD_ii : maxD [.int i, .int j] = some (.da (.int (if j > i then j else i))) := rfl
@[simp] theorem minD_ii : minD [.int i, .int j] = some (.da (.int (if j < i then j else i))) := rfl
@[simp] theorem maxD_l : maxD [.list a] = ol (intsD a) fun ns => ol (maxI ns) fun m => some (.da (.int m)) := rfl
@[simp] theorem maxD_t : maxD [.tuple a] = ol (intsD a) fun ns => ol (maxI ns) fun m => some (.da (.int m)) := rfl
@[simp] theorem minD_l : minD [.list a] = ol (intsD a) fun ns => ol (minI ns) fun m => some (.da (.int m)) := rfl
@[simp] theorem minD_t : minD [.tuple a] = ol (intsD a) fun ns => ol (minI ns) fun m => some (.da (.int m)) := rfl
@[simp] theorem sumD_l : sumD [.list a] = ol (intsD a) fun ns => some (.da (.int ns.sum)) := rfl
@[simp] theorem sumD_t : sumD [.tuple a] = ol (intsD a) fun ns => some (.da (.int ns.sum)) := rfl
@[simp] theorem allD_l : allD [.list a] = ol (blsD a) fun bs => some (.da (.bool (bs.all id))) := rfl
@[simp] theorem anyD_l : anyD [.list a] = ol (blsD a) fun bs => some (.da (.bool (bs.any id))) := rfl
@[simp] theorem listD_l : listD [.list a] = some (.fr a) := rfl
@[simp] theorem listD_t : listD [.tuple a] = some (.fr a) := rfl
@[simp] theorem tupleD_l : tupleD [.list a] = some (.da (.tuple a)) := rfl
@[simp] theorem tupleD_t : tupleD [.tuple a] = some (.da (.tuple a)) := rfl
@[simp] theorem intD_b : intD [.bool p] = some (.da (.int (if p then 1 else 0))) := rfl
@[simp] theorem slD_l (lo hi : Option Int) : slD (.list a) lo hi = some (.fr (cutD a lo hi)) := rfl
@[simp] theorem slD_t (lo hi : Option Int) : slD (.tuple a) lo hi = some (.da (.tuple (cutD a lo hi))) := rfl
@[simp] theorem noDict_n : noDict .none = true := rfl
@[simp] theorem noDict_b : noDict (.bool p) = true := rfl
@[simp] theorem noDict_i : noDict (.int i) = true := rfl
@[simp] theorem noDict_s : noDict (.str x) = true := rfl
@[simp] theorem noDict_l : noDict (.list a) = true := rfl
@[simp] theorem noDict_t : noDict (.tuple a) = true := rfl
@[simp] theorem flatD_n : flatD .none = true := rfl
@[simp] theorem flatD_b : flatD (.bool p) = true := rfl
@[simp] theorem flatD_i : flatD (.int i) = true := rfl
@[simp] theorem flatD_s : flatD (.str x) = true := rfl
@[simp] theorem scalR_da (d : PyData) : scalR (.da d) = flatD d := rfl
@[simp] theorem isi_t_t : isiD "tuple" (.tuple a) = true := by simp [isiD]
@[simp] theorem isi_b_b : isiD "bool" (.bool p) = true := by simp [isiD]
@[simp] theorem isi_i_i : isiD "int" (.int i) = true := by simp [isiD]
@[simp] theorem isi_i_b : isiD "int" (.bool p) = true := by simp [isiD]
@[simp] theorem isi_b_i : isiD "bool" (.int i) = false := by simp [isiD]
@[simp] theorem isi_s_s : isiD "str" (.str x) = true := by simp [isiD]
@[simp] theorem isi_t_l : isiD "tuple" (.list a) = false := by simp [isiD]
@[simp] theorem isi_t_n : isiD "tuple" .none = false := by simp [isiD]
@[simp] theorem inR_eq (d e : PyData) : inR d e = ol (inD d e) fun b => some (.da (.bool b)) := rfl
@[simp] theorem ninR_eq (d e : PyData) : ninR d e = ol (inD d e) fun b => some (.da (.bool (!b))) := rfl
theorem atI_cast {α : Type} (l : List α) (j : Nat) : atI l (j : Int) = l[j]? := by
  unfold atI ixN
  by_cases h : j < l.length
  · rw [if_pos (by omega), if_pos (by omega)]; simp
  · rw [if_pos (by omega), if_neg (by omega)]; simp; omega
@[simp] theorem atI_0 {α : Type} (a : α) (l : List α) : atI (a :: l) 0 = some a := by simpa using atI_cast (a :: l) 0
@[simp] theorem atI_1 {α : Type} (a b : α) (l : List α) : atI (a :: b :: l) 1 = some b := by simpa using atI_cast (a :: b :: l) 1
@[simp] theorem atI_2 {α : Type} (a b c : α) (l : List α) : atI (a :: b :: c :: l) 2 = some c := by simpa using atI_cast (a :: b :: c :: l) 2
@[simp] theorem atI_3 {α : Type} (a b c d : α) (l : List α) : atI (a :: b :: c :: d :: l) 3 = some d := by simpa using atI_cast (a :: b :: c :: d :: l) 3
end
end DL
/-! The data layer 13: what a piece comes to, by what is kept from turn to turn. -/
namespace DL
open PySem L2 PySem.W PyProof PyProof.Rows
def Tot {α : Type} (m : Option α) (Q : α → Prop) : Prop := ∃ a, m = some a ∧ Q a
@[simp] theorem Tot_some {α : Type} (a : α) (Q : α → Prop) : Tot (some a) Q ↔ Q a := ⟨fun ⟨b, e, q⟩ => by cases e; exact q, fun q => ⟨a, rfl, q⟩⟩
@[simp] theorem Tot_none {α : Type} (Q : α → Prop) : Tot none Q ↔ False := ⟨fun ⟨_, e, _⟩ => by simp at e, False.elim⟩
@[simp] theorem Tot_ol {α β : Type} (m : Option α) (f : α → Option β) (Q : β → Prop) : Tot (ol m f) Q ↔ Tot m fun a => Tot (f a) Q := by
  cases m <;> simp
@[simp] theorem Tot_ob {α β γ : Type} (m : Option (α × β)) (f : α → β → Option γ) (Q : γ → Prop) : Tot (ob m f) Q ↔ Tot m fun a => Tot (f a.1 a.2) Q := by
  cases m with
  | none => simp
  | some a => cases a; simp
theorem Tot.mono {α : Type} {m : Option α} {Q R : α → Prop} (h : Tot m Q) (k : ∀ a, Q a → R a) : Tot m R := h.elim fun a z => ⟨a, z.1, k a z.2⟩
theorem Tot.eq {α : Type} {m : Option α} {a : α} (h : Tot m fun b => b = a) : m = some a := by
  obtain ⟨b, e, q⟩ := h
  rw [e, q]
theorem Tot.of {α : Type} {m : Option α} {a : α} (h : m = some a) : Tot m fun b => b = a := ⟨a, h, rfl⟩
theorem Tot.forL {g : GF} {body : SF} {Q : Out → Prop} {ds : List PyData} {ρ : En} (Inv : Nat → En → Prop) (h0 : Inv 0 ρ)
    (hs : ∀ (k : Nat) (hk : k < ds.length) (ρ : En), Inv k ρ → Tot (g (.da ds[k]) ρ) fun ρ1 => Tot (body ρ1) fun o => match o with
      | .nx ρ' => Inv (k + 1) ρ'
      | .ct ρ' => Inv (k + 1) ρ'
      | .bk ρ' => Q (.nx ρ')
      | .rt r ρ' => Q (.rt r ρ'))
    (he : ∀ ρ, Inv ds.length ρ → Q (.nx ρ)) : Tot (forL g body ds ρ) Q := by
  induction ds generalizing ρ Inv with
  | nil => simpa using he ρ h0
  | cons d ds ih =>
    rw [forL_cons]
    simp only [Tot_ol]
    refine (hs 0 (by simp) ρ h0).mono fun ρ1 z => z.mono fun o q => ?_
    have go : ∀ ρ', Inv 1 ρ' → Tot (DL.forL g body ds ρ') Q := fun ρ' hi => ih (fun k => Inv (k + 1)) hi (fun k hk ρ hi => hs (k + 1) (by simpa using hk) ρ hi) fun ρ hi => he ρ (by simpa using hi)
    cases o with
    | nx ρ' => exact go ρ' q
    | ct ρ' => exact go ρ' q
    | bk ρ' => simpa using q
    | rt r ρ' => simpa using q
theorem Tot.lcL {g : GF} {ts : TF} {e : EF} {vs : List Nat} {Q : List PyData × En → Prop} {ds acc : List PyData} {ρ : En} (Inv : Nat → List PyData → En → Prop) (h0 : Inv 0 acc ρ)
    (hs : ∀ (k : Nat) (hk : k < ds.length) (acc : List PyData) (ρ : En), Inv k acc ρ → Tot (g (.da ds[k]) ρ) fun ρ1 => Tot (ts ρ1) fun b => if b.1 = true then Tot (e b.2) fun x => Tot (sto x.2 x.1) fun y => Inv (k + 1) (acc ++ [y.1]) (wipeE y.2 vs)
      else Inv (k + 1) acc (wipeE b.2 vs))
    (he : ∀ acc ρ, Inv ds.length acc ρ → Q (acc, ρ)) : Tot (DL.lcL g ts e vs ds ρ acc) Q := by
  induction ds generalizing ρ acc Inv with
  | nil => simpa using he acc ρ h0
  | cons d ds ih =>
    rw [lcL_cons]
    simp only [Tot_ol, Tot_ob]
    have go : ∀ acc ρ', Inv 1 acc ρ' → Tot (DL.lcL g ts e vs ds ρ' acc) Q := fun acc ρ' hi => ih (fun k => Inv (k + 1)) hi (fun k hk acc ρ hi => hs (k + 1) (by simpa using hk) acc ρ hi) fun acc ρ hi => he acc ρ (by simpa using hi)
    refine (hs 0 (by simp) acc ρ h0).mono fun ρ1 z => z.mono fun b q => ?_
    by_cases hb : b.1 = true
    · rw [if_pos hb] at q ⊢
      simp only [Tot_ob]
      exact q.mono fun x z => z.mono fun y hi => go _ _ hi
    · rw [if_neg hb] at q ⊢
      exact go _ _ q
/-- a comprehension without a test, whose piece hangs on the item alone -/
theorem lcL_map {g : GF} {e : EF} {vs : List Nat} {ρ : En} {F : PyData → PyData} : ∀ (ds acc : List PyData), (∀ d ∈ ds, Tot (g (.da d) ρ) fun ρ1 => Tot (e ρ1) fun x => Tot (sto x.2 x.1) fun y => y.1 = F d ∧ wipeE y.2 vs = ρ) →
    DL.lcL g tYesF e vs ds ρ acc = some (acc ++ ds.map F, ρ)
  | [], acc, _ => by simp
  | d :: ds, acc, h => by
    obtain ⟨ρ1, e1, ⟨r, ρ2⟩, e2, ⟨d3, ρ3⟩, e3, e4, e5⟩ := h d (by simp)
    simp only at e3 e4 e5
    rw [lcL_cons, e1]
    simp only [ol_mk, x_tYesF, ob_mk, if_true, e2, e3, e4, e5]
    rw [lcL_map ds _ fun d hd => h d (by simp [hd])]
    simp
theorem atI_map {α : Type} {e : α → PyData} {l : List α} {p : Nat} (h : p < l.length) : atI (l.map e) (p : Int) = some (e l[p]) := by
  rw [atI_cast]; simp [h]
theorem ixN_cast {n p : Nat} (h : p < n) : ixN n (p : Int) = some p := by
  unfold ixN
  rw [if_pos (by omega), if_pos (by omega)]
  simp
theorem setS_no {ρ : En} {i : Nat} {x : Sl} (h : ρ[i]? = some .no) : setS i ρ x = some (ρ.set i x) := setS_eq h (.inl rfl)
theorem setS_da {ρ : En} {i : Nat} {d : PyData} {x : Sl} (h : ρ[i]? = some (.da d)) : setS i ρ x = some (ρ.set i x) := setS_eq h (.inl rfl)
theorem setS_ow {ρ : En} {i : Nat} {d : List PyData} {x : Sl} (h : ρ[i]? = some (.ow d)) : setS i ρ x = some (ρ.set i x) := setS_eq h (.inr ⟨_, rfl⟩)
theorem rangeD_len (lo : Int) (n : Nat) : (rangeD lo n).length = n := by simp [rangeD]
theorem downD_len (lo : Int) (n : Nat) : (downD lo n).length = n := by simp [downD]
theorem rangeD_at (lo : Int) (n k : Nat) (h : k < (rangeD lo n).length) : (rangeD lo n)[k] = .int (lo + k) := by simp [rangeD]
theorem downD_at (lo : Int) (n k : Nat) (h : k < (downD lo n).length) : (downD lo n)[k] = .int (lo - k) := by simp [downD]
@[simp] theorem setS_simp (ρ : En) (i : Nat) (x : Sl) : setS i ρ x = ol ρ[i]? fun s => match s with
    | .pa _ => none
    | _ => some (ρ.set i x) := by
  unfold setS
  cases h : ρ[i]? with
  | none => simp
  | some s => cases s <;> simp
/-! ### equality of plain data -/
def nb : Nat → PyData → Bool
  | _, .none => true
  | _, .int _ => true
  | _, .str x => PyData.strOk x
  | k + 1, .tuple ds => ds.all (nb k)
  | k + 1, .list ds => ds.all (nb k)
  | _, _ => false
theorem nb_up : ∀ (k : Nat) (d : PyData), nb k d = true → nb (k + 1) d = true
  | _, .none, _ => by simp [nb]
  | _, .int _, _ => by simp [nb]
  | _, .str x, h => by cases ‹Nat› <;> simpa [nb] using h
  | 0, .tuple ds, h => by simp [nb] at h
  | 0, .list ds, h => by simp [nb] at h
  | k + 1, .tuple ds, h => by
    simp only [nb, List.all_eq_true] at h ⊢
    exact fun x hx => nb_up k x (h x hx)
  | k + 1, .list ds, h => by
    simp only [nb, List.all_eq_true] at h ⊢
    exact fun x hx => nb_up k x (h x hx)
  | 0, .bool _, h => by simp [nb] at h
  | 0, .dict _, h => by simp [nb] at h
  | _ + 1, .bool _, h => by simp [nb] at h
  | _ + 1, .dict _, h => by simp [nb] at h
theorem nb_mono {k m : Nat} (h : k ≤ m) {d : PyData} (n : nb k d = true) : nb m d = true := by
  induction h with
  | refl => exact n
  | step _ ih => exact nb_up _ _ ih
theorem eqvAll_iff {p : PyData → Prop} (h : ∀ d e, p d → p e → (PyData.eqv d e = true ↔ d = e)) : ∀ xs ys : List PyData, (∀ x ∈ xs, p x) → (∀ y ∈ ys, p y) → (PyData.eqvAll xs ys = true ↔ xs = ys)
  | [], [], _, _ => by simp [PyData.eqvAll]
  | [], _ :: _, _, _ => by simp [PyData.eqvAll]
  | _ :: _, [], _, _ => by simp [PyData.eqvAll]
  | x :: xs, y :: ys, hx, hy => by
    simp only [PyData.eqvAll, Bool.and_eq_true, List.cons.injEq]
    rw [h x y (hx x (by simp)) (hy y (by simp)), eqvAll_iff h xs ys (fun z hz => hx z (by simp [hz])) fun z hz => hy z (by simp [hz])]
theorem nb_eqv : ∀ (k : Nat) (d e : PyData), nb k d = true → nb k e = true → (PyData.eqv d e = true ↔ d = e) := by
  intro k
  induction k with
  | zero =>
    intro d e hd he
    cases d <;> cases e <;> simp [nb] at hd he <;> simp [PyData.eqv]
  | succ k ih =>
    intro d e hd he
    cases d <;> cases e <;> simp only [nb, List.all_eq_true] at hd he <;> first | exact absurd hd Bool.false_ne_true | exact absurd he Bool.false_ne_true | skip
    all_goals first
      | (simp [PyData.eqv]; done)
      | skip
    · simp only [PyData.eqv, PyData.list.injEq]
      exact eqvAll_iff (p := fun d => nb k d = true) ih _ _ hd he
    · simp only [PyData.eqv, PyData.tuple.injEq]
      exact eqvAll_iff (p := fun d => nb k d = true) ih _ _ hd he
theorem canLayAll_of : ∀ xs : List PyData, (∀ x ∈ xs, PyData.canLay0 x = true) → PyData.canLayAll0 xs = true
  | [], _ => by simp [PyData.canLayAll0]
  | x :: xs, h => by simp [PyData.canLayAll0, h x (by simp), canLayAll_of xs fun y hy => h y (by simp [hy])]
theorem depthAll_of {k : Nat} : ∀ xs : List PyData, (∀ x ∈ xs, PyData.depth x ≤ k) → PyData.depthAll xs ≤ k
  | [], _ => by simp [PyData.depthAll]
  | x :: xs, h => by
    have := h x (by simp)
    have := depthAll_of xs fun y hy => h y (by simp [hy])
    simp [PyData.depthAll]
    omega
theorem nb_shape : ∀ (k : Nat) (d : PyData), nb k d = true → PyData.canLay0 d = true ∧ PyData.depth d ≤ k := by
  intro k
  induction k with
  | zero => intro d hd; cases d <;> simp [nb] at hd <;> simp [PyData.canLay0, PyData.depth, hd]
  | succ k ih =>
    intro d hd
    cases d <;> simp only [nb, List.all_eq_true] at hd <;> first | exact absurd hd Bool.false_ne_true | skip
    · simp [PyData.canLay0, PyData.depth]
    · simp [PyData.canLay0, PyData.depth]
    · simp [PyData.canLay0, PyData.depth, hd]
    · simp only [PyData.canLay0, PyData.depth]
      exact ⟨canLayAll_of _ fun x hx => (ih x (hd x hx)).1, Nat.succ_le_succ (depthAll_of _ fun x hx => (ih x (hd x hx)).2)⟩
    · simp only [PyData.canLay0, PyData.depth]
      exact ⟨canLayAll_of _ fun x hx => (ih x (hd x hx)).1, Nat.succ_le_succ (depthAll_of _ fun x hx => (ih x (hd x hx)).2)⟩
theorem nb_shaped {k : Nat} {d : PyData} (hk : k ≤ 64) (h : nb k d = true) : SeqAt.shaped d = true := by
  have := nb_shape k d h
  unfold SeqAt.shaped
  rw [this.1]
  simp; omega
theorem eqD_same {d : PyData} (h : nb 9 d = true) : eqD d d = some (.da (.bool true)) := by
  unfold eqD
  rw [nb_shaped (by omega) h, (nb_eqv 9 d d h h).2 rfl]
  rfl
theorem eqD_diff {d e : PyData} (h : nb 9 d = true) (k : nb 9 e = true) (n : d ≠ e) : eqD d e = some (.da (.bool false)) := by
  unfold eqD
  rw [nb_shaped (by omega) h, nb_shaped (by omega) k, Bool.eq_false_iff.2 fun z => n ((nb_eqv 9 d e h k).1 z)]
  rfl
theorem neD_same {d : PyData} (h : nb 9 d = true) : neD d d = some (.da (.bool false)) := by
  unfold neD
  rw [nb_shaped (by omega) h, (nb_eqv 9 d d h h).2 rfl]
  rfl
theorem neD_diff {d e : PyData} (h : nb 9 d = true) (k : nb 9 e = true) (n : d ≠ e) : neD d e = some (.da (.bool true)) := by
  unfold neD
  rw [nb_shaped (by omega) h, nb_shaped (by omega) k, Bool.eq_false_iff.2 fun z => n ((nb_eqv 9 d e h k).1 z)]
  rfl
theorem inB_iff {d : PyData} {es : List PyData} (h : nb 9 d = true) (k : ∀ e ∈ es, nb 9 e = true) : inB d es = true ↔ d ∈ es := by
  unfold inB
  rw [List.any_eq_true]
  constructor
  · rintro ⟨e, he, q⟩
    first
      | exact (nb_eqv 9 d e h (k e he)).1 q ▸ he
      | exact (nb_eqv 9 e d (k e he) h).1 q ▸ he
  · intro hd
    exact ⟨d, hd, (nb_eqv 9 d d h h).2 rfl⟩
theorem nb_ints (l : List Int) (k : Nat) : (l.map PyData.int).all (nb k) = true := by
  simp only [List.all_eq_true, List.mem_map]
  rintro x ⟨i, _, rfl⟩
  cases k <;> simp [nb]
theorem map_int_inj {l m : List Int} : l.map PyData.int = m.map PyData.int ↔ l = m := List.map_inj_right fun _ _ h => by injection h
theorem cutD_drop {α : Type} (xs : List α) (p : Nat) : cutD xs (some (p : Int)) none = xs.drop p := by
  unfold cutD
  rw [HT.sIx_nat, HT.sIx_none]
  rcases Nat.le_total p xs.length with h | h
  · rw [Nat.min_eq_left h, List.take_of_length_le]; simp
  · rw [Nat.min_eq_right h, List.drop_of_length_le h]; simp
theorem cutD_take {α : Type} (xs : List α) (p : Nat) : cutD xs none (some (p : Int)) = xs.take p := by
  unfold cutD
  rw [HT.sIx_nat, HT.sIx_none]
  rcases Nat.le_total p xs.length with h | h
  · rw [Nat.min_eq_left h]; simp
  · rw [Nat.min_eq_right h, List.take_of_length_le h]; simp
theorem zipD_len : ∀ xs ys : List PyData, (zipD xs ys).length = min xs.length ys.length
  | [], _ => by simp [zipD]
  | _ :: _, [] => by simp [zipD]
  | x :: xs, y :: ys => by simp only [zipD, List.length_cons, zipD_len xs ys]; omega
theorem zipD_at : ∀ (xs ys : List PyData) (i : Nat) (h : i < (zipD xs ys).length) (hx : i < xs.length) (hy : i < ys.length), (zipD xs ys)[i] = .tuple [xs[i], ys[i]]
  | x :: xs, y :: ys, 0, _, _, _ => by simp [zipD]
  | x :: xs, y :: ys, i + 1, h, hx, hy => by
    simp only [zipD, List.getElem_cons_succ]
    exact zipD_at xs ys i _ _ _
theorem enumD_len : ∀ (k : Nat) (xs : List PyData), (enumD k xs).length = xs.length
  | _, [] => rfl
  | k, x :: xs => by simp only [enumD, List.length_cons, enumD_len (k + 1) xs]
theorem enumD_at : ∀ (k : Nat) (xs : List PyData) (i : Nat) (h : i < (enumD k xs).length) (hx : i < xs.length), (enumD k xs)[i] = .tuple [.int ((k + i : Nat) : Int), xs[i]]
  | k, x :: xs, 0, _, _ => by simp [enumD]
  | k, x :: xs, i + 1, h, hx => by
    simp only [enumD, List.getElem_cons_succ]
    rw [enumD_at (k + 1) xs i _ (by simpa using hx)]
    rw [show k + 1 + i = k + (i + 1) by omega]
end DL
/-! The data layer 14: tuple[::-1]. -/
namespace DL
open PySem L2 PySem.Spec PySem.W PyProof PyProof.Rows
section
variable {prog : Program} {w : World} {A : Around} {E : Value → Shared → Prop} {s : Shared}
theorem places_back (n : Nat) : Builtin.Slice.slicePlaces ((n : Int) - 1) (-1) (-1) = n := by
  unfold Builtin.Slice.slicePlaces
  have h1 : ¬ ((-1 : Int) > 0) := by omega
  simp only [h1, if_false]
  split
  · rw [show (- -1 : Int) = 1 by decide, Int.ediv_one]; omega
  · omega
theorem pick_back (xs : Array Value) : ((List.range xs.size).filterMap fun (m : Nat) => xs[((xs.size : Int) - 1 + (m : Int) * (-1)).toNat]?).toArray = xs.toList.reverse.toArray := by
  have e : ((List.range xs.size).filterMap fun (m : Nat) => xs[((xs.size : Int) - 1 + (m : Int) * (-1)).toNat]?) = ((List.range xs.size).map fun m => xs.size - 1 - m).filterMap (xs[·]?) := by
    have g : ∀ (l : List Nat), (∀ m ∈ l, m < xs.size) → l.filterMap (fun (m : Nat) => xs[((xs.size : Int) - 1 + (m : Int) * (-1)).toNat]?) = (l.map fun m => xs.size - 1 - m).filterMap (xs[·]?) := by
      intro l hl
      induction l with
      | nil => rfl
      | cons m l ih =>
        have h := hl m (by simp)
        have e : ((xs.size : Int) - 1 + (m : Int) * (-1)).toNat = xs.size - 1 - m := by omega
        simp only [List.filterMap_cons, List.map_cons, e, ih fun k hk => hl k (by simp [hk])]
    exact g _ fun m hm => List.mem_range.1 hm
  rw [e, krv_range, List.filterMap_reverse, krv_all]
theorem sliceApplied_back {sl : Addr} {vl vu vs : Value} {n : Nat} {Q : Int × Int × Nat → Shared → Prop} (hs : s.heap.IsSliceOf sl vl vu vs) (pl : IsPart vl none) (pu : IsPart vu none) (ps : IsPart vs (some (-1)))
    (h : Q ((n : Int) - 1, -1, n) s) : wpAny (model prog w) A (Builtin.Slice.sliceApplied (.ref sl) (pure (n : Int))) Q E s := by
  obtain ⟨os, hos, hcs, hds⟩ := id hs
  unfold Builtin.Slice.sliceApplied Builtin.Slice.sliceFields
  refine wpAny_bind (wpAny_bind (wpAny_field hos hds (x := vl) rfl (wpAny_bind (wpAny_field hos hds (x := vu) rfl (wpAny_bind (wpAny_field hos hds (x := vs) rfl (wpAny_pure ?_)))))))
  refine wpAny_bind (HT.slicePart_ ps ?_)
  show wpAny _ _ (if ((-1 : Int) == 0) = true then _ else _) _ _ s
  rw [if_neg (by decide)]
  refine wpAny_bind (HT.slicePart_ pl (wpAny_bind (HT.slicePart_ pu (wpAny_bind (wpAny_pure ?_)))))
  show wpAny _ _ (pure ((n : Int) - 1, (-1 : Int), Builtin.Slice.slicePlaces ((n : Int) - 1) (-1) (-1))) _ _ s
  rw [places_back]
  exact wpAny_pure h
theorem getItem_tuple_back {t sl : Addr} {items : Array Value} {vl vu vs : Value} {Q : Value → Shared → Prop} (ht : IsTup s.heap t items) (hs : s.heap.IsSliceOf sl vl vu vs) (pl : IsPart vl none) (pu : IsPart vu none) (ps : IsPart vs (some (-1)))
    (h : Q (.ref s.heap.objs.size) { s with heap := s.heap.push { cls := .type "tuple", data := .seq items.toList.reverse.toArray } })
    (hsz : items.size ≤ sizeLine) : wpAny (model prog w) A (getItem (.ref t) (.ref sl)) Q E s := by
  have htake : sizeOk (.seq items.toList.reverse.toArray) := by
    show items.toList.reverse.toArray.size ≤ sizeLine
    rw [List.size_toArray, List.length_reverse, Array.length_toList]
    exact hsz
  obtain ⟨os, hos, hcs, hds⟩ := id hs
  have hTs : s.TypeIs (.ref sl) "slice" := ⟨os, hos, hcs⟩
  unfold getItem
  refine wpAny_holding ?_
  refine wpAny_bind (wpAny_sequenceKey ht.typeIs (by decide) ?_)
  refine wpAny_bind (wpAny_callSpecial?_slot (name := Str.ofString "__getitem__") ht.typeIs PyProof.Rows.slot_tuple_getitem
    (wpAny_call_entry PyProof.Rows.slot_tuple_getitem ht.typeIs entry_tuple_getitem ?_ (args_tuple_getitem _ _)))
  show wpAny _ _ (Builtin.Tuple.tupleItemsOf (.ref t) >>= _) _ _ s
  refine wpAny_bind (tupleItemsOf_ ht ?_)
  refine wpAny_bind (wpAny_typeOf hTs ?_)
  rw [if_pos (by decide)]
  refine wpAny_bind (sliceApplied_back hs pl pu ps ?_)
  have hno : ¬ ((((items.size : Int) - 1) == 0 && (-1 : Int) == 1 && items.size == items.size) = true) := by simp
  show wpAny _ _ (if (((items.size : Int) - 1) == 0 && (-1 : Int) == 1 && items.size == items.size) = true then _ else _) _ _ s
  rw [if_neg hno, pick_back]
  first
    | exact wpAny_bind (m := Builtin.Tuple.tupleExact _) (wpAny_newObj_type (wpAny_pure ⟨_, rfl, wpAny_pure h⟩) htake)
    | exact wpAny_bind (m := Builtin.Tuple.tupleExact _) (wpAny_newObj_type (wpAny_bind (wpAny_pure (wpAny_pure ⟨_, rfl, wpAny_pure h⟩))) htake)
    | exact wpAny_bind (wpAny_bind (m := Builtin.Tuple.tupleExact _) (wpAny_newObj_type (wpAny_pure (wpAny_pure ⟨_, rfl, wpAny_pure h⟩)) htake))
    | exact wpAny_bind (wpAny_bind (m := Builtin.Tuple.tupleExact _) (wpAny_newObj_type (wpAny_pure ⟨_, rfl, wpAny_pure h⟩) htake))
end
section
variable {X : Cx}
def tRevT (K : PySem.W.Frag) (te : TE) : TE := fun σ H Q => te σ H fun x H1 => ∃ a xs, x = .ref a ∧ SqT K H1 a xs ∧ ∀ p, H1 p = none → Q (.ref p) (upd H1 p (.tup xs.reverse))
theorem pe_revT {e : Expr} {te : TE} {k : Nat} {p1 p2 p3 pos : Pos} (he : PE X e te) : PE X (.Subscript e (.Slice none none (some (.UnaryOp .USub (.Constant (.int 1) k p1) p2)) p3) pos) (tRevT X.K te) := by
  refine ⟨fun pins s σ H Q I h => ?_⟩
  refine Subscript_ (thn (he.run pins s σ H _ I h) fun v s1 ⟨x, H1, I1, r1, q1⟩ => ?_)
  obtain ⟨a, xs, ex, hx, q⟩ := q1
  subst ex
  cases r1
  have hst : PO X (some (.UnaryOp .USub (.Constant (.int 1) k p1) p2)) (tPart (tUn (rU fun i => .int (-i)) (tC (.int 1)))) := po_some (pe_un un_neg pe_int)
  refine wpAny_Slice (thn (po_none.run pins s1 σ H1 (fun o H2 => o = none ∧ H2 = H1) I1 ⟨rfl, rfl⟩) fun vl s2 ⟨l, H2, I2, pl, el, e2⟩ => ?_)
  subst el e2
  refine thn (po_none.run pins s2 σ H2 (fun o H3 => o = none ∧ H3 = H2) I2 ⟨rfl, rfl⟩) fun vu s3 ⟨u, H3, I3, pu, eu, e3⟩ => ?_
  subst eu e3
  refine thn (hst.run pins s3 σ H3 (fun o H4 => o = some (-1) ∧ H4 = H3) I3 ⟨1, rfl, -1, rfl, rfl, rfl⟩) fun vs s4 ⟨o, H4, I4, ps, eo, e4⟩ => ?_
  subst eo e4
  have I5 : Inv X pins σ H4 { s4 with heap := s4.heap.push { cls := .type "slice", data := .fields #[vl, vu, vs] } } := I4.kept (t' := s4.toks) fun b ob q => Heap.get?_push_of_some _ q
  obtain ⟨its, r, ht, hz⟩ := I5.tuple hx
  have hlen := r.length
  show wpAny (model X.prog X.w) X.A (subscriptTail e (.Slice none none (some (.UnaryOp .USub (.Constant (.int 1) k p1) p2)) p3) (.ref a) (.ref s4.heap.objs.size)) (EP X pins σ Q) X.xe { s4 with heap := s4.heap.push { cls := .type "slice", data := .fields #[vl, vu, vs] } }
  refine tail_any (ops := [.ref a, .ref s4.heap.objs.size]) ht.typeIs PyProof.Rows.slot_tuple_getitem.lookup ?_ (by with_unfolding_all rfl)
  refine getItem_tuple_back ht (Heap.IsSliceOf.new _ vl vu vs) pl pu ps ?_ (by rw [List.size_toArray]; omega)
  refine ⟨.ref _, _, I5.laid (t' := s4.toks) (o := .tup xs.reverse) (fun b ob q => Heap.get?_push_of_some _ q) (Nat.le_refl _) ?_, rfl, q _ (I5.hok.fresh (Nat.le_refl _))⟩
  exact ⟨by rw [List.length_reverse]; exact hz, _, r.reverse, IsTup.new _ _⟩
def tpD : PyData → Option (List PyData)
  | .tuple xs => some xs
  | _ => none
def eRevT (f : EF) : EF := fun ρ => ob (f ρ) fun r ρ1 => ol (vw ρ1 r) fun d => ol (tpD d) fun xs => some (.da (.tuple xs.reverse), ρ1)
@[simp] theorem tpD_t (xs : List PyData) : tpD (.tuple xs) = some xs := rfl
@[simp] theorem x_eRevT (ρ : En) (f : EF) : eRevT f ρ = ob (f ρ) fun r ρ1 => ol (vw ρ1 r) fun d => ol (tpD d) fun xs => some (.da (.tuple xs.reverse), ρ1) := rfl
theorem ok_revT {e : Expr} {f : EF} {k : Nat} {p1 p2 p3 pos : Pos} (he : OkE X e f) : OkE X (.Subscript e (.Slice none none (some (.UnaryOp .USub (.Constant (.int 1) k p1) p2)) p3) pos) (eRevT f) :=
  pe_imp (pe_revT he) fun σ H Q ⟨t, S, ρ, r, ρ', R, e, k⟩ => by
    obtain ⟨x, ρ1, q1, e⟩ := ob_some e
    obtain ⟨d, q2, e⟩ := ol_some e
    obtain ⟨xs, q3, e⟩ := ol_some e
    cases e
    refine ⟨t, S, ρ, x, _, R, q1, fun v H1 S1 R1 s1 o1 => ?_⟩
    have hd : d = .tuple xs := by
      unfold tpD at q3
      split at q3
      · cases q3; rfl
      · cases q3
    subst hd
    obtain ⟨a, vs, rfl, ha, da⟩ := (R1.vwO o1 q2).tup
    refine ⟨a, vs, rfl, SqT.of (R1.sh _ _ ha), fun p hp => ?_⟩
    have N := New.put (o := .tup vs.reverse) R1.sh hp
    exact k _ _ _ (R1.new N) (s1.trans N.ss) (.tup upd_same (da.reverse.mono N.ss))
/-- a, b = x, y with targets of any kind: the tuple itself is not tracked -/
theorem ps_tupG {ts es : List Expr} {T : TGs} {ta : TA} {n : Nat} {Kc : Ends → L2.St → List V → Hp → Prop} (hk : ∀ D σ vs H1, Kc D σ vs H1 → vs.length = n ∧ T vs σ H1 D.nx) {pt pt2 pos : Pos} {kt k2} (hc : X.calm = true) (hp : PGs X ts T) (ha : PA X es ta) (hn : (assignEach ts X.env).length = n) (hz : n ≤ sizeLine) (hst : (assignEach ts X.env).findIdx? (·.1) = none)
    (hw : swappedStores [.Tuple ts kt pt] (.Tuple es k2 pt2) X.env = pure none) (hs : swapsWithSole [.Tuple ts kt pt] (.Tuple es k2 pt2) pos.line X.env = pure false)
    (h1 : (assignEach [.Tuple ts kt pt] X.env).map (·.2) = [assign (.Tuple ts kt pt) X.env]) :
    PS X (.Assign [.Tuple ts kt pt] (.Tuple es k2 pt2) pos) (fun D σ H => ta σ H fun vs H1 => Kc D σ vs H1) := by
  refine ⟨fun pins s σ H D I h => ?_⟩
  refine wpAny_Assign_stores (Tuple_ (thn (ha.run _ pins s σ H _ I h) fun us s1 ⟨vs, H1, I1, r1, q1⟩ => ?_)) hs hw
  obtain ⟨hl, q1⟩ := hk _ _ _ _ q1
  have hlu : us.length = n := by rw [← r1.length]; exact hl
  refine wpAny_newObj_type ?_ (by show us.toArray.size ≤ sizeLine; rw [List.size_toArray, hlu]; exact hz)
  have I2 : Inv X pins σ H1 { s1 with heap := s1.heap.push { cls := .type "tuple", data := .seq us.toArray } } := I1.kept (t' := s1.toks) fun b o e => Heap.get?_push_of_some _ e
  rw [h1]
  show wpAny _ _ (assign (.Tuple ts kt pt) X.env (.ref s1.heap.objs.size)) _ _ _
  refine assign_Tuple_tuple (I2.ok.hd hc) (IsTup.new s1.heap _) (by rw [hn, List.size_toArray, hlu]) hst fun h' hx' => ?_
  have I3 := I2.kept (h' := h') (t' := s1.toks) fun b o e => hx' b o (Nat.ne_of_lt (Heap.lt_size e)) e
  exact thn (hp.run pins _ σ H1 vs _ _ I3 (by simpa using r1) q1) fun _ s2 q => q
theorem ps_par3c {i j l : Nat} {x y z : Str} {a b c : Expr} {ta : TA} {px py pz pt pt2 pos : Pos} {kt k2} (hc : X.calm = true) (hN : X.N.Nodup) (hi : X.N[i]? = some x) (hj : X.N[j]? = some y) (hl : X.N[l]? = some z)
    (hx : Loc X.env.scope x) (hx2 : X.fn x = true ∨ X.env.scope.names.lookup x = some .local) (hy : Loc X.env.scope y) (hy2 : X.fn y = true ∨ X.env.scope.names.lookup y = some .local) (hz : Loc X.env.scope z) (hz2 : X.fn z = true ∨ X.env.scope.names.lookup z = some .local) (ha : PA X [a, b, c] ta)
    (hw : swappedStores [.Tuple [.Name x px, .Name y py, .Name z pz] kt pt] (.Tuple [a, b, c] k2 pt2) X.env = pure none) (hs : swapsWithSole [.Tuple [.Name x px, .Name y py, .Name z pz] kt pt] (.Tuple [a, b, c] k2 pt2) pos.line X.env = pure false := by rfl) :
    PS X (.Assign [.Tuple [.Name x px, .Name y py, .Name z pz] kt pt] (.Tuple [a, b, c] k2 pt2) pos) (tPar3 i j l ta) :=
  ps_tupG (n := 3) (Kc := fun D σ vs H1 => ∃ u v w, vs = [u, v, w] ∧ D.nx (((σ.set i (some u)).set j (some v)).set l (some w)) H1) (T := L2.gCons (gName i) (L2.gCons (gName j) (L2.gCons (gName l) L2.gNil))) (fun D σ vs H1 ⟨u, v, w, e, k⟩ => by subst e; exact ⟨rfl, _, _, rfl, _, _, rfl, _, _, rfl, rfl, k⟩) hc
    (pgs_cons (pg_name hN hi hx hx2) (pgs_cons (pg_name hN hj hy hy2) (pgs_cons (pg_name hN hl hz hz2) pgs_nil))) ha rfl (by show 3 ≤ sizeLine; decide) rfl hw hs rfl
theorem ps_par2c {i j : Nat} {x y : Str} {a b : Expr} {ta : TA} {px py pt pt2 pos : Pos} {kt k2} (hc : X.calm = true) (hN : X.N.Nodup) (hi : X.N[i]? = some x) (hj : X.N[j]? = some y)
    (hx : Loc X.env.scope x) (hx2 : X.fn x = true ∨ X.env.scope.names.lookup x = some .local) (hy : Loc X.env.scope y) (hy2 : X.fn y = true ∨ X.env.scope.names.lookup y = some .local) (ha : PA X [a, b] ta)
    (hw : swappedStores [.Tuple [.Name x px, .Name y py] kt pt] (.Tuple [a, b] k2 pt2) X.env = pure none) (hs : swapsWithSole [.Tuple [.Name x px, .Name y py] kt pt] (.Tuple [a, b] k2 pt2) pos.line X.env = pure false := by rfl) :
    PS X (.Assign [.Tuple [.Name x px, .Name y py] kt pt] (.Tuple [a, b] k2 pt2) pos) (tPar i j ta) :=
  ps_tupG (n := 2) (Kc := fun D σ vs H1 => ∃ u v, vs = [u, v] ∧ D.nx ((σ.set i (some u)).set j (some v)) H1) (T := L2.gCons (gName i) (L2.gCons (gName j) L2.gNil)) (fun D σ vs H1 ⟨u, v, e, k⟩ => by subst e; exact ⟨rfl, _, _, rfl, _, _, rfl, rfl, k⟩) hc
    (pgs_cons (pg_name hN hi hx hx2) (pgs_cons (pg_name hN hj hy hy2) pgs_nil)) ha rfl (by show 2 ≤ sizeLine; decide) rfl hw hs rfl
theorem okS_par2c (i j : Nat) {x y : Str} {a b : Expr} {px py pt pt2 pos : Pos} {kt k2} {g : AF} (hc : X.calm = true) (hN : X.N.Nodup) (hi : X.N[i]? = some x) (hj : X.N[j]? = some y)
    (hx : Loc X.env.scope x) (hx2 : X.fn x = true ∨ X.env.scope.names.lookup x = some .local) (hy : Loc X.env.scope y) (hy2 : X.fn y = true ∨ X.env.scope.names.lookup y = some .local)
    (hw : swappedStores [.Tuple [.Name x px, .Name y py] kt pt] (.Tuple [a, b] k2 pt2) X.env = pure none) (ha : OkP X [a, b] g) : OkS X (.Assign [.Tuple [.Name x px, .Name y py] kt pt] (.Tuple [a, b] k2 pt2) pos) (sPar i j g) :=
  ps_imp (ps_par2c hc hN hi hj hx hx2 hy hy2 ha hw) rd_par
end
end DL
/-! The data layer 15: {e for ..} of texts and ints. -/
namespace DL
open PySem L2 PySem.Spec PySem.W PyProof PyProof.Rows PpSet
section
variable {X : Cx}
/-- D the new set; its members are keys -/
def tScK (P : Program) (w : World) (wi : TI) (g : TG) (tt : TT) (te : TE) (vs : List Nat) : TE := fun σ H Q => wi σ H fun J H1 => ∀ D, H1 D = none → ∃ W : Nat → Nat → Hp → Prop, (∃ m, W 0 m (upd H1 D (SetK P w D (fun _ => false) 0))) ∧ ∀ i m H, W i m H →
  (J.stop i H ∧ Q (.ref D) H) ∨ (J.go i H ∧ ∃ Nx : Hp → Prop, (∀ H', Nx H' → ∃ m', m' < m ∧ W (i + 1) m' H') ∧ ∀ x H', J.yld i H x H' → g x (wipe σ vs) H' fun σ2 H2 => wipe σ2 vs = wipe σ vs ∧ tt σ2 H2 fun b H3 =>
    if b = true then te σ2 H3 fun y H4 => ∃ (c : Key) (S : Key → Bool) (n : Nat), y = kV c ∧ H4 D = some (SetK P w D S n) ∧ n + 1 < scanBound ∧ Nx (upd H4 D (SetK P w D (fun j => S j || decide (j = c)) (if S c = true then n else n + 1))) else Nx H3)
theorem addK_ok {pins : List (Addr × Obj)} {σ : L2.St} {H : Hp} {s : Shared} {D : Addr} {k : Key} {u : Value} {S : Key → Bool} {n : Nat} {E : Value → Shared → Prop} {Q : Value → Shared → Prop} (I : Inv X pins σ H s) (r : RelV (kV k) u) (hD : H D = some (SetK X.prog X.w D S n)) (room : n + 1 < scanBound)
    (h : ∀ s', Inv X pins σ (upd H D (SetK X.prog X.w D (fun j => S j || decide (j = k)) (if S k = true then n else n + 1))) s' → Q .none s') : wpAny (model X.prog X.w) X.A (call (.builtin "set.add") [.ref D, u]) Q E s := by
  refine call_set_add (kV_is r) (key_scan r) (setK_get I hD) room fun h' sb new => ?_
  have ⟨o, _, _, _, ho, _⟩ := new
  exact h _ (I.write (e := D) (t' := s.toks + 1) (by rw [hD]; trivial) (.inl rfl) (fun b u hb hu => (sb.2 b hb).trans hu) ⟨o, ho⟩ (setK_new new))
theorem freshK (P : Program) (w : World) (h : Heap) : (h.push { cls := .type "set", dict := none, data := .set #[] 0 (.fresh 0 0 (!w.params.followText "set-order")) }).SetOf (mixKind P w) h.objs.size (fun _ => false) 0 :=
  ⟨_, #[], 0, _, Heap.get?_push_size _ rfl, ⟨rfl, rfl, rfl⟩, rfl, (fun e he => by simp at he), (fun k => by simp), (by decide), (by rfl), rfl⟩
variable {elt tg iter : Expr} {ifs : List Expr} {scope : Scope} {own : List (PySem.Str × Nat)} {pos : Pos} {wi : TI} {g : TG} {tt : TT} {te : TE}
theorem pe_scK (hc : X.calm = true) (hN : X.N.Nodup) (hi : PI X tg iter wi) (ok : BlkOk X.N X.env.scope scope own)
    (hg : ∀ (s : Shared) (H : Hp) (C : Addr) (cl : List (PySem.Str × Addr)) (fp : List Addr), PG (X.blk s H scope (compEnvC scope cl C X.env) fp) tg g) (ht : ∀ (s : Shared) (H : Hp) (C : Addr) (cl : List (PySem.Str × Addr)) (fp : List Addr), PTs (X.blk s H scope (compEnvC scope cl C X.env) fp) ifs tt)
    (he : ∀ (s : Shared) (H : Hp) (C : Addr) (cl : List (PySem.Str × Addr)) (fp : List Addr), PE (X.blk s H scope (compEnvC scope cl C X.env) fp) elt te) (hs : ∀ x, foldedSetIterable iter X.env x = pure x := by intro _; rfl) :
    PE X (.SetComp elt [⟨tg, iter, ifs, 0⟩] scope pos) (tScK X.prog X.w wi g tt te (own.map (·.2))) := by
  refine ⟨fun pins s σ H Q I h => ?_⟩
  rw [eval_SetComp]
  have hf : ∀ y ∈ scope.names, y.2 = .free → ∃ c, X.env.cells.lookup y.1 = some c := fun y hy e => (ok.free y hy e).elim (fun k => I.ok.has _ (.inl k)) fun k => I.ok.has _ (.inr k)
  refine wpAny_comprehension_free (use := none) rfl hs (closure_ok hf) ok.kind (fun y hy e => by rw [ok.uniq y hy, e]) (thn (hi.run pins s σ H _ I h) fun xv s1 hx => thn hx fun itv s2 h2 => ?_)
  obtain ⟨it, fp, tn, J, H2, e, I2, T, st2, f2, q⟩ := h2
  subst e
  refine newSet_ok (newEnv_comp ?_)
  obtain ⟨D, hD⟩ : ∃ D, D = s2.heap.objs.size := ⟨_, rfl⟩
  rw [← hD]
  have hDn : H2 D = none := I2.hok.fresh (Nat.le_of_eq hD.symm)
  obtain ⟨W, ⟨m0, w0⟩, turn⟩ := q D hDn
  obtain ⟨s3, hs3⟩ : ∃ s3 : Shared, s3 = { s2 with heap := s2.heap.push { cls := .type "set", dict := none, data := .set #[] 0 (.fresh 0 0 (!X.w.params.followText "set-order")) } } := ⟨_, rfl⟩
  obtain ⟨H3, hH3⟩ : ∃ H3, H3 = upd H2 D (SetK X.prog X.w D (fun _ => false) 0) := ⟨_, rfl⟩
  rw [← hH3] at w0
  have I3 : Inv X pins σ H3 s3 := by
    rw [hs3, hH3]
    refine I2.laid (t' := s2.toks) (fun b o e => Heap.get?_push_of_some _ e) (Nat.le_of_eq hD.symm) ?_
    rw [hD]
    exact setK_new (freshK X.prog X.w s2.heap)
  have h3 : s3.heap = s2.heap.push { cls := .type "set", dict := none, data := .set #[] 0 (.fresh 0 0 (!X.w.params.followText "set-order")) } := by rw [hs3]
  have f3 : ∀ b ∈ fp, FpOk X pins H3 b ∧ b < s3.heap.objs.size := fun b hb => by
    obtain ⟨o, e, _⟩ := T.obj _ _ st2 b hb
    have hlt := Heap.lt_size e
    refine ⟨⟨?_, (f2 b hb).2⟩, by rw [h3, Heap.size_push]; exact Nat.lt_succ_of_lt hlt⟩
    rw [hH3, upd_ne (by rw [hD]; exact Nat.ne_of_lt hlt)]
    exact (f2 b hb).1
  have st3 : tn 0 s3.heap := T.keep _ _ _ st2 fun b _ o e => by rw [h3]; exact Heap.get?_push_of_some _ e
  have I4 := block_start I3 ok hN f3
  have pg := hg s3 H3 s3.heap.objs.size (cellsFrom (s3.heap.objs.size + 1) scope.names (cloFrom X.env.cells scope.names [])) fp
  have pt := ht s3 H3 s3.heap.objs.size (cellsFrom (s3.heap.objs.size + 1) scope.names (cloFrom X.env.cells scope.names [])) fp
  have pe := he s3 H3 s3.heap.objs.size (cellsFrom (s3.heap.objs.size + 1) scope.names (cloFrom X.env.cells scope.names [])) fp
  have nfp : ∀ b ∈ fp, H3 b = none := fun b hb => (f3 b hb).1.1
  rw [← hs3]
  show codeAny _ _ (.compStart (.SetComp elt [⟨tg, iter, ifs, 0⟩] scope pos) 0 (.ref it) (.ref D) (compEnvC scope (cellsFrom (s3.heap.objs.size + 1) scope.names (cloFrom X.env.cells scope.names [])) s3.heap.objs.size X.env)) (compPost (model X.prog X.w) X.A X.xe none (EP X pins σ Q) (.ref D) s3.heap.objs.size) { s3 with heap := pushCells (s3.heap.push { cls := .type "dict", data := .dict #[] }) scope.names }
  obtain ⟨ce, hce⟩ : ∃ ce, ce = compEnvC scope (cellsFrom (s3.heap.objs.size + 1) scope.names (cloFrom X.env.cells scope.names [])) s3.heap.objs.size X.env := ⟨_, rfl⟩
  rw [← hce] at I4 pg pt pe ⊢
  have cL : ce.locals = s3.heap.objs.size := by rw [hce]; rfl
  obtain ⟨s4, hs4⟩ : ∃ s4 : Shared, s4 = { s3 with heap := pushCells (s3.heap.push { cls := .type "dict", data := .dict #[] }) scope.names } := ⟨_, rfl⟩
  rw [← hs4] at I4 ⊢
  have st4 : tn 0 s4.heap := T.keep _ _ _ st3 fun b _ o e => by rw [hs4]; exact pushCells_keeps _ _ _ _ (Heap.get?_push_of_some _ e)
  have stat : ∀ {σ' : L2.St} {H' : Hp} {s' : Shared}, Inv (X.blk s3 H3 scope ce fp) [] σ' H' s' → (∀ b ∈ fp, H' b = none) → ∀ b ∈ fp, FpOk (X.blk s3 H3 scope ce fp) [] H' b := fun {σ' H' s'} I' hn b hb =>
    ⟨hn b hb, (I'.ok.exf b hb).1, I'.ok.exfs b hb, .inl hb, fun x c e => (I'.ok.exf b hb).2 x c e, fun p hp => absurd (show p ∈ ([] : List (Addr × Obj)) ++ [] from hp) (by simp)⟩
  have loop : codeAny (model X.prog X.w) X.A (.compLoop (.SetComp elt [⟨tg, iter, ifs, 0⟩] scope pos) 0 (.ref it) (.ref D) ce) (compPost (model X.prog X.w) X.A X.xe none (EP X pins σ Q) (.ref D) s3.heap.objs.size) s4 := by
    refine compLoopS_any (fun n s' => ∃ i H', Inv (X.blk s3 H3 scope ce fp) [] (wipe σ (own.map (·.2))) H' s' ∧ tn i s'.heap ∧ (∀ b ∈ fp, H' b = none) ∧ W i n H') ?_ m0 ⟨0, H3, I4, st4, nfp, w0⟩
    rintro n s5 ⟨i, H5, I5, st5, n5, w5⟩
    rcases turn i n H5 w5 with ⟨stop, qq⟩ | ⟨go, Nx, hNx, step⟩
    · refine thnF (T.done (X.blk s3 H3 scope ce fp) rfl rfl rfl hc i [] s5 _ H5 (fun _ _ => False) I5 (stat I5 n5) st5 stop) fun r s6 ⟨hr, I6⟩ => ?_
      subst hr
      have I7 : Inv X pins σ H5 s6 := I3.call' (ch := fp) I6.os I6.base I6.hok I6.bare fun b hb => ⟨(f3 b hb).1.2.2.2.1, (f3 b hb).1.2.1, (f3 b hb).1.2.2.2.2.1, (f3 b hb).1.2.2.2.2.2⟩
      have nC : H5 s3.heap.objs.size = none := cL ▸ (I6.free : H5 ce.locals = none)
      obtain ⟨m, hn, _⟩ := I6.loc
      have hn : s6.heap.Ns s3.heap.objs.size m := cL ▸ (hn : s6.heap.Ns ce.locals m)
      obtain ⟨f0, f1, f2, f3, f4, f5⟩ := I3.fpOk (Nat.le_refl _) nC
      exact ⟨m, hn, fun h'' sb => ⟨.ref D, H5, I7.turned (t' := s6.toks) (fun b o hb e => (sb.2 b hb).trans e) f0 f1 f3 f4 f5, rfl, qq⟩⟩
    · refine thnF (T.item (X.blk s3 H3 scope ce fp) rfl rfl rfl hc i [] s5 _ H5 (fun _ _ => False) I5 (stat I5 n5) st5 go) fun r s6 ⟨u, hr, h6⟩ => ?_
      subst hr
      refine thnF h6 fun _ s7 ⟨x, H7, I7, r7, y7, st7, n7⟩ => ?_
      have I7' := I7.pinned (stat I7 n7) (T.obj _ _ st7)
      refine thnF (pg.run _ s7 _ H7 x u _ I7' r7 (step x H7 y7)) fun _ s8 ⟨σ8, H8, I8, hw8, q8⟩ => ?_
      refine thnF (pt.run _ s8 σ8 H8 _ I8 q8) fun b s9 ⟨H9, I9, q9⟩ => ?_
      have fin : ∀ {s' : Shared} {H' : Hp}, Inv (X.blk s3 H3 scope ce fp) ([] ++ pinsAt fp s7.heap) σ8 H' s' → Nx H' → ∃ m, m < n ∧ ∃ i H', Inv (X.blk s3 H3 scope ce fp) [] (wipe σ (own.map (·.2))) H' s' ∧ tn i s'.heap ∧ (∀ b ∈ fp, H' b = none) ∧ W i m H' := fun {s' H'} I' nx => by
        obtain ⟨m', hm, w'⟩ := hNx H' nx
        have pin' : ∀ b ∈ fp, ∀ o, s7.heap.get? b = some o → s'.heap.get? b = some o ∧ H' b = none := fun b hb o e =>
          have z := I'.pin (b, o) (List.mem_append_right _ (List.mem_append_right _ (mem_pinsAt hb e)))
          ⟨z.1, z.2.1⟩
        have hl : (wipe σ (own.map (·.2))).length = σ8.length := by rw [← hw8, wipe_length]
        refine ⟨m', hm, i + 1, H', (I'.unpinned (pins := [])).weak hl (fun j v e => ?_), T.keep _ _ _ st7 fun b hb o e => (pin' b hb o e).1, fun b hb => ?_, w'⟩
        · rw [← hw8] at e
          exact (wipe_some e).1
        · obtain ⟨o, e, _⟩ := T.obj _ _ st7 b hb
          exact (pin' b hb o e).2
      cases b with
      | false =>
        simp only [Bool.false_eq_true, if_false] at q9 ⊢
        exact fin I9 q9
      | true =>
        simp only [if_true] at q9 ⊢
        refine thnF (pe.run _ s9 σ8 H9 _ I9 q9) fun z s10 ⟨yv, H10, I10, r10, c, S0, n0, ey, hD10, hz10, nx⟩ => ?_
        subst ey
        exact addK_ok (X := X.blk s3 H3 scope ce fp) I10 r10 hD10 hz10 fun s11 I11 => fin I11 nx
  exact codeAny_compStart_set loop (T.self X.A 0 _ _ _ st4 loop)
end
end DL
namespace DL
open PySem L2 PySem.Spec PySem.W PyProof PyProof.Rows PpSet
def keyR : Rv → Option Key
  | .da (.int i) => some (.inl i)
  | .da (.str x) => some (.inr x)
  | _ => none
def memK (acc : List Key) (k : Key) : Bool := acc.any fun j => decide (k = j)
def insK (acc : List Key) (k : Key) : List Key := if memK acc k = true then acc else acc ++ [k]
def scL (g : GF) (ts : TF) (e : EF) (vs : List Nat) : List PyData → En → List Key → Option (List Key × En)
  | [], ρ, acc => some (acc, ρ)
  | d :: ds, ρ, acc => ol (g (.da d) ρ) fun ρ1 => ob (ts ρ1) fun b ρ2 => if b = true then ob (e ρ2) fun x ρ3 => ol (keyR x) fun k => scL g ts e vs ds (wipeE ρ3 vs) (insK acc k) else scL g ts e vs ds (wipeE ρ2 vs) acc
/-- len({e for ..}) -/
def eLenSc (it : IF) (g : GF) (ts : TF) (e : EF) (vs : List Nat) : EF := fun ρ => ob (it ρ) fun ds ρ1 => if (decide (ds.length ≤ 60) && vs.all fun i => freeSl (ρ1.getD i .no)) = true then
  ob (scL g ts e vs ds (wipeE ρ1 vs) []) fun acc ρ2 => some (.da (.int acc.length), backE ρ1 vs ρ2) else none
structure GrowO (K : PySem.W.Frag) (t : Et) (S H : Hp) (σ : L2.St) (ρ : En) (D : Addr) (o : HO) : Prop where
  at_ : H D = some o
  s : S D = none
  b : t.B D = none
  p : t.pp ≠ some D
  o : ∀ (i : Nat) (s : Sl) (ds : List PyData), ρ[i]? = some s → s.ls = some ds → σ[i]? ≠ some (some (.ref D))
section
variable {X : Cx} {K : PySem.W.Frag} {g : GF} {ws vs : List Nat} {ts : TF} {fe : EF} {P : Program} {w : World}
theorem GrowO.step {t : Et} {S H S' H' : Hp} {σ σ' : L2.St} {ρ ρ' : En} {D : Addr} {o : HO} (G : GrowO K t S H σ ρ D o) (R' : Rep K (t.re S H σ ρ) S' H' σ' ρ') : GrowO K t S' H' σ' ρ' D o := by
  have hc : cut H σ ρ D = some o := cut_of G.at_ G.o
  refine ⟨R'.bh _ _ hc, R'.sn D (none_ne hc) G.s, G.b, G.p, fun i s ds q1 q2 q => ?_⟩
  obtain ⟨b, vs, z1, z2, z3, z4, _⟩ := R'.own i s ds q1 q2
  rw [q] at z1
  cases z1
  have z5 : cut H σ ρ D = none := z4
  rw [hc] at z5
  cases z5
theorem GrowO.sub {t : Et} {S H : Hp} {σ σ' : L2.St} {ρ ρ' : En} {D : Addr} {o : HO} (G : GrowO K t S H σ ρ D o) (h : ∀ (i : Nat) (s : Sl) (ds : List PyData), ρ'[i]? = some s → s.ls = some ds → ∃ (s' : Sl) (ds' : List PyData), ρ[i]? = some s' ∧ s'.ls = some ds' ∧ σ[i]? = σ'[i]?) : GrowO K t S H σ' ρ' D o :=
  ⟨G.at_, G.s, G.b, G.p, fun i s ds q1 q2 q => by
    obtain ⟨s', ds', z1, z2, z3⟩ := h i s ds q1 q2
    exact G.o i s' ds' z1 z2 (z3.trans q)⟩
def setO (P : Program) (w : World) (D : Addr) (acc : List Key) : HO := SetK P w D (memK acc) acc.length
theorem setO_ins (D : Addr) (acc : List Key) (c : Key) : SetK P w D (fun j => memK acc j || decide (j = c)) (if memK acc c = true then acc.length else acc.length + 1) = setO P w D (insK acc c) := by
  unfold setO insK
  by_cases h : memK acc c = true
  · rw [if_pos h, if_pos h]
    congr 1
    funext j
    by_cases hj : j = c
    · subst hj; simp [h]
    · simp [hj]
  · rw [if_neg h, if_neg h]
    rw [List.length_append, List.length_singleton]
    congr 1
    funext j
    unfold memK
    simp
theorem insK_len (acc : List Key) (k : Key) : (insK acc k).length ≤ acc.length + 1 := by
  unfold insK
  split <;> simp
theorem scW {J : It} {t : Et} {S0 : Hp} {ds : List PyData} {res : List Key} {ρe : En} {σ : L2.St} {D : Addr} {Q : Hp → Prop} {v : List Nat} (hw : ∀ j ∈ ws, j ∈ vs) (W : WalkD K J S0 ds) (hsz : ds.length ≤ 60)
    (k : ∀ H S, Rep K t S H (wipe σ vs) ρe → Same S0 S → GrowO K t S H (wipe σ vs) ρe D (setO P w D res) → Q H) :
    ∀ (m i : Nat) (H S : Hp) (ρ : En) (acc : List Key), i + m = ds.length → acc.length ≤ i → Rep K t S H (wipe σ vs) ρ → Same S0 S → GrowO K t S H (wipe σ vs) ρ D (setO P w D acc) → scL g ts fe vs (ds.drop i) ρ acc = some (res, ρe) →
      (m = 0 → J.stop i H ∧ Q H) ∧ (0 < m → J.go i H ∧ ∀ x H', J.yld i H x H' → rdG K ws g x (wipe σ vs) H' fun σ2 H2 => wipe σ2 vs = wipe σ vs ∧ rdT K ts σ2 H2 fun b H3 =>
        if b = true then rdE K fe σ2 H3 fun y H4 => ∃ (c : Key) (Sf : Key → Bool) (n : Nat), y = kV c ∧ H4 D = some (SetK P w D Sf n) ∧ n + 1 < scanBound ∧
          (∃ S' ρ' acc2, acc2.length ≤ i + 1 ∧ Rep K t S' (upd H4 D (SetK P w D (fun j => Sf j || decide (j = c)) (if Sf c = true then n else n + 1))) (wipe σ vs) ρ' ∧ Same S0 S' ∧ GrowO K t S' (upd H4 D (SetK P w D (fun j => Sf j || decide (j = c)) (if Sf c = true then n else n + 1))) (wipe σ vs) ρ' D (setO P w D acc2) ∧ scL g ts fe vs (ds.drop (i + 1)) ρ' acc2 = some (res, ρe))
        else (∃ S' ρ' acc2, acc2.length ≤ i + 1 ∧ Rep K t S' H3 (wipe σ vs) ρ' ∧ Same S0 S' ∧ GrowO K t S' H3 (wipe σ vs) ρ' D (setO P w D acc2) ∧ scL g ts fe vs (ds.drop (i + 1)) ρ' acc2 = some (res, ρe))) := by
  intro m i H S ρ acc hm ha R ss G e
  refine ⟨fun h0 => ?_, fun hp => ?_⟩
  · have hi : i = ds.length := by omega
    subst hi
    rw [List.drop_length] at e
    cases e
    exact ⟨W.st S H ss R.sh, k H S R ss G⟩
  · have hi : i < ds.length := by omega
    refine ⟨W.go i S H ss R.sh hi, fun x H' y => ?_⟩
    obtain ⟨S3, d, N, e1, e2⟩ := W.yl i S H x H' ss R.sh hi y
    have ed : ds.drop i = d :: ds.drop (i + 1) := by
      rw [List.drop_eq_getElem_cons hi]
      congr 1
      rw [List.getElem?_eq_getElem hi] at e1
      exact Option.some.inj e1
    rw [ed] at e
    obtain ⟨ρ1, q1, e⟩ := ol_some (show ol (g (.da d) ρ) (fun ρ1 => ob (ts ρ1) fun b ρ2 => if b = true then ob (fe ρ2) fun x ρ3 => ol (keyR x) fun k => scL g ts fe vs (ds.drop (i + 1)) (wipeE ρ3 vs) (insK acc k) else scL g ts fe vs (ds.drop (i + 1)) (wipeE ρ2 vs) acc) = some (res, ρe) from e)
    obtain ⟨b, ρ2, q2, e⟩ := ob_some e
    have RN := R.new N
    have GN : GrowO K t S3 H' (wipe σ vs) ρ D (setO P w D acc) := ⟨N.hh _ _ G.at_, N.fr D (none_ne G.at_) G.s, G.b, G.p, G.o⟩
    refine ⟨t.re S3 H' (wipe σ vs) ρ, S3, ρ, .da d, ρ1, RN.base, e2, q1, fun σ2 H2 S2 R2 s2 f2 l2 => ?_⟩
    have hwp : wipe σ2 vs = wipe σ vs := by
      rw [← wipe_wipe σ vs]
      exact wipe_eq l2 fun j hj => f2 j fun z => hj (hw j z)
    refine ⟨hwp, ?_⟩
    have G2 := GN.step R2
    have R2' := RN.unbase R2
    refine ⟨t.re S2 H2 σ2 ρ1, S2, ρ1, b, ρ2, R2'.base, q2, fun H4 S4 R4 s4 => ?_⟩
    have G4 := G2.step R4
    have R4' := R2'.unbase R4
    have sx : Same S0 S4 := ((ss.trans N.ss).trans s2).trans s4
    have fin : ∀ {S5 H5 : Hp} {ρ5 : En} {o5 : HO}, Rep K t S5 H5 σ2 ρ5 → GrowO K t S5 H5 σ2 ρ5 D o5 → Rep K t S5 H5 (wipe σ vs) (wipeE ρ5 vs) ∧ GrowO K t S5 H5 (wipe σ vs) (wipeE ρ5 vs) D o5 := fun {S5 H5 ρ5 o5} R5 G5 => by
      have := R5.wiped vs
      rw [hwp] at this
      refine ⟨this, G5.sub fun j s es y1 y2 => ?_⟩
      obtain ⟨h1, h2⟩ := wipeE_get y1 (ls_no y2)
      exact ⟨s, es, h2, y2, by rw [← hwp, wipe_at σ2 h1]⟩
    cases b with
    | false =>
      obtain ⟨f1, f2⟩ := fin R4' G4
      exact iteF ⟨S4, wipeE ρ2 vs, acc, by omega, f1, sx, f2, by simpa using e⟩
    | true =>
      rw [if_pos rfl] at e
      obtain ⟨z, ρ3, q3, e⟩ := ob_some e
      obtain ⟨c, q4, e⟩ := ol_some e
      refine iteT ⟨t.re S4 H4 σ2 ρ2, S4, ρ2, z, ρ3, R4'.base, q3, fun u H5 S5 R5 s5 o5 => ?_⟩
      have G5 := G4.step R5
      have R5' := R4'.unbase R5
      have hu : u = kV c := by
        cases z with
        | da d' =>
          have o6 : Da K S5 u d' := o5
          cases d' with
          | int j => cases q4; cases o6; rfl
          | str j => cases q4; cases o6; rfl
          | none => cases q4
          | bool _ => cases q4
          | list _ => cases q4
          | tuple _ => cases q4
          | dict _ => cases q4
        | fr _ => cases q4
        | bo _ => cases q4
      have hl := insK_len acc c
      refine ⟨c, _, _, hu, G5.at_, by unfold scanBound; omega, S5, wipeE ρ3 vs, insK acc c, by omega, ?_⟩
      rw [setO_ins]
      have R7 := R5'.upd_other (o := setO P w D (insK acc c)) G5.s G5.b G5.p G5.o
      have G7 : GrowO K t S5 (upd H5 D (setO P w D (insK acc c))) σ2 ρ3 D (setO P w D (insK acc c)) := ⟨upd_same, G5.s, G5.b, G5.p, G5.o⟩
      obtain ⟨f1, f2⟩ := fin R7 G7
      exact ⟨f1, sx.trans s5, f2, e⟩
theorem call_lenK : CallR X (.builtin "len") (fun xs H Q => ∃ a S n, xs = [.ref a] ∧ H a = some (SetK X.prog X.w a S n) ∧ Q (.int n) H) := by
  intro pins s σ H xs us Q I r h
  obtain ⟨a, S, n, rfl, hq, q⟩ := h
  obtain ⟨u, rfl, rx⟩ := vals1 r
  cases rx
  obtain ⟨o, es, ep, t, ho, hex, hd, _, _, hb, hf, hn⟩ := setK_get I hq
  refine call_len_set ho hex hd hf (by unfold scanBound at hb; omega) ⟨.int n, H, I.tok _, ⟨_, by rw [hn]⟩, q⟩
theorem rd_lenSc {fi : IF} (hw : ∀ j ∈ ws, j ∈ vs) : ∀ σ H Q, rdE K (eLenSc fi g ts fe vs) σ H Q → tScK P w (rdI K fi) (rdG K ws g) (rdT K ts) (rdE K fe) vs σ H fun x H1 => ∃ a S n, [x] = [V.ref a] ∧ H1 a = some (SetK P w a S n) ∧ Q (.int n) H1 := fun σ H Q ⟨t, S, ρ, r, ρ', R, e, k⟩ => by
  obtain ⟨ds, ρ1, q1, e⟩ := ob_some e
  split at e
  · rename_i hc
    rw [Bool.and_eq_true, decide_eq_true_eq, List.all_eq_true] at hc
    obtain ⟨acc, ρ2, q2, e⟩ := ob_some e
    cases e
    refine ⟨t, S, ρ, ds, ρ1, R, q1, fun J H1 S1 R1 s1 W D hD => ?_⟩
    have e0 : SetK P w D (fun _ => false) 0 = setO P w D [] := rfl
    rw [e0]
    have R2 := (R1.new (New.lay (o := setO P w D []) R1.sh hD)).wiped vs
    have hS : S1 D = none := R1.sh.free hD
    have G : GrowO K t S1 (upd H1 D (setO P w D [])) (wipe σ vs) (wipeE ρ1 vs) D (setO P w D []) := by
      refine ⟨upd_same, hS, R1.bh.free hD, fun z => R1.ph D z hD, fun i s es y1 y2 y => ?_⟩
      obtain ⟨h1, h2⟩ := wipeE_get y1 (ls_no y2)
      rw [wipe_at σ h1] at y
      obtain ⟨a, us, z1, z2, _⟩ := R1.own i s es h2 y2
      rw [y] at z1
      cases z1
      rw [hD] at z2
      cases z2
    refine ⟨fun i m H' => i + m = ds.length ∧ ∃ S' ρ' acc', acc'.length ≤ i ∧ Rep K t S' H' (wipe σ vs) ρ' ∧ Same S1 S' ∧ GrowO K t S' H' (wipe σ vs) ρ' D (setO P w D acc') ∧ scL g ts fe vs (ds.drop i) ρ' acc' = some (acc, ρ2),
      ⟨ds.length, by omega, S1, wipeE ρ1 vs, [], Nat.le_refl _, R2, Same.refl _, G, q2⟩, ?_⟩
    rintro i m H' ⟨hm, S', ρ', acc', ha, R', s', G', e'⟩
    obtain ⟨w0, w1⟩ := scW (v := vs) (Q := fun H'' => ∃ a S n, [V.ref D] = [V.ref a] ∧ H'' a = some (SetK P w a S n) ∧ Q (.int n) H'') hw W hc.1 (fun H'' S'' R'' s'' G'' => by
      have RB := R1.back hc.2 s'' R''
      exact ⟨D, _, _, rfl, G''.at_, k (.int acc.length) H'' S'' RB (s1.trans s'') (.int _)⟩) m i H' S' ρ' acc' hm ha R' s' G' e'
    by_cases h0 : m = 0
    · exact .inl (w0 h0)
    · obtain ⟨g1, g2⟩ := w1 (by omega)
      exact .inr ⟨g1, fun H2 => ∃ S' ρ' acc2, acc2.length ≤ i + 1 ∧ Rep K t S' H2 (wipe σ vs) ρ' ∧ Same S1 S' ∧ GrowO K t S' H2 (wipe σ vs) ρ' D (setO P w D acc2) ∧ scL g ts fe vs (ds.drop (i + 1)) ρ' acc2 = some (acc, ρ2),
        fun H2 ⟨S2, ρ3, acc2, l2, R3, s2, G2, e2⟩ => ⟨m - 1, by omega, by omega, S2, ρ3, acc2, l2, R3, s2, G2, e2⟩, g2⟩
  · cases e
end
section
variable {X : Cx} {elt tg iter : Expr} {ifs : List Expr} {scope : Scope} {own : List (Str × Nat)} {pos p cpos : Pos} {fi : IF} {g : GF} {ts : TF} {fe : EF} {ws : List Nat}
theorem ok_lenSc (hc : X.calm = true) (hN : X.N.Nodup) (hgl : Gl X "len") (hm : X.mg "len" = none) (hi : OkI X tg iter fi) (ok : BlkOk X.N X.env.scope scope own)
    (hg : ∀ (s : Shared) (H : Hp) (C : Addr) (cl : List (Str × Addr)) (fp : List Addr), OkG (X.blk s H scope (compEnvC scope cl C X.env) fp) tg ws g) (ht : ∀ (s : Shared) (H : Hp) (C : Addr) (cl : List (Str × Addr)) (fp : List Addr), OkTs (X.blk s H scope (compEnvC scope cl C X.env) fp) ifs ts)
    (he : ∀ (s : Shared) (H : Hp) (C : Addr) (cl : List (Str × Addr)) (fp : List Addr), OkE (X.blk s H scope (compEnvC scope cl C X.env) fp) elt fe) (hw : ∀ j ∈ ws, j ∈ own.map (·.2) := by decide) (hs : ∀ x, foldedSetIterable iter X.env x = pure x := by intro _; rfl)
    (hst : starEach [.SetComp elt [⟨tg, iter, ifs, 0⟩] scope pos] X.env = (false, eval (.SetComp elt [⟨tg, iter, ifs, 0⟩] scope pos) X.env) :: starEach [] X.env := by rfl) :
    OkE X (.Call (.Name "len" p) [.SetComp elt [⟨tg, iter, ifs, 0⟩] scope pos] [] cpos) (eLenSc fi g ts fe (own.map (·.2))) :=
  have sc : PE X (.SetComp elt [⟨tg, iter, ifs, 0⟩] scope pos) (tScK X.prog X.w (rdI X.K fi) (rdG X.K ws g) (rdT X.K ts) (rdE X.K fe) (own.map (·.2))) := pe_scK hc hN hi.run ok (fun s H C cl fp => (hg s H C cl fp).run) (fun s H C cl fp => (ht s H C cl fp).run) he hs
  pe_imp (pe_callB call_lenK hgl hm (by decide +kernel) (pa_cons sc pa_nil hst) (by decide) (by decide) hst (by rfl)) fun σ H Q h => rd_lenSc (P := X.prog) (w := X.w) hw σ H Q h
end
end DL
/-! The data layer 16: dict(..) of pairs of a text and an int, d[k]. -/
namespace DL
open PySem L2 PySem.Spec PySem.W PyProof PyProof.Rows
def pairsD : List PyData → Option (List (Str × Int))
  | [] => some []
  | .tuple [.str k, .int v] :: r => ol (pairsD r) fun m => some ((k, v) :: m)
  | _ :: _ => none
def dictD : List PyData → Option Rv
  | [.list xs] => ol (pairsD xs) fun m => if (m.map Prod.fst).Nodup then some (.da (dctD m)) else none
  | _ => none
theorem mergeK_new : ∀ (m : List (Str × Int)) (acc : List (Key × V)), (m.map Prod.fst).Nodup → (∀ x ∈ m, ∀ y ∈ acc, y.1 ≠ .inr x.1) → mergeK acc (dctK m) = acc ++ dctK m
  | [], acc, _, _ => by simp [mergeK, dctK]
  | x :: m, acc, h, d => by
    have hn := List.nodup_cons.1 h
    have e : putK acc (Sum.inr x.1 : Key) (V.int x.2) = acc ++ [(.inr x.1, .int x.2)] := by
      unfold putK
      rw [if_neg]
      intro hh
      obtain ⟨y, hy, e⟩ := List.any_eq_true.1 hh
      exact d x (by simp) y hy (by simpa using e)
    show mergeK (putK acc (Sum.inr x.1 : Key) (V.int x.2)) (dctK m) = acc ++ ((.inr x.1, .int x.2) :: dctK m)
    rw [e, mergeK_new m _ hn.2 fun y hy z hz => ?_]
    · simp
    · rcases List.mem_append.1 hz with hz | hz
      · exact d y (by simp [hy]) z hz
      · simp at hz
        subst hz
        intro e
        injection e with e
        exact hn.1 (e ▸ List.mem_map.2 ⟨y, hy, rfl⟩)
theorem pairs_ok {K : PySem.W.Frag} {S H : Hp} (ss : Same S H) : ∀ {xs : List PyData} {vs : List V} {m : List (Str × Int)}, DaAll K S vs xs → pairsD xs = some m → ∃ ps : List Addr, vs = ps.map V.ref ∧ Paired (fun p kv => SqT K H p [kV kv.1, kv.2]) ps (dctK m)
  | [], _, _, .nil, e => by
    cases e
    exact ⟨[], rfl, .nil⟩
  | x :: xs, _, m, .cons (v := v) (vs := vs) h r, e => by
    unfold pairsD at e
    split at e
    · rename_i hx; cases hx
    · rename_i k i r' hx
      cases hx
      obtain ⟨m', q, e⟩ := ol_some e
      cases e
      obtain ⟨ps, rfl, P⟩ := pairs_ok ss r q
      cases h with
      | tup h1 h2 =>
        rename_i a us
        cases h2 with
        | cons d1 h2 =>
          cases h2 with
          | cons d2 h2 =>
            cases h2
            cases d1
            cases d2
            exact ⟨a :: ps, rfl, .cons (SqT.of (ss _ _ h1)) P⟩
    · cases e
theorem okDict {K : PySem.W.Frag} : CallOk K (fun xs H Q => ∃ (a : Addr) (ps : List Addr) (kvs : List (Key × V)), xs = [.ref a] ∧ SqL K H a (ps.map V.ref) ∧ Paired (fun p kv => SqT K H p [kV kv.1, kv.2]) ps kvs ∧
    ∀ p, H p = none → Q (.ref p) (upd H p (.dK (mergeK [] kvs)))) dictD := fun S H vs ds res ss h hf Q k => by
  unfold dictD at hf
  split at hf
  · obtain ⟨m, q, hf⟩ := ol_some hf
    split at hf
    · rename_i hn
      cases hf
      obtain ⟨v, rfl, hv⟩ := h.one
      obtain ⟨a, us, rfl, ha, da⟩ := hv.lst ss
      obtain ⟨ps, rfl, P⟩ := pairs_ok ss da q
      refine ⟨a, ps, dctK m, rfl, SqL.of ha, P, fun p hp => ?_⟩
      rw [mergeK_new m [] hn (fun _ _ _ z => by simp at z), List.nil_append]
      have N := New.put (o := .dK (dctK m)) ss hp
      exact k _ _ _ N (.dct upd_same)
    · cases hf
  · cases hf
def unD : List (PyData × PyData) → Option (List (Str × Int))
  | [] => some []
  | (.str k, .int v) :: r => ol (unD r) fun m => some ((k, v) :: m)
  | _ :: _ => none
def dctOf : PyData → Option (List (Str × Int))
  | .dict ((.bool true, .none) :: r) => unD r
  | _ => none
theorem unD_map : ∀ m : List (Str × Int), unD (m.map fun x => (PyData.str x.1, PyData.int x.2)) = some m
  | [] => rfl
  | x :: m => by simp [unD, unD_map m]
theorem dctOf_mk (m : List (Str × Int)) : dctOf (dctD m) = some m := unD_map m
def lookD (m : List (Str × Int)) (k : Str) : Option Int := (m.find? fun x => decide (x.1 = k)).map (·.2)
def dgetD (d e : PyData) : Option Rv := ol (dctOf d) fun m => match e with
  | .str k => ol (lookD m k) fun v => some (.da (.int v))
  | _ => none
theorem valV_dct (m : List (Str × Int)) (k : Str) : valV (dctK m) (Sum.inr k : Key) = (lookD m k).map V.int := by
  unfold valV lookD dctK
  induction m with
  | nil => rfl
  | cons x m ih =>
    by_cases h : x.1 = k
    · simp [h]
    · have h' : ¬ ((Sum.inr x.1 : Key) = Sum.inr k) := fun e => h (by injection e)
      simp only [List.map_cons, List.find?_cons, h, h', decide_false, ih]
theorem Vw.dct {K : PySem.W.Frag} {S H : Hp} {v : V} {d : PyData} {m : List (Str × Int)} (h : Vw K S H v d) (e : dctOf d = some m) : ∃ a, v = .ref a ∧ S a = some (.dK (dctK m)) := by
  rcases h with h | ⟨a, vs, es, _, h, _⟩
  · cases h with
    | dct h =>
      rw [dctOf_mk] at e
      cases e
      exact ⟨_, rfl, h⟩
    | scr h => simp [DL.scr, dctOf] at e
    | _ => cases e
  · subst h; cases e
theorem okDget {K : PySem.W.Frag} : OpOk K (fun x y H Q => ∃ a v, x = .ref a ∧ DGet H a y (some v) ∧ Q v H) dgetD := fun S H x y d e res ss hx hy hf Q k => by
  obtain ⟨m, q, hf⟩ := ol_some hf
  cases e with
  | str kk =>
    obtain ⟨v, q2, hf⟩ := ol_some hf
    cases hf
    obtain ⟨a, rfl, ha⟩ := hx.dct q
    have hy' := hy.str
    subst hy'
    have g := DGet.k (k := (Sum.inr kk : Key)) (ss _ _ ha)
    rw [valV_dct, q2] at g
    exact ⟨a, .int v, rfl, g, k _ H S (New.refl ss) (.int v)⟩
  | _ => cases hf
section
variable {X : Cx}
theorem ok_dget {a b : Expr} {pos : Pos} {fa fb : EF} (hu : X.A.units + 1 < cLine) (ha : OkE X a fa) (hb : OkE X b fb) (hs : NoSl b := by intro _ _; rfl) : OkE X (.Subscript a b pos) (eBin dgetD fa fb) :=
  pe_imp (pe_dget hu ha hb hs) (rd_bin okDget)
end
@[simp] theorem dgetD_s (m : List (Str × Int)) (k : Str) : dgetD (dctD m) (.str k) = ol (lookD m k) fun v => some (.da (.int v)) := by
  unfold dgetD
  rw [dctOf_mk]
  rfl
end DL
/-! The data layer 17: sorted(xs) of data that can be compared place by place. -/
namespace DL
open PySem L2 PySem.Spec PySem.W PyProof PyProof.Rows
section
variable {X : Cx}
def rSortD (K : PySem.W.Frag) : List V → Hp → VK → Prop := fun vs H Q => ∃ (a : Addr) (xs : List V) (ds : List PyData), vs = [V.ref a] ∧ SqL K H a xs ∧ DpAll K H xs ds ∧ AllAlike ds ∧ Sortable ds ∧ (∀ d ∈ ds, d.depth ≤ 8) ∧
  ∀ (ys : List V) (p : Addr), EachIs (fun y d => (y, d) ∈ xs.zip ds) ys (ds.mergeSort (dataLe false id)) → H p = none → Q (.ref p) (upd H p (.lst ys))
theorem each_zip {K : PySem.W.Frag} {H : Hp} : ∀ {xs : List V} {ds : List PyData} {its : List Value}, DpAll K H xs ds → Vals xs its → EachIs (fun v d => ∃ x, RelV x v ∧ (x, d) ∈ xs.zip ds) its ds
  | _, _, _, .nil, .nil => .nil
  | x :: xs, d :: ds, v :: its, .cons h hs, .cons r rs => by
    refine .cons ⟨x, r, by simp⟩ ((each_zip hs rs).mono fun v d ⟨x, r, m⟩ => ⟨x, r, ?_⟩)
    rw [List.zip_cons_cons]
    exact List.mem_cons_of_mem _ m
theorem each_reads {pins : List (Addr × Obj)} {σ : L2.St} {H : Hp} {s : Shared} (I : Inv X pins σ H s) : ∀ {xs : List V} {ds : List PyData} {its : List Value}, DpAll X.K H xs ds → Vals xs its → EachIs (fun v d => ∃ as, Reads s.heap v d as) its ds
  | _, _, _, .nil, .nil => .nil
  | x :: xs, d :: ds, v :: its, .cons h hs, .cons r rs => .cons (Dp.reads I d x v h r) (each_reads I hs rs)
theorem each_back {P : V → PyData → Prop} : ∀ {out : List Value} {ds : List PyData}, EachIs (fun v d => ∃ x, RelV x v ∧ P x d) out ds → ∃ ys, Vals ys out ∧ EachIs P ys ds
  | _, _, .nil => ⟨[], .nil, .nil⟩
  | _, _, .cons ⟨x, r, p⟩ h => by
    obtain ⟨ys, a, b⟩ := each_back h
    exact ⟨x :: ys, .cons r a, .cons p b⟩
theorem cr_sortD (hu : X.A.units + 65 < cLine) : CallR X (.builtin "sorted") (rSortD X.K) := by
  intro pins s σ H vs us Q I r h
  obtain ⟨a, xs, ds, rfl, hs, hd, hal, hk, hdep, q⟩ := h
  obtain ⟨its, rv, hl, hz⟩ := I.list hs
  rw [Vals.ref1 r]
  have e := each_zip hd rv
  have er := each_reads I hd rv
  have hlen : ds.length = xs.length := by rw [← e.length]; exact rv.length.symm
  refine sorted_data (enc := id) (bs := ds) hl.isList e er (by simpa using hal) (by simpa using hk) (by omega) (fun d m => by have := hdep d m; show X.A.units + 2 + d.depth < cLine; omega) fun out ho eo => ?_
  obtain ⟨ep, he'⟩ := PyProof.Rows.sortedAll_at s.heap its out.toArray
  obtain ⟨ys, h1, h2⟩ := each_back eo
  have hy : ys.length ≤ sizeLine := by rw [h1.length, ho]; omega
  exact ⟨.ref _, upd H (s.heap.objs.size + 1) (.lst ys), I.laid (t' := s.toks) (fun _ _ => PyProof.Rows.sortedAll_old) (Nat.le_succ _) ⟨hy, out, ep, h1, he'⟩, rfl, q ys _ h2 (I.hok.fresh (Nat.le_succ _))⟩
end
def tup1 : PyData → Bool
  | .tuple (_ :: _) => true
  | _ => false
def notTN : PyData → Bool
  | .tuple _ => false
  | .none => false
  | _ => true
def sortOkD (xs : List PyData) : Bool := PyData.canLayAll0 xs && (xs.all fun d => xs.all fun e => alike d e) && (xs.all tup1 || xs.all notTN) && xs.all fun d => decide (d.depth ≤ 8)
def sortD : List PyData → Option Rv
  | [.list xs] => if sortOkD xs = true then some (.fr (xs.mergeSort (dataLe false id))) else none
  | _ => none
@[simp] theorem sortD_l (xs : List PyData) : sortD [.list xs] = if sortOkD xs = true then some (.fr (xs.mergeSort (dataLe false id))) else none := rfl
theorem zip_da {K : PySem.W.Frag} {S : Hp} : ∀ {xs : List V} {ds : List PyData}, DaAll K S xs ds → ∀ p ∈ xs.zip ds, Da K S p.1 p.2
  | _, _, .nil, p, h => by simp at h
  | _, _, .cons d r, p, h => by
    rw [List.zip_cons_cons] at h
    rcases List.mem_cons.1 h with rfl | h
    · exact d
    · exact zip_da r p h
theorem each_da {K : PySem.W.Frag} {S : Hp} {P : V → PyData → Prop} (hP : ∀ y d, P y d → Da K S y d) : ∀ {ys : List V} {ds : List PyData}, EachIs P ys ds → DaAll K S ys ds
  | _, _, .nil => .nil
  | _, _, .cons p h => .cons (hP _ _ p) (each_da hP h)
theorem okSort {K : PySem.W.Frag} : CallOk K (rSortD K) sortD := fun S H vs ds res ss h hf Q k => by
  unfold sortD at hf
  split at hf
  · rename_i xs
    split at hf
    · rename_i hc
      cases hf
      obtain ⟨v, rfl, hv⟩ := h.one
      obtain ⟨a, us, rfl, ha, da⟩ := hv.lst ss
      unfold sortOkD at hc
      rw [Bool.and_eq_true, Bool.and_eq_true, Bool.and_eq_true, Bool.or_eq_true] at hc
      obtain ⟨⟨⟨h1, h2⟩, h3⟩, h4⟩ := hc
      have dp : DpAll K H us xs := DaAll.dp ss da h1
      refine ⟨a, us, xs, rfl, SqL.of ha, dp, fun d m e m' => ?_, ?_, fun d m => ?_, fun ys p hy hp => ?_⟩
      · exact List.all_eq_true.1 (List.all_eq_true.1 h2 d m) e m'
      · rcases h3 with h3 | h3
        · refine .inl fun d m => ?_
          have := List.all_eq_true.1 h3 d m
          unfold tup1 at this
          split at this
          · exact ⟨_, _, rfl⟩
          · cases this
        · refine .inr fun d m => ?_
          have := List.all_eq_true.1 h3 d m
          unfold notTN at this
          split at this
          · cases this
          · cases this
          · rename_i n1 n2
            exact ⟨n2, n1⟩
      · simpa using List.all_eq_true.1 h4 d m
      · have D : DaAll K S ys _ := each_da (fun y d m => zip_da da (y, d) m) hy
        exact k _ _ _ (New.lay ss hp) ⟨p, _, rfl, hp, upd_same, ss.free hp, D⟩
    · cases hf
  · cases hf
end DL
/-! The data layer 18: for t in zip(xs, ys), one name as target. -/
namespace DL
open PySem L2 PySem.Spec PySem.W PyProof PyProof.Rows
abbrev ZG (h : Heap) (z TI TO : Addr) (f0 f1 : Value) : Prop := h.get? z = some { cls := .type "zip", dict := none, data := .fields #[f0, f1, .bool false, .ref TI, .ref TO], slots := #[] }
def Own0 (v : Value) : Prop := v = .none ∨ ∃ a : Addr, v = rawInt a
section
variable {prog : Program} {w : World} {A : Around} {E : Value → Shared → Prop} {s : Shared} {z TI TO i1 i2 : Addr} {fp1 fp2 : List Addr} {n1 n2 i : Nat} {P1 P2 : Nat → Value → Prop} {St1 St2 : Nat → Heap → Prop} {a1 a2 f0 : Value} {b1 : Bool}
theorem alive_any {a : Addr} {Q : Option Obj → Shared → Prop} (h : Q (s.heap.get? a) s) : wpAny (model prog w) A (loadIfAlive a) Q E s := fun Γ p hΓ => by
  unfold loadIfAlive
  rw [Sem.wp_loadIfAlive]
  exact wpAny_pure h Γ p hΓ
theorem own_free {Q : Bool → Shared → Prop} (hz : ZG s.heap z TI TO f0 (.bool b1)) (hf : Own0 f0) (h1 : Q true s) (h2 : ∀ h', ZG h' z TI TO f0 (.bool true) → Heap.SameBut z s.heap h' → Q false { s with heap := h' }) :
    wpAny (model prog w) A (Builtin.SmallTypes.ownedTupleIsFree (.ref z)) Q E s := by
  unfold Builtin.SmallTypes.ownedTupleIsFree
  rcases hf with rfl | ⟨a, rfl⟩
  · exact wpAny_bind (wpAny_field hz rfl (x := .none) rfl (wpAny_pure h1))
  · refine wpAny_bind (wpAny_field hz rfl (x := rawInt a) rfl ?_)
    show wpAny _ _ (loadIfAlive ((a : Int).toNat) >>= _) _ _ _
    refine wpAny_bind (alive_any ?_)
    cases hq : s.heap.get? ((a : Int).toNat) with
    | none => exact wpAny_pure h1
    | some o =>
      show wpAny _ _ (field (.ref z) 1 >>= _) _ _ _
      refine wpAny_bind (wpAny_field hz rfl (x := .bool b1) rfl ?_)
      cases b1 with
      | true => exact wpAny_pure (h2 s.heap hz ⟨rfl, fun _ _ => rfl⟩)
      | false => exact wpAny_bind (wpAny_setField_rec hz (by simp) fun h' hz' hs' => wpAny_pure (h2 h' hz' hs'))
theorem zg_item {Q : Value → Shared → Prop} (S : ZipSep2 z TI TO i1 i2 fp1 fp2) (D1 : Draws prog w A i1 fp1 n1 P1 St1) (D2 : Draws prog w A i2 fp2 n2 P2 St2)
    (hz : ZG s.heap z TI TO f0 (.bool b1)) (hf : Own0 f0) (hTI : IsTupOf2 s.heap TI (.ref i1) (.ref i2)) (hTO : IsTupOf2 s.heap TO a1 a2) (st1 : St1 i s.heap) (st2 : St2 i s.heap) (hlt1 : i < n1) (hlt2 : i < n2)
    (hQ : ∀ x1 x2 h' tk f0' b1' c1 c2, P1 i x1 → P2 i x2 → ZG h' z TI TO f0' (.bool b1') → Own0 f0' → IsTupOf2 h' TO c1 c2 → St1 (i + 1) h' → St2 (i + 1) h' → IsTupOf2 h' s.heap.objs.size x1 x2 →
      (∀ c o, c ≠ z → c ≠ TO → c ≠ i1 → c ≠ i2 → s.heap.get? c = some o → h'.get? c = some o) → Q (.ref s.heap.objs.size) { s with heap := h', toks := tk }) :
    wpAny (model prog w) A (Builtin.«zip.__next__» ⟨[.ref z], []⟩) (fun fin s' => ∃ v, fin = .done (.ret v) ∧ Q v s') E s := by
  obtain ⟨hp, g, d, tk0, os⟩ := s
  show wpAny _ _ (field (.ref z) 2 >>= _) _ _ _
  refine wpAny_bind (wpAny_field hz rfl (x := .bool false) rfl ?_)
  show wpAny _ _ (field (.ref z) 3 >>= _) _ _ _
  refine wpAny_bind (wpAny_field hz rfl (x := .ref TI) rfl ?_)
  refine wpAny_bind (wpAny_seqItems hTI rfl ?_)
  show wpAny _ _ (Builtin.SmallTypes.ownedTupleIsFree (.ref z) >>= _) _ _ _
  refine wpAny_bind (own_free hz hf ?_ fun g0 hz0 hs0 => ?_)
  · simp only [if_true]
    refine wpAny_bind (wpAny_rule ?_)
    refine wpAny_bind (wpAny_field hz rfl (x := .ref TO) rfl ?_)
    refine wpAny_bind (wpAny_setField_rec hz (by simp) fun g0 hz0 hs0 => ?_)
    replace hz0 : ZG g0 z TI TO .ellipsis (.bool b1) := hz0
    replace hs0 : Heap.SameBut z hp g0 := hs0
    refine wpAny_bind ?_
    simp only [List.zipIdx_cons, List.zipIdx_nil, List.forIn_cons, List.forIn_nil]
    refine wpAny_bind (wpAny_bind (wpAny_onRaise ?_))
    show wpAny _ _ (Builtin.SmallTypes.nextOf (.ref i1) >>= _) _ _ ⟨g0, g, d, tk0, os⟩
    refine wpAny_bind (D1.item i _ _ _ hlt1 (D1.over st1 hs0 S.zf1) fun x1 p1 tk1 hx1 sn1 hp1 => wpAny_pure ?_)
    replace hp1 : Heap.SameBut i1 g0 p1 := hp1
    have hU1 : IsTupOf2 p1 TO a1 a2 := hp1.extBut _ _ S.Ti1 (hs0.extBut _ _ S.TOz hTO)
    refine wpAny_bind (wpAny_seqItems (s := ⟨p1, g, d, tk1, os⟩) hU1 rfl ?_)
    refine wpAny_bind (updateSeq_IsTupOf2 (s := ⟨p1, g, d, tk1, os⟩) hU1 fun g1 hT1 hs1 => ?_)
    replace hT1 : IsTupOf2 g1 TO x1 a2 := hT1
    replace hs1 : Heap.SameBut TO p1 g1 := hs1
    refine wpAny_bind (wpAny_letGo (wpAny_pure ?_))
    refine wpAny_bind (wpAny_bind (wpAny_onRaise ?_))
    show wpAny _ _ (Builtin.SmallTypes.nextOf (.ref i2) >>= _) _ _ ⟨g1, g, d, tk1, os⟩
    refine wpAny_bind (D2.item i _ _ _ hlt2 (D2.over (D2.over (D2.over st2 hs0 S.zf2) hp1 S.sep1_2) hs1 S.Tf2) fun x2 p2 tk2 hx2 sn2 hp2 => wpAny_pure ?_)
    replace hp2 : Heap.SameBut i2 g1 p2 := hp2
    have hU2 : IsTupOf2 p2 TO x1 a2 := hp2.extBut _ _ S.Ti2 hT1
    refine wpAny_bind (wpAny_seqItems (s := ⟨p2, g, d, tk2, os⟩) hU2 rfl ?_)
    refine wpAny_bind (updateSeq_IsTupOf2 (s := ⟨p2, g, d, tk2, os⟩) hU2 fun g2 hT2 hs2 => ?_)
    replace hT2 : IsTupOf2 g2 TO x1 x2 := hT2
    replace hs2 : Heap.SameBut TO p2 g2 := hs2
    refine wpAny_bind (wpAny_letGo (wpAny_pure (wpAny_pure ?_)))
    refine wpAny_bind (wpAny_seqItems (s := ⟨g2, g, d, tk2, os⟩) hT2 rfl ?_)
    refine wpAny_bind (wpAny_newTuple ?_)
    have hsz : g2.objs.size = hp.objs.size := by rw [hs2.1, hp2.1, hs1.1, hp1.1, hs0.1]
    have hzz : ZG g2 z TI TO .ellipsis (.bool b1) := hs2.extBut _ _ S.TOz.symm (hp2.extBut _ _ S.zi2 (hs1.extBut _ _ S.TOz.symm (hp1.extBut _ _ S.zi1 hz0)))
    have hkk : ∀ c o, c ≠ z → c ≠ TO → c ≠ i1 → c ≠ i2 → hp.get? c = some o → g2.get? c = some o := fun c o cz cT c1 c2 e =>
      hs2.extBut _ _ cT (hp2.extBut _ _ c2 (hs1.extBut _ _ cT (hp1.extBut _ _ c1 (hs0.extBut _ _ cz e))))
    have hj1 : St1 (i + 1) g2 := D1.over (D1.over (D1.over sn1 hs1 S.Tf1) hp2 S.sep2_1) hs2 S.Tf1
    have hj2 : St2 (i + 1) g2 := D2.over sn2 hs2 S.Tf2
    have hzlt : z < g2.objs.size := Heap.lt_size hzz
    show wpAny _ _ (Builtin.SmallTypes.ownedTupleHandOut (.ref z) (.ref g2.objs.size) >>= _) _ _ ⟨g2.push { cls := .type "tuple", data := .seq #[x1, x2] }, g, d, tk2, os⟩
    refine wpAny_bind ?_
    unfold Builtin.SmallTypes.ownedTupleHandOut
    have hz₆ : ZG (g2.push { cls := .type "tuple", data := .seq #[x1, x2] }) z TI TO .ellipsis (.bool b1) := Heap.get?_push_of_some _ hzz
    refine wpAny_bind (wpAny_setField_rec hz₆ (by simp) fun h₇ hz₇ hs₇ => ?_)
    replace hz₇ : ZG h₇ z TI TO (rawInt g2.objs.size) (.bool b1) := hz₇
    refine wpAny_setField_rec hz₇ (by simp) fun h₈ hz₈ hs₈ => ?_
    replace hz₈ : ZG h₈ z TI TO (rawInt g2.objs.size) (.bool false) := hz₈
    replace hs₇ : Heap.SameBut z (g2.push { cls := .type "tuple", data := .seq #[x1, x2] }) h₇ := hs₇
    replace hs₈ : Heap.SameBut z h₇ h₈ := hs₈
    have up : ∀ c o, c ≠ z → g2.get? c = some o → h₈.get? c = some o := fun c o c1 e => hs₈.extBut _ _ c1 (hs₇.extBut _ _ c1 (Heap.get?_push_of_some _ e))
    have hT₈ : IsTupOf2 h₈ g2.objs.size x1 x2 := hs₈.extBut _ _ (Nat.ne_of_gt hzlt) (hs₇.extBut _ _ (Nat.ne_of_gt hzlt) (Heap.get?_push_size _ rfl))
    rw [hsz] at hT₈
    refine wpAny_pure ⟨_, rfl, ?_⟩
    show Q (.ref g2.objs.size) ⟨h₈, g, d, tk2, os⟩
    rw [hsz]
    exact hQ x1 x2 h₈ tk2 _ _ _ _ hx1 hx2 hz₈ (.inr ⟨_, rfl⟩) (up _ _ S.TOz hT2) (D1.frame _ _ _ hj1 fun b hb o e => up b o (fun q => S.zf1 (q ▸ hb)) e) (D2.frame _ _ _ hj2 fun b hb o e => up b o (fun q => S.zf2 (q ▸ hb)) e) hT₈ fun c o cz cT c1 c2 e => up c o cz (hkk c o cz cT c1 c2 e)
  · replace hs0 : Heap.SameBut z hp g0 := hs0
    simp only [Bool.false_eq_true, if_false]
    rw [← Array.forIn_toList]
    simp only [List.forIn_cons, List.forIn_nil]
    refine wpAny_bind (wpAny_bind (wpAny_bind (wpAny_holding ?_)))
    show wpAny _ _ (Builtin.SmallTypes.nextOf (.ref i1) >>= _) _ _ ⟨g0, g, d, tk0, os⟩
    refine wpAny_bind (D1.item i _ _ _ hlt1 (D1.over st1 hs0 S.zf1) fun x1 p1 tk1 hx1 sn1 hp1 => wpAny_pure (wpAny_pure ?_))
    replace hp1 : Heap.SameBut i1 g0 p1 := hp1
    refine wpAny_bind (wpAny_bind (wpAny_holding ?_))
    show wpAny _ _ (Builtin.SmallTypes.nextOf (.ref i2) >>= _) _ _ ⟨p1, g, d, tk1, os⟩
    refine wpAny_bind (D2.item i _ _ _ hlt2 (D2.over (D2.over st2 hs0 S.zf2) hp1 S.sep1_2) fun x2 p2 tk2 hx2 sn2 hp2 => wpAny_pure (wpAny_pure (wpAny_pure ?_)))
    replace hp2 : Heap.SameBut i2 p1 p2 := hp2
    have hsz : p2.objs.size = hp.objs.size := by rw [hp2.1, hp1.1, hs0.1]
    refine wpAny_bind (wpAny_newTuple ?_ (by show 2 ≤ sizeLine; decide))
    have up : ∀ c o, c ≠ i1 → c ≠ i2 → g0.get? c = some o → (p2.push { cls := .type "tuple", data := .seq #[x1, x2] }).get? c = some o := fun c o c1 c2 e => Heap.get?_push_of_some _ (hp2.extBut _ _ c2 (hp1.extBut _ _ c1 e))
    have hT : IsTupOf2 (p2.push { cls := .type "tuple", data := .seq #[x1, x2] }) p2.objs.size x1 x2 := Heap.get?_push_size _ rfl
    rw [hsz] at hT
    refine wpAny_pure ⟨_, rfl, ?_⟩
    show Q (.ref p2.objs.size) ⟨p2.push { cls := .type "tuple", data := .seq #[x1, x2] }, g, d, tk2, os⟩
    rw [hsz]
    exact hQ x1 x2 _ tk2 _ _ _ _ hx1 hx2 (up _ _ S.zi1 S.zi2 hz0) hf (up _ _ S.Ti1 S.Ti2 (hs0.extBut _ _ S.TOz hTO)) (D1.frame _ _ _ (D1.over sn1 hp2 S.sep2_1) fun b hb o e => Heap.get?_push_of_some _ e) (D2.frame _ _ _ sn2 fun b hb o e => Heap.get?_push_of_some _ e) hT
      fun c o cz cT c1 c2 e => up c o c1 c2 (hs0.extBut _ _ cz e)
theorem zg_end {Q : Fin → Shared → Prop} (S : ZipSep2 z TI TO i1 i2 fp1 fp2) (D1 : Draws prog w A i1 fp1 n1 P1 St1) (D2 : Draws prog w A i2 fp2 n2 P2 St2)
    (hz : ZG s.heap z TI TO f0 (.bool b1)) (hf : Own0 f0) (hTI : IsTupOf2 s.heap TI (.ref i1) (.ref i2)) (hTO : IsTupOf2 s.heap TO a1 a2) (st1 : St1 i s.heap) (st2 : St2 i s.heap) (hle1 : i ≤ n1) (hle2 : i ≤ n2) (hend : i = n1 ∨ i = n2)
    (hE : ∀ h' tk e, (∀ c o, c ≠ z → c ≠ TO → c ≠ i1 → c ≠ i2 → s.heap.get? c = some o → h'.get? c = some o) → (∃ o, h'.get? e = some o ∧ o.cls = .type "StopIteration") → E (.ref e) { s with heap := h', toks := tk }) :
    wpAny (model prog w) A (Builtin.«zip.__next__» ⟨[.ref z], []⟩) Q E s := by
  obtain ⟨hp, g, d, tk0, os⟩ := s
  show wpAny _ _ (field (.ref z) 2 >>= _) _ _ _
  refine wpAny_bind (wpAny_field hz rfl (x := .bool false) rfl ?_)
  show wpAny _ _ (field (.ref z) 3 >>= _) _ _ _
  refine wpAny_bind (wpAny_field hz rfl (x := .ref TI) rfl ?_)
  refine wpAny_bind (wpAny_seqItems hTI rfl ?_)
  show wpAny _ _ (Builtin.SmallTypes.ownedTupleIsFree (.ref z) >>= _) _ _ _
  refine wpAny_bind (own_free hz hf ?_ fun g0 hz0 hs0 => ?_)
  · simp only [if_true]
    refine wpAny_bind (wpAny_rule ?_)
    refine wpAny_bind (wpAny_field hz rfl (x := .ref TO) rfl ?_)
    refine wpAny_bind (wpAny_setField_rec hz (by simp) fun g0 hz0 hs0 => ?_)
    replace hz0 : ZG g0 z TI TO .ellipsis (.bool b1) := hz0
    replace hs0 : Heap.SameBut z hp g0 := hs0
    refine wpAny_bind ?_
    simp only [List.zipIdx_cons, List.zipIdx_nil, List.forIn_cons, List.forIn_nil]
    refine wpAny_bind (wpAny_bind (wpAny_onRaise ?_))
    show wpAny _ _ (Builtin.SmallTypes.nextOf (.ref i1) >>= _) _ _ ⟨g0, g, d, tk0, os⟩
    by_cases hlt1 : i < n1
    · refine wpAny_bind (D1.item i _ _ _ hlt1 (D1.over st1 hs0 S.zf1) fun x1 p1 tk1 hx1 sn1 hp1 => wpAny_pure ?_)
      replace hp1 : Heap.SameBut i1 g0 p1 := hp1
      have hU1 : IsTupOf2 p1 TO a1 a2 := hp1.extBut _ _ S.Ti1 (hs0.extBut _ _ S.TOz hTO)
      refine wpAny_bind (wpAny_seqItems (s := ⟨p1, g, d, tk1, os⟩) hU1 rfl ?_)
      refine wpAny_bind (updateSeq_IsTupOf2 (s := ⟨p1, g, d, tk1, os⟩) hU1 fun g1 hT1 hs1 => ?_)
      replace hT1 : IsTupOf2 g1 TO x1 a2 := hT1
      replace hs1 : Heap.SameBut TO p1 g1 := hs1
      refine wpAny_bind (wpAny_letGo (wpAny_pure ?_))
      have hi2 : i = n2 := by omega
      refine wpAny_bind (wpAny_bind (wpAny_onRaise ?_))
      show wpAny _ _ (Builtin.SmallTypes.nextOf (.ref i2) >>= _) _ _ ⟨g1, g, d, tk1, os⟩
      refine wpAny_bind (D2.done ⟨g1, g, d, tk1, os⟩ _ _ (by rw [← hi2]; exact (D2.over (D2.over (D2.over st2 hs0 S.zf2) hp1 S.sep1_2) hs1 S.Tf2)) fun q e hq he => ?_)
      replace hq : Heap.ExtBut i2 g1 q := hq
      obtain ⟨oe, hoe, hce⟩ := he
      replace hoe : q.get? e = some oe := hoe
      have hzq : ZG q z TI TO .ellipsis (.bool b1) := hq _ _ S.zi2 (hs1.extBut _ _ S.TOz.symm (hp1.extBut _ _ S.zi1 hz0))
      have hez : e ≠ z := fun x => by subst x; rw [hzq] at hoe; cases hoe; simp at hce
      refine wpAny_setField_rec (s := ⟨q, g, d, tk1, os⟩) hzq (by simp) fun q' _ hq' => ?_
      replace hq' : Heap.SameBut z q q' := hq'
      exact hE q' tk1 e (fun c o cz cT c1 c2 x => hq'.extBut _ _ cz (hq _ _ c2 (hs1.extBut _ _ cT (hp1.extBut _ _ c1 (hs0.extBut _ _ cz x))))) ⟨oe, hq'.extBut _ _ hez hoe, hce⟩
    · have hi1 : i = n1 := by omega
      refine wpAny_bind (D1.done ⟨g0, g, d, tk0, os⟩ _ _ (by rw [← hi1]; exact (D1.over st1 hs0 S.zf1)) fun q e hq he => ?_)
      replace hq : Heap.ExtBut i1 g0 q := hq
      obtain ⟨oe, hoe, hce⟩ := he
      replace hoe : q.get? e = some oe := hoe
      have hzq : ZG q z TI TO .ellipsis (.bool b1) := hq _ _ S.zi1 hz0
      have hez : e ≠ z := fun x => by subst x; rw [hzq] at hoe; cases hoe; simp at hce
      refine wpAny_setField_rec (s := ⟨q, g, d, tk0, os⟩) hzq (by simp) fun q' _ hq' => ?_
      replace hq' : Heap.SameBut z q q' := hq'
      exact hE q' tk0 e (fun c o cz cT c1 c2 x => hq'.extBut _ _ cz (hq _ _ c1 (hs0.extBut _ _ cz x))) ⟨oe, hq'.extBut _ _ hez hoe, hce⟩
  · replace hs0 : Heap.SameBut z hp g0 := hs0
    simp only [Bool.false_eq_true, if_false]
    rw [← Array.forIn_toList]
    simp only [List.forIn_cons, List.forIn_nil]
    refine wpAny_bind (wpAny_bind (wpAny_bind (wpAny_holding ?_)))
    show wpAny _ _ (Builtin.SmallTypes.nextOf (.ref i1) >>= _) _ _ ⟨g0, g, d, tk0, os⟩
    by_cases hlt1 : i < n1
    · refine wpAny_bind (D1.item i _ _ _ hlt1 (D1.over st1 hs0 S.zf1) fun x1 p1 tk1 hx1 sn1 hp1 => wpAny_pure (wpAny_pure ?_))
      replace hp1 : Heap.SameBut i1 g0 p1 := hp1
      have hi2 : i = n2 := by omega
      refine wpAny_bind (wpAny_bind (wpAny_holding ?_))
      show wpAny _ _ (Builtin.SmallTypes.nextOf (.ref i2) >>= _) _ _ ⟨p1, g, d, tk1, os⟩
      refine wpAny_bind (D2.done ⟨p1, g, d, tk1, os⟩ _ _ (by rw [← hi2]; exact (D2.over (D2.over st2 hs0 S.zf2) hp1 S.sep1_2)) fun q e hq he => ?_)
      replace hq : Heap.ExtBut i2 p1 q := hq
      exact hE q tk1 e (fun c o cz cT c1 c2 x => hq _ _ c2 (hp1.extBut _ _ c1 (hs0.extBut _ _ cz x))) he
    · have hi1 : i = n1 := by omega
      refine wpAny_bind (D1.done ⟨g0, g, d, tk0, os⟩ _ _ (by rw [← hi1]; exact (D1.over st1 hs0 S.zf1)) fun q e hq he => ?_)
      replace hq : Heap.ExtBut i1 g0 q := hq
      exact hE q tk0 e (fun c o cz cT c1 c2 x => hq _ _ c1 (hs0.extBut _ _ cz x)) he
theorem zg_next {Q : Option Value → Shared → Prop} (S : ZipSep2 z TI TO i1 i2 fp1 fp2) (D1 : Draws prog w A.in1 i1 fp1 n1 P1 St1) (D2 : Draws prog w A.in1 i2 fp2 n2 P2 St2)
    (hz : ZG s.heap z TI TO f0 (.bool b1)) (hf : Own0 f0) (hTI : IsTupOf2 s.heap TI (.ref i1) (.ref i2)) (hTO : IsTupOf2 s.heap TO a1 a2) (st1 : St1 i s.heap) (st2 : St2 i s.heap) (hlt1 : i < n1) (hlt2 : i < n2)
    (hQ : ∀ x1 x2 h' tk f0' b1' c1 c2, P1 i x1 → P2 i x2 → ZG h' z TI TO f0' (.bool b1') → Own0 f0' → IsTupOf2 h' TO c1 c2 → St1 (i + 1) h' → St2 (i + 1) h' → IsTupOf2 h' s.heap.objs.size x1 x2 →
      (∀ c o, c ≠ z → c ≠ TO → c ≠ i1 → c ≠ i2 → s.heap.get? c = some o → h'.get? c = some o) → Q (some (.ref s.heap.objs.size)) { s with heap := h', toks := tk }) :
    wpAny (model prog w) A (pyNext (.ref z)) Q E s := by
  have hT : s.TypeIs (.ref z) "zip" := ⟨_, hz, rfl⟩
  unfold pyNext
  exact wpAny_bind (wpAny_attempt (wpAny_callSpecial?_slot (name := Str.ofString "__next__") hT F.slot_zip_next
    (wpAny_call_entry F.slot_zip_next hT F.entry_zip_next (zg_item S D1 D2 hz hf hTI hTO st1 st2 hlt1 hlt2 fun x1 x2 h' tk f0' b1' c1 c2 y1 y2 y3 y4 y5 y6 y7 y8 y9 => wpAny_pure (hQ x1 x2 h' tk f0' b1' c1 c2 y1 y2 y3 y4 y5 y6 y7 y8 y9)) (F.args_zip_next_1 _))))
theorem zg_stop {Q : Option Value → Shared → Prop} (S : ZipSep2 z TI TO i1 i2 fp1 fp2) (D1 : Draws prog w A.in1 i1 fp1 n1 P1 St1) (D2 : Draws prog w A.in1 i2 fp2 n2 P2 St2)
    (hz : ZG s.heap z TI TO f0 (.bool b1)) (hf : Own0 f0) (hTI : IsTupOf2 s.heap TI (.ref i1) (.ref i2)) (hTO : IsTupOf2 s.heap TO a1 a2) (st1 : St1 i s.heap) (st2 : St2 i s.heap) (hle1 : i ≤ n1) (hle2 : i ≤ n2) (hend : i = n1 ∨ i = n2)
    (hQ : ∀ h' tk, (∀ c o, c ≠ z → c ≠ TO → c ≠ i1 → c ≠ i2 → s.heap.get? c = some o → h'.get? c = some o) → Q none { s with heap := h', toks := tk }) : wpAny (model prog w) A (pyNext (.ref z)) Q E s := by
  have hT : s.TypeIs (.ref z) "zip" := ⟨_, hz, rfl⟩
  unfold pyNext
  refine wpAny_bind (wpAny_attempt (wpAny_callSpecial?_slot (name := Str.ofString "__next__") hT F.slot_zip_next
    (wpAny_call_entry F.slot_zip_next hT F.entry_zip_next (zg_end S D1 D2 hz hf hTI hTO st1 st2 hle1 hle2 hend fun h' tk e hk he => ?_) (F.args_zip_next_1 _))))
  obtain ⟨o, ho, hc⟩ := he
  refine wpAny_bind (wpAny_isInstance (T := "StopIteration") (b := true) ⟨o, ho, hc⟩ isSubtype_stop ?_)
  exact wpAny_pure (hQ _ _ hk)
theorem zg_self {Q : Value → Shared → Prop} {f1 : Value} (hz : ZG s.heap z TI TO f0 f1) (h : Q (.ref z) s) : wpAny (model prog w) A (pyIter (.ref z)) Q E s := by
  have hT : s.TypeIs (.ref z) "zip" := ⟨_, hz, rfl⟩
  refine wpAny_pyIter_slot hT F.slot_zip_iter (wpAny_call_entry F.slot_zip_iter hT F.entry_zip_iter ?_ (F.args_zip_iter_1 _))
  show wpAny _ _ (ret (.ref z)) _ _ s
  exact wpAny_pure ⟨_, rfl, "zip", _, hT, F.slot_zip_next.lookup, h⟩
end
theorem turn_zpG {P : Program} {w : World} {K : PySem.W.Frag} {nm : Str} {tpos : Pos} (k k' : Bool) (a b N : Addr) (ha : a < N) (hb : b < N) :
    Turn P w K (.Name nm tpos) (ItZpB k k' K a b) [N + 4, N + 2, N + 3, N, N + 1] (N + 4) (fun i h => (∃ f0 b1, ZG h (N + 4) (N + 2) (N + 3) f0 (.bool b1) ∧ Own0 f0) ∧ IsTupOf2 h (N + 2) (.ref N) (.ref (N + 1)) ∧ (∃ x y, IsTupOf2 h (N + 3) x y) ∧ IsItB k h N a i ∧ IsItB k' h (N + 1) b i) where
  mem := by simp
  obj := fun i h st c hc => by
    obtain ⟨⟨f0, b1, hz, _⟩, hTI, ⟨x, y, hTO⟩, h1, h2⟩ := st
    have e' : c = N + 4 ∨ c = N + 2 ∨ c = N + 3 ∨ c = N ∨ c = N + 1 := by simpa using hc
    rcases e' with q | q | q | q | q
    · rw [q]; exact ⟨_, hz, fun v q => nomatch q⟩
    · rw [q]; exact ⟨_, hTI, fun v q => nomatch q⟩
    · rw [q]; exact ⟨_, hTO, fun v q => nomatch q⟩
    · rw [q]; exact h1.get
    · rw [q]; exact h2.get
  keep := fun i h h' st kp => by
    obtain ⟨⟨f0, b1, hz, hf⟩, hTI, ⟨x, y, hTO⟩, h1, h2⟩ := st
    exact ⟨⟨f0, b1, kp _ (by simp) _ hz, hf⟩, kp _ (by simp) _ hTI, ⟨x, y, kp _ (by simp) _ hTO⟩, h1.at fun o q => kp _ (by simp) o q, h2.at fun o q => kp _ (by simp) o q⟩
  item := by
    intro X hP hw hK hc i pins s σ H E I hf st hg
    subst hP hw hK
    obtain ⟨⟨f0, b1, hz, h0⟩, hTI, ⟨c1, c2, hTO⟩, h1, h2⟩ := st
    obtain ⟨xs, ys, x, y, hqx, hqy, hx, hy⟩ := hg
    obtain ⟨its, rv, p, _⟩ := seqB I hqx
    obtain ⟨its2, rv2, p2, _⟩ := seqB I hqy
    obtain ⟨u, hu, ru⟩ := rv.get hx
    obtain ⟨u2, hu2, ru2⟩ := rv2.get hy
    have D1 := draws_B (prog := X.prog) (w := X.w) (A := X.A.in1) (I.ok.hd hc) k N a (Nat.ne_of_lt ha) its.toArray
    have D2 := draws_B (prog := X.prog) (w := X.w) (A := X.A.in1) (I.ok.hd hc) k' (N + 1) b (Nat.ne_of_lt (Nat.lt_succ_of_lt hb)) its2.toArray
    have b1' := (List.getElem?_eq_some_iff.mp hu).1
    have b2' := (List.getElem?_eq_some_iff.mp hu2).1
    refine zg_next (zip_sep2 (N := N) (fp1 := [a]) (fp2 := [b]) (by simpa using ha) (by simpa using hb)) D1 D2 hz h0 hTI hTO ⟨h1, p⟩ ⟨h2, p2⟩ (by simpa using b1') (by simpa using b2') fun z z2 h' tk f0' b1n d1 d2 hz1 hz2 hzz hf0 hTO' st1 st2 hT hk => ?_
    have ez : z = u := by
      have hz' : its.toArray[i]? = some z := hz1
      rw [List.getElem?_toArray, hu] at hz'
      exact (Option.some.inj hz').symm
    have ez2 : z2 = u2 := by
      have hz' : its2.toArray[i]? = some z2 := hz2
      rw [List.getElem?_toArray, hu2] at hz'
      exact (Option.some.inj hz').symm
    subst ez ez2
    have sub : ∀ c ∈ ([N + 4, N + 3, N, N + 1] : List Addr), c ∈ ([N + 4, N + 2, N + 3, N, N + 1] : List Addr) := by
      intro c hc
      have e' : c = N + 4 ∨ c = N + 3 ∨ c = N ∨ c = N + 1 := by simpa using hc
      rcases e' with q | q | q | q <;> rw [q] <;> simp
    have hk' : ∀ c o, c ∉ ([N + 4, N + 3, N, N + 1] : List Addr) → s.heap.get? c = some o → h'.get? c = some o := fun c o hc e => hk c o (fun x => hc (by simp [x])) (fun x => hc (by simp [x])) (fun x => hc (by simp [x])) (fun x => hc (by simp [x])) e
    have hTT : h'.IsTuple s.heap.objs.size #[z, z2] := ⟨_, hT, rfl, _, rfl⟩
    have I1 : Inv X pins σ (upd H s.heap.objs.size (.tup [x, y])) { s with heap := h', toks := tk } :=
      I.turnedNew (ch := [N + 4, N + 3, N, N + 1]) (fun b ob hb q => hk' b ob hb q) (fun c hc => hf c (sub c hc)) (Nat.le_refl _) (new_pair ru ru2 hTT)
    refine ⟨.ref s.heap.objs.size, rfl, ?_⟩
    show wpAny _ _ (pure ()) _ _ _
    refine wpAny_pure ⟨.ref s.heap.objs.size, _, I1, rfl, ⟨s.heap.objs.size, x, y, rfl, I.hok.fresh (Nat.le_refl _), rfl, fun l hl => by rw [seqB_inj I hl hqx]; exact hx, fun l hl => by rw [seqB_inj I hl hqy]; exact hy⟩, ⟨⟨_, _, hzz, hf0⟩, hk' _ _ (by simp) hTI, ⟨_, _, hTO'⟩, st1.1, st2.1⟩, fun c hc => ?_⟩
    have hlt : c < s.heap.objs.size := by
      have e' : c = N + 4 ∨ c = N + 2 ∨ c = N + 3 ∨ c = N ∨ c = N + 1 := by simpa using hc
      obtain ⟨_, g4, _⟩ := h1.get
      obtain ⟨_, g5, _⟩ := h2.get
      rcases e' with q | q | q | q | q
      · rw [q]; exact Heap.lt_size hz
      · rw [q]; exact Heap.lt_size hTI
      · rw [q]; exact Heap.lt_size hTO
      · rw [q]; exact Heap.lt_size g4
      · rw [q]; exact Heap.lt_size g5
    rw [upd_ne (Nat.ne_of_lt hlt)]
    exact (hf c hc).1
  done := by
    intro X hP hw hK hc i pins s σ H E I hf st hg
    subst hP hw hK
    obtain ⟨⟨f0, b1, hz, h0⟩, hTI, ⟨c1, c2, hTO⟩, h1, h2⟩ := st
    obtain ⟨xs, ys, hqx, hqy, hend⟩ := hg
    obtain ⟨its, rv, p, _⟩ := seqB I hqx
    obtain ⟨its2, rv2, p2, _⟩ := seqB I hqy
    have D1 := draws_B (prog := X.prog) (w := X.w) (A := X.A.in1) (I.ok.hd hc) k N a (Nat.ne_of_lt ha) its.toArray
    have D2 := draws_B (prog := X.prog) (w := X.w) (A := X.A.in1) (I.ok.hd hc) k' (N + 1) b (Nat.ne_of_lt (Nat.lt_succ_of_lt hb)) its2.toArray
    have en : min its.toArray.size its2.toArray.size = i := by rw [List.size_toArray, List.size_toArray, ← rv.length, ← rv2.length]; exact hend
    have sub : ∀ c ∈ ([N + 4, N + 3, N, N + 1] : List Addr), c ∈ ([N + 4, N + 2, N + 3, N, N + 1] : List Addr) := by
      intro c hc
      have e' : c = N + 4 ∨ c = N + 3 ∨ c = N ∨ c = N + 1 := by simpa using hc
      rcases e' with q | q | q | q <;> rw [q] <;> simp
    refine zg_stop (zip_sep2 (N := N) (fp1 := [a]) (fp2 := [b]) (by simpa using ha) (by simpa using hb)) D1 D2 hz h0 hTI hTO ⟨h1, p⟩ ⟨h2, p2⟩ (by omega) (by omega) (by omega) fun h' tk hk => ⟨rfl, I.turnedL (ch := [N + 4, N + 3, N, N + 1]) (fun c o hc e => hk c o (fun x => hc (by simp [x])) (fun x => hc (by simp [x])) (fun x => hc (by simp [x])) (fun x => hc (by simp [x])) e) fun c hc => hf c (sub c hc)⟩
  self := fun A i s Q E st h => by
    obtain ⟨⟨f0, b1, hz, _⟩, _⟩ := st
    exact zg_self hz h
theorem pi_zpN {X : Cx} {e e2 : Expr} {ta : TA} {p pos tpos : Pos} {nm : Str} (hg : Gl X "zip") (hm : X.mg "zip" = none) (ha : PA X [e, e2] ta)
    (hs : starEach [e, e2] X.env = (false, eval e X.env) :: starEach [e2] X.env := by rfl) (hpl : (backTo pos (starEach [e2] X.env)).any (·.1) = false := by rfl) : PI X (.Name nm tpos) (.Call (.Name "zip" p) [e, e2] [] pos) (iZpB X.K ta) := by
  refine ⟨fun pins s σ H R I h => ?_⟩
  refine Call_ (ld_blt I hg hm PyProof.Rows.boot_zip (PyProof.Rows.callWith_type1 (thn (ha.run pos pins s σ H _ I h) fun us s1 ⟨vs, H1, I1, r1, q1⟩ => ?_) hs hpl))
  obtain ⟨k, k', a, b, xs, ys, ex, hqx, hqy, q⟩ := q1
  subst ex
  obtain ⟨u1, u2, rfl, r1, r2⟩ := vals2 r1
  cases (show u1 = Value.ref a from r1)
  cases (show u2 = Value.ref b from r2)
  obtain ⟨its, rv, p1, hl1⟩ := seqB I1 hqx
  obtain ⟨its2, rv2, p2, hl2⟩ := seqB I1 hqy
  refine zip_begins2 (begins_B k a its.toArray) (begins_B k' b its2.toArray) p1 p2 fun h' hz hTI hTO g1 g2 hsz hk => wpAny_pyIter_zip hz ?_
  have I2 : Inv X pins σ H1 { s1 with heap := h' } := I1.kept (t' := s1.toks) hk
  refine ⟨s1.heap.objs.size + 4, _, _, _, H1, rfl, I2, turn_zpG k k' a b s1.heap.objs.size hl1 hl2, ⟨⟨_, _, hz, .inl rfl⟩, hTI, ⟨_, _, hTO⟩, .new g1, .new g2⟩, fun c hc => ?_, q⟩
  have e' : c = s1.heap.objs.size + 4 ∨ c = s1.heap.objs.size + 2 ∨ c = s1.heap.objs.size + 3 ∨ c = s1.heap.objs.size ∨ c = s1.heap.objs.size + 1 := by simpa using hc
  have hle : s1.heap.objs.size ≤ c := by
    rcases e' with z | z | z | z | z <;> rw [z] <;> first | exact Nat.le_refl _ | exact Nat.le_add_right _ _
  exact I1.fpOk hle (I1.hok.fresh hle)
section
variable {X : Cx} {e e2 : Expr} {g : AF} {p pos tpos : Pos} {nm : Str}
theorem okI_zipN (hg : Gl X "zip") (hm : X.mg "zip" = none) (ha : OkA X [e, e2] g) (hs : starEach [e, e2] X.env = (false, eval e X.env) :: starEach [e2] X.env := by rfl) (hpl : (backTo pos (starEach [e2] X.env)).any (·.1) = false := by rfl) :
    OkI X (.Name nm tpos) (.Call (.Name "zip" p) [e, e2] [] pos) (iZip g) :=
  ⟨pi_imp (pi_zpN hg hm ha hs hpl) fun σ H Q ⟨t, S, ρ, ds, ρ', R, e, k⟩ => by
    obtain ⟨rs, ρ1, q1, e⟩ := ob_some e
    obtain ⟨ds', ρ2, q2, e⟩ := ob_some e
    obtain ⟨d, d', q3, e⟩ := ob_some e
    obtain ⟨xs, q4, e⟩ := ol_some e
    obtain ⟨ys, q5, e⟩ := ol_some e
    cases e
    refine ⟨t, S, ρ, rs, ρ1, R, q1, fun vs H1 S1 R1 s1 o1 => ?_⟩
    obtain ⟨S2, s2, R2, d2⟩ := R1.stos o1 q2
    unfold two2 at q3
    split at q3
    · cases q3
      cases d2 with
      | cons h1 h2 =>
        cases h2 with
        | cons h2 h3 =>
          cases h3
          obtain ⟨a, us, rfl, g1, g2⟩ := seq_at h1 q4
          obtain ⟨b, ws, rfl, g3, g4⟩ := seq_at h2 q5
          exact ⟨_, _, a, b, us, ws, rfl, g2 H1 R2.sh, g4 H1 R2.sh, k _ H1 S2 R2 (s1.trans s2) (walkD_zip g2 g4 g1 g3)⟩
    · cases q3⟩
end
end DL
/-! The data layer 19: set(xs), sorted(set(xs)), len(set(xs)). -/
namespace DL
open PySem L2 PySem.Spec PySem.W PyProof PyProof.Rows
section
variable {prog : Program} {w : World} {A : Around} {R : Result → Shared → Prop} {I : Addr} {fp wr : List Addr} {G : Array GenState → Array GenState → Prop} {n : Nat} {P : Nat → Value → Prop} {St : Nat → Shared → Prop}
/-- what a set holds after i items: Z i -/
structure SetZ (prog : Program) (w : World) (S : Addr) (P : Nat → Value → Prop) (Z : Nat → Heap → Prop) : Prop where
  keep : ∀ i h h', Z i h → (∀ o, h.get? S = some o → h'.get? S = some o) → Z i h'
  add : ∀ (A : Around) i v (s : Shared) (Q : Bool → Shared → Prop) (E : Value → Shared → Prop), P i v → Z i s.heap → (∀ r h' tk, Heap.SameBut S s.heap h' → s.toks ≤ tk → Z (i + 1) h' → Q r { s with heap := h', toks := tk }) → wpAny (model prog w) A (setAdd S v) Q E s
theorem upd_loop (W : WalksS prog w A.in1 I fp wr G n P St) (S : Addr) (hSf : S ∉ fp) {Z : Nat → Heap → Prop} (zz : SetZ prog w S P Z) :
    ∀ (k i : Nat) (s : Shared), n - i = k → i ≤ n → St i s → Z i s.heap → (∀ s', Moved (S :: wr) G s s' → Z n s'.heap → R (.ok (.ret .none)) s') →
      codeAny (model prog w) A (.builtin "set.update.loop" ⟨[.ref S, .ref I], []⟩) R s := by
  have hSw : S ∉ wr := fun h => hSf (W.sub _ h)
  have hsub : ∀ b ∈ wr, b ∈ S :: wr := fun b hb => List.mem_cons_of_mem _ hb
  intro k
  induction k with
  | zero =>
    intro i s hk hi hst hS hR
    have hin : i = n := by omega
    subst hin
    refine codeAny_builtin F.entry_set_update_loop ?_
    rw [Around.under_plainId F.plain_set_update_loop _]
    show wpAny _ A.in1 (pyNext (.ref I) >>= _) _ _ s
    refine wpAny_bind (W.done s _ _ hst fun s' hm => ?_)
    show wpAny _ A.in1 (ret Value.none) _ _ s'
    exact wpAny_pure (hR s' (hm.mono hsub) (zz.keep _ _ _ hS fun o e => hm.heap S _ hSw e))
  | succ k ih =>
    intro i s hk hi hst hS hR
    have hlt : i < n := by omega
    refine codeAny_builtin F.entry_set_update_loop ?_
    rw [Around.under_plainId F.plain_set_update_loop _]
    show wpAny _ A.in1 (pyNext (.ref I) >>= _) _ _ s
    refine wpAny_bind (W.item i s _ _ hlt hst fun v s' hP hst' hm => ?_)
    have hS' := zz.keep _ _ s'.heap hS fun o e => hm.heap S _ hSw e
    show wpAny _ A.in1 (holding [v] (setAdd S v) >>= _) _ _ s'
    refine wpAny_bind (wpAny_holding ?_)
    refine zz.add _ i v s' _ _ hP hS' fun r h' tk hsb htk hS2 => ?_
    refine wpAny_pure ⟨plainId_quiet F.plain_set_update_loop _, ih (i + 1) _ (by omega) hlt (W.frame _ s' _ _ hst' htk fun b hb o e => ?_) hS2 fun s'' hm'' hS'' => ?_⟩
    · rw [hsb.2 b (fun h : b = S => hSf (by rw [← h]; exact hb))]; exact e
    · refine hR s'' (Moved.trans W.gtrans ((hm.mono hsub).then_heap htk fun b o hb e => ?_) hm'') hS''
      rw [hsb.2 b (fun h : b = S => hb (by rw [h]; exact List.mem_cons_self))]; exact e
end

/-- a new set -/
abbrev freshS (w : World) : Obj := { cls := .type "set", dict := none, data := .set #[] 0 (.fresh 0 0 (!w.params.followText "set-order")) }
section
variable {prog : Program} {w : World} {A : Around} {E : Value → Shared → Prop} {s : Shared}
set_option maxHeartbeats 3200000 in
theorem call_set_Z {l : Addr} {items : Array Value} {Z : Nat → Heap → Prop} {Q : Value → Shared → Prop} (hh : A.handled = none) (hl : s.heap.IsList l items)
    (zz : SetZ prog w s.heap.objs.size (fun i v => items[i]? = some v) Z) (z0 : ∀ h' : Heap, h'.get? s.heap.objs.size = some (freshS w) → Z 0 h')
    (h : ∀ (h' : Heap) (tk : Nat), Z items.size h' → (∀ b o, s.heap.get? b = some o → h'.get? b = some o) → Q (.ref s.heap.objs.size) { s with heap := h', toks := tk }) :
    wpAny (model prog w) A (call (.type "set") [.ref l]) Q E s := by
  obtain ⟨c, tl, hmro⟩ := PySem.F.called_set.mro
  have hmade := PySem.F.called_set.made
  have hsub := PySem.F.called_set.sub
  refine wpAny_call (codeAny_of_tree ?_)
  show wpAny _ _ (callAny (.type "set") _) _ _ _
  refine wpAny_pure ⟨Code.quiet_builtin _ (by decide +kernel), codeAny_builtin PySem.F.entry_type_call ?_⟩
  rw [Around.under_plain (weight_type_call_type "set" [.ref l] []) rfl]
  have h1 := PySem.F.called_set.notType
  have h2 := PySem.F.called_set.canCreate
  have hct := PySem.F.typeCall_set_1 (.ref l)
  repeat (any_goals (first | assumption | wp_step))
  refine codeAny_mono (L2.code_set_led1 (.ref l) (E := E) (Q₁ := fun obj s₁ => obj = .ref s.heap.objs.size ∧ s₁ = { s with heap := s.heap.push (freshS w) }) ⟨rfl, rfl⟩) fun r s₁ hr => ?_
  cases r with
  | error e => exact hr
  | ok fl =>
    cases fl with
    | ret obj =>
      obtain ⟨rfl, rfl⟩ := hr
      have hS : (s.heap.push (freshS w)).get? s.heap.objs.size = some (freshS w) := Heap.get?_push_size _ rfl
      have hT : Shared.TypeIs { s with heap := s.heap.push (freshS w) } (.ref s.heap.objs.size) "set" := ⟨_, hS, rfl⟩
      have hli := PySem.F.called_set.init.lookup
      have hbi := PySem.F.called_set.init.bind (.ref s.heap.objs.size)
      repeat (any_goals (first | assumption | wp_step))
      refine codeAny_mono (codeAny_call_builtin (R := wants (fun r s₂ => r = .none ∧ ∃ h' tk, s₂ = { s with heap := h', toks := tk } ∧ Z items.size h' ∧
          (∀ b o, s.heap.get? b = some o → h'.get? b = some o)) E) PySem.F.called_set.init.plain PySem.F.entry_set_init (check_set_init_1 hT ?_)) fun r₂ s₂ hr₂ => ?_
      · obtain ⟨ol, hol, hcl, nl, hdl⟩ := hl
        obtain ⟨ocls, odict, odata, oslots⟩ := ol
        simp only at hcl hdl
        subst hcl; subst hdl
        have hol' : (s.heap.push (freshS w)).get? l = some { cls := .type "list", dict := odict, data := .seq items nl, slots := oslots } := Heap.get?_push_of_some _ hol
        have hsls := PySem.F.sub_list_set
        have hslf := PySem.F.sub_list_frozenset
        have hne : (Value.type "list" == Value.type "dict") = false := by decide
        have hl1 : (s.heap.push (freshS w)).IsList l items := ⟨_, hol', rfl, nl, rfl⟩
        unfold Builtin.«set.__init__» noKeywords Builtin.Frozenset.updateFrom
        generalize hPI : pyIter = PI
        wp_walk
        subst hPI
        refine wpAny_pyIter_list hl1 ?_
        refine wpAny_bind (wpAny_runValue ?_)
        have hlS : l < s.heap.objs.size := Heap.lt_size hol
        have hh3 : A.in1.in1.in1.handled = none := by simp [hh]
        have hneI : l ≠ (s.heap.push (freshS w)).objs.size := by
          rw [Heap.size_push]; exact Nat.ne_of_lt (Nat.lt_succ_of_lt hlS)
        have hSf : s.heap.objs.size ∉ [(s.heap.push (freshS w)).objs.size, l] := by
          rw [Heap.size_push]; simp only [List.mem_cons, List.mem_singleton, List.not_mem_nil, or_false, not_or]
          exact ⟨Nat.ne_of_lt (Nat.lt_succ_self _), Nat.ne_of_gt hlS⟩
        refine upd_loop ((Walks.list hh3 _ l hneI items).toS) s.heap.objs.size hSf zz (items.size - 0) 0 _ (by omega) (Nat.zero_le _)
          ⟨⟨_, Heap.get?_push_size _ rfl, rfl, rfl⟩, (hl1.push _)⟩ ?hS0 ?hR
        case hS0 => exact z0 _ (Heap.get?_push_of_some _ hS)
        case hR =>
          intro s' hm hS'
          obtain ⟨h', g2, d', tk', os'⟩ := s'
          have eg : g2 = s.gens := hm.gens
          have ed : d' = s.drawn := hm.drawn
          have eo : os' = s.os := hm.os
          subst eg; subst ed; subst eo
          show wpAny _ _ _ _ _ _
          refine wpAny_pure ?_
          show wpAny _ _ (ret Value.none) _ _ _
          refine wpAny_pure ⟨rfl, h', tk', rfl, hS', fun b o e => ?_⟩
          have hb0 : b < s.heap.objs.size := Heap.lt_size e
          have hb1 : b ≠ s.heap.objs.size := Nat.ne_of_lt hb0
          have hb2 : b ≠ (s.heap.push (freshS w)).objs.size := by
            rw [Heap.size_push]; exact Nat.ne_of_lt (Nat.lt_succ_of_lt hb0)
          exact hm.heap b o (by simp only [List.mem_cons, List.mem_singleton, List.not_mem_nil, or_false, not_or]; exact ⟨hb1, hb2⟩) (Heap.get?_push_of_some _ (Heap.get?_push_of_some _ e))
      · cases r₂ with
        | error e => exact hr₂
        | ok fl₂ =>
          cases fl₂ with
          | ret r =>
            obtain ⟨rfl, h', tk, rfl, hS', hk'⟩ := hr₂
            repeat (any_goals (first | assumption | wp_step))
            exact h _ _ hS' hk'
          | _ => exact hr₂.elim
    | _ => exact hr.elim
end
end DL
/-! The data layer 20: sorted(set(ints)), len(set(keys)). -/
namespace DL
open PySem L2 PySem.Spec PySem.W PyProof PyProof.Rows
def dedI (ns : List Int) : List Int := ns.foldl step_dedup []
theorem dedI_snoc (ns : List Int) (k : Int) : dedI (ns ++ [k]) = step_dedup (dedI ns) k := by
  unfold dedI
  rw [List.foldl_append]
  rfl
theorem fold_ge : ∀ (ms σ : List Int), σ.length ≤ (ms.foldl step_dedup σ).length
  | [], σ => Nat.le_refl _
  | m :: ms, σ => by
    have h := fold_ge ms (step_dedup σ m)
    have h2 := step_length σ m
    rw [List.foldl_cons]
    split at h2 <;> omega
theorem dedI_take (ns : List Int) (i : Nat) : (dedI (ns.take i)).length ≤ (dedI ns).length := by
  conv => rhs; rw [← List.take_append_drop i ns]
  unfold dedI
  rw [List.foldl_append]
  exact fold_ge _ _
theorem take_snoc {α : Type} {ns : List α} {i : Nat} (h : i < ns.length) : ns.take (i + 1) = ns.take i ++ [ns[i]] := by
  rw [List.take_succ, List.getElem?_eq_getElem h]
  rfl
theorem memK_ins (acc : List Key) (c : Key) : (fun j => memK acc j || decide (j = c)) = memK (insK acc c) := by
  funext j
  unfold insK
  by_cases h : memK acc c = true
  · rw [if_pos h]
    by_cases hj : j = c
    · subst hj; simp [h]
    · simp [hj]
  · rw [if_neg h]
    unfold memK
    simp
theorem len_ins (acc : List Key) (c : Key) : (if memK acc c = true then acc.length else acc.length + 1) = (insK acc c).length := by
  unfold insK
  by_cases h : memK acc c = true
  · rw [if_pos h, if_pos h]
  · rw [if_neg h, if_neg h, List.length_append, List.length_singleton]
section
variable {prog : Program} {w : World} {S : Addr} {items : Array Value}
theorem setZ_ints {ns : List Int} (hi : IntsAre items.toList ns) (hb : (dedI ns).length + 1 < scanBound) :
    SetZ prog w S (fun i v => items[i]? = some v) (fun i h => SetR w h S (fun k => (dedI (ns.take i)).any (· == k)) (dedI (ns.take i)).length) where
  keep i h h' R k := R.at k
  add A i v s Q E hv hZ k := by
    obtain ⟨t, rfl⟩ := IntsAre.int_at hi i v (by rw [Array.getElem?_toList]; exact hv)
    have hlt : i < ns.length := by rw [← IntsAre.length hi, Array.length_toList]; exact (Array.getElem?_eq_some_iff.mp hv).1
    have eg : ns.getD i 0 = ns[i] := by rw [List.getD_eq_getElem?_getD, List.getElem?_eq_getElem hlt]; rfl
    have ed : dedI (ns.take (i + 1)) = step_dedup (dedI (ns.take i)) (ns.getD i 0) := by rw [take_snoc hlt, dedI_snoc, eg]
    unfold setAdd
    refine wpAny_holding ?_
    refine wpAny_bind ((intKind prog w).pyHash (k := ns.getD i 0) (intKind_is _ _ _ _) ?_)
    refine setR_add_hashed (P := prog) (s := { s with toks := s.toks + 1 }) hZ (Nat.lt_of_le_of_lt (Nat.succ_le_succ (dedI_take ns i)) hb) fun h' sb R => ?_
    refine k _ h' _ sb (Nat.le_succ _) ?_
    have el : (if (dedI (ns.take i)).any (· == ns.getD i 0) = true then (dedI (ns.take i)).length else (dedI (ns.take i)).length + 1) = (dedI (ns.take (i + 1))).length := by
      rw [ed, step_length]
    rw [← el]
    exact R.congr fun k' => by rw [ed, step_any]
theorem setZ_keys {ks : List Key} {xs : List V} (hx : xs = ks.map kV) (hv : Vals xs items.toList) (hb : ks.length + 1 < scanBound) :
    SetZ prog w S (fun i v => items[i]? = some v) (fun i h => h.SetOf (mixKind prog w) S (memK ((ks.take i).foldl insK [])) ((ks.take i).foldl insK []).length) where
  keep i h h' R k := setOf_at R k
  add A i v s Q E hi hZ k := by
    have hlen : ks.length = items.size := by rw [← Array.length_toList, ← hv.length, hx, List.length_map]
    have hlt : i < ks.length := by rw [hlen]; exact (Array.getElem?_eq_some_iff.mp hi).1
    have rv : RelV (kV ks[i]) v := by
      obtain ⟨u, hu, ru⟩ := hv.get (i := i) (x := kV ks[i]) (by rw [hx, List.getElem?_map, List.getElem?_eq_getElem hlt]; rfl)
      rw [Array.getElem?_toList, hi] at hu
      cases hu
      exact ru
    have ed : (ks.take (i + 1)).foldl insK [] = insK ((ks.take i).foldl insK []) ks[i] := by rw [take_snoc hlt, List.foldl_append]; rfl
    have hle : ∀ (l acc : List Key), (l.foldl insK acc).length ≤ acc.length + l.length := by
      intro l
      induction l with
      | nil => intro acc; simp
      | cons a l ih =>
        intro acc
        have h1 := ih (insK acc a)
        have h2 := insK_len acc a
        simp only [List.foldl_cons, List.length_cons]
        omega
    have hroom : ((ks.take i).foldl insK []).length + 1 < scanBound := by
      have := hle (ks.take i) []
      rw [List.length_take] at this
      simp only [List.length_nil] at this
      omega
    unfold setAdd
    refine wpAny_holding ?_
    refine wpAny_bind ((mixKind prog w).pyHash (k := ks[i]) (kV_is rv) ?_)
    refine wpAny_setAddHashed_of (knd := mixKind prog w) (s := { s with toks := s.toks + 1 }) (kV_is rv) (key_scan rv) hZ hroom fun h' sb R => ?_
    refine k _ h' _ sb (Nat.le_succ _) ?_
    rw [ed]
    rw [← memK_ins, ← len_ins]
    exact R
end
section
variable {X : Cx}
/-- set(xs), xs a list of ints with not too many different -/
def rSetI (K : PySem.W.Frag) (w : World) : List V → Hp → VK → Prop := fun xs H Q => ∃ (a : Addr) (ns : List Int), xs = [.ref a] ∧ SqL K H a (ns.map V.int) ∧ (dedI ns).length + 1 < scanBound ∧
  ∀ p, H p = none → Q (.ref p) (upd H p (SetO w p (fun k => (dedI ns).any (· == k)) (dedI ns).length))
theorem cr_setI (hc : X.calm = true) : CallR X (.type "set") (rSetI X.K X.w) := by
  intro pins s σ H xs us Q I r h
  obtain ⟨a, ns, rfl, hs, hb, q⟩ := h
  rw [Vals.ref1 r]
  obtain ⟨its, rv, pl, hz⟩ := I.list hs
  have hi : IntsAre its ns := intsAre_of rv
  have hsz : its.toArray.size = ns.length := by rw [List.size_toArray]; exact IntsAre.length hi
  refine call_set_Z (I.ok.hd hc) pl.isList (setZ_ints (prog := X.prog) (by simpa using hi) hb) (fun h' e => ⟨_, #[], 0, _, e, ⟨rfl, rfl, rfl⟩, rfl, (fun e he => by simp at he), (by simp), (fun k => by simp [dedI]), (by decide), (by rfl), rfl, List.Pairwise.nil, by
    show _ ∨ (!X.w.params.followText "set-order") = true
    cases X.w.params.followText "set-order"
    · exact .inr rfl
    · exact .inl rfl⟩) fun h' tk hS hk => ?_
  rw [hsz, List.take_length] at hS
  exact ⟨.ref s.heap.objs.size, upd H s.heap.objs.size (SetO X.w s.heap.objs.size (fun k => (dedI ns).any (· == k)) (dedI ns).length), I.laid (t' := tk) hk (Nat.le_refl _) (setO_new hS), rfl, q _ (I.hok.fresh (Nat.le_refl _))⟩
/-- set(xs), xs a list of keys -/
def rSetKs (K : PySem.W.Frag) (P : Program) (w : World) : List V → Hp → VK → Prop := fun xs H Q => ∃ (a : Addr) (ks : List Key), xs = [.ref a] ∧ SqL K H a (ks.map kV) ∧ ks.length + 1 < scanBound ∧
  ∀ p, H p = none → Q (.ref p) (upd H p (SetK P w p (memK (ks.foldl insK [])) (ks.foldl insK []).length))
theorem cr_setK (hc : X.calm = true) : CallR X (.type "set") (rSetKs X.K X.prog X.w) := by
  intro pins s σ H xs us Q I r h
  obtain ⟨a, ks, rfl, hs, hb, q⟩ := h
  rw [Vals.ref1 r]
  obtain ⟨its, rv, pl, hz⟩ := I.list hs
  have hsz : its.toArray.size = ks.length := by rw [List.size_toArray, ← rv.length, List.length_map]
  refine call_set_Z (I.ok.hd hc) pl.isList (setZ_keys (prog := X.prog) rfl (by simpa using rv) hb) (fun h' e => ⟨_, #[], 0, _, e, ⟨rfl, rfl, rfl⟩, rfl, (fun e he => by simp at he), (fun k => by simp [memK]), (by decide), (by rfl), rfl⟩) fun h' tk hS hk => ?_
  rw [hsz, List.take_length] at hS
  exact ⟨.ref s.heap.objs.size, upd H s.heap.objs.size (SetK X.prog X.w s.heap.objs.size (memK (ks.foldl insK [])) (ks.foldl insK []).length), I.laid (t' := tk) hk (Nat.le_refl _) (setK_new hS), rfl, q _ (I.hok.fresh (Nat.le_refl _))⟩
end
/-! ### sorted(set(xs)) -/
def insI (k : Int) : List Int → List Int
  | [] => [k]
  | x :: r => if k < x then k :: x :: r else if k = x then x :: r else x :: insI k r
def srtI (ns : List Int) : List Int := ns.foldr insI []
theorem mem_insI {k j : Int} : ∀ {l : List Int}, j ∈ insI k l ↔ j = k ∨ j ∈ l
  | [] => by simp [insI]
  | x :: r => by
    unfold insI
    split
    · simp
    · split
      · rename_i h
        subst h
        simp
      · rw [List.mem_cons, mem_insI, List.mem_cons]
        constructor
        · rintro (h | h | h) <;> simp [h]
        · rintro (h | h | h) <;> simp [h]
theorem pw_insI {k : Int} : ∀ {l : List Int}, l.Pairwise (· < ·) → (insI k l).Pairwise (· < ·)
  | [], _ => by simp [insI]
  | x :: r, h => by
    have hc := List.pairwise_cons.1 h
    unfold insI
    split
    · rename_i hk
      refine List.pairwise_cons.2 ⟨fun y hy => ?_, h⟩
      rcases List.mem_cons.1 hy with rfl | hy
      · exact hk
      · have := hc.1 y hy; omega
    · split
      · exact h
      · refine List.pairwise_cons.2 ⟨fun y hy => ?_, pw_insI hc.2⟩
        rcases mem_insI.1 hy with rfl | hy
        · omega
        · exact hc.1 y hy
theorem mem_srtI {j : Int} : ∀ {ns : List Int}, j ∈ srtI ns ↔ j ∈ ns
  | [] => by simp [srtI]
  | x :: r => by
    show j ∈ insI x (srtI r) ↔ _
    rw [mem_insI, mem_srtI, List.mem_cons]
theorem pw_srtI : ∀ ns : List Int, (srtI ns).Pairwise (· < ·)
  | [] => by simp [srtI]
  | x :: r => pw_insI (pw_srtI r)
theorem ris_uniq : ∀ {a b : List Int}, a.Pairwise (· < ·) → b.Pairwise (· < ·) → (∀ k, k ∈ a ↔ k ∈ b) → a = b
  | [], [], _, _, _ => rfl
  | [], y :: b, _, _, h => absurd ((h y).2 (by simp)) (by simp)
  | x :: a, [], _, _, h => absurd ((h x).1 (by simp)) (by simp)
  | x :: a, y :: b, ha, hb, h => by
    have ca := List.pairwise_cons.1 ha
    have cb := List.pairwise_cons.1 hb
    have exy : x = y := by
      rcases List.mem_cons.1 ((h x).1 (by simp)) with e | e
      · exact e
      · rcases List.mem_cons.1 ((h y).2 (by simp)) with e2 | e2
        · exact e2.symm
        · have := ca.1 y e2
          have := cb.1 x e
          omega
    subst exy
    congr 1
    refine ris_uniq ca.2 cb.2 fun k => ⟨fun hk => ?_, fun hk => ?_⟩
    · rcases List.mem_cons.1 ((h k).1 (by simp [hk])) with e | e
      · have := ca.1 k hk; omega
      · exact e
    · rcases List.mem_cons.1 ((h k).2 (by simp [hk])) with e | e
      · have := cb.1 k hk; omega
      · exact e
theorem mem_ded : ∀ (ns σ : List Int) (k : Int), (ns.foldl step_dedup σ).any (· == k) = (σ.any (· == k) || ns.any (· == k))
  | [], σ, k => by simp
  | n :: ns, σ, k => by
    rw [List.foldl_cons, mem_ded ns, step_any, List.any_cons, Bool.or_assoc]
    congr 2
    by_cases h : k = n
    · subst h; simp
    · have h' : (n == k) = false := by simpa using fun e : n = k => h e.symm
      simp [h, h']
def sortSetD : List PyData → Option Rv
  | [.list xs] => ol (intsD xs) fun ns => if (dedI ns).length < 64 then some (.fr ((srtI ns).map .int)) else none
  | _ => none
@[simp] theorem sortSetD_l (xs : List PyData) : sortSetD [.list xs] = ol (intsD xs) fun ns => if (dedI ns).length < 64 then some (.fr ((srtI ns).map .int)) else none := rfl
theorem okSortSet {K : PySem.W.Frag} {w : World} : CallOk K (fun xs H Q => rSetI K w xs H fun x H1 => rSortedSet w [x] H1 Q) sortSetD := fun S H vs ds res ss h hf Q k => by
  unfold sortSetD at hf
  split at hf
  · obtain ⟨ns, q1, hf⟩ := ol_some hf
    split at hf
    · rename_i hc
      cases hf
      obtain ⟨v, rfl, hv⟩ := h.one
      obtain ⟨a, us, rfl, ha, da⟩ := hv.lst ss
      cases ints_of da q1
      refine ⟨a, ns, rfl, SqL.of ha, by unfold scanBound; omega, fun p hp => ⟨p, _, _, rfl, upd_same, hc, fun ms p2 hm hiff hl hp2 => ?_⟩⟩
      have em : ms = srtI ns := ris_uniq hm (pw_srtI ns) fun j => by
        rw [hiff, mem_srtI]
        show ((ns.foldl step_dedup []).any (· == j)) = true ↔ _
        rw [mem_ded]
        simp
      subst em
      have N1 : New S H S (upd H p (SetO w p (fun k => (dedI ns).any (· == k)) (dedI ns).length)) := New.lay ss hp
      have N2 := New.lay (o := .lst ((srtI ns).map V.int)) N1.sh hp2
      have h2 : H p2 = none := by
        cases q : H p2 with
        | none => rfl
        | some o => rw [N1.hh _ _ q] at hp2; cases hp2
      exact k _ _ _ (N1.trans N2) ⟨p2, _, rfl, h2, upd_same, ss.free h2, DaAll.ofInts⟩
    · cases hf
  · cases hf
/-! ### len(set(xs)) -/
def keyD : PyData → Option Key
  | .int i => some (.inl i)
  | .str x => some (.inr x)
  | _ => none
def keysD : List PyData → Option (List Key)
  | [] => some []
  | d :: ds => ol (keyD d) fun k => ol (keysD ds) fun ks => some (k :: ks)
theorem keys_of {K : PySem.W.Frag} {S : Hp} : ∀ {vs : List V} {xs : List PyData} {ks : List Key}, DaAll K S vs xs → keysD xs = some ks → vs = ks.map kV
  | _, [], _, .nil, e => by cases e; rfl
  | _, x :: xs, ks, .cons h r, e => by
    obtain ⟨k, q, e⟩ := ol_some (show ol (keyD x) (fun k => ol (keysD xs) fun ks => some (k :: ks)) = some ks from e)
    obtain ⟨ks', q2, e⟩ := ol_some e
    cases e
    rw [keys_of r q2]
    cases x with
    | int i => cases q; cases h; rfl
    | str i => cases q; cases h; rfl
    | _ => cases q
def lenSetD : List PyData → Option Rv
  | [.list xs] => ol (keysD xs) fun ks => if ks.length ≤ 1000 then some (.da (.int (ks.foldl insK []).length)) else none
  | _ => none
@[simp] theorem lenSetD_l (xs : List PyData) : lenSetD [.list xs] = ol (keysD xs) fun ks => if ks.length ≤ 1000 then some (.da (.int (ks.foldl insK []).length)) else none := rfl
theorem okLenSet {K : PySem.W.Frag} {P : Program} {w : World} : CallOk K (fun xs H Q => rSetKs K P w xs H fun x H1 => ∃ a S n, [x] = [V.ref a] ∧ H1 a = some (SetK P w a S n) ∧ Q (.int n) H1) lenSetD := fun S H vs ds res ss h hf Q k => by
  unfold lenSetD at hf
  split at hf
  · obtain ⟨ks, q1, hf⟩ := ol_some hf
    split at hf
    · rename_i hc
      cases hf
      obtain ⟨v, rfl, hv⟩ := h.one
      obtain ⟨a, us, rfl, ha, da⟩ := hv.lst ss
      cases keys_of da q1
      refine ⟨a, ks, rfl, SqL.of ha, by unfold scanBound; omega, fun p hp => ⟨p, _, _, rfl, upd_same, ?_⟩⟩
      exact k _ _ _ (New.lay ss hp) (.int _)
    · cases hf
  · cases hf
section
variable {X : Cx} {pos q p p2 : Pos} {e : Expr} {g : AF}
theorem ok_sortSet (hc : X.calm = true) (hg : Gl X "sorted") (hm : X.mg "sorted" = none) (hg2 : Gl X "set") (hm2 : X.mg "set" = none) (ha : OkA X [e] g)
    (na : starEach [e] X.env = (false, eval e X.env) :: starEach [] X.env := by rfl) : OkE X (.Call (.Name "sorted" p) [.Call (.Name "set" p2) [e] [] q] [] pos) (eCb sortSetD g) :=
  pe_imp (pe_callB (cr_sortedSet hc) hg hm (by decide +kernel) (pa_cons (pe_callTy (cr_setI hc) hg2 hm2 (by decide +kernel) ha (by decide) (by decide) na (by rfl)) pa_nil (by rfl)) (by decide) (by decide) (by rfl) (by rfl)) (rd_cb okSortSet)
theorem ok_lenSet (hc : X.calm = true) (hg : Gl X "len") (hm : X.mg "len" = none) (hg2 : Gl X "set") (hm2 : X.mg "set" = none) (ha : OkA X [e] g)
    (na : starEach [e] X.env = (false, eval e X.env) :: starEach [] X.env := by rfl) : OkE X (.Call (.Name "len" p) [.Call (.Name "set" p2) [e] [] q] [] pos) (eCb lenSetD g) :=
  pe_imp (pe_callB call_lenK hg hm (by decide +kernel) (pa_cons (pe_callTy (cr_setK hc) hg2 hm2 (by decide +kernel) ha (by decide) (by decide) na (by rfl)) pa_nil (by rfl)) (by decide) (by decide) (by rfl) (by rfl)) (rd_cb okLenSet)
end
end DL
set_option maxHeartbeats 4000000
/-! The data layer 21: a text so many times, a tuple once. -/
namespace DL
open PySem L2 PySem.Spec PySem.W PyProof PyProof.Rows
theorem tuple_mulW1 (l : Addr) (items : Array Value) (n : Nat) (dd : Option Addr) (sl : Array (Option Value)) (u : Tok) :
    Meets (Builtin.«tuple.__mul__» ⟨[.ref l, .int 1 u], []⟩) (fun _ R s => s.heap.get? l = some { cls := .type "tuple", dict := dd, data := .seq items n, slots := sl } ∧
      R (.ok (.ret (Value.ref l))) s) :=
  .of_wp fun prog w A R s h => by
    obtain ⟨hp, g, d, tk, os⟩ := s
    obtain ⟨hl, h⟩ := h
    have f1 := AutoSeq1.idx_int
    wp_walk using AutoSeq1.wpAny_loadPart' hl
    exact ⟨_, rfl, h⟩
/-- a tuple once is the tuple itself -/
def rRepT1 (K : PySem.W.Frag) : R2 := fun x y H Q => ∃ l xs, x = .ref l ∧ y = .int 1 ∧ SqT K H l xs ∧ Q x H
def repS (z : Str) (n : Nat) : Str := if n = 1 ∨ z.length = 0 then z else ⟨(List.replicate n z.cps).foldl (· ++ ·) #[]⟩
def rRepS : R2 := fun x y H Q => ∃ z k, x = .str z ∧ y = .int k ∧ 1 ≤ k ∧ k ≤ 1000 ∧ z.length ≤ 1000 ∧ Q (.str (repS z k.toNat)) H
theorem rep_size {α : Type} (a : Array α) : ∀ (n : Nat) (acc : Array α), ((List.replicate n a).foldl (· ++ ·) acc).size = acc.size + n * a.size
  | 0, acc => by simp
  | n + 1, acc => by
    rw [List.replicate_succ, List.foldl_cons, rep_size a n, Array.size_append, Nat.succ_mul]
    omega
section
variable {X : Cx}
theorem op_repT1 : OpR X (binaryOp .Mult) (rRepT1 X.K) := by
  intro pins s σ H x y v u Q I rx ry h
  obtain ⟨l, xs, rfl, rfl, hT, q⟩ := h
  cases rx
  obtain ⟨t, rfl⟩ := ry
  obtain ⟨its, r, ⟨⟨cls, dd, data, sl⟩, ho, hc, n, hd⟩, hs⟩ := I.tuple hT
  simp only at hc hd
  subst hc hd
  refine wpAny_binaryOp_repeat_ref (T := "tuple") (U := "int") (by decide) ⟨_, ho, rfl⟩ (fun s' => typeIs_int s' 1 t) noFill_tuple_mul F.fills_int_mul F.slot_int_rmul repeat_tuple F.slot_int_index.lookup
    (call_meets F.slot_int_rmul (typeIs_int s 1 t) F.entry_int_rmul (F.args_int_rmul_2 _ _) (int_rmul_tuple 1 t l its.toArray n dd sl)
      ⟨ho, rfl, ⟨_, ho, rfl⟩, call_meets F.slot_tuple_mul ⟨_, ho, rfl⟩ F.entry_tuple_mul (F.args_tuple_mul_2 _ _) (tuple_mulW1 l its.toArray n dd sl t) ⟨ho, ?_⟩⟩)
  exact ⟨.ref l, H, I, rfl, q⟩
theorem op_repS : OpR X (binaryOp .Mult) rRepS := by
  intro pins s σ H x y v u Q I rx ry h
  obtain ⟨z, k, rfl, rfl, h1, h2, hz, q⟩ := h
  obtain ⟨t, rfl⟩ := rx
  obtain ⟨t', rfl⟩ := ry
  have c0 : (decide (k < -(2 ^ 63)) || decide (k ≥ 2 ^ 63)) = false := by
    rw [decide_eq_false (by omega), decide_eq_false (by omega)] <;> rfl
  have hb : ((z.length : Nat) : Int) ≤ (2 ^ 63 - 1) / k := by
    have e1 : ((z.length : Nat) : Int) ≤ 1000 := by omega
    have e2 : (1000 : Int) ≤ (2 ^ 63 - 1) / k := (Int.le_ediv_iff_mul_le (by omega)).2 (by omega)
    omega
  have hl : Builtin.Str.tooLong (z.length * k.toNat) = false := by
    unfold Builtin.Str.tooLong
    have a1 : z.length * k.toNat ≤ 1000 * 1000 := Nat.mul_le_mul hz (by omega)
    rw [sizeLine_eq]
    exact decide_eq_false (by omega)
  refine P.mul_str c0 (fun _ _ => by omega) (fun _ _ => hl) ?_
  rw [if_neg (by omega)]
  by_cases hc : (k == 1 || z.length == 0) = true
  · rw [if_pos hc]
    have e : repS z k.toNat = z := by
      unfold repS
      rw [if_pos]
      rw [Bool.or_eq_true, beq_iff_eq, beq_iff_eq] at hc
      rcases hc with hc | hc
      · exact .inl (by omega)
      · exact .inr hc
    rw [e] at q
    exact ⟨.str z, H, I, ⟨t, rfl⟩, q⟩
  · rw [if_neg hc]
    have e : repS z k.toNat = ⟨(List.replicate k.toNat z.cps).foldl (· ++ ·) #[]⟩ := by
      unfold repS
      rw [if_neg]
      intro h
      apply hc
      rw [Bool.or_eq_true, beq_iff_eq, beq_iff_eq]
      rcases h with h | h
      · exact .inl (by omega)
      · exact .inr h
    rw [e] at q
    refine ⟨?_, .str ⟨(List.replicate k.toNat z.cps).foldl (· ++ ·) #[]⟩, H, I.tok _, ⟨_, rfl⟩, q⟩
    show ((List.replicate k.toNat z.cps).foldl (· ++ ·) #[]).size ≤ sizeLine
    rw [rep_size]
    have a1 : k.toNat * z.cps.size ≤ 1000 * 1000 := Nat.mul_le_mul (by omega) hz
    rw [sizeLine_eq]
    simp only [List.size_toArray, List.length_nil]
    omega
end
/-- as mulU, also a text so many times and a tuple once -/
def mulV : PyData → PyData → Option Rv
  | .str z, .int k => if 1 ≤ k ∧ k ≤ 1000 ∧ z.length ≤ 1000 then some (.da (.str (repS z k.toNat))) else none
  | .tuple xs, .int k => if k = 1 then some (.da (.tuple xs)) else mulU (.tuple xs) (.int k)
  | x, y => mulU x y
abbrev rMulV (K : PySem.W.Frag) : R2 := fun x y H Q => rMulU K x y H Q ∨ (rRepS x y H Q ∨ rRepT1 K x y H Q)
theorem opMulV {X : Cx} : OpR X (binaryOp .Mult) (rMulV X.K) := opMulU.or (op_repS.or op_repT1)
theorem okMulV {K : PySem.W.Frag} : OpOk K (rMulV K) mulV := fun S H x y d e res ss hx hy hf Q k => by
  unfold mulV at hf
  split at hf
  · split at hf
    · rename_i h
      cases hf
      exact .inr (.inl ⟨_, _, hx.str, hy.int, h.1, h.2.1, h.2.2, k _ H S (New.refl ss) (.str _)⟩)
    · cases hf
  · split at hf
    · rename_i h
      subst h
      cases hf
      obtain ⟨a, vs, rfl, ha, da⟩ := hx.tup
      exact .inr (.inr ⟨a, vs, rfl, hy.int, SqT.of (ss _ _ ha), k _ H S (New.refl ss) (.tup ha da)⟩)
    · exact .inl (okMulU S H _ _ _ _ res ss hx hy hf Q k)
  · exact .inl (okMulU S H _ _ _ _ res ss hx hy hf Q k)
@[simp] theorem mulV_ii (i j : Int) : mulV (.int i) (.int j) = if CMulB i j = true then some (.da (.int (i * j))) else none := rfl
@[simp] theorem mulV_ti (a : List PyData) (j : Int) : mulV (.tuple a) (.int j) = if j = 1 then some (.da (.tuple a)) else mulU (.tuple a) (.int j) := rfl
@[simp] theorem mulV_li (a : List PyData) (j : Int) : mulV (.list a) (.int j) = mulU (.list a) (.int j) := rfl
@[simp] theorem mulV_si (z : Str) (j : Int) : mulV (.str z) (.int j) = if 1 ≤ j ∧ j ≤ 1000 ∧ z.length ≤ 1000 then some (.da (.str (repS z j.toNat))) else none := rfl
end DL
/-! The data layer 22: xs += [e for t in xs] (the list walked is the frame's own). -/
namespace DL
open PySem L2 PySem.Spec PySem.W PyProof PyProof.Rows
structure WalkB (K : PySem.W.Frag) (J : It) (B S : Hp) (ds : List PyData) : Prop where
  go : ∀ i S2 H2, Same S S2 → Same S2 H2 → Same B H2 → i < ds.length → J.go i H2
  yl : ∀ i S2 H2 x H3, Same S S2 → Same S2 H2 → Same B H2 → i < ds.length → J.yld i H2 x H3 → ∃ S3 d, New S2 H2 S3 H3 ∧ ds[i]? = some d ∧ Da K S3 x d
  st : ∀ S2 H2, Same S S2 → Same S2 H2 → Same B H2 → J.stop ds.length H2
theorem walkB_own {K : PySem.W.Frag} {B S : Hp} {a : Addr} {vs : List V} {ds : List PyData} (ha : B a = some (.lst vs)) (h : DaAll K S vs ds) : WalkB K (Itl K a) B S ds := by
  have hl := h.length
  refine ⟨fun i S2 H2 s1 s2 s3 hi => ?_, fun i S2 H2 x H3 s1 s2 s3 hi y => ?_, fun S2 H2 s1 s2 s3 => ?_⟩
  · exact ⟨vs, vs[i], SqL.of (s3 _ _ ha), by simp [hl, hi]⟩
  · obtain ⟨e, y⟩ := y
    subst e
    obtain ⟨d, e1, e2⟩ := h.get (y vs (SqL.of (s3 _ _ ha)))
    exact ⟨S2, d, New.refl s2, e1, e2.mono s1⟩
  · exact ⟨vs, SqL.of (s3 _ _ ha), by rw [hl]; exact Nat.le_refl _⟩
section
variable {X : Cx} {K : PySem.W.Frag} {g : GF} {ws vs : List Nat} {ts : TF} {fe : EF}
/-- the turns of a comprehension -/
theorem lcWB {J : It} {t : Et} {S0 : Hp} {ds : List PyData} {res : List PyData} {ρe : En} {σ : L2.St} {D : Addr} {Q : Hp → Prop} {v : List Nat} (hw : ∀ j ∈ ws, j ∈ vs) (W : WalkB K J t.B S0 ds) (hsz : ds.length ≤ 16777216)
    (k : ∀ H S, Rep K t S H (wipe σ vs) ρe → Same S0 S → Grow K t S H (wipe σ vs) ρe D res → Q H) :
    ∀ (m i : Nat) (H S : Hp) (ρ : En) (acc : List PyData), i + m = ds.length → acc.length ≤ i → Rep K t S H (wipe σ vs) ρ → Same S0 S → Grow K t S H (wipe σ vs) ρ D acc → lcL g ts fe vs (ds.drop i) ρ acc = some (res, ρe) →
      (m = 0 → J.stop i H ∧ Q H) ∧ (0 < m → J.go i H ∧ ∀ x H', J.yld i H x H' → rdG K ws g x (wipe σ vs) H' fun σ2 H2 => wipe σ2 vs = wipe σ vs ∧ rdT K ts σ2 H2 fun b H3 =>
        if b = true then rdE K fe σ2 H3 fun y H4 => ∃ acc', H4 D = some (.lst acc') ∧ acc'.length < sizeLine ∧
          (∃ S' ρ' acc2, acc2.length ≤ i + 1 ∧ Rep K t S' (upd H4 D (.lst (acc' ++ [y]))) (wipe σ vs) ρ' ∧ Same S0 S' ∧ Grow K t S' (upd H4 D (.lst (acc' ++ [y]))) (wipe σ vs) ρ' D acc2 ∧ lcL g ts fe vs (ds.drop (i + 1)) ρ' acc2 = some (res, ρe))
        else (∃ S' ρ' acc2, acc2.length ≤ i + 1 ∧ Rep K t S' H3 (wipe σ vs) ρ' ∧ Same S0 S' ∧ Grow K t S' H3 (wipe σ vs) ρ' D acc2 ∧ lcL g ts fe vs (ds.drop (i + 1)) ρ' acc2 = some (res, ρe))) := by
  intro m i H S ρ acc hm ha R ss G e
  refine ⟨fun h0 => ?_, fun hp => ?_⟩
  · have hi : i = ds.length := by omega
    subst hi
    rw [List.drop_length] at e
    cases e
    exact ⟨W.st S H ss R.sh R.bh, k H S R ss G⟩
  · have hi : i < ds.length := by omega
    refine ⟨W.go i S H ss R.sh R.bh hi, fun x H' y => ?_⟩
    obtain ⟨S3, d, N, e1, e2⟩ := W.yl i S H x H' ss R.sh R.bh hi y
    have ed : ds.drop i = d :: ds.drop (i + 1) := by
      rw [List.drop_eq_getElem_cons hi]
      congr 1
      rw [List.getElem?_eq_getElem hi] at e1
      exact Option.some.inj e1
    rw [ed] at e
    obtain ⟨ρ1, q1, e⟩ := ol_some (show ol (g (.da d) ρ) (fun ρ1 => ob (ts ρ1) fun b ρ2 => if b = true then ob (fe ρ2) fun x ρ3 => ob (sto ρ3 x) fun y ρ4 => lcL g ts fe vs (ds.drop (i + 1)) (wipeE ρ4 vs) (acc ++ [y]) else lcL g ts fe vs (ds.drop (i + 1)) (wipeE ρ2 vs) acc) = some (res, ρe) from e)
    obtain ⟨b, ρ2, q2, e⟩ := ob_some e
    have RN := R.new N
    have GN : Grow K t S3 H' (wipe σ vs) ρ D acc := by
      obtain ⟨us, h1, h2⟩ := G.at_
      exact ⟨⟨us, N.hh _ _ h1, h2.mono N.ss⟩, N.fr D (none_ne h1) G.s, G.b, G.p, G.o⟩
    refine ⟨t.re S3 H' (wipe σ vs) ρ, S3, ρ, .da d, ρ1, RN.base, e2, q1, fun σ2 H2 S2 R2 s2 f2 l2 => ?_⟩
    have hwp : wipe σ2 vs = wipe σ vs := by
      rw [← wipe_wipe σ vs]
      exact wipe_eq l2 fun j hj => f2 j fun z => hj (hw j z)
    refine ⟨hwp, ?_⟩
    have G2 := GN.step R2
    have R2' := RN.unbase R2
    refine ⟨t.re S2 H2 σ2 ρ1, S2, ρ1, b, ρ2, R2'.base, q2, fun H4 S4 R4 s4 => ?_⟩
    have G4 := G2.step R4
    have R4' := R2'.unbase R4
    have sx : Same S0 S4 := ((ss.trans N.ss).trans s2).trans s4
    -- what is left of the turn: the own names forgotten
    have fin : ∀ {S5 H5 : Hp} {ρ5 : En} {acc5 : List PyData}, Rep K t S5 H5 σ2 ρ5 → Grow K t S5 H5 σ2 ρ5 D acc5 → Rep K t S5 H5 (wipe σ vs) (wipeE ρ5 vs) ∧ Grow K t S5 H5 (wipe σ vs) (wipeE ρ5 vs) D acc5 := fun {S5 H5 ρ5 acc5} R5 G5 => by
      have := R5.wiped vs
      rw [hwp] at this
      refine ⟨this, G5.sub fun j s es y1 y2 => ?_⟩
      obtain ⟨h1, h2⟩ := wipeE_get y1 (ls_no y2)
      exact ⟨s, es, h2, y2, by rw [← hwp, wipe_at σ2 h1]⟩
    cases b with
    | false =>
      obtain ⟨f1, f2⟩ := fin R4' G4
      exact iteF ⟨S4, wipeE ρ2 vs, acc, by omega, f1, sx, f2, by simpa using e⟩
    | true =>
      rw [if_pos rfl] at e
      obtain ⟨z, ρ3, q3, e⟩ := ob_some e
      obtain ⟨y', ρ4, q4, e⟩ := ob_some e
      refine iteT ⟨t.re S4 H4 σ2 ρ2, S4, ρ2, z, ρ3, R4'.base, q3, fun u H5 S5 R5 s5 o5 => ?_⟩
      have G5 := G4.step R5
      have R5' := R4'.unbase R5
      have o5' := o5.unbase R4'
      -- the item becomes data; the list that is made is no such
      have key : ∃ S6, Same S5 S6 ∧ Rep K t S6 H5 σ2 ρ4 ∧ Da K S6 u y' ∧ Grow K t S6 H5 σ2 ρ4 D acc := by
        cases z with
        | da d' =>
          cases q4
          exact ⟨S5, Same.refl _, R5', o5', G5⟩
        | fr fs =>
          cases q4
          obtain ⟨a, us, rfl, h1, h2, h3, h4, h5, h6⟩ := id o5'
          have haD : D ≠ a := fun hz => by
            subst hz
            obtain ⟨_, _, ea, _, _, g3, _⟩ := o5
            cases ea
            have g3' : cut H4 σ2 ρ2 D = none := g3
            obtain ⟨us', k1, _⟩ := G4.at_
            rw [cut_of k1 G4.o] at g3'
            cases g3'
          obtain ⟨us', k1, k2⟩ := G5.at_
          exact ⟨_, same_put h2, R5'.grow h1 h2 h3 h6, .lst upd_same (h5.mono (same_put h2)), ⟨us', k1, k2.mono (same_put h2)⟩, by rw [upd_ne haD]; exact G5.s, G5.b, G5.p, G5.o⟩
        | bo j =>
          obtain ⟨s, p1, p2⟩ := ol_some q4
          have o6 : σ2[j]? = some (some u) := o5'
          cases s with
          | no => cases p2
          | pa _ => cases p2
          | da d' =>
            cases p2
            obtain ⟨w, e3, e4⟩ := R5'.dat j _ p1
            rw [o6] at e3
            cases e3
            exact ⟨S5, Same.refl _, R5', e4, G5⟩
          | ow fs =>
            cases p2
            obtain ⟨a, us, e3, e4, e5, e6, e7, e8⟩ := R5'.own j _ fs p1 rfl
            have haD : D ≠ a := fun hz => by
              subst hz
              exact G5.o j _ fs p1 rfl e3
            rw [o6] at e3
            cases e3
            have hd := R5'.drop j
            have hg : Rep K t (upd S5 a (.lst us)) H5 σ2 (ρ3.set j .no) := hd.grow e4 e5 e6 fun l s' es y1 y2 y => by
              rcases set_get y1 with ⟨rfl, rfl, _⟩ | ⟨hl, y1⟩
              · cases y2
              · exact R5'.dis l j s' _ es fs a hl y1 y2 p1 rfl y o6
            have dv : Da K (upd S5 a (.lst us)) (.ref a) (.list fs) := .lst upd_same (e7.mono (same_put e5))
            obtain ⟨us', k1, k2⟩ := G5.at_
            have hset : Rep K t (upd S5 a (.lst us)) H5 σ2 (ρ3.set j (.da (.list fs))) := by
              have := hg.setD (i := j) dv (fun es y => by
                rcases set_get y with ⟨_, y, _⟩ | ⟨h0, _⟩
                · cases y
                · exact h0 rfl)
              rw [List.set_set] at this
              have es : σ2.set j (some (V.ref a)) = σ2 := by
                apply List.ext_getElem?
                intro l
                by_cases hl : j = l
                · subst hl
                  rw [List.getElem?_set_self (List.getElem?_eq_some_iff.mp o6).1, o6]
                · rw [List.getElem?_set_ne hl]
              rw [es] at this
              exact this
            refine ⟨_, same_put e5, hset, dv, ⟨us', k1, k2.mono (same_put e5)⟩, by rw [upd_ne haD]; exact G5.s, G5.b, G5.p, fun l s' es y1 y2 => ?_⟩
            rcases set_get y1 with ⟨rfl, rfl, _⟩ | ⟨hl, y1⟩
            · cases y2
            · exact G5.o l s' es y1 y2
      obtain ⟨S6, s6, R6, d6, G6⟩ := key
      obtain ⟨us, k1, k2⟩ := G6.at_
      have k3 : us.length < sizeLine := by rw [line_eq, k2.length]; omega
      refine ⟨us, k1, k3, S6, wipeE ρ4 vs, acc ++ [y'], by rw [List.length_append, List.length_singleton]; omega, ?_⟩
      have R7 := R6.upd_other (o := .lst (us ++ [u])) G6.s G6.b G6.p G6.o
      have G7 : Grow K t S6 (upd H5 D (.lst (us ++ [u]))) σ2 ρ4 D (acc ++ [y']) := ⟨⟨_, upd_same, k2.append (.one d6)⟩, G6.s, G6.b, G6.p, G6.o⟩
      obtain ⟨f1, f2⟩ := fin R7 G7
      exact ⟨f1, (sx.trans s5).trans s6, f2, e⟩
theorem lcL_le : ∀ (ds : List PyData) (ρ : En) (acc res : List PyData) (ρe : En), lcL g ts fe vs ds ρ acc = some (res, ρe) → res.length ≤ acc.length + ds.length
  | [], ρ, acc, res, ρe, e => by
    cases e
    simp
  | d :: ds, ρ, acc, res, ρe, e => by
    obtain ⟨ρ1, q1, e⟩ := ol_some (show ol (g (.da d) ρ) (fun ρ1 => ob (ts ρ1) fun b ρ2 => if b = true then ob (fe ρ2) fun x ρ3 => ob (sto ρ3 x) fun y ρ4 => lcL g ts fe vs ds (wipeE ρ4 vs) (acc ++ [y]) else lcL g ts fe vs ds (wipeE ρ2 vs) acc) = some (res, ρe) from e)
    obtain ⟨b, ρ2, q2, e⟩ := ob_some e
    cases b with
    | false =>
      have := lcL_le ds _ _ _ _ (by simpa using e)
      rw [List.length_cons]
      omega
    | true =>
      rw [if_pos rfl] at e
      obtain ⟨z, ρ3, q3, e⟩ := ob_some e
      obtain ⟨y', ρ4, q4, e⟩ := ob_some e
      have := lcL_le ds _ _ _ _ e
      rw [List.length_append, List.length_singleton] at this
      rw [List.length_cons]
      omega
/-- xs += [e for target in xs], xs in slot i -/
def sAugLc (i : Nat) (g : GF) (ts : TF) (e : EF) (vs : List Nat) : SF := fun ρ => match ρ[i]? with
  | some (.ow ds) => if (decide (ds.length ≤ 4096) && vs.all fun j => freeSl ((ρ.set i .no).getD j .no)) = true then
      ob (lcL g ts e vs ds (wipeE (ρ.set i .no) vs) []) fun acc ρ2 => match (backE (ρ.set i .no) vs ρ2)[i]? with
        | some .no => some (.nx ((backE (ρ.set i .no) vs ρ2).set i (.ow (ds ++ acc))))
        | _ => none
    else none
  | _ => none
theorem rd_augLc {i : Nat} (hw : ∀ j ∈ ws, j ∈ vs) : ∀ D σ H, rdS K (sAugLc i g ts fe vs) D σ H → tAug i (tLc (iList K (tVar i)) (rdG K ws g) (rdT K ts) (rdE K fe) vs) rExt2 D σ H := fun D σ H ⟨t, S, ρ, o, R, e, k⟩ => by
  unfold sAugLc at e
  split at e
  · rename_i ds hi
    split at e
    · rename_i hc
      rw [Bool.and_eq_true, decide_eq_true_eq, List.all_eq_true] at hc
      obtain ⟨acc, ρ2, q2, e⟩ := ob_some e
      split at e
      · rename_i hno
        cases e
        obtain ⟨a, us, z1, z2, z3, z4, z5, z6⟩ := R.own i _ ds hi rfl
        have hpp : t.pp ≠ some a := fun z => by
          have := z6.1 z
          cases this
        have na : ∀ (j : Nat) (s : Sl) (es : List PyData), (ρ.set i .no)[j]? = some s → s.ls = some es → σ[j]? ≠ some (some (.ref a)) := fun j s es y1 y2 y => by
          rcases set_get y1 with ⟨rfl, rfl, _⟩ | ⟨hj, y1⟩
          · cases y2
          · exact R.dis j i s _ es ds a hj y1 y2 hi rfl y z1
        have R0 := (R.drop i).base
        have B0 : (t.re S H σ (ρ.set i .no)).B a = some (.lst us) := cut_of z2 na
        have W : WalkB K (Itl K a) (t.re S H σ (ρ.set i .no)).B S ds := walkB_own B0 z5
        refine ⟨.ref a, z1, .ref a, z1, a, rfl, ⟨us, SqL.of z2⟩, fun L hL => ?_⟩
        have R2 := (R0.new (New.lay (o := .lst []) R0.sh hL)).wiped vs
        have hS : S L = none := R0.sh.free hL
        have G : Grow K (t.re S H σ (ρ.set i .no)) S (upd H L (.lst [])) (wipe σ vs) (wipeE (ρ.set i .no) vs) L [] := by
          refine ⟨⟨[], upd_same, .nil⟩, hS, R0.bh.free hL, fun z => R0.ph L z hL, fun j s es y1 y2 y => ?_⟩
          obtain ⟨h1, h2⟩ := wipeE_get y1 (ls_no y2)
          rw [wipe_at σ h1] at y
          obtain ⟨b, us', w1, w2, _⟩ := R0.own j s es h2 y2
          rw [y] at w1
          cases w1
          rw [hL] at w2
          cases w2
        refine ⟨fun j m H' => j + m = ds.length ∧ ∃ S' ρ' acc', acc'.length ≤ j ∧ Rep K (t.re S H σ (ρ.set i .no)) S' H' (wipe σ vs) ρ' ∧ Same S S' ∧ Grow K (t.re S H σ (ρ.set i .no)) S' H' (wipe σ vs) ρ' L acc' ∧ lcL g ts fe vs (ds.drop j) ρ' acc' = some (acc, ρ2),
          ⟨ds.length, by omega, S, wipeE (ρ.set i .no) vs, [], Nat.le_refl _, R2, Same.refl _, G, q2⟩, ?_⟩
        rintro j m H' ⟨hm, S', ρ', acc', ha, R', s', G', e'⟩
        have fin : ∀ H'' S'', Rep K (t.re S H σ (ρ.set i .no)) S'' H'' (wipe σ vs) ρ2 → Same S S'' → Grow K (t.re S H σ (ρ.set i .no)) S'' H'' (wipe σ vs) ρ2 L acc → acc.length ≤ ds.length → rExt2 (.ref a) (.ref L) H'' fun z H2 => D.nx (σ.set i (some z)) H2 := fun H'' S'' R'' s'' G'' hal => by
          have RB := R0.back hc.2 s'' R''
          obtain ⟨ls, k1, k2⟩ := G''.at_
          have h2 := RB.bh a _ B0
          have hus := z5.length
          have hls := k2.length
          refine ⟨a, L, us, ls, rfl, rfl, h2, k1, by rw [line_eq]; omega, ?_⟩
          have hSa : S'' a = none := RB.sn a (none_ne B0) z3
          have R3 := (R.drop i).unbase RB
          have n3 : ∀ (j : Nat) (s : Sl) (es : List PyData), (backE (ρ.set i .no) vs ρ2)[j]? = some s → s.ls = some es → σ[j]? ≠ some (some (.ref a)) := fun j s es y1 y2 y => by
            obtain ⟨b, ws', w1, w2, w3, w4, _⟩ := RB.own j s es y1 y2
            rw [y] at w1
            cases w1
            rw [B0] at w4
            cases w4
          have R4 := R3.upd_other (o := .lst (us ++ ls)) hSa z4 hpp n3
          have R5 := R4.setO (i := i) (v := .ref a) (ds := ds ++ acc) ⟨a, us ++ ls, rfl, upd_same, hSa, z4, hpp, (z5.mono s'').append k2, n3⟩ (fun es z => by rw [hno] at z; cases z)
          exact k _ _ _ R5 s'' (by rw [List.length_set])
        obtain ⟨w0, w1⟩ := lcWB (v := vs) (Q := fun H'' => rExt2 (.ref a) (.ref L) H'' fun z H2 => D.nx (σ.set i (some z)) H2) hw W (by omega) (fun H'' S'' R'' s'' G'' => by
          refine fin H'' S'' R'' s'' G'' ?_
          have := lcL_le ds _ _ _ _ q2
          simpa using this) m j H' S' ρ' acc' hm ha R' s' G' e'
        by_cases h0 : m = 0
        · exact .inl (w0 h0)
        · obtain ⟨g1, g2⟩ := w1 (by omega)
          exact .inr ⟨g1, fun H2 => ∃ S' ρ' acc2, acc2.length ≤ j + 1 ∧ Rep K (t.re S H σ (ρ.set i .no)) S' H2 (wipe σ vs) ρ' ∧ Same S S' ∧ Grow K (t.re S H σ (ρ.set i .no)) S' H2 (wipe σ vs) ρ' L acc2 ∧ lcL g ts fe vs (ds.drop (j + 1)) ρ' acc2 = some (acc, ρ2),
            fun H2 ⟨S2, ρ3, acc2, l2, R3, s2, G2, e2⟩ => ⟨m - 1, by omega, by omega, S2, ρ3, acc2, l2, R3, s2, G2, e2⟩, g2⟩
      · cases e
    · cases e
  · cases e
end
section
variable {X : Cx} {elt tg : Expr} {ifs : List Expr} {scope : Scope} {own : List (Str × Nat)} {pos : Pos} {g : GF} {ts : TF} {fe : EF} {ws : List Nat}
theorem okS_augLc {i : Nat} {y : Str} {py py2 spos : Pos} (hc : X.calm = true) (hN : X.N.Nodup) (hy : X.N[i]? = some y) (hx : Loc X.env.scope y) (ok : BlkOk X.N X.env.scope scope own)
    (hg : ∀ (s : Shared) (H : Hp) (C : Addr) (cl : List (Str × Addr)) (fp : List Addr), OkG (X.blk s H scope (compEnvC scope cl C X.env) fp) tg ws g) (ht : ∀ (s : Shared) (H : Hp) (C : Addr) (cl : List (Str × Addr)) (fp : List Addr), OkTs (X.blk s H scope (compEnvC scope cl C X.env) fp) ifs ts)
    (he : ∀ (s : Shared) (H : Hp) (C : Addr) (cl : List (Str × Addr)) (fp : List Addr), OkE (X.blk s H scope (compEnvC scope cl C X.env) fp) elt fe) (hw : ∀ j ∈ ws, j ∈ own.map (·.2) := by decide)
    (hs : ∀ x, foldedSetIterable (.Name y py2) X.env x = pure x := by intro _; rfl)
    (hv : Vis X.env.scope y := by first | exact Or.inl rfl | exact Or.inr (Or.inl rfl) | exact Or.inr (Or.inr rfl)) (hd : (y == ("__debug__" : Str)) = false := by decide) (hcd : (y == ("__classdict__" : Str)) = false := by decide)
    (hf : X.fn y = true ∨ X.env.scope.names.lookup y = some .local := by first | exact .inl rfl | exact .inr rfl | assumption) :
    OkS X (.AugAssign (.Name y py) .Add (.ListComp elt [⟨tg, .Name y py2, ifs, 0⟩] scope pos) spos) (sAugLc i g ts fe (own.map (·.2))) :=
  ps_imp (ps_aug hN hy hx (pe_lc hc hN (pi_list (pe_var hy hv hd hcd)) ok (fun s H C cl fp => (hg s H C cl fp).run) (fun s H C cl fp => (ht s H C cl fp).run) he hs) (fun pins s σ H x y v u Q I r r1 h => iop_ext pins s σ H x y v u Q I r r1 h) hf) (rd_augLc hw)
end
@[simp] theorem x_sAugLc (ρ : En) (i : Nat) (g : GF) (ts : TF) (e : EF) (vs : List Nat) : sAugLc i g ts e vs ρ = match ρ[i]? with
  | some (.ow ds) => if (decide (ds.length ≤ 4096) && vs.all fun j => freeSl ((ρ.set i .no).getD j .no)) = true then
      ob (lcL g ts e vs ds (wipeE (ρ.set i .no) vs) []) fun acc ρ2 => match (backE (ρ.set i .no) vs ρ2)[i]? with
        | some .no => some (.nx ((backE (ρ.set i .no) vs ρ2).set i (.ow (ds ++ acc))))
        | _ => none
    else none
  | _ => none := rfl
end DL
/-! The data layer 23: [e for t in xs for u in ys]. -/
namespace DL
open PySem L2 PySem.Spec PySem.W PyProof PyProof.Rows
section
variable {X : Cx} {K : PySem.W.Frag} {g : GF} {ws vs : List Nat} {ts : TF} {fe : EF}
/-- the turns of a comprehension -/
theorem lcWC {c : Nat} {J : It} {t : Et} {S0 : Hp} {ds : List PyData} {res : List PyData} {ρe : En} {σ : L2.St} {D : Addr} {Q : Hp → Prop} {v : List Nat} (hw : ∀ j ∈ ws, j ∈ vs) (W : WalkD K J S0 ds) (hsz : c + ds.length ≤ 16777216)
    (k : ∀ H S, Rep K t S H (wipe σ vs) ρe → Same S0 S → Grow K t S H (wipe σ vs) ρe D res → Q H) :
    ∀ (m i : Nat) (H S : Hp) (ρ : En) (acc : List PyData), i + m = ds.length → acc.length ≤ c + i → Rep K t S H (wipe σ vs) ρ → Same S0 S → Grow K t S H (wipe σ vs) ρ D acc → lcL g ts fe vs (ds.drop i) ρ acc = some (res, ρe) →
      (m = 0 → J.stop i H ∧ Q H) ∧ (0 < m → J.go i H ∧ ∀ x H', J.yld i H x H' → rdG K ws g x (wipe σ vs) H' fun σ2 H2 => wipe σ2 vs = wipe σ vs ∧ rdT K ts σ2 H2 fun b H3 =>
        if b = true then rdE K fe σ2 H3 fun y H4 => ∃ acc', H4 D = some (.lst acc') ∧ acc'.length < sizeLine ∧
          (∃ S' ρ' acc2, acc2.length ≤ c + (i + 1) ∧ Rep K t S' (upd H4 D (.lst (acc' ++ [y]))) (wipe σ vs) ρ' ∧ Same S0 S' ∧ Grow K t S' (upd H4 D (.lst (acc' ++ [y]))) (wipe σ vs) ρ' D acc2 ∧ lcL g ts fe vs (ds.drop (i + 1)) ρ' acc2 = some (res, ρe))
        else (∃ S' ρ' acc2, acc2.length ≤ c + (i + 1) ∧ Rep K t S' H3 (wipe σ vs) ρ' ∧ Same S0 S' ∧ Grow K t S' H3 (wipe σ vs) ρ' D acc2 ∧ lcL g ts fe vs (ds.drop (i + 1)) ρ' acc2 = some (res, ρe))) := by
  intro m i H S ρ acc hm ha R ss G e
  refine ⟨fun h0 => ?_, fun hp => ?_⟩
  · have hi : i = ds.length := by omega
    subst hi
    rw [List.drop_length] at e
    cases e
    exact ⟨W.st S H ss R.sh, k H S R ss G⟩
  · have hi : i < ds.length := by omega
    refine ⟨W.go i S H ss R.sh hi, fun x H' y => ?_⟩
    obtain ⟨S3, d, N, e1, e2⟩ := W.yl i S H x H' ss R.sh hi y
    have ed : ds.drop i = d :: ds.drop (i + 1) := by
      rw [List.drop_eq_getElem_cons hi]
      congr 1
      rw [List.getElem?_eq_getElem hi] at e1
      exact Option.some.inj e1
    rw [ed] at e
    obtain ⟨ρ1, q1, e⟩ := ol_some (show ol (g (.da d) ρ) (fun ρ1 => ob (ts ρ1) fun b ρ2 => if b = true then ob (fe ρ2) fun x ρ3 => ob (sto ρ3 x) fun y ρ4 => lcL g ts fe vs (ds.drop (i + 1)) (wipeE ρ4 vs) (acc ++ [y]) else lcL g ts fe vs (ds.drop (i + 1)) (wipeE ρ2 vs) acc) = some (res, ρe) from e)
    obtain ⟨b, ρ2, q2, e⟩ := ob_some e
    have RN := R.new N
    have GN : Grow K t S3 H' (wipe σ vs) ρ D acc := by
      obtain ⟨us, h1, h2⟩ := G.at_
      exact ⟨⟨us, N.hh _ _ h1, h2.mono N.ss⟩, N.fr D (none_ne h1) G.s, G.b, G.p, G.o⟩
    refine ⟨t.re S3 H' (wipe σ vs) ρ, S3, ρ, .da d, ρ1, RN.base, e2, q1, fun σ2 H2 S2 R2 s2 f2 l2 => ?_⟩
    have hwp : wipe σ2 vs = wipe σ vs := by
      rw [← wipe_wipe σ vs]
      exact wipe_eq l2 fun j hj => f2 j fun z => hj (hw j z)
    refine ⟨hwp, ?_⟩
    have G2 := GN.step R2
    have R2' := RN.unbase R2
    refine ⟨t.re S2 H2 σ2 ρ1, S2, ρ1, b, ρ2, R2'.base, q2, fun H4 S4 R4 s4 => ?_⟩
    have G4 := G2.step R4
    have R4' := R2'.unbase R4
    have sx : Same S0 S4 := ((ss.trans N.ss).trans s2).trans s4
    -- what is left of the turn: the own names forgotten
    have fin : ∀ {S5 H5 : Hp} {ρ5 : En} {acc5 : List PyData}, Rep K t S5 H5 σ2 ρ5 → Grow K t S5 H5 σ2 ρ5 D acc5 → Rep K t S5 H5 (wipe σ vs) (wipeE ρ5 vs) ∧ Grow K t S5 H5 (wipe σ vs) (wipeE ρ5 vs) D acc5 := fun {S5 H5 ρ5 acc5} R5 G5 => by
      have := R5.wiped vs
      rw [hwp] at this
      refine ⟨this, G5.sub fun j s es y1 y2 => ?_⟩
      obtain ⟨h1, h2⟩ := wipeE_get y1 (ls_no y2)
      exact ⟨s, es, h2, y2, by rw [← hwp, wipe_at σ2 h1]⟩
    cases b with
    | false =>
      obtain ⟨f1, f2⟩ := fin R4' G4
      exact iteF ⟨S4, wipeE ρ2 vs, acc, by omega, f1, sx, f2, by simpa using e⟩
    | true =>
      rw [if_pos rfl] at e
      obtain ⟨z, ρ3, q3, e⟩ := ob_some e
      obtain ⟨y', ρ4, q4, e⟩ := ob_some e
      refine iteT ⟨t.re S4 H4 σ2 ρ2, S4, ρ2, z, ρ3, R4'.base, q3, fun u H5 S5 R5 s5 o5 => ?_⟩
      have G5 := G4.step R5
      have R5' := R4'.unbase R5
      have o5' := o5.unbase R4'
      -- the item becomes data; the list that is made is no such
      have key : ∃ S6, Same S5 S6 ∧ Rep K t S6 H5 σ2 ρ4 ∧ Da K S6 u y' ∧ Grow K t S6 H5 σ2 ρ4 D acc := by
        cases z with
        | da d' =>
          cases q4
          exact ⟨S5, Same.refl _, R5', o5', G5⟩
        | fr fs =>
          cases q4
          obtain ⟨a, us, rfl, h1, h2, h3, h4, h5, h6⟩ := id o5'
          have haD : D ≠ a := fun hz => by
            subst hz
            obtain ⟨_, _, ea, _, _, g3, _⟩ := o5
            cases ea
            have g3' : cut H4 σ2 ρ2 D = none := g3
            obtain ⟨us', k1, _⟩ := G4.at_
            rw [cut_of k1 G4.o] at g3'
            cases g3'
          obtain ⟨us', k1, k2⟩ := G5.at_
          exact ⟨_, same_put h2, R5'.grow h1 h2 h3 h6, .lst upd_same (h5.mono (same_put h2)), ⟨us', k1, k2.mono (same_put h2)⟩, by rw [upd_ne haD]; exact G5.s, G5.b, G5.p, G5.o⟩
        | bo j =>
          obtain ⟨s, p1, p2⟩ := ol_some q4
          have o6 : σ2[j]? = some (some u) := o5'
          cases s with
          | no => cases p2
          | pa _ => cases p2
          | da d' =>
            cases p2
            obtain ⟨w, e3, e4⟩ := R5'.dat j _ p1
            rw [o6] at e3
            cases e3
            exact ⟨S5, Same.refl _, R5', e4, G5⟩
          | ow fs =>
            cases p2
            obtain ⟨a, us, e3, e4, e5, e6, e7, e8⟩ := R5'.own j _ fs p1 rfl
            have haD : D ≠ a := fun hz => by
              subst hz
              exact G5.o j _ fs p1 rfl e3
            rw [o6] at e3
            cases e3
            have hd := R5'.drop j
            have hg : Rep K t (upd S5 a (.lst us)) H5 σ2 (ρ3.set j .no) := hd.grow e4 e5 e6 fun l s' es y1 y2 y => by
              rcases set_get y1 with ⟨rfl, rfl, _⟩ | ⟨hl, y1⟩
              · cases y2
              · exact R5'.dis l j s' _ es fs a hl y1 y2 p1 rfl y o6
            have dv : Da K (upd S5 a (.lst us)) (.ref a) (.list fs) := .lst upd_same (e7.mono (same_put e5))
            obtain ⟨us', k1, k2⟩ := G5.at_
            have hset : Rep K t (upd S5 a (.lst us)) H5 σ2 (ρ3.set j (.da (.list fs))) := by
              have := hg.setD (i := j) dv (fun es y => by
                rcases set_get y with ⟨_, y, _⟩ | ⟨h0, _⟩
                · cases y
                · exact h0 rfl)
              rw [List.set_set] at this
              have es : σ2.set j (some (V.ref a)) = σ2 := by
                apply List.ext_getElem?
                intro l
                by_cases hl : j = l
                · subst hl
                  rw [List.getElem?_set_self (List.getElem?_eq_some_iff.mp o6).1, o6]
                · rw [List.getElem?_set_ne hl]
              rw [es] at this
              exact this
            refine ⟨_, same_put e5, hset, dv, ⟨us', k1, k2.mono (same_put e5)⟩, by rw [upd_ne haD]; exact G5.s, G5.b, G5.p, fun l s' es y1 y2 => ?_⟩
            rcases set_get y1 with ⟨rfl, rfl, _⟩ | ⟨hl, y1⟩
            · cases y2
            · exact G5.o l s' es y1 y2
      obtain ⟨S6, s6, R6, d6, G6⟩ := key
      obtain ⟨us, k1, k2⟩ := G6.at_
      have k3 : us.length < sizeLine := by rw [line_eq, k2.length]; omega
      refine ⟨us, k1, k3, S6, wipeE ρ4 vs, acc ++ [y'], by rw [List.length_append, List.length_singleton]; omega, ?_⟩
      have R7 := R6.upd_other (o := .lst (us ++ [u])) G6.s G6.b G6.p G6.o
      have G7 : Grow K t S6 (upd H5 D (.lst (us ++ [u]))) σ2 ρ4 D (acc ++ [y']) := ⟨⟨_, upd_same, k2.append (.one d6)⟩, G6.s, G6.b, G6.p, G6.o⟩
      obtain ⟨f1, f2⟩ := fin R7 G7
      exact ⟨f1, (sx.trans s5).trans s6, f2, e⟩
end
def lc2L (g : GF) (ts : TF) (it1 : IF) (g1 : GF) (ts1 : TF) (e : EF) (vs vs1 : List Nat) : List PyData → En → List PyData → Option (List PyData × En)
  | [], ρ, acc => some (acc, ρ)
  | d :: ds, ρ, acc => ol (g (.da d) ρ) fun ρ1 => ob (ts ρ1) fun b ρ2 => if b = true then ob (it1 ρ2) fun ds1 ρ3 => if acc.length + ds1.length ≤ 16777216 then ob (lcL g1 ts1 e vs1 ds1 (wipeE ρ3 vs1) acc) fun acc' ρ4 => lc2L g ts it1 g1 ts1 e vs vs1 ds (wipeE ρ4 vs) acc' else none
    else lc2L g ts it1 g1 ts1 e vs vs1 ds (wipeE ρ2 vs) acc
def eLc2 (it : IF) (g : GF) (ts : TF) (it1 : IF) (g1 : GF) (ts1 : TF) (e : EF) (vs vs1 : List Nat) : EF := fun ρ => ob (it ρ) fun ds ρ1 => if (vs.all fun i => freeSl (ρ1.getD i .no)) = true then
  ob (lc2L g ts it1 g1 ts1 e vs vs1 ds (wipeE ρ1 vs) []) fun acc ρ2 => some (.fr acc, backE ρ1 vs ρ2) else none
@[simp] theorem lc2L_nil (ρ : En) (acc : List PyData) (g : GF) (ts : TF) (it1 : IF) (g1 : GF) (ts1 : TF) (e : EF) (vs vs1 : List Nat) : lc2L g ts it1 g1 ts1 e vs vs1 [] ρ acc = some (acc, ρ) := rfl
theorem lc2L_cons (ρ : En) (d : PyData) (ds acc : List PyData) (g : GF) (ts : TF) (it1 : IF) (g1 : GF) (ts1 : TF) (e : EF) (vs vs1 : List Nat) : lc2L g ts it1 g1 ts1 e vs vs1 (d :: ds) ρ acc = ol (g (.da d) ρ) fun ρ1 => ob (ts ρ1) fun b ρ2 => if b = true then ob (it1 ρ2) fun ds1 ρ3 => if acc.length + ds1.length ≤ 16777216 then ob (lcL g1 ts1 e vs1 ds1 (wipeE ρ3 vs1) acc) fun acc' ρ4 => lc2L g ts it1 g1 ts1 e vs vs1 ds (wipeE ρ4 vs) acc' else none
    else lc2L g ts it1 g1 ts1 e vs vs1 ds (wipeE ρ2 vs) acc := rfl
@[simp] theorem x_eLc2 (ρ : En) (it : IF) (g : GF) (ts : TF) (it1 : IF) (g1 : GF) (ts1 : TF) (e : EF) (vs vs1 : List Nat) : eLc2 it g ts it1 g1 ts1 e vs vs1 ρ = ob (it ρ) fun ds ρ1 => if (vs.all fun i => freeSl (ρ1.getD i .no)) = true then
  ob (lc2L g ts it1 g1 ts1 e vs vs1 ds (wipeE ρ1 vs) []) fun acc ρ2 => some (.fr acc, backE ρ1 vs ρ2) else none := rfl
theorem wipe_sub {σ : L2.St} : ∀ {vs1 vs : List Nat}, (∀ i ∈ vs1, i ∈ vs) → wipe (wipe σ vs1) vs = wipe σ vs := fun {vs1 vs} h => wipe_eq (by rw [wipe_length]) fun j hj => wipe_at σ fun z => hj (h j z)
section
variable {X : Cx} {K : PySem.W.Frag} {g g1 : GF} {ws ws1 vs vs1 : List Nat} {ts ts1 : TF} {fe : EF} {it1 : IF}
theorem lc2W {J : It} {t : Et} {S0 : Hp} {ds : List PyData} {res : List PyData} {ρe : En} {σ : L2.St} {D : Addr} {Q : Hp → Prop} (hw : ∀ j ∈ ws, j ∈ vs) (hw1 : ∀ j ∈ ws1, j ∈ vs1) (hv : ∀ j ∈ vs1, j ∈ vs) (W : WalkD K J S0 ds)
    (k : ∀ H S, Rep K t S H (wipe σ vs) ρe → Same S0 S → Grow K t S H (wipe σ vs) ρe D res → Q H) :
    ∀ (m i : Nat) (H S : Hp) (ρ : En) (acc : List PyData), i + m = ds.length → Rep K t S H (wipe σ vs) ρ → Same S0 S → Grow K t S H (wipe σ vs) ρ D acc → lc2L g ts it1 g1 ts1 fe vs vs1 (ds.drop i) ρ acc = some (res, ρe) →
      ∀ Nx : Hp → Prop, (∀ H, (∃ S' ρ' acc2, Rep K t S' H (wipe σ vs) ρ' ∧ Same S0 S' ∧ Grow K t S' H (wipe σ vs) ρ' D acc2 ∧ lc2L g ts it1 g1 ts1 fe vs vs1 (ds.drop (i + 1)) ρ' acc2 = some (res, ρe)) → Nx H) →
      (m = 0 → J.stop i H ∧ Q H) ∧ (0 < m → J.go i H ∧ ∀ x H', J.yld i H x H' → rdG K ws g x (wipe σ vs) H' fun σ2 H2 => wipe σ2 vs = wipe σ vs ∧ rdT K ts σ2 H2 fun b H3 =>
        if b = true then rdI K it1 σ2 H3 fun J1 H4 => ∃ W1 : Nat → Nat → Hp → Prop, (∃ m, W1 0 m H4) ∧ ∀ j k H, W1 j k H →
          (J1.stop j H ∧ Nx H) ∨ (J1.go j H ∧ ∃ Nx1 : Hp → Prop, (∀ H', Nx1 H' → ∃ k', k' < k ∧ W1 (j + 1) k' H') ∧ ∀ x H', J1.yld j H x H' → rdG K ws1 g1 x (wipe σ2 vs1) H' fun σ3 H5 => wipe σ3 vs1 = wipe σ2 vs1 ∧ rdT K ts1 σ3 H5 fun b H6 =>
            if b = true then rdE K fe σ3 H6 fun y H7 => ∃ acc, H7 D = some (.lst acc) ∧ acc.length < sizeLine ∧ Nx1 (upd H7 D (.lst (acc ++ [y]))) else Nx1 H6)
        else Nx H3) := by
  intro m i H S ρ acc hm R ss G e Nx hNx
  refine ⟨fun h0 => ?_, fun hp => ?_⟩
  · have hi : i = ds.length := by omega
    subst hi
    rw [List.drop_length] at e
    cases e
    exact ⟨W.st S H ss R.sh, k H S R ss G⟩
  · have hi : i < ds.length := by omega
    refine ⟨W.go i S H ss R.sh hi, fun x H' y => ?_⟩
    obtain ⟨S3, d, N, e1, e2⟩ := W.yl i S H x H' ss R.sh hi y
    have ed : ds.drop i = d :: ds.drop (i + 1) := by
      rw [List.drop_eq_getElem_cons hi]
      congr 1
      rw [List.getElem?_eq_getElem hi] at e1
      exact Option.some.inj e1
    rw [ed, lc2L_cons] at e
    obtain ⟨ρ1, q1, e⟩ := ol_some e
    obtain ⟨b, ρ2, q2, e⟩ := ob_some e
    have RN := R.new N
    have GN : Grow K t S3 H' (wipe σ vs) ρ D acc := by
      obtain ⟨us, h1, h2⟩ := G.at_
      exact ⟨⟨us, N.hh _ _ h1, h2.mono N.ss⟩, N.fr D (none_ne h1) G.s, G.b, G.p, G.o⟩
    refine ⟨t.re S3 H' (wipe σ vs) ρ, S3, ρ, .da d, ρ1, RN.base, e2, q1, fun σ2 H2 S2 R2 s2 f2 l2 => ?_⟩
    have hwp : wipe σ2 vs = wipe σ vs := by
      rw [← wipe_wipe σ vs]
      exact wipe_eq l2 fun j hj => f2 j fun z => hj (hw j z)
    refine ⟨hwp, ?_⟩
    have G2 := GN.step R2
    have R2' := RN.unbase R2
    refine ⟨t.re S2 H2 σ2 ρ1, S2, ρ1, b, ρ2, R2'.base, q2, fun H4 S4 R4 s4 => ?_⟩
    have G4 := G2.step R4
    have R4' := R2'.unbase R4
    have sx : Same S0 S4 := ((ss.trans N.ss).trans s2).trans s4
    cases b with
    | false =>
      have := R4'.wiped vs
      rw [hwp] at this
      refine iteF (hNx _ ⟨S4, wipeE ρ2 vs, acc, this, sx, G4.sub fun j s es y1 y2 => ?_, by simpa using e⟩)
      obtain ⟨h1, h2⟩ := wipeE_get y1 (ls_no y2)
      exact ⟨s, es, h2, y2, by rw [← hwp, wipe_at σ2 h1]⟩
    | true =>
      rw [if_pos rfl] at e
      obtain ⟨ds1, ρ3, q3, e⟩ := ob_some e
      split at e
      · rename_i hlen
        obtain ⟨acc', ρ4, q4, e⟩ := ob_some e
        refine iteT ⟨t.re S4 H4 σ2 ρ2, S4, ρ2, ds1, ρ3, R4'.base, q3, fun J1 H5 S5 R5 s5 W1 => ?_⟩
        have G5 := G4.step R5
        have R5' := R4'.unbase R5
        have R6 := R5'.wiped vs1
        have G6 : Grow K t S5 H5 (wipe σ2 vs1) (wipeE ρ3 vs1) D acc := G5.sub fun j s es y1 y2 => by
          obtain ⟨h1, h2⟩ := wipeE_get y1 (ls_no y2)
          exact ⟨s, es, h2, y2, by rw [wipe_at σ2 h1]⟩
        refine ⟨fun j m H' => j + m = ds1.length ∧ ∃ S' ρ' acc1, acc1.length ≤ acc.length + j ∧ Rep K t S' H' (wipe σ2 vs1) ρ' ∧ Same S5 S' ∧ Grow K t S' H' (wipe σ2 vs1) ρ' D acc1 ∧ lcL g1 ts1 fe vs1 (ds1.drop j) ρ' acc1 = some (acc', ρ4),
          ⟨ds1.length, by omega, S5, wipeE ρ3 vs1, acc, by omega, R6, Same.refl _, G6, q4⟩, ?_⟩
        rintro j m1 H6 ⟨hm1, S6, ρ6, acc6, ha6, R7, s7, G7, e7⟩
        obtain ⟨w0, w1⟩ := lcWC (c := acc.length) (v := vs1) (σ := σ2) (Q := Nx) hw1 W1 hlen (fun H8 S8 R8 s8 G8 => by
          have R9 := R8.wiped vs
          have he : wipe (wipe σ2 vs1) vs = wipe σ vs := by rw [wipe_sub hv, hwp]
          rw [he] at R9
          refine hNx _ ⟨S8, wipeE ρ4 vs, acc', R9, (sx.trans s5).trans s8, G8.sub fun j s es y1 y2 => ?_, e⟩
          obtain ⟨h1, h2⟩ := wipeE_get y1 (ls_no y2)
          exact ⟨s, es, h2, y2, by rw [← he, wipe_at _ h1]⟩) m1 j H6 S6 ρ6 acc6 hm1 ha6 R7 s7 G7 e7
        by_cases h0 : m1 = 0
        · exact .inl (w0 h0)
        · obtain ⟨c1, c2⟩ := w1 (by omega)
          exact .inr ⟨c1, fun H2 => ∃ S' ρ' acc2, acc2.length ≤ acc.length + (j + 1) ∧ Rep K t S' H2 (wipe σ2 vs1) ρ' ∧ Same S5 S' ∧ Grow K t S' H2 (wipe σ2 vs1) ρ' D acc2 ∧ lcL g1 ts1 fe vs1 (ds1.drop (j + 1)) ρ' acc2 = some (acc', ρ4),
            fun H2 ⟨S2, ρ3, acc2, l2, R3, s2, G2, e2⟩ => ⟨m1 - 1, by omega, by omega, S2, ρ3, acc2, l2, R3, s2, G2, e2⟩, c2⟩
      · cases e
theorem rd_lc2 {fi : IF} (hw : ∀ j ∈ ws, j ∈ vs) (hw1 : ∀ j ∈ ws1, j ∈ vs1) (hv : ∀ j ∈ vs1, j ∈ vs) : ∀ σ H Q, rdE K (eLc2 fi g ts it1 g1 ts1 fe vs vs1) σ H Q → tLc2 (rdI K fi) (rdG K ws g) (rdT K ts) (rdI K it1) (rdG K ws1 g1) (rdT K ts1) (rdE K fe) vs vs1 σ H Q := fun σ H Q ⟨t, S, ρ, r, ρ', R, e, k⟩ => by
  obtain ⟨ds, ρ1, q1, e⟩ := ob_some e
  split at e
  · rename_i hc
    rw [List.all_eq_true] at hc
    obtain ⟨acc, ρ2, q2, e⟩ := ob_some e
    cases e
    refine ⟨t, S, ρ, ds, ρ1, R, q1, fun J H1 S1 R1 s1 W D hD => ?_⟩
    have R2 := (R1.new (New.lay (o := .lst []) R1.sh hD)).wiped vs
    have hS : S1 D = none := R1.sh.free hD
    have G : Grow K t S1 (upd H1 D (.lst [])) (wipe σ vs) (wipeE ρ1 vs) D [] := by
      refine ⟨⟨[], upd_same, .nil⟩, hS, R1.bh.free hD, fun z => R1.ph D z hD, fun i s es y1 y2 y => ?_⟩
      obtain ⟨h1, h2⟩ := wipeE_get y1 (ls_no y2)
      rw [wipe_at σ h1] at y
      obtain ⟨a, us, z1, z2, _⟩ := R1.own i s es h2 y2
      rw [y] at z1
      cases z1
      rw [hD] at z2
      cases z2
    refine ⟨fun i m H' => i + m = ds.length ∧ ∃ S' ρ' acc', Rep K t S' H' (wipe σ vs) ρ' ∧ Same S1 S' ∧ Grow K t S' H' (wipe σ vs) ρ' D acc' ∧ lc2L g ts it1 g1 ts1 fe vs vs1 (ds.drop i) ρ' acc' = some (acc, ρ2),
      ⟨ds.length, by omega, S1, wipeE ρ1 vs, [], R2, Same.refl _, G, q2⟩, ?_⟩
    rintro i m H' ⟨hm, S', ρ', acc', R', s', G', e'⟩
    obtain ⟨w0, w1⟩ := lc2W (Q := fun H'' => Q (.ref D) H'') hw hw1 hv W (fun H'' S'' R'' s'' G'' => by
      have RB := R1.back hc s'' R''
      obtain ⟨us, k1, k2⟩ := G''.at_
      refine k (.ref D) H'' S'' RB (s1.trans s'') ⟨D, us, rfl, k1, G''.s, G''.b, G''.p, k2, fun j s es y1 y2 y => ?_⟩
      rcases backE_get y1 with ⟨h1, h2⟩ | ⟨h1, h2⟩
      · have := hc j h1
        rw [← h2] at this
        cases s with
        | no => cases y2
        | da _ => cases y2
        | ow _ => cases this
        | pa _ => cases this
      · exact G''.o j s es h2 y2 (by rw [wipe_at σ h1]; exact y)) m i H' S' ρ' acc' hm R' s' G' e' (fun H2 => ∃ S' ρ' acc2, Rep K t S' H2 (wipe σ vs) ρ' ∧ Same S1 S' ∧ Grow K t S' H2 (wipe σ vs) ρ' D acc2 ∧ lc2L g ts it1 g1 ts1 fe vs vs1 (ds.drop (i + 1)) ρ' acc2 = some (acc, ρ2)) (fun _ h => h)
    by_cases h0 : m = 0
    · exact .inl (w0 h0)
    · obtain ⟨c1, c2⟩ := w1 (by omega)
      exact .inr ⟨c1, _, fun H2 ⟨S2, ρ3, acc2, R3, s2, G2, e2⟩ => ⟨m - 1, by omega, by omega, S2, ρ3, acc2, R3, s2, G2, e2⟩, c2⟩
  · cases e
end
section
variable {X : Cx} {elt tg iter tg1 iter1 : Expr} {ifs ifs1 : List Expr} {scope : Scope} {own : List (Str × Nat)} {pos : Pos} {fi it1 : IF} {g g1 : GF} {ts ts1 : TF} {fe : EF} {ws ws1 vs1 : List Nat}
theorem okS_setLc2 {i : Nat} {y : Str} {py spos : Pos} (hc : X.calm = true) (hN : X.N.Nodup) (hy : X.N[i]? = some y) (hyl : X.env.scope.names.lookup y = some .local)
    (hsw : swapsWith (.ListComp elt [⟨tg, iter, ifs, 0⟩, ⟨tg1, iter1, ifs1, 0⟩] scope pos) (some (.Name y py)) spos.line X.env = pure true) (hi : OkI X tg iter fi) (ok : BlkOk X.N X.env.scope scope own)
    (hg : ∀ (s : Shared) (H : Hp) (C : Addr) (cl : List (Str × Addr)) (fp : List Addr), OkG (X.blk s H scope (compEnvC scope cl C X.env) fp) tg ws g) (ht : ∀ (s : Shared) (H : Hp) (C : Addr) (cl : List (Str × Addr)) (fp : List Addr), OkTs (X.blk s H scope (compEnvC scope cl C X.env) fp) ifs ts)
    (hi1 : ∀ (s : Shared) (H : Hp) (C : Addr) (cl : List (Str × Addr)) (fp : List Addr), OkI (X.blk s H scope (compEnvC scope cl C X.env) fp) tg1 iter1 it1)
    (hg1 : ∀ (s : Shared) (H : Hp) (C : Addr) (cl : List (Str × Addr)) (fp : List Addr), OkG (X.blk s H scope (compEnvC scope cl C X.env) fp) tg1 ws1 g1) (ht1 : ∀ (s : Shared) (H : Hp) (C : Addr) (cl : List (Str × Addr)) (fp : List Addr), OkTs (X.blk s H scope (compEnvC scope cl C X.env) fp) ifs1 ts1)
    (he : ∀ (s : Shared) (H : Hp) (C : Addr) (cl : List (Str × Addr)) (fp : List Addr), OkE (X.blk s H scope (compEnvC scope cl C X.env) fp) elt fe) (hv : ∀ j ∈ vs1, j ∈ own.map (·.2) := by decide) (hw : ∀ j ∈ ws, j ∈ own.map (·.2) := by decide) (hw1 : ∀ j ∈ ws1, j ∈ vs1 := by decide)
    (hs : ∀ x, foldedSetIterable iter X.env x = pure x := by intro _; rfl) (hs1 : ∀ env x, foldedSetIterable iter1 env x = pure x := by intro _ _; rfl) :
    OkS X (.Assign [.Name y py] (.ListComp elt [⟨tg, iter, ifs, 0⟩, ⟨tg1, iter1, ifs1, 0⟩] scope pos) spos) (sAsg (eLc2 fi g ts it1 g1 ts1 fe (own.map (·.2)) vs1) (gNm i)) :=
  ps_imp (ps_setLc2 hc hN hy hyl hsw hi.run ok hv (fun s H C cl fp => (hg s H C cl fp).run) (fun s H C cl fp => (ht s H C cl fp).run) (fun s H C cl fp => (hi1 s H C cl fp).run) (fun s H C cl fp => (hg1 s H C cl fp).run) (fun s H C cl fp => (ht1 s H C cl fp).run) he hs hs1) (rd_asg (rd_lc2 hw hw1 hv) (rd_gNm i))
end
end DL
set_option maxHeartbeats 2000000
/-! The data layer 24: an own error with a field that a def raises; a def that catches it. -/
namespace DL
open PySem L2 PySem.Spec PySem.W PyProof PyProof.Rows
section
variable {X : Cx} {o e : Expr} {es : List Expr} {ta : TA} {p1 p2 pos : Pos} {x : Str} {C0 : Addr} {mc : Value}
/-- Base.__init__(self, ..), Base an own class without __init__ -/
theorem pe_ovinit {pl : Sem Bool} (hg : Gl X x) (hm : X.mg x = some (.ref C0)) (hs : PySem.W.specialIn X.K (.ref C0) "__getattribute__" = some (some (.builtin "type.__getattribute__"))) (hr : PySem.W.readsIn X.K C0 mc = true)
    (vV : PySem.W.findCls X.K (.ref C0) mc "__init__" = some (.val (.builtin "ValueError.__init__"))) (ha : PA X (e :: es) ta)
    (hc : eval (.Call (.Attribute (.Name x p1) "__init__" p2) (e :: es) [] pos) X.env = (do
      let ov ← eval (.Name x p1) X.env
      standAt p2.atName
      let (f, first) ← holding [ov] (getMethod ov "__init__" pl)
      callWith pos f first (backTo pos (starEach (e :: es) X.env)) (backToKw pos (keywordEach [] X.env))) := by rfl)
    (hdb : (x == ("__debug__" : Str)) = false := by decide)
    (he : starEach (e :: es) X.env = (false, eval e X.env) :: starEach es X.env := by rfl) (hpl : (backTo pos (starEach es X.env)).any (·.1) = false := by rfl) :
    PE X (.Call (.Attribute (.Name x p1) "__init__" p2) (e :: es) [] pos) (tVeI X.K ta) := by
  refine ⟨fun pins s σ H Q I h => ?_⟩
  refine PySem.W.methodCall_KW (ld_glob I hg hm ?_ hdb) hc
  refine PySem.W.method_cls I.kIn hs (PySem.W.cls_value I.kIn hr vV (by decide +kernel) ?_)
  show wpAny _ _ (callWith pos (Value.builtin "ValueError.__init__") [] (backTo pos (starEach (e :: es) X.env)) []) _ _ _
  refine PyProof.Rows.callWith_method1 (thn (ha.run pos pins _ σ H _ (I.tok _) h) fun us s1 ⟨vs, H1, I1, r1, a, C, ws, ev, hl, T, ea, q⟩ => ?_) he hpl
  subst ev
  cases r1 with
  | @cons _ u0 _ ur ra rw' =>
    obtain rfl : u0 = Value.ref a := ra
    have hlen : ur.length ≤ sizeLine := by
      rw [← Paired.length rw', sizeLine_eq]
      omega
    exact oinit_ok T I1 ea hlen fun s' J => ⟨.non, H1, J, rfl, q⟩
end
/-- what is known of the error's class: C the class, C0 its base (own, without __init__), fI its __init__ -/
structure ErrC (K : PySem.W.Frag) (mg : Str → Option Value) (x0 x f : Str) (C0 C fI : Addr) : Prop where
  g0 : mg x0 = some (.ref C0)
  g : mg x = some (.ref C)
  ox : OexC K C
  nf : PySem.W.findIn K (.ref C) f = some none
  iC : PySem.W.findIn K (.ref C) "__init__" = some (some (.ref fI))
  tI : PySem.W.typeIn K (.ref fI) = some (.type "function")
  s0 : PySem.W.specialIn K (.ref C0) "__getattribute__" = some (some (.builtin "type.__getattribute__"))
  r0 : PySem.W.readsIn K C0 (.type "type") = true
  v0 : PySem.W.findCls K (.ref C0) (.type "type") "__init__" = some (.val (.builtin "ValueError.__init__"))
  xf : XfC K C
  cl : (PySem.W.clsIn K C).isSome = true
  ca : PySem.W.findIn K (.ref C) "__class__" = some (some (.builtin "object.__class__"))
  cn : PySem.W.specialIn K (.builtin "object.__class__") "__get__" = some (some (.builtin "getset_descriptor.__get__"))
  ct : PySem.W.takesIn K (.builtin "object.__class__") = some true
  cm : PySem.W.mroIn K C (.type "object") = some true
  te : PySem.W.exmOne K (.ref C) (.ref C) = some true
  ki : PySem.W.kitOne K (.ref C) (.ref C0) = some true
/-- __init__(self, f) of the error: Base.__init__(self, text); self.f = f -/
def spNI (K : PySem.W.Frag) (C : Addr) (f : Str) : Sp := fun vs H Q E => ∃ (a : Addr) (y : V), vs = [.ref a, y] ∧ H a = some (exo a C none) ∧ ∀ dx, H dx = none → dx ≠ a → Q .non (upd (upd H dx (exd dx [(f, y)])) a (exo a C (some dx)))
section
variable {P : Program} {w : World} {K : PySem.W.Frag} {mg : Str → Option Value} {base : Heap} {x0 x f qual txt : Str} {C0 C fI : Addr} {st : Stmt} {fd : FuncData}
/-- what the making asks, met -/
theorem mkE_in {H1 : Hp} {y : V} {Q : XK} (h : ∀ (d : Addr) (H' : Hp), H1 d = none → H' d = some (.xd [(f, y)]) → Same H1 H' → Q (.ref C) (some d) H') :
    [y].length ≤ 1000 ∧ ∀ a, H1 a = none → spNI K C f (.ref a :: ([y] ++ [])) (upd H1 a (exo a C none))
      (fun v H2 => v = .non ∧ ∃ (d : Addr) (fs : List (Str × V)), H2 a = some (exo a C (some d)) ∧ H2 d = some (exd d fs) ∧ H1 d = none ∧ Q (.ref C) (some d) (upd (del H2 a) d (.xd fs))) (fun _ _ _ => False) := by
  refine ⟨by simp, fun a ha => ⟨a, y, rfl, upd_same, fun dx hdx hne => ?_⟩⟩
  have h1 : H1 dx = none := by rw [upd_ne hne] at hdx; exact hdx
  refine ⟨rfl, dx, [(f, y)], upd_same, ?_, h1, h dx _ h1 upd_same fun b o e => ?_⟩
  · rw [upd_ne hne, upd_same]
  · have nd : b ≠ dx := ne_of_none e h1
    have na : b ≠ a := ne_of_none e ha
    rw [upd_ne nd, del_ne na, upd_ne na, upd_ne nd, upd_ne na]
    exact e
theorem init_reads {D : Ends} {txt : Str} {a : Addr} {y : V} {H : Hp} (T : ErrC K mg x0 x f C0 C fI) (ha : H a = some (exo a C none)) (q : ∀ dx, H dx = none → dx ≠ a → D.nx [some (.ref a), some y] (upd (upd H dx (exd dx [(f, y)])) a (exo a C (some dx)))) :
    (tSeq (tDrop (tVeI K (tCons (tVar 0) (tCons (tC (.str txt)) tNil)))) (tOst K f (tVar 0) (tVar 1))) D [some (.ref a), some y] H :=
  ⟨.ref a, rfl, a, C, [.str txt], rfl, by simp, T.ox, ha, y, rfl, .ref a, rfl, a, C, rfl, T.ox, T.nf, .inl ⟨ha, q⟩⟩
theorem pss_nev {X : Cx} {l : List Stmt} : PSs X l tNever := ⟨fun _ _ _ _ _ _ h => h.elim⟩
/-- isinstance(e, Base), e the error that the suite holds -/
def rIsE2 (K : PySem.W.Frag) (C C0 a : Addr) (cls : Value) (d : Option Addr) : List V → Hp → VK → Prop := fun xs H Q => ∃ (dd : Addr) (fs : List (Str × V)), xs = [.ref a, .ref C0] ∧ cls = .ref C ∧ d = some dd ∧ H dd = some (.xd fs) ∧ Q (.bl true) H
theorem call_isE2 {X : Cx} {a : Addr} {oe : Obj} {cls : Value} {d : Option Addr} {pn : List (Addr × Obj)} (T : ErrC X.K mg x0 x f C0 C fI) (hz : Zc cls d oe) (hf : ∃ vs, oe.data = .fields vs) : CallR (X.suite a ((a, oe) :: pn)) (.builtin "isinstance") (rIsE2 X.K C C0 a cls d) := by
  intro pins s σ H xs us Q I r h
  obtain ⟨dd, fs, rfl, rfl, ed, ea, q⟩ := h
  cases r with
  | cons rx rr =>
    cases rr with
    | cons rt rr =>
      cases rr
      cases rx
      cases rt
      obtain ⟨hget, _⟩ := I.pin (a, oe) (List.mem_append.mpr (.inl List.mem_cons_self))
      obtain ⟨vs, hv⟩ := hf
      have hx : ObjOk X.prog X.w H s.heap dd (.xd fs) := I.hok dd _ ea
      obtain ⟨mA, hns, hr⟩ := hx
      obtain ⟨od, ho, hl⟩ := lookIn_ns hns
      have J : PySem.W.InstAt s.heap a oe C (some od) := ⟨hget, hz.1, by unfold PySem.W.notCls; rw [hv] <;> rfl, by rw [hz.2, ed]; exact ho⟩
      exact PySem.W.kia_one (PySem.W.kitx_exc T.cl T.xf.ga T.xf.gg T.xf.exC T.ca T.cn T.ct T.cm) I.kIn J T.ki (fun z => nomatch z) fun tk => ⟨.bl true, H, I.kept (t' := tk) fun _ _ z => z, rfl, q⟩
end
/-- f(..) raises the error with the name that it was given -/
def spRaise (K : PySem.W.Frag) (C : Addr) (f : Str) (F : List PyData → Option Rv) : Sp := fun vs H Q E => ∃ (S : Hp) (ds : List PyData) (z : Str), Same S H ∧ DaAll K S vs ds ∧ F ds = some (.da (.str z)) ∧
  ∀ (d : Addr) (H' : Hp), H d = none → H' d = some (.xd [(f, .str z)]) → Same H H' → E (.ref C) (some d) H'
end DL
namespace Gn
open PySem L2 DL
def topS (i : Nat) : Stmt := PySem.Challenge.pw_deepoven_k05_when_one_loaf_can_be_out.main.body.getD i (.Pass ⟨0, 0, 0, 0⟩)
structure Txt (mg : Str → Option Value) : Prop where
  b_enumerate : mg "enumerate" = none
  b_isinstance : mg "isinstance" = none
  b_len : mg "len" = none
  b_list : mg "list" = none
  b_max : mg "max" = none
  b_min : mg "min" = none
  b_range : mg "range" = none
  b_reversed : mg "reversed" = none
  b_set : mg "set" = none
  b_sorted : mg "sorted" = none
  b_tuple : mg "tuple" = none
  b_zip : mg "zip" = none
section
variable {P : Program} {w : World} {K : PySem.W.Frag} {mg : Str → Option Value} {base : Heap}
abbrev s__law_bag : Stmt := topS 10
abbrev N__law_bag : List Str := ["script", "k", "cell", "seed"]
theorem sc__law_bag : FnScope N__law_bag ["script", "k"] (defScope s__law_bag) := ⟨rfl, rfl, rfl, by decide +kernel, rfl, by decide +kernel, by decide +kernel⟩
def b__law_bag : SF := sSeq (sAsg (eC (.int 0)) (gNm 2)) (sSeq (sIf (tE (eBin ltD (eVar 1) (eCb lenD (aCons (eVar 0) (aNil))))) (sAsg (eBin modD (eBin ixR (eVar 0) (eVar 1)) (eBin powD (eC (.int 10)) (eC (.int 60)))) (gNm 2)) (sNil)) (sSeq (sAsg (eBin addD (eC (.int 1)) (eBin modD (eBin addD (eBin addD (eBin addD (eBin mulV (eBin modD (eVar 2) (eC (.int 2147483629))) (eC (.int 16807))) (eBin mulV (eBin mulV (eC (.int 40009)) (eVar 1)) (eVar 1))) (eBin mulV (eC (.int 7919)) (eVar 1))) (eC (.int 1009))) (eC (.int 2147483645)))) (gNm 3)) (sSeq (sIf (tE (eBin ltD (eVar 2) (eBin powD (eC (.int 10)) (eC (.int 18))))) (sRet (eLst (aCons (eC (.int 0)) (aCons (eVar 3) (aNil))))) (sNil)) (sRet (eLst (aCons (eVar 2) (aCons (eVar 3) (aNil))))))))
def F__law_bag : List PyData → Option Rv := fnF 2 4 b__law_bag
theorem ok__law_bag (T : Txt mg)  {f : Addr} {fd : FuncData} (F : Fun K "_law_bag" "_law_bag" s__law_bag f fd) : FnOk P w K mg base CX0 1 f fd ["script", "k"] (spF K F__law_bag) :=
  have Sc := sc__law_bag
  fn_ok (k := 0) F sc__law_bag fun cdv A outer s H E hr => okSs_cons (okS_set 2 Sc.nd rfl (Or.inl rfl) (ok_int)) (okSs_cons (okS_if (okT_cmp op_lt okLt (ok_name 1) (ok_callB call_len okLen rfl T.b_len (by decide +kernel) (okA_cons (ok_name 0) (okA_nil))) (nomark _)) (okSs_one (okS_set 2 Sc.nd rfl (Or.inl rfl) (ok_bin op_mod okMod (ok_ix (ok_name 0) (ok_name 1)) (ok_bin op_pow okPow (ok_int) (ok_int))))) (okSs_nil)) (okSs_cons (okS_set 3 Sc.nd rfl (Or.inl rfl) (ok_bin opAdd okAdd (ok_int) (ok_bin op_mod okMod (ok_bin opAdd okAdd (ok_bin opAdd okAdd (ok_bin opAdd okAdd (ok_bin opMulV okMulV (ok_bin op_mod okMod (ok_name 2) (ok_int)) (ok_int)) (ok_bin opMulV okMulV (ok_bin opMulV okMulV (ok_int) (ok_name 1)) (ok_name 1))) (ok_bin opMulV okMulV (ok_int) (ok_name 1))) (ok_int)) (ok_int)))) (okSs_cons (okS_if (okT_cmp op_lt okLt (ok_name 2) (ok_bin op_pow okPow (ok_int) (ok_int)) (nomark _)) (okSs_one (okS_ret (ok_lst (okA_cons (ok_int) (okA_cons (ok_name 3) (okA_nil)))))) (okSs_nil)) (okSs_one (okS_ret (ok_lst (okA_cons (ok_name 2) (okA_cons (ok_name 3) (okA_nil)))))))))
abbrev s__law_take : Stmt := topS 11
abbrev N__law_take : List Str := ["bag", "count", "found"]
theorem sc__law_take : FnScope N__law_take ["bag", "count"] (defScope s__law_take) := ⟨rfl, rfl, rfl, by decide +kernel, rfl, by decide +kernel, by decide +kernel⟩
def b__law_take : SF := sSeq (sIf (tE (eBin gtD (eBin ixR (eVar 0) (eC (.int 0))) (eC (.int 0)))) (sSeq (sAsg (eBin modD (eBin ixR (eVar 0) (eC (.int 0))) (eVar 1)) (gNm 2)) (sSeq (sAsg (eBin fdivD (eBin ixR (eVar 0) (eC (.int 0))) (eVar 1)) (gSub 0 (eC (.int 0)))) (sRet (eVar 2)))) (sNil)) (sSeq (sAsg (eBin modD (eBin mulV (eBin ixR (eVar 0) (eC (.int 1))) (eC (.int 48271))) (eC (.int 2147483647))) (gSub 0 (eC (.int 1)))) (sRet (eBin modD (eBin fdivD (eBin modD (eBin mulV (eBin fdivD (eBin ixR (eVar 0) (eC (.int 1))) (eC (.int 13))) (eBin addD (eBin modD (eBin ixR (eVar 0) (eC (.int 1))) (eC (.int 32749))) (eC (.int 17)))) (eC (.int 2147483629))) (eC (.int 32))) (eVar 1))))
def F__law_take : List PyData → List PyData → Option (Rv × List PyData) := fnB 0 2 3 b__law_take
theorem ok__law_take (T : Txt mg)  {f : Addr} {fd : FuncData} (F : Fun K "_law_take" "_law_take" s__law_take f fd) : FnOk P w K mg base CX0 1 f fd ["bag", "count"] (spB K 0 F__law_take) :=
  have Sc := sc__law_take
  fnB_ok 0 (k := 0) F sc__law_take fun cdv A outer s H E hr => okSs_cons (okS_if (okT_cmp op_gt okGt (ok_ix (ok_name 0) (ok_int)) (ok_int) (nomark _)) (okSs_cons (okS_set 2 Sc.nd rfl (Or.inl rfl) (ok_bin op_mod okMod (ok_ix (ok_name 0) (ok_int)) (ok_name 1))) (okSs_cons (okS_asg (ok_bin op_fdiv okFdiv (ok_ix (ok_name 0) (ok_int)) (ok_name 1)) (okG_sub (pv 0) (ok_int))) (okSs_one (okS_ret (ok_name 2))))) (okSs_nil)) (okSs_cons (okS_asg (ok_bin op_mod okMod (ok_bin opMulV okMulV (ok_ix (ok_name 0) (ok_int)) (ok_int)) (ok_int)) (okG_sub (pv 0) (ok_int))) (okSs_one (okS_ret (ok_bin op_mod okMod (ok_bin op_fdiv okFdiv (ok_bin op_mod okMod (ok_bin opMulV okMulV (ok_bin op_fdiv okFdiv (ok_ix (ok_name 0) (ok_int)) (ok_int)) (ok_bin opAdd okAdd (ok_bin op_mod okMod (ok_ix (ok_name 0) (ok_int)) (ok_int)) (ok_int))) (ok_int)) (ok_int)) (ok_name 1)))))
abbrev s__law_batch : Stmt := topS 13
abbrev N__law_batch : List Str := ["bag", "many", "wide", "spare", "names", "found", "tick", "turn", "least_so", "name"]
theorem sc__law_batch : FnScope N__law_batch ["bag", "many", "wide", "spare"] (defScope s__law_batch) := ⟨rfl, rfl, rfl, by decide +kernel, rfl, by decide +kernel, by decide +kernel⟩
def B1__law_batch : SF := sFg [7, 8, 9] (sSeq (sAsg (eBin addD (eC (.int 1)) (eCallO 0 F__law_take (aCons (eVar 0) (aCons (eVar 2) (aNil))))) (gNm 8)) (sSeq (sAsg (ePop 4 (eCallO 0 F__law_take (aCons (eVar 0) (aCons (eCb lenD (aCons (eVar 4) (aNil))) (aNil))))) (gNm 9)) (sSeq (sIf (tE (eBin leD (eVar 6) (eC (.int 40)))) (sDrop (eApp 5 (eTup (aCons (eVar 9) (aCons (eVar 6) (aCons (eVar 8) (aCons (eCb minD (aCons (eC (.int 60)) (aCons (eBin addD (eVar 8) (eCallO 0 F__law_take (aCons (eVar 0) (aCons (eBin addD (eVar 3) (eC (.int 1))) (aNil))))) (aNil)))) (aNil)))))))) (sNil)) (sAsg (eBin addD (eBin addD (eVar 6) (eC (.int 1))) (eCallO 0 F__law_take (aCons (eVar 0) (aCons (eBin addD (eC (.int 1)) (eBin fdivD (eVar 2) (eC (.int 2)))) (aNil))))) (gNm 6)))))
def b__law_batch : SF := sSeq (sPar3 4 5 6 (pCons (eLst (aCons (eC (.str "ann")) (aCons (eC (.str "bo")) (aCons (eC (.str "cy")) (aCons (eC (.str "dee")) (aCons (eC (.str "eli")) (aCons (eC (.str "fay")) (aCons (eC (.str "gus")) (aCons (eC (.str "hal")) (aNil)))))))))) (pCons (eLst (aNil)) (pCons (eCallO 0 F__law_take (aCons (eVar 0) (aCons (eC (.int 3)) (aNil)))) (pNil))))) (sSeq (sFa [7, 8, 9] (sFor (iRange1 (eBin addD (eC (.int 1)) (eCallO 0 F__law_take (aCons (eVar 0) (aCons (eVar 1) (aNil)))))) (gNm 7) B1__law_batch)) (sRet (eCb tupleD (aCons (eVar 5) (aNil)))))
def F__law_batch : List PyData → List PyData → Option (Rv × List PyData) := fnB 0 4 10 b__law_batch
theorem ok__law_batch (T : Txt mg) {f__law_take : Addr} {fd__law_take : FuncData} (C__law_take : Cal P w K mg base 1 "_law_take" f__law_take fd__law_take ["bag", "count"] (spB K 0 F__law_take)) {f : Addr} {fd : FuncData} (F : Fun K "_law_batch" "_law_batch" s__law_batch f fd) : FnOk P w K mg base CX0 2 f fd ["bag", "many", "wide", "spare"] (spB K 0 F__law_batch) :=
  have Sc := sc__law_batch
  fnB_ok 0 (k := 1) F sc__law_batch fun cdv A outer s H E hr => okSs_cons (okS_par3 4 5 6 rfl Sc.nd rfl rfl rfl (by decide) (by decide) (by decide) (fun ta h => ps_par3 rfl Sc.nd rfl rfl rfl (by decide) (by decide) (by decide) rfl rfl rfl h (by rfl)) (okP_cons (ok_lst (okA_cons (ok_str) (okA_cons (ok_str) (okA_cons (ok_str) (okA_cons (ok_str) (okA_cons (ok_str) (okA_cons (ok_str) (okA_cons (ok_str) (okA_cons (ok_str) (okA_nil)))))))))) (okP_cons (ok_lst (okA_nil)) (okP_cons (ok_callO C__law_take.c (hr.mono (by decide)) rfl C__law_take.g C__law_take.k C__law_take.b (okA_cons (ok_name 0) (okA_cons (ok_int) (okA_nil)))) (okP_nil))))) (okSs_cons (okS_fa [7, 8, 9] (okS_for PassesOwn.never rfl (okI_range1 rfl T.b_range (ok_bin opAdd okAdd (ok_int) (ok_callO C__law_take.c (hr.mono (by decide)) rfl C__law_take.g C__law_take.k C__law_take.b (okA_cons (ok_name 0) (okA_cons (ok_name 1) (okA_nil)))))) (okG_name 7 Sc.nd rfl (Or.inl rfl)) (okSs_fg [7, 8, 9] (okSs_cons (okS_set 8 Sc.nd rfl (Or.inl rfl) (ok_bin opAdd okAdd (ok_int) (ok_callO C__law_take.c (hr.mono (by decide)) rfl C__law_take.g C__law_take.k C__law_take.b (okA_cons (ok_name 0) (okA_cons (ok_name 2) (okA_nil)))))) (okSs_cons (okS_set 9 Sc.nd rfl (Or.inl rfl) (ok_pop (pv 4) (ok_callO C__law_take.c (hr.mono (by decide)) rfl C__law_take.g C__law_take.k C__law_take.b (okA_cons (ok_name 0) (okA_cons (ok_callB call_len okLen rfl T.b_len (by decide +kernel) (okA_cons (ok_name 4) (okA_nil))) (okA_nil)))))) (okSs_cons (okS_if (okT_cmp op_le okLe (ok_name 6) (ok_int) (nomark _)) (okSs_one (okS_expr (ok_app (pv 5) (ok_tup (okA_cons (ok_name 9) (okA_cons (ok_name 6) (okA_cons (ok_name 8) (okA_cons (ok_callB (opMin rfl hr.units) okMin rfl T.b_min (by decide +kernel) (okA_cons (ok_int) (okA_cons (ok_bin opAdd okAdd (ok_name 8) (ok_callO C__law_take.c (hr.mono (by decide)) rfl C__law_take.g C__law_take.k C__law_take.b (okA_cons (ok_name 0) (okA_cons (ok_bin opAdd okAdd (ok_name 3) (ok_int)) (okA_nil))))) (okA_nil)))) (okA_nil))))))))) (okSs_nil)) (okSs_one (okS_set 6 Sc.nd rfl (Or.inl rfl) (ok_bin opAdd okAdd (ok_bin opAdd okAdd (ok_name 6) (ok_int)) (ok_callO C__law_take.c (hr.mono (by decide)) rfl C__law_take.g C__law_take.k C__law_take.b (okA_cons (ok_name 0) (okA_cons (ok_bin opAdd okAdd (ok_int) (ok_bin op_fdiv okFdiv (ok_name 2) (ok_int))) (okA_nil))))))))))))) (okSs_one (okS_ret (ok_callTy call_tuple_of okTuple rfl T.b_tuple (by decide +kernel) (okA_cons (ok_name 5) (okA_nil))))))
abbrev s__law_ways : Stmt := topS 15
abbrev N__law_ways : List Str := ["batch", "found", "place", "name", "since", "least_so", "most", "longer", "rest", "out", "loaf", "later", "bad"]
theorem sc__law_ways : FnScope N__law_ways ["batch"] (defScope s__law_ways) := ⟨rfl, rfl, rfl, by decide +kernel, rfl, by decide +kernel, by decide +kernel⟩
def B1__law_ways : SF := sFg [9, 12] (sSeq (sAsg (eLc (iZip (aCons (eSlice (eVar 0) (oE (eBin addD (eVar 2) (eC (.int 1)))) (oNo)) (aCons (eVar 8) (aNil)))) (gTup 2 (gCons (gNm 10) (gCons (gNm 11) (gNil)))) (tAndF (tE (eBin gtD (eVar 9) (eBin ixR (eVar 10) (eC (.int 1))))) (tE (eBin ltD (eVar 9) (eVar 11)))) (eC (.int 1)) [10, 11]) (gNm 12)) (sIf (tE (eBin eqD (eVar 12) (eLst (aNil)))) (sDrop (eApp 7 (eBin addD (eTup (aCons (eVar 9) (aNil))) (eVar 8)))) (sNil)))
def B2__law_ways : SF := sFg [8, 9, 12] (sFa [1, 3, 9, 10, 11, 12] (sFor (iRange2 (eBin addD (eVar 4) (eVar 5)) (eBin addD (eBin addD (eVar 4) (eVar 6)) (eC (.int 1)))) (gNm 9) B1__law_ways))
def B3__law_ways : SF := sFg [2, 3, 4, 5, 6, 7, 8, 9, 12] (sSeq (sAsg (eBin ixR (eVar 0) (eVar 2)) (gTup 4 (gCons (gNm 3) (gCons (gNm 4) (gCons (gNm 5) (gCons (gNm 6) (gNil))))))) (sSeq (sAsg (eLst (aNil)) (gNm 7)) (sSeq (sFa [3, 8, 9, 10, 11, 12] (sFor (iSeq (eVar 1)) (gNm 8) B2__law_ways)) (sAsg (eVar 7) (gNm 1)))))
def b__law_ways : SF := sSeq (sAsg (eLst (aCons (eTup (aNil)) (aNil))) (gNm 1)) (sSeq (sFa [2, 3, 4, 5, 6, 7, 8, 9, 10, 11, 12] (sFor (iRange3 (eBin subD (eCb lenD (aCons (eVar 0) (aNil))) (eC (.int 1))) (eC (.int (-1)))) (gNm 2) B3__law_ways)) (sRet (eVar 1)))
def F__law_ways : List PyData → Option Rv := fnF 1 13 b__law_ways
theorem ok__law_ways (T : Txt mg)  {f : Addr} {fd : FuncData} (F : Fun K "_law_ways" "_law_ways" s__law_ways f fd) : FnOk P w K mg base CX0 1 f fd ["batch"] (spF K F__law_ways) :=
  have Sc := sc__law_ways
  fn_ok (k := 0) F sc__law_ways fun cdv A outer s H E hr => okSs_cons (okS_set 1 Sc.nd rfl (Or.inl rfl) (ok_lst (okA_cons (ok_tup (okA_nil)) (okA_nil)))) (okSs_cons (okS_fa [2, 3, 4, 5, 6, 7, 8, 9, 10, 11, 12] (okS_for PassesOwn.never rfl (okI_range3 rfl T.b_range (ok_bin op_sub okSub (ok_callB call_len okLen rfl T.b_len (by decide +kernel) (okA_cons (ok_name 0) (okA_nil))) (ok_int)) (ok_negC) (fun ta h => pi_range3 rfl T.b_range h)) (okG_name 2 Sc.nd rfl (Or.inl rfl)) (okSs_fg [2, 3, 4, 5, 6, 7, 8, 9, 12] (okSs_cons (okS_asg (ok_ix (ok_name 0) (ok_name 2)) (okG_tup rfl (okGs_cons (okG_name 3 Sc.nd rfl (Or.inl rfl)) (okGs_cons (okG_name 4 Sc.nd rfl (Or.inl rfl)) (okGs_cons (okG_name 5 Sc.nd rfl (Or.inl rfl)) (okGs_cons (okG_name 6 Sc.nd rfl (Or.inl rfl)) (okGs_nil))))))) (okSs_cons (okS_set 7 Sc.nd rfl (Or.inl rfl) (ok_lst (okA_nil))) (okSs_cons (okS_fa [3, 8, 9, 10, 11, 12] (okS_for PassesOwn.never rfl (okI_seq (ok_name 1)) (okG_name 8 Sc.nd rfl (Or.inl rfl)) (okSs_fg [8, 9, 12] (okSs_one (okS_fa [1, 3, 9, 10, 11, 12] (okS_for PassesOwn.never rfl (okI_range2 rfl T.b_range (ok_bin opAdd okAdd (ok_name 4) (ok_name 5)) (ok_bin opAdd okAdd (ok_bin opAdd okAdd (ok_name 4) (ok_name 6)) (ok_int))) (okG_name 9 Sc.nd rfl (Or.inr rfl)) (okSs_fg [9, 12] (okSs_cons (okS_setLc (i := 12) (own := [("loaf", 10), ("later", 11)]) rfl Sc.nd rfl rfl (sw_true rfl rfl rfl (by decide +kernel)) (okI_zip rfl T.b_zip (okA_cons (ok_sl (ok_name 0) (okO_e (ok_bin opAdd okAdd (ok_name 2) (ok_int))) (okO_no)) (okA_cons (ok_name 8) (okA_nil)))) (blkOk_by (own := [("loaf", 10), ("later", 11)]) (N := N__law_ways) (sc := defScope s__law_ways) (by decide +kernel)) (fun _ _ _ _ _ => okG_tup rfl (okGs_cons (okG_name 10 Sc.nd rfl (Or.inl rfl)) (okGs_cons (okG_name 11 Sc.nd rfl (Or.inl rfl)) (okGs_nil)))) (fun _ _ _ _ _ => okTs_one (okT_w (okW_and (okT_cmp op_gt okGt (ok_name 9) (ok_ix (ok_name 10) (ok_int)) (nomark _)) (okW_and1 (okT_cmp op_lt okLt (ok_name 9) (ok_name 11) (nomark _)))))) (fun _ _ _ _ _ => ok_int)) (okSs_one (okS_if (okT_cmp (op_eqD hr.units) okEq (ok_name 12) (ok_lst (okA_nil)) (nomark _)) (okSs_one (okS_expr (ok_app (pv 7) (ok_bin opAdd okAdd (ok_tup (okA_cons (ok_name 9) (okA_nil))) (ok_name 8))))) (okSs_nil))))))))))) (okSs_one (okS_set 1 Sc.nd rfl (Or.inl rfl) (ok_name 7))))))))) (okSs_one (okS_ret (ok_name 1))))
abbrev s_raised : Stmt := topS 4
abbrev N_raised : List Str := ["batch", "bounds", "waits", "going", "place", "other"]
theorem sc_raised : FnScope N_raised ["batch", "bounds"] (defScope s_raised) := ⟨rfl, rfl, rfl, by decide +kernel, rfl, by decide +kernel, by decide +kernel⟩
def B1_raised : SF := sFg [5] (sIf (tE (eChain ltD ltD (eBin ixR (eBin ixR (eVar 0) (eVar 5)) (eC (.int 1))) (eBin ixR (eVar 1) (eVar 4)) (eBin ixR (eVar 1) (eVar 5)))) (sSeq (sAsg (eBin ixR (eVar 1) (eVar 5)) (gSub 1 (eVar 4))) (sSeq (sDrop (eApp 2 (eTup (aCons (eVar 4) (aCons (eVar 5) (aNil)))))) (sSeq (sAsg (eC (.bool true)) (gNm 3)) (sIf (tE (eBin gtD (eBin ixR (eVar 1) (eVar 4)) (eBin addD (eBin ixR (eBin ixR (eVar 0) (eVar 4)) (eC (.int 1))) (eBin ixR (eBin ixR (eVar 0) (eVar 4)) (eC (.int 3)))))) (sRet (eTup (aCons (eC .none) (aCons (eVar 2) (aNil))))) (sNil))))) (sNil))
def B2_raised : SF := sFg [4, 5] (sFa [5] (sFor (iRange2 (eBin addD (eVar 4) (eC (.int 1))) (eCb lenD (aCons (eVar 0) (aNil)))) (gNm 5) B1_raised))
def B3_raised : SF := sFg [4, 5] (sSeq (sAsg (eC (.bool false)) (gNm 3)) (sFa [4, 5] (sFor (iRev1 (eCb lenD (aCons (eVar 0) (aNil)))) (gNm 4) B2_raised)))
def b_raised : SF := sSeq (sPar3 1 2 3 (pCons (eCb listD (aCons (eVar 1) (aNil))) (pCons (eLst (aNil)) (pCons (eC (.bool true)) (pNil))))) (sSeq (sFa [4, 5] (sWhile 2000 (tE (eVar 3)) B3_raised)) (sRet (eTup (aCons (eCb tupleD (aCons (eVar 1) (aNil))) (aCons (eVar 2) (aNil))))))
def F_raised : List PyData → Option Rv := fnF 2 6 b_raised
theorem ok_raised (T : Txt mg)  {f : Addr} {fd : FuncData} (F : Fun K "raised" "raised" s_raised f fd) : FnOk P w K mg base CX0 1 f fd ["batch", "bounds"] (spF K F_raised) :=
  have Sc := sc_raised
  fn_ok (k := 0) F sc_raised fun cdv A outer s H E hr => okSs_cons (okS_par3 1 2 3 rfl Sc.nd rfl rfl rfl (by decide) (by decide) (by decide) (fun ta h => ps_par3 rfl Sc.nd rfl rfl rfl (by decide) (by decide) (by decide) rfl rfl rfl h (by rfl)) (okP_cons (ok_callTy call_list_of okList rfl T.b_list (by decide +kernel) (okA_cons (ok_name 1) (okA_nil))) (okP_cons (ok_lst (okA_nil)) (okP_cons (ok_bl) (okP_nil))))) (okSs_cons (okS_fa [4, 5] (okS_while 2000 PassesOwn.never (okT_val (ok_name 3)) (okSs_fg [4, 5] (okSs_cons (okS_set 3 Sc.nd rfl (Or.inl rfl) (ok_bl)) (okSs_one (okS_fa [4, 5] (okS_for PassesOwn.never rfl (okI_rev1 rfl T.b_reversed rfl T.b_range (ok_callB call_len okLen rfl T.b_len (by decide +kernel) (okA_cons (ok_name 0) (okA_nil)))) (okG_name 4 Sc.nd rfl (Or.inl rfl)) (okSs_fg [4, 5] (okSs_one (okS_fa [5] (okS_for PassesOwn.never rfl (okI_range2 rfl T.b_range (ok_bin opAdd okAdd (ok_name 4) (ok_int)) (ok_callB call_len okLen rfl T.b_len (by decide +kernel) (okA_cons (ok_name 0) (okA_nil)))) (okG_name 5 Sc.nd rfl (Or.inl rfl)) (okSs_fg [5] (okSs_one (okS_if (okT_chain op_lt op_lt okLt okLt (ok_ix (ok_ix (ok_name 0) (ok_name 5)) (ok_int)) (ok_ix (ok_name 1) (ok_name 4)) (ok_ix (ok_name 1) (ok_name 5))) (okSs_cons (okS_asg (ok_ix (ok_name 1) (ok_name 5)) (okG_sub (pv 1) (ok_name 4))) (okSs_cons (okS_expr (ok_app (pv 2) (ok_tup (okA_cons (ok_name 4) (okA_cons (ok_name 5) (okA_nil)))))) (okSs_cons (okS_set 3 Sc.nd rfl (Or.inl rfl) (ok_bl)) (okSs_one (okS_if (okT_cmp op_gt okGt (ok_ix (ok_name 1) (ok_name 4)) (ok_bin opAdd okAdd (ok_ix (ok_ix (ok_name 0) (ok_name 4)) (ok_int)) (ok_ix (ok_ix (ok_name 0) (ok_name 4)) (ok_int))) (nomark _)) (okSs_one (okS_ret (ok_tup (okA_cons (ok_non) (okA_cons (ok_name 2) (okA_nil)))))) (okSs_nil)))))) (okSs_nil))))))))))))))) (okSs_one (okS_ret (ok_tup (okA_cons (ok_callTy call_tuple_of okTuple rfl T.b_tuple (by decide +kernel) (okA_cons (ok_name 1) (okA_nil))) (okA_cons (ok_name 2) (okA_nil)))))))
abbrev s_first_bounds : Stmt := topS 5
abbrev N_first_bounds : List Str := ["batch", "loaf"]
theorem sc_first_bounds : FnScope N_first_bounds ["batch"] (defScope s_first_bounds) := ⟨rfl, rfl, rfl, by decide +kernel, rfl, by decide +kernel, by decide +kernel⟩
def b_first_bounds : SF := sRet (eLc (iSeq (eVar 0)) (gNm 1) (tYesF) (eBin addD (eBin ixR (eVar 1) (eC (.int 1))) (eBin ixR (eVar 1) (eC (.int 2)))) [1])
def F_first_bounds : List PyData → Option Rv := fnF 1 2 b_first_bounds
theorem ok_first_bounds (T : Txt mg)  {f : Addr} {fd : FuncData} (F : Fun K "first_bounds" "first_bounds" s_first_bounds f fd) : FnOk P w K mg base CX0 1 f fd ["batch"] (spF K F_first_bounds) :=
  have Sc := sc_first_bounds
  fn_ok (k := 0) F sc_first_bounds fun cdv A outer s H E hr => okSs_one (okS_ret (ok_lc (own := [("loaf", 1)]) rfl Sc.nd (okI_seq (ok_name 0)) (blkOk_by (own := [("loaf", 1)]) (N := N_first_bounds) (sc := defScope s_first_bounds) (by decide +kernel)) (fun _ _ _ _ _ => okG_name 1 Sc.nd rfl (Or.inl rfl)) (fun _ _ _ _ _ => okTs_nil) (fun _ _ _ _ _ => ok_bin opAdd okAdd (ok_ix (ok_name 1) (ok_int)) (ok_ix (ok_name 1) (ok_int)))))
abbrev s_least_outs : Stmt := topS 6
abbrev N_least_outs : List Str := ["batch"]
theorem sc_least_outs : FnScope N_least_outs ["batch"] (defScope s_least_outs) := ⟨rfl, rfl, rfl, by decide +kernel, rfl, by decide +kernel, by decide +kernel⟩
def b_least_outs : SF := sRet (eBin ixR (eCall F_raised (aCons (eVar 0) (aCons (eCall F_first_bounds (aCons (eVar 0) (aNil))) (aNil)))) (eC (.int 0)))
def F_least_outs : List PyData → Option Rv := fnF 1 1 b_least_outs
theorem ok_least_outs (T : Txt mg) {f_raised : Addr} {fd_raised : FuncData} (C_raised : Cal P w K mg base 1 "raised" f_raised fd_raised ["batch", "bounds"] (spF K F_raised)) {f_first_bounds : Addr} {fd_first_bounds : FuncData} (C_first_bounds : Cal P w K mg base 1 "first_bounds" f_first_bounds fd_first_bounds ["batch"] (spF K F_first_bounds)) {f : Addr} {fd : FuncData} (F : Fun K "least_outs" "least_outs" s_least_outs f fd) : FnOk P w K mg base CX0 2 f fd ["batch"] (spF K F_least_outs) :=
  have Sc := sc_least_outs
  fn_ok (k := 1) F sc_least_outs fun cdv A outer s H E hr => okSs_one (okS_ret (ok_ix (ok_call C_raised.c (hr.mono (by decide)) rfl C_raised.g C_raised.k C_raised.b (okA_cons (ok_name 0) (okA_cons (ok_call C_first_bounds.c (hr.mono (by decide)) rfl C_first_bounds.g C_first_bounds.k C_first_bounds.b (okA_cons (ok_name 0) (okA_nil))) (okA_nil)))) (ok_int)))
abbrev s_can_be_out : Stmt := topS 8
abbrev N_can_be_out : List Str := ["batch", "name", "loaf", "names", "place", "found", "baked"]
theorem sc_can_be_out : FnScope N_can_be_out ["batch", "name"] (defScope s_can_be_out) := ⟨rfl, rfl, rfl, by decide +kernel, rfl, by decide +kernel, by decide +kernel⟩
def B1_can_be_out : SF := sFg [6] (sIf (tE (eBin isnD (eCall F_least_outs (aCons (eBin addD (eBin addD (eSlice (eVar 0) (oNo) (oE (eVar 4))) (eTup (aCons (eTup (aCons (eVar 1) (aCons (eBin ixR (eVar 2) (eC (.int 1))) (aCons (eVar 6) (aCons (eVar 6) (aNil)))))) (aNil)))) (eSlice (eVar 0) (oE (eBin addD (eVar 4) (eC (.int 1)))) (oNo))) (aNil))) (eC .none))) (sDrop (eApp 5 (eBin addD (eBin ixR (eVar 2) (eC (.int 1))) (eVar 6)))) (sNil))
def b_can_be_out : SF := sSeq (sAsg (eLc (iSeq (eVar 0)) (gNm 2) (tYesF) (eBin ixR (eVar 2) (eC (.int 0))) [2]) (gNm 3)) (sSeq (sIf (tE (eBin ninR (eVar 1) (eVar 3))) (sNever) (sNil)) (sSeq (sAsg (eIndex (eVar 3) (eVar 1)) (gNm 4)) (sSeq (sAsg (eBin ixR (eVar 0) (eVar 4)) (gNm 2)) (sSeq (sAsg (eLst (aNil)) (gNm 5)) (sSeq (sFa [3, 6] (sFor (iRange2 (eBin ixR (eVar 2) (eC (.int 2))) (eBin addD (eBin ixR (eVar 2) (eC (.int 3))) (eC (.int 1)))) (gNm 6) B1_can_be_out)) (sRet (eVar 5)))))))
def F_can_be_out : List PyData → Option Rv := fnF 2 7 b_can_be_out
theorem ok_can_be_out (T : Txt mg) {f_least_outs : Addr} {fd_least_outs : FuncData} (C_least_outs : Cal P w K mg base 2 "least_outs" f_least_outs fd_least_outs ["batch"] (spF K F_least_outs)) {f : Addr} {fd : FuncData} (F : Fun K "can_be_out" "can_be_out" s_can_be_out f fd) : FnOk P w K mg base CX0 3 f fd ["batch", "name"] (spF K F_can_be_out) :=
  have Sc := sc_can_be_out
  fn_ok (k := 2) F sc_can_be_out fun cdv A outer s H E hr => okSs_cons (okS_setLc (i := 3) (own := [("loaf", 2)]) rfl Sc.nd rfl rfl (sw_true rfl rfl rfl (by decide +kernel)) (okI_seq (ok_name 0)) (blkOk_by (own := [("loaf", 2)]) (N := N_can_be_out) (sc := defScope s_can_be_out) (by decide +kernel)) (fun _ _ _ _ _ => okG_name 2 Sc.nd rfl (Or.inl rfl)) (fun _ _ _ _ _ => okTs_nil) (fun _ _ _ _ _ => ok_ix (ok_name 2) (ok_int))) (okSs_cons (okS_if (okT_cmp (opNotIn (hu65 hr)) okNotIn (ok_name 1) (ok_name 3) rfl) (okSs_one (okS_never)) (okSs_nil)) (okSs_cons (okS_set 4 Sc.nd rfl (Or.inl rfl) (ok_index (ok_name 3) (ok_name 1))) (okSs_cons (okS_set 2 Sc.nd rfl (Or.inl rfl) (ok_ix (ok_name 0) (ok_name 4))) (okSs_cons (okS_set 5 Sc.nd rfl (Or.inl rfl) (ok_lst (okA_nil))) (okSs_cons (okS_fa [3, 6] (okS_for PassesOwn.never rfl (okI_range2 rfl T.b_range (ok_ix (ok_name 2) (ok_int)) (ok_bin opAdd okAdd (ok_ix (ok_name 2) (ok_int)) (ok_int))) (okG_name 6 Sc.nd rfl (Or.inl rfl)) (okSs_fg [6] (okSs_one (okS_if (okT_cmp opIsn okIsn (ok_call C_least_outs.c (hr.mono (by decide)) rfl C_least_outs.g C_least_outs.k C_least_outs.b (okA_cons (ok_bin opAdd okAdd (ok_bin opAdd okAdd (ok_sl (ok_name 0) (okO_no) (okO_e (ok_name 4))) (ok_tup (okA_cons (ok_tup (okA_cons (ok_name 1) (okA_cons (ok_ix (ok_name 2) (ok_int)) (okA_cons (ok_name 6) (okA_cons (ok_name 6) (okA_nil)))))) (okA_nil)))) (ok_sl (ok_name 0) (okO_e (ok_bin opAdd okAdd (ok_name 4) (ok_int))) (okO_no))) (okA_nil))) (ok_non) (nomark _)) (okSs_one (okS_expr (ok_app (pv 5) (ok_bin opAdd okAdd (ok_ix (ok_name 2) (ok_int)) (ok_name 6))))) (okSs_nil)))))) (okSs_one (okS_ret (ok_name 5))))))))
abbrev s__law_of : Stmt := topS 12
abbrev N__law_of : List Str := ["bag", "some"]
theorem sc__law_of : FnScope N__law_of ["bag", "some"] (defScope s__law_of) := ⟨rfl, rfl, rfl, by decide +kernel, rfl, by decide +kernel, by decide +kernel⟩
def b__law_of : SF := sRet (eBin ixR (eVar 1) (eCallO 0 F__law_take (aCons (eVar 0) (aCons (eCb lenD (aCons (eVar 1) (aNil))) (aNil)))))
def F__law_of : List PyData → List PyData → Option (Rv × List PyData) := fnB 0 2 2 b__law_of
theorem ok__law_of (T : Txt mg) {f__law_take : Addr} {fd__law_take : FuncData} (C__law_take : Cal P w K mg base 1 "_law_take" f__law_take fd__law_take ["bag", "count"] (spB K 0 F__law_take)) {f : Addr} {fd : FuncData} (F : Fun K "_law_of" "_law_of" s__law_of f fd) : FnOk P w K mg base CX0 2 f fd ["bag", "some"] (spB K 0 F__law_of) :=
  have Sc := sc__law_of
  fnB_ok 0 (k := 1) F sc__law_of fun cdv A outer s H E hr => okSs_one (okS_ret (ok_ix (ok_name 1) (ok_callO C__law_take.c (hr.mono (by decide)) rfl C__law_take.g C__law_take.k C__law_take.b (okA_cons (ok_name 0) (okA_cons (ok_callB call_len okLen rfl T.b_len (by decide +kernel) (okA_cons (ok_name 1) (okA_nil))) (okA_nil))))))
abbrev s__law_soonest : Stmt := topS 16
abbrev N__law_soonest : List Str := ["batch", "loaf", "outs", "going", "place", "k", "waits"]
theorem sc__law_soonest : FnScope N__law_soonest ["batch"] (defScope s__law_soonest) := ⟨rfl, rfl, rfl, by decide +kernel, rfl, by decide +kernel, by decide +kernel⟩
def B1__law_soonest : SF := sFg [4, 6] (sSeq (sAsg (eLc (iRange2 (eBin addD (eVar 4) (eC (.int 1))) (eCb lenD (aCons (eVar 0) (aNil)))) (gNm 5) (tE (eChain ltD ltD (eBin ixR (eBin ixR (eVar 0) (eVar 5)) (eC (.int 1))) (eBin ixR (eVar 2) (eVar 4)) (eBin ixR (eVar 2) (eVar 5)))) (eBin ixR (eVar 2) (eVar 5)) [5]) (gNm 6)) (sSeq (sIf (tE (eBin neD (eVar 6) (eLst (aNil)))) (sAsg (eTup (aCons (eCb maxD (aCons (eVar 6) (aNil))) (aCons (eC (.bool true)) (aNil)))) (gTup 2 (gCons (gSub 2 (eVar 4)) (gCons (gNm 3) (gNil))))) (sNil)) (sIf (tE (eBin gtD (eBin ixR (eVar 2) (eVar 4)) (eBin addD (eBin ixR (eBin ixR (eVar 0) (eVar 4)) (eC (.int 1))) (eBin ixR (eBin ixR (eVar 0) (eVar 4)) (eC (.int 3)))))) (sRet (eC .none)) (sNil))))
def B2__law_soonest : SF := sFg [4, 6] (sSeq (sAsg (eC (.bool false)) (gNm 3)) (sFa [1, 4, 5, 6] (sFor (iRange3 (eBin subD (eCb lenD (aCons (eVar 0) (aNil))) (eC (.int 1))) (eC (.int (-1)))) (gNm 4) B1__law_soonest)))
def b__law_soonest : SF := sSeq (sAsg (eLc (iSeq (eVar 0)) (gNm 1) (tYesF) (eBin addD (eBin ixR (eVar 1) (eC (.int 1))) (eBin ixR (eVar 1) (eC (.int 2)))) [1]) (gNm 2)) (sSeq (sAsg (eC (.bool true)) (gNm 3)) (sSeq (sFa [1, 4, 5, 6] (sWhile 2000 (tE (eVar 3)) B2__law_soonest)) (sRet (eCb tupleD (aCons (eVar 2) (aNil))))))
def F__law_soonest : List PyData → Option Rv := fnF 1 7 b__law_soonest
theorem ok__law_soonest (T : Txt mg)  {f : Addr} {fd : FuncData} (F : Fun K "_law_soonest" "_law_soonest" s__law_soonest f fd) : FnOk P w K mg base CX0 1 f fd ["batch"] (spF K F__law_soonest) :=
  have Sc := sc__law_soonest
  fn_ok (k := 0) F sc__law_soonest fun cdv A outer s H E hr => okSs_cons (okS_set 2 Sc.nd rfl (Or.inr rfl) (ok_lc (own := [("loaf", 1)]) rfl Sc.nd (okI_seq (ok_name 0)) (blkOk_by (own := [("loaf", 1)]) (N := N__law_soonest) (sc := defScope s__law_soonest) (by decide +kernel)) (fun _ _ _ _ _ => okG_name 1 Sc.nd rfl (Or.inl rfl)) (fun _ _ _ _ _ => okTs_nil) (fun _ _ _ _ _ => ok_bin opAdd okAdd (ok_ix (ok_name 1) (ok_int)) (ok_ix (ok_name 1) (ok_int))))) (okSs_cons (okS_set 3 Sc.nd rfl (Or.inl rfl) (ok_bl)) (okSs_cons (okS_fa [1, 4, 5, 6] (okS_while 2000 PassesOwn.never (okT_val (ok_name 3)) (okSs_fg [4, 6] (okSs_cons (okS_set 3 Sc.nd rfl (Or.inl rfl) (ok_bl)) (okSs_one (okS_fa [1, 4, 5, 6] (okS_for PassesOwn.never rfl (okI_range3 rfl T.b_range (ok_bin op_sub okSub (ok_callB call_len okLen rfl T.b_len (by decide +kernel) (okA_cons (ok_name 0) (okA_nil))) (ok_int)) (ok_negC) (fun ta h => pi_range3 rfl T.b_range h)) (okG_name 4 Sc.nd rfl (Or.inr rfl)) (okSs_fg [4, 6] (okSs_cons (okS_setLc (i := 6) (own := [("k", 5)]) rfl Sc.nd rfl rfl (sw_true rfl rfl rfl (by decide +kernel)) (okI_range2 rfl T.b_range (ok_bin opAdd okAdd (ok_name 4) (ok_int)) (ok_callB call_len okLen rfl T.b_len (by decide +kernel) (okA_cons (ok_name 0) (okA_nil)))) (blkOk_by (own := [("k", 5)]) (N := N__law_soonest) (sc := defScope s__law_soonest) (by decide +kernel)) (fun _ _ _ _ _ => okG_name 5 Sc.nd rfl (Or.inl rfl)) (fun _ _ _ _ _ => okTs_one (okT_chain op_lt op_lt okLt okLt (ok_ix (ok_ix (ok_name 0) (ok_name 5)) (ok_int)) (ok_ix (ok_name 2) (ok_name 4)) (ok_ix (ok_name 2) (ok_name 5)))) (fun _ _ _ _ _ => ok_ix (ok_name 2) (ok_name 5))) (okSs_cons (okS_if (okT_cmp (op_neD hr.units) okNe (ok_name 6) (ok_lst (okA_nil)) (nomark _)) (okSs_one (okS_asg (ok_tup (okA_cons (ok_callB (opMax rfl hr.units) okMax rfl T.b_max (by decide +kernel) (okA_cons (ok_name 6) (okA_nil))) (okA_cons (ok_bl) (okA_nil)))) (okG_tup rfl (okGs_cons (okG_sub (pv 2) (ok_name 4)) (okGs_cons (okG_name 3 Sc.nd rfl (Or.inl rfl)) (okGs_nil)))))) (okSs_nil)) (okSs_one (okS_if (okT_cmp op_gt okGt (ok_ix (ok_name 2) (ok_name 4)) (ok_bin opAdd okAdd (ok_ix (ok_ix (ok_name 0) (ok_name 4)) (ok_int)) (ok_ix (ok_ix (ok_name 0) (ok_name 4)) (ok_int))) (nomark _)) (okSs_one (okS_ret (ok_non))) (okSs_nil))))))))))))) (okSs_one (okS_ret (ok_callTy call_tuple_of okTuple rfl T.b_tuple (by decide +kernel) (okA_cons (ok_name 2) (okA_nil)))))))
abbrev s__law_refused : Stmt := topS 17
abbrev N__law_refused : List Str := ["batch", "name", "e"]
theorem sc__law_refused : FnScope N__law_refused ["batch", "name"] (defScope s__law_refused) := ⟨rfl, rfl, rfl, by decide +kernel, rfl, by decide +kernel, by decide +kernel⟩
def r_names : SF := sAsg (eLc (iSeq (eVar 0)) (gNm 2) (tYesF) (eBin ixR (eVar 2) (eC (.int 0))) [2]) (gNm 3)
def r_notin : TF := tE (eBin ninR (eVar 1) (eVar 3))
def F_refuse (ds : List PyData) : Option Rv := if ds.length = 2 then (match r_names (ds.map Sl.da ++ List.replicate 5 .no) with
  | some (.nx ρ1) => (match r_notin ρ1 with
    | some (true, ρ2) => (match (ρ2[1]? : Option Sl) with
      | some (.da d) => some (.da d)
      | _ => none)
    | _ => none)
  | _ => none) else none
def r_refused (ds : List PyData) : Option Rv → Option Rv := fun o => match ds, o with | [_, .str x], some (.da (.str y)) => if x = y then some (.da (.bool true)) else none | _, _ => none
def F__law_refused : List PyData → Option Rv := fun ds => r_refused ds (F_refuse ds)
--HAND
def cbody : Stmt → List Stmt
  | .ClassDef _ _ _ b .. => b
  | _ => []
abbrev s_noinit : Stmt := (cbody (topS 2)).getD 0 (.Pass ⟨0, 0, 0, 0⟩)
theorem sc_noinit : FnScope ["self", "name"] ["self", "name"] (defScope s_noinit) := ⟨rfl, rfl, rfl, by decide +kernel, rfl, by decide +kernel, by decide +kernel⟩
theorem ok_noinit {C0 C fI : Addr} (T : ErrC K mg "OvenError" "NoLoaf" "name" C0 C fI) {fd : FuncData} (F : Fun K "__init__" "NoLoaf.__init__" s_noinit fI fd) : FnOk P w K mg base CX0 1 fI fd ["self", "name"] (spNI K C "name") := by
  refine F.ok sc_noinit (fun vs H Q E h => ?_) (fun cdv A outer s H vs Q E hr h => ⟨_, pss_cons (ps_expr (pe_ovinit rfl T.g0 T.s0 T.r0 T.v0 (pa_cons (pv 0) (pa_cons pe_str pa_nil)) rfl)) (pss_one (ps_ost (pv 0) (pv 1))), ?_⟩)
  · obtain ⟨a, y, rfl, _⟩ := h
    rfl
  · obtain ⟨a, y, rfl, ha, q⟩ := h
    exact init_reads T ha fun dx h1 h2 => q dx h1 h2
theorem refuse_inv {ds : List PyData} {z : Str} (h : F_refuse ds = some (.da (.str z))) : ∃ ρ1 ρ2, ds.length = 2 ∧ r_names (ds.map Sl.da ++ List.replicate 5 .no) = some (.nx ρ1) ∧ r_notin ρ1 = some (true, ρ2) ∧ ρ2[1]? = some (.da (.str z)) := by
  unfold F_refuse at h
  split at h
  · rename_i hl
    split at h
    · rename_i ρ1 e1
      split at h
      · rename_i ρ2 e2
        split at h
        · rename_i d e3
          cases h
          exact ⟨ρ1, ρ2, hl, e1, e2, e3⟩
        · cases h
      · cases h
    · cases h
  · cases h
theorem ok_refuse (X0 : Txt mg) {C0 C fI : Addr} (T : ErrC K mg "OvenError" "NoLoaf" "name" C0 C fI) {fd1 : FuncData} (F1 : FnOk P w K mg base CX0 1 fI fd1 ["self", "name"] (spNI K C "name")) (hb : Binds K fd1 ["self", "name"] []) {f : Addr} {fd : FuncData} (F : Fun K "can_be_out" "can_be_out" s_can_be_out f fd) : FnOk P w K mg base (L2.CX P w) 3 f fd ["batch", "name"] (spRaise K C "name" F_refuse) := by
  have Sc := sc_can_be_out
  refine F.okX sc_can_be_out (fun vs H Q E h => ?_) (fun cdv A outer s H vs Q E hr h => ⟨_, pss_cons (okS_setLc (i := 3) (own := [("loaf", 2)]) rfl Sc.nd rfl rfl (sw_true rfl rfl rfl (by decide +kernel)) (okI_seq (ok_name 0)) (blkOk_by (own := [("loaf", 2)]) (N := N_can_be_out) (sc := defScope s_can_be_out) (by decide +kernel)) (fun _ _ _ _ _ => okG_name 2 Sc.nd rfl (Or.inl rfl)) (fun _ _ _ _ _ => okTs_nil) (fun _ _ _ _ _ => ok_ix (ok_name 2) (ok_int)))
    (pss_cons (ps_if (okT_cmp (opNotIn (hu65 hr)) okNotIn (ok_name 1) (ok_name 3) rfl) (pss_one (ps_raise rfl (takes_of rfl rfl rfl rfl) (pmk_oex (dvs := []) T.ox T.iC T.tI F1 (hr.mono (by decide)) hb .nil pass0 rfl T.g (pa_cons (pv 1) pa_nil)))) pss_nil) pss_nev), ?_⟩)
  · obtain ⟨S, ds, z, _, h1, h2, _⟩ := h
    obtain ⟨_, _, hl, _⟩ := refuse_inv h2
    rw [h1.length]
    exact hl
  · obtain ⟨S, ds, z, sh, h1, h2, q⟩ := h
    obtain ⟨ρ1, ρ2, hl, e1, e2, e3⟩ := refuse_inv h2
    have R := start_rep 5 h1 sh
    have es : L2.start N_can_be_out vs = vs.map some ++ List.replicate 5 none := by
      unfold L2.start
      rw [h1.length, hl]
      rfl
    rw [es]
    refine ⟨_, S, _, _, R, e1, fun σ' H' S' R' s' _ => ⟨_, S', _, _, _, R', e2, fun H2 S2 R2 s2 => ?_⟩⟩
    obtain ⟨v, hv, dv⟩ := R2.dat 1 _ e3
    cases dv
    refine ⟨_, hv, ?_⟩
    exact mkE_in fun d H3 hd h3 s3 => q d H3 (by cases e : H d with
      | none => rfl
      | some o => rw [R2.bh d o e] at hd; cases hd) h3 (R2.bh.trans s3)
theorem refused_inv {ds : List PyData} {r : Rv} (h : F__law_refused ds = some r) : ∃ d x, ds = [d, .str x] ∧ F_refuse ds = some (.da (.str x)) ∧ r = .da (.bool true) := by
  unfold F__law_refused r_refused at h
  split at h
  · rename_i d x y e
    split at h
    · rename_i hxy
      cases h
      exact ⟨d, x, rfl, by rw [e, hxy], rfl⟩
    · cases h
  · cases h
theorem ok__law_refused (X0 : Txt mg) {C0 C fI : Addr} (T : ErrC K mg "OvenError" "NoLoaf" "name" C0 C fI) {fc : Addr} {fdc : FuncData} (GC : FnOk P w K mg base (L2.CX P w) 3 fc fdc ["batch", "name"] (spRaise K C "name" F_refuse)) (gC : mg "can_be_out" = some (.ref fc)) (kC : PySem.W.keepIn K (.ref fc) = true) (bC : Binds K fdc ["batch", "name"] [])
    {f : Addr} {fd : FuncData} (F : Fun K "_law_refused" "_law_refused" s__law_refused f fd) : FnOk P w K mg base CX0 4 f fd ["batch", "name"] (spF K F__law_refused) := by
  refine F.ok sc__law_refused (fun vs H Q E h => ?_) (fun cdv A outer s H vs Q E hr h => ⟨_, pss_cons (ps_try_as (i := 2) (tb := fun W => tDrop (tCallS (spRaise K C "name" F_refuse) (WE W) (tCons (tVar 0) (tCons (tVar 1) tNil)))) (ts := fun a cls d => tRet (tAndV (tCB (rIsE2 K C C0 a cls d) (tCons (tVar 2) (tCons (tC (.ref C0)) tNil))) (tOp rEq (tXf a cls d C "name" (tVar 2)) (tVar 1)))) (Wout := fun _ _ _ _ => False) rfl rfl sc__law_refused.nd rfl rfl ⟨rfl, by decide, Or.inl T.g⟩ takes0
      (fun W pn xe tk _ => pss_one (ps_expr (by exact (pe_callS GC (hr.mono (by decide)) rfl gC kC bC (fun σ => passAt tk σ) (by exact (pa_cons (pv 0) (pa_cons (pv 1) pa_nil)))))))
      (fun a oe cls d pn hz hf => pss_one (ps_ret (by exact (pe_and (pe_callB (call_isE2 T hz hf) (by rfl) X0.b_isinstance (by decide +kernel) (by exact (pa_cons (pv 2) (pa_cons (pe_glob (by rfl) T.g0 (by rfl)) pa_nil)))) (pe_one (pe_cmpR op_eq (pe_xf T.xf T.nf hz hf (pv 2)) (pv 1) rfl)))))))
    pss_nev, ?_⟩)
  · obtain ⟨S, ds, r, _, h1, h2, _⟩ := h
    obtain ⟨d, x, rfl, _⟩ := refused_inv h2
    rw [h1.length]
    rfl
  · obtain ⟨S, ds, r, sh, h1, h2, q⟩ := h
    obtain ⟨d0, x, rfl, e, rfl⟩ := refused_inv h2
    cases h1 with
    | cons d1 h1 => cases h1 with
      | cons d2 h1 =>
        cases h1
        cases d2
        refine ⟨_, rfl, _, rfl, S, _, x, sh, .cons d1 (.cons (.str x) .nil), e, fun d H' hd hH s' => ⟨true, T.te, fun _ a ha => ?_, fun z => nomatch z⟩⟩
        refine ⟨_, rfl, d, _, rfl, rfl, rfl, hH, true, rfl, ?_⟩
        rw [if_pos rfl]
        refine ⟨_, rfl, rfl, rfl, d, _, .str x, rfl, hH, rfl, .str x, rfl, rfl, ?_⟩
        have e1 : decide (V.str x = V.str x) = true := decide_eq_true rfl
        rw [e1]
        exact q _ _ S ⟨Same.refl _, s', sh.trans s', fun _ _ z => z⟩ (.bl true)

abbrev s_law : Stmt := topS 18
abbrev N_law : List Str := ["script", "k", "bag", "batch", "ways", "place", "loaf", "outs", "due", "told", "at", "name", "since", "low", "most", "baked", "some", "gap"]
theorem sc_law : FnScope N_law ["script"] (defScope s_law) := ⟨rfl, rfl, rfl, by decide +kernel, rfl, by decide +kernel, by decide +kernel⟩
def B1_law : SF := sFg [5, 6, 8] (sSeq (sAsg (eCb sortSetD (aCons (eLc (iSeq (eVar 4)) (gNm 7) (tYesF) (eBin ixR (eVar 7) (eVar 5)) [7]) (aNil))) (gNm 8)) (sIf (tE (eBin neD (eCall F_can_be_out (aCons (eVar 3) (aCons (eBin ixR (eVar 6) (eC (.int 0))) (aNil)))) (eVar 8))) (sRet (eC (.bool false))) (sNil)))
def B2_law : SF := sFg [15] (sIf (tE (eBin isnD (eCall F__law_soonest (aCons (eBin addD (eBin addD (eSlice (eVar 3) (oNo) (oE (eVar 10))) (eTup (aCons (eTup (aCons (eVar 11) (aCons (eVar 12) (aCons (eVar 15) (aCons (eVar 15) (aNil)))))) (aNil)))) (eSlice (eVar 3) (oE (eBin addD (eVar 10) (eC (.int 1)))) (oNo))) (aNil))) (eC .none))) (sDrop (eApp 8 (eBin addD (eVar 12) (eVar 15)))) (sNil))
def B3_law : SF := sFg [1, 2, 3, 4, 5, 6, 8, 9, 10, 11, 12, 13, 14, 15, 16] (sSeq (sAsg (eCall F__law_bag (aCons (eVar 0) (aCons (eVar 1) (aNil)))) (gNm 2)) (sSeq (sAsg (eCallO 0 F__law_batch (aCons (eVar 2) (aCons (eC (.int 4)) (aCons (eC (.int 6)) (aCons (eC (.int 8)) (aNil)))))) (gNm 3)) (sSeq (sAsg (eCall F__law_ways (aCons (eVar 3) (aNil))) (gNm 4)) (sSeq (sFa [1, 5, 6, 7, 8, 9, 10, 11, 12, 13, 14, 15, 16, 17] (sFor (iEnum (aCons (eVar 3) (aNil))) (gTup 2 (gCons (gNm 5) (gCons (gNm 6) (gNil)))) B1_law)) (sSeq (sAsg (eCallO 0 F__law_batch (aCons (eVar 2) (aCons (eC (.int 7)) (aCons (eC (.int 9)) (aCons (eCallO 0 F__law_of (aCons (eVar 2) (aCons (eLst (aCons (eC (.int 9)) (aCons (eC (.int 30)) (aNil)))) (aNil)))) (aNil)))))) (gNm 3)) (sSeq (sAsg (eCall F_least_outs (aCons (eVar 3) (aNil))) (gNm 9)) (sSeq (sAsg (eCallO 0 F__law_take (aCons (eVar 2) (aCons (eCb lenD (aCons (eVar 3) (aNil))) (aNil)))) (gNm 10)) (sSeq (sAsg (eBin ixR (eVar 3) (eVar 10)) (gTup 4 (gCons (gNm 11) (gCons (gNm 12) (gCons (gNm 13) (gCons (gNm 14) (gNil))))))) (sSeq (sAsg (eLst (aNil)) (gNm 8)) (sSeq (sFa [1, 2, 4, 5, 6, 7, 15, 16, 17] (sFor (iRange2 (eVar 13) (eBin addD (eVar 14) (eC (.int 1)))) (gNm 15) B2_law)) (sSeq (sAsg (eCall F_can_be_out (aCons (eVar 3) (aCons (eVar 11) (aNil)))) (gNm 16)) (sSeq (sIf (tOrF (tE (eBin neD (eVar 16) (eVar 8))) (tOrF (tE (eBin neD (eBin eqD (eVar 16) (eLst (aNil))) (eBin isD (eVar 9) (eC .none)))) (tAndF (tE (eBin neD (eVar 16) (eLst (aNil)))) (tE (eBin neD (eBin ixR (eVar 16) (eC (.int 0))) (eBin ixR (eVar 9) (eVar 10))))))) (sRet (eC (.bool false))) (sNil)) (sSeq (sDrop (eApp 16 (eC (.int 0)))) (sIf (tOrF (tE (eBin neD (eCall F_can_be_out (aCons (eVar 3) (aCons (eVar 11) (aNil)))) (eVar 8))) (tOrF (tNotF (tE (eCall F__law_refused (aCons (eVar 3) (aCons (eC (.str "zoe")) (aNil)))))) (tNotF (tE (eCall F__law_refused (aCons (eVar 3) (aCons (eC (.str "Ann ")) (aNil)))))))) (sRet (eC (.bool false))) (sNil)))))))))))))))
def b_law : SF := sSeq (sFa [1, 2, 3, 4, 5, 6, 7, 8, 9, 10, 11, 12, 13, 14, 15, 16, 17] (sFor (iRange1 (eBin addD (eCb minD (aCons (eCb lenD (aCons (eVar 0) (aNil))) (aCons (eC (.int 5)) (aNil)))) (eC (.int 2)))) (gNm 1) B3_law)) (sSeq (sAsg (eTup (aCons (eTup (aCons (eC (.str "ann")) (aCons (eC (.int 0)) (aCons (eC (.int 1)) (aCons (eC (.int 9)) (aNil)))))) (aCons (eTup (aCons (eC (.str "bo")) (aCons (eC (.int 3)) (aCons (eC (.int 2)) (aCons (eC (.int 4)) (aNil)))))) (aNil)))) (gNm 17)) (sRet (eAndF (eBin eqD (eCall F_can_be_out (aCons (eVar 17) (aCons (eC (.str "ann")) (aNil)))) (eLst (aCons (eC (.int 1)) (aCons (eC (.int 2)) (aCons (eC (.int 3)) (aCons (eC (.int 5)) (aCons (eC (.int 6)) (aCons (eC (.int 7)) (aCons (eC (.int 8)) (aCons (eC (.int 9)) (aNil))))))))))) (eBin eqD (eCall F_can_be_out (aCons (eVar 17) (aCons (eC (.str "bo")) (aNil)))) (eLst (aCons (eC (.int 5)) (aCons (eC (.int 6)) (aCons (eC (.int 7)) (aNil)))))))))
def F_law : List PyData → Option Rv := fnF 1 18 b_law
theorem ok_law (T : Txt mg) {f__law_bag : Addr} {fd__law_bag : FuncData} (C__law_bag : Cal P w K mg base 1 "_law_bag" f__law_bag fd__law_bag ["script", "k"] (spF K F__law_bag)) {f__law_batch : Addr} {fd__law_batch : FuncData} (C__law_batch : Cal P w K mg base 2 "_law_batch" f__law_batch fd__law_batch ["bag", "many", "wide", "spare"] (spB K 0 F__law_batch)) {f__law_ways : Addr} {fd__law_ways : FuncData} (C__law_ways : Cal P w K mg base 1 "_law_ways" f__law_ways fd__law_ways ["batch"] (spF K F__law_ways)) {f_least_outs : Addr} {fd_least_outs : FuncData} (C_least_outs : Cal P w K mg base 2 "least_outs" f_least_outs fd_least_outs ["batch"] (spF K F_least_outs)) {f__law_take : Addr} {fd__law_take : FuncData} (C__law_take : Cal P w K mg base 1 "_law_take" f__law_take fd__law_take ["bag", "count"] (spB K 0 F__law_take)) {f_can_be_out : Addr} {fd_can_be_out : FuncData} (C_can_be_out : Cal P w K mg base 3 "can_be_out" f_can_be_out fd_can_be_out ["batch", "name"] (spF K F_can_be_out)) {f__law_of : Addr} {fd__law_of : FuncData} (C__law_of : Cal P w K mg base 2 "_law_of" f__law_of fd__law_of ["bag", "some"] (spB K 0 F__law_of)) {f__law_soonest : Addr} {fd__law_soonest : FuncData} (C__law_soonest : Cal P w K mg base 1 "_law_soonest" f__law_soonest fd__law_soonest ["batch"] (spF K F__law_soonest)) {f__law_refused : Addr} {fd__law_refused : FuncData} (C__law_refused : Cal P w K mg base 4 "_law_refused" f__law_refused fd__law_refused ["batch", "name"] (spF K F__law_refused)) {f : Addr} {fd : FuncData} (F : Fun K "law" "law" s_law f fd) : FnOk P w K mg base CX0 5 f fd ["script"] (spF K F_law) :=
  have Sc := sc_law
  fn_ok (k := 4) F sc_law fun cdv A outer s H E hr => okSs_cons (okS_fa [1, 2, 3, 4, 5, 6, 7, 8, 9, 10, 11, 12, 13, 14, 15, 16, 17] (okS_for PassesOwn.never rfl (okI_range1 rfl T.b_range (ok_bin opAdd okAdd (ok_callB (opMin rfl hr.units) okMin rfl T.b_min (by decide +kernel) (okA_cons (ok_callB call_len okLen rfl T.b_len (by decide +kernel) (okA_cons (ok_name 0) (okA_nil))) (okA_cons (ok_int) (okA_nil)))) (ok_int))) (okG_name 1 Sc.nd rfl (Or.inl rfl)) (okSs_fg [1, 2, 3, 4, 5, 6, 8, 9, 10, 11, 12, 13, 14, 15, 16] (okSs_cons (okS_set 2 Sc.nd rfl (Or.inl rfl) (ok_call C__law_bag.c (hr.mono (by decide)) rfl C__law_bag.g C__law_bag.k C__law_bag.b (okA_cons (ok_name 0) (okA_cons (ok_name 1) (okA_nil))))) (okSs_cons (okS_set 3 Sc.nd rfl (Or.inl rfl) (ok_callO C__law_batch.c (hr.mono (by decide)) rfl C__law_batch.g C__law_batch.k C__law_batch.b (okA_cons (ok_name 2) (okA_cons (ok_int) (okA_cons (ok_int) (okA_cons (ok_int) (okA_nil))))))) (okSs_cons (okS_set 4 Sc.nd rfl (Or.inl rfl) (ok_call C__law_ways.c (hr.mono (by decide)) rfl C__law_ways.g C__law_ways.k C__law_ways.b (okA_cons (ok_name 3) (okA_nil)))) (okSs_cons (okS_fa [1, 5, 6, 7, 8, 9, 10, 11, 12, 13, 14, 15, 16, 17] (okS_for PassesOwn.never rfl (okI_enum rfl T.b_enumerate (okA_cons (ok_name 3) (okA_nil))) (okG_tup rfl (okGs_cons (okG_name 5 Sc.nd rfl (Or.inr rfl)) (okGs_cons (okG_name 6 Sc.nd rfl (Or.inl rfl)) (okGs_nil)))) (okSs_fg [5, 6, 8] (okSs_cons (okS_set 8 Sc.nd rfl (Or.inl rfl) (ok_sortSet rfl rfl T.b_sorted rfl T.b_set (okA_cons (ok_lc (own := [("outs", 7)]) rfl Sc.nd (okI_seq (ok_name 4)) (blkOk_by (own := [("outs", 7)]) (N := N_law) (sc := defScope s_law) (by decide +kernel)) (fun _ _ _ _ _ => okG_name 7 Sc.nd rfl (Or.inl rfl)) (fun _ _ _ _ _ => okTs_nil) (fun _ _ _ _ _ => ok_ix (ok_name 7) (ok_name 5))) (okA_nil)))) (okSs_one (okS_if (okT_cmp (op_neD hr.units) okNe (ok_call C_can_be_out.c (hr.mono (by decide)) rfl C_can_be_out.g C_can_be_out.k C_can_be_out.b (okA_cons (ok_name 3) (okA_cons (ok_ix (ok_name 6) (ok_int)) (okA_nil)))) (ok_name 8) (nomark _)) (okSs_one (okS_ret (ok_bl))) (okSs_nil))))))) (okSs_cons (okS_set 3 Sc.nd rfl (Or.inl rfl) (ok_callO C__law_batch.c (hr.mono (by decide)) rfl C__law_batch.g C__law_batch.k C__law_batch.b (okA_cons (ok_name 2) (okA_cons (ok_int) (okA_cons (ok_int) (okA_cons (ok_callO C__law_of.c (hr.mono (by decide)) rfl C__law_of.g C__law_of.k C__law_of.b (okA_cons (ok_name 2) (okA_cons (ok_lst (okA_cons (ok_int) (okA_cons (ok_int) (okA_nil)))) (okA_nil)))) (okA_nil))))))) (okSs_cons (okS_set 9 Sc.nd rfl (Or.inl rfl) (ok_call C_least_outs.c (hr.mono (by decide)) rfl C_least_outs.g C_least_outs.k C_least_outs.b (okA_cons (ok_name 3) (okA_nil)))) (okSs_cons (okS_set 10 Sc.nd rfl (Or.inl rfl) (ok_callO C__law_take.c (hr.mono (by decide)) rfl C__law_take.g C__law_take.k C__law_take.b (okA_cons (ok_name 2) (okA_cons (ok_callB call_len okLen rfl T.b_len (by decide +kernel) (okA_cons (ok_name 3) (okA_nil))) (okA_nil))))) (okSs_cons (okS_asg (ok_ix (ok_name 3) (ok_name 10)) (okG_tup rfl (okGs_cons (okG_name 11 Sc.nd rfl (Or.inl rfl)) (okGs_cons (okG_name 12 Sc.nd rfl (Or.inl rfl)) (okGs_cons (okG_name 13 Sc.nd rfl (Or.inl rfl)) (okGs_cons (okG_name 14 Sc.nd rfl (Or.inl rfl)) (okGs_nil))))))) (okSs_cons (okS_set 8 Sc.nd rfl (Or.inl rfl) (ok_lst (okA_nil))) (okSs_cons (okS_fa [1, 2, 4, 5, 6, 7, 15, 16, 17] (okS_for PassesOwn.never rfl (okI_range2 rfl T.b_range (ok_name 13) (ok_bin opAdd okAdd (ok_name 14) (ok_int))) (okG_name 15 Sc.nd rfl (Or.inl rfl)) (okSs_fg [15] (okSs_one (okS_if (okT_cmp opIsn okIsn (ok_call C__law_soonest.c (hr.mono (by decide)) rfl C__law_soonest.g C__law_soonest.k C__law_soonest.b (okA_cons (ok_bin opAdd okAdd (ok_bin opAdd okAdd (ok_sl (ok_name 3) (okO_no) (okO_e (ok_name 10))) (ok_tup (okA_cons (ok_tup (okA_cons (ok_name 11) (okA_cons (ok_name 12) (okA_cons (ok_name 15) (okA_cons (ok_name 15) (okA_nil)))))) (okA_nil)))) (ok_sl (ok_name 3) (okO_e (ok_bin opAdd okAdd (ok_name 10) (ok_int))) (okO_no))) (okA_nil))) (ok_non) (nomark _)) (okSs_one (okS_expr (ok_app (pv 8) (ok_bin opAdd okAdd (ok_name 12) (ok_name 15))))) (okSs_nil)))))) (okSs_cons (okS_set 16 Sc.nd rfl (Or.inl rfl) (ok_call C_can_be_out.c (hr.mono (by decide)) rfl C_can_be_out.g C_can_be_out.k C_can_be_out.b (okA_cons (ok_name 3) (okA_cons (ok_name 11) (okA_nil))))) (okSs_cons (okS_if (okT_w (okW_or (okT_cmp (op_neD hr.units) okNe (ok_name 16) (ok_name 8) (nomark _)) (okW_or (okT_cmp (op_neD hr.units) okNe (ok_cmp (op_eqD hr.units) okEq (ok_name 16) (ok_lst (okA_nil)) (nomark _)) (ok_cmp opIs okIs (ok_name 9) (ok_non) (nomark _)) (nomark _)) (okW_or1 (okT_w (okW_and (okT_cmp (op_neD hr.units) okNe (ok_name 16) (ok_lst (okA_nil)) (nomark _)) (okW_and1 (okT_cmp (op_neD hr.units) okNe (ok_ix (ok_name 16) (ok_int)) (ok_ix (ok_name 9) (ok_name 10)) (nomark _))))))))) (okSs_one (okS_ret (ok_bl))) (okSs_nil)) (okSs_cons (okS_expr (ok_app (pv 16) (ok_int))) (okSs_one (okS_if (okT_w (okW_or (okT_cmp (op_neD hr.units) okNe (ok_call C_can_be_out.c (hr.mono (by decide)) rfl C_can_be_out.g C_can_be_out.k C_can_be_out.b (okA_cons (ok_name 3) (okA_cons (ok_name 11) (okA_nil)))) (ok_name 8) (nomark _)) (okW_or (okT_not (okT_val (ok_call C__law_refused.c (hr.mono (by decide)) rfl C__law_refused.g C__law_refused.k C__law_refused.b (okA_cons (ok_name 3) (okA_cons (ok_str) (okA_nil)))))) (okW_or1 (okT_not (okT_val (ok_call C__law_refused.c (hr.mono (by decide)) rfl C__law_refused.g C__law_refused.k C__law_refused.b (okA_cons (ok_name 3) (okA_cons (ok_str) (okA_nil)))))))))) (okSs_one (okS_ret (ok_bl))) (okSs_nil))))))))))))))))))) (okSs_cons (okS_set 17 Sc.nd rfl (Or.inl rfl) (ok_tup (okA_cons (ok_tup (okA_cons (ok_str) (okA_cons (ok_int) (okA_cons (ok_int) (okA_cons (ok_int) (okA_nil)))))) (okA_cons (ok_tup (okA_cons (ok_str) (okA_cons (ok_int) (okA_cons (ok_int) (okA_cons (ok_int) (okA_nil)))))) (okA_nil))))) (okSs_one (okS_ret (ok_and (ok_cmp (op_eqD hr.units) okEq (ok_call C_can_be_out.c (hr.mono (by decide)) rfl C_can_be_out.g C_can_be_out.k C_can_be_out.b (okA_cons (ok_name 17) (okA_cons (ok_str) (okA_nil)))) (ok_lst (okA_cons (ok_int) (okA_cons (ok_int) (okA_cons (ok_int) (okA_cons (ok_int) (okA_cons (ok_int) (okA_cons (ok_int) (okA_cons (ok_int) (okA_cons (ok_int) (okA_nil)))))))))) (nomark _)) (ok_one (ok_cmp (op_eqD hr.units) okEq (ok_call C_can_be_out.c (hr.mono (by decide)) rfl C_can_be_out.g C_can_be_out.k C_can_be_out.b (okA_cons (ok_name 17) (okA_cons (ok_str) (okA_nil)))) (ok_lst (okA_cons (ok_int) (okA_cons (ok_int) (okA_cons (ok_int) (okA_nil))))) (nomark _)))))))
end
/-! ### what the top has written, the head -/
theorem all_mk {l : PySem.W.OpenLaw} {w : World} {K : PySem.W.Frag} {h : Heap} {mg : Str → Option Value} {fa f__law_bag f__law_take f__law_batch f__law_ways f_raised f_first_bounds f_least_outs f_can_be_out f__law_of f__law_soonest f__law_refused f_law C0 C fI : Addr} (X : K.In h) (G : h.Ns mainGlobals mg) (hfa : mg "law" = some (.ref fa))
    {od__law_bag an__law_bag : Option Addr} {sl__law_bag : Array (Option Value)} {oc__law_bag kV__law_bag dc__law_bag pm__law_bag cd__law_bag ct__law_bag : Value} (a__law_bag : PySem.W.nsIn K mainGlobals "_law_bag" = some (some (.ref f__law_bag))) (l__law_bag : K.lookup f__law_bag = some ⟨oc__law_bag, od__law_bag, .func (PySem.W.fnOf "_law_bag" "_law_bag" (defArgs s__law_bag) (defBody s__law_bag) (defScope s__law_bag) .none kV__law_bag dc__law_bag pm__law_bag an__law_bag cd__law_bag ct__law_bag), sl__law_bag⟩) (c__law_bag : PySem.W.codeIn K cd__law_bag "_law_bag" = true) (k__law_bag : PySem.W.keepIn K (.ref f__law_bag) = true)
    {od__law_take an__law_take : Option Addr} {sl__law_take : Array (Option Value)} {oc__law_take kV__law_take dc__law_take pm__law_take cd__law_take ct__law_take : Value} (a__law_take : PySem.W.nsIn K mainGlobals "_law_take" = some (some (.ref f__law_take))) (l__law_take : K.lookup f__law_take = some ⟨oc__law_take, od__law_take, .func (PySem.W.fnOf "_law_take" "_law_take" (defArgs s__law_take) (defBody s__law_take) (defScope s__law_take) .none kV__law_take dc__law_take pm__law_take an__law_take cd__law_take ct__law_take), sl__law_take⟩) (c__law_take : PySem.W.codeIn K cd__law_take "_law_take" = true) (k__law_take : PySem.W.keepIn K (.ref f__law_take) = true)
    {od__law_batch an__law_batch : Option Addr} {sl__law_batch : Array (Option Value)} {oc__law_batch kV__law_batch dc__law_batch pm__law_batch cd__law_batch ct__law_batch : Value} (a__law_batch : PySem.W.nsIn K mainGlobals "_law_batch" = some (some (.ref f__law_batch))) (l__law_batch : K.lookup f__law_batch = some ⟨oc__law_batch, od__law_batch, .func (PySem.W.fnOf "_law_batch" "_law_batch" (defArgs s__law_batch) (defBody s__law_batch) (defScope s__law_batch) .none kV__law_batch dc__law_batch pm__law_batch an__law_batch cd__law_batch ct__law_batch), sl__law_batch⟩) (c__law_batch : PySem.W.codeIn K cd__law_batch "_law_batch" = true) (k__law_batch : PySem.W.keepIn K (.ref f__law_batch) = true)
    {od__law_ways an__law_ways : Option Addr} {sl__law_ways : Array (Option Value)} {oc__law_ways kV__law_ways dc__law_ways pm__law_ways cd__law_ways ct__law_ways : Value} (a__law_ways : PySem.W.nsIn K mainGlobals "_law_ways" = some (some (.ref f__law_ways))) (l__law_ways : K.lookup f__law_ways = some ⟨oc__law_ways, od__law_ways, .func (PySem.W.fnOf "_law_ways" "_law_ways" (defArgs s__law_ways) (defBody s__law_ways) (defScope s__law_ways) .none kV__law_ways dc__law_ways pm__law_ways an__law_ways cd__law_ways ct__law_ways), sl__law_ways⟩) (c__law_ways : PySem.W.codeIn K cd__law_ways "_law_ways" = true) (k__law_ways : PySem.W.keepIn K (.ref f__law_ways) = true)
    {od_raised an_raised : Option Addr} {sl_raised : Array (Option Value)} {oc_raised kV_raised dc_raised pm_raised cd_raised ct_raised : Value} (a_raised : PySem.W.nsIn K mainGlobals "raised" = some (some (.ref f_raised))) (l_raised : K.lookup f_raised = some ⟨oc_raised, od_raised, .func (PySem.W.fnOf "raised" "raised" (defArgs s_raised) (defBody s_raised) (defScope s_raised) .none kV_raised dc_raised pm_raised an_raised cd_raised ct_raised), sl_raised⟩) (c_raised : PySem.W.codeIn K cd_raised "raised" = true) (k_raised : PySem.W.keepIn K (.ref f_raised) = true)
    {od_first_bounds an_first_bounds : Option Addr} {sl_first_bounds : Array (Option Value)} {oc_first_bounds kV_first_bounds dc_first_bounds pm_first_bounds cd_first_bounds ct_first_bounds : Value} (a_first_bounds : PySem.W.nsIn K mainGlobals "first_bounds" = some (some (.ref f_first_bounds))) (l_first_bounds : K.lookup f_first_bounds = some ⟨oc_first_bounds, od_first_bounds, .func (PySem.W.fnOf "first_bounds" "first_bounds" (defArgs s_first_bounds) (defBody s_first_bounds) (defScope s_first_bounds) .none kV_first_bounds dc_first_bounds pm_first_bounds an_first_bounds cd_first_bounds ct_first_bounds), sl_first_bounds⟩) (c_first_bounds : PySem.W.codeIn K cd_first_bounds "first_bounds" = true) (k_first_bounds : PySem.W.keepIn K (.ref f_first_bounds) = true)
    {od_least_outs an_least_outs : Option Addr} {sl_least_outs : Array (Option Value)} {oc_least_outs kV_least_outs dc_least_outs pm_least_outs cd_least_outs ct_least_outs : Value} (a_least_outs : PySem.W.nsIn K mainGlobals "least_outs" = some (some (.ref f_least_outs))) (l_least_outs : K.lookup f_least_outs = some ⟨oc_least_outs, od_least_outs, .func (PySem.W.fnOf "least_outs" "least_outs" (defArgs s_least_outs) (defBody s_least_outs) (defScope s_least_outs) .none kV_least_outs dc_least_outs pm_least_outs an_least_outs cd_least_outs ct_least_outs), sl_least_outs⟩) (c_least_outs : PySem.W.codeIn K cd_least_outs "least_outs" = true) (k_least_outs : PySem.W.keepIn K (.ref f_least_outs) = true)
    {od_can_be_out an_can_be_out : Option Addr} {sl_can_be_out : Array (Option Value)} {oc_can_be_out kV_can_be_out dc_can_be_out pm_can_be_out cd_can_be_out ct_can_be_out : Value} (a_can_be_out : PySem.W.nsIn K mainGlobals "can_be_out" = some (some (.ref f_can_be_out))) (l_can_be_out : K.lookup f_can_be_out = some ⟨oc_can_be_out, od_can_be_out, .func (PySem.W.fnOf "can_be_out" "can_be_out" (defArgs s_can_be_out) (defBody s_can_be_out) (defScope s_can_be_out) .none kV_can_be_out dc_can_be_out pm_can_be_out an_can_be_out cd_can_be_out ct_can_be_out), sl_can_be_out⟩) (c_can_be_out : PySem.W.codeIn K cd_can_be_out "can_be_out" = true) (k_can_be_out : PySem.W.keepIn K (.ref f_can_be_out) = true)
    {od__law_of an__law_of : Option Addr} {sl__law_of : Array (Option Value)} {oc__law_of kV__law_of dc__law_of pm__law_of cd__law_of ct__law_of : Value} (a__law_of : PySem.W.nsIn K mainGlobals "_law_of" = some (some (.ref f__law_of))) (l__law_of : K.lookup f__law_of = some ⟨oc__law_of, od__law_of, .func (PySem.W.fnOf "_law_of" "_law_of" (defArgs s__law_of) (defBody s__law_of) (defScope s__law_of) .none kV__law_of dc__law_of pm__law_of an__law_of cd__law_of ct__law_of), sl__law_of⟩) (c__law_of : PySem.W.codeIn K cd__law_of "_law_of" = true) (k__law_of : PySem.W.keepIn K (.ref f__law_of) = true)
    {od__law_soonest an__law_soonest : Option Addr} {sl__law_soonest : Array (Option Value)} {oc__law_soonest kV__law_soonest dc__law_soonest pm__law_soonest cd__law_soonest ct__law_soonest : Value} (a__law_soonest : PySem.W.nsIn K mainGlobals "_law_soonest" = some (some (.ref f__law_soonest))) (l__law_soonest : K.lookup f__law_soonest = some ⟨oc__law_soonest, od__law_soonest, .func (PySem.W.fnOf "_law_soonest" "_law_soonest" (defArgs s__law_soonest) (defBody s__law_soonest) (defScope s__law_soonest) .none kV__law_soonest dc__law_soonest pm__law_soonest an__law_soonest cd__law_soonest ct__law_soonest), sl__law_soonest⟩) (c__law_soonest : PySem.W.codeIn K cd__law_soonest "_law_soonest" = true) (k__law_soonest : PySem.W.keepIn K (.ref f__law_soonest) = true)
    {od__law_refused an__law_refused : Option Addr} {sl__law_refused : Array (Option Value)} {oc__law_refused kV__law_refused dc__law_refused pm__law_refused cd__law_refused ct__law_refused : Value} (a__law_refused : PySem.W.nsIn K mainGlobals "_law_refused" = some (some (.ref f__law_refused))) (l__law_refused : K.lookup f__law_refused = some ⟨oc__law_refused, od__law_refused, .func (PySem.W.fnOf "_law_refused" "_law_refused" (defArgs s__law_refused) (defBody s__law_refused) (defScope s__law_refused) .none kV__law_refused dc__law_refused pm__law_refused an__law_refused cd__law_refused ct__law_refused), sl__law_refused⟩) (c__law_refused : PySem.W.codeIn K cd__law_refused "_law_refused" = true) (k__law_refused : PySem.W.keepIn K (.ref f__law_refused) = true)
    {od_law an_law : Option Addr} {sl_law : Array (Option Value)} {oc_law kV_law dc_law pm_law cd_law ct_law : Value} (a_law : PySem.W.nsIn K mainGlobals "law" = some (some (.ref f_law))) (l_law : K.lookup f_law = some ⟨oc_law, od_law, .func (PySem.W.fnOf "law" "law" (defArgs s_law) (defBody s_law) (defScope s_law) .none kV_law dc_law pm_law an_law cd_law ct_law), sl_law⟩) (c_law : PySem.W.codeIn K cd_law "law" = true) (k_law : PySem.W.keepIn K (.ref f_law) = true)
    {nm qn : Str} {N : Addr} {bs : List Value} {sn : List Str} {sub : List Value} {ab : Bool} {col : Option Bool} {dd : Option Addr} {m0 m1 m2 m3 m5 : Option Value} {od1 an1 : Option Addr} {sl1 : Array (Option Value)} {oc1 kV1 dc1 pm1 cd1 ct1 : Value}
    (x_g0 : PySem.W.nsIn K mainGlobals "OvenError" = some (some (.ref C0))) (x_g : PySem.W.nsIn K mainGlobals "NoLoaf" = some (some (.ref C)))
    (x_L : K.lookup C = some (excClassObj nm qn C N bs [.ref C0, .type "ValueError", .type "Exception", .type "BaseException", .type "object"] true sn sub ab col dd m0 m1 m2 m3 m5 "ValueError.__new__"))
    (x_sa : PySem.W.findIn K (.ref C) "__setattr__" = some (some (.builtin "object.__setattr__"))) (x_exC : PySem.W.subIn K (.ref C) (.type "BaseException") = some true) (x_tyC : PySem.W.typeIn K (.ref C) = some (.type "type")) (x_kC : PySem.W.keepIn K (.ref C) = true)
    (x_nf : PySem.W.findIn K (.ref C) "name" = some none) (x_iC : PySem.W.findIn K (.ref C) "__init__" = some (some (.ref fI))) (x_tI : PySem.W.typeIn K (.ref fI) = some (.type "function"))
    (x_s0 : PySem.W.specialIn K (.ref C0) "__getattribute__" = some (some (.builtin "type.__getattribute__"))) (x_r0 : PySem.W.readsIn K C0 (.type "type") = true) (x_v0 : PySem.W.findCls K (.ref C0) (.type "type") "__init__" = some (.val (.builtin "ValueError.__init__")))
    (x_ga : PySem.W.findIn K (.ref C) "__getattribute__" = some (some (.builtin "BaseException.__getattribute__"))) (x_gg : PySem.W.findIn K (.ref C) "__getattr__" = some none) (x_hd : PySem.W.hasDictIn K C = true)
    (x_cl : (PySem.W.clsIn K C).isSome = true) (x_ca : PySem.W.findIn K (.ref C) "__class__" = some (some (.builtin "object.__class__"))) (x_cn : PySem.W.specialIn K (.builtin "object.__class__") "__get__" = some (some (.builtin "getset_descriptor.__get__")))
    (x_ct : PySem.W.takesIn K (.builtin "object.__class__") = some true) (x_cm : PySem.W.mroIn K C (.type "object") = some true) (x_te : PySem.W.exmOne K (.ref C) (.ref C) = some true) (x_ki : PySem.W.kitOne K (.ref C) (.ref C0) = some true)
    (x_l1 : K.lookup fI = some ⟨oc1, od1, .func (PySem.W.fnOf "__init__" "NoLoaf.__init__" (defArgs s_noinit) (defBody s_noinit) (defScope s_noinit) .none kV1 dc1 pm1 an1 cd1 ct1), sl1⟩) (x_c1 : PySem.W.codeIn K cd1 "NoLoaf.__init__" = true) (x_k1 : PySem.W.keepIn K (.ref fI) = true)
    (b_enumerate : PySem.W.nsIn K mainGlobals "enumerate" = some none)
    (b_isinstance : PySem.W.nsIn K mainGlobals "isinstance" = some none)
    (b_len : PySem.W.nsIn K mainGlobals "len" = some none)
    (b_list : PySem.W.nsIn K mainGlobals "list" = some none)
    (b_max : PySem.W.nsIn K mainGlobals "max" = some none)
    (b_min : PySem.W.nsIn K mainGlobals "min" = some none)
    (b_range : PySem.W.nsIn K mainGlobals "range" = some none)
    (b_reversed : PySem.W.nsIn K mainGlobals "reversed" = some none)
    (b_set : PySem.W.nsIn K mainGlobals "set" = some none)
    (b_sorted : PySem.W.nsIn K mainGlobals "sorted" = some none)
    (b_tuple : PySem.W.nsIn K mainGlobals "tuple" = some none)
    (b_zip : PySem.W.nsIn K mainGlobals "zip" = some none) :
    ∃ fd : FuncData, (∀ (s : Shared) (v : Value), BindsTo s fd ⟨[v], []⟩ [("script", v)]) ∧ ∀ base : Heap, K.In base → base.Ns mainGlobals mg → FnOk l.prog w K mg base CX0 5 fa fd ["script"] (spF K F_law) := by
  have e := hfa.symm.trans (PySem.W.mg_of X G a_law)
  cases e
  have T : Txt mg := ⟨PySem.W.mg_none_of X G b_enumerate, PySem.W.mg_none_of X G b_isinstance, PySem.W.mg_none_of X G b_len, PySem.W.mg_none_of X G b_list, PySem.W.mg_none_of X G b_max, PySem.W.mg_none_of X G b_min, PySem.W.mg_none_of X G b_range, PySem.W.mg_none_of X G b_reversed, PySem.W.mg_none_of X G b_set, PySem.W.mg_none_of X G b_sorted, PySem.W.mg_none_of X G b_tuple, PySem.W.mg_none_of X G b_zip⟩
  have D__law_bag := fun_mk (st := s__law_bag) l__law_bag c__law_bag k__law_bag
  have D__law_take := fun_mk (st := s__law_take) l__law_take c__law_take k__law_take
  have D__law_batch := fun_mk (st := s__law_batch) l__law_batch c__law_batch k__law_batch
  have D__law_ways := fun_mk (st := s__law_ways) l__law_ways c__law_ways k__law_ways
  have D_raised := fun_mk (st := s_raised) l_raised c_raised k_raised
  have D_first_bounds := fun_mk (st := s_first_bounds) l_first_bounds c_first_bounds k_first_bounds
  have D_least_outs := fun_mk (st := s_least_outs) l_least_outs c_least_outs k_least_outs
  have D_can_be_out := fun_mk (st := s_can_be_out) l_can_be_out c_can_be_out k_can_be_out
  have D__law_of := fun_mk (st := s__law_of) l__law_of c__law_of k__law_of
  have D__law_soonest := fun_mk (st := s__law_soonest) l__law_soonest c__law_soonest k__law_soonest
  have D__law_refused := fun_mk (st := s__law_refused) l__law_refused c__law_refused k__law_refused
  have D_law := fun_mk (st := s_law) l_law c_law k_law
  refine ⟨PySem.W.fnOf "law" "law" (defArgs s_law) (defBody s_law) (defScope s_law) .none kV_law dc_law pm_law an_law cd_law ct_law, fun s v => .of_eq rfl, fun base _ _ => ?_⟩
  have C__law_bag : Cal l.prog w K mg base 1 "_law_bag" f__law_bag _ ["script", "k"] (spF K F__law_bag) := ⟨ok__law_bag T  D__law_bag, PySem.W.mg_of X G a__law_bag, k__law_bag, D__law_bag.binds (ps := ["script", "k"]) fun _ _ _ _ _ _ us hl => match us, hl with | [_, _], _ => rfl⟩
  have C__law_take : Cal l.prog w K mg base 1 "_law_take" f__law_take _ ["bag", "count"] (spB K 0 F__law_take) := ⟨ok__law_take T  D__law_take, PySem.W.mg_of X G a__law_take, k__law_take, D__law_take.binds (ps := ["bag", "count"]) fun _ _ _ _ _ _ us hl => match us, hl with | [_, _], _ => rfl⟩
  have C__law_batch : Cal l.prog w K mg base 2 "_law_batch" f__law_batch _ ["bag", "many", "wide", "spare"] (spB K 0 F__law_batch) := ⟨ok__law_batch T C__law_take D__law_batch, PySem.W.mg_of X G a__law_batch, k__law_batch, D__law_batch.binds (ps := ["bag", "many", "wide", "spare"]) fun _ _ _ _ _ _ us hl => match us, hl with | [_, _, _, _], _ => rfl⟩
  have C__law_ways : Cal l.prog w K mg base 1 "_law_ways" f__law_ways _ ["batch"] (spF K F__law_ways) := ⟨ok__law_ways T  D__law_ways, PySem.W.mg_of X G a__law_ways, k__law_ways, D__law_ways.binds (ps := ["batch"]) fun _ _ _ _ _ _ us hl => match us, hl with | [_], _ => rfl⟩
  have C_raised : Cal l.prog w K mg base 1 "raised" f_raised _ ["batch", "bounds"] (spF K F_raised) := ⟨ok_raised T  D_raised, PySem.W.mg_of X G a_raised, k_raised, D_raised.binds (ps := ["batch", "bounds"]) fun _ _ _ _ _ _ us hl => match us, hl with | [_, _], _ => rfl⟩
  have C_first_bounds : Cal l.prog w K mg base 1 "first_bounds" f_first_bounds _ ["batch"] (spF K F_first_bounds) := ⟨ok_first_bounds T  D_first_bounds, PySem.W.mg_of X G a_first_bounds, k_first_bounds, D_first_bounds.binds (ps := ["batch"]) fun _ _ _ _ _ _ us hl => match us, hl with | [_], _ => rfl⟩
  have C_least_outs : Cal l.prog w K mg base 2 "least_outs" f_least_outs _ ["batch"] (spF K F_least_outs) := ⟨ok_least_outs T C_raised C_first_bounds D_least_outs, PySem.W.mg_of X G a_least_outs, k_least_outs, D_least_outs.binds (ps := ["batch"]) fun _ _ _ _ _ _ us hl => match us, hl with | [_], _ => rfl⟩
  have C_can_be_out : Cal l.prog w K mg base 3 "can_be_out" f_can_be_out _ ["batch", "name"] (spF K F_can_be_out) := ⟨ok_can_be_out T C_least_outs D_can_be_out, PySem.W.mg_of X G a_can_be_out, k_can_be_out, D_can_be_out.binds (ps := ["batch", "name"]) fun _ _ _ _ _ _ us hl => match us, hl with | [_, _], _ => rfl⟩
  have C__law_of : Cal l.prog w K mg base 2 "_law_of" f__law_of _ ["bag", "some"] (spB K 0 F__law_of) := ⟨ok__law_of T C__law_take D__law_of, PySem.W.mg_of X G a__law_of, k__law_of, D__law_of.binds (ps := ["bag", "some"]) fun _ _ _ _ _ _ us hl => match us, hl with | [_, _], _ => rfl⟩
  have C__law_soonest : Cal l.prog w K mg base 1 "_law_soonest" f__law_soonest _ ["batch"] (spF K F__law_soonest) := ⟨ok__law_soonest T  D__law_soonest, PySem.W.mg_of X G a__law_soonest, k__law_soonest, D__law_soonest.binds (ps := ["batch"]) fun _ _ _ _ _ _ us hl => match us, hl with | [_], _ => rfl⟩
  have TE : ErrC K mg "OvenError" "NoLoaf" "name" C0 C fI := ⟨PySem.W.mg_of X G x_g0, PySem.W.mg_of X G x_g, ⟨⟨nm, qn, N, bs, _, sn, sub, ab, col, dd, m0, m1, m2, m3, m5, x_L, show PySem.HandSPX.refsVE [.type "ValueError", .type "Exception", .type "BaseException", .type "object"] = true from by decide +kernel⟩, x_sa, x_exC, x_tyC, x_kC⟩, x_nf, x_iC, x_tI, x_s0, x_r0, x_v0, ⟨x_ga, x_gg, x_exC, x_hd⟩, x_cl, x_ca, x_cn, x_ct, x_cm, x_te, x_ki⟩
  have DI := fun_mk (qual := "NoLoaf.__init__") (st := s_noinit) x_l1 x_c1 x_k1
  have G_refuse := ok_refuse (P := l.prog) (w := w) (base := base) T TE (ok_noinit TE DI) (DI.binds (ps := ["self", "name"]) fun _ _ _ _ _ _ us hl => match us, hl with | [_, _], _ => rfl) D_can_be_out
  have C__law_refused : Cal l.prog w K mg base 4 "_law_refused" f__law_refused _ ["batch", "name"] (spF K F__law_refused) := ⟨ok__law_refused T TE G_refuse C_can_be_out.g C_can_be_out.k C_can_be_out.b D__law_refused, PySem.W.mg_of X G a__law_refused, k__law_refused, D__law_refused.binds (ps := ["batch", "name"]) fun _ _ _ _ _ _ us hl => match us, hl with | [_, _], _ => rfl⟩
  exact ok_law T C__law_bag C__law_batch C__law_ways C_least_outs C__law_take C_can_be_out C__law_of C__law_soonest C__law_refused D_law
theorem walk {l : PySem.W.OpenLaw} {q : Program} {loose : List Str} {XP : (Str → Option Value) → Heap → Prop} {YP : World → Heap → Prop} {d : DefRec} {K : Params → PySem.W.Frag} (hl : ∀ ns : List Int, ns.length ≤ 63 → F_law [scr ns] = some (.da (.bool true))) (hn : l.most = some 63) (hdf : d.params.defaults = [])
    (hY : ∀ (w : World) (h : Heap), YP w h → (K w.params).In h)
    (F : ∀ (w : World) (mg : Str → Option Value) (fa : Addr) (h : Heap), (K w.params).In h → h.Ns mainGlobals mg → mg d.name = some (.ref fa) →
      ∃ fd : FuncData, (∀ (s : Shared) (u : Value), BindsTo s fd ⟨[u], []⟩ [("script", u)]) ∧ ∀ base : Heap, (K w.params).In base → base.Ns mainGlobals mg → FnOk l.prog w (K w.params) mg base CX0 5 fa fd ["script"] (spF (K w.params) F_law)) :
    PySem.W.WalkO q loose XP YP l.row.toRowW d [] (fun f vs => PySem.call f vs) :=
  L2.walk_of (n := 63) (k := 5) (x := "script") (CX := fun _ => CX0) (sp := fun w => spF (K w.params) F_law) hn (by decide) hdf ⟨rfl, by decide, by decide⟩ hY F (fun _ H a ns h63 _ hS => ⟨H, [scr ns], _, Same.refl _, .cons (.scr hS) .nil, hl ns h63, fun v H' S' N o => bl_of o⟩) fun _ _ _ _ _ z => z
end Gn
namespace Gn
open PySem L2 DL
@[simp] theorem startB_0 (n N : Nat) (ms ds : List PyData) : startB 0 n N ms ds = if ds.length + 1 = n ∧ 0 < n then some (.pa ms :: (ds.map Sl.da ++ List.replicate (N - n) .no)) else none := by
  simp [startB]
def Bag (ms : List PyData) : Prop := ∃ c s : Int, ms = [.int c, .int s] ∧ 0 ≤ c ∧ 0 ≤ s
theorem cm_r {i j : Int} (h1 : -18446744073709551616 < j) (h2 : j < 18446744073709551616) : CMulB i j = true := by
  unfold CMulB
  simp only [Bool.or_eq_true, Bool.and_eq_true, decide_eq_true_eq]
  right
  exact ⟨by simpa using h1, by simpa using h2⟩
theorem take_ok {ms : List PyData} {n : Int} (h : Bag ms) (h0 : 0 < n) (h1 : n < 1073741824) : ∃ v ms', F__law_take ms [.int n] = some (.da (.int v), ms') ∧ Bag ms' ∧ 0 ≤ v ∧ v < n := by
  obtain ⟨c, s, rfl, hc, hs⟩ := h
  by_cases hp : 0 < c
  · refine ⟨c % n, [.int (c / n), .int s], ?_, ⟨_, _, rfl, ?_, hs⟩, ?_, ?_⟩
    · simp [F__law_take, fnB, b__law_take, outB, paOf, hp, h0, h1, ixN]
    · exact Int.ediv_nonneg hc (by omega)
    · exact Int.emod_nonneg _ (by omega)
    · exact Int.emod_lt_of_pos _ h0
  · refine ⟨s * 48271 % 2147483647 / 13 * (s * 48271 % 2147483647 % 32749 + 17) % 2147483629 / 32 % n, [.int c, .int (s * 48271 % 2147483647)], ?_, ⟨_, _, rfl, hc, ?_⟩, ?_, ?_⟩
    · have e : CMulB s 48271 = true := cm_r (by omega) (by omega)
      have e2 : CMulB (s * 48271 % 2147483647 / 13) (s * 48271 % 2147483647 % 32749 + 17) = true := cm_r (by omega) (by omega)
      simp [F__law_take, fnB, b__law_take, outB, paOf, hp, h0, h1, ixN, e, e2]
    · omega
    · exact Int.emod_nonneg _ (by omega)
    · exact Int.emod_lt_of_pos _ h0
theorem of_ok {ms es : List PyData} (h : Bag ms) (h0 : 0 < es.length) (h1 : es.length < 1073741824) : ∃ v ms', F__law_of ms [.list es] = some (.da v, ms') ∧ Bag ms' ∧ v ∈ es := by
  obtain ⟨v, ms', e, hb, hv, hn⟩ := take_ok (ms := ms) (n := es.length) h (by omega) (by omega)
  obtain ⟨p, rfl⟩ : ∃ p : Nat, v = p := ⟨v.toNat, by omega⟩
  have hp : p < es.length := by omega
  refine ⟨es[p], ms', ?_, hb, List.getElem_mem hp⟩
  simp [F__law_of, fnB, b__law_of, outB, paOf, e, atI_cast, hp]
section
variable {ns : List Int} {K x z : Int} (e1 : CMulB 40009 K = true) (e2 : CMulB (40009 * K) K = true) (e3 : CMulB 7919 K = true) (e4 : ∀ i : Int, CMulB i 16807 = true)
include e1 e2 e3 e4
theorem bagC (hz1 : z < 1000000000000000000) (hz : z = 0) (h : ¬ K < ns.length) : Tot (F__law_bag [scr ns, .int K]) fun r => r = .fr [.int z, .int (1 + (z % 2147483629 * 16807 + 40009 * K * K + 7919 * K + 1009) % 2147483645)] := by
  unfold F__law_bag b__law_bag
  rw [← hz]
  simp [fnF, startE, outF, h, e1, e2, e3, e4, hz1]
theorem bagB (h : K < ns.length) (ha : atI (ns.map PyData.int) K = some (.int x)) (hx : x % 10 ^ 60 < 10 ^ 18) : Tot (F__law_bag [scr ns, .int K]) fun r => r = .fr [.int 0, .int (1 + (x % 10 ^ 60 % 2147483629 * 16807 + 40009 * K * K + 7919 * K + 1009) % 2147483645)] := by
  unfold F__law_bag b__law_bag
  simp at hx
  simp [fnF, startE, outF, h, ha, e1, e2, e3, e4, hx]
theorem bagA (h : K < ns.length) (ha : atI (ns.map PyData.int) K = some (.int x)) (hx : ¬ x % 10 ^ 60 < 10 ^ 18) : Tot (F__law_bag [scr ns, .int K]) fun r => r = .fr [.int (x % 10 ^ 60), .int (1 + (x % 10 ^ 60 % 2147483629 * 16807 + 40009 * K * K + 7919 * K + 1009) % 2147483645)] := by
  unfold F__law_bag b__law_bag
  simp at hx
  simp [fnF, startE, outF, h, ha, e1, e2, e3, e4, Int.not_lt.2 hx]
end
theorem bag_fin (c x : Int) (hc : 0 ≤ c) : Bag [.int c, .int (1 + x % 2147483645)] := ⟨_, _, rfl, hc, by omega⟩
theorem bag_ok (ns : List Int) (k : Nat) (hk : k ≤ 1000) : ∃ ms, F__law_bag [scr ns, .int k] = some (.fr ms) ∧ Bag ms := by
  have e1 : CMulB 40009 (k : Int) = true := cm_r (by omega) (by omega)
  have e2 : CMulB (40009 * (k : Int)) (k : Int) = true := cm_r (by omega) (by omega)
  have e3 : CMulB 7919 (k : Int) = true := cm_r (by omega) (by omega)
  have e4 : ∀ i : Int, CMulB i 16807 = true := fun i => cm_r (by omega) (by omega)
  by_cases h : k < ns.length
  · have ha : atI (ns.map PyData.int) (k : Int) = some (.int ns[k]) := by simp [atI_cast, h]
    have h' : (k : Int) < ns.length := by omega
    have hc : 0 ≤ ns[k] % 10 ^ 60 := Int.emod_nonneg _ (by decide)
    by_cases hs : ns[k] % 10 ^ 60 < 10 ^ 18
    · exact ⟨_, (bagB e1 e2 e3 e4 h' ha hs).eq, bag_fin _ _ (by decide)⟩
    · exact ⟨_, (bagA e1 e2 e3 e4 h' ha hs).eq, bag_fin _ _ hc⟩
  · have h' : ¬ (k : Int) < ns.length := by omega
    exact ⟨_, (bagC (z := 0) e1 e2 e3 e4 (by decide) rfl h').eq, bag_fin _ _ (by decide)⟩
end Gn
namespace Gn
open PySem L2 DL
theorem not_mem_eraseIdx {α : Type} : ∀ (l : List α) (p : Nat) (h : p < l.length), l.Nodup → l[p] ∉ l.eraseIdx p
  | [], p, h, _ => absurd h (by simp)
  | a :: l, 0, h, n => by simpa using (List.nodup_cons.1 n).1
  | a :: l, p + 1, h, n => by
    have n := List.nodup_cons.1 n
    have h' : p < l.length := by simpa using h
    simp only [List.getElem_cons_succ, List.eraseIdx_cons_succ, List.mem_cons, not_or]
    exact ⟨fun e => n.1 (e ▸ List.getElem_mem h'), not_mem_eraseIdx l p h' n.2⟩
theorem eraseIdx_map {α β : Type} (f : α → β) : ∀ (l : List α) (p : Nat), (l.map f).eraseIdx p = (l.eraseIdx p).map f
  | [], p => by simp
  | a :: l, 0 => by simp
  | a :: l, p + 1 => by simp [eraseIdx_map f l p]
structure Lf where
  nm : Str
  i : Int
  l : Int
  m : Int
def Lf.e (x : Lf) : PyData := .tuple [.str x.nm, .int x.i, .int x.l, .int x.m]
def eB (b : List Lf) : PyData := .tuple (b.map Lf.e)
def eight : List Str := ["ann", "bo", "cy", "dee", "eli", "fay", "gus", "hal"]
def nine : List Str := ["ann", "bo", "cy", "dee", "eli", "fay", "gus", "hal", "zoe"]
theorem nine_of {x : Str} (h : x ∈ eight) : x ∈ nine := by
  have e : nine = eight ++ (["zoe"] : List Str) := rfl
  rw [e]
  exact List.mem_append_left _ h
structure VB (b : List Lf) (n : Nat) (w s : Int) : Prop where
  ne : 1 ≤ b.length
  le : b.length ≤ n
  nd : (b.map Lf.nm).Nodup
  inc : b.Pairwise fun x y => x.i < y.i
  r : ∀ x ∈ b, 0 ≤ x.i ∧ x.i ≤ 40 ∧ 1 ≤ x.l ∧ x.l ≤ x.m ∧ x.m ≤ 60 ∧ x.m ≤ x.l + s ∧ x.l ≤ w ∧ x.nm ∈ nine
structure BI (ns : List Str) (b : List Lf) (tick w s : Int) (k : Nat) : Prop where
  ln : ns.length + k = 8
  nn : ns.Nodup
  sub : ∀ x ∈ ns, x ∈ eight
  dis : ∀ x ∈ b, x.nm ∉ ns
  nd : (b.map Lf.nm).Nodup
  le : b.length ≤ k
  ne : 0 < k → 1 ≤ b.length
  t0 : 0 ≤ tick
  t2 : k = 0 → tick ≤ 2
  inc : b.Pairwise fun x y => x.i < y.i
  lt : ∀ x ∈ b, x.i < tick
  r : ∀ x ∈ b, 0 ≤ x.i ∧ x.i ≤ 40 ∧ 1 ≤ x.l ∧ x.l ≤ x.m ∧ x.m ≤ 60 ∧ x.m ≤ x.l + s ∧ x.l ≤ w ∧ x.nm ∈ eight
theorem BI.step {ns : List Str} {b : List Lf} {tick w s v1 v3 v4 : Int} {k p : Nat} (B : BI ns b tick w s k) (hp : p < ns.length) (h1 : 0 ≤ v1 ∧ v1 < w) (h3 : 0 ≤ v3 ∧ v3 < s + 1) (h4 : 0 ≤ v4) (hw : w ≤ 60) (ht : tick ≤ 40) :
    BI (ns.eraseIdx p) (b ++ [⟨ns[p], tick, 1 + v1, if 1 + v1 + v3 < 60 then 1 + v1 + v3 else 60⟩]) (tick + 1 + v4) w s (k + 1) where
  ln := by have := B.ln; rw [List.length_eraseIdx_of_lt hp]; omega
  nn := B.nn.sublist (List.eraseIdx_sublist ..)
  sub := fun x hx => B.sub x ((List.eraseIdx_sublist ..).mem hx)
  dis := fun x hx hn => by
    rcases List.mem_append.1 hx with h | h
    · exact B.dis x h ((List.eraseIdx_sublist ..).mem hn)
    · simp at h
      subst h
      simp only at hn
      exact not_mem_eraseIdx _ _ hp B.nn hn
  nd := by
    rw [List.map_append, List.nodup_append]
    refine ⟨B.nd, by simp, ?_⟩
    intro a ha c hc
    simp at hc
    subst hc
    obtain ⟨x, hx, rfl⟩ := List.mem_map.1 ha
    intro e
    exact B.dis x hx (e ▸ List.getElem_mem hp)
  le := by have := B.le; simp; omega
  ne := fun _ => by simp
  t0 := by have := B.t0; omega
  t2 := fun h => by omega
  inc := by
    rw [List.pairwise_append]
    refine ⟨B.inc, by simp, fun x hx y hy => ?_⟩
    simp at hy
    subst hy
    exact B.lt x hx
  lt := fun x hx => by
    rcases List.mem_append.1 hx with h | h
    · have := B.lt x h; omega
    · simp at h; subst h; simp only; omega
  r := fun x hx => by
    rcases List.mem_append.1 hx with h | h
    · exact B.r x h
    · simp at h
      subst h
      have := B.t0
      refine ⟨this, ht, ?_, ?_, ?_, ?_, ?_, B.sub _ (List.getElem_mem hp)⟩ <;> simp only <;> (try split) <;> omega
theorem BI.skip {ns : List Str} {b : List Lf} {tick w s v4 : Int} {k p : Nat} (B : BI ns b tick w s k) (hp : p < ns.length) (h4 : 0 ≤ v4) (ht : ¬ tick ≤ 40) :
    BI (ns.eraseIdx p) b (tick + 1 + v4) w s (k + 1) where
  ln := by have := B.ln; rw [List.length_eraseIdx_of_lt hp]; omega
  nn := B.nn.sublist (List.eraseIdx_sublist ..)
  sub := fun x hx => B.sub x ((List.eraseIdx_sublist ..).mem hx)
  dis := fun x hx hn => B.dis x hx ((List.eraseIdx_sublist ..).mem hn)
  nd := B.nd
  le := by have := B.le; omega
  ne := fun _ => by
    by_cases h : k = 0
    · exact absurd (B.t2 h) (by omega)
    · exact B.ne (by omega)
  t0 := by have := B.t0; omega
  t2 := fun h => by omega
  inc := B.inc
  lt := fun x hx => by have := B.lt x hx; omega
  r := B.r
theorem batch_ok8 {ms : List PyData} {n : Nat} {w s : Int} (hb : Bag ms) (hn : 0 < n) (hn8 : n ≤ 8) (hw : 0 < w) (hw60 : w ≤ 60) (hs : 0 ≤ s) (hs60 : s ≤ 60) :
    ∃ b ms', F__law_batch ms [.int n, .int w, .int s] = some (.da (eB b), ms') ∧ Bag ms' ∧ VB b n w s ∧ ∀ x ∈ b, x.nm ∈ eight := by
  obtain ⟨t0, ms1, e1, hb1, ht0, ht3⟩ := take_ok hb (n := 3) (by omega) (by omega)
  obtain ⟨v, ms2, e2, hb2, hv0, hv⟩ := take_ok hb1 (n := n) (by omega) (by omega)
  have e8 : ([.str "ann", .str "bo", .str "cy", .str "dee", .str "eli", .str "fay", .str "gus", .str "hal"] : List PyData) = eight.map PyData.str := rfl
  have big : isBig (1 + v) = true := by simp [isBig]; omega
  have : Tot (F__law_batch ms [.int n, .int w, .int s]) fun r => ∃ b ms', r = (.da (eB b), ms') ∧ Bag ms' ∧ VB b n w s ∧ ∀ x ∈ b, x.nm ∈ eight := by
    simp [F__law_batch, fnB, b__law_batch, e1, e2, e8, big, (by decide : eight.length ≤ 16777216)]
    refine Tot.forL (Inv := fun k ρ => ∃ ns b tick ms, ρ = [.pa ms, .da (.int n), .da (.int w), .da (.int s), .ow (ns.map .str), .ow (b.map Lf.e), .da (.int tick), .no, .no, .no] ∧ Bag ms ∧ BI ns b tick w s k) ?_ ?_ ?_
    · exact ⟨eight, [], t0, ms2, rfl, hb2, rfl, by decide, fun x h => h, by simp, by simp, by simp, by simp, ht0, by omega, by simp, by simp, by simp⟩
    · rintro k hk ρ ⟨ns, b, tick, ms, rfl, hb, B⟩
      unfold B1__law_batch
      rw [rangeD_len] at hk
      have hln := B.ln
      have hnl : 0 < ns.length := by omega
      obtain ⟨v1, m1, e1, hb1, h1, h1'⟩ := take_ok hb (n := w) (by omega) (by omega)
      obtain ⟨v2, m2, e2, hb2, h2, h2'⟩ := take_ok hb1 (n := ns.length) (by omega) (by omega)
      obtain ⟨p, rfl⟩ : ∃ p : Nat, v2 = p := ⟨v2.toNat, by omega⟩
      have hp : p < ns.length := by omega
      have hple := B.le
      have r1 : -9223372036854775808 ≤ (p : Int) := by omega
      have r2 : (p : Int) < 9223372036854775808 := by omega
      by_cases ht : tick ≤ 40
      · obtain ⟨v3, m3, e3, hb3, h3, h3'⟩ := take_ok hb2 (n := s + 1) (by omega) (by omega)
        obtain ⟨v4, m4, e4, hb4, h4, h4'⟩ := take_ok hb3 (n := 1 + w / 2) (by omega) (by omega)
        have hl : b.length < 16777216 := by omega
        simp [rangeD_at, e1, e2, ixN_cast hp, hp, r1, r2, ht, e3, e4, hl, eraseIdx_map]
        refine ⟨ns.eraseIdx p, _, _, _, ⟨rfl, rfl, ?_, rfl⟩, hb4, B.step hp ⟨h1, h1'⟩ ⟨h3, h3'⟩ h4 hw60 ht⟩
        simp [Lf.e]
      · obtain ⟨v4, m4, e4, hb4, h4, h4'⟩ := take_ok hb2 (n := 1 + w / 2) (by omega) (by omega)
        simp [rangeD_at, e1, e2, ixN_cast hp, hp, r1, r2, ht, e4, eraseIdx_map]
        exact ⟨ns.eraseIdx p, _, _, _, ⟨rfl, rfl, rfl, rfl⟩, hb4, B.skip hp h4 ht⟩
    · rintro ρ ⟨ns, b, tick, ms, rfl, hb, B⟩
      rw [rangeD_len] at B
      simp [outB, paOf]
      exact ⟨b, ms, ⟨rfl, rfl⟩, hb, ⟨B.ne (by omega), by have := B.le; omega, B.nd, B.inc, fun x hx => by have z := B.r x hx; exact ⟨z.1, z.2.1, z.2.2.1, z.2.2.2.1, z.2.2.2.2.1, z.2.2.2.2.2.1, z.2.2.2.2.2.2.1, nine_of z.2.2.2.2.2.2.2⟩⟩, fun x hx => (B.r x hx).2.2.2.2.2.2.2⟩
  obtain ⟨r, e, b, ms', rfl, h⟩ := this
  exact ⟨b, ms', e, h⟩
theorem batch_ok {ms : List PyData} {n : Nat} {w s : Int} (hb : Bag ms) (hn : 0 < n) (hn8 : n ≤ 8) (hw : 0 < w) (hw60 : w ≤ 60) (hs : 0 ≤ s) (hs60 : s ≤ 60) :
    ∃ b ms', F__law_batch ms [.int n, .int w, .int s] = some (.da (eB b), ms') ∧ Bag ms' ∧ VB b n w s := by
  obtain ⟨b, ms', e, h, V, _⟩ := batch_ok8 hb hn hn8 hw hw60 hs hs60
  exact ⟨b, ms', e, h, V⟩
end Gn
namespace Gn
open PySem L2 DL
def bt (b : List Lf) (p : Nat) : Lf := b.getD p ⟨"", 0, 0, 0⟩
def ai (S : List Int) (p : Nat) : Int := S.getD p 0
theorem bt_mem {b : List Lf} {p : Nat} (h : p < b.length) : bt b p ∈ b := by simp [bt, h]
theorem bt_eq {b : List Lf} {p : Nat} (h : p < b.length) : b[p] = bt b p := by simp [bt, h]
theorem ai_eq {b : List Int} {p : Nat} (h : p < b.length) : b[p] = ai b p := by simp [ai, h]
theorem at_b {b : List Lf} {p : Nat} (h : p < b.length) : atI (b.map Lf.e) (p : Int) = some (bt b p).e := by rw [atI_map h, bt_eq h]
theorem at_i {S : List Int} {p : Nat} (h : p < S.length) : atI (S.map PyData.int) (p : Int) = some (.int (ai S p)) := by rw [atI_map h, ai_eq h]
theorem ai_set {S : List Int} {p q : Nat} {x : Int} (h : p < S.length) : ai (S.set p x) q = if p = q then x else ai S q := by
  unfold ai
  by_cases e : p = q
  · subst e; simp [h]
  · simp [e, List.getD, List.getElem?_set_ne]
theorem at_set {l : List PyData} {p : Nat} {x : PyData} (h : p < l.length) : atI (l.set p x) (p : Int) = some x := by rw [atI_cast]; simp [h]
theorem set_map {α : Type} (f : α → PyData) (l : List α) (p : Nat) (x : α) : (l.map f).set p (f x) = (l.set p x).map f := by rw [List.map_set]
@[simp] theorem ixD_e0 (x : Lf) : ixD x.e (.int 0) = some (.str x.nm) := by simp [Lf.e]
@[simp] theorem ixD_e1 (x : Lf) : ixD x.e (.int 1) = some (.int x.i) := by simp [Lf.e]
@[simp] theorem ixD_e2 (x : Lf) : ixD x.e (.int 2) = some (.int x.l) := by simp [Lf.e]
@[simp] theorem ixD_e3 (x : Lf) : ixD x.e (.int 3) = some (.int x.m) := by simp [Lf.e]
structure Sol (b : List Lf) (S : List Int) : Prop where
  len : S.length = b.length
  rg : ∀ p, p < b.length → (bt b p).i + (bt b p).l ≤ ai S p ∧ ai S p ≤ (bt b p).i + (bt b p).m
  ok : ∀ p q, p < q → q < b.length → ¬ ((bt b q).i < ai S p ∧ ai S p < ai S q)
def low (b : List Lf) : List Int := b.map fun x => x.i + x.l
theorem ai_low {b : List Lf} {p : Nat} (h : p < b.length) : ai (low b) p = (bt b p).i + (bt b p).l := by simp [ai, low, bt, h]
/-- what raises come to -/
inductive Rz (b : List Lf) : List Int → List (Nat × Nat) → Prop
  | nil : Rz b (low b) []
  | snoc {bs : List Int} {ws : List (Nat × Nat)} {p q : Nat} : Rz b bs ws → p < q → q < b.length → (bt b q).i < ai bs p → ai bs p < ai bs q → Rz b (bs.set p (ai bs q)) (ws ++ [(p, q)])
structure Least (b : List Lf) (L : List Int) : Prop where
  s : Sol b L
  le : ∀ S, Sol b S → ∀ p, p < b.length → ai L p ≤ ai S p
theorem Rz.len {b : List Lf} {bs : List Int} {ws : List (Nat × Nat)} (h : Rz b bs ws) : bs.length = b.length := by
  induction h with
  | nil => simp [low]
  | snoc _ _ _ _ _ ih => simpa using ih
theorem Rz.low {b : List Lf} {bs : List Int} {ws : List (Nat × Nat)} (h : Rz b bs ws) : ∀ p, p < b.length → (bt b p).i + (bt b p).l ≤ ai bs p := by
  induction h with
  | nil => intro p hp; rw [ai_low hp]; omega
  | @snoc bs ws p0 q h hpq hq h1 h2 ih =>
    intro p hp
    rw [ai_set (by have := h.len; omega)]
    split
    · rename_i e; subst e
      have := ih p0 hp; omega
    · exact ih p hp
theorem Rz.leS {b : List Lf} {bs : List Int} {ws : List (Nat × Nat)} (h : Rz b bs ws) {S : List Int} (hS : Sol b S) : ∀ p, p < b.length → ai bs p ≤ ai S p := by
  induction h with
  | nil => intro p hp; rw [ai_low hp]; exact (hS.rg p hp).1
  | @snoc bs ws p0 q h hpq hq h1 h2 ih =>
    intro p hp
    rw [ai_set (by have := h.len; omega)]
    split
    · rename_i e; subst e
      have a1 := ih p0 hp
      have a2 := ih q hq
      have a3 := hS.ok p0 q hpq hq
      omega
    · exact ih p hp
def Stb (b : List Lf) (bs : List Int) (p0 : Nat) : Prop := ∀ p q, p0 ≤ p → p < q → q < b.length → ¬ ((bt b q).i < ai bs p ∧ ai bs p < ai bs q)
def Cap (b : List Lf) (bs : List Int) : Prop := ∀ p, p < b.length → ai bs p ≤ (bt b p).i + (bt b p).m
theorem Rz.least {b : List Lf} {bs : List Int} {ws : List (Nat × Nat)} (h : Rz b bs ws) (s : Stb b bs 0) (c : Cap b bs) : Least b bs :=
  ⟨⟨h.len, fun p hp => ⟨h.low p hp, c p hp⟩, fun p q hpq hq => s p q (Nat.zero_le _) hpq hq⟩, fun S hS => h.leS hS⟩
theorem Rz.over {b : List Lf} {bs : List Int} {ws : List (Nat × Nat)} (h : Rz b bs ws) {p : Nat} (hp : p < b.length) (c : (bt b p).i + (bt b p).m < ai bs p) : ∀ S, ¬ Sol b S := fun S hS => by
  have := h.leS hS p hp
  have := (hS.rg p hp).2
  omega
theorem ext_ai {S T : List Int} {n : Nat} (h1 : S.length = n) (h2 : T.length = n) (h : ∀ p, p < n → ai S p = ai T p) : S = T := by
  apply List.ext_getElem (by omega)
  intro p hp hp'
  rw [ai_eq hp, ai_eq hp']
  exact h p (by omega)
theorem Least.uniq {b : List Lf} {L M : List Int} (h : Least b L) (k : Least b M) : L = M :=
  ext_ai h.s.len k.s.len fun p hp => by have := h.le M k.s p hp; have := k.le L h.s p hp; omega
open Classical in
noncomputable def lo (b : List Lf) : Option (List Int) := if h : ∃ L, Least b L then some h.choose else none
theorem lo_some {b : List Lf} {L : List Int} (h : Least b L) : lo b = some L := by
  unfold lo
  have e : ∃ L, Least b L := ⟨L, h⟩
  rw [dif_pos e, e.choose_spec.uniq h]
theorem lo_none {b : List Lf} (h : ∀ S, ¬ Sol b S) : lo b = none := by
  unfold lo
  rw [dif_neg fun ⟨L, k⟩ => h L k.s]
def eO : Option (List Int) → PyData
  | none => .none
  | some L => .tuple (L.map .int)
/-- the batch's ins rise -/
theorem VB.lt {b : List Lf} {n : Nat} {w s : Int} (V : VB b n w s) {p q : Nat} (h : p < q) (hq : q < b.length) : (bt b p).i < (bt b q).i := by
  have := List.pairwise_iff_getElem.1 V.inc p q (by omega) hq h
  rwa [bt_eq, bt_eq] at this
theorem VB.rr {b : List Lf} {n : Nat} {w s : Int} (V : VB b n w s) {p : Nat} (h : p < b.length) : 0 ≤ (bt b p).i ∧ (bt b p).i ≤ 40 ∧ 1 ≤ (bt b p).l ∧ (bt b p).l ≤ (bt b p).m ∧ (bt b p).m ≤ 60 ∧ (bt b p).m ≤ (bt b p).l + s ∧ (bt b p).l ≤ w ∧ (bt b p).nm ∈ nine := V.r _ (bt_mem h)
theorem VB.cap {b : List Lf} {n : Nat} {w s : Int} (V : VB b n w s) : Cap b (low b) := fun p hp => by
  rw [ai_low hp]
  have := V.rr hp
  omega
/-- one place raised to another -/
theorem stb_one {b : List Lf} {n : Nat} {w s : Int} (V : VB b n w s) {bs : List Int} (hl : bs.length = b.length) {p q : Nat} (hpq : p < q) (hq : q < b.length) (St : Stb b bs (p + 1))
    (In : ∀ r, p < r → r < q → ¬ ((bt b r).i < ai bs p ∧ ai bs p < ai bs r)) (h1 : (bt b q).i < ai bs p) (h2 : ai bs p < ai bs q) :
    Stb b (bs.set p (ai bs q)) (p + 1) ∧ ∀ r, p < r → r < q + 1 → ¬ ((bt b r).i < ai (bs.set p (ai bs q)) p ∧ ai (bs.set p (ai bs q)) p < ai (bs.set p (ai bs q)) r) := by
  refine ⟨fun p' q' a1 a2 a3 => ?_, fun r a1 a2 => ?_⟩
  · rw [ai_set (by omega), ai_set (by omega), if_neg (by omega), if_neg (by omega)]
    exact St p' q' a1 a2 a3
  · rw [ai_set (by omega), ai_set (by omega), if_pos rfl, if_neg (by omega)]
    rcases Nat.lt_or_ge r q with h | h
    · have := In r a1 h
      have := V.lt h hq
      omega
    · have : r = q := by omega
      subst this
      omega
theorem stb_in {b : List Lf} {bs : List Int} {p : Nat} (St : Stb b bs (p + 1)) (In : ∀ r, p < r → r < b.length → ¬ ((bt b r).i < ai bs p ∧ ai bs p < ai bs r)) : Stb b bs p := fun p' q a1 a2 a3 => by
  rcases Nat.lt_or_ge p p' with h | h
  · exact St p' q h a2 a3
  · have : p' = p := by omega
    subst this
    exact In q a2 a3
/-- one place raised to the highest that draws it -/
theorem stb_max {b : List Lf} {bs : List Int} (hl : bs.length = b.length) {p q : Nat} (hpq : p < q) (hq : q < b.length) (St : Stb b bs (p + 1)) (h1 : (bt b q).i < ai bs p) (h2 : ai bs p < ai bs q)
    (mx : ∀ r, p < r → r < b.length → (bt b r).i < ai bs p → ai bs p < ai bs r → ai bs r ≤ ai bs q) {n : Nat} {w s : Int} (V : VB b n w s) : Stb b (bs.set p (ai bs q)) p := by
  refine stb_in (fun p' q' a1 a2 a3 => ?_) fun r a1 a2 => ?_
  · rw [ai_set (by omega), ai_set (by omega), if_neg (by omega), if_neg (by omega)]
    exact St p' q' a1 a2 a3
  · rw [ai_set (by omega), ai_set (by omega), if_pos rfl, if_neg (by omega)]
    rintro ⟨c1, c2⟩
    by_cases h : (bt b r).i < ai bs p
    · have := mx r a1 a2 h (by omega)
      omega
    · have hqr : q < r := by
        rcases Nat.lt_trichotomy q r with h' | h' | h'
        · exact h'
        · subst h'; omega
        · have := V.lt h' hq; omega
      exact St q r (by omega) hqr a2 ⟨by omega, by omega⟩
end Gn
namespace Gn
open PySem L2 DL
def eW (x : Nat × Nat) : PyData := .tuple [.int x.1, .int x.2]
theorem first_bounds_ok (b : List Lf) (h : b.length ≤ 8) : F_first_bounds [eB b] = some (.fr ((low b).map .int)) := by
  have h' : b.length ≤ 16777216 := by omega
  simp [F_first_bounds, fnF, startE, b_first_bounds, eB, h']
  rw [lcL_map (F := fun d => match d with | .tuple [_, .int i, .int l, _] => .int (i + l) | _ => .none)]
  · simp [outF, low, Lf.e]
  · intro d hd
    obtain ⟨x, hx, rfl⟩ := List.mem_map.1 hd
    simp [Lf.e]
/-- what `raised` hands back -/
inductive Raised (b : List Lf) : PyData → Prop
  | out {L : List Int} {ws : List (Nat × Nat)} : Least b L → Rz b L ws → Raised b (.tuple [.tuple (L.map .int), .list (ws.map eW)])
  | no {bs : List Int} {ws : List (Nat × Nat)} {p q : Nat} : Rz b bs (ws ++ [(p, q)]) → (bt b p).i + (bt b p).m < ai bs p → p < b.length → ws.length < 60 → Raised b (.tuple [.none, .list ((ws ++ [(p, q)]).map eW)])
def RI (b : List Lf) (bs0 : List Int) (ws0 : List (Nat × Nat)) (g0 : Bool) (bs : List Int) (ws : List (Nat × Nat)) (g : Bool) (m p : Nat) : Prop :=
  Rz b bs ws ∧ Cap b bs ∧ Stb b bs p ∧ ws.length ≤ ws0.length + m ∧ (Stb b bs0 0 → bs = bs0 ∧ ws = ws0 ∧ g = g0)
abbrev rho (b : List Lf) (bs : List Int) (ws : List (Nat × Nat)) (g : Bool) (x : Sl) : En := [.da (eB b), .ow (bs.map .int), .ow (ws.map eW), .da (.bool g), x, .no]
def RIn (b : List Lf) (bs0 : List Int) (ws0 : List (Nat × Nat)) (m p j : Nat) (ρ : En) : Prop := ∃ bs ws g, ρ = rho b bs ws g (.da (.int p)) ∧ RI b bs0 ws0 false bs ws g (m + j) (p + 1) ∧ ∀ r, p < r → r < p + 1 + j → ¬ ((bt b r).i < ai bs p ∧ ai bs p < ai bs r)
def ROut (b : List Lf) (bs0 : List Int) (ws0 : List (Nat × Nat)) (g0 : Bool) (m p : Nat) (x : Sl) : Out → Prop
  | .nx ρ => ∃ bs ws g, ρ = rho b bs ws g x ∧ RI b bs0 ws0 g0 bs ws g m p
  | .rt r _ => ∃ d, r = .da d ∧ Raised b d
  | _ => False
theorem raised_in {b : List Lf} {n : Nat} {w s : Int} (V : VB b n w s) (hn : n ≤ 8) {bs0 bs : List Int} {ws0 ws : List (Nat × Nat)} {g : Bool} {m p : Nat} (hp : p < b.length) (hm : m ≤ 49) (hz : ws0.length = 0 ∨ Stb b bs0 0) (h : RI b bs0 ws0 false bs ws g m (p + 1)) :
    Tot (forL (gNm 5) B1_raised (rangeD (p + 1) (b.length - (p + 1))) (rho b bs ws g (.da (.int p)))) (ROut b bs0 ws0 false (m + 7) p (.da (.int p))) := by
  have hbl := V.le
  refine Tot.forL (Inv := RIn b bs0 ws0 m p) ?_ ?_ ?_
  · exact ⟨bs, ws, g, rfl, h, fun r a1 a2 => by omega⟩
  · rintro j hj ρ ⟨bs, ws, g, rfl, ⟨R, C, St, hw, cl⟩, In⟩
    rw [rangeD_len] at hj
    unfold B1_raised
    obtain ⟨q, hq⟩ : ∃ q, q = p + 1 + j := ⟨_, rfl⟩
    have hqi : (p : Int) + 1 + (j : Int) = (q : Int) := by omega
    have hqb : q < b.length := by omega
    have hl := R.len
    rw [rangeD_at, hqi]
    have a1 : atI (bs.map PyData.int) (p : Int) = some (.int (ai bs p)) := at_i (by omega)
    have a2 : atI (bs.map PyData.int) (q : Int) = some (.int (ai bs q)) := at_i (by omega)
    have a3 : ixN bs.length (p : Int) = some p := ixN_cast (by omega)
    have a4 : atI ((bs.map PyData.int).set p (.int (ai bs q))) (p : Int) = some (.int (ai bs q)) := at_set (by simp; omega)
    have same : ¬ ((bt b q).i < ai bs p ∧ ai bs p < ai bs q) → RIn b bs0 ws0 m p (j + 1) (rho b bs ws g (.da (.int p))) := fun h => by
      refine ⟨bs, ws, g, rfl, ⟨R, C, St, by omega, cl⟩, fun r r1 r2 => ?_⟩
      rcases Nat.lt_or_ge r q with h' | h'
      · exact In r r1 (by omega)
      · have : r = q := by omega
        exact this ▸ h
    by_cases h1 : (bt b q).i < ai bs p
    · by_cases h2 : ai bs p < ai bs q
      · have nst : ¬ Stb b bs0 0 := fun st => by
          have e := (cl st).1
          subst e
          exact st p q (Nat.zero_le _) (by omega) hqb ⟨h1, h2⟩
        have hz0 : ws0.length = 0 := hz.resolve_right nst
        have a5 : ws.length < 16777216 := by omega
        by_cases h3 : (bt b p).i + (bt b p).m < ai bs q
        · simp [rho, eB, at_b hqb, at_b hp, a1, a2, a3, a4, a5, h1, h2, h3]
          have R' := R.snoc (p := p) (q := q) (by omega) hqb h1 h2
          have := Raised.no R' (by rw [ai_set (by omega), if_pos rfl]; exact h3) hp (by omega)
          exact ⟨_, rfl, by simpa [eW] using this⟩
        · simp [rho, eB, at_b hqb, at_b hp, a1, a2, a3, a4, a5, h1, h2, h3]
          have so := stb_one V hl (p := p) (q := q) (by omega) hqb St (fun r r1 r2 => In r r1 (by omega)) h1 h2
          refine ⟨bs.set p (ai bs q), ws ++ [(p, q)], true, by rw [set_map]; simp [rho, eW, eB], ⟨R.snoc (by omega) hqb h1 h2, fun r hr => ?_, so.1, by simp; omega, fun st => (nst st).elim⟩, fun r r1 r2 => so.2 r r1 (by omega)⟩
          rw [ai_set (by omega)]
          split
          · rename_i e; subst e; omega
          · exact C r hr
      · simp [rho, eB, at_b hqb, at_b hp, a1, a2, a3, a4, h1, h2]
        exact same fun h => h2 h.2
    · simp [rho, eB, at_b hqb, at_b hp, a1, a2, a3, a4, h1]
      exact same fun h => h1 h.1
  · rintro ρ ⟨bs, ws, g, rfl, ⟨R, C, St, hw, cl⟩, In⟩
    rw [rangeD_len] at hw In
    exact ⟨bs, ws, g, rfl, R, C, stb_in St fun r r1 r2 => In r r1 (by omega), by omega, cl⟩
def RPl (b : List Lf) (bs0 : List Int) (ws0 : List (Nat × Nat)) (k : Nat) (ρ : En) : Prop := ∃ bs ws g, ρ = rho b bs ws g .no ∧ RI b bs0 ws0 false bs ws g (7 * k) (b.length - k)
theorem raised_pass {b : List Lf} {n : Nat} {w s : Int} (V : VB b n w s) (hn : n ≤ 8) {bs0 : List Int} {ws0 : List (Nat × Nat)} (R : Rz b bs0 ws0) (C : Cap b bs0) (hm : ws0.length = 0 ∨ Stb b bs0 0) :
    Tot (forL (gNm 4) B2_raised (downD (b.length - 1) b.length) (rho b bs0 ws0 false .no)) (ROut b bs0 ws0 false 56 0 .no) := by
  have hbl := V.le
  refine Tot.forL (Inv := RPl b bs0 ws0) ?_ ?_ ?_
  · exact ⟨bs0, ws0, false, rfl, R, C, fun p q a1 a2 a3 => by omega, by omega, fun _ => ⟨rfl, rfl, rfl⟩⟩
  · rintro j hj ρ ⟨bs, ws, g, rfl, h⟩
    rw [downD_len] at hj
    obtain ⟨p, hp⟩ : ∃ p, p + 1 + j = b.length := ⟨b.length - 1 - j, by omega⟩
    have hpi : (b.length : Int) - 1 - (j : Int) = (p : Int) := by omega
    rw [downD_at, hpi]
    rw [show b.length - j = p + 1 by omega] at h
    have hb1 : isBig ((p : Int) + 1) = true := by simp [isBig]; omega
    have hb2 : isBig (b.length : Int) = true := by simp [isBig]; omega
    have hr : ((b.length : Int) - ((p : Int) + 1)).toNat = b.length - (p + 1) := by omega
    have in_ := raised_in V hn (by omega) (by omega) hm h
    unfold B2_raised
    simp [rho, eB, hb1, hb2, hr] at in_ ⊢
    refine in_.mono fun o q => ?_
    cases o with
    | nx ρ =>
      obtain ⟨bs, ws, g, rfl, h⟩ := q
      simp [rho]
      refine ⟨bs, ws, g, rfl, ?_⟩
      rw [show b.length - (j + 1) = p by omega]
      exact h
    | rt r ρ => exact q
    | ct ρ => exact q.elim
    | bk ρ => exact q.elim
  · rintro ρ ⟨bs, ws, g, rfl, h⟩
    rw [downD_len] at h
    rw [Nat.sub_self] at h
    refine ⟨bs, ws, g, rfl, h.1, h.2.1, h.2.2.1, ?_, h.2.2.2.2⟩
    have := h.2.2.2.1
    omega
theorem RI.ok {b : List Lf} {bs0 bs : List Int} {ws0 ws : List (Nat × Nat)} {g0 g : Bool} {m : Nat} (h : RI b bs0 ws0 g0 bs ws g m 0) : Raised b (.tuple [.tuple (bs.map .int), .list (ws.map eW)]) := .out (h.1.least h.2.2.1 h.2.1) h.1
theorem raised_ok {b : List Lf} {n : Nat} {w s : Int} (V : VB b n w s) (hn : n ≤ 8) : ∃ d, F_raised [eB b, .list ((low b).map .int)] = some (.da d) ∧ Raised b d := by
  have hbl := V.le
  have big : isBig (b.length : Int) = true := by simp [isBig]; omega
  have p1 := raised_pass V hn (bs0 := low b) (ws0 := []) .nil V.cap (.inl rfl)
  have : Tot (F_raised [eB b, .list ((low b).map .int)]) fun r => ∃ d, r = .da d ∧ Raised b d := by
    simp [F_raised, fnF, startE, b_raised]
    rw [show (2000 : Nat) = 1998 + 1 + 1 from rfl, whileL_succ]
    simp
    unfold B3_raised
    simp [eB, big]
    simp [rho, eB] at p1
    refine p1.mono fun o q => ?_
    cases o with
    | nx ρ =>
      obtain ⟨bs, ws, g, rfl, h⟩ := q
      simp [rho]
      rw [whileL_succ]
      cases g with
      | false => 
        simp [outF]
        exact h.ok
      | true =>
        have p2 := raised_pass V hn h.1 h.2.1 (.inr h.2.2.1)
        simp [eB, big]
        simp [rho, eB] at p2
        refine p2.mono fun o q => ?_
        cases o with
        | nx ρ =>
          obtain ⟨bs', ws', g', rfl, h'⟩ := q
          obtain ⟨rfl, rfl, rfl⟩ := h'.2.2.2.2 h.2.2.1
          simp [rho]
          rw [show (1998 : Nat) = 1997 + 1 from rfl, whileL_succ]
          simp [outF]
          exact h'.ok
        | rt r ρ =>
          obtain ⟨d, rfl, h⟩ := q
          simp [outF]
          exact h
        | ct ρ => exact q.elim
        | bk ρ => exact q.elim
    | rt r ρ =>
      obtain ⟨d, rfl, h⟩ := q
      simp [outF]
      exact h
    | ct ρ => exact q.elim
    | bk ρ => exact q.elim
  obtain ⟨r, e, d, rfl, h⟩ := this
  exact ⟨d, e, h⟩
end Gn
namespace Gn
open PySem L2 DL
theorem Raised.lo {b : List Lf} {d : PyData} (h : Raised b d) : ∃ ws, d = .tuple [eO (lo b), ws] := by
  cases h with
  | out h _ => rw [lo_some h]; exact ⟨_, rfl⟩
  | no R c hp _ => rw [lo_none (R.over hp c)]; exact ⟨_, rfl⟩
theorem least_outs_ok {b : List Lf} {n : Nat} {w s : Int} (V : VB b n w s) (hn : n ≤ 8) : F_least_outs [eB b] = some (.da (eO (lo b))) := by
  obtain ⟨d, e, h⟩ := raised_ok V hn
  obtain ⟨ws, rfl⟩ := h.lo
  have := V.le
  simp [F_least_outs, fnF, startE, b_least_outs, first_bounds_ok b (by omega), e, outF]
theorem foldl_max (x : Int) : ∀ (l : List Int), (∀ y ∈ l, y ≤ l.foldl max x) ∧ x ≤ l.foldl max x ∧ (l.foldl max x = x ∨ l.foldl max x ∈ l)
  | [] => by simp
  | y :: l => by
    obtain ⟨h1, h2, h3⟩ := foldl_max (max x y) l
    simp only [List.foldl_cons, List.mem_cons]
    refine ⟨fun z hz => ?_, by omega, ?_⟩
    · rcases hz with rfl | hz
      · omega
      · exact h1 z hz
    · rcases h3 with h3 | h3
      · rw [h3]; omega
      · exact .inr (.inr h3)
theorem foldl_min (x : Int) : ∀ (l : List Int), (∀ y ∈ l, l.foldl min x ≤ y) ∧ l.foldl min x ≤ x ∧ (l.foldl min x = x ∨ l.foldl min x ∈ l)
  | [] => by simp
  | y :: l => by
    obtain ⟨h1, h2, h3⟩ := foldl_min (min x y) l
    simp only [List.foldl_cons, List.mem_cons]
    refine ⟨fun z hz => ?_, by omega, ?_⟩
    · rcases hz with rfl | hz
      · omega
      · exact h1 z hz
    · rcases h3 with h3 | h3
      · rw [h3]; omega
      · exact .inr (.inr h3)
theorem maxI_ok {l : List Int} {m : Int} (h : maxI l = some m) : m ∈ l ∧ ∀ y ∈ l, y ≤ m := by
  cases l with
  | nil => cases h
  | cons x l =>
    cases h
    have := foldl_max x l
    refine ⟨?_, fun y hy => ?_⟩
    · rcases this.2.2 with e | e
      · rw [e]; simp
      · simp [e]
    · rcases List.mem_cons.1 hy with rfl | hy
      · exact this.2.1
      · exact this.1 y hy
theorem minI_ok {l : List Int} {m : Int} (h : minI l = some m) : m ∈ l ∧ ∀ y ∈ l, m ≤ y := by
  cases l with
  | nil => cases h
  | cons x l =>
    cases h
    have := foldl_min x l
    refine ⟨?_, fun y hy => ?_⟩
    · rcases this.2.2 with e | e
      · rw [e]; simp
      · simp [e]
    · rcases List.mem_cons.1 hy with rfl | hy
      · exact this.2.1
      · exact this.1 y hy
theorem maxI_ex {l : List Int} (h : l ≠ []) : ∃ m, maxI l = some m := by
  cases l with
  | nil => exact absurd rfl h
  | cons x l => exact ⟨_, rfl⟩
theorem minI_ex {l : List Int} (h : l ≠ []) : ∃ m, minI l = some m := by
  cases l with
  | nil => exact absurd rfl h
  | cons x l => exact ⟨_, rfl⟩
@[simp] theorem intsD_map (l : List Int) : intsD (l.map .int) = some l := by
  induction l with
  | nil => rfl
  | cons x l ih => simp [intsD, ih]
end Gn
namespace Gn
open PySem L2 DL
theorem neD_nil (l : List Int) : neD (.list (l.map .int)) (.list []) = some (.da (.bool (!l.isEmpty))) := by
  cases l with
  | nil => exact neD_same (by simp [nb])
  | cons x l => 
    have := neD_diff (d := .list ((x :: l).map .int)) (e := .list []) (by simp only [nb]; exact nb_ints _ _) (by simp [nb]) (by simp)
    simpa using this
abbrev rhoS (b : List Lf) (bs : List Int) (g : Bool) (x : Sl) : En := [.da (eB b), .no, .ow (bs.map .int), .da (.bool g), x, .no, .no]
def SIn (b : List Lf) (bs : List Int) (p : Nat) (ρ0 : En) (j : Nat) (acc : List PyData) (ρ : En) : Prop := ρ = ρ0 ∧ ∃ l : List Int, acc = l.map .int ∧ l.length ≤ j ∧
  (∀ x ∈ l, ∃ r, p < r ∧ r < b.length ∧ (bt b r).i < ai bs p ∧ ai bs p < ai bs r ∧ x = ai bs r) ∧ ∀ r, p < r → r < p + 1 + j → (bt b r).i < ai bs p → ai bs p < ai bs r → ai bs r ∈ l
def SPl (b : List Lf) (bs0 : List Int) (k : Nat) (ρ : En) : Prop := ∃ bs ws g, ρ = rhoS b bs g .no ∧ Rz b bs ws ∧ Stb b bs (b.length - k) ∧ (∀ p, b.length - k ≤ p → p < b.length → ai bs p ≤ (bt b p).i + (bt b p).m) ∧ (Stb b bs0 0 → bs = bs0 ∧ g = false)
def SOut (b : List Lf) (bs0 : List Int) : Out → Prop
  | .nx ρ => ∃ bs g, ρ = rhoS b bs g .no ∧ Least b bs ∧ (∃ ws, Rz b bs ws) ∧ Stb b bs 0 ∧ (Stb b bs0 0 → bs = bs0 ∧ g = false)
  | .rt r _ => r = .da .none ∧ ∀ S, ¬ Sol b S
  | _ => False
theorem soon_pass {b : List Lf} {n : Nat} {w s : Int} (V : VB b n w s) (hn : n ≤ 8) {bs0 : List Int} {ws0 : List (Nat × Nat)} (R0 : Rz b bs0 ws0) :
    Tot (forL (gNm 4) B1__law_soonest (downD (b.length - 1) b.length) (rhoS b bs0 false .no)) (SOut b bs0) := by
  have hbl := V.le
  refine Tot.forL (Inv := SPl b bs0) ?_ ?_ ?_
  · exact ⟨bs0, _, false, rfl, R0, fun p q a1 a2 a3 => by omega, fun p a1 a2 => by omega, fun _ => ⟨rfl, rfl⟩⟩
  · rintro j hj ρ ⟨bs, ws, g, rfl, R, St, C, cl⟩
    rw [downD_len] at hj
    obtain ⟨p, hp⟩ : ∃ p, p + 1 + j = b.length := ⟨b.length - 1 - j, by omega⟩
    have hpi : (b.length : Int) - 1 - (j : Int) = (p : Int) := by omega
    rw [downD_at, hpi]
    rw [show b.length - j = p + 1 by omega] at St C
    have hb1 : isBig ((p : Int) + 1) = true := by simp [isBig]; omega
    have hb2 : isBig (b.length : Int) = true := by simp [isBig]; omega
    have hr : ((b.length : Int) - ((p : Int) + 1)).toNat = b.length - (p + 1) := by omega
    have hl := R.len
    have hpb : p < b.length := by omega
    have a1 : atI (bs.map PyData.int) (p : Int) = some (.int (ai bs p)) := at_i (by omega)
    have a0 := at_b hpb
    have a3 : ixN bs.length (p : Int) = some p := ixN_cast (by omega)
    have len : (rangeD ((p : Int) + 1) (b.length - (p + 1))).length ≤ 16777216 := by rw [rangeD_len]; omega
    unfold B1__law_soonest
    simp [rhoS, eB, hb1, hb2, hr, len]
    refine Tot.lcL (Inv := SIn b bs p [.da (.tuple (b.map Lf.e)), .no, .ow (bs.map .int), .da (.bool g), .da (.int p), .no, .no]) ?_ ?_ ?_
    · exact ⟨rfl, [], rfl, by simp, by simp, fun r r1 r2 => by omega⟩
    · rintro i hi acc ρ ⟨rfl, l, rfl, hll, h1, h2⟩
      rw [rangeD_len] at hi
      obtain ⟨q, hq⟩ : ∃ q, q = p + 1 + i := ⟨_, rfl⟩
      have hqi : (p : Int) + 1 + (i : Int) = (q : Int) := by omega
      have hqb : q < b.length := by omega
      have a2 : atI (bs.map PyData.int) (q : Int) = some (.int (ai bs q)) := at_i (by omega)
      rw [rangeD_at, hqi]
      have same : ¬ ((bt b q).i < ai bs p ∧ ai bs p < ai bs q) → SIn b bs p [.da (.tuple (b.map Lf.e)), .no, .ow (bs.map .int), .da (.bool g), .da (.int p), .no, .no] (i + 1) (l.map .int) [.da (.tuple (b.map Lf.e)), .no, .ow (bs.map .int), .da (.bool g), .da (.int p), .no, .no] := fun h =>
        ⟨rfl, l, rfl, by omega, h1, fun r r1 r2 r3 r4 => by
          rcases Nat.lt_or_ge r q with h' | h'
          · exact h2 r r1 (by omega) r3 r4
          · have : r = q := by omega
            subst this
            exact (h ⟨r3, r4⟩).elim⟩
      by_cases c1 : (bt b q).i < ai bs p
      · by_cases c2 : ai bs p < ai bs q
        · simp [at_b hqb, a1, a2, c1, c2]
          refine ⟨rfl, l ++ [ai bs q], by simp, by simp; omega, fun x hx => ?_, fun r r1 r2 r3 r4 => ?_⟩
          · rcases List.mem_append.1 hx with hx | hx
            · exact h1 x hx
            · simp at hx
              exact ⟨q, by omega, hqb, c1, c2, hx⟩
          · rcases Nat.lt_or_ge r q with h' | h'
            · exact List.mem_append.2 (.inl (h2 r r1 (by omega) r3 r4))
            · have : r = q := by omega
              subst this
              simp
        · simp [at_b hqb, a1, a2, c1, c2]
          exact same fun h => c2 h.2
      · simp [at_b hqb, a1, a2, c1]
        exact same fun h => c1 h.1
    · rintro acc ρ ⟨rfl, l, rfl, hll, h1, h2⟩
      rw [rangeD_len] at h2 hll
      have fin : ∀ bs', bs'.length = b.length → ¬ (bt b p).i + (bt b p).m < ai bs' p → (∀ r, p < r → ai bs' r = ai bs r) → ∀ r, b.length - (j + 1) ≤ r → r < b.length → ai bs' r ≤ (bt b r).i + (bt b r).m := fun bs' hl' hc he r r1 r2 => by
        rcases Nat.lt_or_ge p r with h' | h'
        · rw [he r h']; exact C r (by omega) r2
        · have : r = p := by omega
          subst this; omega
      simp [neD_nil]
      cases l with
      | nil =>
        have St' : Stb b bs p := stb_in St fun r r1 r2 ⟨r3, r4⟩ => by simpa using h2 r r1 (by omega) r3 r4
        by_cases c : (bt b p).i + (bt b p).m < ai bs p
        · simp [a1, a0, c]
          exact ⟨rfl, R.over hpb c⟩
        · simp [a1, a0, c]
          refine ⟨bs, ws, g, rfl, R, ?_, fin bs hl c fun _ _ => rfl, cl⟩
          rw [show b.length - (j + 1) = p by omega]
          exact St'
      | cons x l =>
        obtain ⟨m, hm⟩ := maxI_ex (l := x :: l) (by simp)
        obtain ⟨hm1, hm2⟩ := maxI_ok hm
        obtain ⟨q, q1, q2, q3, q4, rfl⟩ := h1 m hm1
        have St' := stb_max hl q1 q2 St q3 q4 (fun r r1 r2 r3 r4 => hm2 _ (h2 r r1 (by omega) r3 r4)) V
        have R' := R.snoc q1 q2 q3 q4
        have hin : intsD (.int x :: l.map .int) = some (x :: l) := intsD_map (x :: l)
        have a4 : atI ((bs.map PyData.int).set p (.int (ai bs q))) (p : Int) = some (.int (ai bs q)) := at_set (by simp; omega)
        by_cases c : (bt b p).i + (bt b p).m < ai bs q
        · simp [hin, hm, a3, a4, a0, c]
          exact ⟨rfl, R'.over (p := p) hpb (by rw [ai_set (by omega), if_pos rfl]; exact c)⟩
        · simp [hin, hm, a3, a4, a0, c]
          refine ⟨bs.set p (ai bs q), _, true, by rw [set_map]; rfl, R', ?_, fin _ (by simpa using hl) (by rw [ai_set (by omega), if_pos rfl]; exact c) fun r hr => by rw [ai_set (by omega), if_neg (by omega)], fun st => ?_⟩
          · rw [show b.length - (j + 1) = p by omega]
            exact St'
          · have e := (cl st).1
            subst e
            exact (st p q (Nat.zero_le _) q1 q2 ⟨q3, q4⟩).elim
  · rintro ρ ⟨bs, ws, g, rfl, R, St, C, cl⟩
    rw [downD_len, Nat.sub_self] at St C
    exact ⟨bs, g, rfl, R.least St fun p hp => C p (Nat.zero_le _) hp, ⟨_, R⟩, St, cl⟩
theorem soonest_ok {b : List Lf} {n : Nat} {w s : Int} (V : VB b n w s) (hn : n ≤ 8) : F__law_soonest [eB b] = some (.da (eO (lo b))) := by
  have hbl := V.le
  have h' : b.length ≤ 16777216 := by omega
  have big : isBig ((b.length : Int) - 1) = true := by simp [isBig]; omega
  have p1 := soon_pass V hn (bs0 := low b) (ws0 := []) .nil
  have hr : ((b.length : Int) - 1 + 1).toNat = b.length := by omega
  have : Tot (F__law_soonest [eB b]) fun r => r = .da (eO (lo b)) := by
    simp [F__law_soonest, fnF, startE, b__law_soonest, eB, h']
    rw [lcL_map (F := fun d => match d with | .tuple [_, .int i, .int l, _] => .int (i + l) | _ => .none)]
    · have e : (b.map (fun d => (match d.e with | .tuple [_, .int i, .int l, _] => PyData.int (i + l) | _ => PyData.none))) = (low b).map .int := by simp [low, Lf.e]
      simp [Function.comp_def, e]
      rw [show (2000 : Nat) = 1998 + 1 + 1 from rfl, whileL_succ]
      unfold B2__law_soonest
      have big1 : isBig (-1) = true := by decide
      simp [big, hr, big1]
      simp [rhoS, eB] at p1
      refine p1.mono fun o q => ?_
      cases o with
      | nx ρ =>
        obtain ⟨bs, g, rfl, L, ⟨ws, R⟩, St, -⟩ := q
        have ll := lo_some L
        simp [rhoS]
        rw [whileL_succ]
        cases g with
        | false =>
          simp [outF, ll, eO]
        | true =>
          have p2 := soon_pass V hn R
          simp [big, hr, big1, eB]
          simp [rhoS, eB] at p2
          refine p2.mono fun o q => ?_
          cases o with
          | nx ρ =>
            obtain ⟨bs', g', rfl, L', _, _, cl⟩ := q
            obtain ⟨rfl, rfl⟩ := cl St
            simp [rhoS]
            rw [show (1998 : Nat) = 1997 + 1 from rfl, whileL_succ]
            simp [outF, ll, eO]
          | rt r ρ =>
            obtain ⟨rfl, h⟩ := q
            exact (h _ L.s).elim
          | ct ρ => exact q.elim
          | bk ρ => exact q.elim
      | rt r ρ =>
        obtain ⟨rfl, h⟩ := q
        simp [outF, lo_none h, eO]
      | ct ρ => exact q.elim
      | bk ρ => exact q.elim
    · intro d hd
      obtain ⟨x, hx, rfl⟩ := List.mem_map.1 hd
      simp [Lf.e]
  exact this.eq
end Gn
namespace Gn
open PySem L2 DL
def eT (S : List Int) : PyData := .tuple (S.map .int)
/-- x may stand ahead of S -/
def Ahead (b : List Lf) (x : Int) (S : List Int) : Prop := ∀ r, r < b.length → ¬ ((bt b r).i < x ∧ x < ai S r)
theorem Sol.cons {l : Lf} {b : List Lf} {x : Int} {S : List Int} : Sol (l :: b) (x :: S) ↔ (l.i + l.l ≤ x ∧ x ≤ l.i + l.m) ∧ Sol b S ∧ Ahead b x S := by
  have e0 : bt (l :: b) 0 = l := rfl
  have es : ∀ r, bt (l :: b) (r + 1) = bt b r := fun r => by simp [bt]
  have f0 : ai (x :: S) 0 = x := rfl
  have fs : ∀ r, ai (x :: S) (r + 1) = ai S r := fun r => by simp [ai]
  constructor
  · rintro ⟨hl, rg, ok⟩
    refine ⟨by simpa [e0, f0] using rg 0 (by simp), ⟨by simpa using hl, fun p hp => ?_, fun p q hpq hq => ?_⟩, fun r hr => ?_⟩
    · have := rg (p + 1) (by simpa using hp)
      rwa [es, fs] at this
    · have := ok (p + 1) (q + 1) (by omega) (by simpa using hq)
      rwa [es, fs, fs] at this
    · have := ok 0 (r + 1) (by omega) (by simpa using hr)
      rwa [es, fs, f0] at this
  · rintro ⟨h0, ⟨hl, rg, ok⟩, ah⟩
    refine ⟨by simpa using hl, fun p hp => ?_, fun p q hpq hq => ?_⟩
    · cases p with
      | zero => exact h0
      | succ p => rw [es, fs]; exact rg p (by simpa using hp)
    · cases q with
      | zero => omega
      | succ q =>
        cases p with
        | zero => rw [es, fs, f0]; exact ah q (by simpa using hq)
        | succ p => rw [es, fs, fs]; exact ok p q (by omega) (by simpa using hq)
theorem eqD_nil (l : List Int) : eqD (.list (l.map .int)) (.list []) = some (.da (.bool (l.isEmpty))) := by
  cases l with
  | nil => exact eqD_same (by simp [nb])
  | cons x l => 
    have := eqD_diff (d := .list ((x :: l).map .int)) (e := .list []) (by simp only [nb]; exact nb_ints _ _) (by simp [nb]) (by simp)
    simpa using this
end Gn
namespace Gn
open PySem L2 DL
abbrev rhoW (b : List Lf) (x1 : Sl) (p : Nat) (y3 : Sl) (s l m : Int) (A : List (List Int)) (x8 x9 : Sl) : En := [.da (eB b), x1, .da (.int p), y3, .da (.int s), .da (.int l), .da (.int m), .ow (A.map eT), x8, x9, .no, .no, .no]
def WIn (b : List Lf) (T : List Int) (lo : Int) (p : Nat) (A0 : List (List Int)) (ρ0 : List (List Int) → En) (j : Nat) (ρ : En) : Prop := ∃ A, ρ = ρ0 A ∧ (∀ S, S ∈ A ↔ S ∈ A0 ∨ ∃ x, lo ≤ x ∧ x < lo + j ∧ S = x :: T ∧ Ahead (b.drop (p + 1)) x T) ∧ A.length ≤ A0.length + j
def WBad (b : List Lf) (T : List Int) (x : Int) (p : Nat) (ρ0 : En) (j : Nat) (acc : List PyData) (ρ : En) : Prop := ρ = ρ0 ∧ ∃ l : List Int, acc = l.map .int ∧ l.length ≤ j ∧ (l = [] ↔ ∀ r, r < j → ¬ ((bt (b.drop (p + 1)) r).i < x ∧ x < ai T r))
theorem ways_in {b : List Lf} (hn : b.length ≤ 8) {p : Nat} (hp : p < b.length) {T : List Int} (hT : T.length = b.length - (p + 1)) {A0 : List (List Int)} (hA : A0.length ≤ 1000000) {lo : Int} {k : Nat} (hk : k ≤ 100) {s l m : Int} {x1 y3 : Sl} :
    Tot (forL (gNm 9) B1__law_ways (rangeD lo k) (rhoW b x1 p y3 s l m A0 (.da (eT T)) .no)) fun o => ∃ ρ, o = .nx ρ ∧ WIn b T lo p A0 (fun A => rhoW b x1 p y3 s l m A (.da (eT T)) .no) k ρ := by
  refine Tot.forL (Inv := WIn b T lo p A0 (fun A => rhoW b x1 p y3 s l m A (.da (eT T)) .no)) ?_ ?_ ?_
  · exact ⟨A0, rfl, fun S => ⟨.inl, fun h => h.elim id fun ⟨x, h1, h2, _⟩ => by omega⟩, by omega⟩
  · rintro j hj ρ ⟨A, rfl, hA1, hA2⟩
    rw [rangeD_len] at hj
    rw [rangeD_at]
    generalize hx : lo + (j : Int) = x
    have e1 : ((p : Int) + 1) = ((p + 1 : Nat) : Int) := by omega
    have hz : (zipD ((b.map Lf.e).drop (p + 1)) (T.map .int)).length = b.length - (p + 1) := by rw [zipD_len]; simp; omega
    have len : (zipD ((b.map Lf.e).drop (p + 1)) (T.map .int)).length ≤ 16777216 := by rw [hz]; omega
    unfold B1__law_ways
    simp [rhoW, eB, eT]
    rw [e1, cutD_drop]
    simp [len]
    refine Tot.lcL (Inv := WBad b T x p (rhoW b x1 p y3 s l m A (.da (eT T)) (.da (.int x)))) ?_ ?_ ?_
    · exact ⟨rfl, [], rfl, by simp, by simp⟩
    · rintro i hi acc ρ ⟨rfl, bad, rfl, hb1, hb2⟩
      rw [hz] at hi
      have h1 : p + 1 + i < b.length := by omega
      rw [zipD_at _ _ _ _ (by simp; omega) (by simp; omega)]
      have f1 : ((b.map Lf.e).drop (p + 1))[i]'(by simp; omega) = (bt (b.drop (p + 1)) i).e := by
        simp [bt, h1]
      have f2 : (T.map PyData.int)[i]'(by simp; omega) = .int (ai T i) := by
        have : i < T.length := by omega
        simp [ai, this]
      rw [f1, f2]
      have same : ¬ ((bt (b.drop (p + 1)) i).i < x ∧ x < ai T i) → WBad b T x p (rhoW b x1 p y3 s l m A (.da (eT T)) (.da (.int x))) (i + 1) (bad.map .int) (rhoW b x1 p y3 s l m A (.da (eT T)) (.da (.int x))) := fun h =>
        ⟨rfl, bad, rfl, by omega, hb2.trans ⟨fun k r hr => by
          rcases Nat.lt_or_ge r i with h' | h'
          · exact k r h'
          · have : r = i := by omega
            exact this ▸ h, fun k r hr => k r (by omega)⟩⟩
      by_cases c1 : (bt (b.drop (p + 1)) i).i < x
      · by_cases c2 : x < ai T i
        · simp [c1, c2]
          exact ⟨rfl, bad ++ [1], by simp, by simp; omega, by simp; exact ⟨i, by omega, c1, c2⟩⟩
        · simp [c1, c2]
          exact same fun h => c2 h.2
      · simp [c1]
        exact same fun h => c1 h.1
    · rintro acc ρ ⟨rfl, bad, rfl, hb1, hb2⟩
      rw [hz] at hb1 hb2
      have ah : Ahead (b.drop (p + 1)) x T ↔ ∀ r, r < b.length - (p + 1) → ¬ ((bt (b.drop (p + 1)) r).i < x ∧ x < ai T r) := by unfold Ahead; simp
      rw [← ah] at hb2
      cases bad with
      | nil =>
        have h := hb2.1 rfl
        have l1 : T.length + 1 ≤ 16777216 := by omega
        have l2 : 1 + T.length ≤ 16777216 := by omega
        have l3 : A.length < 16777216 := by omega
        have en : eqD (.list []) (.list []) = some (.da (.bool true)) := eqD_nil []
        simp [rhoW, en, eT, l1, l2, l3]
        refine ⟨A ++ [x :: T], by simp [rhoW, eT, eB], fun S => ?_, by simp; omega⟩
        rw [List.mem_append, hA1]
        constructor
        · rintro ((h1 | ⟨y, h1, h2, h3⟩) | h1)
          · exact .inl h1
          · exact .inr ⟨y, h1, by omega, h3⟩
          · simp at h1
            exact .inr ⟨x, by omega, by omega, h1, h⟩
        · rintro (h1 | ⟨y, h1, h2, h3, h4⟩)
          · exact .inl (.inl h1)
          · rcases Int.lt_or_le y (lo + j) with h5 | h5
            · exact .inl (.inr ⟨y, h1, h5, h3, h4⟩)
            · have : y = x := by omega
              subst this
              simp [h3]
      | cons z bad =>
        have h : ¬ Ahead (b.drop (p + 1)) x T := fun h => by simpa using hb2.2 h
        have en := eqD_nil (z :: bad)
        simp at en
        simp [rhoW, en]
        refine ⟨A, rfl, fun S => ?_, by omega⟩
        rw [hA1]
        constructor
        · rintro (h1 | ⟨y, h1, h2, h3⟩)
          · exact .inl h1
          · exact .inr ⟨y, h1, by omega, h3⟩
        · rintro (h1 | ⟨y, h1, h2, h3, h4⟩)
          · exact .inl h1
          · rcases Int.lt_or_le y (lo + j) with h5 | h5
            · exact .inr ⟨y, h1, h5, h3, h4⟩
            · have : y = x := by omega
              subst this
              exact (h h4).elim
  · intro ρ h
    rw [rangeD_len] at h
    exact ⟨ρ, rfl, h⟩
end Gn
namespace Gn
open PySem L2 DL
def WMid (b : List Lf) (W : List (List Int)) (lo : Int) (K p : Nat) (ρ0 : List (List Int) → Sl → En) (j : Nat) (ρ : En) : Prop := ∃ A x1, ρ = ρ0 A x1 ∧ x1.ls = none ∧ (∀ S, S ∈ A ↔ ∃ i T, i < j ∧ W[i]? = some T ∧ ∃ x, lo ≤ x ∧ x < lo + K ∧ S = x :: T ∧ Ahead (b.drop (p + 1)) x T) ∧ A.length ≤ K * j
theorem ways_mid {b : List Lf} (hn : b.length ≤ 8) {p : Nat} (hp : p < b.length) {W : List (List Int)} (hW : ∀ T ∈ W, T.length = b.length - (p + 1)) (hWl : W.length ≤ 6561) {s l m : Int} (hlm : l ≤ m ∧ m ≤ l + 8) (hs : 0 ≤ s ∧ s ≤ 40 ∧ 0 ≤ l ∧ m ≤ 60) {x1 : Sl} (hx1 : x1.ls = none) :
    Tot (forL (gNm 8) B2__law_ways (W.map eT) (rhoW b x1 p .no s l m [] .no .no)) fun o => ∃ ρ, o = .nx ρ ∧ WMid b W (s + l) (m + 1 - l).toNat p (fun A x1 => rhoW b x1 p .no s l m A .no .no) W.length ρ := by
  refine Tot.forL (Inv := WMid b W (s + l) (m + 1 - l).toNat p (fun A x1 => rhoW b x1 p .no s l m A .no .no)) ?_ ?_ ?_
  · exact ⟨[], x1, rfl, hx1, fun S => ⟨fun h => by simp at h, fun ⟨i, T, h, _⟩ => by omega⟩, by simp⟩
  · rintro j hj ρ ⟨A, x1, rfl, hx1, hA1, hA2⟩
    rw [List.length_map] at hj
    have hT : W[j]? = some W[j] := by simp [hj]
    have hTl := hW W[j] (List.getElem_mem hj)
    generalize W[j] = T at hT hTl
    have b1 : isBig (s + l) = true := by simp [isBig]; omega
    have b2 : isBig (s + m + 1) = true := by simp [isBig]; omega
    have hr : (s + m + 1 - (s + l)).toNat = (m + 1 - l).toNat := by omega
    have hAl : A.length ≤ 1000000 := by
      have h1 : (m + 1 - l).toNat * j ≤ 9 * 6561 := Nat.mul_le_mul (by omega) (by omega)
      omega
    have in_ := ways_in (b := b) hn hp hTl hAl (lo := s + l) (k := (m + 1 - l).toNat) (by omega) (s := s) (l := l) (m := m) (x1 := .no) (y3 := .no)
    have e : (W.map eT)[j]'(by simpa using hj) = eT T := by
      have : W[j] = T := by
        have := hT
        simp [hj] at this
        exact this
      simp [this]
    rw [e]
    unfold B2__law_ways
    simp [rhoW, b1, b2, hr, eB, eT] at in_ ⊢
    refine in_.mono fun o q => ?_
    obtain ⟨ρ, rfl, A', rfl, h1, h2⟩ := q
    simp [rhoW]
    refine ⟨A', .no, by simp [rhoW, eB], rfl, fun S => ?_, ?_⟩
    · rw [h1, hA1]
      constructor
      · rintro (⟨i, T', g1, g2, g3⟩ | ⟨x, g1, g2, g3, g4⟩)
        · exact ⟨i, T', by omega, g2, g3⟩
        · exact ⟨j, T, by omega, hT, x, g1, g2, g3, g4⟩
      · rintro ⟨i, T', g1, g2, x, g3, g4, g5, g6⟩
        rcases Nat.lt_or_ge i j with h' | h'
        · exact .inl ⟨i, T', h', g2, x, g3, g4, g5, g6⟩
        · have : i = j := by omega
          subst this
          rw [hT] at g2
          cases g2
          exact .inr ⟨x, g3, g4, g5, g6⟩
    · rw [Nat.mul_succ]; omega
  · intro ρ h
    rw [List.length_map] at h
    exact ⟨ρ, rfl, h⟩
/-- the list of the batches' ways from p on -/
def WOut (b : List Lf) (k : Nat) (ρ : En) : Prop := ∃ (W : List (List Int)) (s1 : Sl), (s1 = .ow (W.map eT) ∨ s1 = .da (.list (W.map eT))) ∧ ρ = [.da (eB b), s1, .no, .no, .no, .no, .no, .no, .no, .no, .no, .no, .no] ∧ (∀ S, S ∈ W ↔ Sol (b.drop (b.length - k)) S) ∧ W.length ≤ 9 ^ k
theorem ways_ok {b : List Lf} {n : Nat} {w s : Int} (V : VB b n w s) (hn : n ≤ 4) (hs : s ≤ 8) : ∃ (W : List (List Int)) (r : Rv), F__law_ways [eB b] = some r ∧ (r = .da (.list (W.map eT)) ∨ r = .fr (W.map eT)) ∧ (∀ S, S ∈ W ↔ Sol b S) ∧ W.length ≤ 6561 := by
  have hbl := V.le
  have big : isBig ((b.length : Int) - 1) = true := by simp [isBig]; omega
  have big1 : isBig (-1) = true := by decide
  have hr : ((b.length : Int) - 1 + 1).toNat = b.length := by omega
  have : Tot (F__law_ways [eB b]) fun r => ∃ (W : List (List Int)), (r = .da (.list (W.map eT)) ∨ r = .fr (W.map eT)) ∧ (∀ S, S ∈ W ↔ Sol b S) ∧ W.length ≤ 6561 := by
    simp [F__law_ways, fnF, startE, b__law_ways, eB, big, big1, hr]
    refine Tot.forL (Inv := WOut b) ?_ ?_ ?_
    · refine ⟨[[]], _, .inl rfl, rfl, fun S => ?_, by simp⟩
      rw [Nat.sub_zero, List.drop_length]
      constructor
      · intro h
        simp at h
        subst h
        exact ⟨rfl, by simp, by simp⟩
      · intro h
        have := h.len
        simpa using this
    · rintro j hj ρ ⟨W, s1, hs1, rfl, hW, hWl⟩
      rw [downD_len] at hj
      obtain ⟨p, hp⟩ : ∃ p, p + 1 + j = b.length := ⟨b.length - 1 - j, by omega⟩
      have hpi : (b.length : Int) - 1 - (j : Int) = (p : Int) := by omega
      rw [downD_at, hpi]
      have hpb : p < b.length := by omega
      rw [show b.length - j = p + 1 by omega] at hW
      have rr := V.rr hpb
      have hWl' : W.length ≤ 6561 := Nat.le_trans hWl (Nat.le_trans (Nat.pow_le_pow_right (by omega) (show j ≤ 4 by omega)) (by decide))
      have mid := ways_mid (b := b) (p := p) (by omega) hpb (W := W) (fun T hT => by simpa using ((hW T).1 hT).len) hWl' (s := (bt b p).i) (l := (bt b p).l) (m := (bt b p).m) (by omega) (by omega) (x1 := .da (.list (W.map eT))) rfl
      have hd : b.drop p = bt b p :: b.drop (p + 1) := by
        rw [List.drop_eq_getElem_cons hpb, bt_eq]
      have fin : ∀ A : List (List Int), (∀ S, S ∈ A ↔ ∃ i T, i < W.length ∧ W[i]? = some T ∧ ∃ x, (bt b p).i + (bt b p).l ≤ x ∧ x < (bt b p).i + (bt b p).l + (((bt b p).m + 1 - (bt b p).l).toNat : Nat) ∧ S = x :: T ∧ Ahead (b.drop (p + 1)) x T) → ∀ S, S ∈ A ↔ Sol (b.drop (b.length - (j + 1))) S := fun A hA S => by
        rw [show b.length - (j + 1) = p by omega, hd, hA]
        constructor
        · rintro ⟨i, T, g1, g2, x, g3, g4, rfl, g6⟩
          rw [Sol.cons]
          exact ⟨⟨g3, by omega⟩, (hW T).1 (List.mem_of_getElem? g2), g6⟩
        · intro h
          cases S with
          | nil => have := h.len; simp at this
          | cons x T =>
            rw [Sol.cons] at h
            obtain ⟨i, hi⟩ := List.mem_iff_getElem?.1 ((hW T).2 h.2.1)
            refine ⟨i, T, ?_, hi, x, h.1.1, by omega, rfl, h.2.2⟩
            exact (List.getElem?_eq_some_iff.1 hi).1
      have fin2 : ∀ A : List (List Int), A.length ≤ ((bt b p).m + 1 - (bt b p).l).toNat * W.length → A.length ≤ 9 ^ (j + 1) := fun A hA => by
        have : ((bt b p).m + 1 - (bt b p).l).toNat * W.length ≤ 9 * 9 ^ j := Nat.mul_le_mul (by omega) hWl
        rw [Nat.pow_succ]; omega
      have e4 : ∀ x : Lf, x.e = .tuple [.str x.nm, .int x.i, .int x.l, .int x.m] := fun _ => rfl
      unfold B3__law_ways
      rcases hs1 with rfl | rfl
      · simp [at_b hpb, eB, e4]
        simp [rhoW, eB] at mid
        refine mid.mono fun o q => ?_
        obtain ⟨ρ, rfl, A, x1, rfl, hx1, h1, h2⟩ := q
        cases x1 <;> first | cases hx1 | skip
        all_goals simp [rhoW]
        all_goals exact ⟨A, _, .inr rfl, rfl, fin A h1, fin2 A h2⟩
      · simp [at_b hpb, eB, e4]
        simp [rhoW, eB] at mid
        refine mid.mono fun o q => ?_
        obtain ⟨ρ, rfl, A, x1, rfl, hx1, h1, h2⟩ := q
        cases x1 <;> first | cases hx1 | skip
        all_goals simp [rhoW]
        all_goals exact ⟨A, _, .inr rfl, rfl, fin A h1, fin2 A h2⟩
    · rintro ρ ⟨W, s1, hs1, rfl, hW, hWl⟩
      rw [downD_len, Nat.sub_self, List.drop_zero] at hW
      rw [downD_len] at hWl
      have hWl' : W.length ≤ 6561 := Nat.le_trans hWl (Nat.le_trans (Nat.pow_le_pow_right (by omega) (show b.length ≤ 4 by omega)) (by decide))
      rcases hs1 with rfl | rfl
      · simp only [ol_mk, x_sRet, x_eVar, List.getElem?_cons_zero, List.getElem?_cons_succ, eSl_ow, ob_mk, retR_bo, retS_ow, outF, Tot_some, andThen_nx, Tot_ol]
        exact ⟨W, .inr rfl, hW, hWl'⟩
      · simp only [ol_mk, x_sRet, x_eVar, List.getElem?_cons_zero, List.getElem?_cons_succ, eSl_da, ob_mk, retR_da, retS_da, outF, Tot_some, andThen_nx, Tot_ol]
        exact ⟨W, .inl rfl, hW, hWl'⟩
  obtain ⟨r, e, W, h⟩ := this
  exact ⟨W, r, e, h⟩
end Gn
namespace Gn
open PySem L2 DL
def eN (x : Lf) : PyData := .str x.nm
def eP (b : List Lf) (x : Nat × Nat) : PyData := .tuple [.str (bt b x.1).nm, .str (bt b x.2).nm]
theorem eight_ok {x : Str} (h : x ∈ nine) : PyData.strOk x = true := by
  have : ∀ x ∈ nine, PyData.strOk x = true := by decide +kernel
  exact this x h
theorem names_nb {b : List Lf} {n : Nat} {w s : Int} (V : VB b n w s) : ∀ x ∈ b.map eN, nb 9 x = true := by
  intro x hx
  obtain ⟨y, hy, rfl⟩ := List.mem_map.1 hx
  simp [eN, nb]
  exact eight_ok (V.r y hy).2.2.2.2.2.2.2
theorem VB.nm {b : List Lf} {n : Nat} {w s : Int} (V : VB b n w s) {p q : Nat} (hp : p < b.length) (hq : q < b.length) (h : (bt b p).nm = (bt b q).nm) : p = q := by
  have P := List.pairwise_iff_getElem.1 V.nd
  rcases Nat.lt_trichotomy p q with g | g | g
  · exact (P p q (by simpa using hp) (by simpa using hq) g (by simp; rw [bt_eq hp, bt_eq hq]; exact h)).elim
  · exact g
  · exact (P q p (by simpa using hq) (by simpa using hp) g (by simp; rw [bt_eq hp, bt_eq hq]; exact h.symm)).elim
theorem find_nm {b : List Lf} {n : Nat} {w s : Int} (V : VB b n w s) {p : Nat} (hp : p < b.length) : (b.map eN).findIdx? (fun z => PyData.eqv z (.str (bt b p).nm)) = some p := by
  have e : ∀ q, q < b.length → (PyData.eqv (eN (bt b q)) (.str (bt b p).nm) = true ↔ q = p) := fun q hq => by
    simp only [eN, PyData.eqv, beq_iff_eq]
    exact ⟨fun h => V.nm hq hp h, fun h => by rw [h]⟩
  rw [List.findIdx?_eq_some_iff_getElem]
  refine ⟨by simpa using hp, ?_, fun j hj => ?_⟩
  · simp only [List.getElem_map, bt_eq hp]
    exact (e p hp).2 rfl
  · have hjb : j < b.length := by omega
    simp only [List.getElem_map, bt_eq hjb]
    intro h
    have := (e j hjb).1 h
    omega
@[simp] theorem flat_eN (x : Lf) : flatD (eN x) = true := rfl
theorem flat_nm {b : List Lf} : (b.map eN).all flatD = true := by
  simp [eN]
theorem in_nm {b : List Lf} {n : Nat} {w s : Int} (V : VB b n w s) {p : Nat} (hp : p < b.length) : inD (.str (bt b p).nm) (.list (b.map eN)) = some true := by
  have h1 : nb 9 (.str (bt b p).nm) = true := by simp [nb]; exact eight_ok (V.rr hp).2.2.2.2.2.2.2
  have h2 : nb 9 (.list (b.map eN)) = true := by
    simp only [nb, List.all_eq_true]
    intro x hx
    obtain ⟨y, hy, rfl⟩ := List.mem_map.1 hx
    simp [eN, nb]
    exact eight_ok (V.r y hy).2.2.2.2.2.2.2
  unfold inD
  simp only [nb_shaped (by omega : 9 ≤ 64) h1, nb_shaped (by omega : 9 ≤ 64) h2, Bool.and_self, if_true]
  rw [(inB_iff h1 (names_nb V)).2]
  exact List.mem_map.2 ⟨bt b p, bt_mem hp, rfl⟩
/-! ### replays -/
theorem Rz.uniq {b : List Lf} {bs bs' : List Int} {ws : List (Nat × Nat)} (h : Rz b bs ws) : Rz b bs' ws → bs = bs' := by
  induction h generalizing bs' with
  | nil =>
    intro k
    cases hw : ([] : List (Nat × Nat)) with
    | nil =>
      generalize he : ([] : List (Nat × Nat)) = e at k
      cases k with
      | nil => rfl
      | snoc => simp at he
    | cons => cases hw
  | @snoc bs ws p q h h1 h2 h3 h4 ih =>
    intro k
    generalize he : ws ++ [(p, q)] = e at k
    cases k with
    | nil => simp at he
    | @snoc bs2 ws2 p2 q2 k k1 k2 k3 k4 =>
      have hh := List.append_inj' he rfl
      obtain ⟨rfl, hq⟩ := hh
      simp at hq
      obtain ⟨rfl, rfl⟩ := hq
      rw [ih k]
theorem Rz.pre {b : List Lf} {bs : List Int} {ws : List (Nat × Nat)} (h : Rz b bs ws) : ∀ j (hj : j < ws.length), ∃ bs1, Rz b bs1 (ws.take j) ∧ (ws[j]).1 < (ws[j]).2 ∧ (ws[j]).2 < b.length ∧ (bt b (ws[j]).2).i < ai bs1 (ws[j]).1 ∧ ai bs1 (ws[j]).1 < ai bs1 (ws[j]).2 ∧ Rz b (bs1.set (ws[j]).1 (ai bs1 (ws[j]).2)) (ws.take (j + 1)) := by
  induction h with
  | nil => intro j hj; simp at hj
  | @snoc bs ws p q h h1 h2 h3 h4 ih =>
    intro j hj
    rcases Nat.lt_or_ge j ws.length with g | g
    · obtain ⟨bs1, k⟩ := ih j g
      refine ⟨bs1, ?_⟩
      rw [List.getElem_append_left g, List.take_append_of_le_length (by omega), List.take_append_of_le_length (by omega)]
      exact k
    · have e : j = ws.length := by simp at hj; omega
      subst e
      refine ⟨bs, ?_⟩
      rw [List.take_of_length_le (i := ws.length + 1) (by simp)]
      simp
      exact ⟨h, h1, h2, h3, h4, .snoc h h1 h2 h3 h4⟩
end Gn
namespace Gn
open PySem L2 DL
def fixB (b : List Lf) (p : Nat) (x : Int) : List Lf := b.set p ⟨(bt b p).nm, (bt b p).i, x, x⟩
theorem fix_len (b : List Lf) (p : Nat) (x : Int) : (fixB b p x).length = b.length := by simp [fixB]
theorem bt_fix {b : List Lf} {p : Nat} (hp : p < b.length) (x : Int) (q : Nat) : bt (fixB b p x) q = if p = q then ⟨(bt b p).nm, (bt b p).i, x, x⟩ else bt b q := by
  unfold fixB bt
  rw [List.getD_eq_getElem?_getD, List.getElem?_set]
  by_cases h : p = q
  · subst h
    rw [if_pos rfl, if_pos rfl, if_pos hp]
    rfl
  · rw [if_neg h, if_neg h, List.getD_eq_getElem?_getD]
theorem fix_i {b : List Lf} {p : Nat} (hp : p < b.length) (x : Int) (q : Nat) : (bt (fixB b p x) q).i = (bt b q).i := by
  rw [bt_fix hp]
  split
  · rename_i h
    rw [h]
  · rfl
theorem fix_vb {b : List Lf} {n : Nat} {w s : Int} (V : VB b n w s) {p : Nat} (hp : p < b.length) {x : Int} (h1 : 1 ≤ x) (h2 : x ≤ 60) : VB (fixB b p x) n 60 60 where
  ne := by rw [fix_len]; exact V.ne
  le := by rw [fix_len]; exact V.le
  nd := by
    have e1 : (fixB b p x).map Lf.nm = b.map Lf.nm := by
      unfold fixB
      apply List.ext_getElem (by simp)
      intro q hq hq'
      simp only [List.getElem_map, List.getElem_set]
      split
      · rename_i e; subst e; rw [bt_eq hp]
      · rfl
    rw [e1]
    exact V.nd
  inc := by
    rw [List.pairwise_iff_getElem]
    intro q r hq hr hqr
    rw [fix_len] at hq hr
    rw [bt_eq, bt_eq, fix_i hp, fix_i hp]
    exact V.lt hqr hr
  r := fun y hy => by
    have rp := V.rr hp
    rcases List.mem_or_eq_of_mem_set hy with hy | rfl
    · have ry := V.r y hy
      exact ⟨ry.1, ry.2.1, ry.2.2.1, ry.2.2.2.1, ry.2.2.2.2.1, by omega, by omega, ry.2.2.2.2.2.2.2⟩
    · exact ⟨rp.1, rp.2.1, h1, Int.le_refl _, h2, by simp only; omega, h2, rp.2.2.2.2.2.2.2⟩
theorem fix_to {b : List Lf} {p : Nat} (hp : p < b.length) {x : Int} (h1 : (bt b p).l ≤ x) (h2 : x ≤ (bt b p).m) {S : List Int} (h : Sol (fixB b p x) S) : Sol b S ∧ ai S p = (bt b p).i + x := by
  have rp := h.rg p (by rw [fix_len]; exact hp)
  rw [bt_fix hp, if_pos rfl] at rp
  simp only at rp
  refine ⟨⟨by rw [h.len, fix_len], fun q hq => ?_, fun q r hqr hr => ?_⟩, by omega⟩
  · have rq := h.rg q (by rw [fix_len]; exact hq)
    rw [bt_fix hp] at rq
    by_cases e : p = q
    · subst e
      omega
    · rw [if_neg e] at rq
      exact rq
  · have o := h.ok q r hqr (by rw [fix_len]; exact hr)
    rw [fix_i hp] at o
    exact o
theorem fix_of {b : List Lf} {p : Nat} (hp : p < b.length) {x : Int} {S : List Int} (h : Sol b S) (hx : ai S p = (bt b p).i + x) : Sol (fixB b p x) S := by
  refine ⟨by rw [h.len, fix_len], fun q hq => ?_, fun q r hqr hr => ?_⟩
  · rw [fix_len] at hq
    rw [bt_fix hp]
    by_cases e : p = q
    · subst e
      rw [if_pos rfl]
      simp only
      omega
    · rw [if_neg e]
      exact h.rg q hq
  · rw [fix_len] at hr
    rw [fix_i hp]
    exact h.ok q r hqr hr
noncomputable def okF (b : List Lf) (p : Nat) (x : Int) : Bool := (lo (fixB b p x)).isSome
noncomputable def dueJ (b : List Lf) (p j : Nat) : List Int := ((List.range j).filter fun d => okF b p ((bt b p).l + (d : Nat))).map fun d => (bt b p).i + ((bt b p).l + (d : Nat))
def spanN (b : List Lf) (p : Nat) : Nat := ((bt b p).m + 1 - (bt b p).l).toNat
noncomputable def due (b : List Lf) (p : Nat) : List Int := dueJ b p (spanN b p)
theorem dueJ_succ (b : List Lf) (p j : Nat) : dueJ b p (j + 1) = if okF b p ((bt b p).l + (j : Nat)) = true then dueJ b p j ++ [(bt b p).i + ((bt b p).l + (j : Nat))] else dueJ b p j := by
  unfold dueJ
  rw [List.range_succ, List.filter_append, List.map_append]
  by_cases h : okF b p ((bt b p).l + (j : Nat)) = true
  · rw [if_pos h, List.filter_cons, if_pos h]
    rfl
  · rw [if_neg h, List.filter_cons, if_neg h]
    simp
theorem dueJ_len (b : List Lf) (p j : Nat) : (dueJ b p j).length ≤ j := by
  unfold dueJ
  rw [List.length_map]
  exact Nat.le_trans (List.length_filter_le _ _) (by simp)
theorem due_pw (b : List Lf) (p : Nat) : (due b p).Pairwise (· < ·) := by
  unfold due dueJ
  rw [List.pairwise_map]
  refine ((List.pairwise_lt_range (n := spanN b p)).filter _).imp ?_
  intro x y h
  omega
theorem lo_of {b : List Lf} {L : List Int} (h : lo b = some L) : Least b L := by
  by_cases e : ∃ M, Least b M
  · obtain ⟨M, k⟩ := e
    rw [lo_some k] at h
    cases h
    exact k
  · unfold lo at h
    rw [dif_neg e] at h
    cases h
theorem lo_is {b : List Lf} {n : Nat} {w s : Int} (V : VB b n w s) (hn : n ≤ 8) {S : List Int} (h : Sol b S) : ∃ L, lo b = some L ∧ Least b L := by
  obtain ⟨d, _, R⟩ := raised_ok V hn
  cases R with
  | @out L ws k R => exact ⟨L, lo_some k, k⟩
  | @no bs ws p q R c hp hl => exact absurd h (R.over hp c S)
theorem due_mem {b : List Lf} {n : Nat} {w s : Int} (V : VB b n w s) (hn : n ≤ 8) {p : Nat} (hp : p < b.length) {y : Int} : y ∈ due b p ↔ ∃ S, Sol b S ∧ ai S p = y := by
  have rp := V.rr hp
  unfold due dueJ spanN
  rw [List.mem_map]
  constructor
  · rintro ⟨d, hd, rfl⟩
    obtain ⟨h1, h2⟩ := List.mem_filter.1 hd
    have h1 := List.mem_range.1 h1
    unfold okF at h2
    cases hq : lo (fixB b p ((bt b p).l + (d : Nat))) with
    | none => rw [hq] at h2; cases h2
    | some L => exact ⟨L, fix_to hp (by omega) (by omega) (lo_of hq).s⟩
  · rintro ⟨S, hS, rfl⟩
    have rg := hS.rg p hp
    refine ⟨(ai S p - (bt b p).i - (bt b p).l).toNat, List.mem_filter.2 ⟨List.mem_range.2 (by omega), ?_⟩, by omega⟩
    unfold okF
    obtain ⟨L, e, _⟩ := lo_is (fix_vb V hp (x := (bt b p).l + ((ai S p - (bt b p).i - (bt b p).l).toNat : Nat)) (by omega) (by omega)) hn (fix_of hp hS (by omega))
    rw [e]
    rfl
end Gn
namespace Gn
open PySem L2 DL
def CIn (b : List Lf) (p k : Nat) (ρ : En) : Prop := ρ = [.da (eB b), .da (.str (bt b p).nm), .da (bt b p).e, .no, .da (.int p), .ow ((dueJ b p k).map .int), .no]
theorem st_fix {b : List Lf} {p : Nat} (hp : p < b.length) (x : Int) : (b.map Lf.e).take p ++ (.tuple [.str (bt b p).nm, .int (bt b p).i, .int x, .int x] :: (b.map Lf.e).drop (p + 1)) = (fixB b p x).map Lf.e := by
  unfold fixB
  rw [List.set_eq_take_append_cons_drop, if_pos hp]
  simp [Lf.e]
theorem isn_eO (o : Option (List Int)) : isNone (eO o) = !o.isSome := by
  cases o <;> rfl
theorem can_ok {b : List Lf} {n : Nat} {w s : Int} (V : VB b n w s) (hn : n ≤ 8) {p : Nat} (hp : p < b.length) : F_can_be_out [eB b, .str (bt b p).nm] = some (.fr ((due b p).map .int)) := by
  have hbl := V.le
  have rp := V.rr hp
  have h' : b.length ≤ 16777216 := by omega
  have b1 : isBig (bt b p).l = true := by simp [isBig]; omega
  have b2 : isBig ((bt b p).m + 1) = true := by simp [isBig]; omega
  have eL : (bt b p).e = .tuple [.str (bt b p).nm, .int (bt b p).i, .int (bt b p).l, .int (bt b p).m] := rfl
  have hsp : spanN b p ≤ 60 := by unfold spanN; omega
  have : Tot (F_can_be_out [eB b, .str (bt b p).nm]) fun r => r = .fr ((due b p).map .int) := by
    simp [F_can_be_out, fnF, startE, b_can_be_out, eB, h']
    rw [lcL_map (F := fun d => match d with | .tuple [x, _, _, _] => x | _ => .none)]
    rotate_left
    · intro d hd
      obtain ⟨x, hx, rfl⟩ := List.mem_map.1 hd
      simp [Lf.e]
    have e2 : (b.map (fun d => (match d.e with | .tuple [x, _, _, _] => x | _ => PyData.none))) = b.map eN := by simp [eN, Lf.e]
    simp [Function.comp_def, e2, in_nm V hp, find_nm V hp, at_b hp, ← eL]
    rw [b1, b2]
    simp
    refine Tot.forL (Inv := CIn b p) ?_ ?_ ?_
    · unfold CIn
      simp [dueJ, eB]
    · rintro j hj ρ rfl
      rw [rangeD_len] at hj
      rw [rangeD_at]
      have hj60 : j < 60 := by unfold spanN at hsp; omega
      have hl5 := dueJ_len b p j
      have V2 := fix_vb V hp (x := (bt b p).l + (j : Nat)) (by omega) (by omega)
      have e3 := least_outs_ok V2 hn
      have q1 : cutD (b.map Lf.e) none (some (p : Int)) = (b.map Lf.e).take p := cutD_take _ _
      have q2 : cutD (b.map Lf.e) (some ((p + 1 : Nat) : Int)) none = (b.map Lf.e).drop (p + 1) := cutD_drop _ _
      have c1 : (some ((p : Int) + 1)) = some ((p + 1 : Nat) : Int) := by simp
      rw [← c1] at q2
      have st := st_fix hp ((bt b p).l + (j : Nat))
      have k1 : ((b.map Lf.e).take p).length + 1 ≤ 16777216 := by simp; omega
      have k2 : ((b.map Lf.e).take p).length + 1 + ((b.map Lf.e).drop (p + 1)).length ≤ 16777216 := by simp; omega
      have k5 : (dueJ b p j).length < 16777216 := by omega
      have i1 := isn_eO (lo (fixB b p ((bt b p).l + (j : Nat))))
      unfold CIn
      rw [dueJ_succ]
      unfold okF B1_can_be_out
      unfold eB at e3
      rw [← st] at e3
      rw [eL]
      generalize (b.map Lf.e).take p = A at *
      generalize (b.map Lf.e).drop (p + 1) = D at *
      by_cases hc : (lo (fixB b p ((bt b p).l + (j : Nat)))).isSome = true
      · rw [hc] at i1
        simp [eB, q1, q2, k1, k2, k5, e3, i1, hc]
      · have hc : (lo (fixB b p ((bt b p).l + (j : Nat)))).isSome = false := by simpa using hc
        rw [hc] at i1
        simp [eB, q1, q2, k1, k2, k5, e3, i1, hc]
    · rintro ρ rfl
      rw [rangeD_len]
      simp [outF]
      rfl
  exact this.eq
end Gn
namespace Gn
open PySem L2 DL
theorem ded_nd (ns : List Int) : (dedI ns).Nodup := by
  have h : ∀ (l σ : List Int), σ.Nodup → (l.foldl PyProof.Rows.step_dedup σ).Nodup := by
    intro l
    induction l with
    | nil => intro σ h; exact h
    | cons x l ih =>
      intro σ h
      rw [List.foldl_cons]
      refine ih _ ?_
      unfold PyProof.Rows.step_dedup
      split
      · exact h
      · rename_i hx
        rw [List.nodup_append]
        refine ⟨h, by simp, fun a ha b hb => ?_⟩
        simp at hb
        subst hb
        rintro rfl
        exact hx (List.any_eq_true.2 ⟨a, ha, by simp⟩)
  exact h ns [] (by simp)
theorem ded_mem {ns : List Int} {k : Int} (h : k ∈ dedI ns) : k ∈ ns := by
  have e := mem_ded ns [] k
  have h1 : ((ns.foldl PyProof.Rows.step_dedup []).any (· == k)) = true := List.any_eq_true.2 ⟨k, h, by simp⟩
  rw [e] at h1
  simpa using h1
theorem nd_len : ∀ (n : Nat) (a : Int) (l : List Int), l.Nodup → (∀ x ∈ l, a ≤ x ∧ x < a + n) → l.length ≤ n := by
  intro n
  induction n with
  | zero =>
    intro a l _ h
    cases l with
    | nil => simp
    | cons x l =>
      have := h x (by simp)
      omega
  | succ n ih =>
    intro a l nd h
    by_cases hm : (a + n) ∈ l
    · have h2 := ih a (l.erase (a + n)) (nd.erase _) fun x hx => by
        rw [nd.mem_erase_iff] at hx
        have := h x hx.2
        have := hx.1
        omega
      rw [List.length_erase_of_mem hm] at h2
      omega
    · have := ih a l nd fun x hx => by
        have := h x hx
        have : x ≠ a + n := fun e => hm (e ▸ hx)
        omega
      omega
theorem ints_map (W : List (List Int)) (f : List Int → Int) : intsD (W.map fun S => .int (f S)) = some (W.map f) := by
  induction W with
  | nil => rfl
  | cons x W ih => simp [intsD, ih]
theorem sort_due {b : List Lf} {n : Nat} {w s : Int} (V : VB b n w s) (hn : n ≤ 8) (hs : s ≤ 8) {p : Nat} (hp : p < b.length) {W : List (List Int)} (hW : ∀ S, S ∈ W ↔ Sol b S) :
    sortSetD [.list (W.map fun S => .int (ai S p))] = some (.fr ((due b p).map .int)) := by
  have rp := V.rr hp
  have hd : (dedI (W.map fun S => ai S p)).length < 64 := by
    have := nd_len 9 ((bt b p).i + (bt b p).l) (dedI (W.map fun S => ai S p)) (ded_nd _) fun x hx => by
      obtain ⟨S, hS, rfl⟩ := List.mem_map.1 (ded_mem hx)
      have := ((hW S).1 hS).rg p hp
      omega
    omega
  have e : srtI (W.map fun S => ai S p) = due b p := ris_uniq (pw_srtI _) (due_pw b p) fun k => by
    rw [mem_srtI, due_mem V hn hp, List.mem_map]
    exact ⟨fun ⟨S, h, e⟩ => ⟨S, (hW S).1 h, e⟩, fun ⟨S, h, e⟩ => ⟨S, (hW S).2 h, e⟩⟩
  rw [sortSetD_l, ints_map, ol_mk, if_pos hd, e]
theorem due_none {b : List Lf} {n : Nat} {w s : Int} (V : VB b n w s) (hn : n ≤ 8) {p : Nat} (hp : p < b.length) (h : lo b = none) : due b p = [] := by
  refine List.eq_nil_iff_forall_not_mem.2 fun y hy => ?_
  obtain ⟨S, hS, _⟩ := (due_mem V hn hp).1 hy
  obtain ⟨L, e, _⟩ := lo_is V hn hS
  rw [h] at e
  cases e
theorem due_some {b : List Lf} {n : Nat} {w s : Int} (V : VB b n w s) (hn : n ≤ 8) {p : Nat} (hp : p < b.length) {L : List Int} (h : lo b = some L) : ∃ r, due b p = ai L p :: r := by
  have hL := lo_of h
  have hm := (due_mem V hn hp).2 ⟨L, hL.s, rfl⟩
  cases hd : due b p with
  | nil => rw [hd] at hm; cases hm
  | cons x r =>
    refine ⟨r, ?_⟩
    have pw := due_pw b p
    rw [hd] at pw hm
    obtain ⟨S, hS, hx⟩ := (due_mem V hn hp).1 (show x ∈ due b p by rw [hd]; simp)
    have le := hL.le S hS p hp
    rcases List.mem_cons.1 hm with e | e
    · rw [e]
    · have := (List.pairwise_cons.1 pw).1 _ e
      omega
theorem not_nm {b : List Lf} {n : Nat} {w s : Int} (V : VB b n w s) {x : Str} (hx : PyData.strOk x = true) (h : ∀ y ∈ b, y.nm ≠ x) : inD (.str x) (.list (b.map eN)) = some false := by
  have h1 : nb 9 (.str x) = true := by simp [nb]; exact hx
  have h2 : nb 9 (.list (b.map eN)) = true := by
    simp only [nb, List.all_eq_true]
    intro x hx
    obtain ⟨y, hy, rfl⟩ := List.mem_map.1 hx
    simp [eN, nb]
    exact eight_ok (V.r y hy).2.2.2.2.2.2.2
  unfold inD
  simp only [nb_shaped (by omega : 9 ≤ 64) h1, nb_shaped (by omega : 9 ≤ 64) h2, Bool.and_self, if_true]
  congr 1
  rw [Bool.eq_false_iff]
  intro z
  have := (inB_iff h1 (names_nb V)).1 z
  obtain ⟨l, hl, e⟩ := List.mem_map.1 this
  simp [eN] at e
  exact h l hl e
theorem refused_ok {b : List Lf} {n : Nat} {w s : Int} (V : VB b n w s) (hn : n ≤ 8) {x : Str} (hx : PyData.strOk x = true) (h : ∀ y ∈ b, y.nm ≠ x) : F__law_refused [eB b, .str x] = some (.da (.bool true)) := by
  have hbl := V.le
  have h' : b.length ≤ 16777216 := by omega
  have nn := not_nm V hx h
  have e2 : (b.map (fun d => (match d.e with | .tuple [x, _, _, _] => x | _ => PyData.none))) = b.map eN := by simp [eN, Lf.e]
  have : F_refuse [eB b, .str x] = some (.da (.str x)) := by
    simp [F_refuse, r_names, eB, h']
    rw [lcL_map (F := fun d => match d with | .tuple [x, _, _, _] => x | _ => .none)]
    rotate_left
    · intro d hd
      obtain ⟨x, hx, rfl⟩ := List.mem_map.1 hd
      simp [Lf.e]
    simp [Function.comp_def, e2, r_notin, nn]
  unfold F__law_refused
  rw [this]
  simp [r_refused]
end Gn
namespace Gn
open PySem L2 DL
def WS (W : List (List Int)) (s : Sl) : Prop := s = .da (.list (W.map eT)) ∨ s = .ow (W.map eT)
abbrev rho1 (ns : List Int) (ms : List PyData) (b : List Lf) (s4 : Sl) : En := [.da (scr ns), .no, .ow ms, .da (eB b), s4, .no, .no, .no, .no, .no, .no, .no, .no, .no, .no, .no, .no, .no]
def J1 (ns : List Int) (ms : List PyData) (b : List Lf) (W : List (List Int)) (k : Nat) (ρ : En) : Prop := ∃ s4, WS W s4 ∧ ρ = rho1 ns ms b s4
theorem loop1 {ns : List Int} {ms : List PyData} {b : List Lf} {n : Nat} {w s : Int} (V : VB b n w s) (hn : n ≤ 4) (hs : s ≤ 8) {W : List (List Int)} (hW : ∀ S, S ∈ W ↔ Sol b S) (hWl : W.length ≤ 6561) {s4 : Sl} (h4 : WS W s4) :
    Tot (forL (gTup 2 (gCons (gNm 5) (gCons (gNm 6) gNil))) B1_law (enumD 0 (b.map Lf.e)) (rho1 ns ms b s4)) fun o => ∃ s4, WS W s4 ∧ o = .nx (rho1 ns ms b s4) := by
  have hbl := V.le
  refine Tot.forL (Inv := J1 ns ms b W) ⟨s4, h4, rfl⟩ ?_ ?_
  · clear h4 s4
    rintro p hp ρ ⟨s4, h4, rfl⟩
    rw [enumD_len, List.length_map] at hp
    rw [enumD_at 0 _ p _ (by simpa using hp)]
    have f1 : (b.map Lf.e)[p]'(by simpa using hp) = (bt b p).e := by simp [bt, hp]
    rw [f1]
    have eL : (bt b p).e = .tuple [.str (bt b p).nm, .int (bt b p).i, .int (bt b p).l, .int (bt b p).m] := rfl
    have sd := sort_due V (by omega) hs hp hW
    have cn := can_ok V (by omega) hp
    have n0 : neD (.list ((due b p).map .int)) (.list ((due b p).map .int)) = some (.da (.bool false)) := neD_same (by simp only [nb]; exact nb_ints _ _)
    have hW' : W.length ≤ 16777216 := by omega
    have lc : ∀ ρ : En, ρ = [.da (scr ns), .no, .ow ms, .da (eB b), .da (.list (W.map eT)), .da (.int p), .da (bt b p).e, .no, .no, .no, .no, .no, .no, .no, .no, .no, .no, .no] →
        DL.lcL (gNm 7) tYesF (eBin ixR (eVar 7) (eVar 5)) [7] (W.map eT) ρ [] = some (W.map fun S => .int (ai S p), ρ) := by
      rintro ρ rfl
      rw [lcL_map (F := fun d => match d with | .tuple l => l.getD p .none | _ => .none)]
      · rw [List.map_map, List.nil_append]
        congr 2
        refine List.map_congr_left fun S hS => ?_
        have hl := ((hW S).1 hS).len
        have : p < S.length := by omega
        simp [eT, ai, this]
      · intro d hd
        obtain ⟨S, hS, rfl⟩ := List.mem_map.1 hd
        have hl := ((hW S).1 hS).len
        have hpl : p < S.length := by omega
        have a1 := at_i hpl
        have a2 : ((S.map PyData.int).getD p .none) = .int (ai S p) := by simp [ai, hpl]
        simp [eT, a1]
        simpa using a2.symm
    unfold B1_law
    rcases h4 with rfl | rfl
    all_goals
      have lc := lc _ rfl
      rw [eL] at lc
      simp [eB] at lc cn ⊢
      simp [lc, hW', sd, cn, n0, eL]
      exact ⟨_, .inl rfl, rfl⟩
  · rintro ρ ⟨s4, h4, rfl⟩
    exact ⟨s4, h4, rfl⟩
end Gn
namespace Gn
open PySem L2 DL
noncomputable abbrev rho2 (ns : List Int) (b : List Lf) (p : Nat) (d : List Int) : En := [.da (scr ns), .no, .no, .da (eB b), .no, .no, .no, .no, .ow (d.map .int), .da (eO (lo b)), .da (.int p), .da (.str (bt b p).nm), .da (.int (bt b p).i), .da (.int (bt b p).l), .da (.int (bt b p).m), .no, .no, .no]
noncomputable def J2 (ns : List Int) (b : List Lf) (p k : Nat) (ρ : En) : Prop := ρ = rho2 ns b p (dueJ b p k)
theorem loop2 {ns : List Int} {b : List Lf} {n : Nat} {w s : Int} (V : VB b n w s) (hn : n ≤ 8) {p : Nat} (hp : p < b.length) :
    Tot (forL (gNm 15) B2_law (rangeD (bt b p).l (spanN b p)) (rho2 ns b p [])) fun o => o = .nx (rho2 ns b p (due b p)) := by
  have hbl := V.le
  have rp := V.rr hp
  have hsp : spanN b p ≤ 60 := by unfold spanN; omega
  refine Tot.forL (Inv := J2 ns b p) ?_ ?_ ?_
  · unfold J2
    simp [dueJ]
  · rintro j hj ρ rfl
    rw [rangeD_len] at hj
    rw [rangeD_at]
    have hj60 : j < 60 := by omega
    have hjm : (bt b p).l + (j : Nat) ≤ 60 := by unfold spanN at hj; omega
    have hl5 := dueJ_len b p j
    have V2 := fix_vb V hp (x := (bt b p).l + (j : Nat)) (by omega) hjm
    have e3 := soonest_ok V2 hn
    have q1 : cutD (b.map Lf.e) none (some (p : Int)) = (b.map Lf.e).take p := cutD_take _ _
    have q2 : cutD (b.map Lf.e) (some ((p + 1 : Nat) : Int)) none = (b.map Lf.e).drop (p + 1) := cutD_drop _ _
    have c1 : (some ((p : Int) + 1)) = some ((p + 1 : Nat) : Int) := by simp
    rw [← c1] at q2
    have st := st_fix hp ((bt b p).l + (j : Nat))
    have k1 : ((b.map Lf.e).take p).length + 1 ≤ 16777216 := by simp; omega
    have k2 : ((b.map Lf.e).take p).length + 1 + ((b.map Lf.e).drop (p + 1)).length ≤ 16777216 := by simp; omega
    have k5 : (dueJ b p j).length < 16777216 := by omega
    have i1 := isn_eO (lo (fixB b p ((bt b p).l + (j : Nat))))
    unfold J2
    rw [dueJ_succ]
    unfold okF B2_law
    unfold eB at e3
    rw [← st] at e3
    have ad : (bt b p).i + ((bt b p).l + (j : Int)) = (bt b p).i + ((bt b p).l + (j : Int)) := rfl
    unfold rho2 eB
    generalize eO (lo b) = T
    generalize (b.map Lf.e).take p = A at *
    generalize (b.map Lf.e).drop (p + 1) = D at *
    by_cases hc : (lo (fixB b p ((bt b p).l + (j : Nat)))).isSome = true
    · rw [hc] at i1
      simp [q1, q2, k1, k2, k5, e3, i1, hc]
    · have hc : (lo (fixB b p ((bt b p).l + (j : Nat)))).isSome = false := by simpa using hc
      rw [hc] at i1
      simp [q1, q2, k1, k2, k5, e3, i1, hc]
  · rintro ρ rfl
    rw [rangeD_len]
    rfl
def LkI (ns : List Int) (k : Nat) (ρ : En) : Prop := ρ = [.da (scr ns), .no, .no, .no, .no, .no, .no, .no, .no, .no, .no, .no, .no, .no, .no, .no, .no, .no]
theorem nb_il (l : List Int) : nb 9 (.list (l.map .int)) = true := by simp only [nb]; exact nb_ints _ _
def tail4 : SF := sSeq (sAsg (eCall F_can_be_out (aCons (eVar 3) (aCons (eVar 11) (aNil)))) (gNm 16)) (sSeq (sIf (tOrF (tE (eBin neD (eVar 16) (eVar 8))) (tOrF (tE (eBin neD (eBin eqD (eVar 16) (eLst (aNil))) (eBin isD (eVar 9) (eC .none)))) (tAndF (tE (eBin neD (eVar 16) (eLst (aNil)))) (tE (eBin neD (eBin ixR (eVar 16) (eC (.int 0))) (eBin ixR (eVar 9) (eVar 10))))))) (sRet (eC (.bool false))) (sNil)) (sSeq (sDrop (eApp 16 (eC (.int 0)))) (sIf (tOrF (tE (eBin neD (eCall F_can_be_out (aCons (eVar 3) (aCons (eVar 11) (aNil)))) (eVar 8))) (tOrF (tNotF (tE (eCall F__law_refused (aCons (eVar 3) (aCons (eC (.str "zoe")) (aNil)))))) (tNotF (tE (eCall F__law_refused (aCons (eVar 3) (aCons (eC (.str "Ann ")) (aNil)))))))) (sRet (eC (.bool false))) (sNil))))
def tail3 : SF := sSeq (sAsg (eCallO 0 F__law_batch (aCons (eVar 2) (aCons (eC (.int 7)) (aCons (eC (.int 9)) (aCons (eCallO 0 F__law_of (aCons (eVar 2) (aCons (eLst (aCons (eC (.int 9)) (aCons (eC (.int 30)) (aNil)))) (aNil)))) (aNil)))))) (gNm 3)) (sSeq (sAsg (eCall F_least_outs (aCons (eVar 3) (aNil))) (gNm 9)) (sSeq (sAsg (eCallO 0 F__law_take (aCons (eVar 2) (aCons (eCb lenD (aCons (eVar 3) (aNil))) (aNil)))) (gNm 10)) (sSeq (sAsg (eBin ixR (eVar 3) (eVar 10)) (gTup 4 (gCons (gNm 11) (gCons (gNm 12) (gCons (gNm 13) (gCons (gNm 14) (gNil))))))) (sSeq (sAsg (eLst (aNil)) (gNm 8)) (sSeq (sFa [1, 2, 4, 5, 6, 7, 15, 16, 17] (sFor (iRange2 (eVar 13) (eBin addD (eVar 14) (eC (.int 1)))) (gNm 15) B2_law)) tail4)))))
theorem neD_boo (a : Bool) : neD (.bool a) (.bool a) = some (.da (.bool false)) := by
  cases a <;> kernel_rfl
def EndW (ns : List Int) (ρ' : En) : Prop := wipeE ρ' [1, 2, 3, 4, 5, 6, 8, 9, 10, 11, 12, 13, 14, 15, 16] = [.da (scr ns), .no, .no, .no, .no, .no, .no, .no, .no, .no, .no, .no, .no, .no, .no, .no, .no, .no]
theorem at_nx (ρ : En) (f : SF) : andThen (.nx ρ) f = f ρ := rfl
theorem tail4_ok {ns : List Int} {b : List Lf} {n : Nat} {w s : Int} (V : VB b n w s) (hn : n ≤ 8) (h8 : ∀ x ∈ b, x.nm ∈ eight) {p : Nat} (hp : p < b.length) : Tot (tail4 (rho2 ns b p (due b p))) fun o => ∃ ρ', o = .nx ρ' ∧ EndW ns ρ' := by
  have cn := can_ok V hn hp
  have n0 := neD_same (nb_il (due b p))
  have e1 := eqD_nil (due b p)
  have e2 := neD_nil (due b p)
  have hl : (due b p).length < 16777216 := by
    have := dueJ_len b p (spanN b p)
    have rp := V.rr hp
    unfold due
    have : spanN b p ≤ 60 := by unfold spanN; omega
    omega
  have z1 := refused_ok V hn (x := "zoe") (by decide +kernel) (fun y hy e => by
    have := h8 y hy
    rw [e] at this
    exact absurd this (by decide +kernel))
  have z2 := refused_ok V hn (x := "Ann ") (by decide +kernel) (fun y hy e => by
    have := h8 y hy
    rw [e] at this
    exact absurd this (by decide +kernel))
  have nT := neD_boo true
  have nF := neD_boo false
  unfold tail4 rho2 EndW
  cases hq : lo b with
  | none =>
    have hd := due_none V hn hp hq
    rw [hd] at cn n0 e1 e2 ⊢
    simp at cn n0 e1 e2
    simp [cn, n0, e1, e2, z1, z2, nT, eO]
  | some L =>
    obtain ⟨r, hd⟩ := due_some V hn hp hq
    have hL := (lo_of hq).s.len
    have a1 : atI (L.map PyData.int) (p : Int) = some (.int (ai L p)) := at_i (by omega)
    have n1 : neD (.int (ai L p)) (.int (ai L p)) = some (.da (.bool false)) := neD_same (by simp [nb])
    rw [hd] at cn n0 e1 e2 hl ⊢
    simp at cn n0 e1 e2 hl
    simp [cn, n0, e1, e2, z1, z2, nF, eO, a1, n1, hl]
theorem tail3_ok {ns : List Int} {k : Nat} {b : List Lf} {ms : List PyData} (hb : Bag ms) {s4 : Sl} : Tot (tail3 (rho1 ns ms b s4)) fun o => ∃ ρ', o = .nx ρ' ∧ EndW ns ρ' := by
  obtain ⟨v, ms1, e1, hb1, hv⟩ := of_ok hb (es := [.int 9, .int 30]) (by simp) (by simp)
  obtain ⟨x, rfl, x0, x1⟩ : ∃ x : Int, v = .int x ∧ 0 ≤ x ∧ x ≤ 30 := by
    simp at hv
    rcases hv with rfl | rfl
    · exact ⟨9, rfl, by omega, by omega⟩
    · exact ⟨30, rfl, by omega, by omega⟩
  obtain ⟨c, ms2, e2, hb2, V, h8⟩ := batch_ok8 hb1 (n := 7) (w := 9) (s := x) (by omega) (by omega) (by omega) (by omega) (by omega) (by omega)
  rw [show ((7 : Nat) : Int) = 7 from rfl] at e2
  have hcl := V.le
  obtain ⟨v, ms3, e3, hb3, hv0, hv⟩ := take_ok hb2 (n := c.length) (by have := V.ne; omega) (by omega)
  obtain ⟨p, rfl⟩ : ∃ p : Nat, v = p := ⟨v.toNat, by omega⟩
  have hp : p < c.length := by omega
  have rp := V.rr hp
  have e4 := least_outs_ok V (by omega)
  have b1 : isBig (bt c p).l = true := by simp [isBig]; omega
  have b2 : isBig ((bt c p).m + 1) = true := by simp [isBig]; omega
  have eL : (bt c p).e = .tuple [.str (bt c p).nm, .int (bt c p).i, .int (bt c p).l, .int (bt c p).m] := rfl
  have lp := loop2 (ns := ns) V (by omega) hp
  have t4 := tail4_ok (ns := ns) V (by omega) h8 hp
  have a1 := at_b hp
  unfold tail3
  unfold spanN at lp
  unfold rho2 at lp
  simp -implicitDefEqProofs [e1, e2, e4]
  simp -implicitDefEqProofs [eB, e3, a1, eL, b1, b2]
  simp [eB] at lp
  refine lp.mono fun o ho => ?_
  subst ho
  rw [at_nx]
  exact t4
theorem B3_eq : B3_law = sFg [1, 2, 3, 4, 5, 6, 8, 9, 10, 11, 12, 13, 14, 15, 16] (sSeq (sAsg (eCall F__law_bag (aCons (eVar 0) (aCons (eVar 1) (aNil)))) (gNm 2)) (sSeq (sAsg (eCallO 0 F__law_batch (aCons (eVar 2) (aCons (eC (.int 4)) (aCons (eC (.int 6)) (aCons (eC (.int 8)) (aNil)))))) (gNm 3)) (sSeq (sAsg (eCall F__law_ways (aCons (eVar 3) (aNil))) (gNm 4)) (sSeq (sFa [1, 5, 6, 7, 8, 9, 10, 11, 12, 13, 14, 15, 16, 17] (sFor (iEnum (aCons (eVar 3) (aNil))) (gTup 2 (gCons (gNm 5) (gCons (gNm 6) (gNil)))) B1_law)) tail3)))) := rfl
theorem turn_ok {ns : List Int} {k : Nat} (hk : k ≤ 1000) : Tot (B3_law [.da (scr ns), .da (.int k), .no, .no, .no, .no, .no, .no, .no, .no, .no, .no, .no, .no, .no, .no, .no, .no]) fun o => ∃ ρ', o = .nx ρ' ∧ LkI ns (k + 1) ρ' := by
  obtain ⟨ms, e1, hb⟩ := bag_ok ns k hk
  obtain ⟨b, ms1, e2, hb1, V, _⟩ := batch_ok8 hb (n := 4) (w := 6) (s := 8) (by omega) (by omega) (by omega) (by omega) (by omega) (by omega)
  rw [show ((4 : Nat) : Int) = 4 from rfl] at e2
  obtain ⟨W, r, e3, hr, hW, hWl⟩ := ways_ok V (by omega) (by omega)
  rw [B3_eq]
  rcases hr with rfl | rfl
  · have lp := loop1 (ns := ns) (ms := ms1) V (by omega) (by omega) hW hWl (.inl rfl)
    unfold rho1 at lp
    simp -implicitDefEqProofs [e1, e2, e3]
    simp -implicitDefEqProofs [eB] at lp ⊢
    refine lp.mono fun o ho => ?_
    obtain ⟨s4, _, rfl⟩ := ho
    rw [at_nx]
    obtain ⟨o, ho, ρ', rfl, h⟩ := tail3_ok (ns := ns) (k := k) (b := b) hb1 (s4 := s4)
    unfold rho1 eB at ho
    refine ⟨.nx ρ', ho, wipeE ρ' [1, 2, 3, 4, 5, 6, 8, 9, 10, 11, 12, 13, 14, 15, 16], rfl, ?_⟩
    unfold EndW at h
    unfold LkI
    exact h
  · have lp := loop1 (ns := ns) (ms := ms1) V (by omega) (by omega) hW hWl (.inr rfl)
    unfold rho1 at lp
    simp -implicitDefEqProofs [e1, e2, e3]
    simp -implicitDefEqProofs [eB] at lp ⊢
    refine lp.mono fun o ho => ?_
    obtain ⟨s4, _, rfl⟩ := ho
    rw [at_nx]
    obtain ⟨o, ho, ρ', rfl, h⟩ := tail3_ok (ns := ns) (k := k) (b := b) hb1 (s4 := s4)
    unfold rho1 eB at ho
    refine ⟨.nx ρ', ho, wipeE ρ' [1, 2, 3, 4, 5, 6, 8, 9, 10, 11, 12, 13, 14, 15, 16], rfl, ?_⟩
    unfold EndW at h
    unfold LkI
    exact h
theorem law_true (ns : List Int) (hns : ns.length ≤ 63) : F_law [scr ns] = some (.da (.bool true)) := by
  have b1 : isBig ((if (5 : Int) < ns.length then 5 else (ns.length : Int)) + 2) = true := by simp [isBig]; split <;> omega
  have g1 : F_can_be_out [.tuple [.tuple [.str "ann", .int 0, .int 1, .int 9], .tuple [.str "bo", .int 3, .int 2, .int 4]], .str "ann"] = some (.fr [.int 1, .int 2, .int 3, .int 5, .int 6, .int 7, .int 8, .int 9]) := by kernel_rfl
  have g2 : F_can_be_out [.tuple [.tuple [.str "ann", .int 0, .int 1, .int 9], .tuple [.str "bo", .int 3, .int 2, .int 4]], .str "bo"] = some (.fr [.int 5, .int 6, .int 7]) := by kernel_rfl
  have g3 : eqD (.list [.int 1, .int 2, .int 3, .int 5, .int 6, .int 7, .int 8, .int 9]) (.list [.int 1, .int 2, .int 3, .int 5, .int 6, .int 7, .int 8, .int 9]) = some (.da (.bool true)) := by kernel_rfl
  have g4 : eqD (.list [.int 5, .int 6, .int 7]) (.list [.int 5, .int 6, .int 7]) = some (.da (.bool true)) := by kernel_rfl
  have : Tot (F_law [scr ns]) fun r => r = .da (.bool true) := by
    simp [F_law, fnF, startE, b_law]
    rw [b1]
    simp
    refine Tot.forL (Inv := LkI ns) rfl ?_ ?_
    · rintro k hk ρ rfl
      rw [rangeD_len] at hk
      rw [rangeD_at]
      have hk8 : k ≤ 1000 := by split at hk <;> omega
      simp
      refine (turn_ok hk8).mono fun o ho => ?_
      obtain ⟨ρ', rfl, h⟩ := ho
      exact h
    · rintro ρ rfl
      simp [g1, g2, g3, g4, outF]
  exact this.eq
end Gn
open PySem PySem.W PyProof.Rows
set_option maxRecDepth 100000 in
set_option maxHeartbeats 0 in
theorem PySem.Challenge.cw_deepoven_k05_when_one_loaf_can_be_out_holds : PySem.Challenge.rw_deepoven_k05_when_one_loaf_can_be_out.Holds := by
  w_on; o_law; k_head; (case hw => w_witness2)
  k_fill
  refine Gn.walk (l := PySem.Challenge.rw_deepoven_k05_when_one_loaf_can_be_out) Gn.law_true rfl rfl (fun w h Y => PySem.W.kIn_of Y) ?F
  case F =>
    intro w mg fa h KX G hmg
    refine' Gn.all_mk KX G hmg ?a__law_bag ?l__law_bag ?c__law_bag ?k__law_bag ?a__law_take ?l__law_take ?c__law_take ?k__law_take ?a__law_batch ?l__law_batch ?c__law_batch ?k__law_batch ?a__law_ways ?l__law_ways ?c__law_ways ?k__law_ways ?a_raised ?l_raised ?c_raised ?k_raised ?a_first_bounds ?l_first_bounds ?c_first_bounds ?k_first_bounds ?a_least_outs ?l_least_outs ?c_least_outs ?k_least_outs ?a_can_be_out ?l_can_be_out ?c_can_be_out ?k_can_be_out ?a__law_of ?l__law_of ?c__law_of ?k__law_of ?a__law_soonest ?l__law_soonest ?c__law_soonest ?k__law_soonest ?a__law_refused ?l__law_refused ?c__law_refused ?k__law_refused ?a_law ?l_law ?c_law ?k_law ?x_g0 ?x_g ?x_L ?x_sa ?x_exC ?x_tyC ?x_kC ?x_nf ?x_iC ?x_tI ?x_s0 ?x_r0 ?x_v0 ?x_ga ?x_gg ?x_hd ?x_cl ?x_ca ?x_cn ?x_ct ?x_cm ?x_te ?x_ki ?x_l1 ?x_c1 ?x_k1 ?b_enumerate ?b_isinstance ?b_len ?b_list ?b_max ?b_min ?b_range ?b_reversed ?b_set ?b_sorted ?b_tuple ?b_zip
    (case a__law_bag => k_is)
    (case l__law_bag => k_is)
    (case c__law_bag => k_is)
    (case k__law_bag => k_is)
    (case a__law_take => k_is)
    (case l__law_take => k_is)
    (case c__law_take => k_is)
    (case k__law_take => k_is)
    (case a__law_batch => k_is)
    (case l__law_batch => k_is)
    (case c__law_batch => k_is)
    (case k__law_batch => k_is)
    (case a__law_ways => k_is)
    (case l__law_ways => k_is)
    (case c__law_ways => k_is)
    (case k__law_ways => k_is)
    (case a_raised => k_is)
    (case l_raised => k_is)
    (case c_raised => k_is)
    (case k_raised => k_is)
    (case a_first_bounds => k_is)
    (case l_first_bounds => k_is)
    (case c_first_bounds => k_is)
    (case k_first_bounds => k_is)
    (case a_least_outs => k_is)
    (case l_least_outs => k_is)
    (case c_least_outs => k_is)
    (case k_least_outs => k_is)
    (case a_can_be_out => k_is)
    (case l_can_be_out => k_is)
    (case c_can_be_out => k_is)
    (case k_can_be_out => k_is)
    (case a__law_of => k_is)
    (case l__law_of => k_is)
    (case c__law_of => k_is)
    (case k__law_of => k_is)
    (case a__law_soonest => k_is)
    (case l__law_soonest => k_is)
    (case c__law_soonest => k_is)
    (case k__law_soonest => k_is)
    (case a__law_refused => k_is)
    (case l__law_refused => k_is)
    (case c__law_refused => k_is)
    (case k__law_refused => k_is)
    (case a_law => k_is)
    (case l_law => k_is)
    (case c_law => k_is)
    (case k_law => k_is)
    (case x_g0 => first | rfl | k_is)
    (case x_g => first | rfl | k_is)
    (case x_L => first | rfl | k_is)
    (case x_sa => first | rfl | k_is)
    (case x_exC => first | rfl | k_is)
    (case x_tyC => first | rfl | k_is)
    (case x_kC => first | rfl | k_is)
    (case x_nf => first | rfl | k_is)
    (case x_iC => first | rfl | k_is)
    (case x_tI => first | rfl | k_is)
    (case x_s0 => first | rfl | k_is)
    (case x_r0 => first | rfl | k_is)
    (case x_v0 => first | rfl | k_is)
    (case x_ga => first | rfl | k_is)
    (case x_gg => first | rfl | k_is)
    (case x_hd => first | rfl | k_is)
    (case x_cl => first | rfl | k_is)
    (case x_ca => first | rfl | k_is)
    (case x_cn => first | rfl | k_is)
    (case x_ct => first | rfl | k_is)
    (case x_cm => first | rfl | k_is)
    (case x_te => first | rfl | k_is)
    (case x_ki => first | rfl | k_is)
    (case x_l1 => first | rfl | k_is)
    (case x_c1 => first | rfl | k_is)
    (case x_k1 => first | rfl | k_is)
    (case b_enumerate => k_is)
    (case b_isinstance => k_is)
    (case b_len => k_is)
    (case b_list => k_is)
    (case b_max => k_is)
    (case b_min => k_is)
    (case b_range => k_is)
    (case b_reversed => k_is)
    (case b_set => k_is)
    (case b_sorted => k_is)
    (case b_tuple => k_is)
    (case b_zip => k_is)
