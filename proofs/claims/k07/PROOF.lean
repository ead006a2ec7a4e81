import PyProof.Rows.All
import Wide.All
import OpenK.AllK
import Wide.FinOn
import HandS.ForMost
import HandS.Zip
import HandS.IsInst
import HandS.Style
import HandS.Flow
import HandS.Conv
import HandS.RevRange
import HandS.TupAny
import HandS.TupMul
import HandS.Walk
import HandS.Deep
import HandS.Wide
import HandS.Evl
import KE.DataMinMax
import KE.KTupSum
import KE.GoesEnum
import KE.GoesMore
import KE.GoesNew
import PyProof.EnumMake
import HandS.SetBool
import HandS.SetKeys
import HandS.Dict
import KE.SortData
import PyProof.Rows.SetFrom
import HandS.Strs
import HandS.SetFor
import PyProof.StrOps2
import HandS.Comp
import HandS.ExcInit
import HandS.ExcField
import HandS.ExcIs
import HandS.ExcOwn
import HandS.WordsExc
import KE.KExcIs
import HandS.HotCalls
import PyProof.ZipIter
import HandS.Text
import PyProof.Rows.TupIter
import HandS.TryOnly
import PySem.Challenge.RW_deepoven_k07_whole_an_oven_tick_by_tick
set_option Elab.async false
set_option linter.all false
set_option maxRecDepth 100000
/-! The data layer 1: data in the heap, environments. -/
namespace DL
open PySem L2

/-- the script, as data that nothing but its own readers know -/
def scr (ns : List Int) : PyData := .dict [(.none, .list (ns.map .int))]
/-- a dict of texts and ints -/
def dctD (m : List (Str × Int)) : PyData := .dict ((.bool true, .none) :: m.map fun x => (.str x.1, .int x.2))
/-- the reference a, of which nothing more is told -/
def adrD (a : Addr) : PyData := .dict [(.bool false, .none), (.none, .int (Int.ofNat a))]
/-- an error at a, whose field name (its dict at d) is the text z -/
def exnD (a d : Addr) (z : Str) : PyData := .dict [(.bool false, .str z), (.int (Int.ofNat d), .int (Int.ofNat a))]
def dctK (m : List (Str × Int)) : List (Key × V) := m.map fun x => (.inr x.1, .int x.2)

mutual
inductive Da (K : PySem.W.Frag) (S : Hp) : V → PyData → Prop
  | non : Da K S .non .none
  | bl (b : Bool) : Da K S (.bl b) (.bool b)
  | int (i : Int) : Da K S (.int i) (.int i)
  | str (x : Str) : Da K S (.str x) (.str x)
  | lst {a : Addr} {xs : List V} {ds : List PyData} : S a = some (.lst xs) → DaAll K S xs ds → Da K S (.ref a) (.list ds)
  | tup {a : Addr} {xs : List V} {ds : List PyData} : S a = some (.tup xs) → DaAll K S xs ds → Da K S (.ref a) (.tuple ds)
  | scr {a : Addr} {ns : List Int} : SqL K S a (ns.map V.int) → Da K S (.ref a) (scr ns)
  | dct {a : Addr} {m : List (Str × Int)} : S a = some (.dK (dctK m)) → Da K S (.ref a) (dctD m)
  | adr (a : Addr) : Da K S (.ref a) (adrD a)
  | exn {a d : Addr} {z : Str} : S d = some (.xd [("name", .str z)]) → Da K S (.ref a) (exnD a d z)
inductive DaAll (K : PySem.W.Frag) (S : Hp) : List V → List PyData → Prop
  | nil : DaAll K S [] []
  | cons {v : V} {vs : List V} {d : PyData} {ds : List PyData} : Da K S v d → DaAll K S vs ds → DaAll K S (v :: vs) (d :: ds)
end

section
variable {K : PySem.W.Frag} {S S' H H' : Hp}
mutual
theorem Da.mono (e : Same S S') : ∀ {v : V} {d : PyData}, Da K S v d → Da K S' v d
  | _, _, .non => .non
  | _, _, .bl b => .bl b
  | _, _, .int b => .int b
  | _, _, .str b => .str b
  | _, _, .lst h r => .lst (e _ _ h) (DaAll.mono e r)
  | _, _, .tup h r => .tup (e _ _ h) (DaAll.mono e r)
  | _, _, .scr h => .scr (e.seq h)
  | _, _, .dct h => .dct (e _ _ h)
  | _, _, .adr a => .adr a
  | _, _, .exn h => .exn (e _ _ h)
theorem DaAll.mono (e : Same S S') : ∀ {vs : List V} {ds : List PyData}, DaAll K S vs ds → DaAll K S' vs ds
  | _, _, .nil => .nil
  | _, _, .cons h r => .cons (Da.mono e h) (DaAll.mono e r)
end
theorem DaAll.length : ∀ {vs : List V} {ds : List PyData}, DaAll K S vs ds → vs.length = ds.length
  | _, _, .nil => rfl
  | _, _, .cons _ r => by rw [List.length_cons, List.length_cons, DaAll.length r]
theorem DaAll.get : ∀ {vs : List V} {ds : List PyData} {i : Nat} {v : V}, DaAll K S vs ds → vs[i]? = some v → ∃ d, ds[i]? = some d ∧ Da K S v d
  | _, _, _, _, .nil, e => by simp at e
  | _, _, 0, _, .cons h _, e => by simp at e; subst e; exact ⟨_, rfl, h⟩
  | _, _, i + 1, v, .cons _ r, e => by
    obtain ⟨d, h1, h2⟩ := DaAll.get (i := i) (v := v) r (by simpa using e)
    exact ⟨d, by simpa using h1, h2⟩
theorem DaAll.at : ∀ {vs : List V} {ds : List PyData} {i : Nat} {d : PyData}, DaAll K S vs ds → ds[i]? = some d → ∃ v, vs[i]? = some v ∧ Da K S v d
  | _, _, _, _, .nil, e => by simp at e
  | _, _, 0, _, .cons h _, e => by simp at e; subst e; exact ⟨_, rfl, h⟩
  | _, _, i + 1, d, .cons _ r, e => by
    obtain ⟨v, h1, h2⟩ := DaAll.at (i := i) (d := d) r (by simpa using e)
    exact ⟨v, by simpa using h1, h2⟩
theorem DaAll.append : ∀ {vs us : List V} {ds es : List PyData}, DaAll K S vs ds → DaAll K S us es → DaAll K S (vs ++ us) (ds ++ es)
  | _, _, _, _, .nil, s => s
  | _, _, _, _, .cons h r, s => .cons h (DaAll.append r s)
theorem DaAll.one {v : V} {d : PyData} (h : Da K S v d) : DaAll K S [v] [d] := .cons h .nil
theorem DaAll.set {v : V} {d : PyData} (h : Da K S v d) : ∀ {vs : List V} {ds : List PyData} (i : Nat), DaAll K S vs ds → DaAll K S (vs.set i v) (ds.set i d)
  | _, _, _, .nil => .nil
  | _, _, 0, .cons _ r => .cons h r
  | _, _, i + 1, .cons q r => .cons q (DaAll.set h i r)
theorem DaAll.drop : ∀ {vs : List V} {ds : List PyData} (n : Nat), DaAll K S vs ds → DaAll K S (vs.drop n) (ds.drop n)
  | _, _, 0, r => r
  | _, _, _ + 1, .nil => .nil
  | _, _, n + 1, .cons _ r => DaAll.drop n r
theorem DaAll.take : ∀ {vs : List V} {ds : List PyData} (n : Nat), DaAll K S vs ds → DaAll K S (vs.take n) (ds.take n)
  | _, _, 0, _ => .nil
  | _, _, _ + 1, .nil => .nil
  | _, _, n + 1, .cons h r => .cons h (DaAll.take n r)
theorem DaAll.reverse {vs : List V} {ds : List PyData} (h : DaAll K S vs ds) : DaAll K S vs.reverse ds.reverse := by
  induction ds generalizing vs with
  | nil => cases h; exact .nil
  | cons d ds ih =>
    cases h with
    | cons h1 h2 =>
      rw [List.reverse_cons, List.reverse_cons]
      exact (ih h2).append (.one h1)
theorem DaAll.erase : ∀ {vs : List V} {ds : List PyData} (i : Nat), DaAll K S vs ds → DaAll K S (vs.eraseIdx i) (ds.eraseIdx i)
  | _, _, _, .nil => .nil
  | _, _, 0, .cons _ r => r
  | _, _, i + 1, .cons q r => .cons q (DaAll.erase i r)
theorem DaAll.rep {vs : List V} {ds : List PyData} (h : DaAll K S vs ds) : ∀ k : Nat, DaAll K S (List.replicate k vs).flatten (List.replicate k ds).flatten
  | 0 => .nil
  | k + 1 => by
    rw [List.replicate_succ, List.replicate_succ, List.flatten_cons, List.flatten_cons]
    exact h.append (DaAll.rep h k)
theorem DaAll.dropLast {vs : List V} {ds : List PyData} (h : DaAll K S vs ds) : DaAll K S vs.dropLast ds.dropLast := by
  rw [List.dropLast_eq_take, List.dropLast_eq_take, h.length]
  exact h.take _
theorem DaAll.ints : ∀ {vs : List V} {ns : List Int}, DaAll K S vs (ns.map .int) → vs = ns.map V.int
  | _, [], .nil => rfl
  | _, n :: ns, .cons (.int _) r => by rw [List.map_cons, DaAll.ints r]
theorem DaAll.strs : ∀ {vs : List V} {ns : List Str}, DaAll K S vs (ns.map .str) → vs = ns.map V.str
  | _, [], .nil => rfl
  | _, n :: ns, .cons (.str _) r => by rw [List.map_cons, DaAll.strs r]
theorem DaAll.bls : ∀ {vs : List V} {ns : List Bool}, DaAll K S vs (ns.map .bool) → vs = ns.map V.bl
  | _, [], .nil => rfl
  | _, n :: ns, .cons (.bl _) r => by rw [List.map_cons, DaAll.bls r]
theorem DaAll.ofInts : ∀ {ns : List Int}, DaAll K S (ns.map V.int) (ns.map .int)
  | [] => .nil
  | n :: ns => .cons (.int n) DaAll.ofInts
theorem DaAll.ofStrs : ∀ {ns : List Str}, DaAll K S (ns.map V.str) (ns.map .str)
  | [] => .nil
  | n :: ns => .cons (.str n) DaAll.ofStrs
mutual
theorem Da.dp (e : Same S H) : ∀ {v : V} {d : PyData}, Da K S v d → SeqAt.shaped d = true → Dp K H v d
  | _, _, .non, _ => .non
  | _, _, .bl b, _ => .bl b
  | _, _, .int b, _ => .int b
  | _, _, .str b, _ => .str b
  | _, _, .lst h r, s => .lst (SqL.of (e _ _ h)) (DaAll.dp e r (by
      have c := SeqAt.canLay_of_shaped s
      simpa [PyData.canLay0] using c))
  | _, _, .tup h r, s => .tup (SqT.of (e _ _ h)) (DaAll.dp e r (by
      have c := SeqAt.canLay_of_shaped s
      simpa [PyData.canLay0] using c))
  | _, _, .scr h, s => by
      have c := SeqAt.canLay_of_shaped s
      simp [scr, PyData.canLay0] at c
  | _, _, .dct h, s => by
      have c := SeqAt.canLay_of_shaped s
      simp [dctD, PyData.canLay0] at c
  | _, _, .adr a, s => by
      have c := SeqAt.canLay_of_shaped s
      simp [adrD, PyData.canLay0] at c
  | _, _, .exn h, s => by
      have c := SeqAt.canLay_of_shaped s
      simp [exnD, PyData.canLay0] at c
theorem Da.dp' (e : Same S H) : ∀ {v : V} {d : PyData}, Da K S v d → d.canLay0 = true → Dp K H v d
  | _, _, .non, _ => .non
  | _, _, .bl b, _ => .bl b
  | _, _, .int b, _ => .int b
  | _, _, .str b, _ => .str b
  | _, _, .lst h r, s => .lst (SqL.of (e _ _ h)) (DaAll.dp e r (by simpa [PyData.canLay0] using s))
  | _, _, .tup h r, s => .tup (SqT.of (e _ _ h)) (DaAll.dp e r (by simpa [PyData.canLay0] using s))
  | _, _, .scr h, s => by simp [scr, PyData.canLay0] at s
  | _, _, .dct h, s => by simp [dctD, PyData.canLay0] at s
  | _, _, .adr a, s => by simp [adrD, PyData.canLay0] at s
  | _, _, .exn h, s => by simp [exnD, PyData.canLay0] at s
theorem DaAll.dp (e : Same S H) : ∀ {vs : List V} {ds : List PyData}, DaAll K S vs ds → PyData.canLayAll0 ds = true → DpAll K H vs ds
  | _, _, .nil, _ => .nil
  | _, _, .cons h r, s => by
    simp only [PyData.canLayAll0, Bool.and_eq_true] at s
    exact .cons (Da.dp' e h s.1) (DaAll.dp e r s.2)
end
end

/-! ### environments -/
/-- a slot: not known, shared data, a list made here that only this frame holds, a list handed in that this frame may change -/
inductive Sl where
  | no | da (d : PyData) | ow (ds : List PyData) | pa (ds : List PyData) | ob (b : PyData) (st : List PyData)
abbrev En := List Sl
def Sl.ls : Sl → Option (List PyData)
  | .ow ds => some ds
  | .pa ds => some ds
  | _ => none
/-- the list in a slot exchanged -/
def Sl.put : Sl → List PyData → Sl
  | .pa _, es => .pa es
  | _, es => .ow es
/-- a result: shared data, a new list, what stands in a slot -/
inductive Rv where
  | da (d : PyData) | fr (ds : List PyData) | bo (i : Nat)

/-- what stays: the frame B, the data S0 at the start, the list handed in -/
structure Et where
  B : Hp
  S0 : Hp
  pp : Option Addr
  ov : Addr → Option (Addr × Addr × V × Addr)
/-- the fields of an oven -/
def ovF (vb : V) (l : Addr) : List (Str × V) := putF "stands" (.ref l) (putF "batch" vb [])
/-- the class of ovens -/
def OvC (K : PySem.W.Frag) (C : Addr) : Prop := PySem.W.nsIn K mainGlobals "Oven" = some (some (.ref C))
/-- the list of an oven that is known -/
def Et.lk (t : Et) (b : Addr) : Prop := ∃ p C dx vb, t.ov p = some (C, dx, vb, b)
/-- what stays: the frame, but for the ovens' lists -/
structure OB (K : PySem.W.Frag) (t : Et) (H : Hp) : Prop where
  b1 : ∀ b o, t.B b = some o → t.lk b ∨ H b = some o
  b2 : ∀ p C dx vb l, t.ov p = some (C, dx, vb, l) → OvC K C ∧ t.B p = some (.ins C dx (ovF vb l)) ∧ H p = some (.ins C dx (ovF vb l)) ∧ t.B l ≠ none ∧ t.S0 l = none ∧ ∃ vs, H l = some (.lst vs)
  b3 : ∀ p p' C C' dx dx' vb vb' l, t.ov p = some (C, dx, vb, l) → t.ov p' = some (C', dx', vb', l) → p = p'
section
variable {K : PySem.W.Frag} {t : Et} {H H' : Hp} {a : Addr} {o : HO}
theorem OB.lB (h : OB K t H) (q : t.lk a) : t.B a ≠ none := by
  obtain ⟨p, C, dx, vb, e⟩ := q
  exact (h.b2 _ _ _ _ _ e).2.2.2.1
theorem OB.lS (h : OB K t H) (q : t.lk a) : t.S0 a = none := by
  obtain ⟨p, C, dx, vb, e⟩ := q
  exact (h.b2 _ _ _ _ _ e).2.2.2.2.1
theorem OB.lH (h : OB K t H) (q : t.lk a) : ∃ vs, H a = some (.lst vs) := by
  obtain ⟨p, C, dx, vb, e⟩ := q
  exact (h.b2 _ _ _ _ _ e).2.2.2.2.2
theorem OB.nn (h : OB K t H) (q : t.B a ≠ none) : H a ≠ none := fun z => by
  cases e : t.B a with
  | none => exact q e
  | some o =>
    rcases h.b1 a o e with y | y
    · obtain ⟨vs, y⟩ := h.lH y
      rw [z] at y
      cases y
    · rw [z] at y
      cases y
theorem OB.free (h : OB K t H) (q : H a = none) : t.B a = none := by
  cases e : t.B a with
  | none => rfl
  | some o => exact absurd q (h.nn (fun z => by rw [e] at z; cases z))
theorem OB.trans (h : OB K t H) (s : Same H H') : OB K t H' :=
  ⟨fun b o e => (h.b1 b o e).imp_right (s _ _), fun p C dx vb l e => by
    obtain ⟨x1, x2, x3, x4, x5, vs, x6⟩ := h.b2 p C dx vb l e
    exact ⟨x1, x2, s _ _ x3, x4, x5, vs, s _ _ x6⟩, h.b3⟩
theorem OB.upd (h : OB K t H) (e : t.B a = none) : OB K t (upd H a o) :=
  ⟨fun b u q => (h.b1 b u q).imp_right fun z => by rw [upd_ne (ne_of_none q e)]; exact z, fun p C dx vb l q => by
    obtain ⟨x1, x2, x3, x4, x5, vs, x6⟩ := h.b2 p C dx vb l q
    have n1 : p ≠ a := ne_of_none x2 e
    have n2 : l ≠ a := fun z => x4 (by rw [z]; exact e)
    exact ⟨x1, x2, by rw [upd_ne n1]; exact x3, x4, x5, vs, by rw [upd_ne n2]; exact x6⟩, h.b3⟩
theorem OB.but (h : OB K t H) (e : t.B a = none) (s : ∀ b o, b ≠ a → H b = some o → H' b = some o) : OB K t H' :=
  ⟨fun b u q => (h.b1 b u q).imp_right fun z => s b u (ne_of_none q e) z, fun p C dx vb l q => by
    obtain ⟨x1, x2, x3, x4, x5, vs, x6⟩ := h.b2 p C dx vb l q
    have n1 : p ≠ a := ne_of_none x2 e
    have n2 : l ≠ a := fun z => x4 (by rw [z]; exact e)
    exact ⟨x1, x2, s _ _ n1 x3, x4, x5, vs, s _ _ n2 x6⟩, h.b3⟩
theorem OB.nov {B S0 : Hp} {pp : Option Addr} : OB K ⟨B, S0, pp, fun _ => Option.none⟩ B :=
  ⟨fun b o e => .inr e, fun p C dx vb l e => (nomatch e), fun p p' C C' dx dx' vb vb' l e => (nomatch e)⟩
theorem OB.nov' {B S0 : Hp} {pp : Option Addr} (h : Same B H) : OB K ⟨B, S0, pp, fun _ => Option.none⟩ H :=
  ⟨fun b o e => .inr (h _ _ e), fun p C dx vb l e => (nomatch e), fun p p' C C' dx dx' vb vb' l e => (nomatch e)⟩
theorem OB.same (h : OB K t H) (n : ∀ p, t.ov p = Option.none) : Same t.B H := fun b o e => (h.b1 b o e).resolve_left fun ⟨p, C, dx, vb, z⟩ => by
  rw [n p] at z
  cases z
theorem OB.get (h : OB K t H) (e : t.B a = some o) (n : ¬ t.lk a) : H a = some o := (h.b1 a o e).resolve_left n
theorem OB.nlk (h : OB K t H) (e : t.B a = none) : ¬ t.lk a := fun z => h.lB z e
end

/-- the ovens in the slots -/
structure Obs (K : PySem.W.Frag) (t : Et) (S H : Hp) (σ : L2.St) (ρ : En) : Prop where
  ob : ∀ (i : Nat) (b : PyData) (st : List PyData), ρ[i]? = some (.ob b st) → ∃ p C dx vb l vs, t.ov p = some (C, dx, vb, l) ∧ σ[i]? = some (some (.ref p)) ∧ H l = some (.lst vs) ∧ Da K S vb b ∧ DaAll K S vs st
  od : ∀ (i j : Nat) (b b' : PyData) (st st' : List PyData), i ≠ j → ρ[i]? = some (.ob b st) → ρ[j]? = some (.ob b' st') → σ[i]? ≠ σ[j]?
section
variable {K : PySem.W.Frag} {t : Et} {S S' H H' : Hp} {σ σ' : L2.St} {ρ ρ' : En}
theorem Obs.keep (h : Obs K t S H σ ρ) (hl : ∀ l vs, t.lk l → H l = some (.lst vs) → H' l = some (.lst vs)) (ss : Same S S') : Obs K t S' H' σ ρ :=
  ⟨fun i b st e => by
    obtain ⟨p, C, dx, vb, l, vs, x1, x2, x3, x4, x5⟩ := h.ob i b st e
    exact ⟨p, C, dx, vb, l, vs, x1, x2, hl _ _ ⟨p, C, dx, vb, x1⟩ x3, x4.mono ss, x5.mono ss⟩, h.od⟩
theorem Obs.nobs (h : ∀ (i : Nat) (b : PyData) (st : List PyData), ρ[i]? ≠ some (Sl.ob b st)) : Obs K t S H σ ρ :=
  ⟨fun i b st e => absurd e (h i b st), fun i j b b' st st' _ e => absurd e (h i b st)⟩
theorem Obs.grow (h : Obs K t S H σ ρ) (hh : Same H H') (ss : Same S S') : Obs K t S' H' σ ρ := h.keep (fun _ _ _ e => hh _ _ e) ss
theorem Obs.sub (h : Obs K t S H σ ρ) (hs : ∀ (i : Nat) (b : PyData) (st : List PyData), ρ'[i]? = some (Sl.ob b st) → ρ[i]? = some (Sl.ob b st) ∧ σ'[i]? = σ[i]?) : Obs K t S H σ' ρ' :=
  ⟨fun i b st e => by
    obtain ⟨e1, e2⟩ := hs i b st e
    obtain ⟨p, C, dx, vb, l, vs, x1, x2, x⟩ := h.ob i b st e1
    exact ⟨p, C, dx, vb, l, vs, x1, e2.trans x2, x⟩, fun i j b b' st st' n e1 e2 => by
    obtain ⟨y1, y2⟩ := hs i b st e1
    obtain ⟨y3, y4⟩ := hs j b' st' e2
    rw [y2, y4]
    exact h.od i j b b' st st' n y1 y3⟩
end
structure Rep (K : PySem.W.Frag) (t : Et) (S H : Hp) (σ : L2.St) (ρ : En) : Prop where
  sh : Same S H
  s0 : Same t.S0 S
  sn : ∀ b, t.B b ≠ none → t.S0 b = none → S b = none
  bh : OB K t H
  ph : ∀ a, t.pp = some a → H a ≠ none
  len : σ.length = ρ.length
  dat : ∀ (i : Nat) (d : PyData), ρ[i]? = some (.da d) → ∃ v, σ[i]? = some (some v) ∧ Da K S v d
  own : ∀ (i : Nat) (s : Sl) (ds : List PyData), ρ[i]? = some s → s.ls = some ds → ∃ a vs, σ[i]? = some (some (.ref a)) ∧ H a = some (.lst vs) ∧ S a = none ∧ t.B a = none ∧ DaAll K S vs ds ∧ (t.pp = some a ↔ s = .pa ds)
  dis : ∀ (i j : Nat) (s s' : Sl) (ds ds' : List PyData) (a : Addr), i ≠ j → ρ[i]? = some s → s.ls = some ds → ρ[j]? = some s' → s'.ls = some ds' → σ[i]? = some (some (.ref a)) → σ[j]? = some (some (.ref a)) → False
  obs : Obs K t S H σ ρ

/-- the heaps have grown -/
structure New (S H S' H' : Hp) : Prop where
  ss : Same S S'
  hh : Same H H'
  sh : Same S' H'
  fr : ∀ b, H b ≠ none → S b = none → S' b = none
theorem New.refl {S H : Hp} (h : Same S H) : New S H S H := ⟨Same.refl _, Same.refl _, h, fun _ _ h => h⟩
theorem New.trans {S H S1 H1 S2 H2 : Hp} (a : New S H S1 H1) (b : New S1 H1 S2 H2) : New S H S2 H2 :=
  ⟨a.ss.trans b.ss, a.hh.trans b.hh, b.sh, fun c h1 h2 => b.fr c (fun z => h1 (a.hh.free z)) (a.fr c h1 h2)⟩
/-- a new object that is data -/
theorem New.put {S H : Hp} {p : Addr} {o : HO} (h : Same S H) (hp : H p = none) : New S H (upd S p o) (upd H p o) := by
  refine ⟨fun b u e => ?_, fun b u e => ?_, fun b u e => ?_, fun b h1 h2 => ?_⟩
  · rw [upd_ne (ne_of_none e (h.free hp))]; exact e
  · rw [upd_ne (ne_of_none e hp)]; exact e
  · by_cases q : b = p
    · subst q; rw [upd_same] at e ⊢; exact e
    · rw [upd_ne q] at e ⊢; exact h _ _ e
  · have q : b ≠ p := fun z => by subst z; exact h1 hp
    rw [upd_ne q]; exact h2
/-- a new object that is not data yet -/
theorem New.lay {S H : Hp} {p : Addr} {o : HO} (h : Same S H) (hp : H p = none) : New S H S (upd H p o) := by
  refine ⟨Same.refl _, fun b u e => ?_, fun b u e => ?_, fun b _ h2 => h2⟩
  · rw [upd_ne (ne_of_none e hp)]; exact e
  · rw [upd_ne (ne_of_none (h _ _ e) hp)]; exact h _ _ e

section
variable {K : PySem.W.Frag} {t : Et} {S S' H H' : Hp} {σ : L2.St} {ρ : En}
theorem none_ne {o : HO} {x : Option HO} (h : x = some o) : x ≠ none := fun z => by rw [h] at z; cases z
theorem Rep.new (R : Rep K t S H σ ρ) (N : New S H S' H') : Rep K t S' H' σ ρ := by
  refine ⟨N.sh, R.s0.trans N.ss, fun b h1 h2 => N.fr b ?_ (R.sn b h1 h2), R.bh.trans N.hh, fun a h => ?_, R.len, fun i d h => ?_, fun i s ds h1 h2 => ?_, R.dis, R.obs.grow N.hh N.ss⟩
  · exact R.bh.nn h1
  · intro z
    exact R.ph a h (N.hh.free z)
  · obtain ⟨v, e, q⟩ := R.dat i d h
    exact ⟨v, e, q.mono N.ss⟩
  · obtain ⟨a, vs, e1, e2, e3, e4, e5, e6⟩ := R.own i s ds h1 h2
    exact ⟨a, vs, e1, N.hh _ _ e2, N.fr a (none_ne e2) e3, e4, e5.mono N.ss, e6⟩
end

/-- data, or a list that someone holds, seen as data -/
def Vw (K : PySem.W.Frag) (S H : Hp) (v : V) (d : PyData) : Prop :=
  Da K S v d ∨ ∃ a vs ds, v = .ref a ∧ d = .list ds ∧ H a = some (.lst vs) ∧ DaAll K S vs ds
section
variable {K : PySem.W.Frag} {S S' H H' : Hp} {v : V}
theorem Vw.da {d : PyData} (h : Vw K S H v d) (e : Same S H) : Da K H v d := by
  rcases h with h | ⟨a, vs, ds, rfl, rfl, h1, h2⟩
  · exact h.mono e
  · exact .lst h1 (h2.mono e)
theorem Vw.int {i : Int} (h : Vw K S H v (.int i)) : v = .int i := by
  rcases h with h | ⟨a, vs, ds, _, h, _⟩
  · cases h; rfl
  · cases h
theorem Vw.str {i : Str} (h : Vw K S H v (.str i)) : v = .str i := by
  rcases h with h | ⟨a, vs, ds, _, h, _⟩
  · cases h; rfl
  · cases h
theorem Vw.bl {i : Bool} (h : Vw K S H v (.bool i)) : v = .bl i := by
  rcases h with h | ⟨a, vs, ds, _, h, _⟩
  · cases h; rfl
  · cases h
theorem Vw.non (h : Vw K S H v .none) : v = .non := by
  rcases h with h | ⟨a, vs, ds, _, h, _⟩
  · cases h; rfl
  · cases h
theorem Vw.lst {ds : List PyData} (h : Vw K S H v (.list ds)) (e : Same S H) : ∃ a vs, v = .ref a ∧ H a = some (.lst vs) ∧ DaAll K S vs ds := by
  rcases h with h | ⟨a, vs, es, rfl, h, h1, h2⟩
  · cases h with
    | lst h1 h2 => exact ⟨_, _, rfl, e _ _ h1, h2⟩
  · cases h; exact ⟨a, vs, rfl, h1, h2⟩
theorem Vw.tup {ds : List PyData} (h : Vw K S H v (.tuple ds)) : ∃ a vs, v = .ref a ∧ S a = some (.tup vs) ∧ DaAll K S vs ds := by
  rcases h with h | ⟨a, vs, es, _, h, _⟩
  · cases h with
    | tup h1 h2 => exact ⟨_, _, rfl, h1, h2⟩
  · cases h
theorem Vw.of {d : PyData} (h : Da K S v d) : Vw K S H v d := .inl h
theorem Vw.new {d : PyData} (h : Vw K S H v d) (N : New S H S' H') : Vw K S' H' v d := by
  rcases h with h | ⟨a, vs, ds, h0, h1, h2, h3⟩
  · exact .inl (h.mono N.ss)
  · exact .inr ⟨a, vs, ds, h0, h1, N.hh _ _ h2, h3.mono N.ss⟩
end

/-- a result that is data or a new list -/
def RO (K : PySem.W.Frag) (H S' H' : Hp) (v : V) : Rv → Prop
  | .da d => Da K S' v d
  | .fr ds => ∃ p vs, v = .ref p ∧ H p = none ∧ H' p = some (.lst vs) ∧ S' p = none ∧ DaAll K S' vs ds
  | .bo _ => False
/-- a result beside an environment -/
def RvOk (K : PySem.W.Frag) (t : Et) (S H : Hp) (σ : L2.St) (ρ : En) (v : V) : Rv → Prop
  | .da d => Da K S v d
  | .fr ds => ∃ a vs, v = .ref a ∧ H a = some (.lst vs) ∧ S a = none ∧ t.B a = none ∧ t.pp ≠ some a ∧ DaAll K S vs ds ∧ ∀ (i : Nat) (s : Sl) (ds : List PyData), ρ[i]? = some s → s.ls = some ds → σ[i]? ≠ some (some (.ref a))
  | .bo i => σ[i]? = some (some v)
theorem RO.rv {K : PySem.W.Frag} {t : Et} {S H S' H' : Hp} {σ : L2.St} {ρ : En} {v : V} {r : Rv} (R : Rep K t S H σ ρ) (N : New S H S' H') (h : RO K H S' H' v r) : RvOk K t S' H' σ ρ v r := by
  cases r with
  | da d => exact h
  | bo i => exact False.elim h
  | fr ds =>
    obtain ⟨p, vs, e, h1, h2, h3, h4⟩ := h
    refine ⟨p, vs, e, h2, h3, R.bh.free h1, fun z => R.ph p z h1, h4, fun i s ds' q1 q2 z => ?_⟩
    obtain ⟨a, us, z1, z2, _⟩ := R.own i s ds' q1 q2
    rw [z] at z1
    cases z1
    rw [h1] at z2
    cases z2

/-! ### changes of the environment -/
section
variable {K : PySem.W.Frag} {t : Et} {S S' H H' : Hp} {σ : L2.St} {ρ : En}
/-- a list that stands by itself becomes data -/
theorem same_put {a : Addr} {o : HO} (e : S a = none) : Same S (upd S a o) := fun b u q => by rw [upd_ne (ne_of_none q e)]; exact q
theorem put_same {a : Addr} {o : HO} (h : Same S H) (e : H a = some o) : Same (upd S a o) H := fun b u q => by
  by_cases z : b = a
  · subst z; rw [upd_same] at q; cases q; exact e
  · rw [upd_ne z] at q; exact h _ _ q
theorem Rep.grow {a : Addr} {vs : List V} (R : Rep K t S H σ ρ) (h1 : H a = some (.lst vs)) (h2 : S a = none) (h3 : t.B a = none) (h4 : ∀ (i : Nat) (s : Sl) (ds : List PyData), ρ[i]? = some s → s.ls = some ds → σ[i]? ≠ some (some (.ref a))) :
    Rep K t (upd S a (.lst vs)) H σ ρ := by
  have ss : Same S (upd S a (.lst vs)) := same_put h2
  refine ⟨put_same R.sh h1, R.s0.trans ss, fun b q1 q2 => ?_, R.bh, R.ph, R.len, fun i d q => ?_, fun i s ds q1 q2 => ?_, R.dis, R.obs.grow (Same.refl _) ss⟩
  · have z : b ≠ a := fun z => by subst z; exact q1 h3
    rw [upd_ne z]; exact R.sn b q1 q2
  · obtain ⟨v, e, q⟩ := R.dat i d q
    exact ⟨v, e, q.mono ss⟩
  · obtain ⟨b, us, e1, e2, e3, e4, e5, e6⟩ := R.own i s ds q1 q2
    have z : b ≠ a := fun z => by subst z; exact h4 i s ds q1 q2 e1
    exact ⟨b, us, e1, e2, by rw [upd_ne z]; exact e3, e4, e5.mono ss, e6⟩
/-- a slot is forgotten -/
theorem Rep.drop (R : Rep K t S H σ ρ) (i : Nat) : Rep K t S H σ (ρ.set i .no) := by
  have at_ : ∀ {j s}, (ρ.set i .no)[j]? = some s → s ≠ .no → j ≠ i ∧ ρ[j]? = some s := fun {j s} e hs => by
    by_cases z : i = j
    · subst z
      by_cases hl : i < ρ.length
      · rw [List.getElem?_set_self hl] at e; cases e; exact absurd rfl hs
      · rw [List.getElem?_eq_none (by simpa using hl)] at e; cases e
    · rw [List.getElem?_set_ne z] at e; exact ⟨fun q => z q.symm, e⟩
  have ls_ne : ∀ {s : Sl} {ds}, s.ls = some ds → s ≠ .no := fun {s ds} e z => by subst z; cases e
  refine ⟨R.sh, R.s0, R.sn, R.bh, R.ph, by rw [List.length_set]; exact R.len, fun j d q => ?_, fun j s ds q1 q2 => ?_, fun j k s s' ds ds' a h q1 q2 q3 q4 => ?_, R.obs.sub fun j b st q => ⟨(at_ q (fun z => nomatch z)).2, rfl⟩⟩
  · exact R.dat j d (at_ q (fun z => nomatch z)).2
  · exact R.own j s ds (at_ q1 (ls_ne q2)).2 q2
  · exact R.dis j k s s' ds ds' a h (at_ q1 (ls_ne q2)).2 q2 (at_ q3 (ls_ne q4)).2 q4
theorem set_get {α : Type} {l : List α} {i j : Nat} {x y : α} (e : (l.set i x)[j]? = some y) : (j = i ∧ y = x ∧ i < l.length) ∨ (j ≠ i ∧ l[j]? = some y) := by
  by_cases z : i = j
  · subst z
    by_cases hl : i < l.length
    · rw [List.getElem?_set_self hl] at e; cases e; exact .inl ⟨rfl, rfl, hl⟩
    · rw [List.getElem?_eq_none (by simpa using hl)] at e; cases e
  · rw [List.getElem?_set_ne z] at e; exact .inr ⟨fun q => z q.symm, e⟩
theorem set_ob {i j : Nat} {x : Sl} {b : PyData} {st : List PyData} (e : (ρ.set i x)[j]? = some (.ob b st)) (h : ∀ b st, x ≠ .ob b st) : ρ[j]? = some (.ob b st) := by
  rcases set_get e with ⟨rfl, z, _⟩ | ⟨_, q⟩
  · exact absurd z.symm (h _ _)
  · exact q
theorem set_ne {α : Type} {l : List α} {i j : Nat} {x : α} (h : j ≠ i) : (l.set i x)[j]? = l[j]? := List.getElem?_set_ne (fun z => h z.symm)
theorem set_ob2 {i j : Nat} {x : Sl} {y : Option V} {b : PyData} {st : List PyData} (e : (ρ.set i x)[j]? = some (.ob b st)) (h : ∀ b st, x ≠ .ob b st) : ρ[j]? = some (.ob b st) ∧ (σ.set i y)[j]? = σ[j]? := by
  rcases set_get e with ⟨rfl, z, _⟩ | ⟨hj, q⟩
  · exact absurd z.symm (h _ _)
  · exact ⟨q, set_ne hj⟩
/-- the frame's own list is given up: it is data from now on -/
theorem Rep.give {i : Nat} {ds : List PyData} (R : Rep K t S H σ ρ) (h : ρ[i]? = some (.ow ds)) :
    ∃ S', Same S S' ∧ Rep K t S' H σ (ρ.set i (.da (.list ds))) ∧ ∃ v, σ[i]? = some (some v) ∧ Da K S' v (.list ds) := by
  obtain ⟨a, vs, e1, e2, e3, e4, e5, e6⟩ := R.own i _ ds h rfl
  have ss : Same S (upd S a (.lst vs)) := same_put e3
  have R1 : Rep K t (upd S a (.lst vs)) H σ (ρ.set i .no) := (R.drop i).grow e2 e3 e4 fun j s es q1 q2 z => by
    rcases set_get q1 with ⟨rfl, rfl, _⟩ | ⟨hj, q⟩
    · cases q2
    · exact R.dis j i s _ es ds a hj q q2 h rfl z e1
  have dv : Da K (upd S a (.lst vs)) (.ref a) (.list ds) := .lst upd_same (e5.mono ss)
  refine ⟨_, ss, ⟨R1.sh, R1.s0, R1.sn, R1.bh, R1.ph, by rw [List.length_set]; exact R.len, fun j d q => ?_, fun j s es q1 q2 => ?_, fun j k s s' es es' b hb q1 q2 q3 q4 => ?_, (R.obs.sub (ρ' := ρ.set i (.da (.list ds))) fun j b st q => ⟨set_ob q (fun _ _ z => nomatch z), rfl⟩).grow (Same.refl _) ss⟩, _, e1, dv⟩
  · rcases set_get q with ⟨rfl, z, _⟩ | ⟨hj, q⟩
    · cases z; exact ⟨_, e1, dv⟩
    · obtain ⟨v, z1, z2⟩ := R.dat j d q
      exact ⟨v, z1, z2.mono ss⟩
  · rcases set_get q1 with ⟨rfl, rfl, _⟩ | ⟨hj, q⟩
    · cases q2
    · exact R1.own j s es (by rw [List.getElem?_set_ne (fun z => hj z.symm)]; exact q) q2
  · rcases set_get q1 with ⟨rfl, rfl, _⟩ | ⟨hj, q⟩
    · cases q2
    · rcases set_get q3 with ⟨rfl, rfl, _⟩ | ⟨hk, q'⟩
      · cases q4
      · exact R.dis j k s s' es es' b hb q q2 q' q4
/-- a slot gets data -/
theorem Rep.setD {i : Nat} {v : V} {d : PyData} (R : Rep K t S H σ ρ) (h : Da K S v d) (hp : ∀ ds, ρ[i]? ≠ some (.pa ds)) : Rep K t S H (σ.set i (some v)) (ρ.set i (.da d)) := by
  refine ⟨R.sh, R.s0, R.sn, R.bh, R.ph, by rw [List.length_set, List.length_set]; exact R.len, fun j e q => ?_, fun j s es q1 q2 => ?_, fun j k s s' es es' b hb q1 q2 q3 q4 z1 z2 => ?_, R.obs.sub fun j b st q => set_ob2 q (fun _ _ z => nomatch z)⟩
  · rcases set_get q with ⟨rfl, z, hl⟩ | ⟨hj, q⟩
    · cases z; exact ⟨v, by rw [List.getElem?_set_self (by rw [R.len]; exact hl)], h⟩
    · obtain ⟨u, z1, z2⟩ := R.dat j e q
      exact ⟨u, by rw [List.getElem?_set_ne (fun z => hj z.symm)]; exact z1, z2⟩
  · rcases set_get q1 with ⟨rfl, rfl, _⟩ | ⟨hj, q⟩
    · cases q2
    · obtain ⟨a, vs, e1, e⟩ := R.own j s es q q2
      exact ⟨a, vs, by rw [List.getElem?_set_ne (fun z => hj z.symm)]; exact e1, e⟩
  · rcases set_get q1 with ⟨rfl, rfl, _⟩ | ⟨hj, q⟩
    · cases q2
    · rcases set_get q3 with ⟨rfl, rfl, _⟩ | ⟨hk, q'⟩
      · cases q4
      · rw [List.getElem?_set_ne (fun z => hj z.symm)] at z1
        rw [List.getElem?_set_ne (fun z => hk z.symm)] at z2
        exact R.dis j k s s' es es' b hb q q2 q' q4 z1 z2
/-- a slot gets a new list -/
theorem Rep.setO {i : Nat} {v : V} {ds : List PyData} (R : Rep K t S H σ ρ) (h : RvOk K t S H σ ρ v (.fr ds)) (hp : ∀ ds, ρ[i]? ≠ some (.pa ds)) : Rep K t S H (σ.set i (some v)) (ρ.set i (.ow ds)) := by
  obtain ⟨a, vs, rfl, h1, h2, h3, h4, h5, h6⟩ := h
  refine ⟨R.sh, R.s0, R.sn, R.bh, R.ph, by rw [List.length_set, List.length_set]; exact R.len, fun j e q => ?_, fun j s es q1 q2 => ?_, fun j k s s' es es' b hb q1 q2 q3 q4 z1 z2 => ?_, R.obs.sub fun j b st q => set_ob2 q (fun _ _ z => nomatch z)⟩
  · rcases set_get q with ⟨rfl, z, hl⟩ | ⟨hj, q⟩
    · cases z
    · obtain ⟨u, z1, z2⟩ := R.dat j e q
      exact ⟨u, by rw [List.getElem?_set_ne (fun z => hj z.symm)]; exact z1, z2⟩
  · rcases set_get q1 with ⟨rfl, rfl, hl⟩ | ⟨hj, q⟩
    · have q2' : some ds = some es := q2
      cases q2'
      exact ⟨a, vs, by rw [List.getElem?_set_self (by rw [R.len]; exact hl)], h1, h2, h3, h5, fun z => absurd z h4, fun z => nomatch z⟩
    · obtain ⟨b, us, e1, e⟩ := R.own j s es q q2
      exact ⟨b, us, by rw [List.getElem?_set_ne (fun z => hj z.symm)]; exact e1, e⟩
  · rcases set_get q1 with ⟨rfl, rfl, hl⟩ | ⟨hj, q⟩
    · rw [List.getElem?_set_self (by rw [R.len]; exact hl)] at z1
      cases z1
      rcases set_get q3 with ⟨rfl, rfl, _⟩ | ⟨hk, q'⟩
      · exact hb rfl
      · rw [List.getElem?_set_ne (fun z => hk z.symm)] at z2
        exact h6 k s' es' q' q4 z2
    · rw [List.getElem?_set_ne (fun z => hj z.symm)] at z1
      rcases set_get q3 with ⟨rfl, rfl, hl⟩ | ⟨hk, q'⟩
      · rw [List.getElem?_set_self (by rw [R.len]; exact hl)] at z2
        cases z2
        exact h6 j s es q q2 z1
      · rw [List.getElem?_set_ne (fun z => hk z.symm)] at z2
        exact R.dis j k s s' es es' b hb q q2 q' q4 z1 z2
theorem put_ob {s : Sl} {es : List PyData} : ∀ b st, s.put es ≠ .ob b st := fun b st z => by
  cases s <;> cases z
/-- the list in a slot is changed -/
theorem Rep.mut {i : Nat} {s : Sl} {ds es : List PyData} {a : Addr} {us : List V} (R : Rep K t S H σ ρ) (h : ρ[i]? = some s) (hs : s.ls = some ds) (ha : σ[i]? = some (some (.ref a))) (hu : DaAll K S us es) :
    Rep K t S (upd H a (.lst us)) σ (ρ.set i (s.put es)) := by
  obtain ⟨a', vs, e1, e2, e3, e4, e5, e6⟩ := R.own i s ds h hs
  rw [ha] at e1
  cases e1
  have hm : OB K t (upd H a (.lst us)) := R.bh.upd e4
  have hob : ∀ b st, s.put es ≠ .ob b st := fun b st z => by
    cases s <;> cases z
  have hil : i < ρ.length := (List.getElem?_eq_some_iff.mp h).1
  refine ⟨fun b o q => by rw [upd_ne (ne_of_none q e3)]; exact R.sh b o q, R.s0, R.sn, hm, fun b q => ?_, by rw [List.length_set]; exact R.len, fun j e q => ?_, fun j s' fs q1 q2 => ?_, fun j k s1 s2 fs fs' b hb q1 q2 q3 q4 z1 z2 => ?_, (R.obs.sub (ρ' := ρ.set i (s.put es)) fun j b st q => ⟨set_ob q hob, rfl⟩).keep (fun l vs q e => by
      have n : l ≠ a := fun z => R.bh.lB q (by rw [z]; exact e4)
      rw [upd_ne n]; exact e) (Same.refl _)⟩
  · by_cases z : b = a
    · subst z; rw [upd_same]; exact fun z => nomatch z
    · rw [upd_ne z]; exact R.ph b q
  · rcases set_get q with ⟨rfl, z, hl⟩ | ⟨hj, q⟩
    · cases s <;> first | cases z | cases hs
    · exact R.dat j e q
  · rcases set_get q1 with ⟨rfl, rfl, hl⟩ | ⟨hj, q⟩
    · cases s with
      | no => cases hs
      | da _ => cases hs
      | ob _ _ => cases hs
      | ow z =>
        have q2' : some es = some fs := q2
        cases q2'
        refine ⟨a, us, ha, upd_same, e3, e4, hu, fun z => ?_, fun z => nomatch z⟩
        have := e6.mp z
        cases this
      | pa z =>
        have q2' : some es = some fs := q2
        cases q2'
        refine ⟨a, us, ha, upd_same, e3, e4, hu, fun _ => rfl, fun _ => e6.mpr ?_⟩
        have hs' : some z = some ds := hs
        cases hs'
        rfl
    · obtain ⟨b, vs', z1, z2, z3⟩ := R.own j s' fs q q2
      have hba : b ≠ a := fun z => by
        subst z
        exact R.dis j i s' s fs ds b hj q q2 h hs z1 ha
      exact ⟨b, vs', z1, by rw [upd_ne hba]; exact z2, z3⟩
  · have fix : ∀ {k : Nat} {s2 : Sl} {fs' : List PyData}, (ρ.set i (s.put es))[k]? = some s2 → s2.ls = some fs' → ∃ (s3 : Sl) (fs3 : List PyData), ρ[k]? = some s3 ∧ s3.ls = some fs3 := fun {k s2 fs'} q q' => by
      rcases set_get q with ⟨rfl, rfl, hl⟩ | ⟨hj, q⟩
      · exact ⟨s, ds, h, hs⟩
      · exact ⟨s2, fs', q, q'⟩
    obtain ⟨s3, f3, y1, y2⟩ := fix q1 q2
    obtain ⟨s4, f4, y3, y4⟩ := fix q3 q4
    exact R.dis j k s3 s4 f3 f4 b hb y1 y2 y3 y4 z1 z2

/-! the frame rule: all but the lists of our own may be told to stay -/
open Classical in
noncomputable def cut (H : Hp) (σ : L2.St) (ρ : En) : Hp := fun b => if ∃ (i : Nat) (s : Sl) (ds : List PyData), ρ[i]? = some s ∧ s.ls = some ds ∧ σ[i]? = some (some (.ref b)) then none else H b
theorem cut_some {b : Addr} {o : HO} (e : cut H σ ρ b = some o) : H b = some o ∧ ∀ (i : Nat) (s : Sl) (ds : List PyData), ρ[i]? = some s → s.ls = some ds → σ[i]? ≠ some (some (.ref b)) := by
  unfold cut at e
  split at e
  · cases e
  · rename_i h
    exact ⟨e, fun i s ds h1 h2 h3 => h ⟨i, s, ds, h1, h2, h3⟩⟩
theorem cut_of {b : Addr} {o : HO} (e : H b = some o) (h : ∀ (i : Nat) (s : Sl) (ds : List PyData), ρ[i]? = some s → s.ls = some ds → σ[i]? ≠ some (some (.ref b))) : cut H σ ρ b = some o := by
  unfold cut
  rw [if_neg (fun ⟨i, s, ds, h1, h2, h3⟩ => h i s ds h1 h2 h3)]
  exact e
noncomputable def Et.re (t : Et) (S H : Hp) (σ : L2.St) (ρ : En) : Et := ⟨cut H σ ρ, S, t.pp, t.ov⟩
theorem cut_B (R : Rep K t S H σ ρ) {b : Addr} (h : t.B b ≠ none) : cut H σ ρ b = H b := by
  cases e : H b with
  | none => exact absurd e (R.bh.nn h)
  | some o =>
    refine cut_of e fun i s ds h1 h2 z => ?_
    obtain ⟨a, vs, e1, _, _, e4, _⟩ := R.own i s ds h1 h2
    rw [e1] at z
    cases z
    exact h e4
theorem Rep.base (R : Rep K t S H σ ρ) : Rep K (t.re S H σ ρ) S H σ ρ := by
  refine ⟨R.sh, Same.refl _, fun b _ h => h, ⟨fun b o e => .inr (cut_some e).1, fun p C dx vb l e => ?_, R.bh.b3⟩, R.ph, R.len, R.dat, fun i s ds h1 h2 => ?_, R.dis, ⟨R.obs.ob, R.obs.od⟩⟩
  · obtain ⟨x1, x2, x3, x4, x5, x6⟩ := R.bh.b2 p C dx vb l e
    refine ⟨x1, ?_, x3, fun z => ?_, R.sn l x4 x5, x6⟩
    · show cut H σ ρ p = _
      rw [cut_B R (none_ne x2)]
      exact x3
    · have z' : cut H σ ρ l = none := z
      rw [cut_B R x4] at z'
      exact R.bh.nn x4 z'
  obtain ⟨a, vs, e1, e2, e3, e4, e5, e6⟩ := R.own i s ds h1 h2
  refine ⟨a, vs, e1, e2, e3, ?_, e5, e6⟩
  cases q : cut H σ ρ a with
  | none => exact q
  | some o => exact absurd e1 ((cut_some q).2 i s ds h1 h2)
theorem Rep.unbase {σ' : L2.St} {ρ' : En} (R : Rep K t S H σ ρ) (R' : Rep K (t.re S H σ ρ) S' H' σ' ρ') : Rep K t S' H' σ' ρ' := by
  have cn : ∀ b, t.B b ≠ none → (t.re S H σ ρ).B b ≠ none := fun b e z => by
    have z' : cut H σ ρ b = none := z
    rw [cut_B R e] at z'
    exact R.bh.nn e z'
  refine ⟨R'.sh, R.s0.trans R'.s0, fun b h1 h2 => R'.sn b (cn b h1) (R.sn b h1 h2), ⟨fun b o e => ?_, fun p C dx vb l e => ?_, R.bh.b3⟩, R'.ph, R'.len, R'.dat, fun i s ds h1 h2 => ?_, R'.dis, ⟨R'.obs.ob, R'.obs.od⟩⟩
  · rcases R.bh.b1 b o e with y | y
    · exact .inl y
    · rcases R'.bh.b1 b o (by show cut H σ ρ b = _; rw [cut_B R (none_ne e)]; exact y) with z | z
      · exact .inl z
      · exact .inr z
  · obtain ⟨x1, x2, x3, x4, x5, x6⟩ := R.bh.b2 p C dx vb l e
    obtain ⟨y1, y2, y3, y4, y5, y6⟩ := R'.bh.b2 p C dx vb l e
    exact ⟨x1, x2, y3, x4, x5, y6⟩
  · obtain ⟨a, vs, e1, e2, e3, e4, e5, e6⟩ := R'.own i s ds h1 h2
    refine ⟨a, vs, e1, e2, e3, ?_, e5, e6⟩
    cases q : t.B a with
    | none => rfl
    | some o => exact absurd e4 (cn a (none_ne q))
/-- what is no list of our own stays where the frame was told anew -/
theorem Rep.held {σ' : L2.St} {ρ' : En} {b : Addr} {o : HO} (R' : Rep K (t.re S H σ ρ) S' H' σ' ρ') (e : H b = some o) (h : ∀ (i : Nat) (s : Sl) (ds : List PyData), ρ[i]? = some s → s.ls = some ds → σ[i]? ≠ some (some (.ref b))) (n : ¬ t.lk b) : H' b = some o :=
  R'.bh.get (a := b) (cut_of e h) n
theorem RvOk.unbase {σ' : L2.St} {ρ' : En} {v : V} {r : Rv} (R : Rep K t S H σ ρ) (h : RvOk K (t.re S H σ ρ) S' H' σ' ρ' v r) : RvOk K t S' H' σ' ρ' v r := by
  cases r with
  | da d => exact h
  | bo i => exact h
  | fr ds =>
    obtain ⟨a, vs, e, h1, h2, h3, h4, h5, h6⟩ := h
    refine ⟨a, vs, e, h1, h2, ?_, h4, h5, h6⟩
    cases q : t.B a with
    | none => rfl
    | some o =>
      have h3' : cut H σ ρ a = none := h3
      rw [cut_B R (none_ne q)] at h3'
      exact absurd h3' (R.bh.nn (none_ne q))
end
end DL
/-! The data layer 2: expressions. -/
namespace DL
open PySem L2

abbrev EF := En → Option (Rv × En)
abbrev TF := En → Option (Bool × En)
abbrev AF := En → Option (List Rv × En)
abbrev OF := En → Option (Option Int × En)


/-- a result and what stands behind it, handed on -/
def ob {α β γ : Type} (x : Option (α × β)) (f : α → β → Option γ) : Option γ := match x with
  | some z => f z.1 z.2
  | none => none
def ol {α γ : Type} (x : Option α) (f : α → Option γ) : Option γ := match x with
  | some z => f z
  | none => none
theorem ob_some {α β γ : Type} {x : Option (α × β)} {f : α → β → Option γ} {c : γ} (h : ob x f = some c) : ∃ a b, x = some (a, b) ∧ f a b = some c := by
  cases x with
  | none => cases h
  | some z => exact ⟨z.1, z.2, rfl, h⟩
theorem ol_some {α γ : Type} {x : Option α} {f : α → Option γ} {c : γ} (h : ol x f = some c) : ∃ a, x = some a ∧ f a = some c := by
  cases x with
  | none => cases h
  | some z => exact ⟨z, rfl, h⟩
@[simp] theorem ob_mk {α β γ : Type} (a : α) (b : β) (f : α → β → Option γ) : ob (some (a, b)) f = f a b := rfl
@[simp] theorem ob_no {α β γ : Type} (f : α → β → Option γ) : ob none f = none := rfl
@[simp] theorem ol_mk {α γ : Type} (a : α) (f : α → Option γ) : ol (some a) f = f a := rfl
@[simp] theorem ol_no {α γ : Type} (f : α → Option γ) : ol none f = none := rfl

/-- a result that can wait: data, or what stands in a slot -/
def RvV (K : PySem.W.Frag) (S : Hp) (σ : L2.St) (v : V) : Rv → Prop
  | .da d => Da K S v d
  | .bo i => σ[i]? = some (some v)
  | .fr _ => False
def RvsOk (K : PySem.W.Frag) (S : Hp) (σ : L2.St) : List V → List Rv → Prop
  | [], [] => True
  | v :: vs, r :: rs => RvV K S σ v r ∧ RvsOk K S σ vs rs
  | _, _ => False

def rdE (K : PySem.W.Frag) (f : EF) : TE := fun σ H Q => ∃ (t : Et) (S : Hp) (ρ : En) (r : Rv) (ρ' : En), Rep K t S H σ ρ ∧ f ρ = some (r, ρ') ∧
  ∀ v H' S', Rep K t S' H' σ ρ' → Same S S' → RvOk K t S' H' σ ρ' v r → Q v H'
def rdT (K : PySem.W.Frag) (f : TF) : TT := fun σ H Q => ∃ (t : Et) (S : Hp) (ρ : En) (r : Bool) (ρ' : En), Rep K t S H σ ρ ∧ f ρ = some (r, ρ') ∧
  ∀ H' S', Rep K t S' H' σ ρ' → Same S S' → Q r H'
def rdA (K : PySem.W.Frag) (f : AF) : TA := fun σ H Q => ∃ (t : Et) (S : Hp) (ρ : En) (r : List Rv) (ρ' : En), Rep K t S H σ ρ ∧ f ρ = some (r, ρ') ∧
  ∀ vs H' S', Rep K t S' H' σ ρ' → Same S S' → RvsOk K S' σ vs r → Q vs H'
def rdO (K : PySem.W.Frag) (f : OF) : TO := fun σ H Q => ∃ (t : Et) (S : Hp) (ρ : En) (r : Option Int) (ρ' : En), Rep K t S H σ ρ ∧ f ρ = some (r, ρ') ∧
  ∀ H' S', Rep K t S' H' σ ρ' → Same S S' → Q r H'
abbrev OkE (X : Cx) (e : Expr) (f : EF) : Prop := PE X e (rdE X.K f)
abbrev OkT (X : Cx) (e : Expr) (f : TF) : Prop := PT X e (rdT X.K f)
abbrev OkW (X : Cx) (e : Expr) (f : TF) : Prop := PW X e (rdT X.K f)
abbrev OkA (X : Cx) (es : List Expr) (f : AF) : Prop := PA X es (rdA X.K f)
abbrev OkO (X : Cx) (e : Option Expr) (f : OF) : Prop := PO X e (rdO X.K f)

section
variable {X : Cx}
theorem pe_imp {e : Expr} {u u' : TE} (h : PE X e u) (i : ∀ σ H Q, u' σ H Q → u σ H Q) : PE X e u' := ⟨fun pins s σ H Q I hw => h.run pins s σ H Q I (i σ H Q hw)⟩
theorem pt_imp {e : Expr} {u u' : TT} (h : PT X e u) (i : ∀ σ H Q, u' σ H Q → u σ H Q) : PT X e u' := ⟨fun pins s σ H Q I hw => h.run pins s σ H Q I (i σ H Q hw)⟩
theorem pw_imp {e : Expr} {u u' : TT} (h : PW X e u) (i : ∀ σ H Q, u' σ H Q → u σ H Q) : PW X e u' := ⟨fun wh pins s σ H Q I hw => h.run wh pins s σ H Q I (i σ H Q hw)⟩
theorem pa_imp {e : List Expr} {u u' : TA} (h : PA X e u) (i : ∀ σ H Q, u' σ H Q → u σ H Q) : PA X e u' := ⟨fun pos pins s σ H Q I hw => h.run pos pins s σ H Q I (i σ H Q hw)⟩
theorem po_imp {e : Option Expr} {u u' : TO} (h : PO X e u) (i : ∀ σ H Q, u' σ H Q → u σ H Q) : PO X e u' := ⟨fun pins s σ H Q I hw => h.run pins s σ H Q I (i σ H Q hw)⟩
theorem ps_imp {e : Stmt} {u u' : TS} (h : PS X e u) (i : ∀ D σ H, u' D σ H → u D σ H) : PS X e u' := ⟨fun pins s σ H D I hw => h.run pins s σ H D I (i D σ H hw)⟩
theorem pss_imp {e : List Stmt} {u u' : TS} (h : PSs X e u) (i : ∀ D σ H, u' D σ H → u D σ H) : PSs X e u' := ⟨fun pins s σ H D I hw => h.run pins s σ H D I (i D σ H hw)⟩
theorem pg_imp {e : Expr} {u u' : TG} (h : PG X e u) (i : ∀ v σ H Q, u' v σ H Q → u v σ H Q) : PG X e u' := ⟨fun pins s σ H v w Q I r hw => h.run pins s σ H v w Q I r (i v σ H Q hw)⟩
end

/-! ### results that wait, views, what is stored -/
def deg : Rv → Rv
  | .fr ds => .da (.list ds)
  | .da d => .da d
  | .bo i => .bo i
/-- a slot seen as data -/
def Sl.vw : Sl → Option PyData
  | .ow ds => some (.list ds)
  | .pa ds => some (.list ds)
  | .da d => some d
  | .no => none
  | .ob _ _ => none
def vw (ρ : En) : Rv → Option PyData
  | .da d => some d
  | .fr ds => some (.list ds)
  | .bo i => ol ρ[i]? Sl.vw
def stoS (ρ : En) (i : Nat) : Sl → Option (PyData × En)
  | .ow ds => some (.list ds, ρ.set i (.da (.list ds)))
  | .da d => some (d, ρ)
  | .pa _ => none
  | .no => none
  | .ob _ _ => none
def sto (ρ : En) : Rv → Option (PyData × En)
  | .da d => some (d, ρ)
  | .fr ds => some (.list ds, ρ)
  | .bo i => ol ρ[i]? (stoS ρ i)
def vws (ρ : En) : List Rv → Option (List PyData)
  | [] => some []
  | r :: rs => ol (vw ρ r) fun d => ol (vws ρ rs) fun ds => some (d :: ds)
def stos (ρ : En) : List Rv → Option (List PyData × En)
  | [] => some ([], ρ)
  | r :: rs => ob (sto ρ r) fun d ρ1 => ob (stos ρ1 rs) fun ds ρ2 => some (d :: ds, ρ2)

section
variable {K : PySem.W.Frag} {t : Et} {S S' H H' : Hp} {σ : L2.St} {ρ ρ' : En} {v : V} {r : Rv}
theorem RvV.mono (e : Same S S') (h : RvV K S σ v r) : RvV K S' σ v r := by
  cases r with
  | da d => exact Da.mono e h
  | bo i => exact h
  | fr ds => exact h
theorem RvsOk.mono (e : Same S S') : ∀ {vs : List V} {rs : List Rv}, RvsOk K S σ vs rs → RvsOk K S' σ vs rs
  | [], [], _ => trivial
  | v :: vs, r :: rs, h => ⟨h.1.mono e, RvsOk.mono e h.2⟩
  | [], _ :: _, h => h.elim
  | _ :: _, [], h => h.elim
theorem Rep.deg (R : Rep K t S H σ ρ) (h : RvOk K t S H σ ρ v r) : ∃ S', Same S S' ∧ Rep K t S' H σ ρ ∧ RvV K S' σ v (DL.deg r) := by
  cases r with
  | da d => exact ⟨S, Same.refl _, R, h⟩
  | bo i => exact ⟨S, Same.refl _, R, h⟩
  | fr ds =>
    obtain ⟨a, vs, rfl, h1, h2, h3, h4, h5, h6⟩ := h
    exact ⟨_, same_put h2, R.grow h1 h2 h3 h6, .lst upd_same (h5.mono (same_put h2))⟩
theorem Rep.at_bo {i : Nat} {s : Sl} (R : Rep K t S H σ ρ) (h : σ[i]? = some (some v)) (e : ρ[i]? = some s) {d : PyData} (hd : s.vw = some d) : Vw K S H v d := by
  cases s with
  | no => cases hd
  | ob _ _ => cases hd
  | da d' =>
    cases hd
    obtain ⟨u, e1, q⟩ := R.dat i _ e
    rw [h] at e1
    cases e1
    exact .inl q
  | ow ds =>
    cases hd
    obtain ⟨a, vs, e1, e2, _, _, e5, _⟩ := R.own i _ ds e rfl
    rw [h] at e1
    cases e1
    exact .inr ⟨a, vs, ds, rfl, rfl, e2, e5⟩
  | pa ds =>
    cases hd
    obtain ⟨a, vs, e1, e2, _, _, e5, _⟩ := R.own i _ ds e rfl
    rw [h] at e1
    cases e1
    exact .inr ⟨a, vs, ds, rfl, rfl, e2, e5⟩
theorem Rep.vw (R : Rep K t S H σ ρ) (h : RvV K S σ v r) {d : PyData} (e : DL.vw ρ r = some d) : Vw K S H v d := by
  cases r with
  | da d' => cases e; exact .inl h
  | fr ds => exact False.elim h
  | bo i =>
    obtain ⟨s, q, e⟩ := ol_some e
    exact R.at_bo h q e
theorem Rep.vwO (R : Rep K t S H σ ρ) (h : RvOk K t S H σ ρ v r) {d : PyData} (e : DL.vw ρ r = some d) : Vw K S H v d := by
  cases r with
  | da d' => exact R.vw (r := .da d') h e
  | bo i => exact R.vw (r := .bo i) h e
  | fr ds =>
    cases e
    obtain ⟨a, vs, rfl, h1, h2, h3, h4, h5, h6⟩ := h
    exact .inr ⟨a, vs, ds, rfl, rfl, h1, h5⟩
theorem Rep.stoV (R : Rep K t S H σ ρ) (h : RvV K S σ v r) {d : PyData} (e : DL.sto ρ r = some (d, ρ')) : ∃ S', Same S S' ∧ Rep K t S' H σ ρ' ∧ Da K S' v d := by
  cases r with
  | da d' => cases e; exact ⟨S, Same.refl _, R, h⟩
  | fr ds => exact False.elim h
  | bo i =>
    obtain ⟨s, q, e⟩ := ol_some e
    have h' : σ[i]? = some (some v) := h
    cases s with
    | no => cases e
    | ob _ _ => cases e
    | pa ds => cases e
    | da d' =>
      cases e
      obtain ⟨u, e1, z⟩ := R.dat i _ q
      rw [h'] at e1
      cases e1
      exact ⟨S, Same.refl _, R, z⟩
    | ow ds =>
      cases e
      obtain ⟨S', ss, R', u, e1, z⟩ := R.give q
      rw [h'] at e1
      cases e1
      exact ⟨S', ss, R', z⟩
theorem Rep.stoO (R : Rep K t S H σ ρ) (h : RvOk K t S H σ ρ v r) {d : PyData} (e : DL.sto ρ r = some (d, ρ')) : ∃ S', Same S S' ∧ Rep K t S' H σ ρ' ∧ Da K S' v d := by
  cases r with
  | da d' => exact R.stoV (r := .da d') h e
  | bo i => exact R.stoV (r := .bo i) h e
  | fr ds =>
    cases e
    obtain ⟨S', ss, R', q⟩ := R.deg h
    exact ⟨S', ss, R', q⟩
theorem Rep.stos : ∀ {vs : List V} {rs : List Rv} {ds : List PyData} {S : Hp} {ρ ρ' : En}, Rep K t S H σ ρ → RvsOk K S σ vs rs → DL.stos ρ rs = some (ds, ρ') → ∃ S', Same S S' ∧ Rep K t S' H σ ρ' ∧ DaAll K S' vs ds
  | [], [], ds, S, ρ, ρ', R, _, e => by cases e; exact ⟨S, Same.refl _, R, .nil⟩
  | v :: vs, r :: rs, ds, S, ρ, ρ', R, h, e => by
    obtain ⟨d, ρ1, q, e⟩ := ob_some e
    obtain ⟨es, ρ2, q2, e⟩ := ob_some e
    cases e
    obtain ⟨S1, s1, R1, d1⟩ := R.stoV h.1 q
    obtain ⟨S2, s2, R2, d2⟩ := Rep.stos R1 (h.2.mono s1) q2
    exact ⟨S2, s1.trans s2, R2, .cons (d1.mono s2) d2⟩
  | [], _ :: _, _, _, _, _, _, h, _ => h.elim
  | _ :: _, [], _, _, _, _, _, h, _ => h.elim
end
def VwAll (K : PySem.W.Frag) (S H : Hp) : List V → List PyData → Prop
  | [], [] => True
  | v :: vs, d :: ds => Vw K S H v d ∧ VwAll K S H vs ds
  | _, _ => False
theorem Rep.vws {K : PySem.W.Frag} {t : Et} {S H : Hp} {σ : L2.St} {ρ : En} (R : Rep K t S H σ ρ) : ∀ {vs : List V} {rs : List Rv} {ds : List PyData}, RvsOk K S σ vs rs → DL.vws ρ rs = some ds → VwAll K S H vs ds
  | [], [], ds, _, e => by cases e; trivial
  | v :: vs, r :: rs, ds, h, e => by
    obtain ⟨d, q, e⟩ := ol_some e
    obtain ⟨es, q2, e⟩ := ol_some e
    cases e
    exact ⟨R.vw h.1 q, R.vws h.2 q2⟩
  | [], _ :: _, _, h, _ => h.elim
  | _ :: _, [], _, h, _ => h.elim
theorem VwAll.da {K : PySem.W.Frag} {S H : Hp} (e : Same S H) : ∀ {vs : List V} {ds : List PyData}, VwAll K S H vs ds → DaAll K H vs ds
  | [], [], _ => .nil
  | _ :: _, _ :: _, h => .cons (h.1.da e) (VwAll.da e h.2)
  | [], _ :: _, h => h.elim
  | _ :: _, [], h => h.elim

/-! ### names, constants -/
def eC (d : PyData) : EF := fun ρ => some (.da d, ρ)
def eSl (i : Nat) : Sl → Option Rv
  | .da d => some (.da d)
  | .ow _ => some (.bo i)
  | .pa _ => some (.bo i)
  | .no => none
  | .ob _ _ => none
def eVar (i : Nat) : EF := fun ρ => ol ρ[i]? fun s => ol (eSl i s) fun r => some (r, ρ)
section
variable {X : Cx} {pos : Pos}
theorem rd_c {K : PySem.W.Frag} {v : V} {d : PyData} (h : ∀ S, Da K S v d) : ∀ σ H Q, rdE K (eC d) σ H Q → tC v σ H Q := fun σ H Q ⟨t, S, ρ, r, ρ', R, e, k⟩ => by
  cases e
  exact k v H S R (Same.refl _) (h S)
theorem ok_int {i : Int} {j pos} : OkE X (.Constant (.int i) j pos) (eC (.int i)) := pe_imp pe_int (rd_c fun _ => .int i)
theorem ok_bl {b : Bool} {j pos} : OkE X (.Constant (.bool b) j pos) (eC (.bool b)) := pe_imp pe_bl (rd_c fun _ => .bl b)
theorem ok_non {j pos} : OkE X (.Constant .none j pos) (eC .none) := pe_imp pe_non (rd_c fun _ => .non)
theorem ok_str {x : Str} {j pos} : OkE X (.Constant (.str x) j pos) (eC (.str x)) := pe_imp pe_str (rd_c fun _ => .str x)
theorem rd_var {K : PySem.W.Frag} {i : Nat} : ∀ σ H Q, rdE K (eVar i) σ H Q → tVar i σ H Q := fun σ H Q ⟨t, S, ρ, r, ρ', R, e, k⟩ => by
  obtain ⟨s, q, e⟩ := ol_some e
  obtain ⟨r', q2, e⟩ := ol_some e
  cases e
  cases s with
  | no => cases q2
  | ob _ _ => cases q2
  | da d =>
    cases q2
    obtain ⟨v, e1, z⟩ := R.dat i d q
    exact ⟨v, e1, k v H S R (Same.refl _) z⟩
  | ow ds =>
    cases q2
    obtain ⟨a, vs, e1, _⟩ := R.own i _ ds q rfl
    exact ⟨_, e1, k _ H S R (Same.refl _) e1⟩
  | pa ds =>
    cases q2
    obtain ⟨a, vs, e1, _⟩ := R.own i _ ds q rfl
    exact ⟨_, e1, k _ H S R (Same.refl _) e1⟩
theorem ok_name (i : Nat) {x : Str} {pos : Pos} (hN : X.N[i]? = some x := by rfl) (hv : Vis X.env.scope x := by first | exact Or.inl rfl | exact Or.inr (Or.inl rfl) | exact Or.inr (Or.inr rfl)) (hd : (x == ("__debug__" : Str)) = false := by decide)
    (hcd : (x == ("__classdict__" : Str)) = false := by decide) : OkE X (.Name x pos) (eVar i) := pe_imp (pe_var hN hv hd hcd) rd_var
/-- a constant of the module: an int, a text -/
theorem ok_globI {x : Str} {i : Int} {tk : Tok} {pos : Pos} (hg : Gl X x) (hm : X.mg x = some (.int i tk)) (hd : (x == ("__debug__" : Str)) = false := by decide) : OkE X (.Name x pos) (eC (.int i)) :=
  pe_imp (pe_glob (v := .int i) hg hm ⟨_, rfl⟩ hd) (rd_c fun _ => .int i)
theorem ok_globS {x z : Str} {tk : Tok} {pos : Pos} (hg : Gl X x) (hm : X.mg x = some (.str z tk)) (hd : (x == ("__debug__" : Str)) = false := by decide) : OkE X (.Name x pos) (eC (.str z)) :=
  pe_imp (pe_glob (v := .str z) hg hm ⟨_, rfl⟩ hd) (rd_c fun _ => .str z)
end

/-! ### two-place operators -/
def eBin (op : PyData → PyData → Option Rv) (a b : EF) : EF := fun ρ =>
  ob (a ρ) fun x ρ1 => ob (b ρ1) fun y ρ2 => ol (vw ρ2 (deg x)) fun d => ol (vw ρ2 y) fun e => ol (op d e) fun r => some (r, ρ2)
/-- the operation on data says what the rule r gives -/
def OpOk (K : PySem.W.Frag) (r : R2) (f : PyData → PyData → Option Rv) : Prop :=
  ∀ (S H : Hp) (x y : V) (d e : PyData) (res : Rv), Same S H → Vw K S H x d → Vw K S H y e → f d e = some res → ∀ Q : VK, (∀ v H' S', New S H S' H' → RO K H S' H' v res → Q v H') → r x y H Q
section
variable {X : Cx} {pos : Pos} {a b : Expr} {fa fb : EF} {K : PySem.W.Frag}
theorem rd_bin {r : R2} {f : PyData → PyData → Option Rv} (hf : OpOk K r f) : ∀ σ H Q, rdE K (eBin f fa fb) σ H Q → tOp r (rdE K fa) (rdE K fb) σ H Q := fun σ H Q ⟨t, S, ρ, res, ρ', R, e, k⟩ => by
  obtain ⟨x, ρ1, q1, e⟩ := ob_some e
  obtain ⟨y, ρ2, q2, e⟩ := ob_some e
  obtain ⟨d, q3, e⟩ := ol_some e
  obtain ⟨d', q4, e⟩ := ol_some e
  obtain ⟨r', q5, e⟩ := ol_some e
  cases e
  refine ⟨t, S, ρ, x, ρ1, R, q1, fun v1 H1 S1 R1 s1 o1 => ?_⟩
  obtain ⟨S2, s2, R2, o2⟩ := R1.deg o1
  refine ⟨t, S2, ρ1, y, _, R2, q2, fun v2 H3 S3 R3 s3 o3 => ?_⟩
  refine hf S3 H3 v1 v2 d d' _ R3.sh (R3.vw (o2.mono s3) q3) (R3.vwO o3 q4) q5 _ fun v H4 S4 N o => ?_
  exact k v H4 S4 (R3.new N) (((s1.trans s2).trans s3).trans N.ss) (o.rv R3 N)
theorem ok_bin {op : Operator} {r : R2} {f : PyData → PyData → Option Rv} (ho : OpR X (binaryOp op) r) (hf : OpOk X.K r f) (ha : OkE X a fa) (hb : OkE X b fb) : OkE X (.BinOp a op b pos) (eBin f fa fb) := pe_imp (pe_op ho ha hb) (rd_bin hf)
theorem ok_cmp {op : CmpOp} {r : R2} {f : PyData → PyData → Option Rv} (ho : OpR X (compareOp op) r) (hf : OpOk X.K r f) (ha : OkE X a fa) (hb : OkE X b fb) (hm : behindInMarks op b = false) : OkE X (.Compare a [op] [b] pos) (eBin f fa fb) := pe_imp (pe_cmpR ho ha hb hm) (rd_bin hf)
end
def toB : Rv → Option Bool
  | .da (.bool b) => some b
  | _ => none
theorem toB_some {r : Rv} {c : Bool} (h : toB r = some c) : r = .da (.bool c) := by
  unfold toB at h
  split at h
  · cases h; rfl
  · cases h
@[simp] theorem toB_b (c : Bool) : toB (.da (.bool c)) = some c := rfl
theorem bl_of {K : PySem.W.Frag} {S : Hp} {v : V} {c : Bool} (h : Da K S v (.bool c)) : v = .bl c := by cases h; rfl
theorem int_of {K : PySem.W.Frag} {S : Hp} {v : V} {c : Int} (h : Da K S v (.int c)) : v = .int c := by cases h; rfl
/-- a test made of an expression that gives a truth -/
def tE (f : EF) : TF := fun ρ => ob (f ρ) fun r ρ1 => ol (toB r) fun c => some (c, ρ1)
section
variable {X : Cx} {pos : Pos} {a b : Expr} {fa fb : EF} {K : PySem.W.Frag}
theorem rd_test {f : EF} {u : TE} (h : ∀ σ H Q, rdE K f σ H Q → u σ H Q) : ∀ σ H Q, rdT K (tE f) σ H Q → tTest u σ H Q := fun σ H Q ⟨t, S, ρ, res, ρ', R, e, k⟩ => by
  obtain ⟨x, ρ1, q1, e⟩ := ob_some e
  obtain ⟨c, q2, e⟩ := ol_some e
  cases e
  cases toB_some q2
  exact h σ H _ ⟨t, S, ρ, _, _, R, q1, fun v H1 S1 R1 s1 o1 => ⟨_, bl_of o1, k H1 S1 R1 s1⟩⟩
theorem okT_cmp {op : CmpOp} {r : R2} {f : PyData → PyData → Option Rv} (ho : OpR X (compareOp op) r) (hf : OpOk X.K r f) (ha : OkE X a fa) (hb : OkE X b fb) (hm : behindInMarks op b = false) : OkT X (.Compare a [op] [b] pos) (tE (eBin f fa fb)) :=
  pt_imp (pt_cmpR ho ha hb hm) (rd_test (rd_bin hf))
theorem okT_val {e : Expr} {f : EF} (h : OkE X e f) (he : ∀ whole, isTrue e X.env whole = (do let v ← whole; standAt e.pos; holding [v] (truthy v)) := by intro _; rfl) : OkT X e (tE f) :=
  pt_imp (pt_val h he) (rd_test fun _ _ _ h => h)
end

/-! ### and, or, not, if-else -/
def tAndF (f g : TF) : TF := fun ρ => ob (f ρ) fun c ρ1 => if c = true then g ρ1 else some (false, ρ1)
def tOrF (f g : TF) : TF := fun ρ => ob (f ρ) fun c ρ1 => if c = true then some (true, ρ1) else g ρ1
def tNotF (f : TF) : TF := fun ρ => ob (f ρ) fun c ρ1 => some (!c, ρ1)
def eAndF (f g : EF) : EF := fun ρ => ob (f ρ) fun r ρ1 => ol (toB r) fun c => if c = true then g ρ1 else some (.da (.bool false), ρ1)
def eOrF (f g : EF) : EF := fun ρ => ob (f ρ) fun r ρ1 => ol (toB r) fun c => if c = true then some (.da (.bool true), ρ1) else g ρ1
def eNotF (f : EF) : EF := fun ρ => ob (f ρ) fun r ρ1 => ol (toB r) fun c => some (.da (.bool (!c)), ρ1)
def eIfF (c : TF) (f g : EF) : EF := fun ρ => ob (c ρ) fun b ρ1 => if b = true then f ρ1 else g ρ1
section
variable {X : Cx} {pos : Pos} {a b c : Expr} {rest : List Expr} {fa fb : EF} {ta tb tc : TF} {K : PySem.W.Frag}
theorem okW_and1 (ha : OkT X a ta) : OkW X (.BoolOp .And [a] pos) ta := pw_and1 ha
theorem okW_or1 (ha : OkT X a ta) : OkW X (.BoolOp .Or [a] pos) ta := pw_or1 ha
theorem okW_and (ha : OkT X a ta) (hb : OkW X (.BoolOp .And (b :: rest) pos) tb) : OkW X (.BoolOp .And (a :: b :: rest) pos) (tAndF ta tb) :=
  pw_imp (pw_and ha hb) fun σ H Q ⟨t, S, ρ, b', ρ', R, e, k⟩ => by
    obtain ⟨c, ρ1, q, e⟩ := ob_some e
    refine ⟨t, S, ρ, c, ρ1, R, q, fun H1 S1 R1 s1 => ?_⟩
    cases c with
    | true => exact iteT ⟨t, S1, ρ1, b', ρ', R1, by simpa using e, fun H2 S2 R2 s2 => k H2 S2 R2 (s1.trans s2)⟩
    | false =>
      cases e
      exact iteF (k H1 S1 R1 s1)
theorem okW_or (ha : OkT X a ta) (hb : OkW X (.BoolOp .Or (b :: rest) pos) tb) : OkW X (.BoolOp .Or (a :: b :: rest) pos) (tOrF ta tb) :=
  pw_imp (pw_or ha hb) fun σ H Q ⟨t, S, ρ, b', ρ', R, e, k⟩ => by
    obtain ⟨c, ρ1, q, e⟩ := ob_some e
    refine ⟨t, S, ρ, c, ρ1, R, q, fun H1 S1 R1 s1 => ?_⟩
    cases c with
    | false => exact iteF ⟨t, S1, ρ1, b', ρ', R1, by simpa using e, fun H2 S2 R2 s2 => k H2 S2 R2 (s1.trans s2)⟩
    | true =>
      cases e
      exact iteT (k H1 S1 R1 s1)
theorem okT_w (h : OkW X a ta) : OkT X a ta := PW.pt h
theorem okT_not (ha : OkT X a ta) : OkT X (.UnaryOp .Not a pos) (tNotF ta) :=
  pt_imp (pt_not ha) fun σ H Q ⟨t, S, ρ, b', ρ', R, e, k⟩ => by
    obtain ⟨c, ρ1, q, e⟩ := ob_some e
    cases e
    exact ⟨t, S, ρ, c, _, R, q, fun H1 S1 R1 s1 => k H1 S1 R1 s1⟩
theorem ok_one {op} (h : OkE X a fa) : OkE X (.BoolOp op [a] pos) fa := pe_one h
theorem ok_and (ha : OkE X a fa) (hb : OkE X (.BoolOp .And (b :: rest) pos) fb) : OkE X (.BoolOp .And (a :: b :: rest) pos) (eAndF fa fb) :=
  pe_imp (pe_and ha hb) fun σ H Q ⟨t, S, ρ, r, ρ', R, e, k⟩ => by
    obtain ⟨x, ρ1, q, e⟩ := ob_some e
    obtain ⟨c, q2, e⟩ := ol_some e
    cases toB_some q2
    refine ⟨t, S, ρ, _, _, R, q, fun v H1 S1 R1 s1 o => ⟨c, bl_of o, ?_⟩⟩
    cases c with
    | true => exact iteT ⟨t, S1, ρ1, r, ρ', R1, by simpa using e, fun v H2 S2 R2 s2 o2 => k v H2 S2 R2 (s1.trans s2) o2⟩
    | false =>
      cases e
      exact iteF (k _ H1 S1 R1 s1 (.bl false))
theorem ok_or (ha : OkE X a fa) (hb : OkE X (.BoolOp .Or (b :: rest) pos) fb) : OkE X (.BoolOp .Or (a :: b :: rest) pos) (eOrF fa fb) :=
  pe_imp (pe_or ha hb) fun σ H Q ⟨t, S, ρ, r, ρ', R, e, k⟩ => by
    obtain ⟨x, ρ1, q, e⟩ := ob_some e
    obtain ⟨c, q2, e⟩ := ol_some e
    cases toB_some q2
    refine ⟨t, S, ρ, _, _, R, q, fun v H1 S1 R1 s1 o => ⟨c, bl_of o, ?_⟩⟩
    cases c with
    | false => exact iteF ⟨t, S1, ρ1, r, ρ', R1, by simpa using e, fun v H2 S2 R2 s2 o2 => k v H2 S2 R2 (s1.trans s2) o2⟩
    | true =>
      cases e
      exact iteT (k _ H1 S1 R1 s1 (.bl true))
theorem ok_not (ha : OkE X a fa) : OkE X (.UnaryOp .Not a pos) (eNotF fa) :=
  pe_imp (pe_not ha) fun σ H Q ⟨t, S, ρ, r, ρ', R, e, k⟩ => by
    obtain ⟨x, ρ1, q, e⟩ := ob_some e
    obtain ⟨c, q2, e⟩ := ol_some e
    cases e
    cases toB_some q2
    exact ⟨t, S, ρ, _, _, R, q, fun v H1 S1 R1 s1 o => ⟨c, bl_of o, k _ H1 S1 R1 s1 (.bl _)⟩⟩
theorem ok_if (hc : OkT X c tc) (ha : OkE X a fa) (hb : OkE X b fb) : OkE X (.IfExp c a b pos) (eIfF tc fa fb) :=
  pe_imp (pe_ifExp hc ha hb) fun σ H Q ⟨t, S, ρ, r, ρ', R, e, k⟩ => by
    obtain ⟨b', ρ1, q, e⟩ := ob_some e
    refine ⟨t, S, ρ, b', ρ1, R, q, fun H1 S1 R1 s1 => ?_⟩
    cases b' with
    | true => exact iteT ⟨t, S1, ρ1, r, ρ', R1, by simpa using e, fun v H2 S2 R2 s2 o => k v H2 S2 R2 (s1.trans s2) o⟩
    | false => exact iteF ⟨t, S1, ρ1, r, ρ', R1, by simpa using e, fun v H2 S2 R2 s2 o => k v H2 S2 R2 (s1.trans s2) o⟩
end

/-! ### chains a < b < c -/
def eChain (op op' : PyData → PyData → Option Rv) (a b c : EF) : EF := fun ρ =>
  ob (a ρ) fun x ρ1 => ob (b ρ1) fun y ρ2 => ol (vw ρ2 (deg x)) fun d => ol (vw ρ2 y) fun e => ol (op d e) fun r => ol (toB r) fun k =>
    if k = true then ob (c ρ2) fun z ρ3 => ol (vw ρ3 (deg y)) fun e' => ol (vw ρ3 z) fun g => ol (op' e' g) fun r => some (r, ρ3) else some (.da (.bool false), ρ2)
section
variable {X : Cx} {pos : Pos} {a b c : Expr} {fa fb fc : EF} {K : PySem.W.Frag}
theorem rd_chain {r r' : R2} {f f' : PyData → PyData → Option Rv} (hf : OpOk K r f) (hf' : OpOk K r' f') : ∀ σ H Q, rdE K (eChain f f' fa fb fc) σ H Q → tChain r r' (rdE K fa) (rdE K fb) (rdE K fc) σ H Q := fun σ H Q ⟨t, S, ρ, res, ρ', R, e, k⟩ => by
  obtain ⟨x, ρ1, q1, e⟩ := ob_some e
  obtain ⟨y, ρ2, q2, e⟩ := ob_some e
  obtain ⟨d, q3, e⟩ := ol_some e
  obtain ⟨d', q4, e⟩ := ol_some e
  obtain ⟨r', q5, e⟩ := ol_some e
  obtain ⟨kb, q6, e⟩ := ol_some e
  cases toB_some q6
  refine ⟨t, S, ρ, x, ρ1, R, q1, fun v1 H1 S1 R1 s1 o1 => ?_⟩
  obtain ⟨S2, s2, R2, o2⟩ := R1.deg o1
  refine ⟨t, S2, ρ1, y, ρ2, R2, q2, fun v2 H3 S3 R3 s3 o3 => ?_⟩
  refine hf S3 H3 v1 v2 d d' _ R3.sh (R3.vw (o2.mono s3) q3) (R3.vwO o3 q4) q5 _ fun v H4 S4 N o => ?_
  have R4 := R3.new N
  refine ⟨kb, bl_of o, ?_⟩
  cases kb with
  | false =>
    cases e
    exact iteF (k _ H4 S4 R4 (((s1.trans s2).trans s3).trans N.ss) (.bl false))
  | true =>
    refine iteT ?_
    simp only [toB_b, ol_mk, if_true] at e
    obtain ⟨z, ρ3, q7, e⟩ := ob_some e
    obtain ⟨e', q8, e⟩ := ol_some e
    obtain ⟨g, q9, e⟩ := ol_some e
    obtain ⟨r2, q10, e⟩ := ol_some e
    cases e
    have o3' : RvOk K t S4 H4 σ ρ2 v2 y := by
      cases y with
      | da w => exact Da.mono N.ss o3
      | bo i => exact o3
      | fr ds =>
        obtain ⟨a, vs, e1, e2, e3, e4, e5, e6, e7⟩ := o3
        exact ⟨a, vs, e1, N.hh _ _ e2, N.fr a (none_ne e2) e3, e4, e5, e6.mono N.ss, e7⟩
    obtain ⟨S5, s5, R5, o5⟩ := R4.deg o3'
    refine ⟨t, S5, ρ2, z, _, R5, q7, fun v5 H6 S6 R6 s6 o6 => ?_⟩
    refine hf' S6 H6 v2 v5 e' g _ R6.sh (R6.vw (o5.mono s6) q8) (R6.vwO o6 q9) q10 _ fun v7 H7 S7 N7 o7 => ?_
    exact k v7 H7 S7 (R6.new N7) ((((((s1.trans s2).trans s3).trans N.ss).trans s5).trans s6).trans N7.ss) (o7.rv R6 N7)
theorem ok_chain {op op' : CmpOp} {r r' : R2} {f f' : PyData → PyData → Option Rv} (ho : OpR X (compareOp op) r) (ho' : OpR X (compareOp op') r') (hf : OpOk X.K r f) (hf' : OpOk X.K r' f') (ha : OkE X a fa) (hb : OkE X b fb) (hc : OkE X c fc)
    (hm : lastMarks [op, op'] [b, c] = false := by with_unfolding_all rfl) : OkE X (.Compare a [op, op'] [b, c] pos) (eChain f f' fa fb fc) := pe_imp (pe_chain ho ho' ha hb hc hm) (rd_chain hf hf')
theorem okT_chain {op op' : CmpOp} {r r' : R2} {f f' : PyData → PyData → Option Rv} (ho : OpR X (compareOp op) r) (ho' : OpR X (compareOp op') r') (hf : OpOk X.K r f) (hf' : OpOk X.K r' f') (ha : OkE X a fa) (hb : OkE X b fb) (hc : OkE X c fc)
    (hm : lastMarks [op, op'] [b, c] = false := by with_unfolding_all rfl) : OkT X (.Compare a [op, op'] [b, c] pos) (tE (eChain f f' fa fb fc)) := pt_imp (pt_chain ho ho' ha hb hc hm) (rd_test (rd_chain hf hf'))
end

/-! ### arguments, displays -/
def aNil : AF := fun ρ => some ([], ρ)
def aCons (e : EF) (as : AF) : AF := fun ρ => ob (e ρ) fun x ρ1 => ob (as ρ1) fun xs ρ2 => some (deg x :: xs, ρ2)
def eTup (as : AF) : EF := fun ρ => ob (as ρ) fun rs ρ1 => ob (stos ρ1 rs) fun ds ρ2 => if ds.length ≤ 16777216 then some (.da (.tuple ds), ρ2) else none
def eLst (as : AF) : EF := fun ρ => ob (as ρ) fun rs ρ1 => ob (stos ρ1 rs) fun ds ρ2 => if ds.length ≤ 16777216 then some (.fr ds, ρ2) else none
theorem line_eq : sizeLine = 16777216 := sizeLine_eq
section
variable {X : Cx} {pos : Pos} {e : Expr} {es : List Expr} {f : EF} {g : AF}
theorem okA_nil : OkA X [] aNil := pa_imp pa_nil fun σ H Q ⟨t, S, ρ, r, ρ', R, e, k⟩ => by
  cases e
  exact k [] H S R (Same.refl _) trivial
theorem okA_cons (he : OkE X e f) (hr : OkA X es g) (hs : starEach (e :: es) X.env = (false, eval e X.env) :: starEach es X.env := by rfl) : OkA X (e :: es) (aCons f g) :=
  pa_imp (pa_cons he hr hs) fun σ H Q ⟨t, S, ρ, r, ρ', R, e, k⟩ => by
    obtain ⟨x, ρ1, q1, e⟩ := ob_some e
    obtain ⟨xs, ρ2, q2, e⟩ := ob_some e
    cases e
    refine ⟨t, S, ρ, x, ρ1, R, q1, fun v1 H1 S1 R1 s1 o1 => ?_⟩
    obtain ⟨S2, s2, R2, o2⟩ := R1.deg o1
    exact ⟨t, S2, ρ1, xs, _, R2, q2, fun vs H3 S3 R3 s3 o3 => k (v1 :: vs) H3 S3 R3 ((s1.trans s2).trans s3) ⟨o2.mono s3, o3⟩⟩
theorem ok_tup {x1} (h : OkA X es g) : OkE X (.Tuple es x1 pos) (eTup g) := pe_imp (pe_tup h) fun σ H Q ⟨t, S, ρ, r, ρ', R, e, k⟩ => by
  obtain ⟨rs, ρ1, q1, e⟩ := ob_some e
  obtain ⟨ds, ρ2, q2, e⟩ := ob_some e
  split at e
  · rename_i hl
    cases e
    refine ⟨t, S, ρ, rs, ρ1, R, q1, fun vs H1 S1 R1 s1 o1 => ?_⟩
    obtain ⟨S2, s2, R2, d2⟩ := R1.stos o1 q2
    refine ⟨by rw [line_eq, d2.length]; exact hl, fun p hp => ?_⟩
    have N := New.put (o := .tup vs) R2.sh hp
    exact k _ _ _ (R2.new N) ((s1.trans s2).trans N.ss) (.tup upd_same (d2.mono N.ss))
  · cases e
theorem ok_lst (h : OkA X es g) : OkE X (.List es pos) (eLst g) := pe_imp (pe_lst h) fun σ H Q ⟨t, S, ρ, r, ρ', R, e, k⟩ => by
  obtain ⟨rs, ρ1, q1, e⟩ := ob_some e
  obtain ⟨ds, ρ2, q2, e⟩ := ob_some e
  split at e
  · rename_i hl
    cases e
    refine ⟨t, S, ρ, rs, ρ1, R, q1, fun vs H1 S1 R1 s1 o1 => ?_⟩
    obtain ⟨S2, s2, R2, d2⟩ := R1.stos o1 q2
    refine ⟨by rw [line_eq, d2.length]; exact hl, fun p hp => ?_⟩
    have N := New.lay (o := .lst vs) R2.sh hp
    have o : RO X.K H1 S2 (upd H1 p (.lst vs)) (.ref p) (.fr ds) := ⟨p, vs, rfl, hp, upd_same, R2.sh.free hp, d2⟩
    exact k _ _ _ (R2.new N) (s1.trans s2) (RO.rv R2 N o)
  · cases e
end

/-! ### calls of built-ins on values -/
def CallOk (K : PySem.W.Frag) (r : List V → Hp → VK → Prop) (f : List PyData → Option Rv) : Prop :=
  ∀ (S H : Hp) (vs : List V) (ds : List PyData) (res : Rv), Same S H → VwAll K S H vs ds → f ds = some res → ∀ Q : VK, (∀ v H' S', New S H S' H' → RO K H S' H' v res → Q v H') → r vs H Q
def eCb (f : List PyData → Option Rv) (as : AF) : EF := fun ρ => ob (as ρ) fun rs ρ1 => ol (vws ρ1 rs) fun ds => ol (f ds) fun r => some (r, ρ1)
section
variable {X : Cx} {pos p : Pos} {e : Expr} {es : List Expr} {g : AF} {K : PySem.W.Frag}
theorem rd_cb {r : List V → Hp → VK → Prop} {f : List PyData → Option Rv} (hf : CallOk K r f) : ∀ σ H Q, rdE K (eCb f g) σ H Q → tCB r (rdA K g) σ H Q := fun σ H Q ⟨t, S, ρ, res, ρ', R, e, k⟩ => by
  obtain ⟨rs, ρ1, q1, e⟩ := ob_some e
  obtain ⟨ds, q2, e⟩ := ol_some e
  obtain ⟨r', q3, e⟩ := ol_some e
  cases e
  refine ⟨t, S, ρ, rs, _, R, q1, fun vs H1 S1 R1 s1 o1 => ?_⟩
  exact hf S1 H1 vs ds _ R1.sh (R1.vws o1 q2) q3 _ fun v H2 S2 N o => k v H2 S2 (R1.new N) (s1.trans N.ss) (o.rv R1 N)
theorem ok_callB {id : String} {r : List V → Hp → VK → Prop} {f : List PyData → Option Rv} {x : Str} (hc : CallR X (.builtin id) r) (hf : CallOk X.K r f) (hg : Gl X x) (hm : X.mg x = none) (hv : bootBuiltins x = some (.builtin id)) (ha : OkA X (e :: es) g)
    (hn : x ≠ "__name__" := by decide) (hdb : (x == ("__debug__" : Str)) = false := by decide)
    (he : starEach (e :: es) X.env = (false, eval e X.env) :: starEach es X.env := by rfl) (hpl : (backTo pos (starEach es X.env)).any (·.1) = false := by rfl) : OkE X (.Call (.Name x p) (e :: es) [] pos) (eCb f g) := pe_imp (pe_callB hc hg hm hv ha hn hdb he hpl) (rd_cb hf)
theorem ok_callTy {T : String} {r : List V → Hp → VK → Prop} {f : List PyData → Option Rv} {x : Str} (hc : CallR X (.type T) r) (hf : CallOk X.K r f) (hg : Gl X x) (hm : X.mg x = none) (hv : bootBuiltins x = some (.type T)) (ha : OkA X (e :: es) g)
    (hn : x ≠ "__name__" := by decide) (hdb : (x == ("__debug__" : Str)) = false := by decide)
    (he : starEach (e :: es) X.env = (false, eval e X.env) :: starEach es X.env := by rfl) (hpl : (backTo pos (starEach es X.env)).any (·.1) = false := by rfl) : OkE X (.Call (.Name x p) (e :: es) [] pos) (eCb f g) := pe_imp (pe_callTy hc hg hm hv ha hn hdb he hpl) (rd_cb hf)
end
end DL
/-! The data layer 3: operators on data. -/
namespace DL
open PySem L2

/-! ### + - * // % ** -/
def addD : PyData → PyData → Option Rv
  | .int i, .int j => some (.da (.int (i + j)))
  | .str a, .str b => if a.length + b.length ≤ 16777216 then some (.da (.str (a ++ b))) else none
  | .tuple a, .tuple b => if a.length + b.length ≤ 16777216 then some (.da (.tuple (a ++ b))) else none
  | .list a, .list b => if a.length + b.length ≤ 16777216 then some (.fr (a ++ b)) else none
  | _, _ => none
abbrev rAddS : R2 := fun x y H Q => ∃ i j, x = .str i ∧ y = .str j ∧ i.length + j.length ≤ sizeLine ∧ Q (.str (i ++ j)) H
abbrev rAddU (K : PySem.W.Frag) : R2 := fun x y H Q => rI0 (fun i j => .int (i + j)) x y H Q ∨ (rAddS x y H Q ∨ (rCatA K x y H Q ∨ rCat x y H Q))
def CMulB (i j : Int) : Bool := (decide (-(2 ^ 64) < i) && decide (i < 2 ^ 64)) || (decide (-(2 ^ 64) < j) && decide (j < 2 ^ 64))
theorem CMulB.ok {i j : Int} (h : CMulB i j = true) : CMul i j := by
  unfold CMulB at h
  simp only [Bool.or_eq_true, Bool.and_eq_true, decide_eq_true_eq] at h
  exact h
def subD : PyData → PyData → Option Rv
  | .int i, .int j => some (.da (.int (i - j)))
  | _, _ => none
def mulD : PyData → PyData → Option Rv
  | .int i, .int j => if CMulB i j = true then some (.da (.int (i * j))) else none
  | _, _ => none
def fdivD : PyData → PyData → Option Rv
  | .int i, .int j => if 0 < j ∧ j < 1073741824 then some (.da (.int (i / j))) else none
  | _, _ => none
def modD : PyData → PyData → Option Rv
  | .int i, .int j => if 0 < j then some (.da (.int (i % j))) else none
  | _, _ => none
def powD : PyData → PyData → Option Rv
  | .int i, .int j => if 0 ≤ j ∧ j ≤ 1000000 ∧ i.natAbs < 18446744073709551616 then some (.da (.int (i ^ j.toNat))) else none
  | _, _ => none
section
variable {K : PySem.W.Frag} {X : Cx}
theorem two_int {S H : Hp} {x y : V} {i j : Int} {g : Int → Int → V} {D : PyData} (ss : Same S H) (hx : Vw K S H x (.int i)) (hy : Vw K S H y (.int j)) (hg : ∀ S, Da K S (g i j) D) {Q : VK} (k : ∀ v H' S', New S H S' H' → RO K H S' H' v (.da D) → Q v H') : rI0 g x y H Q :=
  ⟨i, j, hx.int, hy.int, k _ H S (New.refl ss) (hg S)⟩
theorem opAdd : OpR X (binaryOp .Add) (rAddU X.K) := op_add.or (op_add_str.or (op_catA.or op_cat))
theorem okAdd : OpOk K (rAddU K) addD := fun S H x y d e res ss hx hy hf Q k => by
  unfold addD at hf
  split at hf
  · cases hf
    exact .inl (two_int ss hx hy (fun _ => .int _) k)
  · split at hf
    · rename_i h
      cases hf
      exact .inr (.inl ⟨_, _, hx.str, hy.str, by rw [line_eq]; exact h, k _ H S (New.refl ss) (.str _)⟩)
    · cases hf
  · split at hf
    · rename_i h
      cases hf
      obtain ⟨a, vs, rfl, ha, da⟩ := hx.tup
      obtain ⟨b, us, rfl, hb, db⟩ := hy.tup
      refine .inr (.inr (.inl ⟨a, b, vs, us, rfl, rfl, SqT.of (ss _ _ ha), SqT.of (ss _ _ hb), by rw [line_eq, da.length, db.length]; exact h, fun e => ?_, fun _ e => ?_, fun _ _ p hp => ?_⟩))
      · subst e
        cases da
        exact k _ H S (New.refl ss) (.tup hb db)
      · subst e
        cases db
        rw [List.append_nil] at k
        exact k _ H S (New.refl ss) (.tup ha da)
      · have N := New.put (o := .tup (vs ++ us)) ss hp
        exact k _ _ _ N (.tup upd_same ((da.append db).mono N.ss))
    · cases hf
  · split at hf
    · rename_i h
      cases hf
      obtain ⟨a, vs, rfl, ha, da⟩ := hx.lst ss
      obtain ⟨b, us, rfl, hb, db⟩ := hy.lst ss
      refine .inr (.inr (.inr ⟨a, b, vs, us, rfl, rfl, ha, hb, by rw [line_eq, da.length, db.length]; exact h, fun p hp => ?_⟩))
      exact k _ _ _ (New.lay ss hp) ⟨p, _, rfl, hp, upd_same, ss.free hp, da.append db⟩
    · cases hf
  · cases hf
theorem okSub : OpOk K (rI0 fun i j => .int (i - j)) subD := fun S H x y d e res ss hx hy hf Q k => by
  unfold subD at hf
  split at hf
  · cases hf
    exact two_int ss hx hy (fun _ => .int _) k
  · cases hf
theorem okMul : OpOk K (rI CMul fun i j => .int (i * j)) mulD := fun S H x y d e res ss hx hy hf Q k => by
  unfold mulD at hf
  split at hf
  · split at hf
    · rename_i h
      cases hf
      exact ⟨_, _, hx.int, hy.int, CMulB.ok h, k _ H S (New.refl ss) (.int _)⟩
    · cases hf
  · cases hf
theorem okFdiv : OpOk K (rI CDiv fun i j => .int (i / j)) fdivD := fun S H x y d e res ss hx hy hf Q k => by
  unfold fdivD at hf
  split at hf
  · split at hf
    · rename_i h
      cases hf
      exact ⟨_, _, hx.int, hy.int, h, k _ H S (New.refl ss) (.int _)⟩
    · cases hf
  · cases hf
theorem okMod : OpOk K (rI (fun _ j => 0 < j) fun i j => .int (i % j)) modD := fun S H x y d e res ss hx hy hf Q k => by
  unfold modD at hf
  split at hf
  · split at hf
    · rename_i h
      cases hf
      exact ⟨_, _, hx.int, hy.int, h, k _ H S (New.refl ss) (.int _)⟩
    · cases hf
  · cases hf
theorem okPow : OpOk K (rI CPow fun i j => .int (i ^ j.toNat)) powD := fun S H x y d e res ss hx hy hf Q k => by
  unfold powD at hf
  split at hf
  · split at hf
    · rename_i h
      cases hf
      exact ⟨_, _, hx.int, hy.int, ⟨h.1, h.2.1, by have := h.2.2; omega⟩, k _ H S (New.refl ss) (.int _)⟩
    · cases hf
  · cases hf
end

/-! ### comparisons -/
def ltD : PyData → PyData → Option Rv
  | .int i, .int j => some (.da (.bool (decide (i < j))))
  | _, _ => none
def leD : PyData → PyData → Option Rv
  | .int i, .int j => some (.da (.bool (decide (i ≤ j))))
  | _, _ => none
def gtD : PyData → PyData → Option Rv
  | .int i, .int j => some (.da (.bool (decide (j < i))))
  | _, _ => none
def geD : PyData → PyData → Option Rv
  | .int i, .int j => some (.da (.bool (decide (j ≤ i))))
  | _, _ => none
def eqD (d e : PyData) : Option Rv := if (SeqAt.shaped d && SeqAt.shaped e) = true then some (.da (.bool (PyData.eqv d e))) else none
def neD (d e : PyData) : Option Rv := if (SeqAt.shaped d && SeqAt.shaped e) = true then some (.da (.bool (!PyData.eqv d e))) else none
def isNone : PyData → Bool
  | .none => true
  | _ => false
def isD (d e : PyData) : Option Rv := match e with
  | .none => some (.da (.bool (isNone d)))
  | .bool b => match d with
    | .bool a => some (.da (.bool (decide (a = b))))
    | _ => none
  | _ => none
def isnD (d e : PyData) : Option Rv := match e with
  | .none => some (.da (.bool (!isNone d)))
  | .bool b => match d with
    | .bool a => some (.da (.bool (!decide (a = b))))
    | _ => none
  | _ => none
abbrev rIsU : R2 := fun x y H Q => (y = .non ∧ Q (.bl (decide (x = .non))) H) ∨ rIsB x y H Q
abbrev rIsnU : R2 := fun x y H Q => (y = .non ∧ Q (.bl (!decide (x = .non))) H) ∨ rNotB x y H Q
section
variable {K : PySem.W.Frag} {X : Cx}
theorem okLt : OpOk K (rI0 fun i j => .bl (decide (i < j))) ltD := fun S H x y d e res ss hx hy hf Q k => by
  unfold ltD at hf
  split at hf
  · cases hf
    exact two_int ss hx hy (fun _ => .bl _) k
  · cases hf
theorem okLe : OpOk K (rI0 fun i j => .bl (decide (i ≤ j))) leD := fun S H x y d e res ss hx hy hf Q k => by
  unfold leD at hf
  split at hf
  · cases hf
    exact two_int ss hx hy (fun _ => .bl _) k
  · cases hf
theorem okGt : OpOk K (rI0 fun i j => .bl (decide (j < i))) gtD := fun S H x y d e res ss hx hy hf Q k => by
  unfold gtD at hf
  split at hf
  · cases hf
    exact two_int ss hx hy (fun _ => .bl _) k
  · cases hf
theorem okGe : OpOk K (rI0 fun i j => .bl (decide (j ≤ i))) geD := fun S H x y d e res ss hx hy hf Q k => by
  unfold geD at hf
  split at hf
  · cases hf
    exact two_int ss hx hy (fun _ => .bl _) k
  · cases hf
theorem Vw.dp {S H : Hp} {v : V} {d : PyData} (h : Vw K S H v d) (e : Same S H) (s : SeqAt.shaped d = true) : Dp K H v d := Da.dp (Same.refl _) (h.da e) s
theorem okEq : OpOk K (rEqD K) eqD := fun S H x y d e res ss hx hy hf Q k => by
  unfold eqD at hf
  split at hf
  · rename_i h
    rw [Bool.and_eq_true] at h
    cases hf
    exact ⟨d, e, hx.dp ss h.1, hy.dp ss h.2, h.1, h.2, k _ H S (New.refl ss) (.bl _)⟩
  · cases hf
theorem okNe : OpOk K (rNeD K) neD := fun S H x y d e res ss hx hy hf Q k => by
  unfold neD at hf
  split at hf
  · rename_i h
    rw [Bool.and_eq_true] at h
    cases hf
    exact ⟨d, e, hx.dp ss h.1, hy.dp ss h.2, h.1, h.2, k _ H S (New.refl ss) (.bl _)⟩
  · cases hf
theorem Vw.isNon {S H : Hp} {v : V} {d : PyData} (h : Vw K S H v d) : decide (v = .non) = isNone d := by
  rcases h with h | ⟨a, vs, ds, rfl, rfl, _⟩
  · cases h <;> rfl
  · rfl
theorem opIs : OpR X (compareOp .Is) rIsU := op_isN.or op_isBl
theorem opIsn : OpR X (compareOp .IsNot) rIsnU := op_notN.or op_notBl
theorem okIs : OpOk K rIsU isD := fun S H x y d e res ss hx hy hf Q k => by
  unfold isD at hf
  split at hf
  · cases hf
    exact .inl ⟨hy.non, by rw [hx.isNon]; exact k _ H S (New.refl ss) (.bl _)⟩
  · split at hf
    · cases hf
      exact .inr ⟨_, _, hx.bl, hy.bl, k _ H S (New.refl ss) (.bl _)⟩
    · cases hf
  · cases hf
theorem okIsn : OpOk K rIsnU isnD := fun S H x y d e res ss hx hy hf Q k => by
  unfold isnD at hf
  split at hf
  · cases hf
    exact .inl ⟨hy.non, by rw [hx.isNon]; exact k _ H S (New.refl ss) (.bl _)⟩
  · split at hf
    · cases hf
      exact .inr ⟨_, _, hx.bl, hy.bl, k _ H S (New.refl ss) (.bl _)⟩
    · cases hf
  · cases hf
end

/-! ### in, not in -/
def flatD : PyData → Bool
  | .none => true
  | .bool _ => true
  | .int _ => true
  | .str _ => true
  | _ => false
def one? (x : Str) : Option Nat := match x.cps.toList with
  | [c] => some c
  | _ => none
def inB (d : PyData) (es : List PyData) : Bool := es.any fun z => PyData.eqv z d
def inD (d e : PyData) : Option Bool := match e with
  | .str s => match d with
    | .str x => ol (one? x) fun c => some (decide (c ∈ s.cps.toList))
    | _ => none
  | .list es => if (SeqAt.shaped d && SeqAt.shaped (.list es)) = true then some (inB d es) else none
  | .tuple es => if (flatD d && es.all flatD) = true then some (inB d es) else none
  | _ => none
def inR (d e : PyData) : Option Rv := ol (inD d e) fun b => some (.da (.bool b))
def ninR (d e : PyData) : Option Rv := ol (inD d e) fun b => some (.da (.bool (!b)))
abbrev rInU (K : PySem.W.Frag) (neg : Bool) : R2 := fun x y H Q => (∃ (c : Nat) (z : Str), x = .str ⟨#[c]⟩ ∧ y = .str z ∧ Q (.bl (if neg then !decide (c ∈ z.cps.toList) else decide (c ∈ z.cps.toList))) H) ∨
  ((∃ d ds, Dp K H x d ∧ Dp K H y (.list ds) ∧ SeqAt.shaped d = true ∧ SeqAt.shaped (.list ds) = true ∧ Q (.bl (if neg then !ds.any fun z => PyData.eqv z d else ds.any fun z => PyData.eqv z d)) H) ∨ rIn K neg x y H Q)
theorem one_some {x : Str} {c : Nat} (h : one? x = some c) : x = ⟨#[c]⟩ := by
  obtain ⟨a⟩ := x
  obtain ⟨l⟩ := a
  unfold one? at h
  split at h
  · rename_i c' e
    cases h
    have e' : l = [c] := e
    subst e'
    rfl
  · cases h
section
variable {K : PySem.W.Frag} {X : Cx}
theorem opIn (hu : X.A.units + 65 < cLine) : OpR X (compareOp .In) (rInU X.K false) := op_in_sign.or ((op_inD hu).or op_in_seq)
theorem opNotIn (hu : X.A.units + 65 < cLine) : OpR X (compareOp .NotIn) (rInU X.K true) := op_notIn_sign.or ((op_notInD hu).or op_notIn_seq)
theorem Vw.flat {S H : Hp} {v : V} {d : PyData} (h : Vw K S H v d) (f : flatD d = true) : flatV v = true := by
  rcases h with h | ⟨a, vs, ds, rfl, rfl, _⟩
  · cases h <;> first | rfl | cases f
  · cases f
theorem Da.flat {S : Hp} {v : V} {d : PyData} (h : Da K S v d) (f : flatD d = true) : flatV v = true := (Vw.of (H := S) h).flat f
theorem DaAll.flat {S : Hp} : ∀ {vs : List V} {ds : List PyData}, DaAll K S vs ds → ds.all flatD = true → vs.all flatV = true
  | _, _, .nil, _ => rfl
  | _, _, .cons h r, e => by
    rw [List.all_cons, Bool.and_eq_true] at e ⊢
    exact ⟨h.flat e.1, DaAll.flat r e.2⟩
theorem eqV_eqv {S : Hp} {v w : V} {d e : PyData} (h1 : Da K S v d) (h2 : Da K S w e) (f1 : flatD d = true) (f2 : flatD e = true) : eqV v w = PyData.eqv d e := by
  cases h1 with
  | lst _ _ => cases f1
  | tup _ _ => cases f1
  | scr _ => cases f1
  | dct _ => cases f1
  | adr _ => cases f1
  | exn _ => cases f1
  | non => cases h2 with
    | lst _ _ => cases f2
    | tup _ _ => cases f2
    | scr _ => cases f2
    | dct _ => cases f2
    | adr _ => cases f2
    | exn _ => cases f2
    | _ => simp [eqV, PyData.eqv]
  | bl a => cases h2 with
    | lst _ _ => cases f2
    | tup _ _ => cases f2
    | scr _ => cases f2
    | dct _ => cases f2
    | adr _ => cases f2
    | exn _ => cases f2
    | _ => simp [eqV, PyData.eqv]
  | int a => cases h2 with
    | lst _ _ => cases f2
    | tup _ _ => cases f2
    | scr _ => cases f2
    | dct _ => cases f2
    | adr _ => cases f2
    | exn _ => cases f2
    | _ => simp [eqV, PyData.eqv]
  | str a => cases h2 with
    | lst _ _ => cases f2
    | tup _ _ => cases f2
    | scr _ => cases f2
    | dct _ => cases f2
    | adr _ => cases f2
    | exn _ => cases f2
    | _ => simp [eqV, PyData.eqv]
theorem inV_inB {S : Hp} {v : V} {d : PyData} (h1 : Da K S v d) (f1 : flatD d = true) : ∀ {vs : List V} {ds : List PyData}, DaAll K S vs ds → ds.all flatD = true → inV v vs = inB d ds
  | _, _, .nil, _ => rfl
  | _, _, .cons h r, e => by
    rw [List.all_cons, Bool.and_eq_true] at e
    have := inV_inB h1 f1 r e.2
    unfold inV inB at this ⊢
    rw [List.any_cons, List.any_cons, this, eqV_eqv h h1 e.1 f1]
theorem inU_ok {neg : Bool} {S H : Hp} {x y : V} {d e : PyData} {b : Bool} (ss : Same S H) (hx : Vw K S H x d) (hy : Vw K S H y e) (hf : inD d e = some b) {Q : VK} (k : Q (.bl (if neg then !b else b)) H) : rInU K neg x y H Q := by
  unfold inD at hf
  split at hf
  · split at hf
    · obtain ⟨c, q, hf⟩ := ol_some hf
      cases hf
      cases one_some q
      exact .inl ⟨c, _, hx.str, hy.str, k⟩
    · cases hf
  · split at hf
    · rename_i h
      rw [Bool.and_eq_true] at h
      cases hf
      exact .inr (.inl ⟨d, _, hx.dp ss h.1, hy.dp ss h.2, h.1, h.2, k⟩)
    · cases hf
  · split at hf
    · rename_i h
      rw [Bool.and_eq_true] at h
      cases hf
      obtain ⟨a, vs, rfl, ha, da⟩ := hy.tup
      refine .inr (.inr ⟨a, vs, rfl, .inr (SqT.of (ss _ _ ha)), hx.flat h.1, da.flat h.2, ?_⟩)
      rw [inV_inB (hx.da ss) h.1 (da.mono ss) h.2]
      exact k
    · cases hf
  · cases hf
theorem okIn : OpOk K (rInU K false) inR := fun S H x y d e res ss hx hy hf Q k => by
  obtain ⟨b, q, hf⟩ := ol_some hf
  cases hf
  exact inU_ok ss hx hy q (k _ H S (New.refl ss) (.bl _))
theorem okNotIn : OpOk K (rInU K true) ninR := fun S H x y d e res ss hx hy hf Q k => by
  obtain ⟨b, q, hf⟩ := ol_some hf
  cases hf
  exact inU_ok ss hx hy q (k _ H S (New.refl ss) (.bl _))
end

/-! ### items, slices -/
def ixD : PyData → PyData → Option PyData
  | .list xs, .int i => atI xs i
  | .tuple xs, .int i => atI xs i
  | .dict [(.none, .list xs)], .int i => atI xs i
  | .str z, .int i => if z.length ≤ 16777216 then ol (atI z.cps.toList i) fun c => some (.str ⟨#[c]⟩) else none
  | _, _ => none
def ixR (d e : PyData) : Option Rv := ol (ixD d e) fun z => some (.da z)
section
variable {K : PySem.W.Frag} {X : Cx}
theorem DaAll.atI {S : Hp} {vs : List V} {ds : List PyData} {i : Int} {d : PyData} (h : DaAll K S vs ds) (e : L2.atI ds i = some d) : ∃ v, L2.atI vs i = some v ∧ Da K S v d := by
  unfold L2.atI at e ⊢
  rw [h.length]
  cases q : ixN ds.length i with
  | none => rw [q] at e; cases e
  | some j =>
    rw [q] at e
    exact h.at e
theorem Vw.scr {S H : Hp} {v : V} {xs : List PyData} (h : Vw K S H v (.dict [(.none, .list xs)])) : ∃ (a : Addr) (ns : List Int), v = .ref a ∧ xs = ns.map .int ∧ SqL K S a (ns.map V.int) := by
  rcases h with h | ⟨a, vs, es, _, h, _⟩
  · generalize hd : PyData.dict [(.none, .list xs)] = d at h
    cases h with
    | scr h =>
      unfold DL.scr at hd
      cases hd
      exact ⟨_, _, rfl, rfl, h⟩
    | dct h =>
      unfold DL.dctD at hd
      cases hd
    | _ => cases hd
  · cases h
theorem okIx : OpOk K (rIx K) ixR := fun S H x y d e res ss hx hy hf Q k => by
  obtain ⟨z, q, hf⟩ := ol_some hf
  cases hf
  unfold ixD at q
  split at q
  · obtain ⟨a, vs, rfl, ha, da⟩ := hx.lst ss
    obtain ⟨v, e1, dv⟩ := da.atI q
    exact .inl ⟨a, vs, _, v, rfl, hy.int, SqL.of ha, e1, k _ H S (New.refl ss) dv⟩
  · obtain ⟨a, vs, rfl, ha, da⟩ := hx.tup
    obtain ⟨v, e1, dv⟩ := da.atI q
    exact .inr (.inl ⟨a, vs, _, v, rfl, hy.int, SqT.of (ss _ _ ha), e1, k _ H S (New.refl ss) dv⟩)
  · obtain ⟨a, ns, rfl, rfl, hs⟩ := hx.scr
    obtain ⟨v, e1, dv⟩ := (DaAll.ofInts (K := K) (S := S) (ns := ns)).atI q
    exact .inl ⟨a, _, _, v, rfl, hy.int, ss.seq hs, e1, k _ H S (New.refl ss) dv⟩
  · split at q
    · rename_i h
      obtain ⟨c, e1, q⟩ := ol_some q
      cases q
      exact .inr (.inr ⟨_, _, c, hx.str, hy.int, by rw [line_eq]; exact h, e1, k _ H S (New.refl ss) (.str _)⟩)
    · cases q
  · cases q
theorem ok_ix {a b : Expr} {pos : Pos} {fa fb : EF} (ha : OkE X a fa) (hb : OkE X b fb) (hs : PlainIx b := by intro _ _; rfl) : OkE X (.Subscript a b pos) (eBin ixR fa fb) := pe_imp (pe_ix ix_seq ha hb hs) (rd_bin okIx)
end
def oNo : OF := fun ρ => some (none, ρ)
def intR : Rv → Option Int
  | .da (.int i) => some i
  | _ => none
theorem intR_some {r : Rv} {c : Int} (h : intR r = some c) : r = .da (.int c) := by
  unfold intR at h
  split at h
  · cases h; rfl
  · cases h
@[simp] theorem intR_i (c : Int) : intR (.da (.int c)) = some c := rfl
def oE (f : EF) : OF := fun ρ => ob (f ρ) fun r ρ1 => ol (intR r) fun i => some (some i, ρ1)
def cutD {α : Type} (xs : List α) (lo hi : Option Int) : List α := (xs.drop (HT.sIx xs.length 0 lo)).take (HT.sIx xs.length xs.length hi - HT.sIx xs.length 0 lo)
def slD (d : PyData) (lo hi : Option Int) : Option Rv := match d with
  | .list xs => some (.fr (cutD xs lo hi))
  | .tuple xs => some (.da (.tuple (cutD xs lo hi)))
  | _ => none
def eSlice (a : EF) (lo hi : OF) : EF := fun ρ => ob (a ρ) fun x ρ1 => ob (lo ρ1) fun l ρ2 => ob (hi ρ2) fun h ρ3 => ol (vw ρ3 (deg x)) fun d => ol (slD d l h) fun r => some (r, ρ3)
section
variable {K : PySem.W.Frag} {X : Cx} {e : Expr} {lo hi : Option Expr} {pos p2 : Pos} {f : EF} {fl fh : OF}
theorem okO_no : OkO X none oNo := po_imp po_none fun σ H Q ⟨t, S, ρ, r, ρ', R, e, k⟩ => by
  cases e
  exact k H S R (Same.refl _)
theorem okO_e (h : OkE X e f) : OkO X (some e) (oE f) := po_imp (po_some h) fun σ H Q ⟨t, S, ρ, r, ρ', R, e, k⟩ => by
  obtain ⟨x, ρ1, q1, e⟩ := ob_some e
  obtain ⟨i, q2, e⟩ := ol_some e
  cases e
  cases intR_some q2
  exact ⟨t, S, ρ, _, _, R, q1, fun v H1 S1 R1 s1 o1 => ⟨i, int_of o1, k H1 S1 R1 s1⟩⟩
theorem DaAll.cut {S : Hp} {vs : List V} {ds : List PyData} (h : DaAll K S vs ds) (lo hi : Option Int) : DaAll K S (cutV vs lo hi) (cutD ds lo hi) := by
  unfold cutV cutD
  rw [h.length]
  exact (h.drop _).take _
abbrev rSlU (K : PySem.W.Frag) : V → Option Int → Option Int → Hp → VK → Prop := fun x lo hi H Q => rSlA K x lo hi H Q ∨ rSlL K x lo hi H Q
theorem ok_sl (he : OkE X e f) (hl : OkO X lo fl) (hh : OkO X hi fh) : OkE X (.Subscript e (.Slice lo hi none p2) pos) (eSlice f fl fh) :=
  pe_imp (pe_slice (r := rSlU X.K) (sl_tupA.or sl_list) he hl hh) fun σ H Q ⟨t, S, ρ, r, ρ', R, e, k⟩ => by
    obtain ⟨x, ρ1, q1, e⟩ := ob_some e
    obtain ⟨l, ρ2, q2, e⟩ := ob_some e
    obtain ⟨h, ρ3, q3, e⟩ := ob_some e
    obtain ⟨d, q4, e⟩ := ol_some e
    obtain ⟨r', q5, e⟩ := ol_some e
    cases e
    refine ⟨t, S, ρ, x, ρ1, R, q1, fun v1 H1 S1 R1 s1 o1 => ?_⟩
    obtain ⟨S2, s2, R2, o2⟩ := R1.deg o1
    refine ⟨t, S2, ρ1, l, ρ2, R2, q2, fun H3 S3 R3 s3 => ⟨t, S3, ρ2, h, _, R3, q3, fun H4 S4 R4 s4 => ?_⟩⟩
    have hv := R4.vw ((o2.mono s3).mono s4) q4
    have ss := ((s1.trans s2).trans s3).trans s4
    have sh := R4.sh
    unfold slD at q5
    split at q5
    · cases q5
      obtain ⟨a, vs, rfl, ha, da⟩ := hv.lst sh
      refine .inr ⟨a, vs, rfl, SqL.of ha, fun p hp => ?_⟩
      have N := New.lay (o := .lst (cutV vs l h)) sh hp
      exact k _ _ _ (R4.new N) ss (RO.rv (H := H4) R4 N ⟨p, _, rfl, hp, upd_same, sh.free hp, da.cut l h⟩)
    · cases q5
      obtain ⟨a, vs, rfl, ha, da⟩ := hv.tup
      refine .inl ⟨a, vs, rfl, SqT.of (sh _ _ ha), fun w => ?_, fun _ p hp => ?_⟩
      · have N := New.refl sh
        refine k _ _ _ R4 ss (.tup ha ?_)
        have e : cutV vs l h = vs := by
          unfold cutV
          rw [w.1, w.2]
          simp
        have z := da.cut l h
        rw [e] at z
        exact z
      · have N := New.put (o := .tup (cutV vs l h)) sh hp
        exact k _ _ _ (R4.new N) (ss.trans N.ss) (.tup upd_same ((da.cut l h).mono N.ss))
    · cases q5
end
end DL
/-! The data layer 4: calls of built-ins, of methods, of own defs. -/
namespace DL
open PySem L2

/-! ### isinstance(x, T) -/
def tyName : PyData → String
  | .none => "NoneType"
  | .bool _ => "bool"
  | .int _ => "int"
  | .str _ => "str"
  | .list _ => "list"
  | .tuple _ => "tuple"
  | .dict _ => "dict"
def isiD (T : String) : PyData → Bool
  | .none => T == "NoneType"
  | .bool _ => T == "bool" || T == "int"
  | .int _ => T == "int"
  | .str _ => T == "str"
  | .list _ => T == "list"
  | .tuple _ => T == "tuple"
  | .dict _ => false
def noDict : PyData → Bool
  | .dict _ => false
  | _ => true
def eIsi (T : String) (f : EF) : EF := fun ρ => ob (f ρ) fun r ρ1 => ol (vw ρ1 r) fun d => if noDict d = true then some (.da (.bool (isiD T d)), ρ1) else none
section
variable {K : PySem.W.Frag} {X : Cx}
theorem da_ty {H : Hp} {v : V} {d : PyData} (h : Da K H v d) (n : noDict d = true) : TyX K H v (.type (tyName d)) := by
  cases h with
  | non => exact .base .non
  | bl b => exact .base (.bl b)
  | int b => exact .base (.int b)
  | str b => exact .base (.str b)
  | lst h1 h2 => exact .base (.lst h1)
  | tup h1 h2 => exact .base (.tup h1)
  | scr h => cases n
  | dct h => cases n
  | adr _ => cases n
  | exn _ => cases n
theorem ok_isi {T : String} {e : Expr} {x : Str} {p q pos : Pos} {f : EF} (hg : Gl X "isinstance") (hm : X.mg "isinstance" = none) (hgT : Gl X x) (hmT : X.mg x = none) (hvT : bootBuiltins x = some (.type T)) (he : OkE X e f)
    (hT : ∀ d, noDict d = true → kitB (tyName d) T = some (isiD T d))
    (hn : x ≠ "__name__" := by decide) (hdb : (x == ("__debug__" : Str)) = false := by decide)
    (hs : starEach [e, .Name x q] X.env = (false, eval e X.env) :: starEach [.Name x q] X.env := by rfl) (hs2 : starEach [.Name x q] X.env = (false, eval (.Name x q) X.env) :: starEach [] X.env := by rfl)
    (hpl : (backTo pos (starEach [.Name x q] X.env)).any (·.1) = false := by rfl) : OkE X (.Call (.Name "isinstance" p) [e, .Name x q] [] pos) (eIsi T f) :=
  pe_imp (pe_callB call_isi hg hm (by decide +kernel) (pa_cons he (pa_cons (pe_bltn (v := .ty T) hgT hmT hvT rfl hn hdb) pa_nil hs2) hs) (by decide) (by decide) hs hpl) fun σ H Q ⟨t, S, ρ, r, ρ', R, e, k⟩ => by
    obtain ⟨x, ρ1, q1, e⟩ := ob_some e
    obtain ⟨d, q2, e⟩ := ol_some e
    split at e
    · rename_i h
      cases e
      refine ⟨t, S, ρ, x, _, R, q1, fun v H1 S1 R1 s1 o1 => ?_⟩
      exact ⟨v, .ty T, _, _, _, rfl, .ty T, da_ty ((R1.vwO o1 q2).da R1.sh) h, kit_ty (hT d h), k _ H1 S1 R1 s1 (.bl _)⟩
    · cases e
theorem isi_of {T : String} (h : (["NoneType", "bool", "int", "str", "list", "tuple"].map fun a => kitB a T) = [some (T == "NoneType"), some (T == "bool" || T == "int"), some (T == "int"), some (T == "str"), some (T == "list"), some (T == "tuple")]) :
    ∀ d, noDict d = true → kitB (tyName d) T = some (isiD T d) := by
  simp only [List.map_cons, List.map_nil, List.cons.injEq, and_true] at h
  obtain ⟨h1, h2, h3, h4, h5, h6⟩ := h
  intro d n
  cases d <;> first | assumption | cases n
theorem isi_int : ∀ d, noDict d = true → kitB (tyName d) "int" = some (isiD "int" d) := isi_of (by decide +kernel)
theorem isi_bool : ∀ d, noDict d = true → kitB (tyName d) "bool" = some (isiD "bool" d) := isi_of (by decide +kernel)
theorem isi_str : ∀ d, noDict d = true → kitB (tyName d) "str" = some (isiD "str" d) := isi_of (by decide +kernel)
theorem isi_tuple : ∀ d, noDict d = true → kitB (tyName d) "tuple" = some (isiD "tuple" d) := isi_of (by decide +kernel)
theorem isi_list : ∀ d, noDict d = true → kitB (tyName d) "list" = some (isiD "list" d) := isi_of (by decide +kernel)
end

/-! ### len, min, max, sum, any, all, list, tuple, int -/
def lenD : List PyData → Option Rv
  | [.list xs] => some (.da (.int xs.length))
  | [.tuple xs] => some (.da (.int xs.length))
  | [.str z] => if z.length ≤ 16777216 then some (.da (.int z.length)) else none
  | [.dict [(.none, .list xs)]] => some (.da (.int xs.length))
  | _ => none
def intsD : List PyData → Option (List Int)
  | [] => some []
  | .int i :: r => ol (intsD r) fun is => some (i :: is)
  | _ :: _ => none
def blsD : List PyData → Option (List Bool)
  | [] => some []
  | .bool i :: r => ol (blsD r) fun is => some (i :: is)
  | _ :: _ => none
def strsD : List PyData → Option (List Str)
  | [] => some []
  | .str i :: r => ol (strsD r) fun is => some (i :: is)
  | _ :: _ => none
def maxI : List Int → Option Int
  | [] => none
  | n :: ns => some (ns.foldl max n)
def minI : List Int → Option Int
  | [] => none
  | n :: ns => some (ns.foldl min n)
def maxD : List PyData → Option Rv
  | [.int i, .int j] => some (.da (.int (if j > i then j else i)))
  | [.list xs] => ol (intsD xs) fun ns => ol (maxI ns) fun m => some (.da (.int m))
  | [.tuple xs] => ol (intsD xs) fun ns => ol (maxI ns) fun m => some (.da (.int m))
  | _ => none
def minD : List PyData → Option Rv
  | [.int i, .int j] => some (.da (.int (if j < i then j else i)))
  | [.list xs] => ol (intsD xs) fun ns => ol (minI ns) fun m => some (.da (.int m))
  | [.tuple xs] => ol (intsD xs) fun ns => ol (minI ns) fun m => some (.da (.int m))
  | _ => none
def sumD : List PyData → Option Rv
  | [.list xs] => ol (intsD xs) fun ns => some (.da (.int ns.sum))
  | [.tuple xs] => ol (intsD xs) fun ns => some (.da (.int ns.sum))
  | _ => none
def allD : List PyData → Option Rv
  | [.list xs] => ol (blsD xs) fun bs => some (.da (.bool (bs.all id)))
  | _ => none
def anyD : List PyData → Option Rv
  | [.list xs] => ol (blsD xs) fun bs => some (.da (.bool (bs.any id)))
  | _ => none
def listD : List PyData → Option Rv
  | [.list xs] => some (.fr xs)
  | [.tuple xs] => some (.fr xs)
  | _ => none
def tupleD : List PyData → Option Rv
  | [.list xs] => some (.da (.tuple xs))
  | [.tuple xs] => some (.da (.tuple xs))
  | _ => none
def intD : List PyData → Option Rv
  | [.int i] => some (.da (.int i))
  | [.bool b] => some (.da (.int (if b then 1 else 0)))
  | _ => none
theorem intsD_some : ∀ {xs : List PyData} {ns : List Int}, intsD xs = some ns → xs = ns.map .int
  | [], _, h => by cases h; rfl
  | x :: xs, ns, h => by
    cases x <;> try cases h
    obtain ⟨is, q, h⟩ := ol_some h
    cases h
    rw [intsD_some q, List.map_cons]
theorem blsD_some : ∀ {xs : List PyData} {ns : List Bool}, blsD xs = some ns → xs = ns.map .bool
  | [], _, h => by cases h; rfl
  | x :: xs, ns, h => by
    cases x <;> try cases h
    obtain ⟨is, q, h⟩ := ol_some h
    cases h
    rw [blsD_some q, List.map_cons]
theorem strsD_some : ∀ {xs : List PyData} {ns : List Str}, strsD xs = some ns → xs = ns.map .str
  | [], _, h => by cases h; rfl
  | x :: xs, ns, h => by
    cases x <;> try cases h
    obtain ⟨is, q, h⟩ := ol_some h
    cases h
    rw [strsD_some q, List.map_cons]
@[simp] theorem intsD_map : ∀ ns : List Int, intsD (ns.map .int) = some ns
  | [] => rfl
  | n :: ns => by rw [List.map_cons]; show ol (intsD (ns.map .int)) _ = _; rw [intsD_map ns]; rfl
@[simp] theorem blsD_map : ∀ ns : List Bool, blsD (ns.map .bool) = some ns
  | [] => rfl
  | n :: ns => by rw [List.map_cons]; show ol (blsD (ns.map .bool)) _ = _; rw [blsD_map ns]; rfl
@[simp] theorem strsD_map : ∀ ns : List Str, strsD (ns.map .str) = some ns
  | [] => rfl
  | n :: ns => by rw [List.map_cons]; show ol (strsD (ns.map .str)) _ = _; rw [strsD_map ns]; rfl
theorem foldl_max (ns : List Int) : ∀ n : Int, (ns.foldl max n = n ∨ ns.foldl max n ∈ ns) ∧ n ≤ ns.foldl max n ∧ ∀ y ∈ ns, y ≤ ns.foldl max n := by
  induction ns with
  | nil => intro n; exact ⟨.inl rfl, Int.le_refl _, fun _ h => nomatch h⟩
  | cons m ns ih =>
    intro n
    rw [List.foldl_cons]
    obtain ⟨h1, h2, h3⟩ := ih (max n m)
    refine ⟨?_, by omega, fun y hy => ?_⟩
    · rcases h1 with h1 | h1
      · rw [h1]
        rcases Int.le_total n m with q | q
        · right; rw [Int.max_eq_right q]; exact List.mem_cons_self
        · left; exact Int.max_eq_left q
      · exact .inr (List.mem_cons_of_mem _ h1)
    · rcases List.mem_cons.mp hy with rfl | hy
      · omega
      · exact h3 y hy
theorem foldl_min (ns : List Int) : ∀ n : Int, (ns.foldl min n = n ∨ ns.foldl min n ∈ ns) ∧ ns.foldl min n ≤ n ∧ ∀ y ∈ ns, ns.foldl min n ≤ y := by
  induction ns with
  | nil => intro n; exact ⟨.inl rfl, Int.le_refl _, fun _ h => nomatch h⟩
  | cons m ns ih =>
    intro n
    rw [List.foldl_cons]
    obtain ⟨h1, h2, h3⟩ := ih (min n m)
    refine ⟨?_, by omega, fun y hy => ?_⟩
    · rcases h1 with h1 | h1
      · rw [h1]
        rcases Int.le_total n m with q | q
        · left; exact Int.min_eq_left q
        · right; rw [Int.min_eq_right q]; exact List.mem_cons_self
      · exact .inr (List.mem_cons_of_mem _ h1)
    · rcases List.mem_cons.mp hy with rfl | hy
      · omega
      · exact h3 y hy
theorem maxI_is {ns : List Int} {m : Int} (h : maxI ns = some m) : m ∈ ns ∧ ∀ y ∈ ns, y ≤ m := by
  cases ns with
  | nil => cases h
  | cons n ns =>
    cases h
    obtain ⟨h1, h2, h3⟩ := foldl_max ns n
    refine ⟨?_, fun y hy => ?_⟩
    · rcases h1 with h1 | h1
      · rw [h1]; exact List.mem_cons_self
      · exact List.mem_cons_of_mem _ h1
    · rcases List.mem_cons.mp hy with rfl | hy
      · exact h2
      · exact h3 y hy
theorem minI_is {ns : List Int} {m : Int} (h : minI ns = some m) : m ∈ ns ∧ ∀ y ∈ ns, m ≤ y := by
  cases ns with
  | nil => cases h
  | cons n ns =>
    cases h
    obtain ⟨h1, h2, h3⟩ := foldl_min ns n
    refine ⟨?_, fun y hy => ?_⟩
    · rcases h1 with h1 | h1
      · rw [h1]; exact List.mem_cons_self
      · exact List.mem_cons_of_mem _ h1
    · rcases List.mem_cons.mp hy with rfl | hy
      · exact h2
      · exact h3 y hy
section
variable {K : PySem.W.Frag} {X : Cx}
theorem VwAll.one {S H : Hp} {vs : List V} {d : PyData} (h : VwAll K S H vs [d]) : ∃ v, vs = [v] ∧ Vw K S H v d := by
  match vs, h with
  | [v], h => exact ⟨v, rfl, h.1⟩
theorem VwAll.two {S H : Hp} {vs : List V} {d e : PyData} (h : VwAll K S H vs [d, e]) : ∃ v u, vs = [v, u] ∧ Vw K S H v d ∧ Vw K S H u e := by
  match vs, h with
  | [v, u], h => exact ⟨v, u, rfl, h.1, h.2.1⟩
abbrev rLenU (K : PySem.W.Frag) : List V → Hp → VK → Prop := fun xs H Q => ∃ x n, xs = [x] ∧ LenV K x H n ∧ Q (.int n) H
theorem okLen : CallOk K (rLenU K) lenD := fun S H vs ds res ss h hf Q k => by
  unfold lenD at hf
  split at hf
  · cases hf
    obtain ⟨v, rfl, hv⟩ := h.one
    obtain ⟨a, us, rfl, ha, da⟩ := hv.lst ss
    exact ⟨_, _, rfl, .inl ⟨us, SqL.of ha, rfl⟩, by rw [da.length]; exact k _ H S (New.refl ss) (.int _)⟩
  · cases hf
    obtain ⟨v, rfl, hv⟩ := h.one
    obtain ⟨a, us, rfl, ha, da⟩ := hv.tup
    exact ⟨_, _, rfl, .inr ⟨us, SqT.of (ss _ _ ha), rfl⟩, by rw [da.length]; exact k _ H S (New.refl ss) (.int _)⟩
  · split at hf
    · rename_i hl
      cases hf
      obtain ⟨v, rfl, hv⟩ := h.one
      cases hv.str
      exact ⟨_, _, rfl, ⟨by rw [line_eq]; exact hl, rfl⟩, k _ H S (New.refl ss) (.int _)⟩
    · cases hf
  · cases hf
    obtain ⟨v, rfl, hv⟩ := h.one
    obtain ⟨a, ns, rfl, rfl, hs⟩ := hv.scr
    exact ⟨_, _, rfl, .inl ⟨_, ss.seq hs, rfl⟩, by
      have e : (ns.map V.int).length = (ns.map PyData.int).length := by rw [List.length_map, List.length_map]
      rw [e]; exact k _ H S (New.refl ss) (.int _)⟩
  · cases hf
abbrev rMaxT (K : PySem.W.Frag) : List V → Hp → VK → Prop := fun xs H Q => ∃ (a : Addr) (ns : List Int), xs = [V.ref a] ∧ SqT K H a (ns.map V.int) ∧ 0 < ns.length ∧ ∀ m, m ∈ ns → (∀ y, y ∈ ns → y ≤ m) → Q (.int m) H
abbrev rMinT (K : PySem.W.Frag) : List V → Hp → VK → Prop := fun xs H Q => ∃ (a : Addr) (ns : List Int), xs = [V.ref a] ∧ SqT K H a (ns.map V.int) ∧ 0 < ns.length ∧ ∀ m, m ∈ ns → (∀ y, y ∈ ns → m ≤ y) → Q (.int m) H
abbrev rSumT (K : PySem.W.Frag) : List V → Hp → VK → Prop := fun xs H Q => ∃ (a : Addr) (ns : List Int), xs = [V.ref a] ∧ SqT K H a (ns.map V.int) ∧ Q (.int ns.sum) H
abbrev rMaxU (K : PySem.W.Frag) : List V → Hp → VK → Prop := fun xs H Q => (∃ i j, xs = [.int i, .int j] ∧ Q (.int (if j > i then j else i)) H) ∨ (rMax K xs H Q ∨ rMaxT K xs H Q)
abbrev rMinU (K : PySem.W.Frag) : List V → Hp → VK → Prop := fun xs H Q => (∃ i j, xs = [.int i, .int j] ∧ Q (.int (if j < i then j else i)) H) ∨ (rMin K xs H Q ∨ rMinT K xs H Q)
abbrev rSumU (K : PySem.W.Frag) : List V → Hp → VK → Prop := fun xs H Q => rSum K xs H Q ∨ rSumT K xs H Q
theorem reads_ints {h : Heap} : ∀ {us : List Value} {ns : List Int}, PyProof.Rows.IntsAre us ns → ∃ as, ReadsAll h us (ns.map .int) as
  | _, _, .nil => ⟨_, .nil⟩
  | _, _, .cons _ _ r => by
    obtain ⟨as, q⟩ := reads_ints (h := h) r
    exact ⟨_, .cons (.int _ _) q⟩
theorem alike_ints (ns : List Int) : PySem.W.AlikeAll (ns.map .int) := by
  refine ⟨fun x hx y hy => ?_, fun x hx => ?_⟩
  · obtain ⟨i, _, rfl⟩ := List.mem_map.mp hx
    obtain ⟨j, _, rfl⟩ := List.mem_map.mp hy
    rfl
  · obtain ⟨i, _, rfl⟩ := List.mem_map.mp hx
    exact fun z => nomatch z
theorem depth_ints : ∀ ns : List Int, PyData.depthAll (ns.map .int) ≤ 1
  | [] => by simp [PyData.depthAll]
  | n :: ns => by
    have := depth_ints ns
    simp [PyData.depthAll, PyData.depth]
    omega
theorem reads_int {h : Heap} {v : Value} {i : Int} {as : List Addr} (r : Reads h v (.int i) as) : ∃ t, v = .int i t := by cases r; exact ⟨_, rfl⟩
theorem cr_maxT (hc : X.calm = true) (hu : X.A.units + 64 < cLine) : CallR X (.builtin "max") (rMaxT X.K) := by
  intro pins s σ H vs us Q I r h
  obtain ⟨a, ns, rfl, hs, hne, q⟩ := h
  obtain ⟨its, rv, hl, _⟩ := I.tuple hs
  rw [Vals.ref1 r]
  cases ns with
  | nil => exact absurd hne (Nat.lt_irrefl 0)
  | cons n ns =>
    obtain ⟨as, hr⟩ := reads_ints (h := s.heap) rv.ints
    refine PySem.W.max_tuple_data (xs := ns.map .int) (x := .int n) (I.ok.hd hc) (show s.heap.IsTuple a its.toArray from hl) hr (alike_ints (n :: ns)) (by have := depth_ints (n :: ns); simp only [List.map_cons] at this; omega) fun i v h' tk bs _ hv hk => ?_
    rw [PySem.W.maxD_ints] at hv
    obtain ⟨t, rfl⟩ := reads_int hv
    obtain ⟨h1, h2⟩ := maxI_is (show maxI (n :: ns) = some _ from rfl)
    exact ⟨.int _, H, I.kept hk, ⟨_, rfl⟩, q _ h1 h2⟩
theorem cr_minT (hc : X.calm = true) (hu : X.A.units + 64 < cLine) : CallR X (.builtin "min") (rMinT X.K) := by
  intro pins s σ H vs us Q I r h
  obtain ⟨a, ns, rfl, hs, hne, q⟩ := h
  obtain ⟨its, rv, hl, _⟩ := I.tuple hs
  rw [Vals.ref1 r]
  cases ns with
  | nil => exact absurd hne (Nat.lt_irrefl 0)
  | cons n ns =>
    obtain ⟨as, hr⟩ := reads_ints (h := s.heap) rv.ints
    refine PySem.W.min_tuple_data (xs := ns.map .int) (x := .int n) (I.ok.hd hc) (show s.heap.IsTuple a its.toArray from hl) hr (alike_ints (n :: ns)) (by have := depth_ints (n :: ns); simp only [List.map_cons] at this; omega) fun i v h' tk bs _ hv hk => ?_
    rw [PySem.W.minD_ints] at hv
    obtain ⟨t, rfl⟩ := reads_int hv
    obtain ⟨h1, h2⟩ := minI_is (show minI (n :: ns) = some _ from rfl)
    exact ⟨.int _, H, I.kept hk, ⟨_, rfl⟩, q _ h1 h2⟩
theorem cr_sumT (hc : X.calm = true) : CallR X (.builtin "sum") (rSumT X.K) := by
  intro pins s σ H vs us Q I r h
  obtain ⟨a, ns, rfl, hs, q⟩ := h
  obtain ⟨its, rv, hl, _⟩ := I.tuple hs
  rw [Vals.ref1 r]
  have hi := rv.ints
  have hl : s.heap.IsTuple a its.toArray := hl
  obtain ⟨xs, hx⟩ := hi.allInts.items
  have hn : numsOf its.toArray.toList = ns := by rw [show its.toArray.toList = its from rfl, hi.numsOf]
  rw [hx] at hl hn
  rw [nums_intItems] at hn
  refine PySem.W.ktm_sumG (I.ok.hd hc) hl fun h' tk t' hk => ?_
  rw [preSum_eq, List.take_of_length_le (by simp), hn]
  exact ⟨.int _, H, I.kept hk, ⟨_, rfl⟩, q⟩
theorem ints_of {S : Hp} {vs : List V} {xs : List PyData} {ns : List Int} (h : DaAll K S vs xs) (e : intsD xs = some ns) : vs = ns.map V.int := by
  rw [intsD_some e] at h
  exact h.ints
theorem bls_of {S : Hp} {vs : List V} {xs : List PyData} {ns : List Bool} (h : DaAll K S vs xs) (e : blsD xs = some ns) : vs = ns.map V.bl := by
  rw [blsD_some e] at h
  exact h.bls
theorem strs_of {S : Hp} {vs : List V} {xs : List PyData} {ns : List Str} (h : DaAll K S vs xs) (e : strsD xs = some ns) : vs = ns.map V.str := by
  rw [strsD_some e] at h
  exact h.strs
theorem maxI_pos {ns : List Int} {m : Int} (h : maxI ns = some m) : 0 < ns.length := by
  cases ns with
  | nil => cases h
  | cons _ _ => exact Nat.zero_lt_succ _
theorem minI_pos {ns : List Int} {m : Int} (h : minI ns = some m) : 0 < ns.length := by
  cases ns with
  | nil => cases h
  | cons _ _ => exact Nat.zero_lt_succ _
theorem opMax (hc : X.calm = true) (hu : X.A.units + 64 < cLine) : CallR X (.builtin "max") (rMaxU X.K) := (call_max2 hc).or ((cr_max hc).or (cr_maxT hc hu))
theorem opMin (hc : X.calm = true) (hu : X.A.units + 64 < cLine) : CallR X (.builtin "min") (rMinU X.K) := (call_min2 hc).or ((cr_min hc).or (cr_minT hc hu))
theorem opSum (hc : X.calm = true) : CallR X (.builtin "sum") (rSumU X.K) := (cr_sum hc).or (cr_sumT hc)
theorem okMax : CallOk K (rMaxU K) maxD := fun S H vs ds res ss h hf Q k => by
  unfold maxD at hf
  split at hf
  · cases hf
    obtain ⟨v, u, rfl, h1, h2⟩ := h.two
    cases h1.int
    cases h2.int
    exact .inl ⟨_, _, rfl, k _ H S (New.refl ss) (.int _)⟩
  · obtain ⟨ns, q1, hf⟩ := ol_some hf
    obtain ⟨m, q2, hf⟩ := ol_some hf
    cases hf
    obtain ⟨v, rfl, hv⟩ := h.one
    obtain ⟨a, us, rfl, ha, da⟩ := hv.lst ss
    cases ints_of da q1
    obtain ⟨m1, m2⟩ := maxI_is q2
    refine .inr (.inl ⟨a, ns, rfl, SqL.of ha, maxI_pos q2, fun m' h1 h2 => ?_⟩)
    have e : m' = m := by
      have a1 := h2 _ m1
      have a2 := m2 _ h1
      omega
    rw [e]
    exact k _ H S (New.refl ss) (.int _)
  · obtain ⟨ns, q1, hf⟩ := ol_some hf
    obtain ⟨m, q2, hf⟩ := ol_some hf
    cases hf
    obtain ⟨v, rfl, hv⟩ := h.one
    obtain ⟨a, us, rfl, ha, da⟩ := hv.tup
    cases ints_of da q1
    obtain ⟨m1, m2⟩ := maxI_is q2
    refine .inr (.inr ⟨a, ns, rfl, SqT.of (ss _ _ ha), maxI_pos q2, fun m' h1 h2 => ?_⟩)
    have e : m' = m := by
      have a1 := h2 _ m1
      have a2 := m2 _ h1
      omega
    rw [e]
    exact k _ H S (New.refl ss) (.int _)
  · cases hf
theorem okMin : CallOk K (rMinU K) minD := fun S H vs ds res ss h hf Q k => by
  unfold minD at hf
  split at hf
  · cases hf
    obtain ⟨v, u, rfl, h1, h2⟩ := h.two
    cases h1.int
    cases h2.int
    exact .inl ⟨_, _, rfl, k _ H S (New.refl ss) (.int _)⟩
  · obtain ⟨ns, q1, hf⟩ := ol_some hf
    obtain ⟨m, q2, hf⟩ := ol_some hf
    cases hf
    obtain ⟨v, rfl, hv⟩ := h.one
    obtain ⟨a, us, rfl, ha, da⟩ := hv.lst ss
    cases ints_of da q1
    obtain ⟨m1, m2⟩ := minI_is q2
    refine .inr (.inl ⟨a, ns, rfl, SqL.of ha, minI_pos q2, fun m' h1 h2 => ?_⟩)
    have e : m' = m := by
      have a1 := h2 _ m1
      have a2 := m2 _ h1
      omega
    rw [e]
    exact k _ H S (New.refl ss) (.int _)
  · obtain ⟨ns, q1, hf⟩ := ol_some hf
    obtain ⟨m, q2, hf⟩ := ol_some hf
    cases hf
    obtain ⟨v, rfl, hv⟩ := h.one
    obtain ⟨a, us, rfl, ha, da⟩ := hv.tup
    cases ints_of da q1
    obtain ⟨m1, m2⟩ := minI_is q2
    refine .inr (.inr ⟨a, ns, rfl, SqT.of (ss _ _ ha), minI_pos q2, fun m' h1 h2 => ?_⟩)
    have e : m' = m := by
      have a1 := h2 _ m1
      have a2 := m2 _ h1
      omega
    rw [e]
    exact k _ H S (New.refl ss) (.int _)
  · cases hf
theorem okSum : CallOk K (rSumU K) sumD := fun S H vs ds res ss h hf Q k => by
  unfold sumD at hf
  split at hf
  · obtain ⟨ns, q1, hf⟩ := ol_some hf
    cases hf
    obtain ⟨v, rfl, hv⟩ := h.one
    obtain ⟨a, us, rfl, ha, da⟩ := hv.lst ss
    cases ints_of da q1
    exact .inl ⟨a, ns, rfl, SqL.of ha, k _ H S (New.refl ss) (.int _)⟩
  · obtain ⟨ns, q1, hf⟩ := ol_some hf
    cases hf
    obtain ⟨v, rfl, hv⟩ := h.one
    obtain ⟨a, us, rfl, ha, da⟩ := hv.tup
    cases ints_of da q1
    exact .inr ⟨a, ns, rfl, SqT.of (ss _ _ ha), k _ H S (New.refl ss) (.int _)⟩
  · cases hf
theorem okAll : CallOk K (rAll K) allD := fun S H vs ds res ss h hf Q k => by
  unfold allD at hf
  split at hf
  · obtain ⟨ns, q1, hf⟩ := ol_some hf
    cases hf
    obtain ⟨v, rfl, hv⟩ := h.one
    obtain ⟨a, us, rfl, ha, da⟩ := hv.lst ss
    cases bls_of da q1
    exact ⟨a, ns, rfl, SqL.of ha, k _ H S (New.refl ss) (.bl _)⟩
  · cases hf
theorem okAny : CallOk K (rAny K) anyD := fun S H vs ds res ss h hf Q k => by
  unfold anyD at hf
  split at hf
  · obtain ⟨ns, q1, hf⟩ := ol_some hf
    cases hf
    obtain ⟨v, rfl, hv⟩ := h.one
    obtain ⟨a, us, rfl, ha, da⟩ := hv.lst ss
    cases bls_of da q1
    exact ⟨a, ns, rfl, SqL.of ha, k _ H S (New.refl ss) (.bl _)⟩
  · cases hf
abbrev rListU (K : PySem.W.Frag) : List V → Hp → VK → Prop := fun xs H Q => ∃ p ys, xs = [.ref p] ∧ (SqL K H p ys ∨ SqT K H p ys) ∧ ∀ l, H l = none → Q (.ref l) (upd H l (.lst ys))
abbrev rTupleU (K : PySem.W.Frag) : List V → Hp → VK → Prop := fun xs H Q => ∃ a ys, xs = [.ref a] ∧ ((SqL K H a ys ∧ ∀ l, H l = none → Q (.ref l) (upd H l (.tup ys))) ∨ (SqT K H a ys ∧ Q (.ref a) H))
theorem okList : CallOk K (rListU K) listD := fun S H vs ds res ss h hf Q k => by
  unfold listD at hf
  split at hf
  · cases hf
    obtain ⟨v, rfl, hv⟩ := h.one
    obtain ⟨a, us, rfl, ha, da⟩ := hv.lst ss
    exact ⟨a, us, rfl, .inl (SqL.of ha), fun p hp => k _ _ _ (New.lay ss hp) ⟨p, _, rfl, hp, upd_same, ss.free hp, da⟩⟩
  · cases hf
    obtain ⟨v, rfl, hv⟩ := h.one
    obtain ⟨a, us, rfl, ha, da⟩ := hv.tup
    exact ⟨a, us, rfl, .inr (SqT.of (ss _ _ ha)), fun p hp => k _ _ _ (New.lay ss hp) ⟨p, _, rfl, hp, upd_same, ss.free hp, da⟩⟩
  · cases hf
theorem okTuple : CallOk K (rTupleU K) tupleD := fun S H vs ds res ss h hf Q k => by
  unfold tupleD at hf
  split at hf
  · cases hf
    obtain ⟨v, rfl, hv⟩ := h.one
    obtain ⟨a, us, rfl, ha, da⟩ := hv.lst ss
    refine ⟨a, us, rfl, .inl ⟨SqL.of ha, fun p hp => ?_⟩⟩
    have N := New.put (o := .tup us) ss hp
    exact k _ _ _ N (.tup upd_same (da.mono N.ss))
  · cases hf
    obtain ⟨v, rfl, hv⟩ := h.one
    obtain ⟨a, us, rfl, ha, da⟩ := hv.tup
    exact ⟨a, us, rfl, .inr ⟨SqT.of (ss _ _ ha), k _ H S (New.refl ss) (.tup ha da)⟩⟩
  · cases hf
abbrev rIntU : List V → Hp → VK → Prop := fun xs H Q => (∃ i, xs = [.int i] ∧ Q (.int i) H) ∨ ∃ k, xs = [.bl k] ∧ Q (.int (if k then 1 else 0)) H
theorem okInt : CallOk K rIntU intD := fun S H vs ds res ss h hf Q k => by
  unfold intD at hf
  split at hf
  · cases hf
    obtain ⟨v, rfl, hv⟩ := h.one
    cases hv.int
    exact .inl ⟨_, rfl, k _ H S (New.refl ss) (.int _)⟩
  · cases hf
    obtain ⟨v, rfl, hv⟩ := h.one
    cases hv.bl
    exact .inr ⟨_, rfl, k _ H S (New.refl ss) (.int _)⟩
  · cases hf
end
end DL
/-! The data layer 5: methods of lists, calls of own defs. -/
namespace DL
open PySem L2

/-! ### xs.append(e), xs.pop(), xs.pop(k), xs.index(e) -/
def eApp (i : Nat) (e : EF) : EF := fun ρ => ol ρ[i]? fun s0 => ol s0.ls fun _ => ob (e ρ) fun x ρ1 => ob (sto ρ1 x) fun d ρ2 => ol ρ2[i]? fun s => ol s.ls fun ds =>
  if ds.length < 16777216 then some (.da .none, ρ2.set i (s.put (ds ++ [d]))) else none
def ePop0 (i : Nat) : EF := fun ρ => ol ρ[i]? fun s => ol s.ls fun ds => ol ds[ds.length - 1]? fun d => some (.da d, ρ.set i (s.put ds.dropLast))
def ePop (i : Nat) (e : EF) : EF := fun ρ => ol ρ[i]? fun s0 => ol s0.ls fun _ => ob (e ρ) fun x ρ1 => ol (intR x) fun k => ol ρ1[i]? fun s => ol s.ls fun ds =>
  if -(2 ^ 63) ≤ k ∧ k < 2 ^ 63 then ol (ixN ds.length k) fun j => ol ds[j]? fun d => some (.da d, ρ1.set i (s.put (ds.eraseIdx j))) else none
def lsD : PyData → Option (List PyData)
  | .list xs => some xs
  | _ => none
theorem lsD_some {d : PyData} {xs : List PyData} (h : lsD d = some xs) : d = .list xs := by
  unfold lsD at h
  split at h
  · cases h; rfl
  · cases h
def eIndex (a b : EF) : EF := fun ρ => ob (a ρ) fun x ρ1 => ol (vw ρ1 x) fun d0 => ol (lsD d0) fun _ => ob (b ρ1) fun y ρ2 => ol (vw ρ2 (deg x)) fun d => ol (vw ρ2 y) fun e => ol (lsD d) fun xs =>
  if (flatD e && xs.all flatD) = true then ol (xs.findIdx? fun z => PyData.eqv z e) fun j => some (.da (.int j), ρ2) else none
section
variable {X : Cx} {o e : Expr} {f fa : EF} {apos cpos : Pos} {K : PySem.W.Frag}
theorem Rep.ty {t : Et} {S H : Hp} {σ : L2.St} {ρ : En} {i : Nat} {s : Sl} {ds : List PyData} (R : Rep K t S H σ ρ) (h : ρ[i]? = some s) (hs : s.ls = some ds) :
    ∃ a vs, σ[i]? = some (some (.ref a)) ∧ H a = some (.lst vs) ∧ DaAll K S vs ds ∧ tyV K "list" (.ref a) H := by
  obtain ⟨a, vs, e1, e2, _, _, e5, _⟩ := R.own i s ds h hs
  exact ⟨a, vs, e1, e2, e5, .inl ⟨rfl, _, SqL.of e2⟩⟩
theorem ok_app {i : Nat} (ho : PE X o (tVar i)) (he : OkE X e f) (hbase : attributeBase o "append" X.env (eval o X.env) = eval o X.env := by rfl)
    (hfew : ((backTo cpos (starEach [e] X.env)).all (fun x => !x.1) && (backToKw cpos (keywordEach [] X.env)).all (fun x => x.1.isSome)
      && decide (([e] : List Expr).length + ([] : List Keyword).length + (if ([] : List Keyword).isEmpty then 0 else 1) < 30)) = true := by rfl)
    (hline : (apos.endLine == cpos.line) = true := by rfl) (hs : starEach [e] X.env = (false, eval e X.env) :: starEach [] X.env := by rfl) (hplain : (backTo cpos (starEach [] X.env)).any (·.1) = false := by rfl) :
    OkE X (.Call (.Attribute o "append" apos) [e] [] cpos) (eApp i f) :=
  pe_imp (pe_bm PySem.F.plainAttrs_list PySem.F.slot_list_append PySem.F.type_list_append mt_append ho (pa_cons he pa_nil hs) hbase hfew hline hs hplain) fun σ H Q ⟨t, S, ρ, r, ρ', R, e, k⟩ => by
    obtain ⟨s0, p1, e⟩ := ol_some e
    obtain ⟨ds0, p2, e⟩ := ol_some e
    obtain ⟨x, ρ1, q1, e⟩ := ob_some e
    obtain ⟨d, ρ2, q2, e⟩ := ob_some e
    obtain ⟨s, q3, e⟩ := ol_some e
    obtain ⟨ds, q4, e⟩ := ol_some e
    split at e
    · rename_i hl
      cases e
      obtain ⟨a, vs, e1, e2, e3, e4⟩ := R.ty p1 p2
      refine ⟨_, e1, e4, t, S, ρ, x, ρ1, R, q1, fun v H1 S1 R1 s1 o1 => ?_⟩
      obtain ⟨S2, s2, R2, d2⟩ := R1.stoO o1 q2
      obtain ⟨a', us, f1, f2, f3, f4⟩ := R2.ty q3 q4
      rw [e1] at f1
      cases f1
      refine ⟨a, us, v, rfl, rfl, f2, by rw [line_eq, f3.length]; exact hl, ?_⟩
      exact k _ _ S2 (R2.mut q3 q4 e1 (f3.append (.one d2))) (s1.trans s2) .non
    · cases e
theorem ok_pop0 {i : Nat} (ho : PE X o (tVar i)) (hbase : attributeBase o "pop" X.env (eval o X.env) = eval o X.env := by rfl) (hline : (apos.endLine == cpos.line) = true := by rfl) :
    OkE X (.Call (.Attribute o "pop" apos) [] [] cpos) (ePop0 i) :=
  pe_imp (pe_bm0 PySem.F.plainAttrs_list PySem.F.slot_list_pop PySem.F.type_list_pop mt_pop ho hbase hline) fun σ H Q ⟨t, S, ρ, r, ρ', R, e, k⟩ => by
    obtain ⟨s, q3, e⟩ := ol_some e
    obtain ⟨ds, q4, e⟩ := ol_some e
    obtain ⟨d, q5, e⟩ := ol_some e
    cases e
    obtain ⟨a, vs, e1, e2, e3, e4⟩ := R.ty q3 q4
    obtain ⟨v, z1, z2⟩ := e3.at q5
    refine ⟨_, e1, e4, a, vs, v, rfl, rfl, e2, by rw [e3.length]; exact z1, ?_⟩
    exact k _ _ S (R.mut q3 q4 e1 e3.dropLast) (Same.refl _) z2
theorem ok_pop {i : Nat} (ho : PE X o (tVar i)) (he : OkE X e f) (hbase : attributeBase o "pop" X.env (eval o X.env) = eval o X.env := by rfl)
    (hfew : ((backTo cpos (starEach [e] X.env)).all (fun x => !x.1) && (backToKw cpos (keywordEach [] X.env)).all (fun x => x.1.isSome)
      && decide (([e] : List Expr).length + ([] : List Keyword).length + (if ([] : List Keyword).isEmpty then 0 else 1) < 30)) = true := by rfl)
    (hline : (apos.endLine == cpos.line) = true := by rfl) (hs : starEach [e] X.env = (false, eval e X.env) :: starEach [] X.env := by rfl) (hplain : (backTo cpos (starEach [] X.env)).any (·.1) = false := by rfl) :
    OkE X (.Call (.Attribute o "pop" apos) [e] [] cpos) (ePop i f) :=
  pe_imp (pe_bm PySem.F.plainAttrs_list PySem.F.slot_list_pop PySem.F.type_list_pop mt_popAt ho (pa_cons he pa_nil hs) hbase hfew hline hs hplain) fun σ H Q ⟨t, S, ρ, r, ρ', R, e, k⟩ => by
    obtain ⟨s0, p1, e⟩ := ol_some e
    obtain ⟨ds0, p2, e⟩ := ol_some e
    obtain ⟨x, ρ1, q1, e⟩ := ob_some e
    obtain ⟨z, q2, e⟩ := ol_some e
    obtain ⟨s, q3, e⟩ := ol_some e
    obtain ⟨ds, q4, e⟩ := ol_some e
    split at e
    · rename_i hl
      obtain ⟨j, q5, e⟩ := ol_some e
      obtain ⟨d, q6, e⟩ := ol_some e
      cases e
      cases intR_some q2
      obtain ⟨a, vs, e1, e2, e3, e4⟩ := R.ty p1 p2
      refine ⟨_, e1, e4, t, S, ρ, _, _, R, q1, fun v H1 S1 R1 s1 o1 => ?_⟩
      obtain ⟨a', us, f1, f2, f3, f4⟩ := R1.ty q3 q4
      rw [e1] at f1
      cases f1
      cases int_of o1
      obtain ⟨v, z1, z2⟩ := f3.at q6
      obtain ⟨g1, _⟩ := ixN_seq q5
      refine ⟨a, us, z, j, v, rfl, rfl, f2, hl.1, hl.2, by rw [f3.length]; exact g1, z1, ?_⟩
      exact k _ _ S1 (R1.mut q3 q4 e1 (f3.erase j)) s1 z2
    · cases e
theorem DaAll.findIdx {S : Hp} {v : V} {d : PyData} (hd : Da K S v d) (fd : flatD d = true) : ∀ {vs : List V} {ds : List PyData} {j : Nat}, DaAll K S vs ds → ds.all flatD = true → ds.findIdx? (fun z => PyData.eqv z d) = some j →
    ∃ z, vs[j]? = some z ∧ eqV z v = true ∧ ∀ m z', m < j → vs[m]? = some z' → eqV z' v = false
  | _, _, _, .nil, _, h => by cases h
  | v0 :: vs, d0 :: ds, j, .cons h r, f, q => by
    rw [List.all_cons, Bool.and_eq_true] at f
    rw [List.findIdx?_cons] at q
    have e0 := eqV_eqv h hd f.1 fd
    cases c : PyData.eqv d0 d with
    | true =>
      rw [c] at q
      simp at q
      subst q
      exact ⟨v0, rfl, by rw [e0, c], fun m _ hm => absurd hm (Nat.not_lt_zero m)⟩
    | false =>
      rw [c] at q
      simp at q
      obtain ⟨j', q1, rfl⟩ := q
      obtain ⟨z, z1, z2, z3⟩ := DaAll.findIdx hd fd r f.2 q1
      refine ⟨z, by simpa using z1, z2, fun m z' hm hz => ?_⟩
      cases m with
      | zero =>
        have : v0 = z' := by simpa using hz
        subst this
        rw [e0, c]
      | succ m => exact z3 m z' (by omega) (by simpa using hz)
theorem ok_index (ho : OkE X o fa) (he : OkE X e f) (hbase : attributeBase o "index" X.env (eval o X.env) = eval o X.env := by rfl)
    (hfew : ((backTo cpos (starEach [e] X.env)).all (fun x => !x.1) && (backToKw cpos (keywordEach [] X.env)).all (fun x => x.1.isSome)
      && decide (([e] : List Expr).length + ([] : List Keyword).length + (if ([] : List Keyword).isEmpty then 0 else 1) < 30)) = true := by rfl)
    (hline : (apos.endLine == cpos.line) = true := by rfl) (hs : starEach [e] X.env = (false, eval e X.env) :: starEach [] X.env := by rfl) (hplain : (backTo cpos (starEach [] X.env)).any (·.1) = false := by rfl) :
    OkE X (.Call (.Attribute o "index" apos) [e] [] cpos) (eIndex fa f) :=
  pe_imp (pe_bm PySem.F.plainAttrs_list PySem.F.slot_list_index PySem.F.type_list_index mt_index ho (pa_cons he pa_nil hs) hbase hfew hline hs hplain) fun σ H Q ⟨t, S, ρ, r, ρ', R, e, k⟩ => by
    obtain ⟨x, ρ1, q1, e⟩ := ob_some e
    obtain ⟨d0, p1, e⟩ := ol_some e
    obtain ⟨xs0, p2, e⟩ := ol_some e
    obtain ⟨y, ρ2, q2, e⟩ := ob_some e
    obtain ⟨d, q3, e⟩ := ol_some e
    obtain ⟨d', q4, e⟩ := ol_some e
    obtain ⟨xs, q5, e⟩ := ol_some e
    split at e
    · rename_i hl
      rw [Bool.and_eq_true] at hl
      obtain ⟨j, q6, e⟩ := ol_some e
      cases e
      cases lsD_some q5
      cases lsD_some p2
      refine ⟨t, S, ρ, x, ρ1, R, q1, fun v H1 S1 R1 s1 o1 => ?_⟩
      obtain ⟨a0, us0, rfl, g1, _⟩ := (R1.vwO o1 p1).lst R1.sh
      obtain ⟨S2, s2, R2, o2⟩ := R1.deg o1
      refine ⟨.inl ⟨rfl, _, SqL.of g1⟩, t, S2, ρ1, y, _, R2, q2, fun v2 H3 S3 R3 s3 o3 => ?_⟩
      obtain ⟨a, us, ea, g2, g3⟩ := (R3.vw (o2.mono s3) q3).lst R3.sh
      cases ea
      have g4 := (R3.vwO o3 q4).da R3.sh
      have g5 := g3.mono R3.sh
      obtain ⟨z, z1, z2, z3⟩ := g5.findIdx g4 hl.1 hl.2 q6
      refine ⟨a0, us, v2, j, z, rfl, rfl, SqL.of g2, g4.flat hl.1, g3.flat hl.2, z1, z2, z3, ?_⟩
      exact k _ H3 S3 R3 ((s1.trans s2).trans s3) (.int _)
    · cases e
end

/-! ### calls of own defs -/
def scalR : Rv → Bool
  | .da d => flatD d
  | _ => false
/-- the promise of a def that is the function F of data -/
def spF (K : PySem.W.Frag) (F : List PyData → Option Rv) : Sp := fun vs H Q _ => ∃ (S : Hp) (ds : List PyData) (r : Rv), Same S H ∧ DaAll K S vs ds ∧ F ds = some r ∧
  ∀ v H' S', New S H S' H' → RO K H S' H' v r → Q v H'
def eCall (F : List PyData → Option Rv) (as : AF) : EF := fun ρ => ob (as ρ) fun rs ρ1 => ob (stos ρ1 rs) fun ds ρ2 => ol (F ds) fun r => some (r, ρ2)
/-- the lists in slots are only lent, the result is flat -/
def eCallV (F : List PyData → Option Rv) (as : AF) : EF := fun ρ => ob (as ρ) fun rs ρ1 => ol (vws ρ1 rs) fun ds => ol (F ds) fun r => if scalR r = true then some (r, ρ1) else none
theorem Da.flatAny {K : PySem.W.Frag} {S S' : Hp} {v : V} {d : PyData} (h : Da K S v d) (f : flatD d = true) : Da K S' v d := by
  cases h with
  | non => exact .non
  | bl b => exact .bl b
  | int b => exact .int b
  | str b => exact .str b
  | lst _ _ => cases f
  | tup _ _ => cases f
  | scr _ => cases f
  | dct _ => cases f
  | adr _ => cases f
  | exn _ => cases f
section
variable {X : Cx} {e : Expr} {es : List Expr} {g : AF} {k : Nat} {f : Addr} {fd : FuncData} {ps : List Str} {F : List PyData → Option Rv} {x : Str} {p pos : Pos} {K : PySem.W.Frag}
theorem rd_call : ∀ σ H Q, rdE K (eCall F g) σ H Q → tCall (spF K F) [] E0 (rdA K g) σ H Q := fun σ H Q ⟨t, S, ρ, r, ρ', R, e, k⟩ => by
  obtain ⟨rs, ρ1, q1, e⟩ := ob_some e
  obtain ⟨ds, ρ2, q2, e⟩ := ob_some e
  obtain ⟨r', q3, e⟩ := ol_some e
  cases e
  refine ⟨t, S, ρ, rs, ρ1, R, q1, fun vs H1 S1 R1 s1 o1 => ?_⟩
  obtain ⟨S2, s2, R2, d2⟩ := R1.stos o1 q2
  refine ⟨S2, ds, _, R2.sh, by rw [List.append_nil]; exact d2, q3, fun v H' S' N o => ?_⟩
  exact k v H' S' (R2.new N) ((s1.trans s2).trans N.ss) (o.rv R2 N)
theorem rd_callV : ∀ σ H Q, rdE K (eCallV F g) σ H Q → tCall (spF K F) [] E0 (rdA K g) σ H Q := fun σ H Q ⟨t, S, ρ, r, ρ', R, e, k⟩ => by
  obtain ⟨rs, ρ1, q1, e⟩ := ob_some e
  obtain ⟨ds, q2, e⟩ := ol_some e
  obtain ⟨r', q3, e⟩ := ol_some e
  split at e
  · rename_i hf
    cases e
    refine ⟨t, S, ρ, rs, _, R, q1, fun vs H1 S1 R1 s1 o1 => ?_⟩
    refine ⟨H1, ds, _, Same.refl _, by rw [List.append_nil]; exact (R1.vws o1 q2).da R1.sh, q3, fun v H' S' N o => ?_⟩
    have N2 : New S1 H1 S1 H' := ⟨Same.refl _, N.hh, R1.sh.trans N.hh, fun _ _ h => h⟩
    cases r with
    | fr ds => cases hf
    | bo i => cases hf
    | da d =>
      have o' : RO K H1 S1 H' v (.da d) := Da.flatAny (o : Da K S' v d) hf
      exact k v H' S1 (R1.new N2) s1 (o'.rv R1 N2)
  · cases e
theorem ok_call (C : FnOk X.prog X.w X.K X.mg X.base CX0 k f fd ps (spF X.K F)) (hr : Room k X.A) (hg : Gl X x) (hm : X.mg x = some (.ref f)) (hk : PySem.W.keepIn X.K (.ref f) = true) (hb : Binds X.K fd ps [])
    (ha : OkA X (e :: es) g) (hdb : (x == ("__debug__" : Str)) = false := by decide) (he : starEach (e :: es) X.env = (false, eval e X.env) :: starEach es X.env := by rfl) (hpl : (backTo pos (starEach es X.env)).any (·.1) = false := by rfl) :
    OkE X (.Call (.Name x p) (e :: es) [] pos) (eCall F g) := pe_imp (pe_call C hr hg hm hk hb .nil pass0 ha hdb he hpl) rd_call
theorem ok_callV (C : FnOk X.prog X.w X.K X.mg X.base CX0 k f fd ps (spF X.K F)) (hr : Room k X.A) (hg : Gl X x) (hm : X.mg x = some (.ref f)) (hk : PySem.W.keepIn X.K (.ref f) = true) (hb : Binds X.K fd ps [])
    (ha : OkA X (e :: es) g) (hdb : (x == ("__debug__" : Str)) = false := by decide) (he : starEach (e :: es) X.env = (false, eval e X.env) :: starEach es X.env := by rfl) (hpl : (backTo pos (starEach es X.env)).any (·.1) = false := by rfl) :
    OkE X (.Call (.Name x p) (e :: es) [] pos) (eCallV F g) := pe_imp (pe_call C hr hg hm hk hb .nil pass0 ha hdb he hpl) rd_callV
theorem ok_call0 (C : FnOk X.prog X.w X.K X.mg X.base CX0 k f fd ps (spF X.K F)) (hr : Room k X.A) (hg : Gl X x) (hm : X.mg x = some (.ref f)) (hk : PySem.W.keepIn X.K (.ref f) = true) (hb : Binds X.K fd ps [])
    (hdb : (x == ("__debug__" : Str)) = false := by decide) : OkE X (.Call (.Name x p) [] [] pos) (eCall F aNil) :=
  pe_imp (pe_call0 C hr hg hm hk hb .nil pass0 hdb) fun σ H Q ⟨t, S, ρ, r, ρ', R, e, k⟩ => by
    obtain ⟨rs, ρ1, q1, e⟩ := ob_some e
    cases q1
    obtain ⟨ds, ρ2, q2, e⟩ := ob_some e
    cases q2
    obtain ⟨r', q3, e⟩ := ol_some e
    cases e
    exact ⟨S, [], _, R.sh, .nil, q3, fun v H' S' N o => k v H' S' (R.new N) N.ss (o.rv R N)⟩
end

/-! ### defs that change a list that is handed in (its place j) -/
def spB (K : PySem.W.Frag) (j : Nat) (F : List PyData → List PyData → Option (Rv × List PyData)) : Sp := fun vs H Q _ =>
  ∃ (S : Hp) (a : Addr) (ms ds : List PyData) (mv : List V) (r : Rv) (ms' : List PyData), Same S H ∧ vs[j]? = some (.ref a) ∧ H a = some (.lst mv) ∧ S a = none ∧ DaAll K S mv ms ∧ DaAll K S (vs.eraseIdx j) ds ∧ F ms ds = some (r, ms') ∧
    ∀ v H' S' mv', Same S S' → Same S' H' → (∀ b, H b ≠ none → S b = none → S' b = none) → (∀ b o, b ≠ a → H b = some o → H' b = some o) → H' a = some (.lst mv') → DaAll K S' mv' ms' → RO K H S' H' v r → Q v H'
/-- which slot it stands in -/
def boI : Rv → Option Nat
  | .bo i => some i
  | _ => none
theorem boI_some {r : Rv} {i : Nat} (h : boI r = some i) : r = .bo i := by
  cases r <;> first | (cases h; rfl) | cases h
def eCallO (j : Nat) (F : List PyData → List PyData → Option (Rv × List PyData)) (as : AF) : EF := fun ρ => ob (as ρ) fun rs ρ1 => ol rs[j]? fun rj => ol (boI rj) fun i => ob (stos ρ1 (rs.eraseIdx j)) fun ds ρ2 => ol ρ2[i]? fun s => ol s.ls fun ms =>
  ob (F ms ds) fun r ms' => some (r, ρ2.set i (s.put ms'))
section
variable {K : PySem.W.Frag} {t : Et} {S S' H H' : Hp} {σ : L2.St} {ρ : En}
theorem RvsOk.erase : ∀ {vs : List V} {rs : List Rv} (j : Nat), RvsOk K S σ vs rs → RvsOk K S σ (vs.eraseIdx j) (rs.eraseIdx j)
  | [], [], _, _ => trivial
  | v :: vs, r :: rs, 0, h => h.2
  | v :: vs, r :: rs, j + 1, h => ⟨h.1, RvsOk.erase j h.2⟩
  | [], _ :: _, _, h => h.elim
  | _ :: _, [], _, h => h.elim
theorem RvsOk.get : ∀ {vs : List V} {rs : List Rv} {j : Nat} {r : Rv}, RvsOk K S σ vs rs → rs[j]? = some r → ∃ v, vs[j]? = some v ∧ RvV K S σ v r
  | [], [], _, _, _, e => by simp at e
  | v :: vs, r :: rs, 0, _, h, e => by simp at e; subst e; exact ⟨v, rfl, h.1⟩
  | v :: vs, r :: rs, j + 1, _, h, e => by
    obtain ⟨u, h1, h2⟩ := RvsOk.get h.2 (by simpa using e)
    exact ⟨u, by simpa using h1, h2⟩
  | [], _ :: _, _, _, h, _ => h.elim
  | _ :: _, [], _, _, h, _ => h.elim
/-- behind a call that changed the list at a, the one in slot i -/
theorem Rep.after {i : Nat} {s : Sl} {ms ms' : List PyData} {a : Addr} {mv' : List V} (R : Rep K t S H σ ρ) (h : ρ[i]? = some s) (hs : s.ls = some ms) (ha : σ[i]? = some (some (.ref a)))
    (n1 : Same S S') (n2 : Same S' H') (n3 : ∀ b, H b ≠ none → S b = none → S' b = none) (n4 : ∀ b o, b ≠ a → H b = some o → H' b = some o) (n5 : H' a = some (.lst mv')) (n6 : DaAll K S' mv' ms') : Rep K t S' H' σ (ρ.set i (s.put ms')) := by
  obtain ⟨a', mv, e1, e2, e3, e4, e5, e6⟩ := R.own i s ms h hs
  rw [ha] at e1
  cases e1
  have il : i < ρ.length := (List.getElem?_eq_some_iff.mp h).1
  refine ⟨n2, R.s0.trans n1, fun b h1 h2 => ?_, R.bh.but e4 n4, fun b q z => ?_, by rw [List.length_set]; exact R.len, fun j d q => ?_, fun j s' fs q1 q2 => ?_, fun j k s1 s2 fs fs' b hb q1 q2 q3 q4 z1 z2 => ?_, (R.obs.sub (ρ' := ρ.set i (s.put ms')) fun j b st q => ⟨set_ob q put_ob, rfl⟩).keep (fun l vs q e => n4 l _ (fun z => R.bh.lB q (by rw [z]; exact e4)) e) n1⟩
  · exact n3 b (R.bh.nn h1) (R.sn b h1 h2)
  · cases q2 : H b with
    | none => exact R.ph b q q2
    | some o =>
      by_cases hb : b = a
      · subst hb; rw [n5] at z; cases z
      · rw [n4 b o hb q2] at z; cases z
  · rcases set_get q with ⟨rfl, z, hl⟩ | ⟨hj, q⟩
    · cases s <;> first | cases z | cases hs
    · obtain ⟨v, z1, z2⟩ := R.dat j d q
      exact ⟨v, z1, z2.mono n1⟩
  · rcases set_get q1 with ⟨rfl, rfl, hl⟩ | ⟨hj, q⟩
    · cases s with
      | no => cases hs
      | ob _ _ => cases hs
      | da _ => cases hs
      | ow z =>
        have q2' : some ms' = some fs := q2
        cases q2'
        refine ⟨a, mv', ha, n5, n3 a (none_ne e2) e3, e4, n6, fun z => ?_, fun z => nomatch z⟩
        have := e6.mp z
        cases this
      | pa z =>
        have q2' : some ms' = some fs := q2
        cases q2'
        refine ⟨a, mv', ha, n5, n3 a (none_ne e2) e3, e4, n6, fun _ => rfl, fun _ => e6.mpr ?_⟩
        have hs' : some z = some ms := hs
        cases hs'
        rfl
    · obtain ⟨b, vs', z1, z2, z3, z4, z5, z6⟩ := R.own j s' fs q q2
      have hba : b ≠ a := fun z => by
        subst z
        exact R.dis j i s' s fs ms b hj q q2 h hs z1 ha
      exact ⟨b, vs', z1, n4 b _ hba z2, n3 b (none_ne z2) z3, z4, z5.mono n1, z6⟩
  · have fix : ∀ {k : Nat} {s2 : Sl} {fs' : List PyData}, (ρ.set i (s.put ms'))[k]? = some s2 → s2.ls = some fs' → ∃ (s3 : Sl) (fs3 : List PyData), ρ[k]? = some s3 ∧ s3.ls = some fs3 := fun {k s2 fs'} q q' => by
      rcases set_get q with ⟨rfl, rfl, hl⟩ | ⟨hj, q⟩
      · exact ⟨s, ms, h, hs⟩
      · exact ⟨s2, fs', q, q'⟩
    obtain ⟨s3, f3, y1, y2⟩ := fix q1 q2
    obtain ⟨s4, f4, y3, y4⟩ := fix q3 q4
    exact R.dis j k s3 s4 f3 f4 b hb y1 y2 y3 y4 z1 z2
end
section
variable {X : Cx} {e : Expr} {es : List Expr} {g : AF} {k j : Nat} {f : Addr} {fd : FuncData} {ps : List Str} {F : List PyData → List PyData → Option (Rv × List PyData)} {x : Str} {p pos : Pos} {K : PySem.W.Frag}
theorem rd_callO : ∀ σ H Q, rdE K (eCallO j F g) σ H Q → tCall (spB K j F) [] E0 (rdA K g) σ H Q := fun σ H Q ⟨t, S, ρ, r, ρ', R, e, k⟩ => by
  obtain ⟨rs, ρ1, q1, e⟩ := ob_some e
  obtain ⟨rj, q2, e⟩ := ol_some e
  obtain ⟨i, q3, e⟩ := ol_some e
  obtain ⟨ds, ρ2, q4, e⟩ := ob_some e
  obtain ⟨s, q5, e⟩ := ol_some e
  obtain ⟨ms, q6, e⟩ := ol_some e
  obtain ⟨r', ms', q7, e⟩ := ob_some e
  cases e
  cases boI_some q3
  refine ⟨t, S, ρ, rs, ρ1, R, q1, fun vs H1 S1 R1 s1 o1 => ?_⟩
  obtain ⟨v, g1, g2⟩ := o1.get q2
  obtain ⟨S2, s2, R2, d2⟩ := R1.stos (o1.erase j) q4
  obtain ⟨a, mv, e1, e2, e3, e4, e5, e6⟩ := R2.own i s ms q5 q6
  have g2' : σ[i]? = some (some v) := g2
  rw [g2'] at e1
  cases e1
  refine ⟨S2, a, ms, ds, mv, _, ms', R2.sh, by rw [List.append_nil]; exact g1, e2, e3, e5, by rw [List.append_nil]; exact d2, q7, fun v H' S' mv' n1 n2 n3 n4 n5 n6 o => ?_⟩
  have R3 := R2.after q5 q6 g2' n1 n2 n3 n4 n5 n6
  refine k v H' S' R3 ((s1.trans s2).trans n1) ?_
  cases r with
  | da d => exact o
  | bo i => exact False.elim o
  | fr fs =>
    obtain ⟨b, ws, z, h1, h2, h3, h4⟩ := o
    refine ⟨b, ws, z, h2, h3, R2.bh.free h1, fun y => R2.ph b y h1, h4, fun l s' ds' y1 y2 y => ?_⟩
    obtain ⟨c, us, y3, y4, _⟩ := R3.own l s' ds' y1 y2
    rw [y] at y3
    cases y3
    rcases set_get y1 with ⟨rfl, _, _⟩ | ⟨hl, y1⟩
    · rw [y] at g2'
      cases g2'
      rw [h1] at e2
      cases e2
    · obtain ⟨c', us', w1, w2, _⟩ := R2.own l s' ds' y1 y2
      rw [y] at w1
      cases w1
      rw [h1] at w2
      cases w2
theorem ok_callO (C : FnOk X.prog X.w X.K X.mg X.base CX0 k f fd ps (spB X.K j F)) (hr : Room k X.A) (hg : Gl X x) (hm : X.mg x = some (.ref f)) (hk : PySem.W.keepIn X.K (.ref f) = true) (hb : Binds X.K fd ps [])
    (ha : OkA X (e :: es) g) (hdb : (x == ("__debug__" : Str)) = false := by decide) (he : starEach (e :: es) X.env = (false, eval e X.env) :: starEach es X.env := by rfl) (hpl : (backTo pos (starEach es X.env)).any (·.1) = false := by rfl) :
    OkE X (.Call (.Name x p) (e :: es) [] pos) (eCallO j F g) := pe_imp (pe_call C hr hg hm hk hb .nil pass0 ha hdb he hpl) rd_callO
end
end DL
/-! The data layer 6: statements, targets. -/
namespace DL
open PySem L2

inductive Out where
  | nx (ρ : En) | rt (r : Rv) (ρ : En) | bk (ρ : En) | ct (ρ : En)
abbrev SF := En → Option Out
def OutOk (K : PySem.W.Frag) (t : Et) (S : Hp) (n : Nat) (D : Ends) : Out → Prop
  | .nx ρ' => ∀ σ' H' S', Rep K t S' H' σ' ρ' → Same S S' → σ'.length = n → D.nx σ' H'
  | .bk ρ' => ∀ σ' H' S', Rep K t S' H' σ' ρ' → Same S S' → σ'.length = n → D.bk σ' H'
  | .ct ρ' => ∀ σ' H' S', Rep K t S' H' σ' ρ' → Same S S' → σ'.length = n → D.ct σ' H'
  | .rt r ρ' => ∀ v σ' H' S', Rep K t S' H' σ' ρ' → Same S S' → RvOk K t S' H' σ' ρ' v r → D.rt v H'
def rdS (K : PySem.W.Frag) (f : SF) : TS := fun D σ H => ∃ (t : Et) (S : Hp) (ρ : En) (o : Out), Rep K t S H σ ρ ∧ f ρ = some o ∧ OutOk K t S σ.length D o
abbrev OkS (X : Cx) (st : Stmt) (f : SF) : Prop := PS X st (rdS X.K f)
abbrev OkSs (X : Cx) (st : List Stmt) (f : SF) : Prop := PSs X st (rdS X.K f)
theorem OutOk.mono {K : PySem.W.Frag} {t : Et} {S S1 : Hp} {n : Nat} {D : Ends} {o : Out} (h : OutOk K t S n D o) (e : Same S S1) : OutOk K t S1 n D o := by
  cases o with
  | nx ρ' => exact fun σ' H' S' R s l => h σ' H' S' R (e.trans s) l
  | bk ρ' => exact fun σ' H' S' R s l => h σ' H' S' R (e.trans s) l
  | ct ρ' => exact fun σ' H' S' R s l => h σ' H' S' R (e.trans s) l
  | rt r ρ' => exact fun v σ' H' S' R s o => h v σ' H' S' R (e.trans s) o

def sNil : SF := fun ρ => some (.nx ρ)
def andThen (o : Out) (g : SF) : Option Out := match o with
  | .nx ρ => g ρ
  | .rt r ρ => some (.rt r ρ)
  | .bk ρ => some (.bk ρ)
  | .ct ρ => some (.ct ρ)
@[simp] theorem andThen_nx (ρ : En) (g : SF) : andThen (.nx ρ) g = g ρ := rfl
@[simp] theorem andThen_rt (r : Rv) (ρ : En) (g : SF) : andThen (.rt r ρ) g = some (.rt r ρ) := rfl
@[simp] theorem andThen_bk (ρ : En) (g : SF) : andThen (.bk ρ) g = some (.bk ρ) := rfl
@[simp] theorem andThen_ct (ρ : En) (g : SF) : andThen (.ct ρ) g = some (.ct ρ) := rfl
def sSeq (a b : SF) : SF := fun ρ => ol (a ρ) fun o => andThen o b
def sDrop (e : EF) : SF := fun ρ => ob (e ρ) fun _ ρ1 => some (.nx ρ1)
/-- what is handed back: a list that only this frame holds is the caller's from then on -/
def retS (ρ : En) (i : Nat) : Sl → Option Out
  | .ow ds => some (.rt (.fr ds) (ρ.set i .no))
  | .da d => some (.rt (.da d) ρ)
  | .pa _ => none
  | .no => none
  | .ob _ _ => none
def retR (ρ : En) : Rv → Option Out
  | .da d => some (.rt (.da d) ρ)
  | .fr ds => some (.rt (.fr ds) ρ)
  | .bo i => ol ρ[i]? (retS ρ i)
def sRet (e : EF) : SF := fun ρ => ob (e ρ) fun r ρ1 => retR ρ1 r
def sRetN : SF := fun ρ => some (.rt (.da .none) ρ)
def sIf (c : TF) (a b : SF) : SF := fun ρ => ob (c ρ) fun k ρ1 => if k = true then a ρ1 else b ρ1
def sPass : SF := fun ρ => some (.nx ρ)
def sBreak : SF := fun ρ => some (.bk ρ)
def sCont : SF := fun ρ => some (.ct ρ)
def sNever : SF := fun _ => none
section
variable {X : Cx} {K : PySem.W.Frag} {st : Stmt} {rest : List Stmt} {f g : SF} {e : Expr} {fe : EF} {pos : Pos} {c : Expr} {a b : List Stmt} {tc : TF}
theorem okSs_nil : OkSs X [] sNil := pss_imp pss_nil fun D σ H ⟨t, S, ρ, o, R, e, k⟩ => by
  cases e
  exact k σ H S R (Same.refl _) rfl
theorem okSs_cons (h1 : OkS X st f) (h2 : OkSs X rest g) : OkSs X (st :: rest) (sSeq f g) := pss_imp (pss_cons h1 h2) fun D σ H ⟨t, S, ρ, o, R, e, k⟩ => by
  obtain ⟨o1, q1, e⟩ := ol_some e
  refine ⟨t, S, ρ, o1, R, q1, ?_⟩
  cases o1 with
  | nx ρ1 => exact fun σ' H' S' R' s l => ⟨t, S', ρ1, o, R', e, by rw [l]; exact k.mono s⟩
  | rt r ρ1 => cases e; exact k
  | bk ρ1 => cases e; exact k
  | ct ρ1 => cases e; exact k
theorem okSs_one (h1 : OkS X st f) : OkSs X [st] f := pss_one h1
theorem okS_expr (he : OkE X e fe) (hs : swapsWith e none pos.line X.env = pure false := by rfl) : OkS X (.Expr e pos) (sDrop fe) := ps_imp (ps_expr he hs) fun D σ H ⟨t, S, ρ, o, R, e, k⟩ => by
  obtain ⟨r, ρ1, q1, e⟩ := ob_some e
  cases e
  exact ⟨t, S, ρ, r, _, R, q1, fun v H1 S1 R1 s1 o1 => k σ H1 S1 R1 s1 rfl⟩
theorem okS_ret (he : OkE X e fe) : OkS X (.Return (some e) pos) (sRet fe) := ps_imp (ps_ret he) fun D σ H ⟨t, S, ρ, o, R, e, k⟩ => by
  obtain ⟨r, ρ1, q1, e⟩ := ob_some e
  refine ⟨t, S, ρ, r, ρ1, R, q1, fun v H1 S1 R1 s1 o1 => ?_⟩
  cases r with
  | da d => cases e; exact k v σ H1 S1 R1 s1 o1
  | fr ds => cases e; exact k v σ H1 S1 R1 s1 o1
  | bo i =>
    obtain ⟨s, q2, e⟩ := ol_some e
    have o1' : σ[i]? = some (some v) := o1
    cases s with
    | no => cases e
    | ob _ _ => cases e
    | pa ds => cases e
    | da d =>
      cases e
      obtain ⟨u, z1, z2⟩ := R1.dat i _ q2
      rw [o1'] at z1
      cases z1
      exact k v σ H1 S1 R1 s1 z2
    | ow ds =>
      cases e
      obtain ⟨x, vs, e1, e2, e3, e4, e5, e6⟩ := R1.own i _ ds q2 rfl
      rw [o1'] at e1
      cases e1
      refine k _ σ H1 S1 (R1.drop i) s1 ⟨x, vs, rfl, e2, e3, e4, fun z => ?_, e5, fun j s' ds' y1 y2 y => ?_⟩
      · have := e6.mp z
        cases this
      · rcases set_get y1 with ⟨rfl, rfl, _⟩ | ⟨hj, y1⟩
        · cases y2
        · exact R1.dis j i s' _ ds' ds x hj y1 y2 q2 rfl y o1'
theorem okS_retN : OkS X (.Return none pos) sRetN := ps_imp ps_retN fun D σ H ⟨t, S, ρ, o, R, e, k⟩ => by
  cases e
  exact k .non σ H S R (Same.refl _) .non
theorem okS_if (hc : OkT X c tc) (ha : OkSs X a f) (hb : OkSs X b g) : OkS X (.If c a b pos) (sIf tc f g) := ps_imp (ps_if hc ha hb) fun D σ H ⟨t, S, ρ, o, R, e, k⟩ => by
  obtain ⟨kb, ρ1, q1, e⟩ := ob_some e
  refine ⟨t, S, ρ, kb, ρ1, R, q1, fun H1 S1 R1 s1 => ?_⟩
  cases kb with
  | true => exact iteT ⟨t, S1, ρ1, o, R1, by simpa using e, k.mono s1⟩
  | false => exact iteF ⟨t, S1, ρ1, o, R1, by simpa using e, k.mono s1⟩
theorem okS_pass : OkS X (.Pass pos) sPass := ps_imp ps_pass fun D σ H ⟨t, S, ρ, o, R, e, k⟩ => by
  cases e
  exact k σ H S R (Same.refl _) rfl
theorem okS_break : OkS X (.Break pos) sBreak := ps_imp ps_break fun D σ H ⟨t, S, ρ, o, R, e, k⟩ => by
  cases e
  exact k σ H S R (Same.refl _) rfl
theorem okS_cont : OkS X (.Continue pos) sCont := ps_imp ps_continue fun D σ H ⟨t, S, ρ, o, R, e, k⟩ => by
  cases e
  exact k σ H S R (Same.refl _) rfl
theorem okS_never : OkS X st sNever := ps_imp ps_never fun D σ H ⟨t, S, ρ, o, R, e, k⟩ => by cases e
theorem okSs_never {sts : List Stmt} : OkSs X sts sNever := pss_imp pss_never fun D σ H ⟨t, S, ρ, o, R, e, k⟩ => by cases e
end

/-! ### targets -/
abbrev GF := Rv → En → Option En
abbrev GFs := List PyData → En → Option En
def rdG (K : PySem.W.Frag) (ws : List Nat) (g : GF) : TG := fun v σ H Q => ∃ (t : Et) (S : Hp) (ρ : En) (r : Rv) (ρ' : En), Rep K t S H σ ρ ∧ RvOk K t S H σ ρ v r ∧ g r ρ = some ρ' ∧
  ∀ σ' H' S', Rep K t S' H' σ' ρ' → Same S S' → (∀ j, j ∉ ws → σ'[j]? = σ[j]?) → σ'.length = σ.length → Q σ' H'
def rdGs (K : PySem.W.Frag) (ws : List Nat) (g : GFs) : TGs := fun vs σ H Q => ∃ (t : Et) (S : Hp) (ρ : En) (ds : List PyData) (ρ' : En), Rep K t S H σ ρ ∧ DaAll K S vs ds ∧ g ds ρ = some ρ' ∧
  ∀ σ' H' S', Rep K t S' H' σ' ρ' → Same S S' → (∀ j, j ∉ ws → σ'[j]? = σ[j]?) → σ'.length = σ.length → Q σ' H'
structure OkG (X : Cx) (e : Expr) (ws : List Nat) (g : GF) : Prop where
  run : PG X e (rdG X.K ws g)
structure OkGs (X : Cx) (es : List Expr) (ws : List Nat) (g : GFs) : Prop where
  run : PGs X es (rdGs X.K ws g)
theorem pgs_imp {X : Cx} {e : List Expr} {u u' : TGs} (h : PGs X e u) (i : ∀ v σ H Q, u' v σ H Q → u v σ H Q) : PGs X e u' := ⟨fun pins s σ H v w Q I r hw => h.run pins s σ H v w Q I r (i v σ H Q hw)⟩
def setS (i : Nat) (ρ : En) (s : Sl) : Option En := match ρ[i]? with
  | some (.pa _) => none
  | some _ => some (ρ.set i s)
  | none => none
def gNm (i : Nat) : GF := fun r ρ => match r with
  | .da d => setS i ρ (.da d)
  | .fr ds => setS i ρ (.ow ds)
  | .bo j => ob (sto ρ (.bo j)) fun d ρ1 => setS i ρ1 (.da d)
def gNil : GFs := fun ds ρ => match ds with
  | [] => some ρ
  | _ => none
def gCons (g : GF) (gs : GFs) : GFs := fun ds ρ => match ds with
  | d :: ds => ol (g (.da d) ρ) fun ρ1 => gs ds ρ1
  | [] => none
def gTup (n : Nat) (gs : GFs) : GF := fun r ρ => match r with
  | .da (.tuple ds) => if ds.length = n then gs ds ρ else none
  | _ => none
/-- xs[e] = v -/
def gSub (i : Nat) (f : EF) : GF := fun r ρ => ob (sto ρ r) fun d ρ0 => ol ρ0[i]? fun s0 => ol s0.ls fun _ => ob (f ρ0) fun x ρ1 => ol (intR x) fun k => ol ρ1[i]? fun s => ol s.ls fun ds => ol (ixN ds.length k) fun j => some (ρ1.set i (s.put (ds.set j d)))
theorem setS_some {i : Nat} {ρ ρ' : En} {s : Sl} (h : setS i ρ s = some ρ') : ρ' = ρ.set i s ∧ ∀ ds, ρ[i]? ≠ some (.pa ds) := by
  unfold setS at h
  split at h
  · cases h
  · rename_i s' e hs
    cases h
    refine ⟨rfl, fun ds z => ?_⟩
    rw [hs] at z
    cases z
    exact e ds rfl
  · cases h
section
variable {X : Cx} {K : PySem.W.Frag} {pos : Pos}
theorem set_other {σ : L2.St} {i : Nat} {v : Option V} : ∀ j, j ∉ [i] → (σ.set i v)[j]? = σ[j]? := fun j hj => by
  rw [List.getElem?_set_ne]
  intro z
  subst z
  exact hj (by simp)
theorem rd_gNm (i : Nat) : ∀ v σ H Q, rdG K [i] (gNm i) v σ H Q → gName i v σ H Q := fun v σ H Q ⟨t, S, ρ, r, ρ', R, o, e, k⟩ => by
  cases r with
  | da d =>
    obtain ⟨rfl, hp⟩ := setS_some e
    exact k _ H S (R.setD o hp) (Same.refl _) set_other (List.length_set)
  | fr ds =>
    obtain ⟨rfl, hp⟩ := setS_some e
    exact k _ H S (R.setO o hp) (Same.refl _) set_other (List.length_set)
  | bo j =>
    obtain ⟨d, ρ1, q, e⟩ := ob_some (show ob (sto ρ (.bo j)) (fun d ρ1 => setS i ρ1 (.da d)) = some ρ' from e)
    obtain ⟨rfl, hp⟩ := setS_some e
    obtain ⟨S1, s1, R1, d1⟩ := R.stoO o q
    exact k _ H S1 (R1.setD d1 hp) s1 set_other (List.length_set)
theorem okG_name (i : Nat) {x : Str} (hN : X.N.Nodup) (hi : X.N[i]? = some x) (hx : Loc X.env.scope x) (hf : X.fn x = true ∨ X.env.scope.names.lookup x = some .local := by first | exact .inl rfl | exact .inr rfl | assumption) : OkG X (.Name x pos) [i] (gNm i) :=
  ⟨pg_imp (pg_name hN hi hx hf) (rd_gNm i)⟩
theorem okGs_nil : OkGs X [] [] gNil := ⟨pgs_imp pgs_nil fun vs σ H Q ⟨t, S, ρ, ds, ρ', R, o, e, k⟩ => by
  cases ds with
  | nil =>
    cases e
    cases o
    exact ⟨rfl, k σ H S R (Same.refl _) (fun _ _ => rfl) rfl⟩
  | cons _ _ => cases e⟩
theorem okGs_cons {e : Expr} {es : List Expr} {ws ws' : List Nat} {g : GF} {gs : GFs} (h1 : OkG X e ws g) (h2 : OkGs X es ws' gs) (hs : (assignEach (e :: es) X.env).map (·.2) = assign e X.env :: (assignEach es X.env).map (·.2) := by rfl) : OkGs X (e :: es) (ws ++ ws') (gCons g gs) :=
  ⟨pgs_imp (pgs_cons h1.run h2.run hs) fun vs σ H Q ⟨t, S, ρ, ds, ρ', R, o, e, k⟩ => by
    cases ds with
    | nil => cases e
    | cons d ds =>
      cases o with
      | cons o1 o2 =>
        obtain ⟨ρ1, q1, e⟩ := ol_some e
        refine ⟨_, _, rfl, t, S, ρ, .da d, ρ1, R, o1, q1, fun σ1 H1 S1 R1 s1 f1 l1 => ?_⟩
        refine ⟨t, S1, ρ1, ds, ρ', R1, o2.mono s1, e, fun σ2 H2 S2 R2 s2 f2 l2 => ?_⟩
        exact k σ2 H2 S2 R2 (s1.trans s2) (fun j hj => by
          rw [f2 j (fun z => hj (List.mem_append_right _ z)), f1 j (fun z => hj (List.mem_append_left _ z))]) (l2.trans l1)⟩
theorem okG_tup {es : List Expr} {kk n : Nat} {ws : List Nat} {gs : GFs} (hc : X.calm = true) (h : OkGs X es ws gs) (hn : (assignEach es X.env).length = n := by rfl) (hst : (assignEach es X.env).findIdx? (·.1) = none := by rfl) :
    OkG X (.Tuple es kk pos) ws (gTup n gs) := ⟨pg_imp (pg_tup hc h.run hn hst) fun v σ H Q ⟨t, S, ρ, r, ρ', R, o, e, k⟩ => by
  unfold gTup at e
  split at e
  · split at e
    · rename_i ds hl
      obtain ⟨a, vs, rfl, h1, h2⟩ := (Vw.of (H := H) (o : Da X.K S v (.tuple ds))).tup
      exact ⟨a, vs, rfl, SqT.of (R.sh _ _ h1), by rw [h2.length]; exact hl, t, S, ρ, ds, ρ', R, h2, e, k⟩
    · cases e
  · cases e⟩
theorem okG_sub {o ix : Expr} {i : Nat} {f : EF} (ho : PE X o (tVar i)) (hi : OkE X ix f) (ha : ∀ v, assign (.Subscript o ix pos) X.env v = (do
      let ov ← holding [v] (eval o X.env)
      let iv ← holding [v, ov] (eval ix X.env)
      standAt pos
      holding [v, ov, iv] (setItem ov iv v)
      release [v, ov, iv] []) := by intro _; rfl) : OkG X (.Subscript o ix pos) [] (gSub i f) := ⟨pg_imp (pg_sub ho hi set_list ha) fun v σ H Q ⟨t, S, ρ, r, ρ', R, o, e, k⟩ => by
  obtain ⟨d, ρ0, q1, e⟩ := ob_some e
  obtain ⟨s0, q2, e⟩ := ol_some e
  obtain ⟨ds0, q3, e⟩ := ol_some e
  obtain ⟨x, ρ1, q4, e⟩ := ob_some e
  obtain ⟨z, q5, e⟩ := ol_some e
  obtain ⟨s, q6, e⟩ := ol_some e
  obtain ⟨ds, q7, e⟩ := ol_some e
  obtain ⟨j, q8, e⟩ := ol_some e
  cases e
  cases intR_some q5
  obtain ⟨S1, s1, R1, d1⟩ := R.stoO o q1
  obtain ⟨a, vs, e1, e2, e3, e4⟩ := R1.ty (K := X.K) q2 q3
  refine ⟨_, e1, t, S1, ρ0, _, _, R1, q4, fun u H2 S2 R2 s2 o2 => ?_⟩
  obtain ⟨a', us, f1, f2, f3, f4⟩ := R2.ty (K := X.K) q6 q7
  rw [e1] at f1
  cases f1
  cases int_of o2
  refine ⟨a, us, z, j, rfl, rfl, f2, by rw [f3.length]; exact q8, ?_⟩
  exact k σ _ S2 (R2.mut q6 q7 e1 (f3.set (d1.mono s2) j)) (s1.trans s2) (fun _ _ => rfl) rfl⟩
end

/-! ### assignments -/
def sAsg (e : EF) (g : GF) : SF := fun ρ => ob (e ρ) fun r ρ1 => ol (g r ρ1) fun ρ2 => some (.nx ρ2)
section
variable {X : Cx} {K : PySem.W.Frag} {pos : Pos} {e tg : Expr} {fe : EF} {g : GF} {ws : List Nat}
theorem rd_asg {te : TE} {tgr : TG} (h1 : ∀ σ H Q, rdE K fe σ H Q → te σ H Q) (h2 : ∀ v σ H Q, rdG K ws g v σ H Q → tgr v σ H Q) : ∀ D σ H, rdS K (sAsg fe g) D σ H → tAsg te tgr D σ H := fun D σ H ⟨t, S, ρ, o, R, e, k⟩ => by
  obtain ⟨r, ρ1, q1, e⟩ := ob_some e
  obtain ⟨ρ2, q2, e⟩ := ol_some e
  cases e
  exact h1 σ H _ ⟨t, S, ρ, r, ρ1, R, q1, fun v H1 S1 R1 s1 o1 => h2 v σ H1 _ ⟨t, S1, ρ1, r, _, R1, o1, q2, fun σ2 H2 S2 R2 s2 _ l2 => k σ2 H2 S2 R2 (s1.trans s2) l2⟩⟩
theorem okS_asg (he : OkE X e fe) (hg : OkG X tg ws g) (hs : swapsWithSole [tg] e pos.line X.env = pure false := by rfl) (hw : swappedStores [tg] e X.env = pure none := by rfl)
    (h1 : (assignEach [tg] X.env).map (·.2) = [assign tg X.env] := by rfl) : OkS X (.Assign [tg] e pos) (sAsg fe g) := ps_imp (ps_asg he hg.run hs hw h1) (rd_asg (fun _ _ _ h => h) fun _ _ _ _ h => h)
theorem okS_set (i : Nat) {x : Str} {pos' : Pos} (hN : X.N.Nodup) (hi : X.N[i]? = some x) (hx : Loc X.env.scope x) (he : OkE X e fe) (hs : swapsWith e (some (.Name x pos')) pos.line X.env = pure false := by rfl)
    (hf : X.fn x = true ∨ X.env.scope.names.lookup x = some .local := by first | exact .inl rfl | exact .inr rfl | assumption) : OkS X (.Assign [.Name x pos'] e pos) (sAsg fe (gNm i)) :=
  ps_imp (ps_set hN hi hx he hs hf) (rd_asg (fun _ _ _ h => h) (rd_gNm i))
end

/-! ### a, b = x, y; a, b, c = x, y, z with plain names: new lists stay the frame's own -/
/-- what is kept till the stores: data or a new list -/
def pst (ρ : En) : Rv → Option (Rv × En)
  | .da d => some (.da d, ρ)
  | .fr ds => some (.fr ds, ρ)
  | .bo i => ob (sto ρ (.bo i)) fun d ρ1 => some (.da d, ρ1)
def pNil : AF := fun ρ => some ([], ρ)
def pCons (e : EF) (as : AF) : AF := fun ρ => ob (e ρ) fun x ρ1 => ob (pst ρ1 x) fun y ρ2 => ob (as ρ2) fun ys ρ3 => some (y :: ys, ρ3)
def isFr : Rv → Bool
  | .fr _ => true
  | _ => false
def isDF : Rv → Bool
  | .bo _ => false
  | _ => true
def RvsP (K : PySem.W.Frag) (t : Et) (S H : Hp) (σ : L2.St) (ρ : En) : List V → List Rv → Prop
  | [], [] => True
  | v :: vs, r :: rs => isDF r = true ∧ RvOk K t S H σ ρ v r ∧ (∀ (j : Nat) (u : V) (r' : Rv), vs[j]? = some u → rs[j]? = some r' → isFr r = true → isFr r' = true → v ≠ u) ∧ RvsP K t S H σ ρ vs rs
  | _, _ => False
def rdP (K : PySem.W.Frag) (f : AF) : TA := fun σ H Q => ∃ (t : Et) (S : Hp) (ρ : En) (r : List Rv) (ρ' : En), Rep K t S H σ ρ ∧ f ρ = some (r, ρ') ∧
  ∀ vs H' S', Rep K t S' H' σ ρ' → Same S S' → RvsP K t S' H' σ ρ' vs r → Q vs H'
abbrev OkP (X : Cx) (es : List Expr) (f : AF) : Prop := PA X es (rdP X.K f)
section
variable {X : Cx} {e : Expr} {es : List Expr} {f : EF} {g : AF} {K : PySem.W.Frag} {t : Et} {S S' H H' : Hp} {σ : L2.St} {ρ ρ' : En} {v : V} {r r' : Rv}
theorem Rep.pst (R : Rep K t S H σ ρ) (h : RvOk K t S H σ ρ v r) (e : DL.pst ρ r = some (r', ρ')) : ∃ S', Same S S' ∧ Rep K t S' H σ ρ' ∧ RvOk K t S' H σ ρ' v r' ∧ isDF r' = true := by
  cases r with
  | da d => cases e; exact ⟨S, Same.refl _, R, h, rfl⟩
  | fr ds => cases e; exact ⟨S, Same.refl _, R, h, rfl⟩
  | bo i =>
    obtain ⟨d, ρ1, q, e⟩ := ob_some (show ob (sto ρ (.bo i)) (fun d ρ1 => some (Rv.da d, ρ1)) = some (r', ρ') from e)
    cases e
    obtain ⟨S1, s1, R1, d1⟩ := R.stoO h q
    exact ⟨S1, s1, R1, d1, rfl⟩
theorem RvsP.unbase (R : Rep K t S H σ ρ) : ∀ {vs : List V} {rs : List Rv}, RvsP K (t.re S H σ ρ) S' H' σ ρ' vs rs → RvsP K t S' H' σ ρ' vs rs
  | [], [], _ => trivial
  | v :: vs, r :: rs, h => ⟨h.1, h.2.1.unbase R, h.2.2.1, RvsP.unbase R h.2.2.2⟩
  | [], _ :: _, h => h.elim
  | _ :: _, [], h => h.elim
theorem RvsP.fresh : ∀ {vs : List V} {rs : List Rv} {j : Nat} {u : V} {r : Rv}, RvsP K t S H σ ρ vs rs → vs[j]? = some u → rs[j]? = some r → isFr r = true → ∃ a, u = .ref a ∧ t.B a = none
  | [], [], _, _, _, _, e, _, _ => by simp at e
  | v :: vs, r :: rs, 0, _, _, h, e1, e2, e3 => by
    simp at e1 e2
    subst e1 e2
    cases r with
    | da d => cases e3
    | bo i => cases e3
    | fr ds =>
      obtain ⟨a, us, z, _, _, h3, _⟩ := h.2.1
      exact ⟨a, z, h3⟩
  | v :: vs, r :: rs, j + 1, _, _, h, e1, e2, e3 => RvsP.fresh (j := j) h.2.2.2 (by simpa using e1) (by simpa using e2) e3
  | [], _ :: _, _, _, _, h, _, _, _ => h.elim
  | _ :: _, [], _, _, _, h, _, _, _ => h.elim
/-- a new list that waits, behind an evaluation in which it was told to stay -/
theorem RvOk.wait (R : Rep K t S H σ ρ) (h : RvOk K t S H σ ρ v r) (hd : isDF r = true) (R' : Rep K (t.re S H σ ρ) S' H' σ ρ') : RvOk K t S' H' σ ρ' v r ∧ (isFr r = true → ∃ a, v = .ref a ∧ (t.re S H σ ρ).B a ≠ none) := by
  cases r with
  | bo i => cases hd
  | da d => exact ⟨Da.mono R'.s0 h, fun z => nomatch z⟩
  | fr ds =>
    obtain ⟨a, vs, rfl, h1, h2, h3, h4, h5, h6⟩ := h
    have hc : cut H σ ρ a = some (.lst vs) := cut_of h1 h6
    refine ⟨⟨a, vs, rfl, R'.bh.get (a := a) hc (R.bh.nlk h3), ?_, h3, h4, h5.mono R'.s0, fun i s ds' q1 q2 q => ?_⟩, fun _ => ⟨a, rfl, none_ne hc⟩⟩
    · exact R'.sn a (none_ne hc) h2
    · obtain ⟨b, us, z1, z2, z3, z4, _⟩ := R'.own i s ds' q1 q2
      rw [q] at z1
      cases z1
      have z4' : cut H σ ρ a = none := z4
      rw [hc] at z4'
      cases z4'
theorem okP_nil : OkP X [] pNil := pa_imp pa_nil fun σ H Q ⟨t, S, ρ, r, ρ', R, e, k⟩ => by
  cases e
  exact k [] H S R (Same.refl _) trivial
theorem okP_cons (he : OkE X e f) (hr : OkP X es g) (hs : starEach (e :: es) X.env = (false, eval e X.env) :: starEach es X.env := by rfl) : OkP X (e :: es) (pCons f g) :=
  pa_imp (pa_cons he hr hs) fun σ H Q ⟨t, S, ρ, r, ρ', R, e, k⟩ => by
    obtain ⟨x, ρ1, q1, e⟩ := ob_some e
    obtain ⟨y, ρ2, q2, e⟩ := ob_some e
    obtain ⟨ys, ρ3, q3, e⟩ := ob_some e
    cases e
    refine ⟨t, S, ρ, x, ρ1, R, q1, fun v1 H1 S1 R1 s1 o1 => ?_⟩
    obtain ⟨S2, s2, R2, o2, d2⟩ := R1.pst o1 q2
    refine ⟨t.re S2 H1 σ ρ2, S2, ρ2, ys, _, R2.base, q3, fun vs H3 S3 R3 s3 o3 => ?_⟩
    obtain ⟨w1, w2⟩ := RvOk.wait R2 o2 d2 R3
    refine k (v1 :: vs) H3 S3 (R2.unbase R3) ((s1.trans s2).trans s3) ⟨d2, w1, fun j u r' p1 p2 p3 p4 z => ?_, o3.unbase R2⟩
    obtain ⟨a, ea, hb⟩ := w2 p3
    obtain ⟨b, eb, hn⟩ := o3.fresh p1 p2 p4
    rw [ea, eb] at z
    cases z
    exact hb hn
/-- a store of one that waited, the others still wait -/
theorem RvOk.stored {i : Nat} {u : V} (R : Rep K t S H σ ρ) (h : RvOk K t S H σ ρ v r) (hd : isDF r = true) {r2 : Rv} (h2 : RvOk K t S H σ ρ u r2) (hd2 : isDF r2 = true) (hne : isFr r = true → isFr r2 = true → v ≠ u) {ρ1 : En} (e : gNm i r ρ = some ρ1) :
    Rep K t S H (σ.set i (some v)) ρ1 ∧ RvOk K t S H (σ.set i (some v)) ρ1 u r2 := by
  have R1 : Rep K t S H (σ.set i (some v)) ρ1 := by
    cases r with
    | bo j => cases hd
    | da d =>
      obtain ⟨rfl, hp⟩ := setS_some e
      exact R.setD h hp
    | fr ds =>
      obtain ⟨rfl, hp⟩ := setS_some e
      exact R.setO h hp
  refine ⟨R1, ?_⟩
  cases r2 with
  | bo j => cases hd2
  | da d => exact h2
  | fr ds =>
    obtain ⟨a, vs, rfl, h1, g2, g3, g4, g5, g6⟩ := h2
    refine ⟨a, vs, rfl, h1, g2, g3, g4, g5, fun j s ds' q1 q2 q => ?_⟩
    by_cases hj : j = i
    · subst hj
      have hl : j < σ.length := by
        have := (List.getElem?_eq_some_iff.mp q1).1
        rw [← R1.len, List.length_set] at this
        exact this
      rw [List.getElem?_set_self hl] at q
      cases q
      cases r with
      | bo j => cases hd
      | fr ds => exact hne rfl rfl rfl
      | da d =>
        obtain ⟨rfl, hp⟩ := setS_some e
        rw [List.getElem?_set_self (by rw [← R.len]; exact hl)] at q1
        cases q1
        cases q2
    · rw [List.getElem?_set_ne (fun z => hj z.symm)] at q
      have q1' : ρ[j]? = some s := by
        cases r with
        | bo j => cases hd
        | da d =>
          obtain ⟨rfl, hp⟩ := setS_some e
          rw [List.getElem?_set_ne (fun z => hj z.symm)] at q1
          exact q1
        | fr ds =>
          obtain ⟨rfl, hp⟩ := setS_some e
          rw [List.getElem?_set_ne (fun z => hj z.symm)] at q1
          exact q1
      exact g6 j s ds' q1' q2 q
end
def two? : List Rv → Option (Rv × Rv)
  | [a, b] => some (a, b)
  | _ => none
def sPar (i j : Nat) (as : AF) : SF := fun ρ => ob (as ρ) fun rs ρ1 => ob (two? rs) fun a b => ol (gNm i a ρ1) fun ρ2 => ol (gNm j b ρ2) fun ρ3 => some (.nx ρ3)
def three? : List Rv → Option (Rv × (Rv × Rv))
  | [a, b, c] => some (a, (b, c))
  | _ => none
def sPar3 (i j l : Nat) (as : AF) : SF := fun ρ => ob (as ρ) fun rs ρ1 => ob (three? rs) fun a bc => ol (gNm i a ρ1) fun ρ2 => ol (gNm j bc.1 ρ2) fun ρ3 => ol (gNm l bc.2 ρ3) fun ρ4 => some (.nx ρ4)
section
variable {X : Cx} {K : PySem.W.Frag} {g : AF} {pos : Pos}
theorem two_some {rs : List Rv} {a b : Rv} (h : two? rs = some (a, b)) : rs = [a, b] := by
  unfold two? at h
  split at h
  · cases h; rfl
  · cases h
theorem three_some {rs : List Rv} {a : Rv} {b : Rv × Rv} (h : three? rs = some (a, b)) : rs = [a, b.1, b.2] := by
  unfold three? at h
  split at h
  · cases h; rfl
  · cases h
theorem RvOk.last {t : Et} {S H : Hp} {σ : L2.St} {ρ ρ1 : En} {v : V} {r : Rv} {i : Nat} (R : Rep K t S H σ ρ) (h : RvOk K t S H σ ρ v r) (hd : isDF r = true) (e : gNm i r ρ = some ρ1) : Rep K t S H (σ.set i (some v)) ρ1 :=
  (RvOk.stored (u := .non) (r2 := .da .none) R h hd (show Da K S .non .none from .non) rfl (fun _ z => nomatch z) e).1
theorem rd_par {i j : Nat} : ∀ D σ H, rdS K (sPar i j g) D σ H → tPar i j (rdP K g) D σ H := fun D σ H ⟨t, S, ρ, o, R, e, k⟩ => by
  obtain ⟨rs, ρ1, q1, e⟩ := ob_some e
  obtain ⟨a, b, q2, e⟩ := ob_some e
  obtain ⟨ρ2, q3, e⟩ := ol_some e
  obtain ⟨ρ3, q4, e⟩ := ol_some e
  cases e
  cases two_some q2
  refine ⟨t, S, ρ, _, ρ1, R, q1, fun vs H1 S1 R1 s1 o1 => ?_⟩
  match vs, o1 with
  | [v, w], ⟨d1, h1, n1, d2, h2, _, _⟩ =>
    obtain ⟨R2, h2'⟩ := RvOk.stored R1 h1 d1 h2 d2 (fun z1 z2 => n1 0 w b rfl rfl z1 z2) q3
    have R3 := RvOk.last R2 h2' d2 q4
    exact ⟨v, w, rfl, k _ H1 S1 R3 s1 (by rw [List.length_set, List.length_set])⟩
theorem rd_par3 {i j l : Nat} : ∀ D σ H, rdS K (sPar3 i j l g) D σ H → tPar3 i j l (rdP K g) D σ H := fun D σ H ⟨t, S, ρ, o, R, e, k⟩ => by
  obtain ⟨rs, ρ1, q1, e⟩ := ob_some e
  obtain ⟨a, bc, q2, e⟩ := ob_some e
  obtain ⟨ρ2, q3, e⟩ := ol_some e
  obtain ⟨ρ3, q4, e⟩ := ol_some e
  obtain ⟨ρ4, q5, e⟩ := ol_some e
  cases e
  cases three_some q2
  refine ⟨t, S, ρ, _, ρ1, R, q1, fun vs H1 S1 R1 s1 o1 => ?_⟩
  match vs, o1 with
  | [u, v, w], ⟨d1, h1, n1, d2, h2, n2, d3, h3, _, _⟩ =>
    obtain ⟨R2, h2'⟩ := RvOk.stored R1 h1 d1 h2 d2 (fun z1 z2 => n1 0 v bc.1 rfl rfl z1 z2) q3
    obtain ⟨_, h3'⟩ := RvOk.stored R1 h1 d1 h3 d3 (fun z1 z2 => n1 1 w bc.2 rfl rfl z1 z2) q3
    obtain ⟨R3, h3''⟩ := RvOk.stored R2 h2' d2 h3' d3 (fun z1 z2 => n2 0 w bc.2 rfl rfl z1 z2) q4
    have R4 := RvOk.last R3 h3'' d3 q5
    exact ⟨u, v, w, rfl, k _ H1 S1 R4 s1 (by rw [List.length_set, List.length_set, List.length_set])⟩
theorem okS_par (i j : Nat) {x y : Str} {a b : Expr} {px py pt : Pos} {kt k2 pt2} (hc : X.calm = true) (hN : X.N.Nodup) (hi : X.N[i]? = some x) (hj : X.N[j]? = some y) (hij : i ≠ j)
    (hx : X.env.scope.names.lookup x = some .local) (hy : X.env.scope.names.lookup y = some .local) (ha : OkP X [a, b] g)
    (hw : swappedStores [.Tuple [.Name x px, .Name y py] kt pt] (.Tuple [a, b] k2 pt2) X.env = pure (some [x, y]) := by rfl)
    (hs : swapsWithSole [.Tuple [.Name x px, .Name y py] kt pt] (.Tuple [a, b] k2 pt2) pos.line X.env = pure false := by rfl) :
    OkS X (.Assign [.Tuple [.Name x px, .Name y py] kt pt] (.Tuple [a, b] k2 pt2) pos) (sPar i j g) := ps_imp (ps_par hc hN hi hj hij hx hy ha hw hs) rd_par
theorem okS_par3 (i j l : Nat) {x y z : Str} {a b c : Expr} {px py pz pt : Pos} {kt k2 pt2} (hc : X.calm = true) (hN : X.N.Nodup) (hi : X.N[i]? = some x) (hj : X.N[j]? = some y) (hl : X.N[l]? = some z) (hij : i ≠ j) (hil : i ≠ l) (hjl : j ≠ l)
    (h : ∀ ta, PA X [a, b, c] ta → PS X (.Assign [.Tuple [.Name x px, .Name y py, .Name z pz] kt pt] (.Tuple [a, b, c] k2 pt2) pos) (tPar3 i j l ta)) (ha : OkP X [a, b, c] g) :
    OkS X (.Assign [.Tuple [.Name x px, .Name y py, .Name z pz] kt pt] (.Tuple [a, b, c] k2 pt2) pos) (sPar3 i j l g) := ps_imp (h _ ha) rd_par3
end
end DL
/-! The data layer 7: what is walked. -/
namespace DL
open PySem L2 PySem.Spec PyProof.Rows

/-! ### enumerate and zip over lists and tuples in any mix -/
/-- k: a tuple; else a list -/
def IsItB (k : Bool) (h : Heap) (it a : Addr) (i : Nat) : Prop := match k with
  | true => h.IsTupleIter it a i
  | false => h.IsListIter it a i
def SqB (k : Bool) (K : PySem.W.Frag) (H : Hp) (a : Addr) (xs : List V) : Prop := match k with
  | true => SqT K H a xs
  | false => SqL K H a xs
def IsSeqB (k : Bool) (h : Heap) (a : Addr) (items : Array Value) : Prop := match k with
  | true => h.IsTuple a items
  | false => h.IsList a items
def itObjB (k : Bool) (a : Addr) : Obj := match k with
  | true => { cls := .type "tuple_iterator", data := .fields #[.ref a, .int 0 0] }
  | false => { cls := .type "list_iterator", data := .fields #[.ref a, .int 0 0] }
theorem SqB.same {k : Bool} {K : PySem.W.Frag} {H H' : Hp} {a : Addr} {xs : List V} (e : Same H H') (h : SqB k K H a xs) : SqB k K H' a xs := by
  cases k with
  | false => exact e.seq h
  | true => exact Evl.ex_t e h
theorem draws_B {prog : Program} {w : World} {A : Around} (hh : A.handled = none) (k : Bool) (it a : Addr) (hne : a ≠ it) (items : Array Value) :
    Draws prog w A it [it, a] items.size (fun i v => items[i]? = some v) (fun i h => IsItB k h it a i ∧ IsSeqB k h a items) := by
  cases k with
  | true => exact Draws.tuple hh it a hne items
  | false => exact Draws.list hh it a hne items
theorem begins_B (k : Bool) (a : Addr) (items : Array Value) : Begins (.ref a) (itObjB k a) (fun h => IsSeqB k h a items) := by
  cases k with
  | true => exact begins_tuple a items
  | false => exact begins_list a items
theorem IsItB.at {k : Bool} {h h' : Heap} {it a : Addr} {i : Nat} (x : IsItB k h it a i) (kk : ∀ o, h.get? it = some o → h'.get? it = some o) : IsItB k h' it a i := by
  cases k with
  | true => exact Heap.IsTupleIter.at x kk
  | false => exact Heap.IsListIter.at x kk
theorem IsItB.get {k : Bool} {h : Heap} {it a : Addr} {i : Nat} (x : IsItB k h it a i) : ∃ o, h.get? it = some o ∧ ∀ v, o.data ≠ .cell v := by
  cases k with
  | true =>
    obtain ⟨o, e, _, d⟩ := x
    exact ⟨o, e, fun v z => by rw [d] at z; cases z⟩
  | false =>
    obtain ⟨o, e, _, d⟩ := x
    exact ⟨o, e, fun v z => by rw [d] at z; cases z⟩
theorem IsItB.new {k : Bool} {h : Heap} {it a : Addr} (e : h.get? it = some (itObjB k a)) : IsItB k h it a 0 := by
  cases k with
  | true => exact ⟨_, e, rfl, rfl⟩
  | false => exact ⟨_, e, rfl, rfl⟩
section
variable {X : Cx} {pins : List (Addr × Obj)} {σ : L2.St} {H : Hp} {s : Shared} {a : Addr} {xs ys : List V} {k : Bool}
theorem seqB (I : Inv X pins σ H s) (h : SqB k X.K H a xs) : ∃ its : List Value, Vals xs its ∧ IsSeqB k s.heap a its.toArray ∧ a < s.heap.objs.size := by
  cases k with
  | true =>
    obtain ⟨its, rv, p, _⟩ := I.tuple h
    obtain ⟨o, ho, _⟩ := id p
    exact ⟨its, rv, p, Heap.lt_size ho⟩
  | false =>
    obtain ⟨its, rv, p, _⟩ := I.list h
    exact ⟨its, rv, p.isList, p.lt⟩
theorem seqB_inj (I : Inv X pins σ H s) (h : SqB k X.K H a xs) (h' : SqB k X.K H a ys) : xs = ys := by
  cases k with
  | true => exact I.tuple_inj h h'
  | false => exact I.list_inj h h'
end
/-- the sequence at a as it stands at each turn, its items numbered in new pairs -/
def ItEnB (k : Bool) (K : PySem.W.Frag) (a : Addr) : It where
  go i H := ∃ (xs : List V) (x : V), SqB k K H a xs ∧ xs[i]? = some x
  yld i H v H' := ∃ T x, v = .ref T ∧ H T = none ∧ H' = upd H T (.tup [.int (i : Nat), x]) ∧ ∀ xs, SqB k K H a xs → xs[i]? = some x
  stop i H := ∃ xs : List V, SqB k K H a xs ∧ xs.length = i
/-- two of them, the items in new pairs -/
def ItZpB (k k' : Bool) (K : PySem.W.Frag) (a b : Addr) : It where
  go i H := ∃ (xs ys : List V) (x y : V), SqB k K H a xs ∧ SqB k' K H b ys ∧ xs[i]? = some x ∧ ys[i]? = some y
  yld i H v H' := ∃ T x y, v = .ref T ∧ H T = none ∧ H' = upd H T (.tup [x, y]) ∧ (∀ xs, SqB k K H a xs → xs[i]? = some x) ∧ ∀ ys, SqB k' K H b ys → ys[i]? = some y
  stop i H := ∃ xs ys : List V, SqB k K H a xs ∧ SqB k' K H b ys ∧ min xs.length ys.length = i
theorem new_pair {P : Program} {w : World} {H : Hp} {h : Heap} {T : Addr} {x y : V} {u u' : Value} (ru : RelV x u) (ru' : RelV y u') (hT : h.IsTuple T #[u, u']) : ObjOk P w (upd H T (.tup [x, y])) h T (.tup [x, y]) :=
  ⟨by show 2 ≤ sizeLine; decide, [u, u'], .cons ru (.cons ru' .nil), hT⟩
theorem turn_enB {P : Program} {w : World} {K : PySem.W.Frag} {elts : List Expr} {kk : Nat} {tpos : Pos} (k : Bool) (a e it : Addr) (h1 : a ≠ it) (h2 : e ≠ a) (h3 : e ≠ it) :
    Turn P w K (.Tuple elts kk tpos) (ItEnB k K a) [e, it] e (fun i h => (∃ old, IsEnum h e it ((i : Nat) : Int) old) ∧ IsItB k h it a i) where
  mem := by simp
  obj := fun i h st b hb => by
    obtain ⟨⟨old, he⟩, hi⟩ := st
    have e' : b = e ∨ b = it := by simpa using hb
    rcases e' with z | z
    · subst z; exact ⟨_, he, fun v q => nomatch q⟩
    · subst z; exact hi.get
  keep := fun i h h' st kp => let ⟨⟨old, he⟩, hi⟩ := st; ⟨⟨old, kp e (by simp) _ he⟩, hi.at fun o q => kp it (by simp) o q⟩
  item := by
    intro X hP hw hK hc i pins s σ H E I hf st hg
    subst hP hw hK
    obtain ⟨⟨old, he⟩, hi⟩ := st
    obtain ⟨xs, x, hq, hx⟩ := hg
    obtain ⟨its, rv, p, _⟩ := seqB I hq
    obtain ⟨u, hu, ru⟩ := rv.get hx
    have D := draws_B (prog := X.prog) (w := X.w) (A := X.A.in1) (I.ok.hd hc) k it a h1 its.toArray
    have W := GoesN.ofWalksT (elts := elts) (k := kk) (pos := tpos) (WalksT.enumFrom 0 D e h3 (by simp [h2, h3]) (by simp))
    have st0 : (∃ old, IsEnum s.heap e it ((0 : Int) + ((i : Nat) : Int)) old) ∧ IsItB k s.heap it a i ∧ IsSeqB k s.heap a its.toArray := ⟨⟨old, by rw [Int.zero_add]; exact he⟩, hi, p⟩
    refine thn (W.goes i s _ E (by simpa using (List.getElem?_eq_some_iff.mp hu).1) st0 fun v h' tk hY st' hk htk => ?_) fun r s1 hr => hr
    obtain ⟨T, vals, rfl, hnew, ⟨t, z, hz, rfl⟩, hT⟩ := hY
    have ez : z = u := by
      have hz' : its.toArray[i]? = some z := hz
      rw [List.getElem?_toArray, hu] at hz'
      exact (Option.some.inj hz').symm
    subst ez
    have I1 : Inv X pins σ (upd H T (.tup [.int (i : Nat), x])) { s with heap := h', toks := tk } :=
      I.turnedNew (ch := [e, it]) (fun b ob hb q => hk b ob hb q) hf hnew (new_pair (x := .int (i : Nat)) ⟨t, by rw [Int.zero_add]⟩ ru hT)
    obtain ⟨⟨old', he'⟩, hi', _⟩ := st'
    refine ⟨.ref T, _, I1, rfl, ⟨T, x, rfl, I.hok.fresh hnew, rfl, fun ys hy => by rw [seqB_inj I hy hq]; exact hx⟩, ⟨⟨old', ?_⟩, hi'⟩, fun b hb => ?_⟩
    · rw [Int.zero_add] at he'; exact he'
    · have hlt : b < s.heap.objs.size := by
        have e' : b = e ∨ b = it := by simpa using hb
        rcases e' with z | z
        · subst z; exact Heap.lt_size he
        · subst z
          obtain ⟨o, ho, _⟩ := hi.get
          exact Heap.lt_size ho
      rw [upd_ne (Nat.ne_of_lt (Nat.lt_of_lt_of_le hlt hnew))]
      exact (hf b hb).1
  done := by
    intro X hP hw hK hc i pins s σ H E I hf st hg
    subst hP hw hK
    obtain ⟨⟨old, he⟩, hi⟩ := st
    obtain ⟨xs, hq, hx⟩ := hg
    obtain ⟨its, rv, p, _⟩ := seqB I hq
    have D := draws_B (prog := X.prog) (w := X.w) (A := X.A.in1) (I.ok.hd hc) k it a h1 its.toArray
    have W := GoesN.ofWalksT (elts := elts) (k := kk) (pos := tpos) (WalksT.enumFrom 0 D e h3 (by simp [h2, h3]) (by simp))
    have en : its.toArray.size = i := by rw [List.size_toArray, ← rv.length]; exact hx
    have st0 : (∃ old, IsEnum s.heap e it ((0 : Int) + ((its.toArray.size : Nat) : Int)) old) ∧ IsItB k s.heap it a its.toArray.size ∧ IsSeqB k s.heap a its.toArray := by
      rw [en]
      exact ⟨⟨old, by rw [Int.zero_add]; exact he⟩, hi, p⟩
    exact W.stops s _ E st0 fun h' tk hk htk => I.turnedL (ch := [e, it]) (fun b o hb q => hk b o hb q) hf
  self := fun A i s Q E st h => let ⟨⟨_, he⟩, _⟩ := st; wpAny_pyIter_enum he h
theorem turn_zpB {P : Program} {w : World} {K : PySem.W.Frag} {elts : List Expr} {kk : Nat} {tpos : Pos} (k k' : Bool) (a b N : Addr) (ha : a < N) (hb : b < N) :
    Turn P w K (.Tuple elts kk tpos) (ItZpB k k' K a b) [N + 4, N + 2, N + 3, N, N + 1] (N + 4) (fun i h => IsZip h (N + 4) (N + 2) (N + 3) .none ∧ IsTupOf2 h (N + 2) (.ref N) (.ref (N + 1)) ∧ (∃ x y, IsTupOf2 h (N + 3) x y) ∧ IsItB k h N a i ∧ IsItB k' h (N + 1) b i) where
  mem := by simp
  obj := fun i h st c hc => by
    obtain ⟨hz, hTI, ⟨x, y, hTO⟩, h1, h2⟩ := st
    have e' : c = N + 4 ∨ c = N + 2 ∨ c = N + 3 ∨ c = N ∨ c = N + 1 := by simpa using hc
    rcases e' with q | q | q | q | q
    · rw [q]; exact ⟨_, hz, fun v q => nomatch q⟩
    · rw [q]; exact ⟨_, hTI, fun v q => nomatch q⟩
    · rw [q]; exact ⟨_, hTO, fun v q => nomatch q⟩
    · rw [q]; exact h1.get
    · rw [q]; exact h2.get
  keep := fun i h h' st kp => by
    obtain ⟨hz, hTI, ⟨x, y, hTO⟩, h1, h2⟩ := st
    exact ⟨kp _ (by simp) _ hz, kp _ (by simp) _ hTI, ⟨x, y, kp _ (by simp) _ hTO⟩, h1.at fun o q => kp _ (by simp) o q, h2.at fun o q => kp _ (by simp) o q⟩
  item := by
    intro X hP hw hK hc i pins s σ H E I hf st hg
    subst hP hw hK
    obtain ⟨hz, hTI, hTO, h1, h2⟩ := st
    obtain ⟨xs, ys, x, y, hqx, hqy, hx, hy⟩ := hg
    obtain ⟨its, rv, p, _⟩ := seqB I hqx
    obtain ⟨its2, rv2, p2, _⟩ := seqB I hqy
    obtain ⟨u, hu, ru⟩ := rv.get hx
    obtain ⟨u2, hu2, ru2⟩ := rv2.get hy
    have D1 := draws_B (prog := X.prog) (w := X.w) (A := X.A.in1) (I.ok.hd hc) k N a (Nat.ne_of_lt ha) its.toArray
    have D2 := draws_B (prog := X.prog) (w := X.w) (A := X.A.in1) (I.ok.hd hc) k' (N + 1) b (Nat.ne_of_lt (Nat.lt_succ_of_lt hb)) its2.toArray
    have W := GoesN.ofWalksT (elts := elts) (k := kk) (pos := tpos) (WalksT.zipD2 (zip_sep2 (N := N) (fp1 := [a]) (fp2 := [b]) (by simpa using ha) (by simpa using hb)) D1 D2)
    have hi : i < min its.toArray.size its2.toArray.size := by
      have a1 := (List.getElem?_eq_some_iff.mp hu).1
      have a2 := (List.getElem?_eq_some_iff.mp hu2).1
      simp only [List.size_toArray]
      omega
    refine thn (W.goes i s _ E hi ⟨hz, hTI, hTO, ⟨h1, p⟩, h2, p2⟩ fun v h' tk hY st' hk htk => ?_) fun r s1 hr => hr
    obtain ⟨T, vals, rfl, hnew, ⟨z, z2, hz1, hz2, rfl⟩, hT⟩ := hY
    have ez : z = u := by
      have hz' : its.toArray[i]? = some z := hz1
      rw [List.getElem?_toArray, hu] at hz'
      exact (Option.some.inj hz').symm
    have ez2 : z2 = u2 := by
      have hz' : its2.toArray[i]? = some z2 := hz2
      rw [List.getElem?_toArray, hu2] at hz'
      exact (Option.some.inj hz').symm
    subst ez ez2
    have sub : ∀ c ∈ ([N + 4, N + 3, N, N + 1] : List Addr), c ∈ ([N + 4, N + 2, N + 3, N, N + 1] : List Addr) := by
      intro c hc
      have e' : c = N + 4 ∨ c = N + 3 ∨ c = N ∨ c = N + 1 := by simpa using hc
      rcases e' with q | q | q | q <;> rw [q] <;> simp
    have I1 : Inv X pins σ (upd H T (.tup [x, y])) { s with heap := h', toks := tk } :=
      I.turnedNew (ch := [N + 4, N + 3, N, N + 1]) (fun b ob hb q => hk b ob hb q) (fun c hc => hf c (sub c hc)) hnew (new_pair ru ru2 hT)
    obtain ⟨z1, z2, z3, ⟨z4, _⟩, z5, _⟩ := st'
    refine ⟨.ref T, _, I1, rfl, ⟨T, x, y, rfl, I.hok.fresh hnew, rfl, fun l hl => by rw [seqB_inj I hl hqx]; exact hx, fun l hl => by rw [seqB_inj I hl hqy]; exact hy⟩, ⟨z1, z2, z3, z4, z5⟩, fun c hc => ?_⟩
    have hlt : c < s.heap.objs.size := by
      have e' : c = N + 4 ∨ c = N + 2 ∨ c = N + 3 ∨ c = N ∨ c = N + 1 := by simpa using hc
      obtain ⟨_, _, g3⟩ := hTO
      obtain ⟨_, g4, _⟩ := h1.get
      obtain ⟨_, g5, _⟩ := h2.get
      rcases e' with q | q | q | q | q
      · rw [q]; exact Heap.lt_size hz
      · rw [q]; exact Heap.lt_size hTI
      · rw [q]; exact Heap.lt_size g3
      · rw [q]; exact Heap.lt_size g4
      · rw [q]; exact Heap.lt_size g5
    rw [upd_ne (Nat.ne_of_lt (Nat.lt_of_lt_of_le hlt hnew))]
    exact (hf c hc).1
  done := by
    intro X hP hw hK hc i pins s σ H E I hf st hg
    subst hP hw hK
    obtain ⟨hz, hTI, hTO, h1, h2⟩ := st
    obtain ⟨xs, ys, hqx, hqy, hend⟩ := hg
    obtain ⟨its, rv, p, _⟩ := seqB I hqx
    obtain ⟨its2, rv2, p2, _⟩ := seqB I hqy
    have D1 := draws_B (prog := X.prog) (w := X.w) (A := X.A.in1) (I.ok.hd hc) k N a (Nat.ne_of_lt ha) its.toArray
    have D2 := draws_B (prog := X.prog) (w := X.w) (A := X.A.in1) (I.ok.hd hc) k' (N + 1) b (Nat.ne_of_lt (Nat.lt_succ_of_lt hb)) its2.toArray
    have W := GoesN.ofWalksT (elts := elts) (k := kk) (pos := tpos) (WalksT.zipD2 (zip_sep2 (N := N) (fp1 := [a]) (fp2 := [b]) (by simpa using ha) (by simpa using hb)) D1 D2)
    have en : min its.toArray.size its2.toArray.size = i := by rw [List.size_toArray, List.size_toArray, ← rv.length, ← rv2.length]; exact hend
    have sub : ∀ c ∈ ([N + 4, N + 3, N, N + 1] : List Addr), c ∈ ([N + 4, N + 2, N + 3, N, N + 1] : List Addr) := by
      intro c hc
      have e' : c = N + 4 ∨ c = N + 3 ∨ c = N ∨ c = N + 1 := by simpa using hc
      rcases e' with q | q | q | q <;> rw [q] <;> simp
    refine W.stops s _ E ?_ fun h' tk hk htk => I.turnedL (ch := [N + 4, N + 3, N, N + 1]) (fun b o hb q => hk b o hb q) fun c hc => hf c (sub c hc)
    rw [en]
    exact ⟨hz, hTI, hTO, ⟨h1, p⟩, h2, p2⟩
  self := fun A i s Q E st h => wpAny_pyIter_zip st.1 h

/-- enumerate(v), v a list or a tuple: its two new cells -/
theorem meets_enumB {v : Value} {o : Obj} {H : Heap → Prop} (B : Begins v o H) : Meets (Builtin.«enumerate.__new__» ⟨[.type "enumerate", v], []⟩) (fun _ R s =>
      H s.heap ∧ R (.ok (.ret (.ref (s.heap.push o).objs.size))) { s with heap := (s.heap.push o).push { cls := .type "enumerate", data := .fields #[.none, .bool false, .ref s.heap.objs.size, rawInt 0, .none, .none] } }) :=
  .of_wp fun prog w A R s h => by
    obtain ⟨hp, g, d, tk, os⟩ := s
    obtain ⟨h1, h⟩ := h
    have hsub := sub_enumerate
    have q1 : ∀ {A' : Around} {E : Value → Shared → Prop} {Q : Value → Shared → Prop}, Q (.ref hp.objs.size) ⟨hp.push o, g, d, tk, os⟩ → wpAny (model prog w) A' (pyIter v) Q E ⟨hp, g, d, tk, os⟩ := fun q => B.iter prog w _ _ ⟨hp, g, d, tk, os⟩ _ h1 q
    wp_walk using q1
    refine wpAny_stack_any fun st => wpAny_pure ?_
    split
    · rename_i c _ _ _ _ _
      cases (c == Value.type "enumerate")
      all_goals
        wp_walk using q1
        exact ⟨_, rfl, h⟩
    · wp_walk using q1
      exact ⟨_, rfl, h⟩
theorem call_enumB {prog : Program} {w : World} {A : Around} {E : Value → Shared → Prop} {s : Shared} {v : Value} {o : Obj} {H : Heap → Prop} {Q : Value → Shared → Prop} (B : Begins v o H) (h1 : H s.heap)
    (h : ∀ h', IsEnum h' (s.heap.objs.size + 1) s.heap.objs.size 0 .none → h'.get? s.heap.objs.size = some o → (∀ b o, s.heap.get? b = some o → h'.get? b = some o) → Q (.ref (s.heap.objs.size + 1)) { s with heap := h' }) :
    wpAny (model prog w) A (call (.type "enumerate") [v]) Q E s := by
  refine callType_new F.called_enumerate (by decide) (F.typeCall_enumerate_1 _) (F.newCall_enumerate_1 _) (fun obj => F.args_object_init_2 obj _) F.entry_enumerate_new (meets_enumB B) ⟨h1, ?_⟩
  have hz : (s.heap.push o).objs.size = s.heap.objs.size + 1 := Heap.size_push ..
  rw [hz]
  have he : IsEnum ((s.heap.push o).push { cls := .type "enumerate", data := .fields #[.none, .bool false, .ref s.heap.objs.size, rawInt 0, .none, .none] }) (s.heap.objs.size + 1) s.heap.objs.size 0 .none := by
    have := Heap.get?_push_size (s.heap.push o) (o := { cls := .type "enumerate", data := .fields #[.none, .bool false, .ref s.heap.objs.size, rawInt 0, .none, .none] }) rfl
    rw [hz] at this
    exact this
  exact ⟨⟨_, he, rfl⟩, h _ he (Heap.get?_push_of_some _ (Heap.get?_push_size _ B.free)) fun b o x => Heap.get?_push_of_some _ (Heap.get?_push_of_some _ x)⟩

def iEnB (K : PySem.W.Frag) (ta : TA) : TI := fun σ H R => ta σ H fun vs H1 => ∃ (k : Bool) (a : Addr) (xs : List V), vs = [.ref a] ∧ SqB k K H1 a xs ∧ R (ItEnB k K a) H1
theorem pi_enB {X : Cx} {e : Expr} {ta : TA} {p pos tpos : Pos} {elts : List Expr} {kk : Nat} (hg : Gl X "enumerate") (hm : X.mg "enumerate" = none) (ha : PA X [e] ta) (hs : starEach [e] X.env = [(false, eval e X.env)] := by rfl) :
    PI X (.Tuple elts kk tpos) (.Call (.Name "enumerate" p) [e] [] pos) (iEnB X.K ta) := by
  refine ⟨fun pins s σ H R I h => ?_⟩
  refine Call_ (ld_blt I hg hm boot_enumerate (PyProof.Rows.callWith_type1 (thn (ha.run pos pins s σ H _ I h) fun us s1 ⟨vs, H1, I1, r1, q1⟩ => ?_) hs rfl))
  obtain ⟨k, a, xs, ex, hq, q⟩ := q1
  subst ex
  cases Vals.ref1 r1
  obtain ⟨its, rv, p', hlt⟩ := seqB I1 hq
  refine call_enumB (begins_B k a its.toArray) p' fun h' he hit hk => wpAny_pyIter_enum he ?_
  have I2 : Inv X pins σ H1 { s1 with heap := h' } := I1.kept (t' := s1.toks) hk
  refine ⟨s1.heap.objs.size + 1, [s1.heap.objs.size + 1, s1.heap.objs.size], _, _, H1, rfl, I2, turn_enB k a (s1.heap.objs.size + 1) s1.heap.objs.size (Nat.ne_of_lt hlt) (Nat.ne_of_gt (Nat.lt_succ_of_lt hlt)) (Nat.succ_ne_self _), ⟨⟨.none, he⟩, .new hit⟩, fun b hb => ?_, q⟩
  have e' : b = s1.heap.objs.size + 1 ∨ b = s1.heap.objs.size := by simpa using hb
  have hle : s1.heap.objs.size ≤ b := by
    rcases e' with z | z
    · rw [z]; exact Nat.le_add_right _ _
    · rw [z]; exact Nat.le_refl _
  exact I1.fpOk hle (I1.hok.fresh hle)
def iZpB (K : PySem.W.Frag) (ta : TA) : TI := fun σ H R => ta σ H fun vs H1 => ∃ (k k' : Bool) (a b : Addr) (xs ys : List V), vs = [.ref a, .ref b] ∧ SqB k K H1 a xs ∧ SqB k' K H1 b ys ∧ R (ItZpB k k' K a b) H1
theorem pi_zpB {X : Cx} {e e2 : Expr} {ta : TA} {p pos tpos : Pos} {elts : List Expr} {kk : Nat} (hg : Gl X "zip") (hm : X.mg "zip" = none) (ha : PA X [e, e2] ta)
    (hs : starEach [e, e2] X.env = (false, eval e X.env) :: starEach [e2] X.env := by rfl) (hpl : (backTo pos (starEach [e2] X.env)).any (·.1) = false := by rfl) : PI X (.Tuple elts kk tpos) (.Call (.Name "zip" p) [e, e2] [] pos) (iZpB X.K ta) := by
  refine ⟨fun pins s σ H R I h => ?_⟩
  refine Call_ (ld_blt I hg hm PyProof.Rows.boot_zip (PyProof.Rows.callWith_type1 (thn (ha.run pos pins s σ H _ I h) fun us s1 ⟨vs, H1, I1, r1, q1⟩ => ?_) hs hpl))
  obtain ⟨k, k', a, b, xs, ys, ex, hqx, hqy, q⟩ := q1
  subst ex
  obtain ⟨u1, u2, rfl, r1, r2⟩ := vals2 r1
  cases (show u1 = Value.ref a from r1)
  cases (show u2 = Value.ref b from r2)
  obtain ⟨its, rv, p1, hl1⟩ := seqB I1 hqx
  obtain ⟨its2, rv2, p2, hl2⟩ := seqB I1 hqy
  refine zip_begins2 (begins_B k a its.toArray) (begins_B k' b its2.toArray) p1 p2 fun h' hz hTI hTO g1 g2 hsz hk => wpAny_pyIter_zip hz ?_
  have I2 : Inv X pins σ H1 { s1 with heap := h' } := I1.kept (t' := s1.toks) hk
  refine ⟨s1.heap.objs.size + 4, _, _, _, H1, rfl, I2, turn_zpB k k' a b s1.heap.objs.size hl1 hl2, ⟨hz, hTI, ⟨_, _, hTO⟩, .new g1, .new g2⟩, fun c hc => ?_, q⟩
  have e' : c = s1.heap.objs.size + 4 ∨ c = s1.heap.objs.size + 2 ∨ c = s1.heap.objs.size + 3 ∨ c = s1.heap.objs.size ∨ c = s1.heap.objs.size + 1 := by simpa using hc
  have hle : s1.heap.objs.size ≤ c := by
    rcases e' with z | z | z | z | z
    · rw [z]; exact Nat.le_add_right _ _
    · rw [z]; exact Nat.le_add_right _ _
    · rw [z]; exact Nat.le_add_right _ _
    · rw [z]; exact Nat.le_refl _
    · rw [z]; exact Nat.le_add_right _ _
  exact I1.fpOk hle (I1.hok.fresh hle)
end DL
/-! The data layer 8: loops, comprehensions, defs. -/
namespace DL
open PySem L2

/-! ### what is walked, as data -/
abbrev IF := En → Option (List PyData × En)
structure WalkD (K : PySem.W.Frag) (J : It) (S : Hp) (ds : List PyData) : Prop where
  go : ∀ i S2 H2, Same S S2 → Same S2 H2 → i < ds.length → J.go i H2
  yl : ∀ i S2 H2 x H3, Same S S2 → Same S2 H2 → i < ds.length → J.yld i H2 x H3 → ∃ S3 d, New S2 H2 S3 H3 ∧ ds[i]? = some d ∧ Da K S3 x d
  st : ∀ S2 H2, Same S S2 → Same S2 H2 → J.stop ds.length H2
def rdI (K : PySem.W.Frag) (f : IF) : TI := fun σ H R => ∃ (t : Et) (S : Hp) (ρ : En) (ds : List PyData) (ρ' : En), Rep K t S H σ ρ ∧ f ρ = some (ds, ρ') ∧
  ∀ J H' S', Rep K t S' H' σ ρ' → Same S S' → WalkD K J S' ds → R J H'
structure OkI (X : Cx) (tg e : Expr) (f : IF) : Prop where
  run : PI X tg e (rdI X.K f)
theorem pi_imp {X : Cx} {tg e : Expr} {u u' : TI} (h : PI X tg e u) (i : ∀ σ H Q, u' σ H Q → u σ H Q) : PI X tg e u' := ⟨fun pins s σ H Q I hw => h.run pins s σ H Q I (i σ H Q hw)⟩
theorem pi_or {X : Cx} {tg e : Expr} {u u' : TI} (h : PI X tg e u) (h' : PI X tg e u') : PI X tg e (fun σ H R => u σ H R ∨ u' σ H R) := ⟨fun pins s σ H Q I hw => hw.elim (h.run pins s σ H Q I) (h'.run pins s σ H Q I)⟩
def seqD : PyData → Option (List PyData)
  | .list xs => some xs
  | .tuple xs => some xs
  | _ => none
def isTupD : PyData → Bool
  | .tuple _ => true
  | _ => false
def strItems (z : Str) : List PyData := z.cps.toList.map fun c => .str ⟨#[c]⟩
def walkedD : PyData → Option (List PyData)
  | .list xs => some xs
  | .tuple xs => some xs
  | .str z => some (strItems z)
  | _ => none
def iSeq (e : EF) : IF := fun ρ => ob (e ρ) fun r ρ1 => ob (sto ρ1 r) fun d ρ2 => ol (walkedD d) fun xs => some (xs, ρ2)
def rangeD (lo : Int) (n : Nat) : List PyData := (List.range n).map fun i => .int (lo + (i : Nat))
def downD (hi : Int) (n : Nat) : List PyData := (List.range n).map fun i => .int (hi - (i : Nat))
def isBig (i : Int) : Bool := decide (-1000000000 ≤ i) && decide (i ≤ 1000000000)
def iRange1 (e : EF) : IF := fun ρ => ob (e ρ) fun r ρ1 => ol (intR r) fun n => if isBig n = true then some (rangeD 0 n.toNat, ρ1) else none
def iRange2 (e f : EF) : IF := fun ρ => ob (e ρ) fun r ρ1 => ol (intR r) fun i => ob (f ρ1) fun r2 ρ2 => ol (intR r2) fun j => if (isBig i && isBig j) = true then some (rangeD i (j - i).toNat, ρ2) else none
/-- range(e, f, -1) -/
def iRange3 (e f : EF) : IF := fun ρ => ob (e ρ) fun r ρ1 => ol (intR r) fun i => ob (f ρ1) fun r2 ρ2 => ol (intR r2) fun j => if (isBig i && isBig j) = true then some (downD i (i - j).toNat, ρ2) else none
/-- reversed(range(e)) -/
def iRev1 (e : EF) : IF := fun ρ => ob (e ρ) fun r ρ1 => ol (intR r) fun n => if isBig n = true then some (downD (n - 1) n.toNat, ρ1) else none
def enumD : Nat → List PyData → List PyData
  | _, [] => []
  | i, d :: ds => .tuple [.int (i : Nat), d] :: enumD (i + 1) ds
def zipD : List PyData → List PyData → List PyData
  | x :: xs, y :: ys => .tuple [x, y] :: zipD xs ys
  | _, _ => []
def one1 : List PyData → Option PyData
  | [d] => some d
  | _ => none
def two2 : List PyData → Option (PyData × PyData)
  | [d, e] => some (d, e)
  | _ => none
def iEnum (as : AF) : IF := fun ρ => ob (as ρ) fun rs ρ1 => ob (stos ρ1 rs) fun ds ρ2 => ol (one1 ds) fun d => ol (seqD d) fun xs => some (enumD 0 xs, ρ2)
def iZip (as : AF) : IF := fun ρ => ob (as ρ) fun rs ρ1 => ob (stos ρ1 rs) fun ds ρ2 => ob (two2 ds) fun d e => ol (seqD d) fun xs => ol (seqD e) fun ys => some (zipD xs ys, ρ2)
section
variable {K : PySem.W.Frag}
theorem isBig_le {i : Int} (h : isBig i = true) : -1000000000 ≤ i ∧ i ≤ 1000000000 := by
  unfold isBig at h
  simpa using h
theorem walkD_seq {S : Hp} {a : Addr} {vs : List V} {ds : List PyData} {k : Bool} (ha : ∀ H, Same S H → SqB k K H a vs) (h : DaAll K S vs ds) : WalkD K (if k then Itt K a else Itl K a) S ds := by
  have hl := h.length
  cases k with
  | true =>
    refine ⟨fun i S2 H2 s1 s2 hi => ?_, fun i S2 H2 x H3 s1 s2 hi y => ?_, fun S2 H2 s1 s2 => ?_⟩
    · have q := ha H2 (s1.trans s2)
      exact ⟨vs, vs[i], q, by simp [hl, hi]⟩
    · obtain ⟨e, y⟩ := y
      subst e
      obtain ⟨d, e1, e2⟩ := h.get (y vs (ha H3 (s1.trans s2)))
      exact ⟨S2, d, New.refl s2, e1, e2.mono s1⟩
    · exact ⟨vs, ha H2 (s1.trans s2), by rw [hl]; exact Nat.le_refl _⟩
  | false =>
    refine ⟨fun i S2 H2 s1 s2 hi => ?_, fun i S2 H2 x H3 s1 s2 hi y => ?_, fun S2 H2 s1 s2 => ?_⟩
    · have q := ha H2 (s1.trans s2)
      exact ⟨vs, vs[i], q, by simp [hl, hi]⟩
    · obtain ⟨e, y⟩ := y
      subst e
      obtain ⟨d, e1, e2⟩ := h.get (y vs (ha H3 (s1.trans s2)))
      exact ⟨S2, d, New.refl s2, e1, e2.mono s1⟩
    · exact ⟨vs, ha H2 (s1.trans s2), by rw [hl]; exact Nat.le_refl _⟩
theorem walkD_str {S : Hp} {z : Str} : WalkD K (Its z) S (strItems z) := by
  have hl : (strItems z).length = z.cps.size := by simp [strItems]
  refine ⟨fun i S2 H2 s1 s2 hi => ?_, fun i S2 H2 x H3 s1 s2 hi y => ?_, fun S2 H2 s1 s2 => ?_⟩
  · rw [hl] at hi; exact hi
  · obtain ⟨e, c, h1, h2⟩ := y
    subst e h2
    refine ⟨S2, .str ⟨#[c]⟩, New.refl s2, ?_, .str _⟩
    unfold strItems
    rw [List.getElem?_map]
    have : z.cps.toList[i]? = some c := by simpa using h1
    rw [this]
    rfl
  · rw [hl]; exact Nat.le_refl _
theorem walkD_range {S : Hp} {lo : Int} {n : Nat} : WalkD K (Itr lo n) S (rangeD lo n) := by
  have hl : (rangeD lo n).length = n := by simp [rangeD]
  refine ⟨fun i S2 H2 s1 s2 hi => ?_, fun i S2 H2 x H3 s1 s2 hi y => ?_, fun S2 H2 s1 s2 => ?_⟩
  · rw [hl] at hi; exact hi
  · obtain ⟨e, y⟩ := y
    subst e y
    rw [hl] at hi
    refine ⟨S2, .int (lo + (i : Nat)), New.refl s2, ?_, .int _⟩
    unfold rangeD
    rw [List.getElem?_map, List.getElem?_range hi]
    rfl
  · rw [hl]; exact Nat.le_refl _
theorem walkD_down {S : Hp} {hi : Int} {n : Nat} : WalkD K (Itc hi (-1) n) S (downD hi n) := by
  have hl : (downD hi n).length = n := by simp [downD]
  refine ⟨fun i S2 H2 s1 s2 hi => ?_, fun i S2 H2 x H3 s1 s2 hi' y => ?_, fun S2 H2 s1 s2 => ?_⟩
  · rw [hl] at hi; exact hi
  · obtain ⟨e, y⟩ := y
    subst e y
    rw [hl] at hi'
    refine ⟨S2, .int (hi - (i : Nat)), New.refl s2, ?_, ?_⟩
    · unfold downD
      rw [List.getElem?_map, List.getElem?_range hi']
      rfl
    · have e : hi + ((i : Nat) : Int) * (-1) = hi - ((i : Nat) : Int) := by omega
      rw [e]
      exact .int _
  · rw [hl]; exact Nat.le_refl _
theorem enumD_length : ∀ (k : Nat) (ds : List PyData), (enumD k ds).length = ds.length
  | _, [] => rfl
  | k, d :: ds => by unfold enumD; rw [List.length_cons, List.length_cons, enumD_length]
theorem enumD_get : ∀ (k : Nat) (ds : List PyData) (i : Nat) (d : PyData), ds[i]? = some d → (enumD k ds)[i]? = some (.tuple [.int ((k + i : Nat) : Int), d])
  | _, [], _, _, h => by simp at h
  | k, x :: ds, 0, d, h => by
    have : x = d := by simpa using h
    subst this
    rfl
  | k, x :: ds, i + 1, d, h => by
    have := enumD_get (k + 1) ds i d (by simpa using h)
    unfold enumD
    rw [List.getElem?_cons_succ, this]
    have e : k + 1 + i = k + (i + 1) := by omega
    rw [e]
theorem zipD_length : ∀ (xs ys : List PyData), (zipD xs ys).length = min xs.length ys.length
  | [], ys => by simp [zipD]
  | x :: xs, [] => by simp [zipD]
  | x :: xs, y :: ys => by
    unfold zipD
    rw [List.length_cons, List.length_cons, List.length_cons, zipD_length]
    omega
theorem zipD_get : ∀ (xs ys : List PyData) (i : Nat) (d e : PyData), xs[i]? = some d → ys[i]? = some e → (zipD xs ys)[i]? = some (.tuple [d, e])
  | [], _, _, _, _, h, _ => by simp at h
  | _ :: _, [], _, _, _, _, h => by simp at h
  | x :: xs, y :: ys, 0, d, e, h, h' => by
    have q1 : x = d := by simpa using h
    have q2 : y = e := by simpa using h'
    subst q1 q2
    rfl
  | x :: xs, y :: ys, i + 1, d, e, h, h' => by
    unfold zipD
    rw [List.getElem?_cons_succ]
    exact zipD_get xs ys i d e (by simpa using h) (by simpa using h')
theorem pair_new {S H : Hp} {T : Addr} {x y : V} {d e : PyData} (h : Same S H) (hn : H T = none) (hx : Da K S x d) (hy : Da K S y e) : ∃ S3, New S H S3 (upd H T (.tup [x, y])) ∧ Da K S3 (.ref T) (.tuple [d, e]) := by
  have N := New.put (o := .tup [x, y]) h hn
  exact ⟨_, N, .tup upd_same (.cons (hx.mono N.ss) (.cons (hy.mono N.ss) .nil))⟩
theorem walkD_enum {S : Hp} {a : Addr} {vs : List V} {ds : List PyData} {k : Bool} (ha : ∀ H, Same S H → SqB k K H a vs) (h : DaAll K S vs ds) : WalkD K (ItEnB k K a) S (enumD 0 ds) := by
  have hl := h.length
  refine ⟨fun i S2 H2 s1 s2 hi => ?_, fun i S2 H2 x H3 s1 s2 hi y => ?_, fun S2 H2 s1 s2 => ?_⟩
  · rw [enumD_length] at hi
    exact ⟨vs, vs[i]'(by omega), ha H2 (s1.trans s2), by simp [hl, hi]⟩
  · obtain ⟨T, z, e1, e2, e3, e4⟩ := y
    subst e1 e3
    obtain ⟨d, f1, f2⟩ := h.get (e4 vs (ha H2 (s1.trans s2)))
    obtain ⟨S3, N, q⟩ := pair_new s2 e2 (.int ((i : Nat) : Int)) (f2.mono s1)
    refine ⟨S3, _, N, ?_, q⟩
    have := enumD_get 0 ds i d f1
    rw [Nat.zero_add] at this
    exact this
  · exact ⟨vs, ha H2 (s1.trans s2), by rw [enumD_length, hl]⟩
theorem walkD_zip {S : Hp} {a b : Addr} {vs us : List V} {ds es : List PyData} {k k' : Bool} (ha : ∀ H, Same S H → SqB k K H a vs) (hb : ∀ H, Same S H → SqB k' K H b us) (h : DaAll K S vs ds) (h' : DaAll K S us es) : WalkD K (ItZpB k k' K a b) S (zipD ds es) := by
  have hl := h.length
  have hl' := h'.length
  refine ⟨fun i S2 H2 s1 s2 hi => ?_, fun i S2 H2 x H3 s1 s2 hi y => ?_, fun S2 H2 s1 s2 => ?_⟩
  · rw [zipD_length] at hi
    exact ⟨vs, us, vs[i]'(by omega), us[i]'(by omega), ha H2 (s1.trans s2), hb H2 (s1.trans s2), by simp, by simp⟩
  · obtain ⟨T, z, z', e1, e2, e3, e4, e5⟩ := y
    subst e1 e3
    obtain ⟨d, f1, f2⟩ := h.get (e4 vs (ha H2 (s1.trans s2)))
    obtain ⟨d', f3, f4⟩ := h'.get (e5 us (hb H2 (s1.trans s2)))
    obtain ⟨S3, N, q⟩ := pair_new s2 e2 (f2.mono s1) (f4.mono s1)
    exact ⟨S3, _, N, zipD_get ds es i d d' f1 f3, q⟩
  · exact ⟨vs, us, ha H2 (s1.trans s2), hb H2 (s1.trans s2), by rw [zipD_length, hl, hl']⟩
theorem seq_at {S : Hp} {v : V} {d : PyData} {xs : List PyData} (h : Da K S v d) (e : seqD d = some xs) : ∃ (a : Addr) (vs : List V), v = .ref a ∧ DaAll K S vs xs ∧ ∀ H, Same S H → SqB (isTupD d) K H a vs := by
  unfold seqD at e
  split at e
  · cases e
    cases h with
    | lst h1 h2 => exact ⟨_, _, rfl, h2, fun H s => SqL.of (s _ _ h1)⟩
  · cases e
    cases h with
    | tup h1 h2 => exact ⟨_, _, rfl, h2, fun H s => SqT.of (s _ _ h1)⟩
  · cases e
end
section
variable {X : Cx} {tg e e2 : Expr} {f f2 : EF} {g : AF} {p pos tpos : Pos} {elts : List Expr} {kk : Nat}
theorem okI_seq (he : OkE X e f) : OkI X tg e (iSeq f) := ⟨pi_imp (pi_or (pi_or (pi_list he) (pi_tup he)) (pi_str he)) fun σ H Q ⟨t, S, ρ, ds, ρ', R, e, k⟩ => by
  obtain ⟨r, ρ1, q1, e⟩ := ob_some e
  obtain ⟨d, ρ2, q2, e⟩ := ob_some e
  obtain ⟨xs, q3, e⟩ := ol_some e
  cases e
  unfold walkedD at q3
  split at q3
  · cases q3
    refine .inl (.inl ⟨t, S, ρ, r, ρ1, R, q1, fun v H1 S1 R1 s1 o1 => ?_⟩)
    obtain ⟨S2, s2, R2, d2⟩ := R1.stoO o1 q2
    obtain ⟨a, vs, rfl, h1, h2⟩ := seq_at d2 rfl
    exact ⟨a, rfl, ⟨vs, h2 H1 R2.sh⟩, k _ H1 S2 R2 (s1.trans s2) (walkD_seq (k := false) h2 h1)⟩
  · cases q3
    refine .inl (.inr ⟨t, S, ρ, r, ρ1, R, q1, fun v H1 S1 R1 s1 o1 => ?_⟩)
    obtain ⟨S2, s2, R2, d2⟩ := R1.stoO o1 q2
    obtain ⟨a, vs, rfl, h1, h2⟩ := seq_at d2 rfl
    exact ⟨a, rfl, ⟨vs, h2 H1 R2.sh⟩, k _ H1 S2 R2 (s1.trans s2) (walkD_seq (k := true) h2 h1)⟩
  · cases q3
    refine .inr ⟨t, S, ρ, r, ρ1, R, q1, fun v H1 S1 R1 s1 o1 => ?_⟩
    obtain ⟨S2, s2, R2, d2⟩ := R1.stoO o1 q2
    cases (Vw.of (H := H1) d2).str
    exact ⟨_, rfl, k _ H1 S2 R2 (s1.trans s2) walkD_str⟩
  · cases q3⟩
theorem okI_range1 (hg : Gl X "range") (hm : X.mg "range" = none) (he : OkE X e f) (hs : starEach [e] X.env = [(false, eval e X.env)] := by rfl) (hs' : starEach [e] X.env = (false, eval e X.env) :: starEach [] X.env := by rfl) : OkI X tg (.Call (.Name "range" p) [e] [] pos) (iRange1 f) :=
  ⟨pi_imp (pi_range1 hg hm (pa_cons he pa_nil hs') hs) fun σ H Q ⟨t, S, ρ, ds, ρ', R, e, k⟩ => by
    obtain ⟨r, ρ1, q1, e⟩ := ob_some e
    obtain ⟨n, q2, e⟩ := ol_some e
    split at e
    · rename_i hb
      cases e
      cases intR_some q2
      obtain ⟨b1, b2⟩ := isBig_le hb
      refine ⟨t, S, ρ, _, _, R, q1, fun v H1 S1 R1 s1 o1 => ?_⟩
      cases int_of o1
      exact ⟨n, rfl, by omega, by omega, k _ H1 S1 R1 s1 walkD_range⟩
    · cases e⟩
theorem okI_range2 (hg : Gl X "range") (hm : X.mg "range" = none) (he : OkE X e f) (he2 : OkE X e2 f2) (hs : starEach [e, e2] X.env = [(false, eval e X.env), (false, eval e2 X.env)] := by rfl) (hs2 : starEach [e2] X.env = [(false, eval e2 X.env)] := by rfl)
    (hs' : starEach [e, e2] X.env = (false, eval e X.env) :: starEach [e2] X.env := by rfl) (hs2' : starEach [e2] X.env = (false, eval e2 X.env) :: starEach [] X.env := by rfl) : OkI X tg (.Call (.Name "range" p) [e, e2] [] pos) (iRange2 f f2) :=
  ⟨pi_imp (pi_range2 hg hm (pa_cons he (pa_cons he2 pa_nil hs2') hs') hs hs2) fun σ H Q ⟨t, S, ρ, ds, ρ', R, e, k⟩ => by
    obtain ⟨r, ρ1, q1, e⟩ := ob_some e
    obtain ⟨i, q2, e⟩ := ol_some e
    obtain ⟨r2, ρ2, q3, e⟩ := ob_some e
    obtain ⟨j, q4, e⟩ := ol_some e
    split at e
    · rename_i hb
      rw [Bool.and_eq_true] at hb
      cases e
      cases intR_some q2
      cases intR_some q4
      obtain ⟨b1, b2⟩ := isBig_le hb.1
      obtain ⟨b3, b4⟩ := isBig_le hb.2
      refine ⟨t, S, ρ, _, ρ1, R, q1, fun v H1 S1 R1 s1 o1 => ?_⟩
      cases int_of o1
      refine ⟨t, S1, ρ1, _, _, R1, q3, fun v H2 S2 R2 s2 o2 => ?_⟩
      cases int_of o2
      exact ⟨i, j, rfl, ⟨by omega, by omega, by omega, by omega⟩, k _ H2 S2 R2 (s1.trans s2) walkD_range⟩
    · cases e⟩
theorem okI_range3 {p2 p3 : Pos} {kc : Nat} (hg : Gl X "range") (hm : X.mg "range" = none) (he : OkE X e f) (he2 : OkE X e2 f2)
    (h : ∀ ta, PA X [e, e2, .UnaryOp .USub (.Constant (.int 1) kc p3) p2] ta → PI X tg (.Call (.Name "range" p) [e, e2, .UnaryOp .USub (.Constant (.int 1) kc p3) p2] [] pos) (iRng3 ta))
    (hs' : starEach [e, e2, .UnaryOp .USub (.Constant (.int 1) kc p3) p2] X.env = (false, eval e X.env) :: starEach [e2, .UnaryOp .USub (.Constant (.int 1) kc p3) p2] X.env := by rfl)
    (hs2' : starEach [e2, .UnaryOp .USub (.Constant (.int 1) kc p3) p2] X.env = (false, eval e2 X.env) :: starEach [.UnaryOp .USub (.Constant (.int 1) kc p3) p2] X.env := by rfl)
    (hs3' : starEach [.UnaryOp .USub (.Constant (.int 1) kc p3) p2] X.env = (false, eval (.UnaryOp .USub (.Constant (.int 1) kc p3) p2) X.env) :: starEach [] X.env := by rfl) :
    OkI X tg (.Call (.Name "range" p) [e, e2, .UnaryOp .USub (.Constant (.int 1) kc p3) p2] [] pos) (iRange3 f f2) :=
  ⟨pi_imp (h _ (pa_cons he (pa_cons he2 (pa_cons (pe_un un_neg pe_int) pa_nil hs3') hs2') hs')) fun σ H Q ⟨t, S, ρ, ds, ρ', R, e, k⟩ => by
    obtain ⟨r, ρ1, q1, e⟩ := ob_some e
    obtain ⟨i, q2, e⟩ := ol_some e
    obtain ⟨r2, ρ2, q3, e⟩ := ob_some e
    obtain ⟨j, q4, e⟩ := ol_some e
    split at e
    · rename_i hb
      rw [Bool.and_eq_true] at hb
      cases e
      cases intR_some q2
      cases intR_some q4
      obtain ⟨b1, b2⟩ := isBig_le hb.1
      obtain ⟨b3, b4⟩ := isBig_le hb.2
      refine ⟨t, S, ρ, _, ρ1, R, q1, fun v H1 S1 R1 s1 o1 => ?_⟩
      cases int_of o1
      refine ⟨t, S1, ρ1, _, _, R1, q3, fun v H2 S2 R2 s2 o2 => ?_⟩
      cases int_of o2
      exact ⟨1, rfl, i, j, -1, (i - j).toNat, rfl, RgC.neg (by omega) (by omega) (by omega) (by omega), k _ H2 S2 R2 (s1.trans s2) walkD_down⟩
    · cases e⟩
theorem okI_rev1 {q qos : Pos} (hg : Gl X "reversed") (hm : X.mg "reversed" = none) (hg2 : Gl X "range") (hm2 : X.mg "range" = none) (he : OkE X e f)
    (hs : starEach [.Call (.Name "range" q) [e] [] qos] X.env = (false, eval (.Call (.Name "range" q) [e] [] qos) X.env) :: starEach [] X.env := by rfl) (hs' : starEach [e] X.env = (false, eval e X.env) :: starEach [] X.env := by rfl) :
    OkI X tg (.Call (.Name "reversed" p) [.Call (.Name "range" q) [e] [] qos] [] pos) (iRev1 f) :=
  ⟨pi_imp (pi_revR hg hm (prg_1 hg2 hm2 he hs') hs) fun σ H Q ⟨t, S, ρ, ds, ρ', R, e, k⟩ => by
    obtain ⟨r, ρ1, q1, e⟩ := ob_some e
    obtain ⟨n, q2, e⟩ := ol_some e
    split at e
    · rename_i hb
      cases e
      cases intR_some q2
      obtain ⟨b1, b2⟩ := isBig_le hb
      refine ⟨t, S, ρ, _, _, R, q1, fun v H1 S1 R1 s1 o1 => ?_⟩
      cases int_of o1
      refine ⟨n, rfl, by omega, by omega, by omega, by omega, ?_⟩
      by_cases hn : 0 ≤ n
      · have e1 : (0 : Int) + (((n - 0).toNat : Nat) : Int) - 1 = n - 1 := by omega
        have e2 : (n - 0).toNat = n.toNat := by omega
        rw [e1, e2]
        exact k _ H1 S1 R1 s1 walkD_down
      · have e1 : (n - 0).toNat = 0 := by omega
        have e2 : n.toNat = 0 := by omega
        rw [e2] at k
        have w : WalkD X.K (Itc (0 + (((n - 0).toNat : Nat) : Int) - 1) (-1) (n - 0).toNat) S1 (downD (n - 1) 0) := by
          rw [e1]
          exact walkD_down (hi := 0 + ((0 : Nat) : Int) - 1) (n := 0)
        exact k _ H1 S1 R1 s1 w
    · cases e⟩
theorem okI_enum (hg : Gl X "enumerate") (hm : X.mg "enumerate" = none) (ha : OkA X [e] g) (hs : starEach [e] X.env = [(false, eval e X.env)] := by rfl) : OkI X (.Tuple elts kk tpos) (.Call (.Name "enumerate" p) [e] [] pos) (iEnum g) :=
  ⟨pi_imp (pi_enB hg hm ha hs) fun σ H Q ⟨t, S, ρ, ds, ρ', R, e, k⟩ => by
    obtain ⟨rs, ρ1, q1, e⟩ := ob_some e
    obtain ⟨ds', ρ2, q2, e⟩ := ob_some e
    obtain ⟨d, q3, e⟩ := ol_some e
    obtain ⟨xs, q4, e⟩ := ol_some e
    cases e
    refine ⟨t, S, ρ, rs, ρ1, R, q1, fun vs H1 S1 R1 s1 o1 => ?_⟩
    obtain ⟨S2, s2, R2, d2⟩ := R1.stos o1 q2
    unfold one1 at q3
    split at q3
    · cases q3
      cases d2 with
      | cons h1 h2 =>
        cases h2
        obtain ⟨a, us, rfl, g1, g2⟩ := seq_at h1 q4
        exact ⟨_, a, us, rfl, g2 H1 R2.sh, k _ H1 S2 R2 (s1.trans s2) (walkD_enum g2 g1)⟩
    · cases q3⟩
theorem okI_zip (hg : Gl X "zip") (hm : X.mg "zip" = none) (ha : OkA X [e, e2] g) (hs : starEach [e, e2] X.env = (false, eval e X.env) :: starEach [e2] X.env := by rfl) (hpl : (backTo pos (starEach [e2] X.env)).any (·.1) = false := by rfl) :
    OkI X (.Tuple elts kk tpos) (.Call (.Name "zip" p) [e, e2] [] pos) (iZip g) :=
  ⟨pi_imp (pi_zpB hg hm ha hs hpl) fun σ H Q ⟨t, S, ρ, ds, ρ', R, e, k⟩ => by
    obtain ⟨rs, ρ1, q1, e⟩ := ob_some e
    obtain ⟨ds', ρ2, q2, e⟩ := ob_some e
    obtain ⟨d, d', q3, e⟩ := ob_some e
    obtain ⟨xs, q4, e⟩ := ol_some e
    obtain ⟨ys, q5, e⟩ := ol_some e
    cases e
    refine ⟨t, S, ρ, rs, ρ1, R, q1, fun vs H1 S1 R1 s1 o1 => ?_⟩
    obtain ⟨S2, s2, R2, d2⟩ := R1.stos o1 q2
    unfold two2 at q3
    split at q3
    · cases q3
      cases d2 with
      | cons h1 h2 =>
        cases h2 with
        | cons h2 h3 =>
          cases h3
          obtain ⟨a, us, rfl, g1, g2⟩ := seq_at h1 q4
          obtain ⟨b, ws, rfl, g3, g4⟩ := seq_at h2 q5
          exact ⟨_, _, a, b, us, ws, rfl, g2 H1 R2.sh, g4 H1 R2.sh, k _ H1 S2 R2 (s1.trans s2) (walkD_zip g2 g4 g1 g3)⟩
    · cases q3⟩
end

/-! ### for -/
def forO (o : Out) (next : SF) : Option Out := match o with
  | .nx ρ => next ρ
  | .ct ρ => next ρ
  | .bk ρ => some (.nx ρ)
  | .rt r ρ => some (.rt r ρ)
@[simp] theorem forO_nx (ρ : En) (g : SF) : forO (.nx ρ) g = g ρ := rfl
@[simp] theorem forO_ct (ρ : En) (g : SF) : forO (.ct ρ) g = g ρ := rfl
@[simp] theorem forO_bk (ρ : En) (g : SF) : forO (.bk ρ) g = some (.nx ρ) := rfl
@[simp] theorem forO_rt (r : Rv) (ρ : En) (g : SF) : forO (.rt r ρ) g = some (.rt r ρ) := rfl
def forL (g : GF) (body : SF) : List PyData → SF
  | [], ρ => some (.nx ρ)
  | d :: ds, ρ => ol (g (.da d) ρ) fun ρ1 => ol (body ρ1) fun o => forO o (forL g body ds)
def sFor (it : IF) (g : GF) (body : SF) : SF := fun ρ => ob (it ρ) fun ds ρ1 => forL g body ds ρ1
section
variable {X : Cx} {tg e : Expr} {body : List Stmt} {fi : IF} {g : GF} {ws : List Nat} {fb : SF} {pos : Pos} {K : PySem.W.Frag}
theorem forW {J : It} {t : Et} {S0 : Hp} {ds : List PyData} {o : Out} {D : Ends} {n : Nat} (W : WalkD K J S0 ds) (k : OutOk K t S0 n D o) :
    ∀ (m i : Nat) (σ : L2.St) (H S : Hp) (ρ : En), i + m = ds.length → Rep K t S H σ ρ → Same S0 S → σ.length = n → forL g fb (ds.drop i) ρ = some o →
      (m = 0 → J.stop i H ∧ D.nx σ H) ∧ (0 < m → J.go i H ∧ ∀ x H', J.yld i H x H' → rdG K ws g x σ H' fun σ2 H2 => rdS K fb
        { D with nx := fun σ' H' => ∃ S' ρ', Rep K t S' H' σ' ρ' ∧ Same S0 S' ∧ σ'.length = n ∧ forL g fb (ds.drop (i + 1)) ρ' = some o,
                 ct := fun σ' H' => ∃ S' ρ', Rep K t S' H' σ' ρ' ∧ Same S0 S' ∧ σ'.length = n ∧ forL g fb (ds.drop (i + 1)) ρ' = some o, bk := D.nx } σ2 H2) := by
  intro m i σ H S ρ hm R ss hn e
  refine ⟨fun h0 => ?_, fun hp => ?_⟩
  · have hi : i = ds.length := by omega
    subst hi
    rw [List.drop_length] at e
    cases e
    exact ⟨W.st S H ss R.sh, k σ H S R ss hn⟩
  · have hi : i < ds.length := by omega
    refine ⟨W.go i S H ss R.sh hi, fun x H' y => ?_⟩
    obtain ⟨S3, d, N, e1, e2⟩ := W.yl i S H x H' ss R.sh hi y
    have ed : ds.drop i = d :: ds.drop (i + 1) := by
      rw [List.drop_eq_getElem_cons hi]
      congr 1
      rw [List.getElem?_eq_getElem hi] at e1
      exact Option.some.inj e1
    rw [ed] at e
    obtain ⟨ρ1, q1, e⟩ := ol_some (show ol (g (.da d) ρ) (fun ρ1 => ol (fb ρ1) fun o => forO o (forL g fb (ds.drop (i + 1)))) = some o from e)
    obtain ⟨o1, q2, e⟩ := ol_some e
    refine ⟨t, S3, ρ, .da d, ρ1, R.new N, e2, q1, fun σ2 H2 S2 R2 s2 _ l2 => ⟨t, S2, ρ1, o1, R2, q2, ?_⟩⟩
    have sx : Same S0 S2 := (ss.trans N.ss).trans s2
    have lx : σ2.length = n := l2.trans hn
    cases o1 with
    | nx ρ2 => exact fun σ' H' S' R' s' l' => ⟨S', ρ2, R', sx.trans s', l'.trans lx, e⟩
    | ct ρ2 => exact fun σ' H' S' R' s' l' => ⟨S', ρ2, R', sx.trans s', l'.trans lx, e⟩
    | bk ρ2 =>
      cases e
      exact fun σ' H' S' R' s' l' => k σ' H' S' R' (sx.trans s') (l'.trans lx)
    | rt r ρ2 =>
      cases e
      exact fun v σ' H' S' R' s' o' => k v σ' H' S' R' (sx.trans s') o'
theorem okS_for (hp : PassesOwn (model X.prog X.w) X.A X.env X.xe) (hc : X.calm = true) (hi : OkI X tg e fi) (hg : OkG X tg ws g) (hb : OkSs X body fb) (hs : ∀ x, foldedSetIterable e X.env x = pure x := by intro _; rfl) :
    OkS X (.For tg e body [] pos) (sFor fi g fb) := ps_imp (ps_for hp hc hi.run hg.run hb hs) fun D σ H ⟨t, S, ρ, o, R, e, k⟩ => by
  obtain ⟨ds, ρ1, q1, e⟩ := ob_some e
  refine ⟨t, S, ρ, ds, ρ1, R, q1, fun J H1 S1 R1 s1 W => ?_⟩
  have k1 := k.mono s1
  refine ⟨fun i m σ' H' => i + m = ds.length ∧ ∃ S' ρ', Rep X.K t S' H' σ' ρ' ∧ Same S1 S' ∧ σ'.length = σ.length ∧ forL g fb (ds.drop i) ρ' = some o, ⟨ds.length, by omega, S1, ρ1, R1, Same.refl _, rfl, e⟩, ?_⟩
  rintro i m σ' H' ⟨hm, S', ρ', R', s', l', e'⟩
  obtain ⟨w0, w1⟩ := forW (ws := ws) (D := D) W k1 m i σ' H' S' ρ' hm R' s' l' e'
  by_cases h0 : m = 0
  · exact .inl (w0 h0)
  · obtain ⟨g1, g2⟩ := w1 (by omega)
    exact .inr ⟨g1, _, fun σ2 H2 ⟨S2, ρ2, R2, s2, l2, e2⟩ => ⟨m - 1, by omega, by omega, S2, ρ2, R2, s2, l2, e2⟩, g2⟩
end

/-! ### while -/
def whileL (c : TF) (body : SF) : Nat → SF
  | 0, _ => none
  | n + 1, ρ => ob (c ρ) fun b ρ1 => if b = true then ol (body ρ1) fun o => forO o (whileL c body n) else some (.nx ρ1)
def sWhile (n : Nat) (c : TF) (body : SF) : SF := whileL c body n
section
variable {X : Cx} {c : Expr} {body : List Stmt} {fc : TF} {fb : SF} {pos : Pos}
theorem okS_while (n : Nat) (hp : PassesOwn (model X.prog X.w) X.A X.env X.xe) (hc : OkT X c fc) (hb : OkSs X body fb) : OkS X (.While c body [] pos) (sWhile n fc fb) := ps_imp (ps_while hp hc hb) fun D σ H ⟨t, S, ρ, o, R, e, k⟩ => by
  refine ⟨fun m σ' H' => ∃ S' ρ', Rep X.K t S' H' σ' ρ' ∧ Same S S' ∧ σ'.length = σ.length ∧ whileL fc fb m ρ' = some o, ⟨n, S, ρ, R, Same.refl _, rfl, e⟩, ?_⟩
  rintro m σ' H' ⟨S', ρ', R', s', l', e'⟩
  cases m with
  | zero => cases e'
  | succ m =>
    obtain ⟨b, ρ1, q1, e'⟩ := ob_some (show ob (fc ρ') (fun b ρ1 => if b = true then ol (fb ρ1) fun o => forO o (whileL fc fb m) else some (.nx ρ1)) = some o from e')
    refine ⟨t, S', ρ', b, ρ1, R', q1, fun H1 S1 R1 s1 => ?_⟩
    cases b with
    | false =>
      cases e'
      exact iteF (k σ' H1 S1 R1 (s'.trans s1) l')
    | true =>
      rw [if_pos rfl] at e'
      obtain ⟨o1, q2, e'⟩ := ol_some e'
      refine iteT ⟨fun σ2 H2 => ∃ S2 ρ2, Rep X.K t S2 H2 σ2 ρ2 ∧ Same S S2 ∧ σ2.length = σ.length ∧ whileL fc fb m ρ2 = some o, fun σ2 H2 w => ⟨m, Nat.lt_succ_self m, w⟩, t, S1, ρ1, o1, R1, q2, ?_⟩
      have sx := s'.trans s1
      cases o1 with
      | nx ρ2 => exact fun σ2 H2 S2 R2 s2 l2 => ⟨S2, ρ2, R2, sx.trans s2, l2.trans l', e'⟩
      | ct ρ2 => exact fun σ2 H2 S2 R2 s2 l2 => ⟨S2, ρ2, R2, sx.trans s2, l2.trans l', e'⟩
      | bk ρ2 =>
        cases e'
        exact fun σ2 H2 S2 R2 s2 l2 => k σ2 H2 S2 R2 (sx.trans s2) (l2.trans l')
      | rt r ρ2 =>
        cases e'
        exact fun v σ2 H2 S2 R2 s2 o2 => k v σ2 H2 S2 R2 (sx.trans s2) o2
end
end DL
/-! The data layer 9: comprehensions, defs. -/
namespace DL
open PySem L2

/-! ### slots of a comprehension's own names -/
def wipeE (ρ : En) : List Nat → En
  | [] => ρ
  | v :: vs => (wipeE ρ vs).set v .no
/-- behind it: the own names as they were, all else as it is -/
def backE (ρ0 : En) : List Nat → En → En
  | [], ρ => ρ
  | v :: vs, ρ => (backE ρ0 vs ρ).set v (ρ0.getD v .no)
def freeSl : Sl → Bool
  | .no => true
  | .da _ => true
  | _ => false
theorem wipeE_length (ρ : En) : ∀ vs, (wipeE ρ vs).length = ρ.length
  | [] => rfl
  | v :: vs => by unfold wipeE; rw [List.length_set, wipeE_length ρ vs]
theorem backE_length (ρ0 ρ : En) : ∀ vs, (backE ρ0 vs ρ).length = ρ.length
  | [] => rfl
  | v :: vs => by unfold backE; rw [List.length_set, backE_length ρ0 ρ vs]
theorem wipeE_get {ρ : En} {i : Nat} {s : Sl} : ∀ {vs : List Nat}, (wipeE ρ vs)[i]? = some s → s ≠ .no → i ∉ vs ∧ ρ[i]? = some s
  | [], h, _ => ⟨by simp, h⟩
  | v :: vs, h, hs => by
    rcases set_get h with ⟨_, e, _⟩ | ⟨h1, h2⟩
    · exact absurd e hs
    · obtain ⟨h3, h4⟩ := wipeE_get h2 hs
      exact ⟨by simp [h1, h3], h4⟩
theorem wipe_at (σ : L2.St) {i : Nat} : ∀ {vs : List Nat}, i ∉ vs → (wipe σ vs)[i]? = σ[i]?
  | [], _ => rfl
  | v :: vs, h => by
    simp only [List.mem_cons, not_or] at h
    unfold wipe
    rw [List.getElem?_set_ne (fun z => h.1 z.symm)]
    exact wipe_at σ h.2
theorem wipe_in (σ : L2.St) {i : Nat} : ∀ {vs : List Nat}, i ∈ vs → i < σ.length → (wipe σ vs)[i]? = some none
  | [], h, _ => by cases h
  | v :: vs, h, hl => by
    unfold wipe
    by_cases e : v = i
    · subst e
      rw [List.getElem?_set_self (by rw [wipe_length]; exact hl)]
    · rw [List.getElem?_set_ne e]
      rcases List.mem_cons.mp h with z | z
      · exact absurd z.symm e
      · exact wipe_in σ z hl
theorem wipe_eq {σ σ' : L2.St} {vs : List Nat} (hl : σ'.length = σ.length) (h : ∀ j, j ∉ vs → σ'[j]? = σ[j]?) : wipe σ' vs = wipe σ vs := by
  apply List.ext_getElem?
  intro i
  by_cases hi : i ∈ vs
  · by_cases hb : i < σ.length
    · rw [wipe_in σ hi hb, wipe_in σ' hi (by omega)]
    · rw [List.getElem?_eq_none (by rw [wipe_length]; omega), List.getElem?_eq_none (by rw [wipe_length]; omega)]
  · rw [wipe_at σ hi, wipe_at σ' hi, h i hi]
theorem wipe_wipe (σ : L2.St) (vs : List Nat) : wipe (wipe σ vs) vs = wipe σ vs := wipe_eq (wipe_length σ vs) fun j hj => wipe_at σ hj
section
variable {K : PySem.W.Frag} {t : Et} {S S' H H' : Hp} {σ : L2.St} {ρ ρ' : En}
theorem ls_no {s : Sl} {ds : List PyData} (h : s.ls = some ds) : s ≠ .no := fun z => by subst z; cases h
theorem Rep.wiped (R : Rep K t S H σ ρ) (vs : List Nat) : Rep K t S H (wipe σ vs) (wipeE ρ vs) := by
  refine ⟨R.sh, R.s0, R.sn, R.bh, R.ph, by rw [wipe_length, wipeE_length]; exact R.len, fun j d q => ?_, fun j s ds q1 q2 => ?_, fun j k s s' ds ds' a h q1 q2 q3 q4 z1 z2 => ?_, R.obs.sub fun j b st q => ?_⟩
  rotate_left 3
  · obtain ⟨h1, h2⟩ := wipeE_get q (fun z => nomatch z)
    exact ⟨h2, wipe_at σ h1⟩
  · obtain ⟨h1, h2⟩ := wipeE_get q (fun z => nomatch z)
    rw [wipe_at σ h1]
    exact R.dat j d h2
  · obtain ⟨h1, h2⟩ := wipeE_get q1 (ls_no q2)
    rw [wipe_at σ h1]
    exact R.own j s ds h2 q2
  · obtain ⟨h1, h2⟩ := wipeE_get q1 (ls_no q2)
    obtain ⟨h3, h4⟩ := wipeE_get q3 (ls_no q4)
    rw [wipe_at σ h1] at z1
    rw [wipe_at σ h3] at z2
    exact R.dis j k s s' ds ds' a h h2 q2 h4 q4 z1 z2
theorem backE_get {ρ0 ρ : En} {i : Nat} {s : Sl} : ∀ {vs : List Nat}, (backE ρ0 vs ρ)[i]? = some s → (i ∈ vs ∧ s = ρ0.getD i .no) ∨ (i ∉ vs ∧ ρ[i]? = some s)
  | [], h => .inr ⟨by simp, h⟩
  | v :: vs, h => by
    rcases set_get h with ⟨e1, e2, _⟩ | ⟨h1, h2⟩
    · subst e1; exact .inl ⟨by simp, e2⟩
    · rcases backE_get h2 with ⟨h3, h4⟩ | ⟨h3, h4⟩
      · exact .inl ⟨by simp [h3], h4⟩
      · exact .inr ⟨by simp [h1, h3], h4⟩
theorem Rep.back {ρ0 : En} {S0 H0 : Hp} {vs : List Nat} (R0 : Rep K t S0 H0 σ ρ0) (hf : ∀ i ∈ vs, freeSl (ρ0.getD i .no) = true) (ss : Same S0 S) (R : Rep K t S H (wipe σ vs) ρ) : Rep K t S H σ (backE ρ0 vs ρ) := by
  have nols : ∀ {i : Nat} {s : Sl} {ds : List PyData}, i ∈ vs → s = ρ0.getD i .no → s.ls = some ds → False := fun {i s ds} hi e h => by
    have := hf i hi
    rw [← e] at this
    cases s with
    | no => cases h
    | ob _ _ => cases h
    | da _ => cases h
    | ow _ => cases this
    | pa _ => cases this
  refine ⟨R.sh, R.s0, R.sn, R.bh, R.ph, ?_, fun j d q => ?_, fun j s ds q1 q2 => ?_, fun j k s s' ds ds' a h q1 q2 q3 q4 z1 z2 => ?_, R.obs.sub fun j b st q => ?_⟩
  rotate_left 4
  · rcases backE_get q with ⟨h1, h2⟩ | ⟨h1, h2⟩
    · have := hf j h1
      rw [← h2] at this
      cases this
    · exact ⟨h2, (wipe_at σ h1).symm⟩
  · rw [backE_length]
    have := R.len
    rw [wipe_length] at this
    exact this
  · rcases backE_get q with ⟨h1, h2⟩ | ⟨h1, h2⟩
    · have hq : ρ0[j]? = some (.da d) := by
        rw [List.getD_eq_getElem?_getD] at h2
        cases e : ρ0[j]? with
        | none => rw [e] at h2; cases h2
        | some s => rw [e] at h2; exact congrArg some h2.symm
      obtain ⟨v, z1, z2⟩ := R0.dat j d hq
      exact ⟨v, z1, z2.mono ss⟩
    · obtain ⟨v, z1, z2⟩ := R.dat j d h2
      rw [wipe_at σ h1] at z1
      exact ⟨v, z1, z2⟩
  · rcases backE_get q1 with ⟨h1, h2⟩ | ⟨h1, h2⟩
    · exact (nols h1 h2 q2).elim
    · have := R.own j s ds h2 q2
      rw [wipe_at σ h1] at this
      exact this
  · rcases backE_get q1 with ⟨h1, h2⟩ | ⟨h1, h2⟩
    · exact (nols h1 h2 q2).elim
    · rcases backE_get q3 with ⟨h3, h4⟩ | ⟨h3, h4⟩
      · exact (nols h3 h4 q4).elim
      · exact R.dis j k s s' ds ds' a h h2 q2 h4 q4 (by rw [wipe_at σ h1]; exact z1) (by rw [wipe_at σ h3]; exact z2)
end

/-! ### [e for target in iter if t] -/
structure OkTs (X : Cx) (ifs : List Expr) (f : TF) : Prop where
  run : PTs X ifs (rdT X.K f)
def tYesF : TF := fun ρ => some (true, ρ)
theorem pts_imp {X : Cx} {e : List Expr} {u u' : TT} (h : PTs X e u) (i : ∀ σ H Q, u' σ H Q → u σ H Q) : PTs X e u' := ⟨fun pins s σ H Q I hw => h.run pins s σ H Q I (i σ H Q hw)⟩
theorem okTs_nil {X : Cx} : OkTs X [] tYesF := ⟨pts_imp pts_nil fun σ H Q ⟨t, S, ρ, r, ρ', R, e, k⟩ => by
  cases e
  exact k H S R (Same.refl _)⟩
theorem okTs_one {X : Cx} {c : Expr} {f : TF} (h : OkT X c f) : OkTs X [c] f := ⟨pts_one h⟩
def lcL (g : GF) (ts : TF) (e : EF) (vs : List Nat) : List PyData → En → List PyData → Option (List PyData × En)
  | [], ρ, acc => some (acc, ρ)
  | d :: ds, ρ, acc => ol (g (.da d) ρ) fun ρ1 => ob (ts ρ1) fun b ρ2 => if b = true then ob (e ρ2) fun x ρ3 => ob (sto ρ3 x) fun y ρ4 => lcL g ts e vs ds (wipeE ρ4 vs) (acc ++ [y]) else lcL g ts e vs ds (wipeE ρ2 vs) acc
def eLc (it : IF) (g : GF) (ts : TF) (e : EF) (vs : List Nat) : EF := fun ρ => ob (it ρ) fun ds ρ1 => if (decide (ds.length ≤ 16777216) && vs.all fun i => freeSl (ρ1.getD i .no)) = true then
  ob (lcL g ts e vs ds (wipeE ρ1 vs) []) fun acc ρ2 => some (.fr acc, backE ρ1 vs ρ2) else none
/-- a list that is being made: it stands by itself -/
structure Grow (K : PySem.W.Frag) (t : Et) (S H : Hp) (σ : L2.St) (ρ : En) (D : Addr) (acc : List PyData) : Prop where
  at_ : ∃ vs, H D = some (.lst vs) ∧ DaAll K S vs acc
  s : S D = none
  b : t.B D = none
  p : t.pp ≠ some D
  o : ∀ (i : Nat) (s : Sl) (ds : List PyData), ρ[i]? = some s → s.ls = some ds → σ[i]? ≠ some (some (.ref D))
section
variable {X : Cx} {K : PySem.W.Frag} {g : GF} {ws vs : List Nat} {ts : TF} {fe : EF}
theorem Grow.step {t : Et} {S H S' H' : Hp} {σ σ' : L2.St} {ρ ρ' : En} {D : Addr} {acc : List PyData} (G : Grow K t S H σ ρ D acc) (R' : Rep K (t.re S H σ ρ) S' H' σ' ρ') (hL : ¬ t.lk D) : Grow K t S' H' σ' ρ' D acc := by
  obtain ⟨us, h1, h2⟩ := G.at_
  have hc : cut H σ ρ D = some (.lst us) := cut_of h1 G.o
  refine ⟨⟨us, R'.bh.get (a := D) hc hL, h2.mono R'.s0⟩, R'.sn D (none_ne hc) G.s, G.b, G.p, fun i s ds q1 q2 q => ?_⟩
  obtain ⟨b, vs, z1, z2, z3, z4, _⟩ := R'.own i s ds q1 q2
  rw [q] at z1
  cases z1
  have z4' : cut H σ ρ D = none := z4
  rw [hc] at z4'
  cases z4'
theorem Grow.sub {t : Et} {S H : Hp} {σ σ' : L2.St} {ρ ρ' : En} {D : Addr} {acc : List PyData} (G : Grow K t S H σ ρ D acc) (h : ∀ (i : Nat) (s : Sl) (ds : List PyData), ρ'[i]? = some s → s.ls = some ds → ∃ (s' : Sl) (ds' : List PyData), ρ[i]? = some s' ∧ s'.ls = some ds' ∧ σ[i]? = σ'[i]?) : Grow K t S H σ' ρ' D acc :=
  ⟨G.at_, G.s, G.b, G.p, fun i s ds q1 q2 q => by
    obtain ⟨s', ds', z1, z2, z3⟩ := h i s ds q1 q2
    exact G.o i s' ds' z1 z2 (z3.trans q)⟩
theorem Rep.upd_other {t : Et} {S H : Hp} {σ : L2.St} {ρ : En} {D : Addr} {o : HO} (R : Rep K t S H σ ρ) (h1 : S D = none) (h2 : t.B D = none) (h3 : t.pp ≠ some D) (h4 : ∀ (i : Nat) (s : Sl) (ds : List PyData), ρ[i]? = some s → s.ls = some ds → σ[i]? ≠ some (some (.ref D))) : Rep K t S (upd H D o) σ ρ := by
  refine ⟨fun b u e => by rw [upd_ne (ne_of_none e h1)]; exact R.sh b u e, R.s0, R.sn, R.bh.upd h2, fun a q => ?_, R.len, R.dat, fun i s ds q1 q2 => ?_, R.dis, R.obs.keep (fun l vs q e => by
    have n : l ≠ D := fun z => R.bh.lB q (by rw [z]; exact h2)
    rw [upd_ne n]; exact e) (Same.refl _)⟩
  · have : a ≠ D := fun z => by subst z; exact h3 q
    rw [upd_ne this]
    exact R.ph a q
  · obtain ⟨a, vs, e1, e2, e3⟩ := R.own i s ds q1 q2
    have : a ≠ D := fun z => by subst z; exact h4 i s ds q1 q2 e1
    exact ⟨a, vs, e1, by rw [upd_ne this]; exact e2, e3⟩
/-- the turns of a comprehension -/
theorem lcW {J : It} {t : Et} {S0 : Hp} {ds : List PyData} {res : List PyData} {ρe : En} {σ : L2.St} {D : Addr} {Q : Hp → Prop} {v : List Nat} (hw : ∀ j ∈ ws, j ∈ vs) (W : WalkD K J S0 ds) (hsz : ds.length ≤ 16777216)
    (k : ∀ H S, Rep K t S H (wipe σ vs) ρe → Same S0 S → Grow K t S H (wipe σ vs) ρe D res → Q H) :
    ∀ (m i : Nat) (H S : Hp) (ρ : En) (acc : List PyData), i + m = ds.length → acc.length ≤ i → Rep K t S H (wipe σ vs) ρ → Same S0 S → Grow K t S H (wipe σ vs) ρ D acc → lcL g ts fe vs (ds.drop i) ρ acc = some (res, ρe) →
      (m = 0 → J.stop i H ∧ Q H) ∧ (0 < m → J.go i H ∧ ∀ x H', J.yld i H x H' → rdG K ws g x (wipe σ vs) H' fun σ2 H2 => wipe σ2 vs = wipe σ vs ∧ rdT K ts σ2 H2 fun b H3 =>
        if b = true then rdE K fe σ2 H3 fun y H4 => ∃ acc', H4 D = some (.lst acc') ∧ acc'.length < sizeLine ∧
          (∃ S' ρ' acc2, acc2.length ≤ i + 1 ∧ Rep K t S' (upd H4 D (.lst (acc' ++ [y]))) (wipe σ vs) ρ' ∧ Same S0 S' ∧ Grow K t S' (upd H4 D (.lst (acc' ++ [y]))) (wipe σ vs) ρ' D acc2 ∧ lcL g ts fe vs (ds.drop (i + 1)) ρ' acc2 = some (res, ρe))
        else (∃ S' ρ' acc2, acc2.length ≤ i + 1 ∧ Rep K t S' H3 (wipe σ vs) ρ' ∧ Same S0 S' ∧ Grow K t S' H3 (wipe σ vs) ρ' D acc2 ∧ lcL g ts fe vs (ds.drop (i + 1)) ρ' acc2 = some (res, ρe))) := by
  intro m i H S ρ acc hm ha R ss G e
  refine ⟨fun h0 => ?_, fun hp => ?_⟩
  · have hi : i = ds.length := by omega
    subst hi
    rw [List.drop_length] at e
    cases e
    exact ⟨W.st S H ss R.sh, k H S R ss G⟩
  · have hi : i < ds.length := by omega
    refine ⟨W.go i S H ss R.sh hi, fun x H' y => ?_⟩
    obtain ⟨S3, d, N, e1, e2⟩ := W.yl i S H x H' ss R.sh hi y
    have ed : ds.drop i = d :: ds.drop (i + 1) := by
      rw [List.drop_eq_getElem_cons hi]
      congr 1
      rw [List.getElem?_eq_getElem hi] at e1
      exact Option.some.inj e1
    rw [ed] at e
    obtain ⟨ρ1, q1, e⟩ := ol_some (show ol (g (.da d) ρ) (fun ρ1 => ob (ts ρ1) fun b ρ2 => if b = true then ob (fe ρ2) fun x ρ3 => ob (sto ρ3 x) fun y ρ4 => lcL g ts fe vs (ds.drop (i + 1)) (wipeE ρ4 vs) (acc ++ [y]) else lcL g ts fe vs (ds.drop (i + 1)) (wipeE ρ2 vs) acc) = some (res, ρe) from e)
    obtain ⟨b, ρ2, q2, e⟩ := ob_some e
    have RN := R.new N
    have GN : Grow K t S3 H' (wipe σ vs) ρ D acc := by
      obtain ⟨us, h1, h2⟩ := G.at_
      exact ⟨⟨us, N.hh _ _ h1, h2.mono N.ss⟩, N.fr D (none_ne h1) G.s, G.b, G.p, G.o⟩
    refine ⟨t.re S3 H' (wipe σ vs) ρ, S3, ρ, .da d, ρ1, RN.base, e2, q1, fun σ2 H2 S2 R2 s2 f2 l2 => ?_⟩
    have hwp : wipe σ2 vs = wipe σ vs := by
      rw [← wipe_wipe σ vs]
      exact wipe_eq l2 fun j hj => f2 j fun z => hj (hw j z)
    refine ⟨hwp, ?_⟩
    have G2 := GN.step R2 (R.bh.nlk G.b)
    have R2' := RN.unbase R2
    refine ⟨t.re S2 H2 σ2 ρ1, S2, ρ1, b, ρ2, R2'.base, q2, fun H4 S4 R4 s4 => ?_⟩
    have G4 := G2.step R4 (R.bh.nlk G.b)
    have R4' := R2'.unbase R4
    have sx : Same S0 S4 := ((ss.trans N.ss).trans s2).trans s4
    -- what is left of the turn: the own names forgotten
    have fin : ∀ {S5 H5 : Hp} {ρ5 : En} {acc5 : List PyData}, Rep K t S5 H5 σ2 ρ5 → Grow K t S5 H5 σ2 ρ5 D acc5 → Rep K t S5 H5 (wipe σ vs) (wipeE ρ5 vs) ∧ Grow K t S5 H5 (wipe σ vs) (wipeE ρ5 vs) D acc5 := fun {S5 H5 ρ5 acc5} R5 G5 => by
      have := R5.wiped vs
      rw [hwp] at this
      refine ⟨this, G5.sub fun j s es y1 y2 => ?_⟩
      obtain ⟨h1, h2⟩ := wipeE_get y1 (ls_no y2)
      exact ⟨s, es, h2, y2, by rw [← hwp, wipe_at σ2 h1]⟩
    cases b with
    | false =>
      obtain ⟨f1, f2⟩ := fin R4' G4
      exact iteF ⟨S4, wipeE ρ2 vs, acc, by omega, f1, sx, f2, by simpa using e⟩
    | true =>
      rw [if_pos rfl] at e
      obtain ⟨z, ρ3, q3, e⟩ := ob_some e
      obtain ⟨y', ρ4, q4, e⟩ := ob_some e
      refine iteT ⟨t.re S4 H4 σ2 ρ2, S4, ρ2, z, ρ3, R4'.base, q3, fun u H5 S5 R5 s5 o5 => ?_⟩
      have G5 := G4.step R5 (R.bh.nlk G.b)
      have R5' := R4'.unbase R5
      have o5' := o5.unbase R4'
      -- the item becomes data; the list that is made is no such
      have key : ∃ S6, Same S5 S6 ∧ Rep K t S6 H5 σ2 ρ4 ∧ Da K S6 u y' ∧ Grow K t S6 H5 σ2 ρ4 D acc := by
        cases z with
        | da d' =>
          cases q4
          exact ⟨S5, Same.refl _, R5', o5', G5⟩
        | fr fs =>
          cases q4
          obtain ⟨a, us, rfl, h1, h2, h3, h4, h5, h6⟩ := id o5'
          have haD : D ≠ a := fun hz => by
            subst hz
            obtain ⟨_, _, ea, _, _, g3, _⟩ := o5
            cases ea
            have g3' : cut H4 σ2 ρ2 D = none := g3
            obtain ⟨us', k1, _⟩ := G4.at_
            rw [cut_of k1 G4.o] at g3'
            cases g3'
          obtain ⟨us', k1, k2⟩ := G5.at_
          exact ⟨_, same_put h2, R5'.grow h1 h2 h3 h6, .lst upd_same (h5.mono (same_put h2)), ⟨us', k1, k2.mono (same_put h2)⟩, by rw [upd_ne haD]; exact G5.s, G5.b, G5.p, G5.o⟩
        | bo j =>
          obtain ⟨s, p1, p2⟩ := ol_some q4
          have o6 : σ2[j]? = some (some u) := o5'
          cases s with
          | no => cases p2
          | ob _ _ => cases p2
          | pa _ => cases p2
          | da d' =>
            cases p2
            obtain ⟨w, e3, e4⟩ := R5'.dat j _ p1
            rw [o6] at e3
            cases e3
            exact ⟨S5, Same.refl _, R5', e4, G5⟩
          | ow fs =>
            cases p2
            obtain ⟨a, us, e3, e4, e5, e6, e7, e8⟩ := R5'.own j _ fs p1 rfl
            have haD : D ≠ a := fun hz => by
              subst hz
              exact G5.o j _ fs p1 rfl e3
            rw [o6] at e3
            cases e3
            have hd := R5'.drop j
            have hg : Rep K t (upd S5 a (.lst us)) H5 σ2 (ρ3.set j .no) := hd.grow e4 e5 e6 fun l s' es y1 y2 y => by
              rcases set_get y1 with ⟨rfl, rfl, _⟩ | ⟨hl, y1⟩
              · cases y2
              · exact R5'.dis l j s' _ es fs a hl y1 y2 p1 rfl y o6
            have dv : Da K (upd S5 a (.lst us)) (.ref a) (.list fs) := .lst upd_same (e7.mono (same_put e5))
            obtain ⟨us', k1, k2⟩ := G5.at_
            have hset : Rep K t (upd S5 a (.lst us)) H5 σ2 (ρ3.set j (.da (.list fs))) := by
              have := hg.setD (i := j) dv (fun es y => by
                rcases set_get y with ⟨_, y, _⟩ | ⟨h0, _⟩
                · cases y
                · exact h0 rfl)
              rw [List.set_set] at this
              have es : σ2.set j (some (V.ref a)) = σ2 := by
                apply List.ext_getElem?
                intro l
                by_cases hl : j = l
                · subst hl
                  rw [List.getElem?_set_self (List.getElem?_eq_some_iff.mp o6).1, o6]
                · rw [List.getElem?_set_ne hl]
              rw [es] at this
              exact this
            refine ⟨_, same_put e5, hset, dv, ⟨us', k1, k2.mono (same_put e5)⟩, by rw [upd_ne haD]; exact G5.s, G5.b, G5.p, fun l s' es y1 y2 => ?_⟩
            rcases set_get y1 with ⟨rfl, rfl, _⟩ | ⟨hl, y1⟩
            · cases y2
            · exact G5.o l s' es y1 y2
      obtain ⟨S6, s6, R6, d6, G6⟩ := key
      obtain ⟨us, k1, k2⟩ := G6.at_
      have k3 : us.length < sizeLine := by rw [line_eq, k2.length]; omega
      refine ⟨us, k1, k3, S6, wipeE ρ4 vs, acc ++ [y'], by rw [List.length_append, List.length_singleton]; omega, ?_⟩
      have R7 := R6.upd_other (o := .lst (us ++ [u])) G6.s G6.b G6.p G6.o
      have G7 : Grow K t S6 (upd H5 D (.lst (us ++ [u]))) σ2 ρ4 D (acc ++ [y']) := ⟨⟨_, upd_same, k2.append (.one d6)⟩, G6.s, G6.b, G6.p, G6.o⟩
      obtain ⟨f1, f2⟩ := fin R7 G7
      exact ⟨f1, (sx.trans s5).trans s6, f2, e⟩
theorem rd_lc {fi : IF} (hw : ∀ j ∈ ws, j ∈ vs) : ∀ σ H Q, rdE K (eLc fi g ts fe vs) σ H Q → tLc (rdI K fi) (rdG K ws g) (rdT K ts) (rdE K fe) vs σ H Q := fun σ H Q ⟨t, S, ρ, r, ρ', R, e, k⟩ => by
  obtain ⟨ds, ρ1, q1, e⟩ := ob_some e
  split at e
  · rename_i hc
    rw [Bool.and_eq_true, decide_eq_true_eq, List.all_eq_true] at hc
    obtain ⟨acc, ρ2, q2, e⟩ := ob_some e
    cases e
    refine ⟨t, S, ρ, ds, ρ1, R, q1, fun J H1 S1 R1 s1 W D hD => ?_⟩
    have R2 := (R1.new (New.lay (o := .lst []) R1.sh hD)).wiped vs
    have hS : S1 D = none := R1.sh.free hD
    have G : Grow K t S1 (upd H1 D (.lst [])) (wipe σ vs) (wipeE ρ1 vs) D [] := by
      refine ⟨⟨[], upd_same, .nil⟩, hS, R1.bh.free hD, fun z => R1.ph D z hD, fun i s es y1 y2 y => ?_⟩
      obtain ⟨h1, h2⟩ := wipeE_get y1 (ls_no y2)
      rw [wipe_at σ h1] at y
      obtain ⟨a, us, z1, z2, _⟩ := R1.own i s es h2 y2
      rw [y] at z1
      cases z1
      rw [hD] at z2
      cases z2
    refine ⟨fun i m H' => i + m = ds.length ∧ ∃ S' ρ' acc', acc'.length ≤ i ∧ Rep K t S' H' (wipe σ vs) ρ' ∧ Same S1 S' ∧ Grow K t S' H' (wipe σ vs) ρ' D acc' ∧ lcL g ts fe vs (ds.drop i) ρ' acc' = some (acc, ρ2),
      ⟨ds.length, by omega, S1, wipeE ρ1 vs, [], Nat.le_refl _, R2, Same.refl _, G, q2⟩, ?_⟩
    rintro i m H' ⟨hm, S', ρ', acc', ha, R', s', G', e'⟩
    obtain ⟨w0, w1⟩ := lcW (v := vs) (Q := fun H'' => Q (.ref D) H'') hw W hc.1 (fun H'' S'' R'' s'' G'' => by
      have RB := R1.back hc.2 s'' R''
      obtain ⟨us, k1, k2⟩ := G''.at_
      refine k (.ref D) H'' S'' RB (s1.trans s'') ⟨D, us, rfl, k1, G''.s, G''.b, G''.p, k2, fun j s es y1 y2 y => ?_⟩
      rcases backE_get y1 with ⟨h1, h2⟩ | ⟨h1, h2⟩
      · have := hc.2 j h1
        rw [← h2] at this
        cases s with
        | no => cases y2
        | ob _ _ => cases y2
        | da _ => cases y2
        | ow _ => cases this
        | pa _ => cases this
      · exact G''.o j s es h2 y2 (by rw [wipe_at σ h1]; exact y)) m i H' S' ρ' acc' hm ha R' s' G' e'
    by_cases h0 : m = 0
    · exact .inl (w0 h0)
    · obtain ⟨g1, g2⟩ := w1 (by omega)
      exact .inr ⟨g1, fun H2 => ∃ S' ρ' acc2, acc2.length ≤ i + 1 ∧ Rep K t S' H2 (wipe σ vs) ρ' ∧ Same S1 S' ∧ Grow K t S' H2 (wipe σ vs) ρ' D acc2 ∧ lcL g ts fe vs (ds.drop (i + 1)) ρ' acc2 = some (acc, ρ2),
        fun H2 ⟨S2, ρ3, acc2, l2, R3, s2, G2, e2⟩ => ⟨m - 1, by omega, by omega, S2, ρ3, acc2, l2, R3, s2, G2, e2⟩, g2⟩
  · cases e
end
section
variable {X : Cx} {elt tg iter : Expr} {ifs : List Expr} {scope : Scope} {own : List (Str × Nat)} {pos : Pos} {fi : IF} {g : GF} {ts : TF} {fe : EF} {ws : List Nat}
theorem ok_lc (hc : X.calm = true) (hN : X.N.Nodup) (hi : OkI X tg iter fi) (ok : BlkOk X.N X.env.scope scope own)
    (hg : ∀ (s : Shared) (H : Hp) (C : Addr) (cl : List (Str × Addr)) (fp : List Addr), OkG (X.blk s H scope (compEnvC scope cl C X.env) fp) tg ws g) (ht : ∀ (s : Shared) (H : Hp) (C : Addr) (cl : List (Str × Addr)) (fp : List Addr), OkTs (X.blk s H scope (compEnvC scope cl C X.env) fp) ifs ts)
    (he : ∀ (s : Shared) (H : Hp) (C : Addr) (cl : List (Str × Addr)) (fp : List Addr), OkE (X.blk s H scope (compEnvC scope cl C X.env) fp) elt fe) (hw : ∀ j ∈ ws, j ∈ own.map (·.2) := by decide) (hs : ∀ x, foldedSetIterable iter X.env x = pure x := by intro _; rfl) :
    OkE X (.ListComp elt [⟨tg, iter, ifs, 0⟩] scope pos) (eLc fi g ts fe (own.map (·.2))) :=
  pe_imp (pe_lc hc hN hi.run ok (fun s H C cl fp => (hg s H C cl fp).run) (fun s H C cl fp => (ht s H C cl fp).run) he hs) (rd_lc hw)
theorem okS_setLc {i : Nat} {y : Str} {py spos : Pos} (hc : X.calm = true) (hN : X.N.Nodup) (hy : X.N[i]? = some y) (hyl : X.env.scope.names.lookup y = some .local)
    (hsw : swapsWith (.ListComp elt [⟨tg, iter, ifs, 0⟩] scope pos) (some (.Name y py)) spos.line X.env = pure true) (hi : OkI X tg iter fi) (ok : BlkOk X.N X.env.scope scope own)
    (hg : ∀ (s : Shared) (H : Hp) (C : Addr) (cl : List (Str × Addr)) (fp : List Addr), OkG (X.blk s H scope (compEnvC scope cl C X.env) fp) tg ws g) (ht : ∀ (s : Shared) (H : Hp) (C : Addr) (cl : List (Str × Addr)) (fp : List Addr), OkTs (X.blk s H scope (compEnvC scope cl C X.env) fp) ifs ts)
    (he : ∀ (s : Shared) (H : Hp) (C : Addr) (cl : List (Str × Addr)) (fp : List Addr), OkE (X.blk s H scope (compEnvC scope cl C X.env) fp) elt fe) (hw : ∀ j ∈ ws, j ∈ own.map (·.2) := by decide) (hs : ∀ x, foldedSetIterable iter X.env x = pure x := by intro _; rfl) :
    OkS X (.Assign [.Name y py] (.ListComp elt [⟨tg, iter, ifs, 0⟩] scope pos) spos) (sAsg (eLc fi g ts fe (own.map (·.2))) (gNm i)) :=
  ps_imp (ps_setLc hc hN hy hyl hsw hi.run ok (fun s H C cl fp => (hg s H C cl fp).run) (fun s H C cl fp => (ht s H C cl fp).run) he hs) (rd_asg (rd_lc hw) (rd_gNm i))
end

/-! ### defs -/
def startE (n N : Nat) (ds : List PyData) : Option En := if ds.length = n then some (ds.map Sl.da ++ List.replicate (N - n) .no) else none
def outF : Out → Option Rv
  | .rt (.da d) _ => some (.da d)
  | .rt (.fr ds) _ => some (.fr ds)
  | .nx _ => some (.da .none)
  | _ => none
/-- the def as a function of data: n parameters, N names in all -/
def fnF (n N : Nat) (body : SF) (ds : List PyData) : Option Rv := ol (startE n N ds) fun ρ => ol (body ρ) outF
/-- .. that may change the list handed in at place j -/
def startB (j n N : Nat) (ms ds : List PyData) : Option En := if ds.length + 1 = n ∧ j < n then some ((ds.take j).map Sl.da ++ .pa ms :: (ds.drop j).map Sl.da ++ List.replicate (N - n) .no) else none
def paOf (j : Nat) (ρ : En) : Option (List PyData) := match ρ[j]? with
  | some (.pa ms) => some ms
  | _ => none
def outB (j : Nat) : Out → Option (Rv × List PyData)
  | .rt (.da d) ρ => ol (paOf j ρ) fun ms => some (.da d, ms)
  | .rt (.fr ds) ρ => ol (paOf j ρ) fun ms => some (.fr ds, ms)
  | .nx ρ => ol (paOf j ρ) fun ms => some (.da .none, ms)
  | _ => none
def fnB (j n N : Nat) (body : SF) (ms ds : List PyData) : Option (Rv × List PyData) := ol (startB j n N ms ds) fun ρ => ol (body ρ) (outB j)
section
variable {P : Program} {w : World} {K : PySem.W.Frag} {mg : Str → Option Value} {base : Heap} {x qual : Str} {st : Stmt} {f : Addr} {fd : FuncData} {N ps : List Str} {k : Nat} {body : SF}
theorem start_rep {S H : Hp} {vs : List V} {ds : List PyData} (m : Nat) (h : DaAll K S vs ds) (sh : Same S H) : Rep K ⟨H, S, none, fun _ => none⟩ S H (vs.map some ++ List.replicate m none) (ds.map Sl.da ++ List.replicate m .no) := by
  have hl := h.length
  have at_ : ∀ {i : Nat} {s : Sl}, (ds.map Sl.da ++ List.replicate m .no)[i]? = some s → s ≠ .no → ∃ d, s = .da d ∧ ds[i]? = some d := fun {i s} e hs => by
    by_cases hi : i < ds.length
    · rw [List.getElem?_append_left (by simpa using hi), List.getElem?_map] at e
      cases q : ds[i]? with
      | none => rw [q] at e; cases e
      | some d => rw [q] at e; cases e; exact ⟨d, rfl, rfl⟩
    · rw [List.getElem?_append_right (by simpa using hi)] at e
      have := List.mem_of_getElem? e
      rw [List.mem_replicate] at this
      exact absurd this.2 hs
  refine ⟨sh, Same.refl _, fun _ _ h => h, OB.nov, fun _ z => (nomatch z), by simp [hl], fun i d e => ?_, fun i s es e1 e2 => ?_, fun i j s s' es es' a _ e1 e2 _ _ _ _ => ?_, .nobs fun i b st e => by
    obtain ⟨d', z, _⟩ := at_ e (fun z => nomatch z)
    cases z⟩
  · obtain ⟨d', z, e'⟩ := at_ e (fun z => nomatch z)
    cases z
    obtain ⟨v, z1, z2⟩ := h.at e'
    refine ⟨v, ?_, z2⟩
    rw [List.getElem?_append_left (by rw [List.length_map]; exact (List.getElem?_eq_some_iff.mp z1).1), List.getElem?_map, z1]
    rfl
  · obtain ⟨d', z, _⟩ := at_ e1 (ls_no e2)
    subst z
    cases e2
  · obtain ⟨d', z, _⟩ := at_ e1 (ls_no e2)
    subst z
    cases e2
/-- THE RULE of a def that changes nothing -/
theorem fn_ok (F : Fun K x qual st f fd) (Sc : FnScope N ps (defScope st))
    (hbody : ∀ (cdv : Value) (A : Around) (outer : List Env) (s : Shared) (H : Hp) (E : XK), Room k (A.deeper (PyProof.Rows.envOfC qual (defScope st) s.heap.objs.size f cdv)) → OkSs (cxOf CX0 P w K mg base N qual (defScope st) f cdv A outer s H E).nox (defBody st) body) :
    FnOk P w K mg base CX0 (k + 1) f fd ps (spF K (fnF ps.length N.length body)) := by
  refine F.ok Sc (fun vs H Q E h => ?_) (fun cdv A outer s H vs Q E hr h => ⟨_, hbody cdv A outer s H E hr, ?_⟩)
  · obtain ⟨S, ds, r, _, h1, h2, _⟩ := h
    obtain ⟨ρ, e, _⟩ := ol_some h2
    unfold startE at e
    split at e
    · rename_i hl
      rw [h1.length]; exact hl
    · cases e
  · obtain ⟨S, ds, r, sh, h1, h2, q⟩ := h
    obtain ⟨ρ, e, h2⟩ := ol_some h2
    obtain ⟨o, e2, h2⟩ := ol_some h2
    unfold startE at e
    split at e
    · rename_i hl
      cases e
      have R := start_rep (N.length - ps.length) h1 sh
      have es : L2.start N vs = vs.map some ++ List.replicate (N.length - ps.length) none := by
        unfold L2.start
        rw [h1.length, hl]
      rw [es]
      refine ⟨_, S, _, o, R, e2, ?_⟩
      have fin : ∀ {S' H' : Hp} {σ' : L2.St} {ρ' : En}, Rep K ⟨H, S, none, fun _ => none⟩ S' H' σ' ρ' → Same S S' → New S H S' H' := fun {S' H' σ' ρ'} R' s' => ⟨s', R'.bh.same fun _ => rfl, R'.sh, R'.sn⟩
      cases o with
      | nx ρ' =>
        cases h2
        exact fun σ' H' S' R' s' _ => q _ H' S' (fin R' s') .non
      | bk ρ' => cases h2
      | ct ρ' => cases h2
      | rt r' ρ' =>
        cases r' with
        | da d =>
          cases h2
          exact fun v σ' H' S' R' s' o' => q v H' S' (fin R' s') o'
        | fr fs =>
          cases h2
          exact fun v σ' H' S' R' s' ⟨a, us, e1, e3, e4, e5, _, e6, _⟩ => q v H' S' (fin R' s') ⟨a, us, e1, e5, e3, e4, e6⟩
        | bo i => cases h2
    · cases e
end
end DL
/-! The data layer 10: defs that change a list handed in. -/
namespace DL
open PySem L2
theorem DaAll.split {K : PySem.W.Frag} {S : Hp} : ∀ {vs : List V} {ds : List PyData} (j : Nat), DaAll K S vs ds → DaAll K S (vs.take j) (ds.take j) ∧ DaAll K S (vs.drop j) (ds.drop j) := fun j h => ⟨h.take j, h.drop j⟩
section
variable {P : Program} {w : World} {K : PySem.W.Frag} {mg : Str → Option Value} {base : Heap} {x qual : Str} {st : Stmt} {f : Addr} {fd : FuncData} {N ps : List Str} {k : Nat} {body : SF}
theorem startB_rep {S H : Hp} {a : Addr} {mv : List V} {ms : List PyData} {us ws : List V} {ds es : List PyData} (m : Nat) (sh : Same S H) (ha : H a = some (.lst mv)) (hs : S a = none) (hm : DaAll K S mv ms) (h1 : DaAll K S us ds) (h2 : DaAll K S ws es) :
    Rep K ⟨fun b => if b = a then none else H b, S, some a, fun _ => none⟩ S H ((us ++ V.ref a :: ws).map some ++ List.replicate m none) (ds.map Sl.da ++ Sl.pa ms :: es.map Sl.da ++ List.replicate m .no) := by
  have hl1 := h1.length
  have hl2 := h2.length
  have at_ : ∀ {i : Nat} {s : Sl}, (ds.map Sl.da ++ Sl.pa ms :: es.map Sl.da ++ List.replicate m .no)[i]? = some s → s ≠ .no → (i = ds.length ∧ s = .pa ms) ∨ ∃ d v, s = .da d ∧ ((us ++ V.ref a :: ws).map some ++ List.replicate m none)[i]? = some (some v) ∧ Da K S v d := fun {i s} e hs => by
    by_cases hi : i < ds.length
    · right
      rw [List.append_assoc, List.getElem?_append_left (by simpa using hi), List.getElem?_map] at e
      cases q : ds[i]? with
      | none => rw [q] at e; cases e
      | some d =>
        rw [q] at e
        cases e
        obtain ⟨v, z1, z2⟩ := h1.at q
        refine ⟨d, v, rfl, ?_, z2⟩
        rw [List.map_append, List.append_assoc, List.getElem?_append_left (by rw [List.length_map, hl1]; exact hi), List.getElem?_map, z1]
        rfl
    · rw [List.append_assoc, List.getElem?_append_right (by simpa using hi), List.length_map] at e
      cases q : i - ds.length with
      | zero =>
        rw [q] at e
        have e' : Sl.pa ms = s := by simpa using e
        exact .inl ⟨by omega, e'.symm⟩
      | succ j =>
        right
        rw [q] at e
        have e' : (es.map Sl.da ++ List.replicate m .no)[j]? = some s := by simpa using e
        by_cases hj : j < es.length
        · rw [List.getElem?_append_left (by simpa using hj), List.getElem?_map] at e'
          cases q2 : es[j]? with
          | none => rw [q2] at e'; cases e'
          | some d =>
            rw [q2] at e'
            cases e'
            obtain ⟨v, z1, z2⟩ := h2.at q2
            refine ⟨d, v, rfl, ?_, z2⟩
            rw [List.map_append, List.append_assoc, List.getElem?_append_right (by rw [List.length_map, hl1]; omega), List.length_map, hl1, q, List.map_cons, List.cons_append, List.getElem?_cons_succ, List.getElem?_append_left (by rw [List.length_map, hl2]; exact hj), List.getElem?_map, z1]
            rfl
        · rw [List.getElem?_append_right (by simpa using hj)] at e'
          have := List.mem_of_getElem? e'
          rw [List.mem_replicate] at this
          exact absurd this.2 hs
  have atP : ((us ++ V.ref a :: ws).map some ++ List.replicate m none)[ds.length]? = some (some (.ref a)) := by
    rw [List.map_append, List.append_assoc, List.getElem?_append_right (by rw [List.length_map, hl1]; exact Nat.le_refl _), List.length_map, hl1, Nat.sub_self]
    rfl
  have own : ∀ {i : Nat} {s : Sl} {fs : List PyData}, (ds.map Sl.da ++ Sl.pa ms :: es.map Sl.da ++ List.replicate m .no)[i]? = some s → s.ls = some fs → i = ds.length ∧ s = .pa ms := fun {i s fs} e e2 => by
    rcases at_ e (ls_no e2) with h | ⟨d, v, h, _⟩
    · exact h
    · subst h; cases e2
  refine ⟨sh, Same.refl _, fun b h1 h2 => h2, OB.nov' fun b o e => ?_, fun b e => ?_, by simp [hl1, hl2], fun i d e => ?_, fun i s fs e1 e2 => ?_, fun i j s s' fs fs' b hij e1 e2 e3 e4 _ _ => ?_, .nobs fun i b st e => by
    rcases at_ e (fun z => nomatch z) with ⟨_, z⟩ | ⟨d', v, z, _⟩ <;> cases z⟩
  · have e' : (if b = a then none else H b) = some o := e
    split at e'
    · cases e'
    · exact e'
  · cases e
    exact none_ne ha
  · rcases at_ e (fun z => nomatch z) with ⟨_, z⟩ | ⟨d', v, z, h3, h4⟩
    · cases z
    · cases z
      exact ⟨v, h3, h4⟩
  · obtain ⟨rfl, rfl⟩ := own e1 e2
    have e2' : some ms = some fs := e2
    cases e2'
    exact ⟨a, mv, atP, ha, hs, by simp, hm, fun _ => rfl, fun _ => rfl⟩
  · obtain ⟨z1, _⟩ := own e1 e2
    obtain ⟨z2, _⟩ := own e3 e4
    exact hij (z1.trans z2.symm)
/-- THE RULE of a def that may change the list handed in at its place j -/
theorem fnB_ok (j : Nat) (F : Fun K x qual st f fd) (Sc : FnScope N ps (defScope st))
    (hbody : ∀ (cdv : Value) (A : Around) (outer : List Env) (s : Shared) (H : Hp) (E : XK), Room k (A.deeper (PyProof.Rows.envOfC qual (defScope st) s.heap.objs.size f cdv)) → OkSs (cxOf CX0 P w K mg base N qual (defScope st) f cdv A outer s H E).nox (defBody st) body) :
    FnOk P w K mg base CX0 (k + 1) f fd ps (spB K j (fnB j ps.length N.length body)) := by
  have len : ∀ vs H Q E, spB K j (fnB j ps.length N.length body) vs H Q E → vs.length = ps.length := fun vs H Q E h => by
    obtain ⟨S, a, ms, ds, mv, r, ms', _, h1, _, _, _, h2, h3, _⟩ := h
    obtain ⟨ρ, e, _⟩ := ol_some h3
    unfold startB at e
    split at e
    · rename_i hl
      have := h2.length
      have hj : j < vs.length := (List.getElem?_eq_some_iff.mp h1).1
      rw [List.length_eraseIdx_of_lt hj] at this
      omega
    · cases e
  refine F.ok Sc len (fun cdv A outer s H vs Q E hr h => ⟨_, hbody cdv A outer s H E hr, ?_⟩)
  have hlen := len _ _ _ _ h
  obtain ⟨S, a, ms, ds, mv, r, ms', sh, h1, ha, hs, hm, h2, h3, q⟩ := h
  obtain ⟨ρ, e, h3⟩ := ol_some h3
  obtain ⟨o, e2, h3⟩ := ol_some h3
  unfold startB at e
  split at e
  · rename_i hl
    cases e
    have hj : j < vs.length := (List.getElem?_eq_some_iff.mp h1).1
    have hds : ds.length + 1 = ps.length := hl.1
    have dl := h2.length
    have ev : vs = vs.take j ++ V.ref a :: vs.drop (j + 1) := by
      rw [List.getElem?_eq_getElem hj] at h1
      rw [← Option.some.inj h1, ← List.drop_eq_getElem_cons hj, List.take_append_drop]
    have e1 : (vs.eraseIdx j).take j = vs.take j := by
      rw [List.eraseIdx_eq_take_drop_succ, List.take_append_of_le_length (by rw [List.length_take]; omega), List.take_take, Nat.min_self]
    have e3 : (vs.eraseIdx j).drop j = vs.drop (j + 1) := by
      rw [List.eraseIdx_eq_take_drop_succ, List.drop_append, List.length_take, Nat.min_eq_left (Nat.le_of_lt hj), Nat.sub_self, List.drop_zero, List.drop_eq_nil_of_le (by rw [List.length_take]; omega), List.nil_append]
    have d1 := h2.take j
    have d2 := h2.drop j
    rw [e1] at d1
    rw [e3] at d2
    have R := startB_rep (N.length - ps.length) sh ha hs hm d1 d2
    have es : L2.start N vs = (vs.take j ++ V.ref a :: vs.drop (j + 1)).map some ++ List.replicate (N.length - ps.length) none := by
      unfold L2.start
      rw [← ev, hlen]
    rw [es]
    refine ⟨_, S, _, o, R, e2, ?_⟩
    have fin : ∀ {S' H' : Hp} {σ' : L2.St} {ρ' : En} {ms2 : List PyData} {v : V} {r2 : Rv}, Rep K ⟨fun b => if b = a then none else H b, S, some a, fun _ => none⟩ S' H' σ' ρ' → Same S S' → paOf j ρ' = some ms2 →
        (match r2 with | .da d => Da K S' v d | .fr fs => RvOk K ⟨fun b => if b = a then none else H b, S, some a, fun _ => none⟩ S' H' σ' ρ' v (.fr fs) | .bo _ => False) → (some (r2, ms2) = some (r, ms')) → Q v H' := fun {S' H' σ' ρ' ms2 v r2} R' s' hp o' ee => by
      cases ee
      unfold paOf at hp
      split at hp
      · rename_i ms3 hq
        cases hp
        obtain ⟨a', mv', z1, z2, z3, z4, z5, z6⟩ := R'.own j _ _ hq rfl
        have ea : a' = a := by
          have := z6.mpr rfl
          exact (Option.some.inj this).symm
        subst ea
        refine q v H' S' mv' s' R'.sh (fun b hb hb2 => ?_) (fun b o hb e => R'.bh.same (fun _ => rfl) b o (by show (if b = a' then none else H b) = some o; rw [if_neg hb]; exact e)) z2 z5 ?_
        · by_cases hba : b = a'
          · subst hba; exact z3
          · refine R'.sn b ?_ hb2
            show (if b = a' then none else H b) ≠ none
            rw [if_neg hba]; exact hb
        · cases r with
          | da d => exact o'
          | bo _ => exact o'
          | fr fs =>
            obtain ⟨c, us, y1, y2, y3, y4, y5, y6, _⟩ := o'
            have hca : c ≠ a' := fun z => y5 (by rw [z])
            have y4' : (if c = a' then none else H c) = none := y4
            rw [if_neg hca] at y4'
            exact ⟨c, us, y1, y4', y2, y3, y6⟩
      · cases hp
    cases o with
    | nx ρ' =>
      obtain ⟨ms2, hp, h3⟩ := ol_some h3
      exact fun σ' H' S' R' s' _ => fin (r2 := .da .none) R' s' hp .non h3
    | bk ρ' => cases h3
    | ct ρ' => cases h3
    | rt r' ρ' =>
      cases r' with
      | da d =>
        obtain ⟨ms2, hp, h3⟩ := ol_some h3
        exact fun v σ' H' S' R' s' o' => fin (r2 := .da d) R' s' hp o' h3
      | fr fs =>
        obtain ⟨ms2, hp, h3⟩ := ol_some h3
        exact fun v σ' H' S' R' s' o' => fin (r2 := .fr fs) R' s' hp o' h3
      | bo i => cases h3
  · cases e
end
end DL
/-! The data layer 11: further operators; what a caller knows of a def. -/
namespace DL
open PySem L2
theorem hu65 {k : Nat} {A : Around} (hr : Room k A) : A.units + 65 < cLine := by have := hr.un; omega
/-- a def that a caller calls -/
structure Cal (P : Program) (w : World) (K : PySem.W.Frag) (mg : Str → Option Value) (base : Heap) (k : Nat) (x : Str) (f : Addr) (fd : FuncData) (ps : List Str) (sp : Sp) : Prop where
  c : FnOk P w K mg base CX0 k f fd ps sp
  g : mg x = some (.ref f)
  k : PySem.W.keepIn K (.ref f) = true
  b : Binds K fd ps []
section
variable {X : Cx} {pos : Pos} {K : PySem.W.Frag}
theorem ok_negC {n : Int} {j : Nat} {p pos : Pos} : OkE X (.UnaryOp .USub (.Constant (.int n) j p) pos) (eC (.int (-n))) := pe_imp (pe_un un_neg pe_int) fun σ H Q ⟨t, S, ρ, r, ρ', R, e, k⟩ => by
  cases e
  exact ⟨n, rfl, k _ H S R (Same.refl _) (.int _)⟩
end
/-- ints; a tuple, a list so many times -/
def mulU : PyData → PyData → Option Rv
  | .int i, .int j => if CMulB i j = true then some (.da (.int (i * j))) else none
  | .tuple xs, .int k => if xs ≠ [] ∧ 2 ≤ k ∧ k ≤ 1000 ∧ xs.length ≤ 1000 then some (.da (.tuple (List.replicate k.toNat xs).flatten)) else none
  | .list xs, .int k => if 0 ≤ k ∧ k ≤ 1000 ∧ xs.length ≤ 1000 then some (.fr (List.replicate k.toNat xs).flatten) else none
  | _, _ => none
abbrev rMulU (K : PySem.W.Frag) : R2 := fun x y H Q => rI CMul (fun i j => .int (i * j)) x y H Q ∨ (rRepT K x y H Q ∨ rRep x y H Q)
section
variable {K : PySem.W.Frag} {X : Cx}
theorem opMulU : OpR X (binaryOp .Mult) (rMulU X.K) := op_mul.or (op_repT.or op_rep)
theorem okMulU : OpOk K (rMulU K) mulU := fun S H x y d e res ss hx hy hf Q k => by
  unfold mulU at hf
  split at hf
  · split at hf
    · rename_i h
      cases hf
      exact .inl ⟨_, _, hx.int, hy.int, CMulB.ok h, k _ H S (New.refl ss) (.int _)⟩
    · cases hf
  · split at hf
    · rename_i h
      cases hf
      obtain ⟨a, vs, rfl, ha, da⟩ := hx.tup
      have hn : vs ≠ [] := fun z => by
        subst z
        cases da
        exact h.1 rfl
      rename_i xs kk
      refine .inr (.inl ⟨a, _, vs, rfl, hy.int, SqT.of (ss _ _ ha), hn, h.2.1, h.2.2.1, by rw [da.length]; exact h.2.2.2, fun p hp => ?_⟩)
      have N := New.put (o := .tup (List.replicate kk.toNat vs).flatten) ss hp
      exact k _ _ _ N (.tup upd_same ((da.rep _).mono N.ss))
    · cases hf
  · split at hf
    · rename_i h
      cases hf
      obtain ⟨a, vs, rfl, ha, da⟩ := hx.lst ss
      refine .inr (.inr ⟨a, _, vs, rfl, hy.int, ha, by omega, by omega, ?_, fun p hp => ?_⟩)
      · rw [line_eq, da.length]
        rename_i xs kk
        have h1 : kk.toNat ≤ 1000 := by omega
        have := Nat.mul_le_mul h.2.2 h1
        omega
      · exact k _ _ _ (New.lay ss hp) ⟨p, _, rfl, hp, upd_same, ss.free hp, da.rep _⟩
    · cases hf
  · cases hf
end
/-- xs[::-1] of a list -/
def eRevS (f : EF) : EF := fun ρ => ob (f ρ) fun r ρ1 => ol (vw ρ1 r) fun d => ol (lsD d) fun xs => some (.fr xs.reverse, ρ1)
theorem ok_revS {X : Cx} {e : Expr} {f : EF} {k : Nat} {p1 p2 p3 pos : Pos} (he : OkE X e f) : OkE X (.Subscript e (.Slice none none (some (.UnaryOp .USub (.Constant (.int 1) k p1) p2)) p3) pos) (eRevS f) :=
  pe_imp (pe_revL he) fun σ H Q ⟨t, S, ρ, r, ρ', R, e, k⟩ => by
    obtain ⟨x, ρ1, q1, e⟩ := ob_some e
    obtain ⟨d, q2, e⟩ := ol_some e
    obtain ⟨xs, q3, e⟩ := ol_some e
    cases e
    cases lsD_some q3
    refine ⟨t, S, ρ, x, _, R, q1, fun v H1 S1 R1 s1 o1 => ?_⟩
    obtain ⟨a, vs, rfl, ha, da⟩ := (R1.vwO o1 q2).lst R1.sh
    refine ⟨a, vs, rfl, SqL.of ha, fun p hp => ?_⟩
    have N := New.lay (o := .lst vs.reverse) R1.sh hp
    exact k _ _ _ (R1.new N) s1 (RO.rv (H := H1) R1 N ⟨p, _, rfl, hp, upd_same, R1.sh.free hp, da.reverse⟩)
end DL
/-! The data layer 12: loops that forget what no later turn reads. -/
namespace DL
open PySem L2
section
variable {K : PySem.W.Frag} {t : Et} {S S' H H' : Hp} {σ : L2.St} {ρ ρ' : En}
theorem Rep.drops (R : Rep K t S H σ ρ) : ∀ vs : List Nat, Rep K t S H σ (wipeE ρ vs)
  | [] => R
  | v :: vs => (R.drops vs).drop v
end
def wipeO (vs : List Nat) : Out → Out
  | .nx ρ => .nx (wipeE ρ vs)
  | .ct ρ => .ct (wipeE ρ vs)
  | .bk ρ => .bk (wipeE ρ vs)
  | .rt r ρ => .rt r ρ
@[simp] theorem wipeO_nx (vs : List Nat) (ρ : En) : wipeO vs (.nx ρ) = .nx (wipeE ρ vs) := rfl
@[simp] theorem wipeO_ct (vs : List Nat) (ρ : En) : wipeO vs (.ct ρ) = .ct (wipeE ρ vs) := rfl
@[simp] theorem wipeO_bk (vs : List Nat) (ρ : En) : wipeO vs (.bk ρ) = .bk (wipeE ρ vs) := rfl
@[simp] theorem wipeO_rt (vs : List Nat) (r : Rv) (ρ : En) : wipeO vs (.rt r ρ) = .rt r ρ := rfl
/-- a block behind which the names at vs are forgotten -/
def sFg (vs : List Nat) (f : SF) : SF := fun ρ => ol (f ρ) fun o => some (wipeO vs o)
/-- .. ahead of which -/
def sFa (vs : List Nat) (f : SF) : SF := fun ρ => f (wipeE ρ vs)
section
variable {X : Cx} {st : Stmt} {sts : List Stmt} {f : SF}
theorem rd_fg {K : PySem.W.Frag} {vs : List Nat} : ∀ D σ H, rdS K (sFg vs f) D σ H → rdS K f D σ H := fun D σ H ⟨t, S, ρ, o, R, e, k⟩ => by
  obtain ⟨o1, q, e⟩ := ol_some e
  cases e
  refine ⟨t, S, ρ, o1, R, q, ?_⟩
  cases o1 with
  | nx ρ1 => exact fun σ' H' S' R' s l => k σ' H' S' (R'.drops vs) s l
  | ct ρ1 => exact fun σ' H' S' R' s l => k σ' H' S' (R'.drops vs) s l
  | bk ρ1 => exact fun σ' H' S' R' s l => k σ' H' S' (R'.drops vs) s l
  | rt r ρ1 => exact k
theorem rd_fa {K : PySem.W.Frag} {vs : List Nat} : ∀ D σ H, rdS K (sFa vs f) D σ H → rdS K f D σ H := fun D σ H ⟨t, S, ρ, o, R, e, k⟩ => ⟨t, S, _, o, R.drops vs, e, k⟩
theorem okSs_fg (vs : List Nat) (h : OkSs X sts f) : OkSs X sts (sFg vs f) := pss_imp h rd_fg
theorem okS_fa (vs : List Nat) (h : OkS X st f) : OkS X st (sFa vs f) := ps_imp h rd_fa
end

/-! ### evaluation, for simp -/
section
variable (ρ : En)
@[simp] theorem x_eC (d : PyData) : eC d ρ = some (.da d, ρ) := rfl
@[simp] theorem x_eVar (i : Nat) : eVar i ρ = ol ρ[i]? fun s => ol (eSl i s) fun r => some (r, ρ) := rfl
@[simp] theorem eSl_da (i : Nat) (d : PyData) : eSl i (.da d) = some (.da d) := rfl
@[simp] theorem eSl_ow (i : Nat) (d : List PyData) : eSl i (.ow d) = some (.bo i) := rfl
@[simp] theorem eSl_pa (i : Nat) (d : List PyData) : eSl i (.pa d) = some (.bo i) := rfl
@[simp] theorem x_eBin (op : PyData → PyData → Option Rv) (a b : EF) : eBin op a b ρ = ob (a ρ) fun x ρ1 => ob (b ρ1) fun y ρ2 => ol (vw ρ2 (deg x)) fun d => ol (vw ρ2 y) fun e => ol (op d e) fun r => some (r, ρ2) := rfl
@[simp] theorem deg_da (d : PyData) : deg (.da d) = .da d := rfl
@[simp] theorem deg_fr (d : List PyData) : deg (.fr d) = .da (.list d) := rfl
@[simp] theorem deg_bo (i : Nat) : deg (.bo i) = .bo i := rfl
@[simp] theorem vw_da (d : PyData) : vw ρ (.da d) = some d := rfl
@[simp] theorem vw_fr (d : List PyData) : vw ρ (.fr d) = some (.list d) := rfl
@[simp] theorem vw_bo (i : Nat) : vw ρ (.bo i) = ol ρ[i]? Sl.vw := rfl
@[simp] theorem Slvw_da (d : PyData) : (Sl.da d).vw = some d := rfl
@[simp] theorem Slvw_ow (d : List PyData) : (Sl.ow d).vw = some (.list d) := rfl
@[simp] theorem Slvw_pa (d : List PyData) : (Sl.pa d).vw = some (.list d) := rfl
@[simp] theorem Slls_da (d : PyData) : (Sl.da d).ls = none := rfl
@[simp] theorem Slls_ow (d : List PyData) : (Sl.ow d).ls = some d := rfl
@[simp] theorem Slls_pa (d : List PyData) : (Sl.pa d).ls = some d := rfl
@[simp] theorem Slput_ow (d e : List PyData) : (Sl.ow d).put e = .ow e := rfl
@[simp] theorem Slput_pa (d e : List PyData) : (Sl.pa d).put e = .pa e := rfl
@[simp] theorem sto_da (d : PyData) : sto ρ (.da d) = some (d, ρ) := rfl
@[simp] theorem sto_fr (d : List PyData) : sto ρ (.fr d) = some (.list d, ρ) := rfl
@[simp] theorem sto_bo (i : Nat) : sto ρ (.bo i) = ol ρ[i]? (stoS ρ i) := rfl
@[simp] theorem stoS_da (i : Nat) (d : PyData) : stoS ρ i (.da d) = some (d, ρ) := rfl
@[simp] theorem stoS_ow (i : Nat) (ds : List PyData) : stoS ρ i (.ow ds) = some (.list ds, ρ.set i (.da (.list ds))) := rfl
@[simp] theorem stos_nil : stos ρ [] = some ([], ρ) := rfl
@[simp] theorem stos_cons (r : Rv) (rs : List Rv) : stos ρ (r :: rs) = ob (sto ρ r) fun d ρ1 => ob (stos ρ1 rs) fun ds ρ2 => some (d :: ds, ρ2) := rfl
@[simp] theorem vws_nil : vws ρ [] = some [] := rfl
@[simp] theorem vws_cons (r : Rv) (rs : List Rv) : vws ρ (r :: rs) = ol (vw ρ r) fun d => ol (vws ρ rs) fun ds => some (d :: ds) := rfl
@[simp] theorem x_tE (f : EF) : tE f ρ = ob (f ρ) fun r ρ1 => ol (toB r) fun c => some (c, ρ1) := rfl
@[simp] theorem x_tAndF (f g : TF) : tAndF f g ρ = ob (f ρ) fun c ρ1 => if c = true then g ρ1 else some (false, ρ1) := rfl
@[simp] theorem x_tOrF (f g : TF) : tOrF f g ρ = ob (f ρ) fun c ρ1 => if c = true then some (true, ρ1) else g ρ1 := rfl
@[simp] theorem x_tNotF (f : TF) : tNotF f ρ = ob (f ρ) fun c ρ1 => some (!c, ρ1) := rfl
@[simp] theorem x_eAndF (f g : EF) : eAndF f g ρ = ob (f ρ) fun r ρ1 => ol (toB r) fun c => if c = true then g ρ1 else some (.da (.bool false), ρ1) := rfl
@[simp] theorem x_eOrF (f g : EF) : eOrF f g ρ = ob (f ρ) fun r ρ1 => ol (toB r) fun c => if c = true then some (.da (.bool true), ρ1) else g ρ1 := rfl
@[simp] theorem x_eNotF (f : EF) : eNotF f ρ = ob (f ρ) fun r ρ1 => ol (toB r) fun c => some (.da (.bool (!c)), ρ1) := rfl
@[simp] theorem x_eIfF (c : TF) (f g : EF) : eIfF c f g ρ = ob (c ρ) fun b ρ1 => if b = true then f ρ1 else g ρ1 := rfl
@[simp] theorem x_eChain (op op' : PyData → PyData → Option Rv) (a b c : EF) : eChain op op' a b c ρ = ob (a ρ) fun x ρ1 => ob (b ρ1) fun y ρ2 => ol (vw ρ2 (deg x)) fun d => ol (vw ρ2 y) fun e => ol (op d e) fun r => ol (toB r) fun k =>
    if k = true then ob (c ρ2) fun z ρ3 => ol (vw ρ3 (deg y)) fun e' => ol (vw ρ3 z) fun g => ol (op' e' g) fun r => some (r, ρ3) else some (.da (.bool false), ρ2) := rfl
@[simp] theorem x_aNil : aNil ρ = some ([], ρ) := rfl
@[simp] theorem x_aCons (e : EF) (as : AF) : aCons e as ρ = ob (e ρ) fun x ρ1 => ob (as ρ1) fun xs ρ2 => some (deg x :: xs, ρ2) := rfl
@[simp] theorem x_eTup (as : AF) : eTup as ρ = ob (as ρ) fun rs ρ1 => ob (stos ρ1 rs) fun ds ρ2 => if ds.length ≤ 16777216 then some (.da (.tuple ds), ρ2) else none := rfl
@[simp] theorem x_eLst (as : AF) : eLst as ρ = ob (as ρ) fun rs ρ1 => ob (stos ρ1 rs) fun ds ρ2 => if ds.length ≤ 16777216 then some (.fr ds, ρ2) else none := rfl
@[simp] theorem x_eCb (f : List PyData → Option Rv) (as : AF) : eCb f as ρ = ob (as ρ) fun rs ρ1 => ol (vws ρ1 rs) fun ds => ol (f ds) fun r => some (r, ρ1) := rfl
@[simp] theorem x_eIsi (T : String) (f : EF) : eIsi T f ρ = ob (f ρ) fun r ρ1 => ol (vw ρ1 r) fun d => if noDict d = true then some (.da (.bool (isiD T d)), ρ1) else none := rfl
@[simp] theorem x_eCall (F : List PyData → Option Rv) (as : AF) : eCall F as ρ = ob (as ρ) fun rs ρ1 => ob (stos ρ1 rs) fun ds ρ2 => ol (F ds) fun r => some (r, ρ2) := rfl
@[simp] theorem x_eCallV (F : List PyData → Option Rv) (as : AF) : eCallV F as ρ = ob (as ρ) fun rs ρ1 => ol (vws ρ1 rs) fun ds => ol (F ds) fun r => if scalR r = true then some (r, ρ1) else none := rfl
@[simp] theorem x_eCallO (j : Nat) (F : List PyData → List PyData → Option (Rv × List PyData)) (as : AF) : eCallO j F as ρ = ob (as ρ) fun rs ρ1 => ol rs[j]? fun rj => ol (boI rj) fun i => ob (stos ρ1 (rs.eraseIdx j)) fun ds ρ2 => ol ρ2[i]? fun s => ol s.ls fun ms =>
  ob (F ms ds) fun r ms' => some (r, ρ2.set i (s.put ms')) := rfl
@[simp] theorem boI_bo (i : Nat) : boI (.bo i) = some i := rfl
@[simp] theorem x_oNo : oNo ρ = some (none, ρ) := rfl
@[simp] theorem x_oE (f : EF) : oE f ρ = ob (f ρ) fun r ρ1 => ol (intR r) fun i => some (some i, ρ1) := rfl
@[simp] theorem x_eSlice (a : EF) (lo hi : OF) : eSlice a lo hi ρ = ob (a ρ) fun x ρ1 => ob (lo ρ1) fun l ρ2 => ob (hi ρ2) fun h ρ3 => ol (vw ρ3 (deg x)) fun d => ol (slD d l h) fun r => some (r, ρ3) := rfl
@[simp] theorem x_eRevS (f : EF) : eRevS f ρ = ob (f ρ) fun r ρ1 => ol (vw ρ1 r) fun d => ol (lsD d) fun xs => some (.fr xs.reverse, ρ1) := rfl
@[simp] theorem x_eApp (i : Nat) (e : EF) : eApp i e ρ = ol ρ[i]? fun s0 => ol s0.ls fun _ => ob (e ρ) fun x ρ1 => ob (sto ρ1 x) fun d ρ2 => ol ρ2[i]? fun s => ol s.ls fun ds =>
  if ds.length < 16777216 then some (.da .none, ρ2.set i (s.put (ds ++ [d]))) else none := rfl
@[simp] theorem x_ePop0 (i : Nat) : ePop0 i ρ = ol ρ[i]? fun s => ol s.ls fun ds => ol ds[ds.length - 1]? fun d => some (.da d, ρ.set i (s.put ds.dropLast)) := rfl
@[simp] theorem x_ePop (i : Nat) (e : EF) : ePop i e ρ = ol ρ[i]? fun s0 => ol s0.ls fun _ => ob (e ρ) fun x ρ1 => ol (intR x) fun k => ol ρ1[i]? fun s => ol s.ls fun ds =>
  if -(2 ^ 63) ≤ k ∧ k < 2 ^ 63 then ol (ixN ds.length k) fun j => ol ds[j]? fun d => some (.da d, ρ1.set i (s.put (ds.eraseIdx j))) else none := rfl
@[simp] theorem x_eIndex (a b : EF) : eIndex a b ρ = ob (a ρ) fun x ρ1 => ol (vw ρ1 x) fun d0 => ol (lsD d0) fun _ => ob (b ρ1) fun y ρ2 => ol (vw ρ2 (deg x)) fun d => ol (vw ρ2 y) fun e => ol (lsD d) fun xs =>
  if (flatD e && xs.all flatD) = true then ol (xs.findIdx? fun z => PyData.eqv z e) fun j => some (.da (.int j), ρ2) else none := rfl
@[simp] theorem lsD_l (xs : List PyData) : lsD (.list xs) = some xs := rfl
@[simp] theorem x_eLc (it : IF) (g : GF) (ts : TF) (e : EF) (vs : List Nat) : eLc it g ts e vs ρ = ob (it ρ) fun ds ρ1 => if (decide (ds.length ≤ 16777216) && vs.all fun i => freeSl (ρ1.getD i .no)) = true then
  ob (lcL g ts e vs ds (wipeE ρ1 vs) []) fun acc ρ2 => some (.fr acc, backE ρ1 vs ρ2) else none := rfl
@[simp] theorem x_tYesF : tYesF ρ = some (true, ρ) := rfl
@[simp] theorem lcL_nil (g : GF) (ts : TF) (e : EF) (vs : List Nat) (acc : List PyData) : lcL g ts e vs [] ρ acc = some (acc, ρ) := rfl
theorem lcL_cons (g : GF) (ts : TF) (e : EF) (vs : List Nat) (d : PyData) (ds acc : List PyData) : lcL g ts e vs (d :: ds) ρ acc = ol (g (.da d) ρ) fun ρ1 => ob (ts ρ1) fun b ρ2 =>
  if b = true then ob (e ρ2) fun x ρ3 => ob (sto ρ3 x) fun y ρ4 => lcL g ts e vs ds (wipeE ρ4 vs) (acc ++ [y]) else lcL g ts e vs ds (wipeE ρ2 vs) acc := rfl
@[simp] theorem freeSl_no : freeSl .no = true := rfl
@[simp] theorem freeSl_da (d : PyData) : freeSl (.da d) = true := rfl
@[simp] theorem wipeE_nil : wipeE ρ [] = ρ := rfl
@[simp] theorem wipeE_cons (v : Nat) (vs : List Nat) : wipeE ρ (v :: vs) = (wipeE ρ vs).set v .no := rfl
@[simp] theorem backE_nil (ρ0 : En) : backE ρ0 [] ρ = ρ := rfl
@[simp] theorem backE_cons (ρ0 : En) (v : Nat) (vs : List Nat) : backE ρ0 (v :: vs) ρ = (backE ρ0 vs ρ).set v (ρ0.getD v .no) := rfl
@[simp] theorem x_sNil : sNil ρ = some (.nx ρ) := rfl
@[simp] theorem x_sSeq (a b : SF) : sSeq a b ρ = ol (a ρ) fun o => andThen o b := rfl
@[simp] theorem x_sDrop (e : EF) : sDrop e ρ = ob (e ρ) fun _ ρ1 => some (.nx ρ1) := rfl
@[simp] theorem x_sRet (e : EF) : sRet e ρ = ob (e ρ) fun r ρ1 => retR ρ1 r := rfl
@[simp] theorem x_sRetN : sRetN ρ = some (.rt (.da .none) ρ) := rfl
@[simp] theorem retR_da (d : PyData) : retR ρ (.da d) = some (.rt (.da d) ρ) := rfl
@[simp] theorem retR_fr (ds : List PyData) : retR ρ (.fr ds) = some (.rt (.fr ds) ρ) := rfl
@[simp] theorem retR_bo (i : Nat) : retR ρ (.bo i) = ol ρ[i]? (retS ρ i) := rfl
@[simp] theorem retS_da (i : Nat) (d : PyData) : retS ρ i (.da d) = some (.rt (.da d) ρ) := rfl
@[simp] theorem retS_ow (i : Nat) (ds : List PyData) : retS ρ i (.ow ds) = some (.rt (.fr ds) (ρ.set i .no)) := rfl
@[simp] theorem x_sIf (c : TF) (a b : SF) : sIf c a b ρ = ob (c ρ) fun k ρ1 => if k = true then a ρ1 else b ρ1 := rfl
@[simp] theorem x_sPass : sPass ρ = some (.nx ρ) := rfl
@[simp] theorem x_sBreak : sBreak ρ = some (.bk ρ) := rfl
@[simp] theorem x_sCont : sCont ρ = some (.ct ρ) := rfl
@[simp] theorem x_sAsg (e : EF) (g : GF) : sAsg e g ρ = ob (e ρ) fun r ρ1 => ol (g r ρ1) fun ρ2 => some (.nx ρ2) := rfl
@[simp] theorem gNm_da (i : Nat) (d : PyData) : gNm i (.da d) ρ = setS i ρ (.da d) := rfl
@[simp] theorem gNm_fr (i : Nat) (ds : List PyData) : gNm i (.fr ds) ρ = setS i ρ (.ow ds) := rfl
@[simp] theorem gNm_bo (i j : Nat) : gNm i (.bo j) ρ = ob (sto ρ (.bo j)) fun d ρ1 => setS i ρ1 (.da d) := rfl
@[simp] theorem gNil_nil : gNil [] ρ = some ρ := rfl
@[simp] theorem gCons_cons (g : GF) (gs : GFs) (d : PyData) (ds : List PyData) : gCons g gs (d :: ds) ρ = ol (g (.da d) ρ) fun ρ1 => gs ds ρ1 := rfl
@[simp] theorem gTup_tup (n : Nat) (gs : GFs) (ds : List PyData) : gTup n gs (.da (.tuple ds)) ρ = if ds.length = n then gs ds ρ else none := rfl
@[simp] theorem x_gSub (i : Nat) (f : EF) (r : Rv) : DL.gSub i f r ρ = ob (sto ρ r) fun d ρ0 => ol ρ0[i]? fun s0 => ol s0.ls fun _ => ob (f ρ0) fun x ρ1 => ol (intR x) fun k => ol ρ1[i]? fun s => ol s.ls fun ds => ol (ixN ds.length k) fun j => some (ρ1.set i (s.put (ds.set j d))) := rfl
@[simp] theorem x_pNil : pNil ρ = some ([], ρ) := rfl
@[simp] theorem x_pCons (e : EF) (as : AF) : pCons e as ρ = ob (e ρ) fun x ρ1 => ob (pst ρ1 x) fun y ρ2 => ob (as ρ2) fun ys ρ3 => some (y :: ys, ρ3) := rfl
@[simp] theorem pst_da (d : PyData) : pst ρ (.da d) = some (.da d, ρ) := rfl
@[simp] theorem pst_fr (ds : List PyData) : pst ρ (.fr ds) = some (.fr ds, ρ) := rfl
@[simp] theorem pst_bo (i : Nat) : pst ρ (.bo i) = ob (sto ρ (.bo i)) fun d ρ1 => some (.da d, ρ1) := rfl
@[simp] theorem x_sPar (i j : Nat) (as : AF) : sPar i j as ρ = ob (as ρ) fun rs ρ1 => ob (two? rs) fun a b => ol (gNm i a ρ1) fun ρ2 => ol (gNm j b ρ2) fun ρ3 => some (.nx ρ3) := rfl
@[simp] theorem x_sPar3 (i j l : Nat) (as : AF) : sPar3 i j l as ρ = ob (as ρ) fun rs ρ1 => ob (three? rs) fun a bc => ol (gNm i a ρ1) fun ρ2 => ol (gNm j bc.1 ρ2) fun ρ3 => ol (gNm l bc.2 ρ3) fun ρ4 => some (.nx ρ4) := rfl
@[simp] theorem two_mk (a b : Rv) : two? [a, b] = some (a, b) := rfl
@[simp] theorem three_mk (a b c : Rv) : three? [a, b, c] = some (a, (b, c)) := rfl
@[simp] theorem x_iSeq (e : EF) : iSeq e ρ = ob (e ρ) fun r ρ1 => ob (sto ρ1 r) fun d ρ2 => ol (walkedD d) fun xs => some (xs, ρ2) := rfl
@[simp] theorem walkedD_l (xs : List PyData) : walkedD (.list xs) = some xs := rfl
@[simp] theorem walkedD_t (xs : List PyData) : walkedD (.tuple xs) = some xs := rfl
@[simp] theorem walkedD_s (z : Str) : walkedD (.str z) = some (strItems z) := rfl
@[simp] theorem seqD_l (xs : List PyData) : seqD (.list xs) = some xs := rfl
@[simp] theorem seqD_t (xs : List PyData) : seqD (.tuple xs) = some xs := rfl
@[simp] theorem x_iRange1 (e : EF) : iRange1 e ρ = ob (e ρ) fun r ρ1 => ol (intR r) fun n => if isBig n = true then some (rangeD 0 n.toNat, ρ1) else none := rfl
@[simp] theorem x_iRange2 (e f : EF) : iRange2 e f ρ = ob (e ρ) fun r ρ1 => ol (intR r) fun i => ob (f ρ1) fun r2 ρ2 => ol (intR r2) fun j => if (isBig i && isBig j) = true then some (rangeD i (j - i).toNat, ρ2) else none := rfl
@[simp] theorem x_iRange3 (e f : EF) : iRange3 e f ρ = ob (e ρ) fun r ρ1 => ol (intR r) fun i => ob (f ρ1) fun r2 ρ2 => ol (intR r2) fun j => if (isBig i && isBig j) = true then some (downD i (i - j).toNat, ρ2) else none := rfl
@[simp] theorem x_iRev1 (e : EF) : iRev1 e ρ = ob (e ρ) fun r ρ1 => ol (intR r) fun n => if isBig n = true then some (downD (n - 1) n.toNat, ρ1) else none := rfl
@[simp] theorem x_iEnum (as : AF) : iEnum as ρ = ob (as ρ) fun rs ρ1 => ob (stos ρ1 rs) fun ds ρ2 => ol (one1 ds) fun d => ol (seqD d) fun xs => some (enumD 0 xs, ρ2) := rfl
@[simp] theorem x_iZip (as : AF) : iZip as ρ = ob (as ρ) fun rs ρ1 => ob (stos ρ1 rs) fun ds ρ2 => ob (two2 ds) fun d e => ol (seqD d) fun xs => ol (seqD e) fun ys => some (zipD xs ys, ρ2) := rfl
@[simp] theorem one1_mk (d : PyData) : one1 [d] = some d := rfl
@[simp] theorem two2_mk (d e : PyData) : two2 [d, e] = some (d, e) := rfl
@[simp] theorem x_sFor (it : IF) (g : GF) (body : SF) : sFor it g body ρ = ob (it ρ) fun ds ρ1 => forL g body ds ρ1 := rfl
@[simp] theorem forL_nil (g : GF) (body : SF) : forL g body [] ρ = some (.nx ρ) := rfl
theorem forL_cons (g : GF) (body : SF) (d : PyData) (ds : List PyData) : forL g body (d :: ds) ρ = ol (g (.da d) ρ) fun ρ1 => ol (body ρ1) fun o => forO o (forL g body ds) := rfl
@[simp] theorem x_sWhile (n : Nat) (c : TF) (body : SF) : sWhile n c body ρ = whileL c body n ρ := rfl
theorem whileL_succ (c : TF) (body : SF) (n : Nat) : whileL c body (n + 1) ρ = ob (c ρ) fun b ρ1 => if b = true then ol (body ρ1) fun o => forO o (whileL c body n) else some (.nx ρ1) := rfl
@[simp] theorem x_sFg (vs : List Nat) (f : SF) : sFg vs f ρ = ol (f ρ) fun o => some (wipeO vs o) := rfl
@[simp] theorem x_sFa (vs : List Nat) (f : SF) : sFa vs f ρ = f (wipeE ρ vs) := rfl
end
theorem setS_eq {ρ : En} {i : Nat} {s x : Sl} (h : ρ[i]? = some s) (hp : s.ls = none ∨ ∃ ds, s = .ow ds) : setS i ρ x = some (ρ.set i x) := by
  unfold setS
  rw [h]
  rcases hp with hp | ⟨ds, rfl⟩
  · cases s with
    | pa _ => cases hp
    | _ => rfl
  · rfl
section
variable {i j : Int} {a b : List PyData} {p q : Bool} {x y : Str}
@[simp] theorem addD_ii : addD (.int i) (.int j) = some (.da (.int (i + j))) := rfl
@[simp] theorem addD_ss : addD (.str x) (.str y) = if x.length + y.length ≤ 16777216 then some (.da (.str (x ++ y))) else none := rfl
@[simp] theorem addD_tt : addD (.tuple a) (.tuple b) = if a.length + b.length ≤ 16777216 then some (.da (.tuple (a ++ b))) else none := rfl
@[simp] theorem addD_ll : addD (.list a) (.list b) = if a.length + b.length ≤ 16777216 then some (.fr (a ++ b)) else none := rfl
@[simp] theorem subD_ii : subD (.int i) (.int j) = some (.da (.int (i - j))) := rfl
@[simp] theorem mulU_ii : mulU (.int i) (.int j) = if CMulB i j = true then some (.da (.int (i * j))) else none := rfl
@[simp] theorem mulU_ti : mulU (.tuple a) (.int j) = if a ≠ [] ∧ 2 ≤ j ∧ j ≤ 1000 ∧ a.length ≤ 1000 then some (.da (.tuple (List.replicate j.toNat a).flatten)) else none := rfl
@[simp] theorem mulU_li : mulU (.list a) (.int j) = if 0 ≤ j ∧ j ≤ 1000 ∧ a.length ≤ 1000 then some (.fr (List.replicate j.toNat a).flatten) else none := rfl
@[simp] theorem fdivD_ii : fdivD (.int i) (.int j) = if 0 < j ∧ j < 1073741824 then some (.da (.int (i / j))) else none := rfl
@[simp] theorem modD_ii : modD (.int i) (.int j) = if 0 < j then some (.da (.int (i % j))) else none := rfl
@[simp] theorem powD_ii : powD (.int i) (.int j) = if 0 ≤ j ∧ j ≤ 1000000 ∧ i.natAbs < 18446744073709551616 then some (.da (.int (i ^ j.toNat))) else none := rfl
@[simp] theorem ltD_ii : ltD (.int i) (.int j) = some (.da (.bool (decide (i < j)))) := rfl
@[simp] theorem leD_ii : leD (.int i) (.int j) = some (.da (.bool (decide (i ≤ j)))) := rfl
@[simp] theorem gtD_ii : gtD (.int i) (.int j) = some (.da (.bool (decide (j < i)))) := rfl
@[simp] theorem geD_ii : geD (.int i) (.int j) = some (.da (.bool (decide (j ≤ i)))) := rfl
@[simp] theorem isD_n (d : PyData) : isD d .none = some (.da (.bool (isNone d))) := rfl
@[simp] theorem isnD_n (d : PyData) : isnD d .none = some (.da (.bool (!isNone d))) := rfl
@[simp] theorem isD_b : isD (.bool p) (.bool q) = some (.da (.bool (decide (p = q)))) := rfl
@[simp] theorem isnD_b : isnD (.bool p) (.bool q) = some (.da (.bool (!decide (p = q)))) := rfl
@[simp] theorem isNone_n : isNone .none = true := rfl
@[simp] theorem isNone_t : isNone (.tuple a) = false := rfl
@[simp] theorem isNone_l : isNone (.list a) = false := rfl
@[simp] theorem isNone_i : isNone (.int i) = false := rfl
@[simp] theorem isNone_b : isNone (.bool p) = false := rfl
@[simp] theorem isNone_s : isNone (.str x) = false := rfl
@[simp] theorem ixD_l : ixD (.list a) (.int i) = atI a i := rfl
@[simp] theorem ixD_t : ixD (.tuple a) (.int i) = atI a i := rfl
@[simp] theorem ixD_s : ixD (scr ns) (.int i) = atI (ns.map PyData.int) i := rfl
@[simp] theorem ixR_eq (d e : PyData) : ixR d e = ol (ixD d e) fun z => some (.da z) := rfl
@[simp] theorem lenD_l : lenD [.list a] = some (.da (.int a.length)) := rfl
@[simp] theorem lenD_t : lenD [.tuple a] = some (.da (.int a.length)) := rfl
@[simp] theorem lenD_s : lenD [scr ns] = some (.da (.int (ns.map PyData.int).length)) := rfl
@[simp] theorem lenD_x : lenD [.str x] = if x.length ≤ 16777216 then some (.da (.int x.length)) else none := rfl
@[simp] theorem maxD_ii : maxD [.int i, .int j] = some (.da (.int (if j > i then j else i))) := rfl
@[simp] theorem minD_ii : minD [.int i, .int j] = some (.da (.int (if j < i then j else i))) := rfl
@[simp] theorem maxD_l : maxD [.list a] = ol (intsD a) fun ns => ol (maxI ns) fun m => some (.da (.int m)) := rfl
@[simp] theorem maxD_t : maxD [.tuple a] = ol (intsD a) fun ns => ol (maxI ns) fun m => some (.da (.int m)) := rfl
@[simp] theorem minD_l : minD [.list a] = ol (intsD a) fun ns => ol (minI ns) fun m => some (.da (.int m)) := rfl
@[simp] theorem minD_t : minD [.tuple a] = ol (intsD a) fun ns => ol (minI ns) fun m => some (.da (.int m)) := rfl
@[simp] theorem sumD_l : sumD [.list a] = ol (intsD a) fun ns => some (.da (.int ns.sum)) := rfl
@[simp] theorem sumD_t : sumD [.tuple a] = ol (intsD a) fun ns => some (.da (.int ns.sum)) := rfl
@[simp] theorem allD_l : allD [.list a] = ol (blsD a) fun bs => some (.da (.bool (bs.all id))) := rfl
@[simp] theorem anyD_l : anyD [.list a] = ol (blsD a) fun bs => some (.da (.bool (bs.any id))) := rfl
@[simp] theorem listD_l : listD [.list a] = some (.fr a) := rfl
@[simp] theorem listD_t : listD [.tuple a] = some (.fr a) := rfl
@[simp] theorem tupleD_l : tupleD [.list a] = some (.da (.tuple a)) := rfl
@[simp] theorem tupleD_t : tupleD [.tuple a] = some (.da (.tuple a)) := rfl
@[simp] theorem intD_b : intD [.bool p] = some (.da (.int (if p then 1 else 0))) := rfl
@[simp] theorem slD_l (lo hi : Option Int) : slD (.list a) lo hi = some (.fr (cutD a lo hi)) := rfl
@[simp] theorem slD_t (lo hi : Option Int) : slD (.tuple a) lo hi = some (.da (.tuple (cutD a lo hi))) := rfl
@[simp] theorem noDict_n : noDict .none = true := rfl
@[simp] theorem noDict_b : noDict (.bool p) = true := rfl
@[simp] theorem noDict_i : noDict (.int i) = true := rfl
@[simp] theorem noDict_s : noDict (.str x) = true := rfl
@[simp] theorem noDict_l : noDict (.list a) = true := rfl
@[simp] theorem noDict_t : noDict (.tuple a) = true := rfl
@[simp] theorem flatD_n : flatD .none = true := rfl
@[simp] theorem flatD_b : flatD (.bool p) = true := rfl
@[simp] theorem flatD_i : flatD (.int i) = true := rfl
@[simp] theorem flatD_s : flatD (.str x) = true := rfl
@[simp] theorem scalR_da (d : PyData) : scalR (.da d) = flatD d := rfl
@[simp] theorem isi_t_t : isiD "tuple" (.tuple a) = true := by simp [isiD]
@[simp] theorem isi_b_b : isiD "bool" (.bool p) = true := by simp [isiD]
@[simp] theorem isi_i_i : isiD "int" (.int i) = true := by simp [isiD]
@[simp] theorem isi_i_b : isiD "int" (.bool p) = true := by simp [isiD]
@[simp] theorem isi_b_i : isiD "bool" (.int i) = false := by simp [isiD]
@[simp] theorem isi_s_s : isiD "str" (.str x) = true := by simp [isiD]
@[simp] theorem isi_t_l : isiD "tuple" (.list a) = false := by simp [isiD]
@[simp] theorem isi_t_n : isiD "tuple" .none = false := by simp [isiD]
@[simp] theorem inR_eq (d e : PyData) : inR d e = ol (inD d e) fun b => some (.da (.bool b)) := rfl
@[simp] theorem ninR_eq (d e : PyData) : ninR d e = ol (inD d e) fun b => some (.da (.bool (!b))) := rfl
theorem atI_cast {α : Type} (l : List α) (j : Nat) : atI l (j : Int) = l[j]? := by
  unfold atI ixN
  by_cases h : j < l.length
  · rw [if_pos (by omega), if_pos (by omega)]; simp
  · rw [if_pos (by omega), if_neg (by omega)]; simp; omega
@[simp] theorem atI_0 {α : Type} (a : α) (l : List α) : atI (a :: l) 0 = some a := by simpa using atI_cast (a :: l) 0
@[simp] theorem atI_1 {α : Type} (a b : α) (l : List α) : atI (a :: b :: l) 1 = some b := by simpa using atI_cast (a :: b :: l) 1
@[simp] theorem atI_2 {α : Type} (a b c : α) (l : List α) : atI (a :: b :: c :: l) 2 = some c := by simpa using atI_cast (a :: b :: c :: l) 2
@[simp] theorem atI_3 {α : Type} (a b c d : α) (l : List α) : atI (a :: b :: c :: d :: l) 3 = some d := by simpa using atI_cast (a :: b :: c :: d :: l) 3
end
end DL
/-! The data layer 13: what a piece comes to, by what is kept from turn to turn. -/
namespace DL
open PySem L2 PySem.W PyProof PyProof.Rows
def Tot {α : Type} (m : Option α) (Q : α → Prop) : Prop := ∃ a, m = some a ∧ Q a
@[simp] theorem Tot_some {α : Type} (a : α) (Q : α → Prop) : Tot (some a) Q ↔ Q a := ⟨fun ⟨b, e, q⟩ => by cases e; exact q, fun q => ⟨a, rfl, q⟩⟩
@[simp] theorem Tot_none {α : Type} (Q : α → Prop) : Tot none Q ↔ False := ⟨fun ⟨_, e, _⟩ => by simp at e, False.elim⟩
@[simp] theorem Tot_ol {α β : Type} (m : Option α) (f : α → Option β) (Q : β → Prop) : Tot (ol m f) Q ↔ Tot m fun a => Tot (f a) Q := by
  cases m <;> simp
@[simp] theorem Tot_ob {α β γ : Type} (m : Option (α × β)) (f : α → β → Option γ) (Q : γ → Prop) : Tot (ob m f) Q ↔ Tot m fun a => Tot (f a.1 a.2) Q := by
  cases m with
  | none => simp
  | some a => cases a; simp
theorem Tot.mono {α : Type} {m : Option α} {Q R : α → Prop} (h : Tot m Q) (k : ∀ a, Q a → R a) : Tot m R := h.elim fun a z => ⟨a, z.1, k a z.2⟩
theorem Tot.eq {α : Type} {m : Option α} {a : α} (h : Tot m fun b => b = a) : m = some a := by
  obtain ⟨b, e, q⟩ := h
  rw [e, q]
theorem Tot.of {α : Type} {m : Option α} {a : α} (h : m = some a) : Tot m fun b => b = a := ⟨a, h, rfl⟩
theorem Tot.forL {g : GF} {body : SF} {Q : Out → Prop} {ds : List PyData} {ρ : En} (Inv : Nat → En → Prop) (h0 : Inv 0 ρ)
    (hs : ∀ (k : Nat) (hk : k < ds.length) (ρ : En), Inv k ρ → Tot (g (.da ds[k]) ρ) fun ρ1 => Tot (body ρ1) fun o => match o with
      | .nx ρ' => Inv (k + 1) ρ'
      | .ct ρ' => Inv (k + 1) ρ'
      | .bk ρ' => Q (.nx ρ')
      | .rt r ρ' => Q (.rt r ρ'))
    (he : ∀ ρ, Inv ds.length ρ → Q (.nx ρ)) : Tot (forL g body ds ρ) Q := by
  induction ds generalizing ρ Inv with
  | nil => simpa using he ρ h0
  | cons d ds ih =>
    rw [forL_cons]
    simp only [Tot_ol]
    refine (hs 0 (by simp) ρ h0).mono fun ρ1 z => z.mono fun o q => ?_
    have go : ∀ ρ', Inv 1 ρ' → Tot (DL.forL g body ds ρ') Q := fun ρ' hi => ih (fun k => Inv (k + 1)) hi (fun k hk ρ hi => hs (k + 1) (by simpa using hk) ρ hi) fun ρ hi => he ρ (by simpa using hi)
    cases o with
    | nx ρ' => exact go ρ' q
    | ct ρ' => exact go ρ' q
    | bk ρ' => simpa using q
    | rt r ρ' => simpa using q
theorem Tot.lcL {g : GF} {ts : TF} {e : EF} {vs : List Nat} {Q : List PyData × En → Prop} {ds acc : List PyData} {ρ : En} (Inv : Nat → List PyData → En → Prop) (h0 : Inv 0 acc ρ)
    (hs : ∀ (k : Nat) (hk : k < ds.length) (acc : List PyData) (ρ : En), Inv k acc ρ → Tot (g (.da ds[k]) ρ) fun ρ1 => Tot (ts ρ1) fun b => if b.1 = true then Tot (e b.2) fun x => Tot (sto x.2 x.1) fun y => Inv (k + 1) (acc ++ [y.1]) (wipeE y.2 vs)
      else Inv (k + 1) acc (wipeE b.2 vs))
    (he : ∀ acc ρ, Inv ds.length acc ρ → Q (acc, ρ)) : Tot (DL.lcL g ts e vs ds ρ acc) Q := by
  induction ds generalizing ρ acc Inv with
  | nil => simpa using he acc ρ h0
  | cons d ds ih =>
    rw [lcL_cons]
    simp only [Tot_ol, Tot_ob]
    have go : ∀ acc ρ', Inv 1 acc ρ' → Tot (DL.lcL g ts e vs ds ρ' acc) Q := fun acc ρ' hi => ih (fun k => Inv (k + 1)) hi (fun k hk acc ρ hi => hs (k + 1) (by simpa using hk) acc ρ hi) fun acc ρ hi => he acc ρ (by simpa using hi)
    refine (hs 0 (by simp) acc ρ h0).mono fun ρ1 z => z.mono fun b q => ?_
    by_cases hb : b.1 = true
    · rw [if_pos hb] at q ⊢
      simp only [Tot_ob]
      exact q.mono fun x z => z.mono fun y hi => go _ _ hi
    · rw [if_neg hb] at q ⊢
      exact go _ _ q
/-- a comprehension without a test, whose piece hangs on the item alone -/
theorem lcL_map {g : GF} {e : EF} {vs : List Nat} {ρ : En} {F : PyData → PyData} : ∀ (ds acc : List PyData), (∀ d ∈ ds, Tot (g (.da d) ρ) fun ρ1 => Tot (e ρ1) fun x => Tot (sto x.2 x.1) fun y => y.1 = F d ∧ wipeE y.2 vs = ρ) →
    DL.lcL g tYesF e vs ds ρ acc = some (acc ++ ds.map F, ρ)
  | [], acc, _ => by simp
  | d :: ds, acc, h => by
    obtain ⟨ρ1, e1, ⟨r, ρ2⟩, e2, ⟨d3, ρ3⟩, e3, e4, e5⟩ := h d (by simp)
    simp only at e3 e4 e5
    rw [lcL_cons, e1]
    simp only [ol_mk, x_tYesF, ob_mk, if_true, e2, e3, e4, e5]
    rw [lcL_map ds _ fun d hd => h d (by simp [hd])]
    simp
theorem atI_map {α : Type} {e : α → PyData} {l : List α} {p : Nat} (h : p < l.length) : atI (l.map e) (p : Int) = some (e l[p]) := by
  rw [atI_cast]; simp [h]
theorem ixN_cast {n p : Nat} (h : p < n) : ixN n (p : Int) = some p := by
  unfold ixN
  rw [if_pos (by omega), if_pos (by omega)]
  simp
theorem setS_no {ρ : En} {i : Nat} {x : Sl} (h : ρ[i]? = some .no) : setS i ρ x = some (ρ.set i x) := setS_eq h (.inl rfl)
theorem setS_da {ρ : En} {i : Nat} {d : PyData} {x : Sl} (h : ρ[i]? = some (.da d)) : setS i ρ x = some (ρ.set i x) := setS_eq h (.inl rfl)
theorem setS_ow {ρ : En} {i : Nat} {d : List PyData} {x : Sl} (h : ρ[i]? = some (.ow d)) : setS i ρ x = some (ρ.set i x) := setS_eq h (.inr ⟨_, rfl⟩)
theorem rangeD_len (lo : Int) (n : Nat) : (rangeD lo n).length = n := by simp [rangeD]
theorem downD_len (lo : Int) (n : Nat) : (downD lo n).length = n := by simp [downD]
theorem rangeD_at (lo : Int) (n k : Nat) (h : k < (rangeD lo n).length) : (rangeD lo n)[k] = .int (lo + k) := by simp [rangeD]
theorem downD_at (lo : Int) (n k : Nat) (h : k < (downD lo n).length) : (downD lo n)[k] = .int (lo - k) := by simp [downD]
@[simp] theorem setS_simp (ρ : En) (i : Nat) (x : Sl) : setS i ρ x = ol ρ[i]? fun s => match s with
    | .pa _ => none
    | _ => some (ρ.set i x) := by
  unfold setS
  cases h : ρ[i]? with
  | none => simp
  | some s => cases s <;> simp
/-! ### equality of plain data -/
def nb : Nat → PyData → Bool
  | _, .none => true
  | _, .int _ => true
  | _, .str x => PyData.strOk x
  | k + 1, .tuple ds => ds.all (nb k)
  | k + 1, .list ds => ds.all (nb k)
  | _, _ => false
theorem nb_up : ∀ (k : Nat) (d : PyData), nb k d = true → nb (k + 1) d = true
  | _, .none, _ => by simp [nb]
  | _, .int _, _ => by simp [nb]
  | _, .str x, h => by cases ‹Nat› <;> simpa [nb] using h
  | 0, .tuple ds, h => by simp [nb] at h
  | 0, .list ds, h => by simp [nb] at h
  | k + 1, .tuple ds, h => by
    simp only [nb, List.all_eq_true] at h ⊢
    exact fun x hx => nb_up k x (h x hx)
  | k + 1, .list ds, h => by
    simp only [nb, List.all_eq_true] at h ⊢
    exact fun x hx => nb_up k x (h x hx)
  | 0, .bool _, h => by simp [nb] at h
  | 0, .dict _, h => by simp [nb] at h
  | _ + 1, .bool _, h => by simp [nb] at h
  | _ + 1, .dict _, h => by simp [nb] at h
theorem nb_mono {k m : Nat} (h : k ≤ m) {d : PyData} (n : nb k d = true) : nb m d = true := by
  induction h with
  | refl => exact n
  | step _ ih => exact nb_up _ _ ih
theorem eqvAll_iff {p : PyData → Prop} (h : ∀ d e, p d → p e → (PyData.eqv d e = true ↔ d = e)) : ∀ xs ys : List PyData, (∀ x ∈ xs, p x) → (∀ y ∈ ys, p y) → (PyData.eqvAll xs ys = true ↔ xs = ys)
  | [], [], _, _ => by simp [PyData.eqvAll]
  | [], _ :: _, _, _ => by simp [PyData.eqvAll]
  | _ :: _, [], _, _ => by simp [PyData.eqvAll]
  | x :: xs, y :: ys, hx, hy => by
    simp only [PyData.eqvAll, Bool.and_eq_true, List.cons.injEq]
    rw [h x y (hx x (by simp)) (hy y (by simp)), eqvAll_iff h xs ys (fun z hz => hx z (by simp [hz])) fun z hz => hy z (by simp [hz])]
theorem nb_eqv : ∀ (k : Nat) (d e : PyData), nb k d = true → nb k e = true → (PyData.eqv d e = true ↔ d = e) := by
  intro k
  induction k with
  | zero =>
    intro d e hd he
    cases d <;> cases e <;> simp [nb] at hd he <;> simp [PyData.eqv]
  | succ k ih =>
    intro d e hd he
    cases d <;> cases e <;> simp only [nb, List.all_eq_true] at hd he <;> first | exact absurd hd Bool.false_ne_true | exact absurd he Bool.false_ne_true | skip
    all_goals first
      | (simp [PyData.eqv]; done)
      | skip
    · simp only [PyData.eqv, PyData.list.injEq]
      exact eqvAll_iff (p := fun d => nb k d = true) ih _ _ hd he
    · simp only [PyData.eqv, PyData.tuple.injEq]
      exact eqvAll_iff (p := fun d => nb k d = true) ih _ _ hd he
theorem canLayAll_of : ∀ xs : List PyData, (∀ x ∈ xs, PyData.canLay0 x = true) → PyData.canLayAll0 xs = true
  | [], _ => by simp [PyData.canLayAll0]
  | x :: xs, h => by simp [PyData.canLayAll0, h x (by simp), canLayAll_of xs fun y hy => h y (by simp [hy])]
theorem depthAll_of {k : Nat} : ∀ xs : List PyData, (∀ x ∈ xs, PyData.depth x ≤ k) → PyData.depthAll xs ≤ k
  | [], _ => by simp [PyData.depthAll]
  | x :: xs, h => by
    have := h x (by simp)
    have := depthAll_of xs fun y hy => h y (by simp [hy])
    simp [PyData.depthAll]
    omega
theorem nb_shape : ∀ (k : Nat) (d : PyData), nb k d = true → PyData.canLay0 d = true ∧ PyData.depth d ≤ k := by
  intro k
  induction k with
  | zero => intro d hd; cases d <;> simp [nb] at hd <;> simp [PyData.canLay0, PyData.depth, hd]
  | succ k ih =>
    intro d hd
    cases d <;> simp only [nb, List.all_eq_true] at hd <;> first | exact absurd hd Bool.false_ne_true | skip
    · simp [PyData.canLay0, PyData.depth]
    · simp [PyData.canLay0, PyData.depth]
    · simp [PyData.canLay0, PyData.depth, hd]
    · simp only [PyData.canLay0, PyData.depth]
      exact ⟨canLayAll_of _ fun x hx => (ih x (hd x hx)).1, Nat.succ_le_succ (depthAll_of _ fun x hx => (ih x (hd x hx)).2)⟩
    · simp only [PyData.canLay0, PyData.depth]
      exact ⟨canLayAll_of _ fun x hx => (ih x (hd x hx)).1, Nat.succ_le_succ (depthAll_of _ fun x hx => (ih x (hd x hx)).2)⟩
theorem nb_shaped {k : Nat} {d : PyData} (hk : k ≤ 64) (h : nb k d = true) : SeqAt.shaped d = true := by
  have := nb_shape k d h
  unfold SeqAt.shaped
  rw [this.1]
  simp; omega
theorem eqD_same {d : PyData} (h : nb 9 d = true) : eqD d d = some (.da (.bool true)) := by
  unfold eqD
  rw [nb_shaped (by omega) h, (nb_eqv 9 d d h h).2 rfl]
  rfl
theorem eqD_diff {d e : PyData} (h : nb 9 d = true) (k : nb 9 e = true) (n : d ≠ e) : eqD d e = some (.da (.bool false)) := by
  unfold eqD
  rw [nb_shaped (by omega) h, nb_shaped (by omega) k, Bool.eq_false_iff.2 fun z => n ((nb_eqv 9 d e h k).1 z)]
  rfl
theorem neD_same {d : PyData} (h : nb 9 d = true) : neD d d = some (.da (.bool false)) := by
  unfold neD
  rw [nb_shaped (by omega) h, (nb_eqv 9 d d h h).2 rfl]
  rfl
theorem neD_diff {d e : PyData} (h : nb 9 d = true) (k : nb 9 e = true) (n : d ≠ e) : neD d e = some (.da (.bool true)) := by
  unfold neD
  rw [nb_shaped (by omega) h, nb_shaped (by omega) k, Bool.eq_false_iff.2 fun z => n ((nb_eqv 9 d e h k).1 z)]
  rfl
theorem inB_iff {d : PyData} {es : List PyData} (h : nb 9 d = true) (k : ∀ e ∈ es, nb 9 e = true) : inB d es = true ↔ d ∈ es := by
  unfold inB
  rw [List.any_eq_true]
  constructor
  · rintro ⟨e, he, q⟩
    first
      | exact (nb_eqv 9 d e h (k e he)).1 q ▸ he
      | exact (nb_eqv 9 e d (k e he) h).1 q ▸ he
  · intro hd
    exact ⟨d, hd, (nb_eqv 9 d d h h).2 rfl⟩
theorem nb_ints (l : List Int) (k : Nat) : (l.map PyData.int).all (nb k) = true := by
  simp only [List.all_eq_true, List.mem_map]
  rintro x ⟨i, _, rfl⟩
  cases k <;> simp [nb]
theorem map_int_inj {l m : List Int} : l.map PyData.int = m.map PyData.int ↔ l = m := List.map_inj_right fun _ _ h => by injection h
theorem cutD_drop {α : Type} (xs : List α) (p : Nat) : cutD xs (some (p : Int)) none = xs.drop p := by
  unfold cutD
  rw [HT.sIx_nat, HT.sIx_none]
  rcases Nat.le_total p xs.length with h | h
  · rw [Nat.min_eq_left h, List.take_of_length_le]; simp
  · rw [Nat.min_eq_right h, List.drop_of_length_le h]; simp
theorem cutD_take {α : Type} (xs : List α) (p : Nat) : cutD xs none (some (p : Int)) = xs.take p := by
  unfold cutD
  rw [HT.sIx_nat, HT.sIx_none]
  rcases Nat.le_total p xs.length with h | h
  · rw [Nat.min_eq_left h]; simp
  · rw [Nat.min_eq_right h, List.take_of_length_le h]; simp
theorem zipD_len : ∀ xs ys : List PyData, (zipD xs ys).length = min xs.length ys.length
  | [], _ => by simp [zipD]
  | _ :: _, [] => by simp [zipD]
  | x :: xs, y :: ys => by simp only [zipD, List.length_cons, zipD_len xs ys]; omega
theorem zipD_at : ∀ (xs ys : List PyData) (i : Nat) (h : i < (zipD xs ys).length) (hx : i < xs.length) (hy : i < ys.length), (zipD xs ys)[i] = .tuple [xs[i], ys[i]]
  | x :: xs, y :: ys, 0, _, _, _ => by simp [zipD]
  | x :: xs, y :: ys, i + 1, h, hx, hy => by
    simp only [zipD, List.getElem_cons_succ]
    exact zipD_at xs ys i _ _ _
theorem enumD_len : ∀ (k : Nat) (xs : List PyData), (enumD k xs).length = xs.length
  | _, [] => rfl
  | k, x :: xs => by simp only [enumD, List.length_cons, enumD_len (k + 1) xs]
theorem enumD_at : ∀ (k : Nat) (xs : List PyData) (i : Nat) (h : i < (enumD k xs).length) (hx : i < xs.length), (enumD k xs)[i] = .tuple [.int ((k + i : Nat) : Int), xs[i]]
  | k, x :: xs, 0, _, _ => by simp [enumD]
  | k, x :: xs, i + 1, h, hx => by
    simp only [enumD, List.getElem_cons_succ]
    rw [enumD_at (k + 1) xs i _ (by simpa using hx)]
    rw [show k + 1 + i = k + (i + 1) by omega]
end DL
/-! The data layer 14: tuple[::-1]. -/
namespace DL
open PySem L2 PySem.Spec PySem.W PyProof PyProof.Rows
section
variable {prog : Program} {w : World} {A : Around} {E : Value → Shared → Prop} {s : Shared}
theorem places_back (n : Nat) : Builtin.Slice.slicePlaces ((n : Int) - 1) (-1) (-1) = n := by
  unfold Builtin.Slice.slicePlaces
  have h1 : ¬ ((-1 : Int) > 0) := by omega
  simp only [h1, if_false]
  split
  · rw [show (- -1 : Int) = 1 by decide, Int.ediv_one]; omega
  · omega
theorem pick_back (xs : Array Value) : ((List.range xs.size).filterMap fun (m : Nat) => xs[((xs.size : Int) - 1 + (m : Int) * (-1)).toNat]?).toArray = xs.toList.reverse.toArray := by
  have e : ((List.range xs.size).filterMap fun (m : Nat) => xs[((xs.size : Int) - 1 + (m : Int) * (-1)).toNat]?) = ((List.range xs.size).map fun m => xs.size - 1 - m).filterMap (xs[·]?) := by
    have g : ∀ (l : List Nat), (∀ m ∈ l, m < xs.size) → l.filterMap (fun (m : Nat) => xs[((xs.size : Int) - 1 + (m : Int) * (-1)).toNat]?) = (l.map fun m => xs.size - 1 - m).filterMap (xs[·]?) := by
      intro l hl
      induction l with
      | nil => rfl
      | cons m l ih =>
        have h := hl m (by simp)
        have e : ((xs.size : Int) - 1 + (m : Int) * (-1)).toNat = xs.size - 1 - m := by omega
        simp only [List.filterMap_cons, List.map_cons, e, ih fun k hk => hl k (by simp [hk])]
    exact g _ fun m hm => List.mem_range.1 hm
  rw [e, krv_range, List.filterMap_reverse, krv_all]
theorem sliceApplied_back {sl : Addr} {vl vu vs : Value} {n : Nat} {Q : Int × Int × Nat → Shared → Prop} (hs : s.heap.IsSliceOf sl vl vu vs) (pl : IsPart vl none) (pu : IsPart vu none) (ps : IsPart vs (some (-1)))
    (h : Q ((n : Int) - 1, -1, n) s) : wpAny (model prog w) A (Builtin.Slice.sliceApplied (.ref sl) (pure (n : Int))) Q E s := by
  obtain ⟨os, hos, hcs, hds⟩ := id hs
  unfold Builtin.Slice.sliceApplied Builtin.Slice.sliceFields
  refine wpAny_bind (wpAny_bind (wpAny_field hos hds (x := vl) rfl (wpAny_bind (wpAny_field hos hds (x := vu) rfl (wpAny_bind (wpAny_field hos hds (x := vs) rfl (wpAny_pure ?_)))))))
  refine wpAny_bind (HT.slicePart_ ps ?_)
  show wpAny _ _ (if ((-1 : Int) == 0) = true then _ else _) _ _ s
  rw [if_neg (by decide)]
  refine wpAny_bind (HT.slicePart_ pl (wpAny_bind (HT.slicePart_ pu (wpAny_bind (wpAny_pure ?_)))))
  show wpAny _ _ (pure ((n : Int) - 1, (-1 : Int), Builtin.Slice.slicePlaces ((n : Int) - 1) (-1) (-1))) _ _ s
  rw [places_back]
  exact wpAny_pure h
theorem getItem_tuple_back {t sl : Addr} {items : Array Value} {vl vu vs : Value} {Q : Value → Shared → Prop} (ht : IsTup s.heap t items) (hs : s.heap.IsSliceOf sl vl vu vs) (pl : IsPart vl none) (pu : IsPart vu none) (ps : IsPart vs (some (-1)))
    (h : Q (.ref s.heap.objs.size) { s with heap := s.heap.push { cls := .type "tuple", data := .seq items.toList.reverse.toArray } })
    (hsz : items.size ≤ sizeLine) : wpAny (model prog w) A (getItem (.ref t) (.ref sl)) Q E s := by
  have htake : sizeOk (.seq items.toList.reverse.toArray) := by
    show items.toList.reverse.toArray.size ≤ sizeLine
    rw [List.size_toArray, List.length_reverse, Array.length_toList]
    exact hsz
  obtain ⟨os, hos, hcs, hds⟩ := id hs
  have hTs : s.TypeIs (.ref sl) "slice" := ⟨os, hos, hcs⟩
  unfold getItem
  refine wpAny_holding ?_
  refine wpAny_bind (wpAny_sequenceKey ht.typeIs (by decide) ?_)
  refine wpAny_bind (wpAny_callSpecial?_slot (name := Str.ofString "__getitem__") ht.typeIs PyProof.Rows.slot_tuple_getitem
    (wpAny_call_entry PyProof.Rows.slot_tuple_getitem ht.typeIs entry_tuple_getitem ?_ (args_tuple_getitem _ _)))
  show wpAny _ _ (Builtin.Tuple.tupleItemsOf (.ref t) >>= _) _ _ s
  refine wpAny_bind (tupleItemsOf_ ht ?_)
  refine wpAny_bind (wpAny_typeOf hTs ?_)
  rw [if_pos (by decide)]
  refine wpAny_bind (sliceApplied_back hs pl pu ps ?_)
  have hno : ¬ ((((items.size : Int) - 1) == 0 && (-1 : Int) == 1 && items.size == items.size) = true) := by simp
  show wpAny _ _ (if (((items.size : Int) - 1) == 0 && (-1 : Int) == 1 && items.size == items.size) = true then _ else _) _ _ s
  rw [if_neg hno, pick_back]
  first
    | exact wpAny_bind (m := Builtin.Tuple.tupleExact _) (wpAny_newObj_type (wpAny_pure ⟨_, rfl, wpAny_pure h⟩) htake)
    | exact wpAny_bind (m := Builtin.Tuple.tupleExact _) (wpAny_newObj_type (wpAny_bind (wpAny_pure (wpAny_pure ⟨_, rfl, wpAny_pure h⟩))) htake)
    | exact wpAny_bind (wpAny_bind (m := Builtin.Tuple.tupleExact _) (wpAny_newObj_type (wpAny_pure (wpAny_pure ⟨_, rfl, wpAny_pure h⟩)) htake))
    | exact wpAny_bind (wpAny_bind (m := Builtin.Tuple.tupleExact _) (wpAny_newObj_type (wpAny_pure ⟨_, rfl, wpAny_pure h⟩) htake))
end
section
variable {X : Cx}
def tRevT (K : PySem.W.Frag) (te : TE) : TE := fun σ H Q => te σ H fun x H1 => ∃ a xs, x = .ref a ∧ SqT K H1 a xs ∧ ∀ p, H1 p = none → Q (.ref p) (upd H1 p (.tup xs.reverse))
theorem pe_revT {e : Expr} {te : TE} {k : Nat} {p1 p2 p3 pos : Pos} (he : PE X e te) : PE X (.Subscript e (.Slice none none (some (.UnaryOp .USub (.Constant (.int 1) k p1) p2)) p3) pos) (tRevT X.K te) := by
  refine ⟨fun pins s σ H Q I h => ?_⟩
  refine Subscript_ (thn (he.run pins s σ H _ I h) fun v s1 ⟨x, H1, I1, r1, q1⟩ => ?_)
  obtain ⟨a, xs, ex, hx, q⟩ := q1
  subst ex
  cases r1
  have hst : PO X (some (.UnaryOp .USub (.Constant (.int 1) k p1) p2)) (tPart (tUn (rU fun i => .int (-i)) (tC (.int 1)))) := po_some (pe_un un_neg pe_int)
  refine wpAny_Slice (thn (po_none.run pins s1 σ H1 (fun o H2 => o = none ∧ H2 = H1) I1 ⟨rfl, rfl⟩) fun vl s2 ⟨l, H2, I2, pl, el, e2⟩ => ?_)
  subst el e2
  refine thn (po_none.run pins s2 σ H2 (fun o H3 => o = none ∧ H3 = H2) I2 ⟨rfl, rfl⟩) fun vu s3 ⟨u, H3, I3, pu, eu, e3⟩ => ?_
  subst eu e3
  refine thn (hst.run pins s3 σ H3 (fun o H4 => o = some (-1) ∧ H4 = H3) I3 ⟨1, rfl, -1, rfl, rfl, rfl⟩) fun vs s4 ⟨o, H4, I4, ps, eo, e4⟩ => ?_
  subst eo e4
  have I5 : Inv X pins σ H4 { s4 with heap := s4.heap.push { cls := .type "slice", data := .fields #[vl, vu, vs] } } := I4.kept (t' := s4.toks) fun b ob q => Heap.get?_push_of_some _ q
  obtain ⟨its, r, ht, hz⟩ := I5.tuple hx
  have hlen := r.length
  show wpAny (model X.prog X.w) X.A (subscriptTail e (.Slice none none (some (.UnaryOp .USub (.Constant (.int 1) k p1) p2)) p3) (.ref a) (.ref s4.heap.objs.size)) (EP X pins σ Q) X.xe { s4 with heap := s4.heap.push { cls := .type "slice", data := .fields #[vl, vu, vs] } }
  refine tail_any (ops := [.ref a, .ref s4.heap.objs.size]) ht.typeIs PyProof.Rows.slot_tuple_getitem.lookup ?_ (by with_unfolding_all rfl)
  refine getItem_tuple_back ht (Heap.IsSliceOf.new _ vl vu vs) pl pu ps ?_ (by rw [List.size_toArray]; omega)
  refine ⟨.ref _, _, I5.laid (t' := s4.toks) (o := .tup xs.reverse) (fun b ob q => Heap.get?_push_of_some _ q) (Nat.le_refl _) ?_, rfl, q _ (I5.hok.fresh (Nat.le_refl _))⟩
  exact ⟨by rw [List.length_reverse]; exact hz, _, r.reverse, IsTup.new _ _⟩
def tpD : PyData → Option (List PyData)
  | .tuple xs => some xs
  | _ => none
def eRevT (f : EF) : EF := fun ρ => ob (f ρ) fun r ρ1 => ol (vw ρ1 r) fun d => ol (tpD d) fun xs => some (.da (.tuple xs.reverse), ρ1)
@[simp] theorem tpD_t (xs : List PyData) : tpD (.tuple xs) = some xs := rfl
@[simp] theorem x_eRevT (ρ : En) (f : EF) : eRevT f ρ = ob (f ρ) fun r ρ1 => ol (vw ρ1 r) fun d => ol (tpD d) fun xs => some (.da (.tuple xs.reverse), ρ1) := rfl
theorem ok_revT {e : Expr} {f : EF} {k : Nat} {p1 p2 p3 pos : Pos} (he : OkE X e f) : OkE X (.Subscript e (.Slice none none (some (.UnaryOp .USub (.Constant (.int 1) k p1) p2)) p3) pos) (eRevT f) :=
  pe_imp (pe_revT he) fun σ H Q ⟨t, S, ρ, r, ρ', R, e, k⟩ => by
    obtain ⟨x, ρ1, q1, e⟩ := ob_some e
    obtain ⟨d, q2, e⟩ := ol_some e
    obtain ⟨xs, q3, e⟩ := ol_some e
    cases e
    refine ⟨t, S, ρ, x, _, R, q1, fun v H1 S1 R1 s1 o1 => ?_⟩
    have hd : d = .tuple xs := by
      unfold tpD at q3
      split at q3
      · cases q3; rfl
      · cases q3
    subst hd
    obtain ⟨a, vs, rfl, ha, da⟩ := (R1.vwO o1 q2).tup
    refine ⟨a, vs, rfl, SqT.of (R1.sh _ _ ha), fun p hp => ?_⟩
    have N := New.put (o := .tup vs.reverse) R1.sh hp
    exact k _ _ _ (R1.new N) (s1.trans N.ss) (.tup upd_same (da.reverse.mono N.ss))
/-- a, b = x, y with targets of any kind: the tuple itself is not tracked -/
theorem ps_tupG {ts es : List Expr} {T : TGs} {ta : TA} {n : Nat} {Kc : Ends → L2.St → List V → Hp → Prop} (hk : ∀ D σ vs H1, Kc D σ vs H1 → vs.length = n ∧ T vs σ H1 D.nx) {pt pt2 pos : Pos} {kt k2} (hc : X.calm = true) (hp : PGs X ts T) (ha : PA X es ta) (hn : (assignEach ts X.env).length = n) (hz : n ≤ sizeLine) (hst : (assignEach ts X.env).findIdx? (·.1) = none)
    (hw : swappedStores [.Tuple ts kt pt] (.Tuple es k2 pt2) X.env = pure none) (hs : swapsWithSole [.Tuple ts kt pt] (.Tuple es k2 pt2) pos.line X.env = pure false)
    (h1 : (assignEach [.Tuple ts kt pt] X.env).map (·.2) = [assign (.Tuple ts kt pt) X.env]) :
    PS X (.Assign [.Tuple ts kt pt] (.Tuple es k2 pt2) pos) (fun D σ H => ta σ H fun vs H1 => Kc D σ vs H1) := by
  refine ⟨fun pins s σ H D I h => ?_⟩
  refine wpAny_Assign_stores (Tuple_ (thn (ha.run _ pins s σ H _ I h) fun us s1 ⟨vs, H1, I1, r1, q1⟩ => ?_)) hs hw
  obtain ⟨hl, q1⟩ := hk _ _ _ _ q1
  have hlu : us.length = n := by rw [← r1.length]; exact hl
  refine wpAny_newObj_type ?_ (by show us.toArray.size ≤ sizeLine; rw [List.size_toArray, hlu]; exact hz)
  have I2 : Inv X pins σ H1 { s1 with heap := s1.heap.push { cls := .type "tuple", data := .seq us.toArray } } := I1.kept (t' := s1.toks) fun b o e => Heap.get?_push_of_some _ e
  rw [h1]
  show wpAny _ _ (assign (.Tuple ts kt pt) X.env (.ref s1.heap.objs.size)) _ _ _
  refine assign_Tuple_tuple (I2.ok.hd hc) (IsTup.new s1.heap _) (by rw [hn, List.size_toArray, hlu]) hst fun h' hx' => ?_
  have I3 := I2.kept (h' := h') (t' := s1.toks) fun b o e => hx' b o (Nat.ne_of_lt (Heap.lt_size e)) e
  exact thn (hp.run pins _ σ H1 vs _ _ I3 (by simpa using r1) q1) fun _ s2 q => q
theorem ps_par3c {i j l : Nat} {x y z : Str} {a b c : Expr} {ta : TA} {px py pz pt pt2 pos : Pos} {kt k2} (hc : X.calm = true) (hN : X.N.Nodup) (hi : X.N[i]? = some x) (hj : X.N[j]? = some y) (hl : X.N[l]? = some z)
    (hx : Loc X.env.scope x) (hx2 : X.fn x = true ∨ X.env.scope.names.lookup x = some .local) (hy : Loc X.env.scope y) (hy2 : X.fn y = true ∨ X.env.scope.names.lookup y = some .local) (hz : Loc X.env.scope z) (hz2 : X.fn z = true ∨ X.env.scope.names.lookup z = some .local) (ha : PA X [a, b, c] ta)
    (hw : swappedStores [.Tuple [.Name x px, .Name y py, .Name z pz] kt pt] (.Tuple [a, b, c] k2 pt2) X.env = pure none) (hs : swapsWithSole [.Tuple [.Name x px, .Name y py, .Name z pz] kt pt] (.Tuple [a, b, c] k2 pt2) pos.line X.env = pure false := by rfl) :
    PS X (.Assign [.Tuple [.Name x px, .Name y py, .Name z pz] kt pt] (.Tuple [a, b, c] k2 pt2) pos) (tPar3 i j l ta) :=
  ps_tupG (n := 3) (Kc := fun D σ vs H1 => ∃ u v w, vs = [u, v, w] ∧ D.nx (((σ.set i (some u)).set j (some v)).set l (some w)) H1) (T := L2.gCons (gName i) (L2.gCons (gName j) (L2.gCons (gName l) L2.gNil))) (fun D σ vs H1 ⟨u, v, w, e, k⟩ => by subst e; exact ⟨rfl, _, _, rfl, _, _, rfl, _, _, rfl, rfl, k⟩) hc
    (pgs_cons (pg_name hN hi hx hx2) (pgs_cons (pg_name hN hj hy hy2) (pgs_cons (pg_name hN hl hz hz2) pgs_nil))) ha rfl (by show 3 ≤ sizeLine; decide) rfl hw hs rfl
theorem ps_par2c {i j : Nat} {x y : Str} {a b : Expr} {ta : TA} {px py pt pt2 pos : Pos} {kt k2} (hc : X.calm = true) (hN : X.N.Nodup) (hi : X.N[i]? = some x) (hj : X.N[j]? = some y)
    (hx : Loc X.env.scope x) (hx2 : X.fn x = true ∨ X.env.scope.names.lookup x = some .local) (hy : Loc X.env.scope y) (hy2 : X.fn y = true ∨ X.env.scope.names.lookup y = some .local) (ha : PA X [a, b] ta)
    (hw : swappedStores [.Tuple [.Name x px, .Name y py] kt pt] (.Tuple [a, b] k2 pt2) X.env = pure none) (hs : swapsWithSole [.Tuple [.Name x px, .Name y py] kt pt] (.Tuple [a, b] k2 pt2) pos.line X.env = pure false := by rfl) :
    PS X (.Assign [.Tuple [.Name x px, .Name y py] kt pt] (.Tuple [a, b] k2 pt2) pos) (tPar i j ta) :=
  ps_tupG (n := 2) (Kc := fun D σ vs H1 => ∃ u v, vs = [u, v] ∧ D.nx ((σ.set i (some u)).set j (some v)) H1) (T := L2.gCons (gName i) (L2.gCons (gName j) L2.gNil)) (fun D σ vs H1 ⟨u, v, e, k⟩ => by subst e; exact ⟨rfl, _, _, rfl, _, _, rfl, rfl, k⟩) hc
    (pgs_cons (pg_name hN hi hx hx2) (pgs_cons (pg_name hN hj hy hy2) pgs_nil)) ha rfl (by show 2 ≤ sizeLine; decide) rfl hw hs rfl
theorem okS_par2c (i j : Nat) {x y : Str} {a b : Expr} {px py pt pt2 pos : Pos} {kt k2} {g : AF} (hc : X.calm = true) (hN : X.N.Nodup) (hi : X.N[i]? = some x) (hj : X.N[j]? = some y)
    (hx : Loc X.env.scope x) (hx2 : X.fn x = true ∨ X.env.scope.names.lookup x = some .local) (hy : Loc X.env.scope y) (hy2 : X.fn y = true ∨ X.env.scope.names.lookup y = some .local)
    (hw : swappedStores [.Tuple [.Name x px, .Name y py] kt pt] (.Tuple [a, b] k2 pt2) X.env = pure none) (ha : OkP X [a, b] g) : OkS X (.Assign [.Tuple [.Name x px, .Name y py] kt pt] (.Tuple [a, b] k2 pt2) pos) (sPar i j g) :=
  ps_imp (ps_par2c hc hN hi hj hx hx2 hy hy2 ha hw) rd_par
end
end DL
/-! The data layer 15: {e for ..} of texts and ints. -/
namespace DL
open PySem L2 PySem.Spec PySem.W PyProof PyProof.Rows PpSet
section
variable {X : Cx}
/-- D the new set; its members are keys -/
def tScK (P : Program) (w : World) (wi : TI) (g : TG) (tt : TT) (te : TE) (vs : List Nat) : TE := fun σ H Q => wi σ H fun J H1 => ∀ D, H1 D = none → ∃ W : Nat → Nat → Hp → Prop, (∃ m, W 0 m (upd H1 D (SetK P w D (fun _ => false) 0))) ∧ ∀ i m H, W i m H →
  (J.stop i H ∧ Q (.ref D) H) ∨ (J.go i H ∧ ∃ Nx : Hp → Prop, (∀ H', Nx H' → ∃ m', m' < m ∧ W (i + 1) m' H') ∧ ∀ x H', J.yld i H x H' → g x (wipe σ vs) H' fun σ2 H2 => wipe σ2 vs = wipe σ vs ∧ tt σ2 H2 fun b H3 =>
    if b = true then te σ2 H3 fun y H4 => ∃ (c : Key) (S : Key → Bool) (n : Nat), y = kV c ∧ H4 D = some (SetK P w D S n) ∧ n + 1 < scanBound ∧ Nx (upd H4 D (SetK P w D (fun j => S j || decide (j = c)) (if S c = true then n else n + 1))) else Nx H3)
theorem addK_ok {pins : List (Addr × Obj)} {σ : L2.St} {H : Hp} {s : Shared} {D : Addr} {k : Key} {u : Value} {S : Key → Bool} {n : Nat} {E : Value → Shared → Prop} {Q : Value → Shared → Prop} (I : Inv X pins σ H s) (r : RelV (kV k) u) (hD : H D = some (SetK X.prog X.w D S n)) (room : n + 1 < scanBound)
    (h : ∀ s', Inv X pins σ (upd H D (SetK X.prog X.w D (fun j => S j || decide (j = k)) (if S k = true then n else n + 1))) s' → Q .none s') : wpAny (model X.prog X.w) X.A (call (.builtin "set.add") [.ref D, u]) Q E s := by
  refine call_set_add (kV_is r) (key_scan r) (setK_get I hD) room fun h' sb new => ?_
  have ⟨o, _, _, _, ho, _⟩ := new
  exact h _ (I.write (e := D) (t' := s.toks + 1) (by rw [hD]; trivial) (.inl rfl) (fun b u hb hu => (sb.2 b hb).trans hu) ⟨o, ho⟩ (setK_new new))
theorem freshK (P : Program) (w : World) (h : Heap) : (h.push { cls := .type "set", dict := none, data := .set #[] 0 (.fresh 0 0 (!w.params.followText "set-order")) }).SetOf (mixKind P w) h.objs.size (fun _ => false) 0 :=
  ⟨_, #[], 0, _, Heap.get?_push_size _ rfl, ⟨rfl, rfl, rfl⟩, rfl, (fun e he => by simp at he), (fun k => by simp), (by decide), (by rfl), rfl⟩
variable {elt tg iter : Expr} {ifs : List Expr} {scope : Scope} {own : List (PySem.Str × Nat)} {pos : Pos} {wi : TI} {g : TG} {tt : TT} {te : TE}
theorem pe_scK (hc : X.calm = true) (hN : X.N.Nodup) (hi : PI X tg iter wi) (ok : BlkOk X.N X.env.scope scope own)
    (hg : ∀ (s : Shared) (H : Hp) (C : Addr) (cl : List (PySem.Str × Addr)) (fp : List Addr), PG (X.blk s H scope (compEnvC scope cl C X.env) fp) tg g) (ht : ∀ (s : Shared) (H : Hp) (C : Addr) (cl : List (PySem.Str × Addr)) (fp : List Addr), PTs (X.blk s H scope (compEnvC scope cl C X.env) fp) ifs tt)
    (he : ∀ (s : Shared) (H : Hp) (C : Addr) (cl : List (PySem.Str × Addr)) (fp : List Addr), PE (X.blk s H scope (compEnvC scope cl C X.env) fp) elt te) (hs : ∀ x, foldedSetIterable iter X.env x = pure x := by intro _; rfl) :
    PE X (.SetComp elt [⟨tg, iter, ifs, 0⟩] scope pos) (tScK X.prog X.w wi g tt te (own.map (·.2))) := by
  refine ⟨fun pins s σ H Q I h => ?_⟩
  rw [eval_SetComp]
  have hf : ∀ y ∈ scope.names, y.2 = .free → ∃ c, X.env.cells.lookup y.1 = some c := fun y hy e => (ok.free y hy e).elim (fun k => I.ok.has _ (.inl k)) fun k => I.ok.has _ (.inr k)
  refine wpAny_comprehension_free (use := none) rfl hs (closure_ok hf) ok.kind (fun y hy e => by rw [ok.uniq y hy, e]) (thn (hi.run pins s σ H _ I h) fun xv s1 hx => thn hx fun itv s2 h2 => ?_)
  obtain ⟨it, fp, tn, J, H2, e, I2, T, st2, f2, q⟩ := h2
  subst e
  refine newSet_ok (newEnv_comp ?_)
  obtain ⟨D, hD⟩ : ∃ D, D = s2.heap.objs.size := ⟨_, rfl⟩
  rw [← hD]
  have hDn : H2 D = none := I2.hok.fresh (Nat.le_of_eq hD.symm)
  obtain ⟨W, ⟨m0, w0⟩, turn⟩ := q D hDn
  obtain ⟨s3, hs3⟩ : ∃ s3 : Shared, s3 = { s2 with heap := s2.heap.push { cls := .type "set", dict := none, data := .set #[] 0 (.fresh 0 0 (!X.w.params.followText "set-order")) } } := ⟨_, rfl⟩
  obtain ⟨H3, hH3⟩ : ∃ H3, H3 = upd H2 D (SetK X.prog X.w D (fun _ => false) 0) := ⟨_, rfl⟩
  rw [← hH3] at w0
  have I3 : Inv X pins σ H3 s3 := by
    rw [hs3, hH3]
    refine I2.laid (t' := s2.toks) (fun b o e => Heap.get?_push_of_some _ e) (Nat.le_of_eq hD.symm) ?_
    rw [hD]
    exact setK_new (freshK X.prog X.w s2.heap)
  have h3 : s3.heap = s2.heap.push { cls := .type "set", dict := none, data := .set #[] 0 (.fresh 0 0 (!X.w.params.followText "set-order")) } := by rw [hs3]
  have f3 : ∀ b ∈ fp, FpOk X pins H3 b ∧ b < s3.heap.objs.size := fun b hb => by
    obtain ⟨o, e, _⟩ := T.obj _ _ st2 b hb
    have hlt := Heap.lt_size e
    refine ⟨⟨?_, (f2 b hb).2⟩, by rw [h3, Heap.size_push]; exact Nat.lt_succ_of_lt hlt⟩
    rw [hH3, upd_ne (by rw [hD]; exact Nat.ne_of_lt hlt)]
    exact (f2 b hb).1
  have st3 : tn 0 s3.heap := T.keep _ _ _ st2 fun b _ o e => by rw [h3]; exact Heap.get?_push_of_some _ e
  have I4 := block_start I3 ok hN f3
  have pg := hg s3 H3 s3.heap.objs.size (cellsFrom (s3.heap.objs.size + 1) scope.names (cloFrom X.env.cells scope.names [])) fp
  have pt := ht s3 H3 s3.heap.objs.size (cellsFrom (s3.heap.objs.size + 1) scope.names (cloFrom X.env.cells scope.names [])) fp
  have pe := he s3 H3 s3.heap.objs.size (cellsFrom (s3.heap.objs.size + 1) scope.names (cloFrom X.env.cells scope.names [])) fp
  have nfp : ∀ b ∈ fp, H3 b = none := fun b hb => (f3 b hb).1.1
  rw [← hs3]
  show codeAny _ _ (.compStart (.SetComp elt [⟨tg, iter, ifs, 0⟩] scope pos) 0 (.ref it) (.ref D) (compEnvC scope (cellsFrom (s3.heap.objs.size + 1) scope.names (cloFrom X.env.cells scope.names [])) s3.heap.objs.size X.env)) (compPost (model X.prog X.w) X.A X.xe none (EP X pins σ Q) (.ref D) s3.heap.objs.size) { s3 with heap := pushCells (s3.heap.push { cls := .type "dict", data := .dict #[] }) scope.names }
  obtain ⟨ce, hce⟩ : ∃ ce, ce = compEnvC scope (cellsFrom (s3.heap.objs.size + 1) scope.names (cloFrom X.env.cells scope.names [])) s3.heap.objs.size X.env := ⟨_, rfl⟩
  rw [← hce] at I4 pg pt pe ⊢
  have cL : ce.locals = s3.heap.objs.size := by rw [hce]; rfl
  obtain ⟨s4, hs4⟩ : ∃ s4 : Shared, s4 = { s3 with heap := pushCells (s3.heap.push { cls := .type "dict", data := .dict #[] }) scope.names } := ⟨_, rfl⟩
  rw [← hs4] at I4 ⊢
  have st4 : tn 0 s4.heap := T.keep _ _ _ st3 fun b _ o e => by rw [hs4]; exact pushCells_keeps _ _ _ _ (Heap.get?_push_of_some _ e)
  have stat : ∀ {σ' : L2.St} {H' : Hp} {s' : Shared}, Inv (X.blk s3 H3 scope ce fp) [] σ' H' s' → (∀ b ∈ fp, H' b = none) → ∀ b ∈ fp, FpOk (X.blk s3 H3 scope ce fp) [] H' b := fun {σ' H' s'} I' hn b hb =>
    ⟨hn b hb, (I'.ok.exf b hb).1, I'.ok.exfs b hb, .inl hb, fun x c e => (I'.ok.exf b hb).2 x c e, fun p hp => absurd (show p ∈ ([] : List (Addr × Obj)) ++ [] from hp) (by simp)⟩
  have loop : codeAny (model X.prog X.w) X.A (.compLoop (.SetComp elt [⟨tg, iter, ifs, 0⟩] scope pos) 0 (.ref it) (.ref D) ce) (compPost (model X.prog X.w) X.A X.xe none (EP X pins σ Q) (.ref D) s3.heap.objs.size) s4 := by
    refine compLoopS_any (fun n s' => ∃ i H', Inv (X.blk s3 H3 scope ce fp) [] (wipe σ (own.map (·.2))) H' s' ∧ tn i s'.heap ∧ (∀ b ∈ fp, H' b = none) ∧ W i n H') ?_ m0 ⟨0, H3, I4, st4, nfp, w0⟩
    rintro n s5 ⟨i, H5, I5, st5, n5, w5⟩
    rcases turn i n H5 w5 with ⟨stop, qq⟩ | ⟨go, Nx, hNx, step⟩
    · refine thnF (T.done (X.blk s3 H3 scope ce fp) rfl rfl rfl hc i [] s5 _ H5 (fun _ _ => False) I5 (stat I5 n5) st5 stop) fun r s6 ⟨hr, I6⟩ => ?_
      subst hr
      have I7 : Inv X pins σ H5 s6 := I3.call' (ch := fp) I6.os I6.base I6.hok I6.bare fun b hb => ⟨(f3 b hb).1.2.2.2.1, (f3 b hb).1.2.1, (f3 b hb).1.2.2.2.2.1, (f3 b hb).1.2.2.2.2.2⟩
      have nC : H5 s3.heap.objs.size = none := cL ▸ (I6.free : H5 ce.locals = none)
      obtain ⟨m, hn, _⟩ := I6.loc
      have hn : s6.heap.Ns s3.heap.objs.size m := cL ▸ (hn : s6.heap.Ns ce.locals m)
      obtain ⟨f0, f1, f2, f3, f4, f5⟩ := I3.fpOk (Nat.le_refl _) nC
      exact ⟨m, hn, fun h'' sb => ⟨.ref D, H5, I7.turned (t' := s6.toks) (fun b o hb e => (sb.2 b hb).trans e) f0 f1 f3 f4 f5, rfl, qq⟩⟩
    · refine thnF (T.item (X.blk s3 H3 scope ce fp) rfl rfl rfl hc i [] s5 _ H5 (fun _ _ => False) I5 (stat I5 n5) st5 go) fun r s6 ⟨u, hr, h6⟩ => ?_
      subst hr
      refine thnF h6 fun _ s7 ⟨x, H7, I7, r7, y7, st7, n7⟩ => ?_
      have I7' := I7.pinned (stat I7 n7) (T.obj _ _ st7)
      refine thnF (pg.run _ s7 _ H7 x u _ I7' r7 (step x H7 y7)) fun _ s8 ⟨σ8, H8, I8, hw8, q8⟩ => ?_
      refine thnF (pt.run _ s8 σ8 H8 _ I8 q8) fun b s9 ⟨H9, I9, q9⟩ => ?_
      have fin : ∀ {s' : Shared} {H' : Hp}, Inv (X.blk s3 H3 scope ce fp) ([] ++ pinsAt fp s7.heap) σ8 H' s' → Nx H' → ∃ m, m < n ∧ ∃ i H', Inv (X.blk s3 H3 scope ce fp) [] (wipe σ (own.map (·.2))) H' s' ∧ tn i s'.heap ∧ (∀ b ∈ fp, H' b = none) ∧ W i m H' := fun {s' H'} I' nx => by
        obtain ⟨m', hm, w'⟩ := hNx H' nx
        have pin' : ∀ b ∈ fp, ∀ o, s7.heap.get? b = some o → s'.heap.get? b = some o ∧ H' b = none := fun b hb o e =>
          have z := I'.pin (b, o) (List.mem_append_right _ (List.mem_append_right _ (mem_pinsAt hb e)))
          ⟨z.1, z.2.1⟩
        have hl : (wipe σ (own.map (·.2))).length = σ8.length := by rw [← hw8, wipe_length]
        refine ⟨m', hm, i + 1, H', (I'.unpinned (pins := [])).weak hl (fun j v e => ?_), T.keep _ _ _ st7 fun b hb o e => (pin' b hb o e).1, fun b hb => ?_, w'⟩
        · rw [← hw8] at e
          exact (wipe_some e).1
        · obtain ⟨o, e, _⟩ := T.obj _ _ st7 b hb
          exact (pin' b hb o e).2
      cases b with
      | false =>
        simp only [Bool.false_eq_true, if_false] at q9 ⊢
        exact fin I9 q9
      | true =>
        simp only [if_true] at q9 ⊢
        refine thnF (pe.run _ s9 σ8 H9 _ I9 q9) fun z s10 ⟨yv, H10, I10, r10, c, S0, n0, ey, hD10, hz10, nx⟩ => ?_
        subst ey
        exact addK_ok (X := X.blk s3 H3 scope ce fp) I10 r10 hD10 hz10 fun s11 I11 => fin I11 nx
  exact codeAny_compStart_set loop (T.self X.A 0 _ _ _ st4 loop)
end
end DL
namespace DL
open PySem L2 PySem.Spec PySem.W PyProof PyProof.Rows PpSet
def keyR : Rv → Option Key
  | .da (.int i) => some (.inl i)
  | .da (.str x) => some (.inr x)
  | _ => none
def memK (acc : List Key) (k : Key) : Bool := acc.any fun j => decide (k = j)
def insK (acc : List Key) (k : Key) : List Key := if memK acc k = true then acc else acc ++ [k]
def scL (g : GF) (ts : TF) (e : EF) (vs : List Nat) : List PyData → En → List Key → Option (List Key × En)
  | [], ρ, acc => some (acc, ρ)
  | d :: ds, ρ, acc => ol (g (.da d) ρ) fun ρ1 => ob (ts ρ1) fun b ρ2 => if b = true then ob (e ρ2) fun x ρ3 => ol (keyR x) fun k => scL g ts e vs ds (wipeE ρ3 vs) (insK acc k) else scL g ts e vs ds (wipeE ρ2 vs) acc
/-- len({e for ..}) -/
def eLenSc (it : IF) (g : GF) (ts : TF) (e : EF) (vs : List Nat) : EF := fun ρ => ob (it ρ) fun ds ρ1 => if (decide (ds.length ≤ 60) && vs.all fun i => freeSl (ρ1.getD i .no)) = true then
  ob (scL g ts e vs ds (wipeE ρ1 vs) []) fun acc ρ2 => some (.da (.int acc.length), backE ρ1 vs ρ2) else none
structure GrowO (K : PySem.W.Frag) (t : Et) (S H : Hp) (σ : L2.St) (ρ : En) (D : Addr) (o : HO) : Prop where
  at_ : H D = some o
  s : S D = none
  b : t.B D = none
  p : t.pp ≠ some D
  o : ∀ (i : Nat) (s : Sl) (ds : List PyData), ρ[i]? = some s → s.ls = some ds → σ[i]? ≠ some (some (.ref D))
section
variable {X : Cx} {K : PySem.W.Frag} {g : GF} {ws vs : List Nat} {ts : TF} {fe : EF} {P : Program} {w : World}
theorem GrowO.step {t : Et} {S H S' H' : Hp} {σ σ' : L2.St} {ρ ρ' : En} {D : Addr} {o : HO} (G : GrowO K t S H σ ρ D o) (R' : Rep K (t.re S H σ ρ) S' H' σ' ρ') (hL : ¬ t.lk D) : GrowO K t S' H' σ' ρ' D o := by
  have hc : cut H σ ρ D = some o := cut_of G.at_ G.o
  refine ⟨R'.bh.get (a := D) hc hL, R'.sn D (none_ne hc) G.s, G.b, G.p, fun i s ds q1 q2 q => ?_⟩
  obtain ⟨b, vs, z1, z2, z3, z4, _⟩ := R'.own i s ds q1 q2
  rw [q] at z1
  cases z1
  have z5 : cut H σ ρ D = none := z4
  rw [hc] at z5
  cases z5
theorem GrowO.sub {t : Et} {S H : Hp} {σ σ' : L2.St} {ρ ρ' : En} {D : Addr} {o : HO} (G : GrowO K t S H σ ρ D o) (h : ∀ (i : Nat) (s : Sl) (ds : List PyData), ρ'[i]? = some s → s.ls = some ds → ∃ (s' : Sl) (ds' : List PyData), ρ[i]? = some s' ∧ s'.ls = some ds' ∧ σ[i]? = σ'[i]?) : GrowO K t S H σ' ρ' D o :=
  ⟨G.at_, G.s, G.b, G.p, fun i s ds q1 q2 q => by
    obtain ⟨s', ds', z1, z2, z3⟩ := h i s ds q1 q2
    exact G.o i s' ds' z1 z2 (z3.trans q)⟩
def setO (P : Program) (w : World) (D : Addr) (acc : List Key) : HO := SetK P w D (memK acc) acc.length
theorem setO_ins (D : Addr) (acc : List Key) (c : Key) : SetK P w D (fun j => memK acc j || decide (j = c)) (if memK acc c = true then acc.length else acc.length + 1) = setO P w D (insK acc c) := by
  unfold setO insK
  by_cases h : memK acc c = true
  · rw [if_pos h, if_pos h]
    congr 1
    funext j
    by_cases hj : j = c
    · subst hj; simp [h]
    · simp [hj]
  · rw [if_neg h, if_neg h]
    rw [List.length_append, List.length_singleton]
    congr 1
    funext j
    unfold memK
    simp
theorem insK_len (acc : List Key) (k : Key) : (insK acc k).length ≤ acc.length + 1 := by
  unfold insK
  split <;> simp
theorem scW {J : It} {t : Et} {S0 : Hp} {ds : List PyData} {res : List Key} {ρe : En} {σ : L2.St} {D : Addr} {Q : Hp → Prop} {v : List Nat} (hw : ∀ j ∈ ws, j ∈ vs) (W : WalkD K J S0 ds) (hsz : ds.length ≤ 60)
    (k : ∀ H S, Rep K t S H (wipe σ vs) ρe → Same S0 S → GrowO K t S H (wipe σ vs) ρe D (setO P w D res) → Q H) :
    ∀ (m i : Nat) (H S : Hp) (ρ : En) (acc : List Key), i + m = ds.length → acc.length ≤ i → Rep K t S H (wipe σ vs) ρ → Same S0 S → GrowO K t S H (wipe σ vs) ρ D (setO P w D acc) → scL g ts fe vs (ds.drop i) ρ acc = some (res, ρe) →
      (m = 0 → J.stop i H ∧ Q H) ∧ (0 < m → J.go i H ∧ ∀ x H', J.yld i H x H' → rdG K ws g x (wipe σ vs) H' fun σ2 H2 => wipe σ2 vs = wipe σ vs ∧ rdT K ts σ2 H2 fun b H3 =>
        if b = true then rdE K fe σ2 H3 fun y H4 => ∃ (c : Key) (Sf : Key → Bool) (n : Nat), y = kV c ∧ H4 D = some (SetK P w D Sf n) ∧ n + 1 < scanBound ∧
          (∃ S' ρ' acc2, acc2.length ≤ i + 1 ∧ Rep K t S' (upd H4 D (SetK P w D (fun j => Sf j || decide (j = c)) (if Sf c = true then n else n + 1))) (wipe σ vs) ρ' ∧ Same S0 S' ∧ GrowO K t S' (upd H4 D (SetK P w D (fun j => Sf j || decide (j = c)) (if Sf c = true then n else n + 1))) (wipe σ vs) ρ' D (setO P w D acc2) ∧ scL g ts fe vs (ds.drop (i + 1)) ρ' acc2 = some (res, ρe))
        else (∃ S' ρ' acc2, acc2.length ≤ i + 1 ∧ Rep K t S' H3 (wipe σ vs) ρ' ∧ Same S0 S' ∧ GrowO K t S' H3 (wipe σ vs) ρ' D (setO P w D acc2) ∧ scL g ts fe vs (ds.drop (i + 1)) ρ' acc2 = some (res, ρe))) := by
  intro m i H S ρ acc hm ha R ss G e
  refine ⟨fun h0 => ?_, fun hp => ?_⟩
  · have hi : i = ds.length := by omega
    subst hi
    rw [List.drop_length] at e
    cases e
    exact ⟨W.st S H ss R.sh, k H S R ss G⟩
  · have hi : i < ds.length := by omega
    refine ⟨W.go i S H ss R.sh hi, fun x H' y => ?_⟩
    obtain ⟨S3, d, N, e1, e2⟩ := W.yl i S H x H' ss R.sh hi y
    have ed : ds.drop i = d :: ds.drop (i + 1) := by
      rw [List.drop_eq_getElem_cons hi]
      congr 1
      rw [List.getElem?_eq_getElem hi] at e1
      exact Option.some.inj e1
    rw [ed] at e
    obtain ⟨ρ1, q1, e⟩ := ol_some (show ol (g (.da d) ρ) (fun ρ1 => ob (ts ρ1) fun b ρ2 => if b = true then ob (fe ρ2) fun x ρ3 => ol (keyR x) fun k => scL g ts fe vs (ds.drop (i + 1)) (wipeE ρ3 vs) (insK acc k) else scL g ts fe vs (ds.drop (i + 1)) (wipeE ρ2 vs) acc) = some (res, ρe) from e)
    obtain ⟨b, ρ2, q2, e⟩ := ob_some e
    have RN := R.new N
    have GN : GrowO K t S3 H' (wipe σ vs) ρ D (setO P w D acc) := ⟨N.hh _ _ G.at_, N.fr D (none_ne G.at_) G.s, G.b, G.p, G.o⟩
    refine ⟨t.re S3 H' (wipe σ vs) ρ, S3, ρ, .da d, ρ1, RN.base, e2, q1, fun σ2 H2 S2 R2 s2 f2 l2 => ?_⟩
    have hwp : wipe σ2 vs = wipe σ vs := by
      rw [← wipe_wipe σ vs]
      exact wipe_eq l2 fun j hj => f2 j fun z => hj (hw j z)
    refine ⟨hwp, ?_⟩
    have G2 := GN.step R2 (R.bh.nlk G.b)
    have R2' := RN.unbase R2
    refine ⟨t.re S2 H2 σ2 ρ1, S2, ρ1, b, ρ2, R2'.base, q2, fun H4 S4 R4 s4 => ?_⟩
    have G4 := G2.step R4 (R.bh.nlk G.b)
    have R4' := R2'.unbase R4
    have sx : Same S0 S4 := ((ss.trans N.ss).trans s2).trans s4
    have fin : ∀ {S5 H5 : Hp} {ρ5 : En} {o5 : HO}, Rep K t S5 H5 σ2 ρ5 → GrowO K t S5 H5 σ2 ρ5 D o5 → Rep K t S5 H5 (wipe σ vs) (wipeE ρ5 vs) ∧ GrowO K t S5 H5 (wipe σ vs) (wipeE ρ5 vs) D o5 := fun {S5 H5 ρ5 o5} R5 G5 => by
      have := R5.wiped vs
      rw [hwp] at this
      refine ⟨this, G5.sub fun j s es y1 y2 => ?_⟩
      obtain ⟨h1, h2⟩ := wipeE_get y1 (ls_no y2)
      exact ⟨s, es, h2, y2, by rw [← hwp, wipe_at σ2 h1]⟩
    cases b with
    | false =>
      obtain ⟨f1, f2⟩ := fin R4' G4
      exact iteF ⟨S4, wipeE ρ2 vs, acc, by omega, f1, sx, f2, by simpa using e⟩
    | true =>
      rw [if_pos rfl] at e
      obtain ⟨z, ρ3, q3, e⟩ := ob_some e
      obtain ⟨c, q4, e⟩ := ol_some e
      refine iteT ⟨t.re S4 H4 σ2 ρ2, S4, ρ2, z, ρ3, R4'.base, q3, fun u H5 S5 R5 s5 o5 => ?_⟩
      have G5 := G4.step R5 (R.bh.nlk G.b)
      have R5' := R4'.unbase R5
      have hu : u = kV c := by
        cases z with
        | da d' =>
          have o6 : Da K S5 u d' := o5
          cases d' with
          | int j => cases q4; cases o6; rfl
          | str j => cases q4; cases o6; rfl
          | none => cases q4
          | bool _ => cases q4
          | list _ => cases q4
          | tuple _ => cases q4
          | dict _ => cases q4
        | fr _ => cases q4
        | bo _ => cases q4
      have hl := insK_len acc c
      refine ⟨c, _, _, hu, G5.at_, by unfold scanBound; omega, S5, wipeE ρ3 vs, insK acc c, by omega, ?_⟩
      rw [setO_ins]
      have R7 := R5'.upd_other (o := setO P w D (insK acc c)) G5.s G5.b G5.p G5.o
      have G7 : GrowO K t S5 (upd H5 D (setO P w D (insK acc c))) σ2 ρ3 D (setO P w D (insK acc c)) := ⟨upd_same, G5.s, G5.b, G5.p, G5.o⟩
      obtain ⟨f1, f2⟩ := fin R7 G7
      exact ⟨f1, sx.trans s5, f2, e⟩
theorem call_lenK : CallR X (.builtin "len") (fun xs H Q => ∃ a S n, xs = [.ref a] ∧ H a = some (SetK X.prog X.w a S n) ∧ Q (.int n) H) := by
  intro pins s σ H xs us Q I r h
  obtain ⟨a, S, n, rfl, hq, q⟩ := h
  obtain ⟨u, rfl, rx⟩ := vals1 r
  cases rx
  obtain ⟨o, es, ep, t, ho, hex, hd, _, _, hb, hf, hn⟩ := setK_get I hq
  refine call_len_set ho hex hd hf (by unfold scanBound at hb; omega) ⟨.int n, H, I.tok _, ⟨_, by rw [hn]⟩, q⟩
theorem rd_lenSc {fi : IF} (hw : ∀ j ∈ ws, j ∈ vs) : ∀ σ H Q, rdE K (eLenSc fi g ts fe vs) σ H Q → tScK P w (rdI K fi) (rdG K ws g) (rdT K ts) (rdE K fe) vs σ H fun x H1 => ∃ a S n, [x] = [V.ref a] ∧ H1 a = some (SetK P w a S n) ∧ Q (.int n) H1 := fun σ H Q ⟨t, S, ρ, r, ρ', R, e, k⟩ => by
  obtain ⟨ds, ρ1, q1, e⟩ := ob_some e
  split at e
  · rename_i hc
    rw [Bool.and_eq_true, decide_eq_true_eq, List.all_eq_true] at hc
    obtain ⟨acc, ρ2, q2, e⟩ := ob_some e
    cases e
    refine ⟨t, S, ρ, ds, ρ1, R, q1, fun J H1 S1 R1 s1 W D hD => ?_⟩
    have e0 : SetK P w D (fun _ => false) 0 = setO P w D [] := rfl
    rw [e0]
    have R2 := (R1.new (New.lay (o := setO P w D []) R1.sh hD)).wiped vs
    have hS : S1 D = none := R1.sh.free hD
    have G : GrowO K t S1 (upd H1 D (setO P w D [])) (wipe σ vs) (wipeE ρ1 vs) D (setO P w D []) := by
      refine ⟨upd_same, hS, R1.bh.free hD, fun z => R1.ph D z hD, fun i s es y1 y2 y => ?_⟩
      obtain ⟨h1, h2⟩ := wipeE_get y1 (ls_no y2)
      rw [wipe_at σ h1] at y
      obtain ⟨a, us, z1, z2, _⟩ := R1.own i s es h2 y2
      rw [y] at z1
      cases z1
      rw [hD] at z2
      cases z2
    refine ⟨fun i m H' => i + m = ds.length ∧ ∃ S' ρ' acc', acc'.length ≤ i ∧ Rep K t S' H' (wipe σ vs) ρ' ∧ Same S1 S' ∧ GrowO K t S' H' (wipe σ vs) ρ' D (setO P w D acc') ∧ scL g ts fe vs (ds.drop i) ρ' acc' = some (acc, ρ2),
      ⟨ds.length, by omega, S1, wipeE ρ1 vs, [], Nat.le_refl _, R2, Same.refl _, G, q2⟩, ?_⟩
    rintro i m H' ⟨hm, S', ρ', acc', ha, R', s', G', e'⟩
    obtain ⟨w0, w1⟩ := scW (v := vs) (Q := fun H'' => ∃ a S n, [V.ref D] = [V.ref a] ∧ H'' a = some (SetK P w a S n) ∧ Q (.int n) H'') hw W hc.1 (fun H'' S'' R'' s'' G'' => by
      have RB := R1.back hc.2 s'' R''
      exact ⟨D, _, _, rfl, G''.at_, k (.int acc.length) H'' S'' RB (s1.trans s'') (.int _)⟩) m i H' S' ρ' acc' hm ha R' s' G' e'
    by_cases h0 : m = 0
    · exact .inl (w0 h0)
    · obtain ⟨g1, g2⟩ := w1 (by omega)
      exact .inr ⟨g1, fun H2 => ∃ S' ρ' acc2, acc2.length ≤ i + 1 ∧ Rep K t S' H2 (wipe σ vs) ρ' ∧ Same S1 S' ∧ GrowO K t S' H2 (wipe σ vs) ρ' D (setO P w D acc2) ∧ scL g ts fe vs (ds.drop (i + 1)) ρ' acc2 = some (acc, ρ2),
        fun H2 ⟨S2, ρ3, acc2, l2, R3, s2, G2, e2⟩ => ⟨m - 1, by omega, by omega, S2, ρ3, acc2, l2, R3, s2, G2, e2⟩, g2⟩
  · cases e
end
section
variable {X : Cx} {elt tg iter : Expr} {ifs : List Expr} {scope : Scope} {own : List (Str × Nat)} {pos p cpos : Pos} {fi : IF} {g : GF} {ts : TF} {fe : EF} {ws : List Nat}
theorem ok_lenSc (hc : X.calm = true) (hN : X.N.Nodup) (hgl : Gl X "len") (hm : X.mg "len" = none) (hi : OkI X tg iter fi) (ok : BlkOk X.N X.env.scope scope own)
    (hg : ∀ (s : Shared) (H : Hp) (C : Addr) (cl : List (Str × Addr)) (fp : List Addr), OkG (X.blk s H scope (compEnvC scope cl C X.env) fp) tg ws g) (ht : ∀ (s : Shared) (H : Hp) (C : Addr) (cl : List (Str × Addr)) (fp : List Addr), OkTs (X.blk s H scope (compEnvC scope cl C X.env) fp) ifs ts)
    (he : ∀ (s : Shared) (H : Hp) (C : Addr) (cl : List (Str × Addr)) (fp : List Addr), OkE (X.blk s H scope (compEnvC scope cl C X.env) fp) elt fe) (hw : ∀ j ∈ ws, j ∈ own.map (·.2) := by decide) (hs : ∀ x, foldedSetIterable iter X.env x = pure x := by intro _; rfl)
    (hst : starEach [.SetComp elt [⟨tg, iter, ifs, 0⟩] scope pos] X.env = (false, eval (.SetComp elt [⟨tg, iter, ifs, 0⟩] scope pos) X.env) :: starEach [] X.env := by rfl) :
    OkE X (.Call (.Name "len" p) [.SetComp elt [⟨tg, iter, ifs, 0⟩] scope pos] [] cpos) (eLenSc fi g ts fe (own.map (·.2))) :=
  have sc : PE X (.SetComp elt [⟨tg, iter, ifs, 0⟩] scope pos) (tScK X.prog X.w (rdI X.K fi) (rdG X.K ws g) (rdT X.K ts) (rdE X.K fe) (own.map (·.2))) := pe_scK hc hN hi.run ok (fun s H C cl fp => (hg s H C cl fp).run) (fun s H C cl fp => (ht s H C cl fp).run) he hs
  pe_imp (pe_callB call_lenK hgl hm (by decide +kernel) (pa_cons sc pa_nil hst) (by decide) (by decide) hst (by rfl)) fun σ H Q h => rd_lenSc (P := X.prog) (w := X.w) hw σ H Q h
end
end DL
/-! The data layer 16: dict(..) of pairs of a text and an int, d[k]. -/
namespace DL
open PySem L2 PySem.Spec PySem.W PyProof PyProof.Rows
def pairsD : List PyData → Option (List (Str × Int))
  | [] => some []
  | .tuple [.str k, .int v] :: r => ol (pairsD r) fun m => some ((k, v) :: m)
  | _ :: _ => none
def dictD : List PyData → Option Rv
  | [.list xs] => ol (pairsD xs) fun m => if (m.map Prod.fst).Nodup then some (.da (dctD m)) else none
  | _ => none
theorem mergeK_new : ∀ (m : List (Str × Int)) (acc : List (Key × V)), (m.map Prod.fst).Nodup → (∀ x ∈ m, ∀ y ∈ acc, y.1 ≠ .inr x.1) → mergeK acc (dctK m) = acc ++ dctK m
  | [], acc, _, _ => by simp [mergeK, dctK]
  | x :: m, acc, h, d => by
    have hn := List.nodup_cons.1 h
    have e : putK acc (Sum.inr x.1 : Key) (V.int x.2) = acc ++ [(.inr x.1, .int x.2)] := by
      unfold putK
      rw [if_neg]
      intro hh
      obtain ⟨y, hy, e⟩ := List.any_eq_true.1 hh
      exact d x (by simp) y hy (by simpa using e)
    show mergeK (putK acc (Sum.inr x.1 : Key) (V.int x.2)) (dctK m) = acc ++ ((.inr x.1, .int x.2) :: dctK m)
    rw [e, mergeK_new m _ hn.2 fun y hy z hz => ?_]
    · simp
    · rcases List.mem_append.1 hz with hz | hz
      · exact d y (by simp [hy]) z hz
      · simp at hz
        subst hz
        intro e
        injection e with e
        exact hn.1 (e ▸ List.mem_map.2 ⟨y, hy, rfl⟩)
theorem pairs_ok {K : PySem.W.Frag} {S H : Hp} (ss : Same S H) : ∀ {xs : List PyData} {vs : List V} {m : List (Str × Int)}, DaAll K S vs xs → pairsD xs = some m → ∃ ps : List Addr, vs = ps.map V.ref ∧ Paired (fun p kv => SqT K H p [kV kv.1, kv.2]) ps (dctK m)
  | [], _, _, .nil, e => by
    cases e
    exact ⟨[], rfl, .nil⟩
  | x :: xs, _, m, .cons (v := v) (vs := vs) h r, e => by
    unfold pairsD at e
    split at e
    · rename_i hx; cases hx
    · rename_i k i r' hx
      cases hx
      obtain ⟨m', q, e⟩ := ol_some e
      cases e
      obtain ⟨ps, rfl, P⟩ := pairs_ok ss r q
      cases h with
      | tup h1 h2 =>
        rename_i a us
        cases h2 with
        | cons d1 h2 =>
          cases h2 with
          | cons d2 h2 =>
            cases h2
            cases d1
            cases d2
            exact ⟨a :: ps, rfl, .cons (SqT.of (ss _ _ h1)) P⟩
    · cases e
theorem okDict {K : PySem.W.Frag} : CallOk K (fun xs H Q => ∃ (a : Addr) (ps : List Addr) (kvs : List (Key × V)), xs = [.ref a] ∧ SqL K H a (ps.map V.ref) ∧ Paired (fun p kv => SqT K H p [kV kv.1, kv.2]) ps kvs ∧
    ∀ p, H p = none → Q (.ref p) (upd H p (.dK (mergeK [] kvs)))) dictD := fun S H vs ds res ss h hf Q k => by
  unfold dictD at hf
  split at hf
  · obtain ⟨m, q, hf⟩ := ol_some hf
    split at hf
    · rename_i hn
      cases hf
      obtain ⟨v, rfl, hv⟩ := h.one
      obtain ⟨a, us, rfl, ha, da⟩ := hv.lst ss
      obtain ⟨ps, rfl, P⟩ := pairs_ok ss da q
      refine ⟨a, ps, dctK m, rfl, SqL.of ha, P, fun p hp => ?_⟩
      rw [mergeK_new m [] hn (fun _ _ _ z => by simp at z), List.nil_append]
      have N := New.put (o := .dK (dctK m)) ss hp
      exact k _ _ _ N (.dct upd_same)
    · cases hf
  · cases hf
def unD : List (PyData × PyData) → Option (List (Str × Int))
  | [] => some []
  | (.str k, .int v) :: r => ol (unD r) fun m => some ((k, v) :: m)
  | _ :: _ => none
def dctOf : PyData → Option (List (Str × Int))
  | .dict ((.bool true, .none) :: r) => unD r
  | _ => none
theorem unD_map : ∀ m : List (Str × Int), unD (m.map fun x => (PyData.str x.1, PyData.int x.2)) = some m
  | [] => rfl
  | x :: m => by simp [unD, unD_map m]
theorem dctOf_mk (m : List (Str × Int)) : dctOf (dctD m) = some m := unD_map m
def lookD (m : List (Str × Int)) (k : Str) : Option Int := (m.find? fun x => decide (x.1 = k)).map (·.2)
def dgetD (d e : PyData) : Option Rv := ol (dctOf d) fun m => match e with
  | .str k => ol (lookD m k) fun v => some (.da (.int v))
  | _ => none
theorem valV_dct (m : List (Str × Int)) (k : Str) : valV (dctK m) (Sum.inr k : Key) = (lookD m k).map V.int := by
  unfold valV lookD dctK
  induction m with
  | nil => rfl
  | cons x m ih =>
    by_cases h : x.1 = k
    · simp [h]
    · have h' : ¬ ((Sum.inr x.1 : Key) = Sum.inr k) := fun e => h (by injection e)
      simp only [List.map_cons, List.find?_cons, h, h', decide_false, ih]
theorem Vw.dct {K : PySem.W.Frag} {S H : Hp} {v : V} {d : PyData} {m : List (Str × Int)} (h : Vw K S H v d) (e : dctOf d = some m) : ∃ a, v = .ref a ∧ S a = some (.dK (dctK m)) := by
  rcases h with h | ⟨a, vs, es, _, h, _⟩
  · cases h with
    | dct h =>
      rw [dctOf_mk] at e
      cases e
      exact ⟨_, rfl, h⟩
    | scr h => simp [DL.scr, dctOf] at e
    | _ => cases e
  · subst h; cases e
theorem okDget {K : PySem.W.Frag} : OpOk K (fun x y H Q => ∃ a v, x = .ref a ∧ DGet H a y (some v) ∧ Q v H) dgetD := fun S H x y d e res ss hx hy hf Q k => by
  obtain ⟨m, q, hf⟩ := ol_some hf
  cases e with
  | str kk =>
    obtain ⟨v, q2, hf⟩ := ol_some hf
    cases hf
    obtain ⟨a, rfl, ha⟩ := hx.dct q
    have hy' := hy.str
    subst hy'
    have g := DGet.k (k := (Sum.inr kk : Key)) (ss _ _ ha)
    rw [valV_dct, q2] at g
    exact ⟨a, .int v, rfl, g, k _ H S (New.refl ss) (.int v)⟩
  | _ => cases hf
section
variable {X : Cx}
theorem ok_dget {a b : Expr} {pos : Pos} {fa fb : EF} (hu : X.A.units + 1 < cLine) (ha : OkE X a fa) (hb : OkE X b fb) (hs : NoSl b := by intro _ _; rfl) : OkE X (.Subscript a b pos) (eBin dgetD fa fb) :=
  pe_imp (pe_dget hu ha hb hs) (rd_bin okDget)
end
@[simp] theorem dgetD_s (m : List (Str × Int)) (k : Str) : dgetD (dctD m) (.str k) = ol (lookD m k) fun v => some (.da (.int v)) := by
  unfold dgetD
  rw [dctOf_mk]
  rfl
end DL
/-! The data layer 17: sorted(xs) of data that can be compared place by place. -/
namespace DL
open PySem L2 PySem.Spec PySem.W PyProof PyProof.Rows
section
variable {X : Cx}
def rSortD (K : PySem.W.Frag) : List V → Hp → VK → Prop := fun vs H Q => ∃ (a : Addr) (xs : List V) (ds : List PyData), vs = [V.ref a] ∧ SqL K H a xs ∧ DpAll K H xs ds ∧ AllAlike ds ∧ Sortable ds ∧ (∀ d ∈ ds, d.depth ≤ 8) ∧
  ∀ (ys : List V) (p : Addr), EachIs (fun y d => (y, d) ∈ xs.zip ds) ys (ds.mergeSort (dataLe false id)) → H p = none → Q (.ref p) (upd H p (.lst ys))
theorem each_zip {K : PySem.W.Frag} {H : Hp} : ∀ {xs : List V} {ds : List PyData} {its : List Value}, DpAll K H xs ds → Vals xs its → EachIs (fun v d => ∃ x, RelV x v ∧ (x, d) ∈ xs.zip ds) its ds
  | _, _, _, .nil, .nil => .nil
  | x :: xs, d :: ds, v :: its, .cons h hs, .cons r rs => by
    refine .cons ⟨x, r, by simp⟩ ((each_zip hs rs).mono fun v d ⟨x, r, m⟩ => ⟨x, r, ?_⟩)
    rw [List.zip_cons_cons]
    exact List.mem_cons_of_mem _ m
theorem each_reads {pins : List (Addr × Obj)} {σ : L2.St} {H : Hp} {s : Shared} (I : Inv X pins σ H s) : ∀ {xs : List V} {ds : List PyData} {its : List Value}, DpAll X.K H xs ds → Vals xs its → EachIs (fun v d => ∃ as, Reads s.heap v d as) its ds
  | _, _, _, .nil, .nil => .nil
  | x :: xs, d :: ds, v :: its, .cons h hs, .cons r rs => .cons (Dp.reads I d x v h r) (each_reads I hs rs)
theorem each_back {P : V → PyData → Prop} : ∀ {out : List Value} {ds : List PyData}, EachIs (fun v d => ∃ x, RelV x v ∧ P x d) out ds → ∃ ys, Vals ys out ∧ EachIs P ys ds
  | _, _, .nil => ⟨[], .nil, .nil⟩
  | _, _, .cons ⟨x, r, p⟩ h => by
    obtain ⟨ys, a, b⟩ := each_back h
    exact ⟨x :: ys, .cons r a, .cons p b⟩
theorem cr_sortD (hu : X.A.units + 65 < cLine) : CallR X (.builtin "sorted") (rSortD X.K) := by
  intro pins s σ H vs us Q I r h
  obtain ⟨a, xs, ds, rfl, hs, hd, hal, hk, hdep, q⟩ := h
  obtain ⟨its, rv, hl, hz⟩ := I.list hs
  rw [Vals.ref1 r]
  have e := each_zip hd rv
  have er := each_reads I hd rv
  have hlen : ds.length = xs.length := by rw [← e.length]; exact rv.length.symm
  refine sorted_data (enc := id) (bs := ds) hl.isList e er (by simpa using hal) (by simpa using hk) (by omega) (fun d m => by have := hdep d m; show X.A.units + 2 + d.depth < cLine; omega) fun out ho eo => ?_
  obtain ⟨ep, he'⟩ := PyProof.Rows.sortedAll_at s.heap its out.toArray
  obtain ⟨ys, h1, h2⟩ := each_back eo
  have hy : ys.length ≤ sizeLine := by rw [h1.length, ho]; omega
  exact ⟨.ref _, upd H (s.heap.objs.size + 1) (.lst ys), I.laid (t' := s.toks) (fun _ _ => PyProof.Rows.sortedAll_old) (Nat.le_succ _) ⟨hy, out, ep, h1, he'⟩, rfl, q ys _ h2 (I.hok.fresh (Nat.le_succ _))⟩
end
def tup1 : PyData → Bool
  | .tuple (_ :: _) => true
  | _ => false
def notTN : PyData → Bool
  | .tuple _ => false
  | .none => false
  | _ => true
def sortOkD (xs : List PyData) : Bool := PyData.canLayAll0 xs && (xs.all fun d => xs.all fun e => alike d e) && (xs.all tup1 || xs.all notTN) && xs.all fun d => decide (d.depth ≤ 8)
def sortD : List PyData → Option Rv
  | [.list xs] => if sortOkD xs = true then some (.fr (xs.mergeSort (dataLe false id))) else none
  | _ => none
@[simp] theorem sortD_l (xs : List PyData) : sortD [.list xs] = if sortOkD xs = true then some (.fr (xs.mergeSort (dataLe false id))) else none := rfl
theorem zip_da {K : PySem.W.Frag} {S : Hp} : ∀ {xs : List V} {ds : List PyData}, DaAll K S xs ds → ∀ p ∈ xs.zip ds, Da K S p.1 p.2
  | _, _, .nil, p, h => by simp at h
  | _, _, .cons d r, p, h => by
    rw [List.zip_cons_cons] at h
    rcases List.mem_cons.1 h with rfl | h
    · exact d
    · exact zip_da r p h
theorem each_da {K : PySem.W.Frag} {S : Hp} {P : V → PyData → Prop} (hP : ∀ y d, P y d → Da K S y d) : ∀ {ys : List V} {ds : List PyData}, EachIs P ys ds → DaAll K S ys ds
  | _, _, .nil => .nil
  | _, _, .cons p h => .cons (hP _ _ p) (each_da hP h)
theorem okSort {K : PySem.W.Frag} : CallOk K (rSortD K) sortD := fun S H vs ds res ss h hf Q k => by
  unfold sortD at hf
  split at hf
  · rename_i xs
    split at hf
    · rename_i hc
      cases hf
      obtain ⟨v, rfl, hv⟩ := h.one
      obtain ⟨a, us, rfl, ha, da⟩ := hv.lst ss
      unfold sortOkD at hc
      rw [Bool.and_eq_true, Bool.and_eq_true, Bool.and_eq_true, Bool.or_eq_true] at hc
      obtain ⟨⟨⟨h1, h2⟩, h3⟩, h4⟩ := hc
      have dp : DpAll K H us xs := DaAll.dp ss da h1
      refine ⟨a, us, xs, rfl, SqL.of ha, dp, fun d m e m' => ?_, ?_, fun d m => ?_, fun ys p hy hp => ?_⟩
      · exact List.all_eq_true.1 (List.all_eq_true.1 h2 d m) e m'
      · rcases h3 with h3 | h3
        · refine .inl fun d m => ?_
          have := List.all_eq_true.1 h3 d m
          unfold tup1 at this
          split at this
          · exact ⟨_, _, rfl⟩
          · cases this
        · refine .inr fun d m => ?_
          have := List.all_eq_true.1 h3 d m
          unfold notTN at this
          split at this
          · cases this
          · cases this
          · rename_i n1 n2
            exact ⟨n2, n1⟩
      · simpa using List.all_eq_true.1 h4 d m
      · have D : DaAll K S ys _ := each_da (fun y d m => zip_da da (y, d) m) hy
        exact k _ _ _ (New.lay ss hp) ⟨p, _, rfl, hp, upd_same, ss.free hp, D⟩
    · cases hf
  · cases hf
end DL
/-! The data layer 18: for t in zip(xs, ys), one name as target. -/
namespace DL
open PySem L2 PySem.Spec PySem.W PyProof PyProof.Rows
abbrev ZG (h : Heap) (z TI TO : Addr) (f0 f1 : Value) : Prop := h.get? z = some { cls := .type "zip", dict := none, data := .fields #[f0, f1, .bool false, .ref TI, .ref TO], slots := #[] }
def Own0 (v : Value) : Prop := v = .none ∨ ∃ a : Addr, v = rawInt a
section
variable {prog : Program} {w : World} {A : Around} {E : Value → Shared → Prop} {s : Shared} {z TI TO i1 i2 : Addr} {fp1 fp2 : List Addr} {n1 n2 i : Nat} {P1 P2 : Nat → Value → Prop} {St1 St2 : Nat → Heap → Prop} {a1 a2 f0 : Value} {b1 : Bool}
theorem alive_any {a : Addr} {Q : Option Obj → Shared → Prop} (h : Q (s.heap.get? a) s) : wpAny (model prog w) A (loadIfAlive a) Q E s := fun Γ p hΓ => by
  unfold loadIfAlive
  rw [Sem.wp_loadIfAlive]
  exact wpAny_pure h Γ p hΓ
theorem own_free {Q : Bool → Shared → Prop} (hz : ZG s.heap z TI TO f0 (.bool b1)) (hf : Own0 f0) (h1 : Q true s) (h2 : ∀ h', ZG h' z TI TO f0 (.bool true) → Heap.SameBut z s.heap h' → Q false { s with heap := h' }) :
    wpAny (model prog w) A (Builtin.SmallTypes.ownedTupleIsFree (.ref z)) Q E s := by
  unfold Builtin.SmallTypes.ownedTupleIsFree
  rcases hf with rfl | ⟨a, rfl⟩
  · exact wpAny_bind (wpAny_field hz rfl (x := .none) rfl (wpAny_pure h1))
  · refine wpAny_bind (wpAny_field hz rfl (x := rawInt a) rfl ?_)
    show wpAny _ _ (loadIfAlive ((a : Int).toNat) >>= _) _ _ _
    refine wpAny_bind (alive_any ?_)
    cases hq : s.heap.get? ((a : Int).toNat) with
    | none => exact wpAny_pure h1
    | some o =>
      show wpAny _ _ (field (.ref z) 1 >>= _) _ _ _
      refine wpAny_bind (wpAny_field hz rfl (x := .bool b1) rfl ?_)
      cases b1 with
      | true => exact wpAny_pure (h2 s.heap hz ⟨rfl, fun _ _ => rfl⟩)
      | false => exact wpAny_bind (wpAny_setField_rec hz (by simp) fun h' hz' hs' => wpAny_pure (h2 h' hz' hs'))
theorem zg_item {Q : Value → Shared → Prop} (S : ZipSep2 z TI TO i1 i2 fp1 fp2) (D1 : Draws prog w A i1 fp1 n1 P1 St1) (D2 : Draws prog w A i2 fp2 n2 P2 St2)
    (hz : ZG s.heap z TI TO f0 (.bool b1)) (hf : Own0 f0) (hTI : IsTupOf2 s.heap TI (.ref i1) (.ref i2)) (hTO : IsTupOf2 s.heap TO a1 a2) (st1 : St1 i s.heap) (st2 : St2 i s.heap) (hlt1 : i < n1) (hlt2 : i < n2)
    (hQ : ∀ x1 x2 h' tk f0' b1' c1 c2, P1 i x1 → P2 i x2 → ZG h' z TI TO f0' (.bool b1') → Own0 f0' → IsTupOf2 h' TO c1 c2 → St1 (i + 1) h' → St2 (i + 1) h' → IsTupOf2 h' s.heap.objs.size x1 x2 →
      (∀ c o, c ≠ z → c ≠ TO → c ≠ i1 → c ≠ i2 → s.heap.get? c = some o → h'.get? c = some o) → Q (.ref s.heap.objs.size) { s with heap := h', toks := tk }) :
    wpAny (model prog w) A (Builtin.«zip.__next__» ⟨[.ref z], []⟩) (fun fin s' => ∃ v, fin = .done (.ret v) ∧ Q v s') E s := by
  obtain ⟨hp, g, d, tk0, os⟩ := s
  show wpAny _ _ (field (.ref z) 2 >>= _) _ _ _
  refine wpAny_bind (wpAny_field hz rfl (x := .bool false) rfl ?_)
  show wpAny _ _ (field (.ref z) 3 >>= _) _ _ _
  refine wpAny_bind (wpAny_field hz rfl (x := .ref TI) rfl ?_)
  refine wpAny_bind (wpAny_seqItems hTI rfl ?_)
  show wpAny _ _ (Builtin.SmallTypes.ownedTupleIsFree (.ref z) >>= _) _ _ _
  refine wpAny_bind (own_free hz hf ?_ fun g0 hz0 hs0 => ?_)
  · simp only [if_true]
    refine wpAny_bind (wpAny_rule ?_)
    refine wpAny_bind (wpAny_field hz rfl (x := .ref TO) rfl ?_)
    refine wpAny_bind (wpAny_setField_rec hz (by simp) fun g0 hz0 hs0 => ?_)
    replace hz0 : ZG g0 z TI TO .ellipsis (.bool b1) := hz0
    replace hs0 : Heap.SameBut z hp g0 := hs0
    refine wpAny_bind ?_
    simp only [List.zipIdx_cons, List.zipIdx_nil, List.forIn_cons, List.forIn_nil]
    refine wpAny_bind (wpAny_bind (wpAny_onRaise ?_))
    show wpAny _ _ (Builtin.SmallTypes.nextOf (.ref i1) >>= _) _ _ ⟨g0, g, d, tk0, os⟩
    refine wpAny_bind (D1.item i _ _ _ hlt1 (D1.over st1 hs0 S.zf1) fun x1 p1 tk1 hx1 sn1 hp1 => wpAny_pure ?_)
    replace hp1 : Heap.SameBut i1 g0 p1 := hp1
    have hU1 : IsTupOf2 p1 TO a1 a2 := hp1.extBut _ _ S.Ti1 (hs0.extBut _ _ S.TOz hTO)
    refine wpAny_bind (wpAny_seqItems (s := ⟨p1, g, d, tk1, os⟩) hU1 rfl ?_)
    refine wpAny_bind (updateSeq_IsTupOf2 (s := ⟨p1, g, d, tk1, os⟩) hU1 fun g1 hT1 hs1 => ?_)
    replace hT1 : IsTupOf2 g1 TO x1 a2 := hT1
    replace hs1 : Heap.SameBut TO p1 g1 := hs1
    refine wpAny_bind (wpAny_letGo (wpAny_pure ?_))
    refine wpAny_bind (wpAny_bind (wpAny_onRaise ?_))
    show wpAny _ _ (Builtin.SmallTypes.nextOf (.ref i2) >>= _) _ _ ⟨g1, g, d, tk1, os⟩
    refine wpAny_bind (D2.item i _ _ _ hlt2 (D2.over (D2.over (D2.over st2 hs0 S.zf2) hp1 S.sep1_2) hs1 S.Tf2) fun x2 p2 tk2 hx2 sn2 hp2 => wpAny_pure ?_)
    replace hp2 : Heap.SameBut i2 g1 p2 := hp2
    have hU2 : IsTupOf2 p2 TO x1 a2 := hp2.extBut _ _ S.Ti2 hT1
    refine wpAny_bind (wpAny_seqItems (s := ⟨p2, g, d, tk2, os⟩) hU2 rfl ?_)
    refine wpAny_bind (updateSeq_IsTupOf2 (s := ⟨p2, g, d, tk2, os⟩) hU2 fun g2 hT2 hs2 => ?_)
    replace hT2 : IsTupOf2 g2 TO x1 x2 := hT2
    replace hs2 : Heap.SameBut TO p2 g2 := hs2
    refine wpAny_bind (wpAny_letGo (wpAny_pure (wpAny_pure ?_)))
    refine wpAny_bind (wpAny_seqItems (s := ⟨g2, g, d, tk2, os⟩) hT2 rfl ?_)
    refine wpAny_bind (wpAny_newTuple ?_)
    have hsz : g2.objs.size = hp.objs.size := by rw [hs2.1, hp2.1, hs1.1, hp1.1, hs0.1]
    have hzz : ZG g2 z TI TO .ellipsis (.bool b1) := hs2.extBut _ _ S.TOz.symm (hp2.extBut _ _ S.zi2 (hs1.extBut _ _ S.TOz.symm (hp1.extBut _ _ S.zi1 hz0)))
    have hkk : ∀ c o, c ≠ z → c ≠ TO → c ≠ i1 → c ≠ i2 → hp.get? c = some o → g2.get? c = some o := fun c o cz cT c1 c2 e =>
      hs2.extBut _ _ cT (hp2.extBut _ _ c2 (hs1.extBut _ _ cT (hp1.extBut _ _ c1 (hs0.extBut _ _ cz e))))
    have hj1 : St1 (i + 1) g2 := D1.over (D1.over (D1.over sn1 hs1 S.Tf1) hp2 S.sep2_1) hs2 S.Tf1
    have hj2 : St2 (i + 1) g2 := D2.over sn2 hs2 S.Tf2
    have hzlt : z < g2.objs.size := Heap.lt_size hzz
    show wpAny _ _ (Builtin.SmallTypes.ownedTupleHandOut (.ref z) (.ref g2.objs.size) >>= _) _ _ ⟨g2.push { cls := .type "tuple", data := .seq #[x1, x2] }, g, d, tk2, os⟩
    refine wpAny_bind ?_
    unfold Builtin.SmallTypes.ownedTupleHandOut
    have hz₆ : ZG (g2.push { cls := .type "tuple", data := .seq #[x1, x2] }) z TI TO .ellipsis (.bool b1) := Heap.get?_push_of_some _ hzz
    refine wpAny_bind (wpAny_setField_rec hz₆ (by simp) fun h₇ hz₇ hs₇ => ?_)
    replace hz₇ : ZG h₇ z TI TO (rawInt g2.objs.size) (.bool b1) := hz₇
    refine wpAny_setField_rec hz₇ (by simp) fun h₈ hz₈ hs₈ => ?_
    replace hz₈ : ZG h₈ z TI TO (rawInt g2.objs.size) (.bool false) := hz₈
    replace hs₇ : Heap.SameBut z (g2.push { cls := .type "tuple", data := .seq #[x1, x2] }) h₇ := hs₇
    replace hs₈ : Heap.SameBut z h₇ h₈ := hs₈
    have up : ∀ c o, c ≠ z → g2.get? c = some o → h₈.get? c = some o := fun c o c1 e => hs₈.extBut _ _ c1 (hs₇.extBut _ _ c1 (Heap.get?_push_of_some _ e))
    have hT₈ : IsTupOf2 h₈ g2.objs.size x1 x2 := hs₈.extBut _ _ (Nat.ne_of_gt hzlt) (hs₇.extBut _ _ (Nat.ne_of_gt hzlt) (Heap.get?_push_size _ rfl))
    rw [hsz] at hT₈
    refine wpAny_pure ⟨_, rfl, ?_⟩
    show Q (.ref g2.objs.size) ⟨h₈, g, d, tk2, os⟩
    rw [hsz]
    exact hQ x1 x2 h₈ tk2 _ _ _ _ hx1 hx2 hz₈ (.inr ⟨_, rfl⟩) (up _ _ S.TOz hT2) (D1.frame _ _ _ hj1 fun b hb o e => up b o (fun q => S.zf1 (q ▸ hb)) e) (D2.frame _ _ _ hj2 fun b hb o e => up b o (fun q => S.zf2 (q ▸ hb)) e) hT₈ fun c o cz cT c1 c2 e => up c o cz (hkk c o cz cT c1 c2 e)
  · replace hs0 : Heap.SameBut z hp g0 := hs0
    simp only [Bool.false_eq_true, if_false]
    rw [← Array.forIn_toList]
    simp only [List.forIn_cons, List.forIn_nil]
    refine wpAny_bind (wpAny_bind (wpAny_bind (wpAny_holding ?_)))
    show wpAny _ _ (Builtin.SmallTypes.nextOf (.ref i1) >>= _) _ _ ⟨g0, g, d, tk0, os⟩
    refine wpAny_bind (D1.item i _ _ _ hlt1 (D1.over st1 hs0 S.zf1) fun x1 p1 tk1 hx1 sn1 hp1 => wpAny_pure (wpAny_pure ?_))
    replace hp1 : Heap.SameBut i1 g0 p1 := hp1
    refine wpAny_bind (wpAny_bind (wpAny_holding ?_))
    show wpAny _ _ (Builtin.SmallTypes.nextOf (.ref i2) >>= _) _ _ ⟨p1, g, d, tk1, os⟩
    refine wpAny_bind (D2.item i _ _ _ hlt2 (D2.over (D2.over st2 hs0 S.zf2) hp1 S.sep1_2) fun x2 p2 tk2 hx2 sn2 hp2 => wpAny_pure (wpAny_pure (wpAny_pure ?_)))
    replace hp2 : Heap.SameBut i2 p1 p2 := hp2
    have hsz : p2.objs.size = hp.objs.size := by rw [hp2.1, hp1.1, hs0.1]
    refine wpAny_bind (wpAny_newTuple ?_ (by show 2 ≤ sizeLine; decide))
    have up : ∀ c o, c ≠ i1 → c ≠ i2 → g0.get? c = some o → (p2.push { cls := .type "tuple", data := .seq #[x1, x2] }).get? c = some o := fun c o c1 c2 e => Heap.get?_push_of_some _ (hp2.extBut _ _ c2 (hp1.extBut _ _ c1 e))
    have hT : IsTupOf2 (p2.push { cls := .type "tuple", data := .seq #[x1, x2] }) p2.objs.size x1 x2 := Heap.get?_push_size _ rfl
    rw [hsz] at hT
    refine wpAny_pure ⟨_, rfl, ?_⟩
    show Q (.ref p2.objs.size) ⟨p2.push { cls := .type "tuple", data := .seq #[x1, x2] }, g, d, tk2, os⟩
    rw [hsz]
    exact hQ x1 x2 _ tk2 _ _ _ _ hx1 hx2 (up _ _ S.zi1 S.zi2 hz0) hf (up _ _ S.Ti1 S.Ti2 (hs0.extBut _ _ S.TOz hTO)) (D1.frame _ _ _ (D1.over sn1 hp2 S.sep2_1) fun b hb o e => Heap.get?_push_of_some _ e) (D2.frame _ _ _ sn2 fun b hb o e => Heap.get?_push_of_some _ e) hT
      fun c o cz cT c1 c2 e => up c o c1 c2 (hs0.extBut _ _ cz e)
theorem zg_end {Q : Fin → Shared → Prop} (S : ZipSep2 z TI TO i1 i2 fp1 fp2) (D1 : Draws prog w A i1 fp1 n1 P1 St1) (D2 : Draws prog w A i2 fp2 n2 P2 St2)
    (hz : ZG s.heap z TI TO f0 (.bool b1)) (hf : Own0 f0) (hTI : IsTupOf2 s.heap TI (.ref i1) (.ref i2)) (hTO : IsTupOf2 s.heap TO a1 a2) (st1 : St1 i s.heap) (st2 : St2 i s.heap) (hle1 : i ≤ n1) (hle2 : i ≤ n2) (hend : i = n1 ∨ i = n2)
    (hE : ∀ h' tk e, (∀ c o, c ≠ z → c ≠ TO → c ≠ i1 → c ≠ i2 → s.heap.get? c = some o → h'.get? c = some o) → (∃ o, h'.get? e = some o ∧ o.cls = .type "StopIteration") → E (.ref e) { s with heap := h', toks := tk }) :
    wpAny (model prog w) A (Builtin.«zip.__next__» ⟨[.ref z], []⟩) Q E s := by
  obtain ⟨hp, g, d, tk0, os⟩ := s
  show wpAny _ _ (field (.ref z) 2 >>= _) _ _ _
  refine wpAny_bind (wpAny_field hz rfl (x := .bool false) rfl ?_)
  show wpAny _ _ (field (.ref z) 3 >>= _) _ _ _
  refine wpAny_bind (wpAny_field hz rfl (x := .ref TI) rfl ?_)
  refine wpAny_bind (wpAny_seqItems hTI rfl ?_)
  show wpAny _ _ (Builtin.SmallTypes.ownedTupleIsFree (.ref z) >>= _) _ _ _
  refine wpAny_bind (own_free hz hf ?_ fun g0 hz0 hs0 => ?_)
  · simp only [if_true]
    refine wpAny_bind (wpAny_rule ?_)
    refine wpAny_bind (wpAny_field hz rfl (x := .ref TO) rfl ?_)
    refine wpAny_bind (wpAny_setField_rec hz (by simp) fun g0 hz0 hs0 => ?_)
    replace hz0 : ZG g0 z TI TO .ellipsis (.bool b1) := hz0
    replace hs0 : Heap.SameBut z hp g0 := hs0
    refine wpAny_bind ?_
    simp only [List.zipIdx_cons, List.zipIdx_nil, List.forIn_cons, List.forIn_nil]
    refine wpAny_bind (wpAny_bind (wpAny_onRaise ?_))
    show wpAny _ _ (Builtin.SmallTypes.nextOf (.ref i1) >>= _) _ _ ⟨g0, g, d, tk0, os⟩
    by_cases hlt1 : i < n1
    · refine wpAny_bind (D1.item i _ _ _ hlt1 (D1.over st1 hs0 S.zf1) fun x1 p1 tk1 hx1 sn1 hp1 => wpAny_pure ?_)
      replace hp1 : Heap.SameBut i1 g0 p1 := hp1
      have hU1 : IsTupOf2 p1 TO a1 a2 := hp1.extBut _ _ S.Ti1 (hs0.extBut _ _ S.TOz hTO)
      refine wpAny_bind (wpAny_seqItems (s := ⟨p1, g, d, tk1, os⟩) hU1 rfl ?_)
      refine wpAny_bind (updateSeq_IsTupOf2 (s := ⟨p1, g, d, tk1, os⟩) hU1 fun g1 hT1 hs1 => ?_)
      replace hT1 : IsTupOf2 g1 TO x1 a2 := hT1
      replace hs1 : Heap.SameBut TO p1 g1 := hs1
      refine wpAny_bind (wpAny_letGo (wpAny_pure ?_))
      have hi2 : i = n2 := by omega
      refine wpAny_bind (wpAny_bind (wpAny_onRaise ?_))
      show wpAny _ _ (Builtin.SmallTypes.nextOf (.ref i2) >>= _) _ _ ⟨g1, g, d, tk1, os⟩
      refine wpAny_bind (D2.done ⟨g1, g, d, tk1, os⟩ _ _ (by rw [← hi2]; exact (D2.over (D2.over (D2.over st2 hs0 S.zf2) hp1 S.sep1_2) hs1 S.Tf2)) fun q e hq he => ?_)
      replace hq : Heap.ExtBut i2 g1 q := hq
      obtain ⟨oe, hoe, hce⟩ := he
      replace hoe : q.get? e = some oe := hoe
      have hzq : ZG q z TI TO .ellipsis (.bool b1) := hq _ _ S.zi2 (hs1.extBut _ _ S.TOz.symm (hp1.extBut _ _ S.zi1 hz0))
      have hez : e ≠ z := fun x => by subst x; rw [hzq] at hoe; cases hoe; simp at hce
      refine wpAny_setField_rec (s := ⟨q, g, d, tk1, os⟩) hzq (by simp) fun q' _ hq' => ?_
      replace hq' : Heap.SameBut z q q' := hq'
      exact hE q' tk1 e (fun c o cz cT c1 c2 x => hq'.extBut _ _ cz (hq _ _ c2 (hs1.extBut _ _ cT (hp1.extBut _ _ c1 (hs0.extBut _ _ cz x))))) ⟨oe, hq'.extBut _ _ hez hoe, hce⟩
    · have hi1 : i = n1 := by omega
      refine wpAny_bind (D1.done ⟨g0, g, d, tk0, os⟩ _ _ (by rw [← hi1]; exact (D1.over st1 hs0 S.zf1)) fun q e hq he => ?_)
      replace hq : Heap.ExtBut i1 g0 q := hq
      obtain ⟨oe, hoe, hce⟩ := he
      replace hoe : q.get? e = some oe := hoe
      have hzq : ZG q z TI TO .ellipsis (.bool b1) := hq _ _ S.zi1 hz0
      have hez : e ≠ z := fun x => by subst x; rw [hzq] at hoe; cases hoe; simp at hce
      refine wpAny_setField_rec (s := ⟨q, g, d, tk0, os⟩) hzq (by simp) fun q' _ hq' => ?_
      replace hq' : Heap.SameBut z q q' := hq'
      exact hE q' tk0 e (fun c o cz cT c1 c2 x => hq'.extBut _ _ cz (hq _ _ c1 (hs0.extBut _ _ cz x))) ⟨oe, hq'.extBut _ _ hez hoe, hce⟩
  · replace hs0 : Heap.SameBut z hp g0 := hs0
    simp only [Bool.false_eq_true, if_false]
    rw [← Array.forIn_toList]
    simp only [List.forIn_cons, List.forIn_nil]
    refine wpAny_bind (wpAny_bind (wpAny_bind (wpAny_holding ?_)))
    show wpAny _ _ (Builtin.SmallTypes.nextOf (.ref i1) >>= _) _ _ ⟨g0, g, d, tk0, os⟩
    by_cases hlt1 : i < n1
    · refine wpAny_bind (D1.item i _ _ _ hlt1 (D1.over st1 hs0 S.zf1) fun x1 p1 tk1 hx1 sn1 hp1 => wpAny_pure (wpAny_pure ?_))
      replace hp1 : Heap.SameBut i1 g0 p1 := hp1
      have hi2 : i = n2 := by omega
      refine wpAny_bind (wpAny_bind (wpAny_holding ?_))
      show wpAny _ _ (Builtin.SmallTypes.nextOf (.ref i2) >>= _) _ _ ⟨p1, g, d, tk1, os⟩
      refine wpAny_bind (D2.done ⟨p1, g, d, tk1, os⟩ _ _ (by rw [← hi2]; exact (D2.over (D2.over st2 hs0 S.zf2) hp1 S.sep1_2)) fun q e hq he => ?_)
      replace hq : Heap.ExtBut i2 p1 q := hq
      exact hE q tk1 e (fun c o cz cT c1 c2 x => hq _ _ c2 (hp1.extBut _ _ c1 (hs0.extBut _ _ cz x))) he
    · have hi1 : i = n1 := by omega
      refine wpAny_bind (D1.done ⟨g0, g, d, tk0, os⟩ _ _ (by rw [← hi1]; exact (D1.over st1 hs0 S.zf1)) fun q e hq he => ?_)
      replace hq : Heap.ExtBut i1 g0 q := hq
      exact hE q tk0 e (fun c o cz cT c1 c2 x => hq _ _ c1 (hs0.extBut _ _ cz x)) he
theorem zg_next {Q : Option Value → Shared → Prop} (S : ZipSep2 z TI TO i1 i2 fp1 fp2) (D1 : Draws prog w A.in1 i1 fp1 n1 P1 St1) (D2 : Draws prog w A.in1 i2 fp2 n2 P2 St2)
    (hz : ZG s.heap z TI TO f0 (.bool b1)) (hf : Own0 f0) (hTI : IsTupOf2 s.heap TI (.ref i1) (.ref i2)) (hTO : IsTupOf2 s.heap TO a1 a2) (st1 : St1 i s.heap) (st2 : St2 i s.heap) (hlt1 : i < n1) (hlt2 : i < n2)
    (hQ : ∀ x1 x2 h' tk f0' b1' c1 c2, P1 i x1 → P2 i x2 → ZG h' z TI TO f0' (.bool b1') → Own0 f0' → IsTupOf2 h' TO c1 c2 → St1 (i + 1) h' → St2 (i + 1) h' → IsTupOf2 h' s.heap.objs.size x1 x2 →
      (∀ c o, c ≠ z → c ≠ TO → c ≠ i1 → c ≠ i2 → s.heap.get? c = some o → h'.get? c = some o) → Q (some (.ref s.heap.objs.size)) { s with heap := h', toks := tk }) :
    wpAny (model prog w) A (pyNext (.ref z)) Q E s := by
  have hT : s.TypeIs (.ref z) "zip" := ⟨_, hz, rfl⟩
  unfold pyNext
  exact wpAny_bind (wpAny_attempt (wpAny_callSpecial?_slot (name := Str.ofString "__next__") hT F.slot_zip_next
    (wpAny_call_entry F.slot_zip_next hT F.entry_zip_next (zg_item S D1 D2 hz hf hTI hTO st1 st2 hlt1 hlt2 fun x1 x2 h' tk f0' b1' c1 c2 y1 y2 y3 y4 y5 y6 y7 y8 y9 => wpAny_pure (hQ x1 x2 h' tk f0' b1' c1 c2 y1 y2 y3 y4 y5 y6 y7 y8 y9)) (F.args_zip_next_1 _))))
theorem zg_stop {Q : Option Value → Shared → Prop} (S : ZipSep2 z TI TO i1 i2 fp1 fp2) (D1 : Draws prog w A.in1 i1 fp1 n1 P1 St1) (D2 : Draws prog w A.in1 i2 fp2 n2 P2 St2)
    (hz : ZG s.heap z TI TO f0 (.bool b1)) (hf : Own0 f0) (hTI : IsTupOf2 s.heap TI (.ref i1) (.ref i2)) (hTO : IsTupOf2 s.heap TO a1 a2) (st1 : St1 i s.heap) (st2 : St2 i s.heap) (hle1 : i ≤ n1) (hle2 : i ≤ n2) (hend : i = n1 ∨ i = n2)
    (hQ : ∀ h' tk, (∀ c o, c ≠ z → c ≠ TO → c ≠ i1 → c ≠ i2 → s.heap.get? c = some o → h'.get? c = some o) → Q none { s with heap := h', toks := tk }) : wpAny (model prog w) A (pyNext (.ref z)) Q E s := by
  have hT : s.TypeIs (.ref z) "zip" := ⟨_, hz, rfl⟩
  unfold pyNext
  refine wpAny_bind (wpAny_attempt (wpAny_callSpecial?_slot (name := Str.ofString "__next__") hT F.slot_zip_next
    (wpAny_call_entry F.slot_zip_next hT F.entry_zip_next (zg_end S D1 D2 hz hf hTI hTO st1 st2 hle1 hle2 hend fun h' tk e hk he => ?_) (F.args_zip_next_1 _))))
  obtain ⟨o, ho, hc⟩ := he
  refine wpAny_bind (wpAny_isInstance (T := "StopIteration") (b := true) ⟨o, ho, hc⟩ isSubtype_stop ?_)
  exact wpAny_pure (hQ _ _ hk)
theorem zg_self {Q : Value → Shared → Prop} {f1 : Value} (hz : ZG s.heap z TI TO f0 f1) (h : Q (.ref z) s) : wpAny (model prog w) A (pyIter (.ref z)) Q E s := by
  have hT : s.TypeIs (.ref z) "zip" := ⟨_, hz, rfl⟩
  refine wpAny_pyIter_slot hT F.slot_zip_iter (wpAny_call_entry F.slot_zip_iter hT F.entry_zip_iter ?_ (F.args_zip_iter_1 _))
  show wpAny _ _ (ret (.ref z)) _ _ s
  exact wpAny_pure ⟨_, rfl, "zip", _, hT, F.slot_zip_next.lookup, h⟩
end
theorem turn_zpG {P : Program} {w : World} {K : PySem.W.Frag} {nm : Str} {tpos : Pos} (k k' : Bool) (a b N : Addr) (ha : a < N) (hb : b < N) :
    Turn P w K (.Name nm tpos) (ItZpB k k' K a b) [N + 4, N + 2, N + 3, N, N + 1] (N + 4) (fun i h => (∃ f0 b1, ZG h (N + 4) (N + 2) (N + 3) f0 (.bool b1) ∧ Own0 f0) ∧ IsTupOf2 h (N + 2) (.ref N) (.ref (N + 1)) ∧ (∃ x y, IsTupOf2 h (N + 3) x y) ∧ IsItB k h N a i ∧ IsItB k' h (N + 1) b i) where
  mem := by simp
  obj := fun i h st c hc => by
    obtain ⟨⟨f0, b1, hz, _⟩, hTI, ⟨x, y, hTO⟩, h1, h2⟩ := st
    have e' : c = N + 4 ∨ c = N + 2 ∨ c = N + 3 ∨ c = N ∨ c = N + 1 := by simpa using hc
    rcases e' with q | q | q | q | q
    · rw [q]; exact ⟨_, hz, fun v q => nomatch q⟩
    · rw [q]; exact ⟨_, hTI, fun v q => nomatch q⟩
    · rw [q]; exact ⟨_, hTO, fun v q => nomatch q⟩
    · rw [q]; exact h1.get
    · rw [q]; exact h2.get
  keep := fun i h h' st kp => by
    obtain ⟨⟨f0, b1, hz, hf⟩, hTI, ⟨x, y, hTO⟩, h1, h2⟩ := st
    exact ⟨⟨f0, b1, kp _ (by simp) _ hz, hf⟩, kp _ (by simp) _ hTI, ⟨x, y, kp _ (by simp) _ hTO⟩, h1.at fun o q => kp _ (by simp) o q, h2.at fun o q => kp _ (by simp) o q⟩
  item := by
    intro X hP hw hK hc i pins s σ H E I hf st hg
    subst hP hw hK
    obtain ⟨⟨f0, b1, hz, h0⟩, hTI, ⟨c1, c2, hTO⟩, h1, h2⟩ := st
    obtain ⟨xs, ys, x, y, hqx, hqy, hx, hy⟩ := hg
    obtain ⟨its, rv, p, _⟩ := seqB I hqx
    obtain ⟨its2, rv2, p2, _⟩ := seqB I hqy
    obtain ⟨u, hu, ru⟩ := rv.get hx
    obtain ⟨u2, hu2, ru2⟩ := rv2.get hy
    have D1 := draws_B (prog := X.prog) (w := X.w) (A := X.A.in1) (I.ok.hd hc) k N a (Nat.ne_of_lt ha) its.toArray
    have D2 := draws_B (prog := X.prog) (w := X.w) (A := X.A.in1) (I.ok.hd hc) k' (N + 1) b (Nat.ne_of_lt (Nat.lt_succ_of_lt hb)) its2.toArray
    have b1' := (List.getElem?_eq_some_iff.mp hu).1
    have b2' := (List.getElem?_eq_some_iff.mp hu2).1
    refine zg_next (zip_sep2 (N := N) (fp1 := [a]) (fp2 := [b]) (by simpa using ha) (by simpa using hb)) D1 D2 hz h0 hTI hTO ⟨h1, p⟩ ⟨h2, p2⟩ (by simpa using b1') (by simpa using b2') fun z z2 h' tk f0' b1n d1 d2 hz1 hz2 hzz hf0 hTO' st1 st2 hT hk => ?_
    have ez : z = u := by
      have hz' : its.toArray[i]? = some z := hz1
      rw [List.getElem?_toArray, hu] at hz'
      exact (Option.some.inj hz').symm
    have ez2 : z2 = u2 := by
      have hz' : its2.toArray[i]? = some z2 := hz2
      rw [List.getElem?_toArray, hu2] at hz'
      exact (Option.some.inj hz').symm
    subst ez ez2
    have sub : ∀ c ∈ ([N + 4, N + 3, N, N + 1] : List Addr), c ∈ ([N + 4, N + 2, N + 3, N, N + 1] : List Addr) := by
      intro c hc
      have e' : c = N + 4 ∨ c = N + 3 ∨ c = N ∨ c = N + 1 := by simpa using hc
      rcases e' with q | q | q | q <;> rw [q] <;> simp
    have hk' : ∀ c o, c ∉ ([N + 4, N + 3, N, N + 1] : List Addr) → s.heap.get? c = some o → h'.get? c = some o := fun c o hc e => hk c o (fun x => hc (by simp [x])) (fun x => hc (by simp [x])) (fun x => hc (by simp [x])) (fun x => hc (by simp [x])) e
    have hTT : h'.IsTuple s.heap.objs.size #[z, z2] := ⟨_, hT, rfl, _, rfl⟩
    have I1 : Inv X pins σ (upd H s.heap.objs.size (.tup [x, y])) { s with heap := h', toks := tk } :=
      I.turnedNew (ch := [N + 4, N + 3, N, N + 1]) (fun b ob hb q => hk' b ob hb q) (fun c hc => hf c (sub c hc)) (Nat.le_refl _) (new_pair ru ru2 hTT)
    refine ⟨.ref s.heap.objs.size, rfl, ?_⟩
    show wpAny _ _ (pure ()) _ _ _
    refine wpAny_pure ⟨.ref s.heap.objs.size, _, I1, rfl, ⟨s.heap.objs.size, x, y, rfl, I.hok.fresh (Nat.le_refl _), rfl, fun l hl => by rw [seqB_inj I hl hqx]; exact hx, fun l hl => by rw [seqB_inj I hl hqy]; exact hy⟩, ⟨⟨_, _, hzz, hf0⟩, hk' _ _ (by simp) hTI, ⟨_, _, hTO'⟩, st1.1, st2.1⟩, fun c hc => ?_⟩
    have hlt : c < s.heap.objs.size := by
      have e' : c = N + 4 ∨ c = N + 2 ∨ c = N + 3 ∨ c = N ∨ c = N + 1 := by simpa using hc
      obtain ⟨_, g4, _⟩ := h1.get
      obtain ⟨_, g5, _⟩ := h2.get
      rcases e' with q | q | q | q | q
      · rw [q]; exact Heap.lt_size hz
      · rw [q]; exact Heap.lt_size hTI
      · rw [q]; exact Heap.lt_size hTO
      · rw [q]; exact Heap.lt_size g4
      · rw [q]; exact Heap.lt_size g5
    rw [upd_ne (Nat.ne_of_lt hlt)]
    exact (hf c hc).1
  done := by
    intro X hP hw hK hc i pins s σ H E I hf st hg
    subst hP hw hK
    obtain ⟨⟨f0, b1, hz, h0⟩, hTI, ⟨c1, c2, hTO⟩, h1, h2⟩ := st
    obtain ⟨xs, ys, hqx, hqy, hend⟩ := hg
    obtain ⟨its, rv, p, _⟩ := seqB I hqx
    obtain ⟨its2, rv2, p2, _⟩ := seqB I hqy
    have D1 := draws_B (prog := X.prog) (w := X.w) (A := X.A.in1) (I.ok.hd hc) k N a (Nat.ne_of_lt ha) its.toArray
    have D2 := draws_B (prog := X.prog) (w := X.w) (A := X.A.in1) (I.ok.hd hc) k' (N + 1) b (Nat.ne_of_lt (Nat.lt_succ_of_lt hb)) its2.toArray
    have en : min its.toArray.size its2.toArray.size = i := by rw [List.size_toArray, List.size_toArray, ← rv.length, ← rv2.length]; exact hend
    have sub : ∀ c ∈ ([N + 4, N + 3, N, N + 1] : List Addr), c ∈ ([N + 4, N + 2, N + 3, N, N + 1] : List Addr) := by
      intro c hc
      have e' : c = N + 4 ∨ c = N + 3 ∨ c = N ∨ c = N + 1 := by simpa using hc
      rcases e' with q | q | q | q <;> rw [q] <;> simp
    refine zg_stop (zip_sep2 (N := N) (fp1 := [a]) (fp2 := [b]) (by simpa using ha) (by simpa using hb)) D1 D2 hz h0 hTI hTO ⟨h1, p⟩ ⟨h2, p2⟩ (by omega) (by omega) (by omega) fun h' tk hk => ⟨rfl, I.turnedL (ch := [N + 4, N + 3, N, N + 1]) (fun c o hc e => hk c o (fun x => hc (by simp [x])) (fun x => hc (by simp [x])) (fun x => hc (by simp [x])) (fun x => hc (by simp [x])) e) fun c hc => hf c (sub c hc)⟩
  self := fun A i s Q E st h => by
    obtain ⟨⟨f0, b1, hz, _⟩, _⟩ := st
    exact zg_self hz h
theorem pi_zpN {X : Cx} {e e2 : Expr} {ta : TA} {p pos tpos : Pos} {nm : Str} (hg : Gl X "zip") (hm : X.mg "zip" = none) (ha : PA X [e, e2] ta)
    (hs : starEach [e, e2] X.env = (false, eval e X.env) :: starEach [e2] X.env := by rfl) (hpl : (backTo pos (starEach [e2] X.env)).any (·.1) = false := by rfl) : PI X (.Name nm tpos) (.Call (.Name "zip" p) [e, e2] [] pos) (iZpB X.K ta) := by
  refine ⟨fun pins s σ H R I h => ?_⟩
  refine Call_ (ld_blt I hg hm PyProof.Rows.boot_zip (PyProof.Rows.callWith_type1 (thn (ha.run pos pins s σ H _ I h) fun us s1 ⟨vs, H1, I1, r1, q1⟩ => ?_) hs hpl))
  obtain ⟨k, k', a, b, xs, ys, ex, hqx, hqy, q⟩ := q1
  subst ex
  obtain ⟨u1, u2, rfl, r1, r2⟩ := vals2 r1
  cases (show u1 = Value.ref a from r1)
  cases (show u2 = Value.ref b from r2)
  obtain ⟨its, rv, p1, hl1⟩ := seqB I1 hqx
  obtain ⟨its2, rv2, p2, hl2⟩ := seqB I1 hqy
  refine zip_begins2 (begins_B k a its.toArray) (begins_B k' b its2.toArray) p1 p2 fun h' hz hTI hTO g1 g2 hsz hk => wpAny_pyIter_zip hz ?_
  have I2 : Inv X pins σ H1 { s1 with heap := h' } := I1.kept (t' := s1.toks) hk
  refine ⟨s1.heap.objs.size + 4, _, _, _, H1, rfl, I2, turn_zpG k k' a b s1.heap.objs.size hl1 hl2, ⟨⟨_, _, hz, .inl rfl⟩, hTI, ⟨_, _, hTO⟩, .new g1, .new g2⟩, fun c hc => ?_, q⟩
  have e' : c = s1.heap.objs.size + 4 ∨ c = s1.heap.objs.size + 2 ∨ c = s1.heap.objs.size + 3 ∨ c = s1.heap.objs.size ∨ c = s1.heap.objs.size + 1 := by simpa using hc
  have hle : s1.heap.objs.size ≤ c := by
    rcases e' with z | z | z | z | z <;> rw [z] <;> first | exact Nat.le_refl _ | exact Nat.le_add_right _ _
  exact I1.fpOk hle (I1.hok.fresh hle)
section
variable {X : Cx} {e e2 : Expr} {g : AF} {p pos tpos : Pos} {nm : Str}
theorem okI_zipN (hg : Gl X "zip") (hm : X.mg "zip" = none) (ha : OkA X [e, e2] g) (hs : starEach [e, e2] X.env = (false, eval e X.env) :: starEach [e2] X.env := by rfl) (hpl : (backTo pos (starEach [e2] X.env)).any (·.1) = false := by rfl) :
    OkI X (.Name nm tpos) (.Call (.Name "zip" p) [e, e2] [] pos) (iZip g) :=
  ⟨pi_imp (pi_zpN hg hm ha hs hpl) fun σ H Q ⟨t, S, ρ, ds, ρ', R, e, k⟩ => by
    obtain ⟨rs, ρ1, q1, e⟩ := ob_some e
    obtain ⟨ds', ρ2, q2, e⟩ := ob_some e
    obtain ⟨d, d', q3, e⟩ := ob_some e
    obtain ⟨xs, q4, e⟩ := ol_some e
    obtain ⟨ys, q5, e⟩ := ol_some e
    cases e
    refine ⟨t, S, ρ, rs, ρ1, R, q1, fun vs H1 S1 R1 s1 o1 => ?_⟩
    obtain ⟨S2, s2, R2, d2⟩ := R1.stos o1 q2
    unfold two2 at q3
    split at q3
    · cases q3
      cases d2 with
      | cons h1 h2 =>
        cases h2 with
        | cons h2 h3 =>
          cases h3
          obtain ⟨a, us, rfl, g1, g2⟩ := seq_at h1 q4
          obtain ⟨b, ws, rfl, g3, g4⟩ := seq_at h2 q5
          exact ⟨_, _, a, b, us, ws, rfl, g2 H1 R2.sh, g4 H1 R2.sh, k _ H1 S2 R2 (s1.trans s2) (walkD_zip g2 g4 g1 g3)⟩
    · cases q3⟩
end
end DL
/-! The data layer 19: set(xs), sorted(set(xs)), len(set(xs)). -/
namespace DL
open PySem L2 PySem.Spec PySem.W PyProof PyProof.Rows
section
variable {prog : Program} {w : World} {A : Around} {R : Result → Shared → Prop} {I : Addr} {fp wr : List Addr} {G : Array GenState → Array GenState → Prop} {n : Nat} {P : Nat → Value → Prop} {St : Nat → Shared → Prop}
/-- what a set holds after i items: Z i -/
structure SetZ (prog : Program) (w : World) (S : Addr) (P : Nat → Value → Prop) (Z : Nat → Heap → Prop) : Prop where
  keep : ∀ i h h', Z i h → (∀ o, h.get? S = some o → h'.get? S = some o) → Z i h'
  add : ∀ (A : Around) i v (s : Shared) (Q : Bool → Shared → Prop) (E : Value → Shared → Prop), P i v → Z i s.heap → (∀ r h' tk, Heap.SameBut S s.heap h' → s.toks ≤ tk → Z (i + 1) h' → Q r { s with heap := h', toks := tk }) → wpAny (model prog w) A (setAdd S v) Q E s
theorem upd_loop (W : WalksS prog w A.in1 I fp wr G n P St) (S : Addr) (hSf : S ∉ fp) {Z : Nat → Heap → Prop} (zz : SetZ prog w S P Z) :
    ∀ (k i : Nat) (s : Shared), n - i = k → i ≤ n → St i s → Z i s.heap → (∀ s', Moved (S :: wr) G s s' → Z n s'.heap → R (.ok (.ret .none)) s') →
      codeAny (model prog w) A (.builtin "set.update.loop" ⟨[.ref S, .ref I], []⟩) R s := by
  have hSw : S ∉ wr := fun h => hSf (W.sub _ h)
  have hsub : ∀ b ∈ wr, b ∈ S :: wr := fun b hb => List.mem_cons_of_mem _ hb
  intro k
  induction k with
  | zero =>
    intro i s hk hi hst hS hR
    have hin : i = n := by omega
    subst hin
    refine codeAny_builtin F.entry_set_update_loop ?_
    rw [Around.under_plainId F.plain_set_update_loop _]
    show wpAny _ A.in1 (pyNext (.ref I) >>= _) _ _ s
    refine wpAny_bind (W.done s _ _ hst fun s' hm => ?_)
    show wpAny _ A.in1 (ret Value.none) _ _ s'
    exact wpAny_pure (hR s' (hm.mono hsub) (zz.keep _ _ _ hS fun o e => hm.heap S _ hSw e))
  | succ k ih =>
    intro i s hk hi hst hS hR
    have hlt : i < n := by omega
    refine codeAny_builtin F.entry_set_update_loop ?_
    rw [Around.under_plainId F.plain_set_update_loop _]
    show wpAny _ A.in1 (pyNext (.ref I) >>= _) _ _ s
    refine wpAny_bind (W.item i s _ _ hlt hst fun v s' hP hst' hm => ?_)
    have hS' := zz.keep _ _ s'.heap hS fun o e => hm.heap S _ hSw e
    show wpAny _ A.in1 (holding [v] (setAdd S v) >>= _) _ _ s'
    refine wpAny_bind (wpAny_holding ?_)
    refine zz.add _ i v s' _ _ hP hS' fun r h' tk hsb htk hS2 => ?_
    refine wpAny_pure ⟨plainId_quiet F.plain_set_update_loop _, ih (i + 1) _ (by omega) hlt (W.frame _ s' _ _ hst' htk fun b hb o e => ?_) hS2 fun s'' hm'' hS'' => ?_⟩
    · rw [hsb.2 b (fun h : b = S => hSf (by rw [← h]; exact hb))]; exact e
    · refine hR s'' (Moved.trans W.gtrans ((hm.mono hsub).then_heap htk fun b o hb e => ?_) hm'') hS''
      rw [hsb.2 b (fun h : b = S => hb (by rw [h]; exact List.mem_cons_self))]; exact e
end

/-- a new set -/
abbrev freshS (w : World) : Obj := { cls := .type "set", dict := none, data := .set #[] 0 (.fresh 0 0 (!w.params.followText "set-order")) }
section
variable {prog : Program} {w : World} {A : Around} {E : Value → Shared → Prop} {s : Shared}
set_option maxHeartbeats 3200000 in
theorem call_set_Z {l : Addr} {items : Array Value} {Z : Nat → Heap → Prop} {Q : Value → Shared → Prop} (hh : A.handled = none) (hl : s.heap.IsList l items)
    (zz : SetZ prog w s.heap.objs.size (fun i v => items[i]? = some v) Z) (z0 : ∀ h' : Heap, h'.get? s.heap.objs.size = some (freshS w) → Z 0 h')
    (h : ∀ (h' : Heap) (tk : Nat), Z items.size h' → (∀ b o, s.heap.get? b = some o → h'.get? b = some o) → Q (.ref s.heap.objs.size) { s with heap := h', toks := tk }) :
    wpAny (model prog w) A (call (.type "set") [.ref l]) Q E s := by
  obtain ⟨c, tl, hmro⟩ := PySem.F.called_set.mro
  have hmade := PySem.F.called_set.made
  have hsub := PySem.F.called_set.sub
  refine wpAny_call (codeAny_of_tree ?_)
  show wpAny _ _ (callAny (.type "set") _) _ _ _
  refine wpAny_pure ⟨Code.quiet_builtin _ (by decide +kernel), codeAny_builtin PySem.F.entry_type_call ?_⟩
  rw [Around.under_plain (weight_type_call_type "set" [.ref l] []) rfl]
  have h1 := PySem.F.called_set.notType
  have h2 := PySem.F.called_set.canCreate
  have hct := PySem.F.typeCall_set_1 (.ref l)
  repeat (any_goals (first | assumption | wp_step))
  refine codeAny_mono (L2.code_set_led1 (.ref l) (E := E) (Q₁ := fun obj s₁ => obj = .ref s.heap.objs.size ∧ s₁ = { s with heap := s.heap.push (freshS w) }) ⟨rfl, rfl⟩) fun r s₁ hr => ?_
  cases r with
  | error e => exact hr
  | ok fl =>
    cases fl with
    | ret obj =>
      obtain ⟨rfl, rfl⟩ := hr
      have hS : (s.heap.push (freshS w)).get? s.heap.objs.size = some (freshS w) := Heap.get?_push_size _ rfl
      have hT : Shared.TypeIs { s with heap := s.heap.push (freshS w) } (.ref s.heap.objs.size) "set" := ⟨_, hS, rfl⟩
      have hli := PySem.F.called_set.init.lookup
      have hbi := PySem.F.called_set.init.bind (.ref s.heap.objs.size)
      repeat (any_goals (first | assumption | wp_step))
      refine codeAny_mono (codeAny_call_builtin (R := wants (fun r s₂ => r = .none ∧ ∃ h' tk, s₂ = { s with heap := h', toks := tk } ∧ Z items.size h' ∧
          (∀ b o, s.heap.get? b = some o → h'.get? b = some o)) E) PySem.F.called_set.init.plain PySem.F.entry_set_init (check_set_init_1 hT ?_)) fun r₂ s₂ hr₂ => ?_
      · obtain ⟨ol, hol, hcl, nl, hdl⟩ := hl
        obtain ⟨ocls, odict, odata, oslots⟩ := ol
        simp only at hcl hdl
        subst hcl; subst hdl
        have hol' : (s.heap.push (freshS w)).get? l = some { cls := .type "list", dict := odict, data := .seq items nl, slots := oslots } := Heap.get?_push_of_some _ hol
        have hsls := PySem.F.sub_list_set
        have hslf := PySem.F.sub_list_frozenset
        have hne : (Value.type "list" == Value.type "dict") = false := by decide
        have hl1 : (s.heap.push (freshS w)).IsList l items := ⟨_, hol', rfl, nl, rfl⟩
        unfold Builtin.«set.__init__» noKeywords Builtin.Frozenset.updateFrom
        generalize hPI : pyIter = PI
        wp_walk
        subst hPI
        refine wpAny_pyIter_list hl1 ?_
        refine wpAny_bind (wpAny_runValue ?_)
        have hlS : l < s.heap.objs.size := Heap.lt_size hol
        have hh3 : A.in1.in1.in1.handled = none := by simp [hh]
        have hneI : l ≠ (s.heap.push (freshS w)).objs.size := by
          rw [Heap.size_push]; exact Nat.ne_of_lt (Nat.lt_succ_of_lt hlS)
        have hSf : s.heap.objs.size ∉ [(s.heap.push (freshS w)).objs.size, l] := by
          rw [Heap.size_push]; simp only [List.mem_cons, List.mem_singleton, List.not_mem_nil, or_false, not_or]
          exact ⟨Nat.ne_of_lt (Nat.lt_succ_self _), Nat.ne_of_gt hlS⟩
        refine upd_loop ((Walks.list hh3 _ l hneI items).toS) s.heap.objs.size hSf zz (items.size - 0) 0 _ (by omega) (Nat.zero_le _)
          ⟨⟨_, Heap.get?_push_size _ rfl, rfl, rfl⟩, (hl1.push _)⟩ ?hS0 ?hR
        case hS0 => exact z0 _ (Heap.get?_push_of_some _ hS)
        case hR =>
          intro s' hm hS'
          obtain ⟨h', g2, d', tk', os'⟩ := s'
          have eg : g2 = s.gens := hm.gens
          have ed : d' = s.drawn := hm.drawn
          have eo : os' = s.os := hm.os
          subst eg; subst ed; subst eo
          show wpAny _ _ _ _ _ _
          refine wpAny_pure ?_
          show wpAny _ _ (ret Value.none) _ _ _
          refine wpAny_pure ⟨rfl, h', tk', rfl, hS', fun b o e => ?_⟩
          have hb0 : b < s.heap.objs.size := Heap.lt_size e
          have hb1 : b ≠ s.heap.objs.size := Nat.ne_of_lt hb0
          have hb2 : b ≠ (s.heap.push (freshS w)).objs.size := by
            rw [Heap.size_push]; exact Nat.ne_of_lt (Nat.lt_succ_of_lt hb0)
          exact hm.heap b o (by simp only [List.mem_cons, List.mem_singleton, List.not_mem_nil, or_false, not_or]; exact ⟨hb1, hb2⟩) (Heap.get?_push_of_some _ (Heap.get?_push_of_some _ e))
      · cases r₂ with
        | error e => exact hr₂
        | ok fl₂ =>
          cases fl₂ with
          | ret r =>
            obtain ⟨rfl, h', tk, rfl, hS', hk'⟩ := hr₂
            repeat (any_goals (first | assumption | wp_step))
            exact h _ _ hS' hk'
          | _ => exact hr₂.elim
    | _ => exact hr.elim
end
end DL
/-! The data layer 20: sorted(set(ints)), len(set(keys)). -/
namespace DL
open PySem L2 PySem.Spec PySem.W PyProof PyProof.Rows
def dedI (ns : List Int) : List Int := ns.foldl step_dedup []
theorem dedI_snoc (ns : List Int) (k : Int) : dedI (ns ++ [k]) = step_dedup (dedI ns) k := by
  unfold dedI
  rw [List.foldl_append]
  rfl
theorem fold_ge : ∀ (ms σ : List Int), σ.length ≤ (ms.foldl step_dedup σ).length
  | [], σ => Nat.le_refl _
  | m :: ms, σ => by
    have h := fold_ge ms (step_dedup σ m)
    have h2 := step_length σ m
    rw [List.foldl_cons]
    split at h2 <;> omega
theorem dedI_take (ns : List Int) (i : Nat) : (dedI (ns.take i)).length ≤ (dedI ns).length := by
  conv => rhs; rw [← List.take_append_drop i ns]
  unfold dedI
  rw [List.foldl_append]
  exact fold_ge _ _
theorem take_snoc {α : Type} {ns : List α} {i : Nat} (h : i < ns.length) : ns.take (i + 1) = ns.take i ++ [ns[i]] := by
  rw [List.take_succ, List.getElem?_eq_getElem h]
  rfl
theorem memK_ins (acc : List Key) (c : Key) : (fun j => memK acc j || decide (j = c)) = memK (insK acc c) := by
  funext j
  unfold insK
  by_cases h : memK acc c = true
  · rw [if_pos h]
    by_cases hj : j = c
    · subst hj; simp [h]
    · simp [hj]
  · rw [if_neg h]
    unfold memK
    simp
theorem len_ins (acc : List Key) (c : Key) : (if memK acc c = true then acc.length else acc.length + 1) = (insK acc c).length := by
  unfold insK
  by_cases h : memK acc c = true
  · rw [if_pos h, if_pos h]
  · rw [if_neg h, if_neg h, List.length_append, List.length_singleton]
section
variable {prog : Program} {w : World} {S : Addr} {items : Array Value}
theorem setZ_ints {ns : List Int} (hi : IntsAre items.toList ns) (hb : (dedI ns).length + 1 < scanBound) :
    SetZ prog w S (fun i v => items[i]? = some v) (fun i h => SetR w h S (fun k => (dedI (ns.take i)).any (· == k)) (dedI (ns.take i)).length) where
  keep i h h' R k := R.at k
  add A i v s Q E hv hZ k := by
    obtain ⟨t, rfl⟩ := IntsAre.int_at hi i v (by rw [Array.getElem?_toList]; exact hv)
    have hlt : i < ns.length := by rw [← IntsAre.length hi, Array.length_toList]; exact (Array.getElem?_eq_some_iff.mp hv).1
    have eg : ns.getD i 0 = ns[i] := by rw [List.getD_eq_getElem?_getD, List.getElem?_eq_getElem hlt]; rfl
    have ed : dedI (ns.take (i + 1)) = step_dedup (dedI (ns.take i)) (ns.getD i 0) := by rw [take_snoc hlt, dedI_snoc, eg]
    unfold setAdd
    refine wpAny_holding ?_
    refine wpAny_bind ((intKind prog w).pyHash (k := ns.getD i 0) (intKind_is _ _ _ _) ?_)
    refine setR_add_hashed (P := prog) (s := { s with toks := s.toks + 1 }) hZ (Nat.lt_of_le_of_lt (Nat.succ_le_succ (dedI_take ns i)) hb) fun h' sb R => ?_
    refine k _ h' _ sb (Nat.le_succ _) ?_
    have el : (if (dedI (ns.take i)).any (· == ns.getD i 0) = true then (dedI (ns.take i)).length else (dedI (ns.take i)).length + 1) = (dedI (ns.take (i + 1))).length := by
      rw [ed, step_length]
    rw [← el]
    exact R.congr fun k' => by rw [ed, step_any]
theorem setZ_keys {ks : List Key} {xs : List V} (hx : xs = ks.map kV) (hv : Vals xs items.toList) (hb : ks.length + 1 < scanBound) :
    SetZ prog w S (fun i v => items[i]? = some v) (fun i h => h.SetOf (mixKind prog w) S (memK ((ks.take i).foldl insK [])) ((ks.take i).foldl insK []).length) where
  keep i h h' R k := setOf_at R k
  add A i v s Q E hi hZ k := by
    have hlen : ks.length = items.size := by rw [← Array.length_toList, ← hv.length, hx, List.length_map]
    have hlt : i < ks.length := by rw [hlen]; exact (Array.getElem?_eq_some_iff.mp hi).1
    have rv : RelV (kV ks[i]) v := by
      obtain ⟨u, hu, ru⟩ := hv.get (i := i) (x := kV ks[i]) (by rw [hx, List.getElem?_map, List.getElem?_eq_getElem hlt]; rfl)
      rw [Array.getElem?_toList, hi] at hu
      cases hu
      exact ru
    have ed : (ks.take (i + 1)).foldl insK [] = insK ((ks.take i).foldl insK []) ks[i] := by rw [take_snoc hlt, List.foldl_append]; rfl
    have hle : ∀ (l acc : List Key), (l.foldl insK acc).length ≤ acc.length + l.length := by
      intro l
      induction l with
      | nil => intro acc; simp
      | cons a l ih =>
        intro acc
        have h1 := ih (insK acc a)
        have h2 := insK_len acc a
        simp only [List.foldl_cons, List.length_cons]
        omega
    have hroom : ((ks.take i).foldl insK []).length + 1 < scanBound := by
      have := hle (ks.take i) []
      rw [List.length_take] at this
      simp only [List.length_nil] at this
      omega
    unfold setAdd
    refine wpAny_holding ?_
    refine wpAny_bind ((mixKind prog w).pyHash (k := ks[i]) (kV_is rv) ?_)
    refine wpAny_setAddHashed_of (knd := mixKind prog w) (s := { s with toks := s.toks + 1 }) (kV_is rv) (key_scan rv) hZ hroom fun h' sb R => ?_
    refine k _ h' _ sb (Nat.le_succ _) ?_
    rw [ed]
    rw [← memK_ins, ← len_ins]
    exact R
end
section
variable {X : Cx}
/-- set(xs), xs a list of ints with not too many different -/
def rSetI (K : PySem.W.Frag) (w : World) : List V → Hp → VK → Prop := fun xs H Q => ∃ (a : Addr) (ns : List Int), xs = [.ref a] ∧ SqL K H a (ns.map V.int) ∧ (dedI ns).length + 1 < scanBound ∧
  ∀ p, H p = none → Q (.ref p) (upd H p (SetO w p (fun k => (dedI ns).any (· == k)) (dedI ns).length))
theorem cr_setI (hc : X.calm = true) : CallR X (.type "set") (rSetI X.K X.w) := by
  intro pins s σ H xs us Q I r h
  obtain ⟨a, ns, rfl, hs, hb, q⟩ := h
  rw [Vals.ref1 r]
  obtain ⟨its, rv, pl, hz⟩ := I.list hs
  have hi : IntsAre its ns := intsAre_of rv
  have hsz : its.toArray.size = ns.length := by rw [List.size_toArray]; exact IntsAre.length hi
  refine call_set_Z (I.ok.hd hc) pl.isList (setZ_ints (prog := X.prog) (by simpa using hi) hb) (fun h' e => ⟨_, #[], 0, _, e, ⟨rfl, rfl, rfl⟩, rfl, (fun e he => by simp at he), (by simp), (fun k => by simp [dedI]), (by decide), (by rfl), rfl, List.Pairwise.nil, by
    show _ ∨ (!X.w.params.followText "set-order") = true
    cases X.w.params.followText "set-order"
    · exact .inr rfl
    · exact .inl rfl⟩) fun h' tk hS hk => ?_
  rw [hsz, List.take_length] at hS
  exact ⟨.ref s.heap.objs.size, upd H s.heap.objs.size (SetO X.w s.heap.objs.size (fun k => (dedI ns).any (· == k)) (dedI ns).length), I.laid (t' := tk) hk (Nat.le_refl _) (setO_new hS), rfl, q _ (I.hok.fresh (Nat.le_refl _))⟩
/-- set(xs), xs a list of keys -/
def rSetKs (K : PySem.W.Frag) (P : Program) (w : World) : List V → Hp → VK → Prop := fun xs H Q => ∃ (a : Addr) (ks : List Key), xs = [.ref a] ∧ SqL K H a (ks.map kV) ∧ ks.length + 1 < scanBound ∧
  ∀ p, H p = none → Q (.ref p) (upd H p (SetK P w p (memK (ks.foldl insK [])) (ks.foldl insK []).length))
theorem cr_setK (hc : X.calm = true) : CallR X (.type "set") (rSetKs X.K X.prog X.w) := by
  intro pins s σ H xs us Q I r h
  obtain ⟨a, ks, rfl, hs, hb, q⟩ := h
  rw [Vals.ref1 r]
  obtain ⟨its, rv, pl, hz⟩ := I.list hs
  have hsz : its.toArray.size = ks.length := by rw [List.size_toArray, ← rv.length, List.length_map]
  refine call_set_Z (I.ok.hd hc) pl.isList (setZ_keys (prog := X.prog) rfl (by simpa using rv) hb) (fun h' e => ⟨_, #[], 0, _, e, ⟨rfl, rfl, rfl⟩, rfl, (fun e he => by simp at he), (fun k => by simp [memK]), (by decide), (by rfl), rfl⟩) fun h' tk hS hk => ?_
  rw [hsz, List.take_length] at hS
  exact ⟨.ref s.heap.objs.size, upd H s.heap.objs.size (SetK X.prog X.w s.heap.objs.size (memK (ks.foldl insK [])) (ks.foldl insK []).length), I.laid (t' := tk) hk (Nat.le_refl _) (setK_new hS), rfl, q _ (I.hok.fresh (Nat.le_refl _))⟩
end
/-! ### sorted(set(xs)) -/
def insI (k : Int) : List Int → List Int
  | [] => [k]
  | x :: r => if k < x then k :: x :: r else if k = x then x :: r else x :: insI k r
def srtI (ns : List Int) : List Int := ns.foldr insI []
theorem mem_insI {k j : Int} : ∀ {l : List Int}, j ∈ insI k l ↔ j = k ∨ j ∈ l
  | [] => by simp [insI]
  | x :: r => by
    unfold insI
    split
    · simp
    · split
      · rename_i h
        subst h
        simp
      · rw [List.mem_cons, mem_insI, List.mem_cons]
        constructor
        · rintro (h | h | h) <;> simp [h]
        · rintro (h | h | h) <;> simp [h]
theorem pw_insI {k : Int} : ∀ {l : List Int}, l.Pairwise (· < ·) → (insI k l).Pairwise (· < ·)
  | [], _ => by simp [insI]
  | x :: r, h => by
    have hc := List.pairwise_cons.1 h
    unfold insI
    split
    · rename_i hk
      refine List.pairwise_cons.2 ⟨fun y hy => ?_, h⟩
      rcases List.mem_cons.1 hy with rfl | hy
      · exact hk
      · have := hc.1 y hy; omega
    · split
      · exact h
      · refine List.pairwise_cons.2 ⟨fun y hy => ?_, pw_insI hc.2⟩
        rcases mem_insI.1 hy with rfl | hy
        · omega
        · exact hc.1 y hy
theorem mem_srtI {j : Int} : ∀ {ns : List Int}, j ∈ srtI ns ↔ j ∈ ns
  | [] => by simp [srtI]
  | x :: r => by
    show j ∈ insI x (srtI r) ↔ _
    rw [mem_insI, mem_srtI, List.mem_cons]
theorem pw_srtI : ∀ ns : List Int, (srtI ns).Pairwise (· < ·)
  | [] => by simp [srtI]
  | x :: r => pw_insI (pw_srtI r)
theorem ris_uniq : ∀ {a b : List Int}, a.Pairwise (· < ·) → b.Pairwise (· < ·) → (∀ k, k ∈ a ↔ k ∈ b) → a = b
  | [], [], _, _, _ => rfl
  | [], y :: b, _, _, h => absurd ((h y).2 (by simp)) (by simp)
  | x :: a, [], _, _, h => absurd ((h x).1 (by simp)) (by simp)
  | x :: a, y :: b, ha, hb, h => by
    have ca := List.pairwise_cons.1 ha
    have cb := List.pairwise_cons.1 hb
    have exy : x = y := by
      rcases List.mem_cons.1 ((h x).1 (by simp)) with e | e
      · exact e
      · rcases List.mem_cons.1 ((h y).2 (by simp)) with e2 | e2
        · exact e2.symm
        · have := ca.1 y e2
          have := cb.1 x e
          omega
    subst exy
    congr 1
    refine ris_uniq ca.2 cb.2 fun k => ⟨fun hk => ?_, fun hk => ?_⟩
    · rcases List.mem_cons.1 ((h k).1 (by simp [hk])) with e | e
      · have := ca.1 k hk; omega
      · exact e
    · rcases List.mem_cons.1 ((h k).2 (by simp [hk])) with e | e
      · have := cb.1 k hk; omega
      · exact e
theorem mem_ded : ∀ (ns σ : List Int) (k : Int), (ns.foldl step_dedup σ).any (· == k) = (σ.any (· == k) || ns.any (· == k))
  | [], σ, k => by simp
  | n :: ns, σ, k => by
    rw [List.foldl_cons, mem_ded ns, step_any, List.any_cons, Bool.or_assoc]
    congr 2
    by_cases h : k = n
    · subst h; simp
    · have h' : (n == k) = false := by simpa using fun e : n = k => h e.symm
      simp [h, h']
def sortSetD : List PyData → Option Rv
  | [.list xs] => ol (intsD xs) fun ns => if (dedI ns).length < 64 then some (.fr ((srtI ns).map .int)) else none
  | _ => none
@[simp] theorem sortSetD_l (xs : List PyData) : sortSetD [.list xs] = ol (intsD xs) fun ns => if (dedI ns).length < 64 then some (.fr ((srtI ns).map .int)) else none := rfl
theorem okSortSet {K : PySem.W.Frag} {w : World} : CallOk K (fun xs H Q => rSetI K w xs H fun x H1 => rSortedSet w [x] H1 Q) sortSetD := fun S H vs ds res ss h hf Q k => by
  unfold sortSetD at hf
  split at hf
  · obtain ⟨ns, q1, hf⟩ := ol_some hf
    split at hf
    · rename_i hc
      cases hf
      obtain ⟨v, rfl, hv⟩ := h.one
      obtain ⟨a, us, rfl, ha, da⟩ := hv.lst ss
      cases ints_of da q1
      refine ⟨a, ns, rfl, SqL.of ha, by unfold scanBound; omega, fun p hp => ⟨p, _, _, rfl, upd_same, hc, fun ms p2 hm hiff hl hp2 => ?_⟩⟩
      have em : ms = srtI ns := ris_uniq hm (pw_srtI ns) fun j => by
        rw [hiff, mem_srtI]
        show ((ns.foldl step_dedup []).any (· == j)) = true ↔ _
        rw [mem_ded]
        simp
      subst em
      have N1 : New S H S (upd H p (SetO w p (fun k => (dedI ns).any (· == k)) (dedI ns).length)) := New.lay ss hp
      have N2 := New.lay (o := .lst ((srtI ns).map V.int)) N1.sh hp2
      have h2 : H p2 = none := by
        cases q : H p2 with
        | none => rfl
        | some o => rw [N1.hh _ _ q] at hp2; cases hp2
      exact k _ _ _ (N1.trans N2) ⟨p2, _, rfl, h2, upd_same, ss.free h2, DaAll.ofInts⟩
    · cases hf
  · cases hf
/-! ### len(set(xs)) -/
def keyD : PyData → Option Key
  | .int i => some (.inl i)
  | .str x => some (.inr x)
  | _ => none
def keysD : List PyData → Option (List Key)
  | [] => some []
  | d :: ds => ol (keyD d) fun k => ol (keysD ds) fun ks => some (k :: ks)
theorem keys_of {K : PySem.W.Frag} {S : Hp} : ∀ {vs : List V} {xs : List PyData} {ks : List Key}, DaAll K S vs xs → keysD xs = some ks → vs = ks.map kV
  | _, [], _, .nil, e => by cases e; rfl
  | _, x :: xs, ks, .cons h r, e => by
    obtain ⟨k, q, e⟩ := ol_some (show ol (keyD x) (fun k => ol (keysD xs) fun ks => some (k :: ks)) = some ks from e)
    obtain ⟨ks', q2, e⟩ := ol_some e
    cases e
    rw [keys_of r q2]
    cases x with
    | int i => cases q; cases h; rfl
    | str i => cases q; cases h; rfl
    | _ => cases q
def lenSetD : List PyData → Option Rv
  | [.list xs] => ol (keysD xs) fun ks => if ks.length ≤ 1000 then some (.da (.int (ks.foldl insK []).length)) else none
  | _ => none
@[simp] theorem lenSetD_l (xs : List PyData) : lenSetD [.list xs] = ol (keysD xs) fun ks => if ks.length ≤ 1000 then some (.da (.int (ks.foldl insK []).length)) else none := rfl
theorem okLenSet {K : PySem.W.Frag} {P : Program} {w : World} : CallOk K (fun xs H Q => rSetKs K P w xs H fun x H1 => ∃ a S n, [x] = [V.ref a] ∧ H1 a = some (SetK P w a S n) ∧ Q (.int n) H1) lenSetD := fun S H vs ds res ss h hf Q k => by
  unfold lenSetD at hf
  split at hf
  · obtain ⟨ks, q1, hf⟩ := ol_some hf
    split at hf
    · rename_i hc
      cases hf
      obtain ⟨v, rfl, hv⟩ := h.one
      obtain ⟨a, us, rfl, ha, da⟩ := hv.lst ss
      cases keys_of da q1
      refine ⟨a, ks, rfl, SqL.of ha, by unfold scanBound; omega, fun p hp => ⟨p, _, _, rfl, upd_same, ?_⟩⟩
      exact k _ _ _ (New.lay ss hp) (.int _)
    · cases hf
  · cases hf
section
variable {X : Cx} {pos q p p2 : Pos} {e : Expr} {g : AF}
theorem ok_sortSet (hc : X.calm = true) (hg : Gl X "sorted") (hm : X.mg "sorted" = none) (hg2 : Gl X "set") (hm2 : X.mg "set" = none) (ha : OkA X [e] g)
    (na : starEach [e] X.env = (false, eval e X.env) :: starEach [] X.env := by rfl) : OkE X (.Call (.Name "sorted" p) [.Call (.Name "set" p2) [e] [] q] [] pos) (eCb sortSetD g) :=
  pe_imp (pe_callB (cr_sortedSet hc) hg hm (by decide +kernel) (pa_cons (pe_callTy (cr_setI hc) hg2 hm2 (by decide +kernel) ha (by decide) (by decide) na (by rfl)) pa_nil (by rfl)) (by decide) (by decide) (by rfl) (by rfl)) (rd_cb okSortSet)
theorem ok_lenSet (hc : X.calm = true) (hg : Gl X "len") (hm : X.mg "len" = none) (hg2 : Gl X "set") (hm2 : X.mg "set" = none) (ha : OkA X [e] g)
    (na : starEach [e] X.env = (false, eval e X.env) :: starEach [] X.env := by rfl) : OkE X (.Call (.Name "len" p) [.Call (.Name "set" p2) [e] [] q] [] pos) (eCb lenSetD g) :=
  pe_imp (pe_callB call_lenK hg hm (by decide +kernel) (pa_cons (pe_callTy (cr_setK hc) hg2 hm2 (by decide +kernel) ha (by decide) (by decide) na (by rfl)) pa_nil (by rfl)) (by decide) (by decide) (by rfl) (by rfl)) (rd_cb okLenSet)
end
end DL
set_option maxHeartbeats 4000000
/-! The data layer 21: a text so many times, a tuple once. -/
namespace DL
open PySem L2 PySem.Spec PySem.W PyProof PyProof.Rows
theorem tuple_mulW1 (l : Addr) (items : Array Value) (n : Nat) (dd : Option Addr) (sl : Array (Option Value)) (u : Tok) :
    Meets (Builtin.«tuple.__mul__» ⟨[.ref l, .int 1 u], []⟩) (fun _ R s => s.heap.get? l = some { cls := .type "tuple", dict := dd, data := .seq items n, slots := sl } ∧
      R (.ok (.ret (Value.ref l))) s) :=
  .of_wp fun prog w A R s h => by
    obtain ⟨hp, g, d, tk, os⟩ := s
    obtain ⟨hl, h⟩ := h
    have f1 := AutoSeq1.idx_int
    wp_walk using AutoSeq1.wpAny_loadPart' hl
    exact ⟨_, rfl, h⟩
/-- a tuple once is the tuple itself -/
def rRepT1 (K : PySem.W.Frag) : R2 := fun x y H Q => ∃ l xs, x = .ref l ∧ y = .int 1 ∧ SqT K H l xs ∧ Q x H
def repS (z : Str) (n : Nat) : Str := if n = 1 ∨ z.length = 0 then z else ⟨(List.replicate n z.cps).foldl (· ++ ·) #[]⟩
def rRepS : R2 := fun x y H Q => ∃ z k, x = .str z ∧ y = .int k ∧ 1 ≤ k ∧ k ≤ 1000 ∧ z.length ≤ 1000 ∧ Q (.str (repS z k.toNat)) H
theorem rep_size {α : Type} (a : Array α) : ∀ (n : Nat) (acc : Array α), ((List.replicate n a).foldl (· ++ ·) acc).size = acc.size + n * a.size
  | 0, acc => by simp
  | n + 1, acc => by
    rw [List.replicate_succ, List.foldl_cons, rep_size a n, Array.size_append, Nat.succ_mul]
    omega
section
variable {X : Cx}
theorem op_repT1 : OpR X (binaryOp .Mult) (rRepT1 X.K) := by
  intro pins s σ H x y v u Q I rx ry h
  obtain ⟨l, xs, rfl, rfl, hT, q⟩ := h
  cases rx
  obtain ⟨t, rfl⟩ := ry
  obtain ⟨its, r, ⟨⟨cls, dd, data, sl⟩, ho, hc, n, hd⟩, hs⟩ := I.tuple hT
  simp only at hc hd
  subst hc hd
  refine wpAny_binaryOp_repeat_ref (T := "tuple") (U := "int") (by decide) ⟨_, ho, rfl⟩ (fun s' => typeIs_int s' 1 t) noFill_tuple_mul F.fills_int_mul F.slot_int_rmul repeat_tuple F.slot_int_index.lookup
    (call_meets F.slot_int_rmul (typeIs_int s 1 t) F.entry_int_rmul (F.args_int_rmul_2 _ _) (int_rmul_tuple 1 t l its.toArray n dd sl)
      ⟨ho, rfl, ⟨_, ho, rfl⟩, call_meets F.slot_tuple_mul ⟨_, ho, rfl⟩ F.entry_tuple_mul (F.args_tuple_mul_2 _ _) (tuple_mulW1 l its.toArray n dd sl t) ⟨ho, ?_⟩⟩)
  exact ⟨.ref l, H, I, rfl, q⟩
theorem op_repS : OpR X (binaryOp .Mult) rRepS := by
  intro pins s σ H x y v u Q I rx ry h
  obtain ⟨z, k, rfl, rfl, h1, h2, hz, q⟩ := h
  obtain ⟨t, rfl⟩ := rx
  obtain ⟨t', rfl⟩ := ry
  have c0 : (decide (k < -(2 ^ 63)) || decide (k ≥ 2 ^ 63)) = false := by
    rw [decide_eq_false (by omega), decide_eq_false (by omega)] <;> rfl
  have hb : ((z.length : Nat) : Int) ≤ (2 ^ 63 - 1) / k := by
    have e1 : ((z.length : Nat) : Int) ≤ 1000 := by omega
    have e2 : (1000 : Int) ≤ (2 ^ 63 - 1) / k := (Int.le_ediv_iff_mul_le (by omega)).2 (by omega)
    omega
  have hl : Builtin.Str.tooLong (z.length * k.toNat) = false := by
    unfold Builtin.Str.tooLong
    have a1 : z.length * k.toNat ≤ 1000 * 1000 := Nat.mul_le_mul hz (by omega)
    rw [sizeLine_eq]
    exact decide_eq_false (by omega)
  refine P.mul_str c0 (fun _ _ => by omega) (fun _ _ => hl) ?_
  rw [if_neg (by omega)]
  by_cases hc : (k == 1 || z.length == 0) = true
  · rw [if_pos hc]
    have e : repS z k.toNat = z := by
      unfold repS
      rw [if_pos]
      rw [Bool.or_eq_true, beq_iff_eq, beq_iff_eq] at hc
      rcases hc with hc | hc
      · exact .inl (by omega)
      · exact .inr hc
    rw [e] at q
    exact ⟨.str z, H, I, ⟨t, rfl⟩, q⟩
  · rw [if_neg hc]
    have e : repS z k.toNat = ⟨(List.replicate k.toNat z.cps).foldl (· ++ ·) #[]⟩ := by
      unfold repS
      rw [if_neg]
      intro h
      apply hc
      rw [Bool.or_eq_true, beq_iff_eq, beq_iff_eq]
      rcases h with h | h
      · exact .inl (by omega)
      · exact .inr h
    rw [e] at q
    refine ⟨?_, .str ⟨(List.replicate k.toNat z.cps).foldl (· ++ ·) #[]⟩, H, I.tok _, ⟨_, rfl⟩, q⟩
    show ((List.replicate k.toNat z.cps).foldl (· ++ ·) #[]).size ≤ sizeLine
    rw [rep_size]
    have a1 : k.toNat * z.cps.size ≤ 1000 * 1000 := Nat.mul_le_mul (by omega) hz
    rw [sizeLine_eq]
    simp only [List.size_toArray, List.length_nil]
    omega
end
/-- as mulU, also a text so many times and a tuple once -/
def mulV : PyData → PyData → Option Rv
  | .str z, .int k => if 1 ≤ k ∧ k ≤ 1000 ∧ z.length ≤ 1000 then some (.da (.str (repS z k.toNat))) else none
  | .tuple xs, .int k => if k = 1 then some (.da (.tuple xs)) else mulU (.tuple xs) (.int k)
  | x, y => mulU x y
abbrev rMulV (K : PySem.W.Frag) : R2 := fun x y H Q => rMulU K x y H Q ∨ (rRepS x y H Q ∨ rRepT1 K x y H Q)
theorem opMulV {X : Cx} : OpR X (binaryOp .Mult) (rMulV X.K) := opMulU.or (op_repS.or op_repT1)
theorem okMulV {K : PySem.W.Frag} : OpOk K (rMulV K) mulV := fun S H x y d e res ss hx hy hf Q k => by
  unfold mulV at hf
  split at hf
  · split at hf
    · rename_i h
      cases hf
      exact .inr (.inl ⟨_, _, hx.str, hy.int, h.1, h.2.1, h.2.2, k _ H S (New.refl ss) (.str _)⟩)
    · cases hf
  · split at hf
    · rename_i h
      subst h
      cases hf
      obtain ⟨a, vs, rfl, ha, da⟩ := hx.tup
      exact .inr (.inr ⟨a, vs, rfl, hy.int, SqT.of (ss _ _ ha), k _ H S (New.refl ss) (.tup ha da)⟩)
    · exact .inl (okMulU S H _ _ _ _ res ss hx hy hf Q k)
  · exact .inl (okMulU S H _ _ _ _ res ss hx hy hf Q k)
@[simp] theorem mulV_ii (i j : Int) : mulV (.int i) (.int j) = if CMulB i j = true then some (.da (.int (i * j))) else none := rfl
@[simp] theorem mulV_ti (a : List PyData) (j : Int) : mulV (.tuple a) (.int j) = if j = 1 then some (.da (.tuple a)) else mulU (.tuple a) (.int j) := rfl
@[simp] theorem mulV_li (a : List PyData) (j : Int) : mulV (.list a) (.int j) = mulU (.list a) (.int j) := rfl
@[simp] theorem mulV_si (z : Str) (j : Int) : mulV (.str z) (.int j) = if 1 ≤ j ∧ j ≤ 1000 ∧ z.length ≤ 1000 then some (.da (.str (repS z j.toNat))) else none := rfl
end DL
/-! The data layer 22: xs += [e for t in xs] (the list walked is the frame's own). -/
namespace DL
open PySem L2 PySem.Spec PySem.W PyProof PyProof.Rows
structure WalkB (K : PySem.W.Frag) (J : It) (t : Et) (S : Hp) (ds : List PyData) : Prop where
  go : ∀ i S2 H2, Same S S2 → Same S2 H2 → OB K t H2 → i < ds.length → J.go i H2
  yl : ∀ i S2 H2 x H3, Same S S2 → Same S2 H2 → OB K t H2 → i < ds.length → J.yld i H2 x H3 → ∃ S3 d, New S2 H2 S3 H3 ∧ ds[i]? = some d ∧ Da K S3 x d
  st : ∀ S2 H2, Same S S2 → Same S2 H2 → OB K t H2 → J.stop ds.length H2
theorem walkB_own {K : PySem.W.Frag} {t : Et} {S : Hp} {a : Addr} {vs : List V} {ds : List PyData} (ha : t.B a = some (.lst vs)) (n : ¬ t.lk a) (h : DaAll K S vs ds) : WalkB K (Itl K a) t S ds := by
  have hl := h.length
  refine ⟨fun i S2 H2 s1 s2 s3 hi => ?_, fun i S2 H2 x H3 s1 s2 s3 hi y => ?_, fun S2 H2 s1 s2 s3 => ?_⟩
  · exact ⟨vs, vs[i], SqL.of (s3.get ha n), by simp [hl, hi]⟩
  · obtain ⟨e, y⟩ := y
    subst e
    obtain ⟨d, e1, e2⟩ := h.get (y vs (SqL.of (s3.get ha n)))
    exact ⟨S2, d, New.refl s2, e1, e2.mono s1⟩
  · exact ⟨vs, SqL.of (s3.get ha n), by rw [hl]; exact Nat.le_refl _⟩
section
variable {X : Cx} {K : PySem.W.Frag} {g : GF} {ws vs : List Nat} {ts : TF} {fe : EF}
/-- the turns of a comprehension -/
theorem lcWB {J : It} {t : Et} {S0 : Hp} {ds : List PyData} {res : List PyData} {ρe : En} {σ : L2.St} {D : Addr} {Q : Hp → Prop} {v : List Nat} (hw : ∀ j ∈ ws, j ∈ vs) (W : WalkB K J t S0 ds) (hsz : ds.length ≤ 16777216)
    (k : ∀ H S, Rep K t S H (wipe σ vs) ρe → Same S0 S → Grow K t S H (wipe σ vs) ρe D res → Q H) :
    ∀ (m i : Nat) (H S : Hp) (ρ : En) (acc : List PyData), i + m = ds.length → acc.length ≤ i → Rep K t S H (wipe σ vs) ρ → Same S0 S → Grow K t S H (wipe σ vs) ρ D acc → lcL g ts fe vs (ds.drop i) ρ acc = some (res, ρe) →
      (m = 0 → J.stop i H ∧ Q H) ∧ (0 < m → J.go i H ∧ ∀ x H', J.yld i H x H' → rdG K ws g x (wipe σ vs) H' fun σ2 H2 => wipe σ2 vs = wipe σ vs ∧ rdT K ts σ2 H2 fun b H3 =>
        if b = true then rdE K fe σ2 H3 fun y H4 => ∃ acc', H4 D = some (.lst acc') ∧ acc'.length < sizeLine ∧
          (∃ S' ρ' acc2, acc2.length ≤ i + 1 ∧ Rep K t S' (upd H4 D (.lst (acc' ++ [y]))) (wipe σ vs) ρ' ∧ Same S0 S' ∧ Grow K t S' (upd H4 D (.lst (acc' ++ [y]))) (wipe σ vs) ρ' D acc2 ∧ lcL g ts fe vs (ds.drop (i + 1)) ρ' acc2 = some (res, ρe))
        else (∃ S' ρ' acc2, acc2.length ≤ i + 1 ∧ Rep K t S' H3 (wipe σ vs) ρ' ∧ Same S0 S' ∧ Grow K t S' H3 (wipe σ vs) ρ' D acc2 ∧ lcL g ts fe vs (ds.drop (i + 1)) ρ' acc2 = some (res, ρe))) := by
  intro m i H S ρ acc hm ha R ss G e
  refine ⟨fun h0 => ?_, fun hp => ?_⟩
  · have hi : i = ds.length := by omega
    subst hi
    rw [List.drop_length] at e
    cases e
    exact ⟨W.st S H ss R.sh R.bh, k H S R ss G⟩
  · have hi : i < ds.length := by omega
    refine ⟨W.go i S H ss R.sh R.bh hi, fun x H' y => ?_⟩
    obtain ⟨S3, d, N, e1, e2⟩ := W.yl i S H x H' ss R.sh R.bh hi y
    have ed : ds.drop i = d :: ds.drop (i + 1) := by
      rw [List.drop_eq_getElem_cons hi]
      congr 1
      rw [List.getElem?_eq_getElem hi] at e1
      exact Option.some.inj e1
    rw [ed] at e
    obtain ⟨ρ1, q1, e⟩ := ol_some (show ol (g (.da d) ρ) (fun ρ1 => ob (ts ρ1) fun b ρ2 => if b = true then ob (fe ρ2) fun x ρ3 => ob (sto ρ3 x) fun y ρ4 => lcL g ts fe vs (ds.drop (i + 1)) (wipeE ρ4 vs) (acc ++ [y]) else lcL g ts fe vs (ds.drop (i + 1)) (wipeE ρ2 vs) acc) = some (res, ρe) from e)
    obtain ⟨b, ρ2, q2, e⟩ := ob_some e
    have RN := R.new N
    have GN : Grow K t S3 H' (wipe σ vs) ρ D acc := by
      obtain ⟨us, h1, h2⟩ := G.at_
      exact ⟨⟨us, N.hh _ _ h1, h2.mono N.ss⟩, N.fr D (none_ne h1) G.s, G.b, G.p, G.o⟩
    refine ⟨t.re S3 H' (wipe σ vs) ρ, S3, ρ, .da d, ρ1, RN.base, e2, q1, fun σ2 H2 S2 R2 s2 f2 l2 => ?_⟩
    have hwp : wipe σ2 vs = wipe σ vs := by
      rw [← wipe_wipe σ vs]
      exact wipe_eq l2 fun j hj => f2 j fun z => hj (hw j z)
    refine ⟨hwp, ?_⟩
    have G2 := GN.step R2 (R.bh.nlk G.b)
    have R2' := RN.unbase R2
    refine ⟨t.re S2 H2 σ2 ρ1, S2, ρ1, b, ρ2, R2'.base, q2, fun H4 S4 R4 s4 => ?_⟩
    have G4 := G2.step R4 (R.bh.nlk G.b)
    have R4' := R2'.unbase R4
    have sx : Same S0 S4 := ((ss.trans N.ss).trans s2).trans s4
    -- what is left of the turn: the own names forgotten
    have fin : ∀ {S5 H5 : Hp} {ρ5 : En} {acc5 : List PyData}, Rep K t S5 H5 σ2 ρ5 → Grow K t S5 H5 σ2 ρ5 D acc5 → Rep K t S5 H5 (wipe σ vs) (wipeE ρ5 vs) ∧ Grow K t S5 H5 (wipe σ vs) (wipeE ρ5 vs) D acc5 := fun {S5 H5 ρ5 acc5} R5 G5 => by
      have := R5.wiped vs
      rw [hwp] at this
      refine ⟨this, G5.sub fun j s es y1 y2 => ?_⟩
      obtain ⟨h1, h2⟩ := wipeE_get y1 (ls_no y2)
      exact ⟨s, es, h2, y2, by rw [← hwp, wipe_at σ2 h1]⟩
    cases b with
    | false =>
      obtain ⟨f1, f2⟩ := fin R4' G4
      exact iteF ⟨S4, wipeE ρ2 vs, acc, by omega, f1, sx, f2, by simpa using e⟩
    | true =>
      rw [if_pos rfl] at e
      obtain ⟨z, ρ3, q3, e⟩ := ob_some e
      obtain ⟨y', ρ4, q4, e⟩ := ob_some e
      refine iteT ⟨t.re S4 H4 σ2 ρ2, S4, ρ2, z, ρ3, R4'.base, q3, fun u H5 S5 R5 s5 o5 => ?_⟩
      have G5 := G4.step R5 (R.bh.nlk G.b)
      have R5' := R4'.unbase R5
      have o5' := o5.unbase R4'
      -- the item becomes data; the list that is made is no such
      have key : ∃ S6, Same S5 S6 ∧ Rep K t S6 H5 σ2 ρ4 ∧ Da K S6 u y' ∧ Grow K t S6 H5 σ2 ρ4 D acc := by
        cases z with
        | da d' =>
          cases q4
          exact ⟨S5, Same.refl _, R5', o5', G5⟩
        | fr fs =>
          cases q4
          obtain ⟨a, us, rfl, h1, h2, h3, h4, h5, h6⟩ := id o5'
          have haD : D ≠ a := fun hz => by
            subst hz
            obtain ⟨_, _, ea, _, _, g3, _⟩ := o5
            cases ea
            have g3' : cut H4 σ2 ρ2 D = none := g3
            obtain ⟨us', k1, _⟩ := G4.at_
            rw [cut_of k1 G4.o] at g3'
            cases g3'
          obtain ⟨us', k1, k2⟩ := G5.at_
          exact ⟨_, same_put h2, R5'.grow h1 h2 h3 h6, .lst upd_same (h5.mono (same_put h2)), ⟨us', k1, k2.mono (same_put h2)⟩, by rw [upd_ne haD]; exact G5.s, G5.b, G5.p, G5.o⟩
        | bo j =>
          obtain ⟨s, p1, p2⟩ := ol_some q4
          have o6 : σ2[j]? = some (some u) := o5'
          cases s with
          | no => cases p2
          | ob _ _ => cases p2
          | pa _ => cases p2
          | da d' =>
            cases p2
            obtain ⟨w, e3, e4⟩ := R5'.dat j _ p1
            rw [o6] at e3
            cases e3
            exact ⟨S5, Same.refl _, R5', e4, G5⟩
          | ow fs =>
            cases p2
            obtain ⟨a, us, e3, e4, e5, e6, e7, e8⟩ := R5'.own j _ fs p1 rfl
            have haD : D ≠ a := fun hz => by
              subst hz
              exact G5.o j _ fs p1 rfl e3
            rw [o6] at e3
            cases e3
            have hd := R5'.drop j
            have hg : Rep K t (upd S5 a (.lst us)) H5 σ2 (ρ3.set j .no) := hd.grow e4 e5 e6 fun l s' es y1 y2 y => by
              rcases set_get y1 with ⟨rfl, rfl, _⟩ | ⟨hl, y1⟩
              · cases y2
              · exact R5'.dis l j s' _ es fs a hl y1 y2 p1 rfl y o6
            have dv : Da K (upd S5 a (.lst us)) (.ref a) (.list fs) := .lst upd_same (e7.mono (same_put e5))
            obtain ⟨us', k1, k2⟩ := G5.at_
            have hset : Rep K t (upd S5 a (.lst us)) H5 σ2 (ρ3.set j (.da (.list fs))) := by
              have := hg.setD (i := j) dv (fun es y => by
                rcases set_get y with ⟨_, y, _⟩ | ⟨h0, _⟩
                · cases y
                · exact h0 rfl)
              rw [List.set_set] at this
              have es : σ2.set j (some (V.ref a)) = σ2 := by
                apply List.ext_getElem?
                intro l
                by_cases hl : j = l
                · subst hl
                  rw [List.getElem?_set_self (List.getElem?_eq_some_iff.mp o6).1, o6]
                · rw [List.getElem?_set_ne hl]
              rw [es] at this
              exact this
            refine ⟨_, same_put e5, hset, dv, ⟨us', k1, k2.mono (same_put e5)⟩, by rw [upd_ne haD]; exact G5.s, G5.b, G5.p, fun l s' es y1 y2 => ?_⟩
            rcases set_get y1 with ⟨rfl, rfl, _⟩ | ⟨hl, y1⟩
            · cases y2
            · exact G5.o l s' es y1 y2
      obtain ⟨S6, s6, R6, d6, G6⟩ := key
      obtain ⟨us, k1, k2⟩ := G6.at_
      have k3 : us.length < sizeLine := by rw [line_eq, k2.length]; omega
      refine ⟨us, k1, k3, S6, wipeE ρ4 vs, acc ++ [y'], by rw [List.length_append, List.length_singleton]; omega, ?_⟩
      have R7 := R6.upd_other (o := .lst (us ++ [u])) G6.s G6.b G6.p G6.o
      have G7 : Grow K t S6 (upd H5 D (.lst (us ++ [u]))) σ2 ρ4 D (acc ++ [y']) := ⟨⟨_, upd_same, k2.append (.one d6)⟩, G6.s, G6.b, G6.p, G6.o⟩
      obtain ⟨f1, f2⟩ := fin R7 G7
      exact ⟨f1, (sx.trans s5).trans s6, f2, e⟩
theorem lcL_le : ∀ (ds : List PyData) (ρ : En) (acc res : List PyData) (ρe : En), lcL g ts fe vs ds ρ acc = some (res, ρe) → res.length ≤ acc.length + ds.length
  | [], ρ, acc, res, ρe, e => by
    cases e
    simp
  | d :: ds, ρ, acc, res, ρe, e => by
    obtain ⟨ρ1, q1, e⟩ := ol_some (show ol (g (.da d) ρ) (fun ρ1 => ob (ts ρ1) fun b ρ2 => if b = true then ob (fe ρ2) fun x ρ3 => ob (sto ρ3 x) fun y ρ4 => lcL g ts fe vs ds (wipeE ρ4 vs) (acc ++ [y]) else lcL g ts fe vs ds (wipeE ρ2 vs) acc) = some (res, ρe) from e)
    obtain ⟨b, ρ2, q2, e⟩ := ob_some e
    cases b with
    | false =>
      have := lcL_le ds _ _ _ _ (by simpa using e)
      rw [List.length_cons]
      omega
    | true =>
      rw [if_pos rfl] at e
      obtain ⟨z, ρ3, q3, e⟩ := ob_some e
      obtain ⟨y', ρ4, q4, e⟩ := ob_some e
      have := lcL_le ds _ _ _ _ e
      rw [List.length_append, List.length_singleton] at this
      rw [List.length_cons]
      omega
/-- xs += [e for target in xs], xs in slot i -/
def sAugLc (i : Nat) (g : GF) (ts : TF) (e : EF) (vs : List Nat) : SF := fun ρ => match ρ[i]? with
  | some (.ow ds) => if (decide (ds.length ≤ 4096) && vs.all fun j => freeSl ((ρ.set i .no).getD j .no)) = true then
      ob (lcL g ts e vs ds (wipeE (ρ.set i .no) vs) []) fun acc ρ2 => match (backE (ρ.set i .no) vs ρ2)[i]? with
        | some .no => some (.nx ((backE (ρ.set i .no) vs ρ2).set i (.ow (ds ++ acc))))
        | _ => none
    else none
  | _ => none
theorem rd_augLc {i : Nat} (hw : ∀ j ∈ ws, j ∈ vs) : ∀ D σ H, rdS K (sAugLc i g ts fe vs) D σ H → tAug i (tLc (iList K (tVar i)) (rdG K ws g) (rdT K ts) (rdE K fe) vs) rExt2 D σ H := fun D σ H ⟨t, S, ρ, o, R, e, k⟩ => by
  unfold sAugLc at e
  split at e
  · rename_i ds hi
    split at e
    · rename_i hc
      rw [Bool.and_eq_true, decide_eq_true_eq, List.all_eq_true] at hc
      obtain ⟨acc, ρ2, q2, e⟩ := ob_some e
      split at e
      · rename_i hno
        cases e
        obtain ⟨a, us, z1, z2, z3, z4, z5, z6⟩ := R.own i _ ds hi rfl
        have hpp : t.pp ≠ some a := fun z => by
          have := z6.1 z
          cases this
        have na : ∀ (j : Nat) (s : Sl) (es : List PyData), (ρ.set i .no)[j]? = some s → s.ls = some es → σ[j]? ≠ some (some (.ref a)) := fun j s es y1 y2 y => by
          rcases set_get y1 with ⟨rfl, rfl, _⟩ | ⟨hj, y1⟩
          · cases y2
          · exact R.dis j i s _ es ds a hj y1 y2 hi rfl y z1
        have R0 := (R.drop i).base
        have B0 : (t.re S H σ (ρ.set i .no)).B a = some (.lst us) := cut_of z2 na
        have W : WalkB K (Itl K a) (t.re S H σ (ρ.set i .no)) S ds := walkB_own B0 (R.bh.nlk z4) z5
        refine ⟨.ref a, z1, .ref a, z1, a, rfl, ⟨us, SqL.of z2⟩, fun L hL => ?_⟩
        have R2 := (R0.new (New.lay (o := .lst []) R0.sh hL)).wiped vs
        have hS : S L = none := R0.sh.free hL
        have G : Grow K (t.re S H σ (ρ.set i .no)) S (upd H L (.lst [])) (wipe σ vs) (wipeE (ρ.set i .no) vs) L [] := by
          refine ⟨⟨[], upd_same, .nil⟩, hS, R0.bh.free hL, fun z => R0.ph L z hL, fun j s es y1 y2 y => ?_⟩
          obtain ⟨h1, h2⟩ := wipeE_get y1 (ls_no y2)
          rw [wipe_at σ h1] at y
          obtain ⟨b, us', w1, w2, _⟩ := R0.own j s es h2 y2
          rw [y] at w1
          cases w1
          rw [hL] at w2
          cases w2
        refine ⟨fun j m H' => j + m = ds.length ∧ ∃ S' ρ' acc', acc'.length ≤ j ∧ Rep K (t.re S H σ (ρ.set i .no)) S' H' (wipe σ vs) ρ' ∧ Same S S' ∧ Grow K (t.re S H σ (ρ.set i .no)) S' H' (wipe σ vs) ρ' L acc' ∧ lcL g ts fe vs (ds.drop j) ρ' acc' = some (acc, ρ2),
          ⟨ds.length, by omega, S, wipeE (ρ.set i .no) vs, [], Nat.le_refl _, R2, Same.refl _, G, q2⟩, ?_⟩
        rintro j m H' ⟨hm, S', ρ', acc', ha, R', s', G', e'⟩
        have fin : ∀ H'' S'', Rep K (t.re S H σ (ρ.set i .no)) S'' H'' (wipe σ vs) ρ2 → Same S S'' → Grow K (t.re S H σ (ρ.set i .no)) S'' H'' (wipe σ vs) ρ2 L acc → acc.length ≤ ds.length → rExt2 (.ref a) (.ref L) H'' fun z H2 => D.nx (σ.set i (some z)) H2 := fun H'' S'' R'' s'' G'' hal => by
          have RB := R0.back hc.2 s'' R''
          obtain ⟨ls, k1, k2⟩ := G''.at_
          have h2 := RB.bh.get B0 (R.bh.nlk z4)
          have hus := z5.length
          have hls := k2.length
          refine ⟨a, L, us, ls, rfl, rfl, h2, k1, by rw [line_eq]; omega, ?_⟩
          have hSa : S'' a = none := RB.sn a (none_ne B0) z3
          have R3 := (R.drop i).unbase RB
          have n3 : ∀ (j : Nat) (s : Sl) (es : List PyData), (backE (ρ.set i .no) vs ρ2)[j]? = some s → s.ls = some es → σ[j]? ≠ some (some (.ref a)) := fun j s es y1 y2 y => by
            obtain ⟨b, ws', w1, w2, w3, w4, _⟩ := RB.own j s es y1 y2
            rw [y] at w1
            cases w1
            rw [B0] at w4
            cases w4
          have R4 := R3.upd_other (o := .lst (us ++ ls)) hSa z4 hpp n3
          have R5 := R4.setO (i := i) (v := .ref a) (ds := ds ++ acc) ⟨a, us ++ ls, rfl, upd_same, hSa, z4, hpp, (z5.mono s'').append k2, n3⟩ (fun es z => by rw [hno] at z; cases z)
          exact k _ _ _ R5 s'' (by rw [List.length_set])
        obtain ⟨w0, w1⟩ := lcWB (v := vs) (Q := fun H'' => rExt2 (.ref a) (.ref L) H'' fun z H2 => D.nx (σ.set i (some z)) H2) hw W (by omega) (fun H'' S'' R'' s'' G'' => by
          refine fin H'' S'' R'' s'' G'' ?_
          have := lcL_le ds _ _ _ _ q2
          simpa using this) m j H' S' ρ' acc' hm ha R' s' G' e'
        by_cases h0 : m = 0
        · exact .inl (w0 h0)
        · obtain ⟨g1, g2⟩ := w1 (by omega)
          exact .inr ⟨g1, fun H2 => ∃ S' ρ' acc2, acc2.length ≤ j + 1 ∧ Rep K (t.re S H σ (ρ.set i .no)) S' H2 (wipe σ vs) ρ' ∧ Same S S' ∧ Grow K (t.re S H σ (ρ.set i .no)) S' H2 (wipe σ vs) ρ' L acc2 ∧ lcL g ts fe vs (ds.drop (j + 1)) ρ' acc2 = some (acc, ρ2),
            fun H2 ⟨S2, ρ3, acc2, l2, R3, s2, G2, e2⟩ => ⟨m - 1, by omega, by omega, S2, ρ3, acc2, l2, R3, s2, G2, e2⟩, g2⟩
      · cases e
    · cases e
  · cases e
end
section
variable {X : Cx} {elt tg : Expr} {ifs : List Expr} {scope : Scope} {own : List (Str × Nat)} {pos : Pos} {g : GF} {ts : TF} {fe : EF} {ws : List Nat}
theorem okS_augLc {i : Nat} {y : Str} {py py2 spos : Pos} (hc : X.calm = true) (hN : X.N.Nodup) (hy : X.N[i]? = some y) (hx : Loc X.env.scope y) (ok : BlkOk X.N X.env.scope scope own)
    (hg : ∀ (s : Shared) (H : Hp) (C : Addr) (cl : List (Str × Addr)) (fp : List Addr), OkG (X.blk s H scope (compEnvC scope cl C X.env) fp) tg ws g) (ht : ∀ (s : Shared) (H : Hp) (C : Addr) (cl : List (Str × Addr)) (fp : List Addr), OkTs (X.blk s H scope (compEnvC scope cl C X.env) fp) ifs ts)
    (he : ∀ (s : Shared) (H : Hp) (C : Addr) (cl : List (Str × Addr)) (fp : List Addr), OkE (X.blk s H scope (compEnvC scope cl C X.env) fp) elt fe) (hw : ∀ j ∈ ws, j ∈ own.map (·.2) := by decide)
    (hs : ∀ x, foldedSetIterable (.Name y py2) X.env x = pure x := by intro _; rfl)
    (hv : Vis X.env.scope y := by first | exact Or.inl rfl | exact Or.inr (Or.inl rfl) | exact Or.inr (Or.inr rfl)) (hd : (y == ("__debug__" : Str)) = false := by decide) (hcd : (y == ("__classdict__" : Str)) = false := by decide)
    (hf : X.fn y = true ∨ X.env.scope.names.lookup y = some .local := by first | exact .inl rfl | exact .inr rfl | assumption) :
    OkS X (.AugAssign (.Name y py) .Add (.ListComp elt [⟨tg, .Name y py2, ifs, 0⟩] scope pos) spos) (sAugLc i g ts fe (own.map (·.2))) :=
  ps_imp (ps_aug hN hy hx (pe_lc hc hN (pi_list (pe_var hy hv hd hcd)) ok (fun s H C cl fp => (hg s H C cl fp).run) (fun s H C cl fp => (ht s H C cl fp).run) he hs) (fun pins s σ H x y v u Q I r r1 h => iop_ext pins s σ H x y v u Q I r r1 h) hf) (rd_augLc hw)
end
@[simp] theorem x_sAugLc (ρ : En) (i : Nat) (g : GF) (ts : TF) (e : EF) (vs : List Nat) : sAugLc i g ts e vs ρ = match ρ[i]? with
  | some (.ow ds) => if (decide (ds.length ≤ 4096) && vs.all fun j => freeSl ((ρ.set i .no).getD j .no)) = true then
      ob (lcL g ts e vs ds (wipeE (ρ.set i .no) vs) []) fun acc ρ2 => match (backE (ρ.set i .no) vs ρ2)[i]? with
        | some .no => some (.nx ((backE (ρ.set i .no) vs ρ2).set i (.ow (ds ++ acc))))
        | _ => none
    else none
  | _ => none := rfl
end DL
/-! The data layer 23: [e for t in xs for u in ys]. -/
namespace DL
open PySem L2 PySem.Spec PySem.W PyProof PyProof.Rows
section
variable {X : Cx} {K : PySem.W.Frag} {g : GF} {ws vs : List Nat} {ts : TF} {fe : EF}
/-- the turns of a comprehension -/
theorem lcWC {c : Nat} {J : It} {t : Et} {S0 : Hp} {ds : List PyData} {res : List PyData} {ρe : En} {σ : L2.St} {D : Addr} {Q : Hp → Prop} {v : List Nat} (hw : ∀ j ∈ ws, j ∈ vs) (W : WalkD K J S0 ds) (hsz : c + ds.length ≤ 16777216)
    (k : ∀ H S, Rep K t S H (wipe σ vs) ρe → Same S0 S → Grow K t S H (wipe σ vs) ρe D res → Q H) :
    ∀ (m i : Nat) (H S : Hp) (ρ : En) (acc : List PyData), i + m = ds.length → acc.length ≤ c + i → Rep K t S H (wipe σ vs) ρ → Same S0 S → Grow K t S H (wipe σ vs) ρ D acc → lcL g ts fe vs (ds.drop i) ρ acc = some (res, ρe) →
      (m = 0 → J.stop i H ∧ Q H) ∧ (0 < m → J.go i H ∧ ∀ x H', J.yld i H x H' → rdG K ws g x (wipe σ vs) H' fun σ2 H2 => wipe σ2 vs = wipe σ vs ∧ rdT K ts σ2 H2 fun b H3 =>
        if b = true then rdE K fe σ2 H3 fun y H4 => ∃ acc', H4 D = some (.lst acc') ∧ acc'.length < sizeLine ∧
          (∃ S' ρ' acc2, acc2.length ≤ c + (i + 1) ∧ Rep K t S' (upd H4 D (.lst (acc' ++ [y]))) (wipe σ vs) ρ' ∧ Same S0 S' ∧ Grow K t S' (upd H4 D (.lst (acc' ++ [y]))) (wipe σ vs) ρ' D acc2 ∧ lcL g ts fe vs (ds.drop (i + 1)) ρ' acc2 = some (res, ρe))
        else (∃ S' ρ' acc2, acc2.length ≤ c + (i + 1) ∧ Rep K t S' H3 (wipe σ vs) ρ' ∧ Same S0 S' ∧ Grow K t S' H3 (wipe σ vs) ρ' D acc2 ∧ lcL g ts fe vs (ds.drop (i + 1)) ρ' acc2 = some (res, ρe))) := by
  intro m i H S ρ acc hm ha R ss G e
  refine ⟨fun h0 => ?_, fun hp => ?_⟩
  · have hi : i = ds.length := by omega
    subst hi
    rw [List.drop_length] at e
    cases e
    exact ⟨W.st S H ss R.sh, k H S R ss G⟩
  · have hi : i < ds.length := by omega
    refine ⟨W.go i S H ss R.sh hi, fun x H' y => ?_⟩
    obtain ⟨S3, d, N, e1, e2⟩ := W.yl i S H x H' ss R.sh hi y
    have ed : ds.drop i = d :: ds.drop (i + 1) := by
      rw [List.drop_eq_getElem_cons hi]
      congr 1
      rw [List.getElem?_eq_getElem hi] at e1
      exact Option.some.inj e1
    rw [ed] at e
    obtain ⟨ρ1, q1, e⟩ := ol_some (show ol (g (.da d) ρ) (fun ρ1 => ob (ts ρ1) fun b ρ2 => if b = true then ob (fe ρ2) fun x ρ3 => ob (sto ρ3 x) fun y ρ4 => lcL g ts fe vs (ds.drop (i + 1)) (wipeE ρ4 vs) (acc ++ [y]) else lcL g ts fe vs (ds.drop (i + 1)) (wipeE ρ2 vs) acc) = some (res, ρe) from e)
    obtain ⟨b, ρ2, q2, e⟩ := ob_some e
    have RN := R.new N
    have GN : Grow K t S3 H' (wipe σ vs) ρ D acc := by
      obtain ⟨us, h1, h2⟩ := G.at_
      exact ⟨⟨us, N.hh _ _ h1, h2.mono N.ss⟩, N.fr D (none_ne h1) G.s, G.b, G.p, G.o⟩
    refine ⟨t.re S3 H' (wipe σ vs) ρ, S3, ρ, .da d, ρ1, RN.base, e2, q1, fun σ2 H2 S2 R2 s2 f2 l2 => ?_⟩
    have hwp : wipe σ2 vs = wipe σ vs := by
      rw [← wipe_wipe σ vs]
      exact wipe_eq l2 fun j hj => f2 j fun z => hj (hw j z)
    refine ⟨hwp, ?_⟩
    have G2 := GN.step R2 (R.bh.nlk G.b)
    have R2' := RN.unbase R2
    refine ⟨t.re S2 H2 σ2 ρ1, S2, ρ1, b, ρ2, R2'.base, q2, fun H4 S4 R4 s4 => ?_⟩
    have G4 := G2.step R4 (R.bh.nlk G.b)
    have R4' := R2'.unbase R4
    have sx : Same S0 S4 := ((ss.trans N.ss).trans s2).trans s4
    -- what is left of the turn: the own names forgotten
    have fin : ∀ {S5 H5 : Hp} {ρ5 : En} {acc5 : List PyData}, Rep K t S5 H5 σ2 ρ5 → Grow K t S5 H5 σ2 ρ5 D acc5 → Rep K t S5 H5 (wipe σ vs) (wipeE ρ5 vs) ∧ Grow K t S5 H5 (wipe σ vs) (wipeE ρ5 vs) D acc5 := fun {S5 H5 ρ5 acc5} R5 G5 => by
      have := R5.wiped vs
      rw [hwp] at this
      refine ⟨this, G5.sub fun j s es y1 y2 => ?_⟩
      obtain ⟨h1, h2⟩ := wipeE_get y1 (ls_no y2)
      exact ⟨s, es, h2, y2, by rw [← hwp, wipe_at σ2 h1]⟩
    cases b with
    | false =>
      obtain ⟨f1, f2⟩ := fin R4' G4
      exact iteF ⟨S4, wipeE ρ2 vs, acc, by omega, f1, sx, f2, by simpa using e⟩
    | true =>
      rw [if_pos rfl] at e
      obtain ⟨z, ρ3, q3, e⟩ := ob_some e
      obtain ⟨y', ρ4, q4, e⟩ := ob_some e
      refine iteT ⟨t.re S4 H4 σ2 ρ2, S4, ρ2, z, ρ3, R4'.base, q3, fun u H5 S5 R5 s5 o5 => ?_⟩
      have G5 := G4.step R5 (R.bh.nlk G.b)
      have R5' := R4'.unbase R5
      have o5' := o5.unbase R4'
      -- the item becomes data; the list that is made is no such
      have key : ∃ S6, Same S5 S6 ∧ Rep K t S6 H5 σ2 ρ4 ∧ Da K S6 u y' ∧ Grow K t S6 H5 σ2 ρ4 D acc := by
        cases z with
        | da d' =>
          cases q4
          exact ⟨S5, Same.refl _, R5', o5', G5⟩
        | fr fs =>
          cases q4
          obtain ⟨a, us, rfl, h1, h2, h3, h4, h5, h6⟩ := id o5'
          have haD : D ≠ a := fun hz => by
            subst hz
            obtain ⟨_, _, ea, _, _, g3, _⟩ := o5
            cases ea
            have g3' : cut H4 σ2 ρ2 D = none := g3
            obtain ⟨us', k1, _⟩ := G4.at_
            rw [cut_of k1 G4.o] at g3'
            cases g3'
          obtain ⟨us', k1, k2⟩ := G5.at_
          exact ⟨_, same_put h2, R5'.grow h1 h2 h3 h6, .lst upd_same (h5.mono (same_put h2)), ⟨us', k1, k2.mono (same_put h2)⟩, by rw [upd_ne haD]; exact G5.s, G5.b, G5.p, G5.o⟩
        | bo j =>
          obtain ⟨s, p1, p2⟩ := ol_some q4
          have o6 : σ2[j]? = some (some u) := o5'
          cases s with
          | no => cases p2
          | ob _ _ => cases p2
          | pa _ => cases p2
          | da d' =>
            cases p2
            obtain ⟨w, e3, e4⟩ := R5'.dat j _ p1
            rw [o6] at e3
            cases e3
            exact ⟨S5, Same.refl _, R5', e4, G5⟩
          | ow fs =>
            cases p2
            obtain ⟨a, us, e3, e4, e5, e6, e7, e8⟩ := R5'.own j _ fs p1 rfl
            have haD : D ≠ a := fun hz => by
              subst hz
              exact G5.o j _ fs p1 rfl e3
            rw [o6] at e3
            cases e3
            have hd := R5'.drop j
            have hg : Rep K t (upd S5 a (.lst us)) H5 σ2 (ρ3.set j .no) := hd.grow e4 e5 e6 fun l s' es y1 y2 y => by
              rcases set_get y1 with ⟨rfl, rfl, _⟩ | ⟨hl, y1⟩
              · cases y2
              · exact R5'.dis l j s' _ es fs a hl y1 y2 p1 rfl y o6
            have dv : Da K (upd S5 a (.lst us)) (.ref a) (.list fs) := .lst upd_same (e7.mono (same_put e5))
            obtain ⟨us', k1, k2⟩ := G5.at_
            have hset : Rep K t (upd S5 a (.lst us)) H5 σ2 (ρ3.set j (.da (.list fs))) := by
              have := hg.setD (i := j) dv (fun es y => by
                rcases set_get y with ⟨_, y, _⟩ | ⟨h0, _⟩
                · cases y
                · exact h0 rfl)
              rw [List.set_set] at this
              have es : σ2.set j (some (V.ref a)) = σ2 := by
                apply List.ext_getElem?
                intro l
                by_cases hl : j = l
                · subst hl
                  rw [List.getElem?_set_self (List.getElem?_eq_some_iff.mp o6).1, o6]
                · rw [List.getElem?_set_ne hl]
              rw [es] at this
              exact this
            refine ⟨_, same_put e5, hset, dv, ⟨us', k1, k2.mono (same_put e5)⟩, by rw [upd_ne haD]; exact G5.s, G5.b, G5.p, fun l s' es y1 y2 => ?_⟩
            rcases set_get y1 with ⟨rfl, rfl, _⟩ | ⟨hl, y1⟩
            · cases y2
            · exact G5.o l s' es y1 y2
      obtain ⟨S6, s6, R6, d6, G6⟩ := key
      obtain ⟨us, k1, k2⟩ := G6.at_
      have k3 : us.length < sizeLine := by rw [line_eq, k2.length]; omega
      refine ⟨us, k1, k3, S6, wipeE ρ4 vs, acc ++ [y'], by rw [List.length_append, List.length_singleton]; omega, ?_⟩
      have R7 := R6.upd_other (o := .lst (us ++ [u])) G6.s G6.b G6.p G6.o
      have G7 : Grow K t S6 (upd H5 D (.lst (us ++ [u]))) σ2 ρ4 D (acc ++ [y']) := ⟨⟨_, upd_same, k2.append (.one d6)⟩, G6.s, G6.b, G6.p, G6.o⟩
      obtain ⟨f1, f2⟩ := fin R7 G7
      exact ⟨f1, (sx.trans s5).trans s6, f2, e⟩
end
def lc2L (g : GF) (ts : TF) (it1 : IF) (g1 : GF) (ts1 : TF) (e : EF) (vs vs1 : List Nat) : List PyData → En → List PyData → Option (List PyData × En)
  | [], ρ, acc => some (acc, ρ)
  | d :: ds, ρ, acc => ol (g (.da d) ρ) fun ρ1 => ob (ts ρ1) fun b ρ2 => if b = true then ob (it1 ρ2) fun ds1 ρ3 => if acc.length + ds1.length ≤ 16777216 then ob (lcL g1 ts1 e vs1 ds1 (wipeE ρ3 vs1) acc) fun acc' ρ4 => lc2L g ts it1 g1 ts1 e vs vs1 ds (wipeE ρ4 vs) acc' else none
    else lc2L g ts it1 g1 ts1 e vs vs1 ds (wipeE ρ2 vs) acc
def eLc2 (it : IF) (g : GF) (ts : TF) (it1 : IF) (g1 : GF) (ts1 : TF) (e : EF) (vs vs1 : List Nat) : EF := fun ρ => ob (it ρ) fun ds ρ1 => if (vs.all fun i => freeSl (ρ1.getD i .no)) = true then
  ob (lc2L g ts it1 g1 ts1 e vs vs1 ds (wipeE ρ1 vs) []) fun acc ρ2 => some (.fr acc, backE ρ1 vs ρ2) else none
@[simp] theorem lc2L_nil (ρ : En) (acc : List PyData) (g : GF) (ts : TF) (it1 : IF) (g1 : GF) (ts1 : TF) (e : EF) (vs vs1 : List Nat) : lc2L g ts it1 g1 ts1 e vs vs1 [] ρ acc = some (acc, ρ) := rfl
theorem lc2L_cons (ρ : En) (d : PyData) (ds acc : List PyData) (g : GF) (ts : TF) (it1 : IF) (g1 : GF) (ts1 : TF) (e : EF) (vs vs1 : List Nat) : lc2L g ts it1 g1 ts1 e vs vs1 (d :: ds) ρ acc = ol (g (.da d) ρ) fun ρ1 => ob (ts ρ1) fun b ρ2 => if b = true then ob (it1 ρ2) fun ds1 ρ3 => if acc.length + ds1.length ≤ 16777216 then ob (lcL g1 ts1 e vs1 ds1 (wipeE ρ3 vs1) acc) fun acc' ρ4 => lc2L g ts it1 g1 ts1 e vs vs1 ds (wipeE ρ4 vs) acc' else none
    else lc2L g ts it1 g1 ts1 e vs vs1 ds (wipeE ρ2 vs) acc := rfl
@[simp] theorem x_eLc2 (ρ : En) (it : IF) (g : GF) (ts : TF) (it1 : IF) (g1 : GF) (ts1 : TF) (e : EF) (vs vs1 : List Nat) : eLc2 it g ts it1 g1 ts1 e vs vs1 ρ = ob (it ρ) fun ds ρ1 => if (vs.all fun i => freeSl (ρ1.getD i .no)) = true then
  ob (lc2L g ts it1 g1 ts1 e vs vs1 ds (wipeE ρ1 vs) []) fun acc ρ2 => some (.fr acc, backE ρ1 vs ρ2) else none := rfl
theorem wipe_sub {σ : L2.St} : ∀ {vs1 vs : List Nat}, (∀ i ∈ vs1, i ∈ vs) → wipe (wipe σ vs1) vs = wipe σ vs := fun {vs1 vs} h => wipe_eq (by rw [wipe_length]) fun j hj => wipe_at σ fun z => hj (h j z)
section
variable {X : Cx} {K : PySem.W.Frag} {g g1 : GF} {ws ws1 vs vs1 : List Nat} {ts ts1 : TF} {fe : EF} {it1 : IF}
theorem lc2W {J : It} {t : Et} {S0 : Hp} {ds : List PyData} {res : List PyData} {ρe : En} {σ : L2.St} {D : Addr} {Q : Hp → Prop} (hw : ∀ j ∈ ws, j ∈ vs) (hw1 : ∀ j ∈ ws1, j ∈ vs1) (hv : ∀ j ∈ vs1, j ∈ vs) (W : WalkD K J S0 ds)
    (k : ∀ H S, Rep K t S H (wipe σ vs) ρe → Same S0 S → Grow K t S H (wipe σ vs) ρe D res → Q H) :
    ∀ (m i : Nat) (H S : Hp) (ρ : En) (acc : List PyData), i + m = ds.length → Rep K t S H (wipe σ vs) ρ → Same S0 S → Grow K t S H (wipe σ vs) ρ D acc → lc2L g ts it1 g1 ts1 fe vs vs1 (ds.drop i) ρ acc = some (res, ρe) →
      ∀ Nx : Hp → Prop, (∀ H, (∃ S' ρ' acc2, Rep K t S' H (wipe σ vs) ρ' ∧ Same S0 S' ∧ Grow K t S' H (wipe σ vs) ρ' D acc2 ∧ lc2L g ts it1 g1 ts1 fe vs vs1 (ds.drop (i + 1)) ρ' acc2 = some (res, ρe)) → Nx H) →
      (m = 0 → J.stop i H ∧ Q H) ∧ (0 < m → J.go i H ∧ ∀ x H', J.yld i H x H' → rdG K ws g x (wipe σ vs) H' fun σ2 H2 => wipe σ2 vs = wipe σ vs ∧ rdT K ts σ2 H2 fun b H3 =>
        if b = true then rdI K it1 σ2 H3 fun J1 H4 => ∃ W1 : Nat → Nat → Hp → Prop, (∃ m, W1 0 m H4) ∧ ∀ j k H, W1 j k H →
          (J1.stop j H ∧ Nx H) ∨ (J1.go j H ∧ ∃ Nx1 : Hp → Prop, (∀ H', Nx1 H' → ∃ k', k' < k ∧ W1 (j + 1) k' H') ∧ ∀ x H', J1.yld j H x H' → rdG K ws1 g1 x (wipe σ2 vs1) H' fun σ3 H5 => wipe σ3 vs1 = wipe σ2 vs1 ∧ rdT K ts1 σ3 H5 fun b H6 =>
            if b = true then rdE K fe σ3 H6 fun y H7 => ∃ acc, H7 D = some (.lst acc) ∧ acc.length < sizeLine ∧ Nx1 (upd H7 D (.lst (acc ++ [y]))) else Nx1 H6)
        else Nx H3) := by
  intro m i H S ρ acc hm R ss G e Nx hNx
  refine ⟨fun h0 => ?_, fun hp => ?_⟩
  · have hi : i = ds.length := by omega
    subst hi
    rw [List.drop_length] at e
    cases e
    exact ⟨W.st S H ss R.sh, k H S R ss G⟩
  · have hi : i < ds.length := by omega
    refine ⟨W.go i S H ss R.sh hi, fun x H' y => ?_⟩
    obtain ⟨S3, d, N, e1, e2⟩ := W.yl i S H x H' ss R.sh hi y
    have ed : ds.drop i = d :: ds.drop (i + 1) := by
      rw [List.drop_eq_getElem_cons hi]
      congr 1
      rw [List.getElem?_eq_getElem hi] at e1
      exact Option.some.inj e1
    rw [ed, lc2L_cons] at e
    obtain ⟨ρ1, q1, e⟩ := ol_some e
    obtain ⟨b, ρ2, q2, e⟩ := ob_some e
    have RN := R.new N
    have GN : Grow K t S3 H' (wipe σ vs) ρ D acc := by
      obtain ⟨us, h1, h2⟩ := G.at_
      exact ⟨⟨us, N.hh _ _ h1, h2.mono N.ss⟩, N.fr D (none_ne h1) G.s, G.b, G.p, G.o⟩
    refine ⟨t.re S3 H' (wipe σ vs) ρ, S3, ρ, .da d, ρ1, RN.base, e2, q1, fun σ2 H2 S2 R2 s2 f2 l2 => ?_⟩
    have hwp : wipe σ2 vs = wipe σ vs := by
      rw [← wipe_wipe σ vs]
      exact wipe_eq l2 fun j hj => f2 j fun z => hj (hw j z)
    refine ⟨hwp, ?_⟩
    have G2 := GN.step R2 (R.bh.nlk G.b)
    have R2' := RN.unbase R2
    refine ⟨t.re S2 H2 σ2 ρ1, S2, ρ1, b, ρ2, R2'.base, q2, fun H4 S4 R4 s4 => ?_⟩
    have G4 := G2.step R4 (R.bh.nlk G.b)
    have R4' := R2'.unbase R4
    have sx : Same S0 S4 := ((ss.trans N.ss).trans s2).trans s4
    cases b with
    | false =>
      have := R4'.wiped vs
      rw [hwp] at this
      refine iteF (hNx _ ⟨S4, wipeE ρ2 vs, acc, this, sx, G4.sub fun j s es y1 y2 => ?_, by simpa using e⟩)
      obtain ⟨h1, h2⟩ := wipeE_get y1 (ls_no y2)
      exact ⟨s, es, h2, y2, by rw [← hwp, wipe_at σ2 h1]⟩
    | true =>
      rw [if_pos rfl] at e
      obtain ⟨ds1, ρ3, q3, e⟩ := ob_some e
      split at e
      · rename_i hlen
        obtain ⟨acc', ρ4, q4, e⟩ := ob_some e
        refine iteT ⟨t.re S4 H4 σ2 ρ2, S4, ρ2, ds1, ρ3, R4'.base, q3, fun J1 H5 S5 R5 s5 W1 => ?_⟩
        have G5 := G4.step R5 (R.bh.nlk G.b)
        have R5' := R4'.unbase R5
        have R6 := R5'.wiped vs1
        have G6 : Grow K t S5 H5 (wipe σ2 vs1) (wipeE ρ3 vs1) D acc := G5.sub fun j s es y1 y2 => by
          obtain ⟨h1, h2⟩ := wipeE_get y1 (ls_no y2)
          exact ⟨s, es, h2, y2, by rw [wipe_at σ2 h1]⟩
        refine ⟨fun j m H' => j + m = ds1.length ∧ ∃ S' ρ' acc1, acc1.length ≤ acc.length + j ∧ Rep K t S' H' (wipe σ2 vs1) ρ' ∧ Same S5 S' ∧ Grow K t S' H' (wipe σ2 vs1) ρ' D acc1 ∧ lcL g1 ts1 fe vs1 (ds1.drop j) ρ' acc1 = some (acc', ρ4),
          ⟨ds1.length, by omega, S5, wipeE ρ3 vs1, acc, by omega, R6, Same.refl _, G6, q4⟩, ?_⟩
        rintro j m1 H6 ⟨hm1, S6, ρ6, acc6, ha6, R7, s7, G7, e7⟩
        obtain ⟨w0, w1⟩ := lcWC (c := acc.length) (v := vs1) (σ := σ2) (Q := Nx) hw1 W1 hlen (fun H8 S8 R8 s8 G8 => by
          have R9 := R8.wiped vs
          have he : wipe (wipe σ2 vs1) vs = wipe σ vs := by rw [wipe_sub hv, hwp]
          rw [he] at R9
          refine hNx _ ⟨S8, wipeE ρ4 vs, acc', R9, (sx.trans s5).trans s8, G8.sub fun j s es y1 y2 => ?_, e⟩
          obtain ⟨h1, h2⟩ := wipeE_get y1 (ls_no y2)
          exact ⟨s, es, h2, y2, by rw [← he, wipe_at _ h1]⟩) m1 j H6 S6 ρ6 acc6 hm1 ha6 R7 s7 G7 e7
        by_cases h0 : m1 = 0
        · exact .inl (w0 h0)
        · obtain ⟨c1, c2⟩ := w1 (by omega)
          exact .inr ⟨c1, fun H2 => ∃ S' ρ' acc2, acc2.length ≤ acc.length + (j + 1) ∧ Rep K t S' H2 (wipe σ2 vs1) ρ' ∧ Same S5 S' ∧ Grow K t S' H2 (wipe σ2 vs1) ρ' D acc2 ∧ lcL g1 ts1 fe vs1 (ds1.drop (j + 1)) ρ' acc2 = some (acc', ρ4),
            fun H2 ⟨S2, ρ3, acc2, l2, R3, s2, G2, e2⟩ => ⟨m1 - 1, by omega, by omega, S2, ρ3, acc2, l2, R3, s2, G2, e2⟩, c2⟩
      · cases e
theorem rd_lc2 {fi : IF} (hw : ∀ j ∈ ws, j ∈ vs) (hw1 : ∀ j ∈ ws1, j ∈ vs1) (hv : ∀ j ∈ vs1, j ∈ vs) : ∀ σ H Q, rdE K (eLc2 fi g ts it1 g1 ts1 fe vs vs1) σ H Q → tLc2 (rdI K fi) (rdG K ws g) (rdT K ts) (rdI K it1) (rdG K ws1 g1) (rdT K ts1) (rdE K fe) vs vs1 σ H Q := fun σ H Q ⟨t, S, ρ, r, ρ', R, e, k⟩ => by
  obtain ⟨ds, ρ1, q1, e⟩ := ob_some e
  split at e
  · rename_i hc
    rw [List.all_eq_true] at hc
    obtain ⟨acc, ρ2, q2, e⟩ := ob_some e
    cases e
    refine ⟨t, S, ρ, ds, ρ1, R, q1, fun J H1 S1 R1 s1 W D hD => ?_⟩
    have R2 := (R1.new (New.lay (o := .lst []) R1.sh hD)).wiped vs
    have hS : S1 D = none := R1.sh.free hD
    have G : Grow K t S1 (upd H1 D (.lst [])) (wipe σ vs) (wipeE ρ1 vs) D [] := by
      refine ⟨⟨[], upd_same, .nil⟩, hS, R1.bh.free hD, fun z => R1.ph D z hD, fun i s es y1 y2 y => ?_⟩
      obtain ⟨h1, h2⟩ := wipeE_get y1 (ls_no y2)
      rw [wipe_at σ h1] at y
      obtain ⟨a, us, z1, z2, _⟩ := R1.own i s es h2 y2
      rw [y] at z1
      cases z1
      rw [hD] at z2
      cases z2
    refine ⟨fun i m H' => i + m = ds.length ∧ ∃ S' ρ' acc', Rep K t S' H' (wipe σ vs) ρ' ∧ Same S1 S' ∧ Grow K t S' H' (wipe σ vs) ρ' D acc' ∧ lc2L g ts it1 g1 ts1 fe vs vs1 (ds.drop i) ρ' acc' = some (acc, ρ2),
      ⟨ds.length, by omega, S1, wipeE ρ1 vs, [], R2, Same.refl _, G, q2⟩, ?_⟩
    rintro i m H' ⟨hm, S', ρ', acc', R', s', G', e'⟩
    obtain ⟨w0, w1⟩ := lc2W (Q := fun H'' => Q (.ref D) H'') hw hw1 hv W (fun H'' S'' R'' s'' G'' => by
      have RB := R1.back hc s'' R''
      obtain ⟨us, k1, k2⟩ := G''.at_
      refine k (.ref D) H'' S'' RB (s1.trans s'') ⟨D, us, rfl, k1, G''.s, G''.b, G''.p, k2, fun j s es y1 y2 y => ?_⟩
      rcases backE_get y1 with ⟨h1, h2⟩ | ⟨h1, h2⟩
      · have := hc j h1
        rw [← h2] at this
        cases s with
        | no => cases y2
        | ob _ _ => cases y2
        | da _ => cases y2
        | ow _ => cases this
        | pa _ => cases this
      · exact G''.o j s es h2 y2 (by rw [wipe_at σ h1]; exact y)) m i H' S' ρ' acc' hm R' s' G' e' (fun H2 => ∃ S' ρ' acc2, Rep K t S' H2 (wipe σ vs) ρ' ∧ Same S1 S' ∧ Grow K t S' H2 (wipe σ vs) ρ' D acc2 ∧ lc2L g ts it1 g1 ts1 fe vs vs1 (ds.drop (i + 1)) ρ' acc2 = some (acc, ρ2)) (fun _ h => h)
    by_cases h0 : m = 0
    · exact .inl (w0 h0)
    · obtain ⟨c1, c2⟩ := w1 (by omega)
      exact .inr ⟨c1, _, fun H2 ⟨S2, ρ3, acc2, R3, s2, G2, e2⟩ => ⟨m - 1, by omega, by omega, S2, ρ3, acc2, R3, s2, G2, e2⟩, c2⟩
  · cases e
end
section
variable {X : Cx} {elt tg iter tg1 iter1 : Expr} {ifs ifs1 : List Expr} {scope : Scope} {own : List (Str × Nat)} {pos : Pos} {fi it1 : IF} {g g1 : GF} {ts ts1 : TF} {fe : EF} {ws ws1 vs1 : List Nat}
theorem okS_setLc2 {i : Nat} {y : Str} {py spos : Pos} (hc : X.calm = true) (hN : X.N.Nodup) (hy : X.N[i]? = some y) (hyl : X.env.scope.names.lookup y = some .local)
    (hsw : swapsWith (.ListComp elt [⟨tg, iter, ifs, 0⟩, ⟨tg1, iter1, ifs1, 0⟩] scope pos) (some (.Name y py)) spos.line X.env = pure true) (hi : OkI X tg iter fi) (ok : BlkOk X.N X.env.scope scope own)
    (hg : ∀ (s : Shared) (H : Hp) (C : Addr) (cl : List (Str × Addr)) (fp : List Addr), OkG (X.blk s H scope (compEnvC scope cl C X.env) fp) tg ws g) (ht : ∀ (s : Shared) (H : Hp) (C : Addr) (cl : List (Str × Addr)) (fp : List Addr), OkTs (X.blk s H scope (compEnvC scope cl C X.env) fp) ifs ts)
    (hi1 : ∀ (s : Shared) (H : Hp) (C : Addr) (cl : List (Str × Addr)) (fp : List Addr), OkI (X.blk s H scope (compEnvC scope cl C X.env) fp) tg1 iter1 it1)
    (hg1 : ∀ (s : Shared) (H : Hp) (C : Addr) (cl : List (Str × Addr)) (fp : List Addr), OkG (X.blk s H scope (compEnvC scope cl C X.env) fp) tg1 ws1 g1) (ht1 : ∀ (s : Shared) (H : Hp) (C : Addr) (cl : List (Str × Addr)) (fp : List Addr), OkTs (X.blk s H scope (compEnvC scope cl C X.env) fp) ifs1 ts1)
    (he : ∀ (s : Shared) (H : Hp) (C : Addr) (cl : List (Str × Addr)) (fp : List Addr), OkE (X.blk s H scope (compEnvC scope cl C X.env) fp) elt fe) (hv : ∀ j ∈ vs1, j ∈ own.map (·.2) := by decide) (hw : ∀ j ∈ ws, j ∈ own.map (·.2) := by decide) (hw1 : ∀ j ∈ ws1, j ∈ vs1 := by decide)
    (hs : ∀ x, foldedSetIterable iter X.env x = pure x := by intro _; rfl) (hs1 : ∀ env x, foldedSetIterable iter1 env x = pure x := by intro _ _; rfl) :
    OkS X (.Assign [.Name y py] (.ListComp elt [⟨tg, iter, ifs, 0⟩, ⟨tg1, iter1, ifs1, 0⟩] scope pos) spos) (sAsg (eLc2 fi g ts it1 g1 ts1 fe (own.map (·.2)) vs1) (gNm i)) :=
  ps_imp (ps_setLc2 hc hN hy hyl hsw hi.run ok hv (fun s H C cl fp => (hg s H C cl fp).run) (fun s H C cl fp => (ht s H C cl fp).run) (fun s H C cl fp => (hi1 s H C cl fp).run) (fun s H C cl fp => (hg1 s H C cl fp).run) (fun s H C cl fp => (ht1 s H C cl fp).run) he hs hs1) (rd_asg (rd_lc2 hw hw1 hv) (rd_gNm i))
end
end DL
set_option maxHeartbeats 2000000
/-! The data layer 24: an own error with a field that a def raises; a def that catches it. -/
namespace DL
open PySem L2 PySem.Spec PySem.W PyProof PyProof.Rows
section
variable {X : Cx} {o e : Expr} {es : List Expr} {ta : TA} {p1 p2 pos : Pos} {x : Str} {C0 : Addr} {mc : Value}
/-- Base.__init__(self, ..), Base an own class without __init__ -/
theorem pe_ovinit {pl : Sem Bool} (hg : Gl X x) (hm : X.mg x = some (.ref C0)) (hs : PySem.W.specialIn X.K (.ref C0) "__getattribute__" = some (some (.builtin "type.__getattribute__"))) (hr : PySem.W.readsIn X.K C0 mc = true)
    (vV : PySem.W.findCls X.K (.ref C0) mc "__init__" = some (.val (.builtin "ValueError.__init__"))) (ha : PA X (e :: es) ta)
    (hc : eval (.Call (.Attribute (.Name x p1) "__init__" p2) (e :: es) [] pos) X.env = (do
      let ov ← eval (.Name x p1) X.env
      standAt p2.atName
      let (f, first) ← holding [ov] (getMethod ov "__init__" pl)
      callWith pos f first (backTo pos (starEach (e :: es) X.env)) (backToKw pos (keywordEach [] X.env))) := by rfl)
    (hdb : (x == ("__debug__" : Str)) = false := by decide)
    (he : starEach (e :: es) X.env = (false, eval e X.env) :: starEach es X.env := by rfl) (hpl : (backTo pos (starEach es X.env)).any (·.1) = false := by rfl) :
    PE X (.Call (.Attribute (.Name x p1) "__init__" p2) (e :: es) [] pos) (tVeI X.K ta) := by
  refine ⟨fun pins s σ H Q I h => ?_⟩
  refine PySem.W.methodCall_KW (ld_glob I hg hm ?_ hdb) hc
  refine PySem.W.method_cls I.kIn hs (PySem.W.cls_value I.kIn hr vV (by decide +kernel) ?_)
  show wpAny _ _ (callWith pos (Value.builtin "ValueError.__init__") [] (backTo pos (starEach (e :: es) X.env)) []) _ _ _
  refine PyProof.Rows.callWith_method1 (thn (ha.run pos pins _ σ H _ (I.tok _) h) fun us s1 ⟨vs, H1, I1, r1, a, C, ws, ev, hl, T, ea, q⟩ => ?_) he hpl
  subst ev
  cases r1 with
  | @cons _ u0 _ ur ra rw' =>
    obtain rfl : u0 = Value.ref a := ra
    have hlen : ur.length ≤ sizeLine := by
      rw [← Paired.length rw', sizeLine_eq]
      omega
    exact oinit_ok T I1 ea hlen fun s' J => ⟨.non, H1, J, rfl, q⟩
end
/-- what is known of the error's class: C the class, C0 its base (own, without __init__), fI its __init__ -/
structure ErrC (K : PySem.W.Frag) (mg : Str → Option Value) (x0 x f : Str) (C0 C fI : Addr) : Prop where
  g0 : mg x0 = some (.ref C0)
  g : mg x = some (.ref C)
  ox : OexC K C
  nf : PySem.W.findIn K (.ref C) f = some none
  iC : PySem.W.findIn K (.ref C) "__init__" = some (some (.ref fI))
  tI : PySem.W.typeIn K (.ref fI) = some (.type "function")
  s0 : PySem.W.specialIn K (.ref C0) "__getattribute__" = some (some (.builtin "type.__getattribute__"))
  r0 : PySem.W.readsIn K C0 (.type "type") = true
  v0 : PySem.W.findCls K (.ref C0) (.type "type") "__init__" = some (.val (.builtin "ValueError.__init__"))
  xf : XfC K C
  cl : (PySem.W.clsIn K C).isSome = true
  ca : PySem.W.findIn K (.ref C) "__class__" = some (some (.builtin "object.__class__"))
  cn : PySem.W.specialIn K (.builtin "object.__class__") "__get__" = some (some (.builtin "getset_descriptor.__get__"))
  ct : PySem.W.takesIn K (.builtin "object.__class__") = some true
  cm : PySem.W.mroIn K C (.type "object") = some true
  te : PySem.W.exmOne K (.ref C) (.ref C) = some true
  ki : PySem.W.kitOne K (.ref C) (.ref C0) = some true
/-- __init__(self, f) of the error: Base.__init__(self, text); self.f = f -/
def spNI (K : PySem.W.Frag) (C : Addr) (f : Str) : Sp := fun vs H Q E => ∃ (a : Addr) (y : V), vs = [.ref a, y] ∧ H a = some (exo a C none) ∧ ∀ dx, H dx = none → dx ≠ a → Q .non (upd (upd H dx (exd dx [(f, y)])) a (exo a C (some dx)))
section
variable {P : Program} {w : World} {K : PySem.W.Frag} {mg : Str → Option Value} {base : Heap} {x0 x f qual txt : Str} {C0 C fI : Addr} {st : Stmt} {fd : FuncData}
/-- what the making asks, met -/
theorem mkE_in {H1 : Hp} {y : V} {Q : XK} (h : ∀ (d : Addr) (H' : Hp), H1 d = none → H' d = some (.xd [(f, y)]) → Same H1 H' → Q (.ref C) (some d) H') :
    [y].length ≤ 1000 ∧ ∀ a, H1 a = none → spNI K C f (.ref a :: ([y] ++ [])) (upd H1 a (exo a C none))
      (fun v H2 => v = .non ∧ ∃ (d : Addr) (fs : List (Str × V)), H2 a = some (exo a C (some d)) ∧ H2 d = some (exd d fs) ∧ H1 d = none ∧ Q (.ref C) (some d) (upd (del H2 a) d (.xd fs))) (fun _ _ _ => False) := by
  refine ⟨by simp, fun a ha => ⟨a, y, rfl, upd_same, fun dx hdx hne => ?_⟩⟩
  have h1 : H1 dx = none := by rw [upd_ne hne] at hdx; exact hdx
  refine ⟨rfl, dx, [(f, y)], upd_same, ?_, h1, h dx _ h1 upd_same fun b o e => ?_⟩
  · rw [upd_ne hne, upd_same]
  · have nd : b ≠ dx := ne_of_none e h1
    have na : b ≠ a := ne_of_none e ha
    rw [upd_ne nd, del_ne na, upd_ne na, upd_ne nd, upd_ne na]
    exact e
theorem init_reads {D : Ends} {txt : Str} {a : Addr} {y : V} {H : Hp} (T : ErrC K mg x0 x f C0 C fI) (ha : H a = some (exo a C none)) (q : ∀ dx, H dx = none → dx ≠ a → D.nx [some (.ref a), some y] (upd (upd H dx (exd dx [(f, y)])) a (exo a C (some dx)))) :
    (tSeq (tDrop (tVeI K (tCons (tVar 0) (tCons (tC (.str txt)) tNil)))) (tOst K f (tVar 0) (tVar 1))) D [some (.ref a), some y] H :=
  ⟨.ref a, rfl, a, C, [.str txt], rfl, by simp, T.ox, ha, y, rfl, .ref a, rfl, a, C, rfl, T.ox, T.nf, .inl ⟨ha, q⟩⟩
theorem pss_nev {X : Cx} {l : List Stmt} : PSs X l tNever := ⟨fun _ _ _ _ _ _ h => h.elim⟩
/-- isinstance(e, Base), e the error that the suite holds -/
def rIsE2 (K : PySem.W.Frag) (C C0 a : Addr) (cls : Value) (d : Option Addr) : List V → Hp → VK → Prop := fun xs H Q => ∃ (dd : Addr) (fs : List (Str × V)), xs = [.ref a, .ref C0] ∧ cls = .ref C ∧ d = some dd ∧ H dd = some (.xd fs) ∧ Q (.bl true) H
theorem call_isE2 {X : Cx} {a : Addr} {oe : Obj} {cls : Value} {d : Option Addr} {pn : List (Addr × Obj)} (T : ErrC X.K mg x0 x f C0 C fI) (hz : Zc cls d oe) (hf : ∃ vs, oe.data = .fields vs) : CallR (X.suite a ((a, oe) :: pn)) (.builtin "isinstance") (rIsE2 X.K C C0 a cls d) := by
  intro pins s σ H xs us Q I r h
  obtain ⟨dd, fs, rfl, rfl, ed, ea, q⟩ := h
  cases r with
  | cons rx rr =>
    cases rr with
    | cons rt rr =>
      cases rr
      cases rx
      cases rt
      obtain ⟨hget, _⟩ := I.pin (a, oe) (List.mem_append.mpr (.inl List.mem_cons_self))
      obtain ⟨vs, hv⟩ := hf
      have hx : ObjOk X.prog X.w H s.heap dd (.xd fs) := I.hok dd _ ea
      obtain ⟨mA, hns, hr⟩ := hx
      obtain ⟨od, ho, hl⟩ := lookIn_ns hns
      have J : PySem.W.InstAt s.heap a oe C (some od) := ⟨hget, hz.1, by unfold PySem.W.notCls; rw [hv] <;> rfl, by rw [hz.2, ed]; exact ho⟩
      exact PySem.W.kia_one (PySem.W.kitx_exc T.cl T.xf.ga T.xf.gg T.xf.exC T.ca T.cn T.ct T.cm) I.kIn J T.ki (fun z => nomatch z) fun tk => ⟨.bl true, H, I.kept (t' := tk) fun _ _ z => z, rfl, q⟩
end
/-- f(..) raises the error with the name that it was given -/
def spRaise (K : PySem.W.Frag) (C : Addr) (f : Str) (F : List PyData → Option Rv) : Sp := fun vs H Q E => ∃ (S : Hp) (ds : List PyData) (z : Str), Same S H ∧ DaAll K S vs ds ∧ F ds = some (.da (.str z)) ∧
  ∀ (d : Addr) (H' : Hp), H d = none → H' d = some (.xd [(f, .str z)]) → Same H H' → E (.ref C) (some d) H'
end DL
set_option maxHeartbeats 2000000
/-! The data layer 25: ovens: objects with a datum and a list of data. -/
namespace DL
open PySem L2
/-- what is known of the class of ovens -/
structure OvnC (K : PySem.W.Frag) (C : Addr) : Prop where
  cl : Cls K C
  nB : NoAttr K C "batch"
  nS : NoAttr K C "stands"
  ov : OvC K C
theorem OvC.eq {K : PySem.W.Frag} {C C' : Addr} (h : OvC K C) (h' : OvC K C') : C' = C := by
  have e : some (some (Value.ref C)) = some (some (Value.ref C')) := h.symm.trans h'
  cases e
  rfl
theorem bs_ne : ¬ (("batch" : Str) = "stands") := by decide +kernel
theorem ovF_stands (vb : V) (l : Addr) : (ovF vb l).lookup ("stands" : Str) = some (.ref l) := by
  unfold ovF
  rw [lookup_putF, if_pos rfl]
theorem ovF_batch (vb : V) (l : Addr) : (ovF vb l).lookup ("batch" : Str) = some vb := by
  unfold ovF
  rw [lookup_putF, if_neg bs_ne, lookup_putF, if_pos rfl]
theorem ovF_no (vb : V) (l : Addr) {m : Str} (h1 : ¬ m = "stands") (h2 : ¬ m = "batch") : (ovF vb l).lookup m = none := by
  unfold ovF
  rw [lookup_putF, if_neg h1, lookup_putF, if_neg h2]
  rfl
def Sl.ovn : Sl → Option (PyData × List PyData)
  | .ob b st => some (b, st)
  | _ => none
theorem ovn_some {s : Sl} {b : PyData} {st : List PyData} (h : s.ovn = some (b, st)) : s = .ob b st := by
  cases s <;> cases h
  rfl
section
variable {K : PySem.W.Frag} {t : Et} {S S' H H' : Hp} {σ : L2.St} {ρ : En} {i : Nat} {b : PyData} {st st' : List PyData} {p C dx l : Addr} {vb : V} {mv' : List V}
/-- behind what changed the list of the oven in slot i -/
theorem Rep.afterO (R : Rep K t S H σ ρ) (h : ρ[i]? = some (.ob b st)) (ho : t.ov p = some (C, dx, vb, l)) (hp : σ[i]? = some (some (.ref p)))
    (n1 : Same S S') (n2 : Same S' H') (n3 : ∀ b, H b ≠ none → S b = none → S' b = none) (n4 : ∀ b o, b ≠ l → H b = some o → H' b = some o) (n5 : H' l = some (.lst mv')) (n6 : DaAll K S' mv' st') : Rep K t S' H' σ (ρ.set i (.ob b st')) := by
  obtain ⟨y1, y2, y3, y4, y5, y6⟩ := R.bh.b2 _ _ _ _ _ ho
  have lk : t.lk l := ⟨p, C, dx, vb, ho⟩
  have il : i < ρ.length := (List.getElem?_eq_some_iff.mp h).1
  have ls_ : ∀ {j : Nat} {s : Sl} {ds : List PyData}, (ρ.set i (.ob b st'))[j]? = some s → s.ls = some ds → ρ[j]? = some s := fun {j s ds} q1 q2 => by
    rcases set_get q1 with ⟨_, rfl, _⟩ | ⟨_, q⟩
    · cases q2
    · exact q
  refine ⟨n2, R.s0.trans n1, fun c h1 h2 => n3 c (R.bh.nn h1) (R.sn c h1 h2), ⟨fun c o e => ?_, fun p' C' dx' vb' l' e => ?_, R.bh.b3⟩, fun c q z => ?_, by rw [List.length_set]; exact R.len, fun j d q => ?_, fun j s fs q1 q2 => ?_, fun j k s1 s2 fs fs' c hb q1 q2 q3 q4 z1 z2 => ?_, ⟨fun j b' s' q => ?_, fun j k b1 b2 s1 s2 n q1 q2 => ?_⟩⟩
  · rcases R.bh.b1 c o e with z | z
    · exact .inl z
    · by_cases hc : c = l
      · subst hc; exact .inl lk
      · exact .inr (n4 c o hc z)
  · obtain ⟨x1, x2, x3, x4, x5, vs, x6⟩ := R.bh.b2 _ _ _ _ _ e
    have np : p' ≠ l := fun z => by
      obtain ⟨us, w⟩ := y6
      rw [z, w] at x3
      cases x3
    refine ⟨x1, x2, n4 _ _ np x3, x4, x5, ?_⟩
    by_cases hl : l' = l
    · subst hl; exact ⟨_, n5⟩
    · exact ⟨vs, n4 _ _ hl x6⟩
  · cases q2 : H c with
    | none => exact R.ph c q q2
    | some o =>
      by_cases hb : c = l
      · subst hb; rw [n5] at z; cases z
      · rw [n4 c o hb q2] at z; cases z
  · rcases set_get q with ⟨_, z, _⟩ | ⟨_, q⟩
    · cases z
    · obtain ⟨v, z1, z2⟩ := R.dat j d q
      exact ⟨v, z1, z2.mono n1⟩
  · obtain ⟨c, vs', z1, z2, z3, z4, z5, z6⟩ := R.own j s fs (ls_ q1 q2) q2
    have hcl : c ≠ l := fun z => by
      subst z
      exact y4 z4
    exact ⟨c, vs', z1, n4 c _ hcl z2, n3 c (none_ne z2) z3, z4, z5.mono n1, z6⟩
  · exact R.dis j k s1 s2 fs fs' c hb (ls_ q1 q2) q2 (ls_ q3 q4) q4 z1 z2
  · rcases set_get q with ⟨rfl, z, _⟩ | ⟨hj, q⟩
    · cases z
      obtain ⟨p', C', dx', vb', l', vs, x1, x2, x3, x4, x5⟩ := R.obs.ob j b st h
      rw [hp] at x2
      cases x2
      rw [ho] at x1
      cases x1
      exact ⟨p, C, dx, vb, l, mv', ho, hp, n5, x4.mono n1, n6⟩
    · obtain ⟨p', C', dx', vb', l', vs, x1, x2, x3, x4, x5⟩ := R.obs.ob j b' s' q
      have hl : l' ≠ l := fun z => by
        subst z
        have := R.bh.b3 _ _ _ _ _ _ _ _ _ ho x1
        subst this
        exact R.obs.od j i b' b s' st hj q h (x2.trans hp.symm)
      exact ⟨p', C', dx', vb', l', vs, x1, x2, n4 _ _ hl x3, x4.mono n1, x5.mono n1⟩
  · have fix : ∀ {k : Nat} {b2 : PyData} {s2 : List PyData}, (ρ.set i (.ob b st'))[k]? = some (.ob b2 s2) → ∃ b3 s3, ρ[k]? = some (.ob b3 s3) := fun {k b2 s2} q => by
      rcases set_get q with ⟨rfl, _, _⟩ | ⟨_, q⟩
      · exact ⟨b, st, h⟩
      · exact ⟨b2, s2, q⟩
    obtain ⟨_, _, w1⟩ := fix q1
    obtain ⟨_, _, w2⟩ := fix q2
    exact R.obs.od j k _ _ _ _ n w1 w2
/-- the list of the oven in slot i is changed -/
theorem Rep.mutO (R : Rep K t S H σ ρ) (h : ρ[i]? = some (.ob b st)) (ho : t.ov p = some (C, dx, vb, l)) (hp : σ[i]? = some (some (.ref p))) (h5 : DaAll K S mv' st') : Rep K t S (upd H l (.lst mv')) σ (ρ.set i (.ob b st')) := by
  obtain ⟨y1, y2, y3, y4, y5, y6⟩ := R.bh.b2 _ _ _ _ _ ho
  have hS : S l = none := R.sn l y4 y5
  exact R.afterO h ho hp (Same.refl _) (fun c o e => by rw [upd_ne (ne_of_none e hS)]; exact R.sh c o e) (fun _ _ z => z) (fun c o hc e => by rw [upd_ne hc]; exact e) upd_same h5
end

/-! ### reading the fields -/
def eBat (i : Nat) : EF := fun ρ => ol ρ[i]? fun s => ob s.ovn fun b _ => some (.da b, ρ)
def eLast (i : Nat) : EF := fun ρ => ol ρ[i]? fun s => ob s.ovn fun _ st => ol (atI st (-1)) fun d => some (.da d, ρ)
def eStN (i : Nat) : EF := fun ρ => ol ρ[i]? fun s => ob s.ovn fun _ st => some (.da (.int st.length), ρ)
def eStApp (i : Nat) (e : EF) : EF := fun ρ => ol ρ[i]? fun s0 => ob s0.ovn fun _ _ => ob (e ρ) fun x ρ1 => ob (sto ρ1 x) fun d ρ2 => ol ρ2[i]? fun s => ob s.ovn fun b st =>
  if st.length < 16777216 then some (.da .none, ρ2.set i (.ob b (st ++ [d]))) else none
def eStPop (i : Nat) : EF := fun ρ => ol ρ[i]? fun s => ob s.ovn fun b st => ol st[st.length - 1]? fun d => some (.da d, ρ.set i (.ob b st.dropLast))
section
variable {X : Cx} {o e : Expr} {f : EF} {i : Nat} {C : Addr} {p1 p2 p3 p4 pos apos cpos fpos : Pos}
theorem ov_at {K : PySem.W.Frag} {t : Et} {S H : Hp} {σ : L2.St} {ρ : En} {b : PyData} {st : List PyData} (T : OvnC K C) (R : Rep K t S H σ ρ) (q : ρ[i]? = some (.ob b st)) :
    ∃ p dx vb l vs, t.ov p = some (C, dx, vb, l) ∧ σ[i]? = some (some (.ref p)) ∧ H p = some (.ins C dx (ovF vb l)) ∧ H l = some (.lst vs) ∧ S l = none ∧ Da K S vb b ∧ DaAll K S vs st := by
  obtain ⟨p, C', dx, vb, l, vs, x1, x2, x3, x4, x5⟩ := R.obs.ob i b st q
  obtain ⟨y1, y2, y3, y4, y5, _⟩ := R.bh.b2 _ _ _ _ _ x1
  cases T.ov.eq y1
  exact ⟨p, dx, vb, l, vs, x1, x2, y3, x3, R.sn l y4 y5, x4, x5⟩
theorem ok_bat (T : OvnC X.K C) (ho : PE X o (tVar i)) (hb : attributeBase o "batch" X.env (eval o X.env) = eval o X.env := by rfl) : OkE X (.Attribute o "batch" pos) (eBat i) :=
  pe_imp (pe_fld ho hb) fun σ H Q ⟨t, S, ρ, r, ρ', R, e, k⟩ => by
    obtain ⟨s, q1, e⟩ := ol_some e
    obtain ⟨b, st, q2, e⟩ := ob_some e
    cases e
    cases ovn_some q2
    obtain ⟨p, dx, vb, l, vs, x1, x2, x3, x4, x5, x6, x7⟩ := ov_at T R q1
    exact ⟨_, x2, p, C, dx, _, vb, rfl, x3, T.cl, T.nB, ovF_batch _ _, k _ H S R (Same.refl _) x6⟩
theorem ok_last {j : Nat} (T : OvnC X.K C) (ho : PE X o (tVar i)) (hb : attributeBase o "stands" X.env (eval o X.env) = eval o X.env := by rfl) (hs : PlainIx (.UnaryOp .USub (.Constant (.int 1) j p1) p2) := by intro _ _; rfl) :
    OkE X (.Subscript (.Attribute o "stands" p3) (.UnaryOp .USub (.Constant (.int 1) j p1) p2) pos) (eLast i) :=
  pe_imp (pe_ix ix_seq (pe_fld ho hb) (pe_un un_neg pe_int) hs) fun σ H Q ⟨t, S, ρ, r, ρ', R, e, k⟩ => by
    obtain ⟨s, q1, e⟩ := ol_some e
    obtain ⟨b, st, q2, e⟩ := ob_some e
    obtain ⟨d, q3, e⟩ := ol_some e
    cases e
    cases ovn_some q2
    obtain ⟨p, dx, vb, l, vs, x1, x2, x3, x4, x5, x6, x7⟩ := ov_at T R q1
    obtain ⟨v, z1, z2⟩ := x7.atI q3
    exact ⟨_, x2, p, C, dx, _, _, rfl, x3, T.cl, T.nS, ovF_stands _ _, 1, rfl, .inl ⟨l, vs, -1, v, rfl, rfl, SqL.of x4, z1, k _ H S R (Same.refl _) z2⟩⟩
theorem ok_stN (T : OvnC X.K C) (ho : PE X o (tVar i)) (hg : Gl X "len") (hm : X.mg "len" = none) (hb : attributeBase o "stands" X.env (eval o X.env) = eval o X.env := by rfl)
    (hs : starEach [.Attribute o "stands" p3] X.env = (false, eval (.Attribute o "stands" p3) X.env) :: starEach [] X.env := by rfl) (hpl : (backTo pos (starEach [] X.env)).any (·.1) = false := by rfl) :
    OkE X (.Call (.Name "len" p1) [.Attribute o "stands" p3] [] pos) (eStN i) :=
  pe_imp (pe_callB call_len hg hm PySem.boot_len (pa_cons (pe_fld ho hb) pa_nil hs) (by decide) (by decide) hs hpl) fun σ H Q ⟨t, S, ρ, r, ρ', R, e, k⟩ => by
    obtain ⟨s, q1, e⟩ := ol_some e
    obtain ⟨b, st, q2, e⟩ := ob_some e
    cases e
    cases ovn_some q2
    obtain ⟨p, dx, vb, l, vs, x1, x2, x3, x4, x5, x6, x7⟩ := ov_at T R q1
    exact ⟨_, x2, p, C, dx, _, _, rfl, x3, T.cl, T.nS, ovF_stands _ _, _, _, rfl, .inl ⟨vs, SqL.of x4, rfl⟩, by rw [x7.length]; exact k _ H S R (Same.refl _) (.int _)⟩
theorem ok_stApp (T : OvnC X.K C) (ho : PE X o (tVar i)) (he : OkE X e f) (hb : attributeBase o "stands" X.env (eval o X.env) = eval o X.env := by rfl)
    (hbase : attributeBase (.Attribute o "stands" fpos) "append" X.env (eval (.Attribute o "stands" fpos) X.env) = eval (.Attribute o "stands" fpos) X.env := by rfl)
    (hfew : ((backTo cpos (starEach [e] X.env)).all (fun x => !x.1) && (backToKw cpos (keywordEach [] X.env)).all (fun x => x.1.isSome)
      && decide (([e] : List Expr).length + ([] : List Keyword).length + (if ([] : List Keyword).isEmpty then 0 else 1) < 30)) = true := by rfl)
    (hline : (apos.endLine == cpos.line) = true := by rfl) (hs : starEach [e] X.env = (false, eval e X.env) :: starEach [] X.env := by rfl) (hplain : (backTo cpos (starEach [] X.env)).any (·.1) = false := by rfl) :
    OkE X (.Call (.Attribute (.Attribute o "stands" fpos) "append" apos) [e] [] cpos) (eStApp i f) :=
  pe_imp (pe_bm PySem.F.plainAttrs_list PySem.F.slot_list_append PySem.F.type_list_append mt_append (pe_fld ho hb) (pa_cons he pa_nil hs) hbase hfew hline hs hplain) fun σ H Q ⟨t, S, ρ, r, ρ', R, e, k⟩ => by
    obtain ⟨s0, p1, e⟩ := ol_some e
    obtain ⟨b0, st0, p2, e⟩ := ob_some e
    obtain ⟨x, ρ1, q1, e⟩ := ob_some e
    obtain ⟨d, ρ2, q2, e⟩ := ob_some e
    obtain ⟨s, q3, e⟩ := ol_some e
    obtain ⟨b, st, q4, e⟩ := ob_some e
    split at e
    · rename_i hl
      cases e
      cases ovn_some p2
      cases ovn_some q4
      obtain ⟨p, dx, vb, l, vs, x1, x2, x3, x4, x5, x6, x7⟩ := ov_at T R p1
      refine ⟨_, x2, p, C, dx, _, _, rfl, x3, T.cl, T.nS, ovF_stands _ _, .inl ⟨rfl, _, SqL.of x4⟩, t, S, ρ, x, ρ1, R, q1, fun v H1 S1 R1 s1 o1 => ?_⟩
      obtain ⟨S2, s2, R2, d2⟩ := R1.stoO o1 q2
      obtain ⟨p', dx', vb', l', us, y1, y2, y3, y4, y5, y6, y7⟩ := ov_at T R2 q3
      rw [x2] at y2
      cases y2
      rw [x1] at y1
      cases y1
      refine ⟨l, us, v, rfl, rfl, y4, by rw [line_eq, y7.length]; exact hl, ?_⟩
      exact k _ _ S2 (R2.mutO q3 x1 x2 (y7.append (.one d2))) (s1.trans s2) .non
    · cases e
theorem ok_stPop (T : OvnC X.K C) (ho : PE X o (tVar i)) (hb : attributeBase o "stands" X.env (eval o X.env) = eval o X.env := by rfl)
    (hbase : attributeBase (.Attribute o "stands" fpos) "pop" X.env (eval (.Attribute o "stands" fpos) X.env) = eval (.Attribute o "stands" fpos) X.env := by rfl) (hline : (apos.endLine == cpos.line) = true := by rfl) :
    OkE X (.Call (.Attribute (.Attribute o "stands" fpos) "pop" apos) [] [] cpos) (eStPop i) :=
  pe_imp (pe_bm0 PySem.F.plainAttrs_list PySem.F.slot_list_pop PySem.F.type_list_pop mt_pop (pe_fld ho hb) hbase hline) fun σ H Q ⟨t, S, ρ, r, ρ', R, e, k⟩ => by
    obtain ⟨s, q1, e⟩ := ol_some e
    obtain ⟨b, st, q2, e⟩ := ob_some e
    obtain ⟨d, q3, e⟩ := ol_some e
    cases e
    cases ovn_some q2
    obtain ⟨p, dx, vb, l, vs, x1, x2, x3, x4, x5, x6, x7⟩ := ov_at T R q1
    obtain ⟨v, z1, z2⟩ := x7.at q3
    refine ⟨_, x2, p, C, dx, _, _, rfl, x3, T.cl, T.nS, ovF_stands _ _, .inl ⟨rfl, _, SqL.of x4⟩, l, vs, v, rfl, rfl, x4, by rw [x7.length]; exact z1, ?_⟩
    exact k _ _ S (R.mutO q1 x1 x2 x7.dropLast) (Same.refl _) z2
end

/-! ### methods, defs whose first parameter is an oven -/
/-- the promise: oven's list may change -/
def spO (K : PySem.W.Frag) (F : PyData → List PyData → List PyData → Option (Rv × List PyData)) : Sp := fun vs H Q _ =>
  ∃ (S : Hp) (C p dx l : Addr) (vb : V) (mv ws : List V) (b : PyData) (st ds : List PyData) (r : Rv) (st' : List PyData), OvC K C ∧ Same S H ∧ vs = .ref p :: ws ∧ H p = some (.ins C dx (ovF vb l)) ∧ H l = some (.lst mv) ∧ S l = none ∧ Da K S vb b ∧ DaAll K S mv st ∧ DaAll K S ws ds ∧ F b st ds = some (r, st') ∧
    ∀ v H' S' mv', Same S S' → Same S' H' → (∀ b, H b ≠ none → S b = none → S' b = none) → (∀ b o, b ≠ l → H b = some o → H' b = some o) → H' l = some (.lst mv') → DaAll K S' mv' st' → RO K H S' H' v r → Q v H'
def eMeth (i : Nat) (F : PyData → List PyData → List PyData → Option (Rv × List PyData)) (as : AF) : EF := fun ρ => ol ρ[i]? fun s0 => ob s0.ovn fun _ _ => ob (as ρ) fun rs ρ1 => ob (stos ρ1 rs) fun ds ρ2 => ol ρ2[i]? fun s => ob s.ovn fun b st =>
  ob (F b st ds) fun r st' => some (r, ρ2.set i (.ob b st'))
section
variable {X : Cx} {K : PySem.W.Frag} {t : Et} {S H : Hp} {σ : L2.St} {ρ : En} {i : Nat} {b : PyData} {st st' ds : List PyData} {ws : List V} {r : Rv} {v0 : V} {F : PyData → List PyData → List PyData → Option (Rv × List PyData)} {Q : VK} {E : XK} {C : Addr}
theorem RO.set_ob {S' H' : Hp} {v : V} (R : Rep K t S H σ ρ) (q : ρ[i]? = some (.ob b st)) (R3 : Rep K t S' H' σ (ρ.set i (.ob b st'))) (o : RO K H S' H' v r) : RvOk K t S' H' σ (ρ.set i (.ob b st')) v r := by
  cases r with
  | da d => exact o
  | bo i => exact False.elim o
  | fr fs =>
    obtain ⟨c, us, z, h1, h2, h3, h4⟩ := o
    refine ⟨c, us, z, h2, h3, R.bh.free h1, fun y => R.ph c y h1, h4, fun m s' ds' y1 y2 y => ?_⟩
    rcases set_get y1 with ⟨_, rfl, _⟩ | ⟨_, y1⟩
    · cases y2
    · obtain ⟨c', us', w1, w2, _⟩ := R.own m s' ds' y1 y2
      rw [y] at w1
      cases w1
      rw [h1] at w2
      cases w2
theorem spO_in (T : OvnC K C) (R : Rep K t S H σ ρ) (q : ρ[i]? = some (.ob b st)) (hv : σ[i]? = some (some v0)) (d2 : DaAll K S ws ds) (qF : F b st ds = some (r, st'))
    (k : ∀ v H' S', Rep K t S' H' σ (ρ.set i (.ob b st')) → Same S S' → RvOk K t S' H' σ (ρ.set i (.ob b st')) v r → Q v H') : spO K F (v0 :: ws) H Q E := by
  obtain ⟨p, dx, vb, l, vs, x1, x2, x3, x4, x5, x6, x7⟩ := ov_at T R q
  rw [hv] at x2
  cases x2
  refine ⟨S, C, p, dx, l, vb, vs, ws, b, st, ds, r, st', T.ov, R.sh, rfl, x3, x4, x5, x6, x7, d2, qF, fun v H' S' mv' n1 n2 n3 n4 n5 n6 o => ?_⟩
  have R3 := R.afterO q x1 hv n1 n2 n3 n4 n5 n6
  exact k v H' S' R3 n1 (RO.set_ob R q R3 o)
end
section
variable {X : Cx} {o e : Expr} {es : List Expr} {g : AF} {k i : Nat} {f C : Addr} {fd : FuncData} {ps : List Str} {F : PyData → List PyData → List PyData → Option (Rv × List PyData)} {x m : Str} {p pos apos : Pos} {K : PySem.W.Frag}
theorem rd_meth (T : OvnC K C) (nm : ¬ m = "stands") (nm2 : ¬ m = "batch") : ∀ σ H Q, rdE K (eMeth i F g) σ H Q → tMeth C m (spO K F) [] E0 (tVar i) (rdA K g) σ H Q := fun σ H Q ⟨t, S, ρ, r, ρ', R, e, k⟩ => by
  obtain ⟨s0, q1, e⟩ := ol_some e
  obtain ⟨b0, st0, q2, e⟩ := ob_some e
  obtain ⟨rs, ρ1, q3, e⟩ := ob_some e
  obtain ⟨ds, ρ2, q4, e⟩ := ob_some e
  obtain ⟨s, q5, e⟩ := ol_some e
  obtain ⟨b, st, q6, e⟩ := ob_some e
  obtain ⟨r', st', q7, e⟩ := ob_some e
  cases e
  cases ovn_some q2
  cases ovn_some q6
  obtain ⟨p, dx, vb, l, vs, x1, x2, x3, x4, x5, x6, x7⟩ := ov_at T R q1
  refine ⟨_, x2, p, dx, _, rfl, x3, ovF_no _ _ nm nm2, t, S, ρ, rs, ρ1, R, q3, fun vs H1 S1 R1 s1 o1 => ?_⟩
  obtain ⟨S2, s2, R2, d2⟩ := R1.stos o1 q4
  rw [List.append_nil]
  exact spO_in T R2 q5 x2 d2 q7 fun v H' S' R' s' o' => k v H' S' R' ((s1.trans s2).trans s') o'
theorem rd_meth0 (T : OvnC K C) (nm : ¬ m = "stands") (nm2 : ¬ m = "batch") : ∀ σ H Q, rdE K (eMeth i F aNil) σ H Q → tMeth C m (spO K F) [] E0 (tVar i) tNil σ H Q := fun σ H Q ⟨t, S, ρ, r, ρ', R, e, k⟩ => by
  obtain ⟨s0, q1, e⟩ := ol_some e
  obtain ⟨b0, st0, q2, e⟩ := ob_some e
  obtain ⟨rs, ρ1, q3, e⟩ := ob_some e
  cases q3
  obtain ⟨ds, ρ2, q4, e⟩ := ob_some e
  cases q4
  obtain ⟨s, q5, e⟩ := ol_some e
  obtain ⟨b, st, q6, e⟩ := ob_some e
  obtain ⟨r', st', q7, e⟩ := ob_some e
  cases e
  cases ovn_some q6
  obtain ⟨p, dx, vb, l, vs, x1, x2, x3, x4, x5, x6, x7⟩ := ov_at T R q5
  refine ⟨_, x2, p, dx, _, rfl, x3, ovF_no _ _ nm nm2, ?_⟩
  exact spO_in (E := E0) T R q5 x2 .nil q7 fun v H' S' R' s' o' => k v H' S' R' s' o'
theorem rd_obcall (T : OvnC K C) : ∀ σ H Q, rdE K (eMeth i F g) σ H Q → tCall (spO K F) [] E0 (tCons (tVar i) (rdA K g)) σ H Q := fun σ H Q ⟨t, S, ρ, r, ρ', R, e, k⟩ => by
  obtain ⟨s0, q1, e⟩ := ol_some e
  obtain ⟨b0, st0, q2, e⟩ := ob_some e
  obtain ⟨rs, ρ1, q3, e⟩ := ob_some e
  obtain ⟨ds, ρ2, q4, e⟩ := ob_some e
  obtain ⟨s, q5, e⟩ := ol_some e
  obtain ⟨b, st, q6, e⟩ := ob_some e
  obtain ⟨r', st', q7, e⟩ := ob_some e
  cases e
  cases ovn_some q2
  cases ovn_some q6
  obtain ⟨p, dx, vb, l, vs, x1, x2, x3, x4, x5, x6, x7⟩ := ov_at T R q1
  refine ⟨_, x2, t, S, ρ, rs, ρ1, R, q3, fun vs H1 S1 R1 s1 o1 => ?_⟩
  obtain ⟨S2, s2, R2, d2⟩ := R1.stos o1 q4
  rw [List.append_nil]
  exact spO_in T R2 q5 x2 d2 q7 fun v H' S' R' s' o' => k v H' S' R' ((s1.trans s2).trans s') o'
/-- what a caller knows of a method -/
structure MetC (P : Program) (w : World) (K : PySem.W.Frag) (mg : Str → Option Value) (base : Heap) (k : Nat) (C : Addr) (m : Str) (f : Addr) (fd : FuncData) (ps : List Str) (sp : Sp) : Prop where
  c : FnOk P w K mg base CX0 k f fd ps sp
  m : Meth K C m f
  b : Binds K fd ps []
theorem ok_meth {pl : Sem Bool} (T : OvnC X.K C) (M : MetC X.prog X.w X.K X.mg X.base k C m f fd ps (spO X.K F)) (hr : Room k X.A) (ho : PE X o (tVar i)) (ha : OkA X (e :: es) g) (nm : ¬ m = "stands" := by decide +kernel) (nm2 : ¬ m = "batch" := by decide +kernel)
    (hst : starEach (e :: es) X.env = (false, eval e X.env) :: starEach es X.env := by rfl) (hpl : (backTo pos (starEach es X.env)).any (·.1) = false := by rfl)
    (ht : eval (.Call (.Attribute o m apos) (e :: es) [] pos) X.env = (do
      let ov ← eval o X.env
      standAt apos.atName
      let (f, first) ← holding [ov] (getMethod ov m pl)
      callWith pos f first (backTo pos (starEach (e :: es) X.env)) (backToKw pos (keywordEach [] X.env))) := by rfl) :
    OkE X (.Call (.Attribute o m apos) (e :: es) [] pos) (eMeth i F g) := pe_imp (pe_meth ho T.cl M.m M.c hr M.b .nil pass0 ha hst hpl ht) (rd_meth T nm nm2)
theorem ok_meth0 {pl : Sem Bool} (T : OvnC X.K C) (M : MetC X.prog X.w X.K X.mg X.base k C m f fd ps (spO X.K F)) (hr : Room k X.A) (ho : PE X o (tVar i)) (nm : ¬ m = "stands" := by decide +kernel) (nm2 : ¬ m = "batch" := by decide +kernel)
    (ht : eval (.Call (.Attribute o m apos) [] [] pos) X.env = (do
      let ov ← eval o X.env
      standAt apos.atName
      let (f, first) ← holding [ov] (getMethod ov m pl)
      callWith pos f first (backTo pos (starEach [] X.env)) (backToKw pos (keywordEach [] X.env))) := by rfl) :
    OkE X (.Call (.Attribute o m apos) [] [] pos) (eMeth i F aNil) := pe_imp (pe_meth0 ho T.cl M.m M.c hr M.b .nil pass0 ht) (rd_meth0 T nm nm2)
theorem ok_obcall (T : OvnC X.K C) (C1 : FnOk X.prog X.w X.K X.mg X.base CX0 k f fd ps (spO X.K F)) (hr : Room k X.A) (hg : Gl X x) (hm : X.mg x = some (.ref f)) (hk : PySem.W.keepIn X.K (.ref f) = true) (hb : Binds X.K fd ps [])
    (ho : PE X e (tVar i)) (ha : OkA X es g) (hdb : (x == ("__debug__" : Str)) = false := by decide) (he : starEach (e :: es) X.env = (false, eval e X.env) :: starEach es X.env := by rfl) (hpl : (backTo pos (starEach es X.env)).any (·.1) = false := by rfl) :
    OkE X (.Call (.Name x p) (e :: es) [] pos) (eMeth i F g) := pe_imp (pe_call C1 hr hg hm hk hb .nil pass0 (pa_cons ho ha he) hdb he hpl) (rd_obcall T)
end

/-! ### the def itself -/
def startO (n N : Nat) (b : PyData) (st ds : List PyData) : Option En := if ds.length + 1 = n then some (.ob b st :: ds.map Sl.da ++ List.replicate (N - n) .no) else none
def stOf (ρ : En) : Option (List PyData) := match (ρ[0]? : Option Sl) with
  | some (.ob _ st) => some st
  | _ => none
def outO : Out → Option (Rv × List PyData)
  | .rt (.da d) ρ => ol (stOf ρ) fun st => some (.da d, st)
  | .rt (.fr ds) ρ => ol (stOf ρ) fun st => some (.fr ds, st)
  | .nx ρ => ol (stOf ρ) fun st => some (.da .none, st)
  | _ => none
def fnO (n N : Nat) (body : SF) (b : PyData) (st ds : List PyData) : Option (Rv × List PyData) := ol (startO n N b st ds) fun ρ => ol (body ρ) outO
section
variable {P : Program} {w : World} {K : PySem.W.Frag} {mg : Str → Option Value} {base : Heap} {x qual : Str} {stm : Stmt} {f : Addr} {fd : FuncData} {N ps : List Str} {k : Nat} {body : SF}
theorem startO_rep {S H : Hp} {C p dx l : Addr} {vb : V} {mv ws : List V} {b : PyData} {st ds : List PyData} (m : Nat) (hC : OvC K C) (sh : Same S H) (hp : H p = some (.ins C dx (ovF vb l))) (hl : H l = some (.lst mv)) (hS : S l = none) (hb : Da K S vb b) (hm : DaAll K S mv st) (h1 : DaAll K S ws ds) :
    Rep K ⟨H, S, none, fun q => if q = p then some (C, dx, vb, l) else none⟩ S H ((V.ref p :: ws).map some ++ List.replicate m none) (.ob b st :: ds.map Sl.da ++ List.replicate m .no) := by
  have hlen := h1.length
  have ho : (fun q => if q = p then some (C, dx, vb, l) else none) p = some (C, dx, vb, l) := if_pos rfl
  have hov : ∀ {q : Addr} {z : Addr × Addr × V × Addr}, (fun q => if q = p then some (C, dx, vb, l) else none) q = some z → q = p ∧ z = (C, dx, vb, l) := fun {q z} e => by
    by_cases h : q = p
    · subst h
      rw [ho] at e
      cases e
      exact ⟨rfl, rfl⟩
    · have e' : (if q = p then some (C, dx, vb, l) else none) = some z := e
      rw [if_neg h] at e'
      cases e'
  have at_ : ∀ {i : Nat} {s : Sl}, (.ob b st :: ds.map Sl.da ++ List.replicate m .no)[i]? = some s → s ≠ .no → (i = 0 ∧ s = .ob b st) ∨ ∃ d v, s = .da d ∧ ((V.ref p :: ws).map some ++ List.replicate m none)[i]? = some (some v) ∧ Da K S v d := fun {i s} e hs => by
    cases i with
    | zero =>
      have e' : some (Sl.ob b st) = some s := e
      cases e'
      exact .inl ⟨rfl, rfl⟩
    | succ i =>
      right
      have e' : (ds.map Sl.da ++ List.replicate m .no)[i]? = some s := e
      by_cases hi : i < ds.length
      · rw [List.getElem?_append_left (by simpa using hi), List.getElem?_map] at e'
        cases q : ds[i]? with
        | none => rw [q] at e'; cases e'
        | some d =>
          rw [q] at e'
          cases e'
          obtain ⟨v, z1, z2⟩ := h1.at q
          refine ⟨d, v, rfl, ?_, z2⟩
          show (ws.map some ++ List.replicate m none)[i]? = _
          rw [List.getElem?_append_left (by rw [List.length_map, hlen]; exact hi), List.getElem?_map, z1]
          rfl
      · rw [List.getElem?_append_right (by simpa using hi)] at e'
        have := List.mem_of_getElem? e'
        rw [List.mem_replicate] at this
        exact absurd this.2 hs
  have noL : ∀ {i : Nat} {s : Sl} {fs : List PyData}, (.ob b st :: ds.map Sl.da ++ List.replicate m .no)[i]? = some s → s.ls = some fs → False := fun {i s fs} e1 e2 => by
    rcases at_ e1 (ls_no e2) with ⟨_, rfl⟩ | ⟨d, v, rfl, _⟩ <;> cases e2
  refine ⟨sh, Same.refl _, fun b h1 h2 => h2, ⟨fun c o e => .inr e, fun q C' dx' vb' l' e => ?_, fun q q' C' C'' dx' dx'' vb' vb'' l' e e' => ?_⟩, fun b e => (nomatch e), by simp [hlen], fun i d e => ?_, fun i s fs e1 e2 => (noL e1 e2).elim, fun i j s s' fs fs' b hij e1 e2 e3 e4 _ _ => noL e1 e2, ⟨fun i b' st' e => ?_, fun i j b' b'' st' st'' n e e' => ?_⟩⟩
  · obtain ⟨rfl, z⟩ := hov e
    cases z
    exact ⟨hC, hp, hp, none_ne hl, hS, mv, hl⟩
  · obtain ⟨rfl, _⟩ := hov e
    obtain ⟨rfl, _⟩ := hov e'
    rfl
  · rcases at_ e (fun z => nomatch z) with ⟨_, z⟩ | ⟨d', v, z, h3, h4⟩
    · cases z
    · cases z
      exact ⟨v, h3, h4⟩
  · rcases at_ e (fun z => nomatch z) with ⟨rfl, z⟩ | ⟨d', v, z, h3, h4⟩
    · cases z
      exact ⟨p, C, dx, vb, l, mv, ho, rfl, hl, hb, hm⟩
    · cases z
  · rcases at_ e (fun z => nomatch z) with ⟨rfl, z⟩ | ⟨d', v, z, h3, h4⟩
    · rcases at_ e' (fun z => nomatch z) with ⟨rfl, z⟩ | ⟨d', v, z, h3, h4⟩
      · exact absurd rfl n
      · cases z
    · cases z
/-- how the def ends, for the caller -/
theorem endO {S H S' H' : Hp} {C p dx l : Addr} {vb : V} {st' : List PyData} {σ' : L2.St} {ρ' : En} {v : V} {r : Rv} {Q : VK} (R' : Rep K ⟨H, S, none, fun q => if q = p then some (C, dx, vb, l) else none⟩ S' H' σ' ρ') (s' : Same S S') (hp : stOf ρ' = some st')
    (hr : match r with | .da d => Da K S' v d | .fr fs => RvOk K ⟨H, S, none, fun q => if q = p then some (C, dx, vb, l) else none⟩ S' H' σ' ρ' v (.fr fs) | .bo _ => False)
    (q : ∀ v H' S' mv', Same S S' → Same S' H' → (∀ b, H b ≠ none → S b = none → S' b = none) → (∀ b o, b ≠ l → H b = some o → H' b = some o) → H' l = some (.lst mv') → DaAll K S' mv' st' → RO K H S' H' v r → Q v H') : Q v H' := by
  unfold stOf at hp
  split at hp
  · rename_i b' st2 hq
    cases hp
    obtain ⟨p', C', dx', vb', l', vs, x1, x2, x3, x4, x5⟩ := R'.obs.ob 0 _ _ hq
    have x1' : (if p' = p then some (C, dx, vb, l) else none) = some (C', dx', vb', l') := x1
    split at x1'
    · cases x1'
      refine q v H' S' vs s' R'.sh (fun c hc hc2 => R'.sn c hc hc2) (fun c o hc e => (R'.bh.b1 c o e).resolve_left fun ⟨p2, C2, dx2, vb2, z⟩ => ?_) x3 x5 ?_
      · have z' : (if p2 = p then some (C, dx, vb, l) else none) = some (C2, dx2, vb2, c) := z
        split at z'
        · cases z'
          exact hc rfl
        · cases z'
      · cases r with
        | da d => exact hr
        | bo _ => exact hr
        | fr fs =>
          obtain ⟨c, us, y1, y2, y3, y4, y5, y6, _⟩ := hr
          exact ⟨c, us, y1, y4, y2, y3, y6⟩
    · cases x1'
  · cases hp
/-- THE RULE of a def whose first parameter is an oven -/
theorem fnO_ok (F : Fun K x qual stm f fd) (Sc : FnScope N ps (defScope stm))
    (hbody : ∀ (cdv : Value) (A : Around) (outer : List Env) (s : Shared) (H : Hp) (E : XK), Room k (A.deeper (PyProof.Rows.envOfC qual (defScope stm) s.heap.objs.size f cdv)) → OkSs (cxOf CX0 P w K mg base N qual (defScope stm) f cdv A outer s H E).nox (defBody stm) body) :
    FnOk P w K mg base CX0 (k + 1) f fd ps (spO K (fnO ps.length N.length body)) := by
  have len : ∀ vs H Q E, spO K (fnO ps.length N.length body) vs H Q E → vs.length = ps.length := fun vs H Q E h => by
    obtain ⟨S, C, p, dx, l, vb, mv, ws, b, st, ds, r, st', hC, sh, rfl, hp, hl, hS, hb, hm, h1, h2, q⟩ := h
    obtain ⟨ρ, e, _⟩ := ol_some h2
    unfold startO at e
    split at e
    · rename_i hl
      rw [List.length_cons, h1.length]
      exact hl
    · cases e
  refine F.ok Sc len (fun cdv A outer s H vs Q E hr h => ⟨_, hbody cdv A outer s H E hr, ?_⟩)
  have hlen := len _ _ _ _ h
  obtain ⟨S, C, p, dx, l, vb, mv, ws, b, st, ds, r, st', hC, sh, rfl, hp, hl, hS, hb, hm, h1, h2, q⟩ := h
  obtain ⟨ρ, e, h2⟩ := ol_some h2
  obtain ⟨o, e2, h2⟩ := ol_some h2
  unfold startO at e
  split at e
  · cases e
    have R := startO_rep (N.length - ps.length) hC sh hp hl hS hb hm h1
    have es : L2.start N (V.ref p :: ws) = (V.ref p :: ws).map some ++ List.replicate (N.length - ps.length) none := by
      unfold L2.start
      rw [hlen]
    rw [es]
    refine ⟨_, S, _, o, R, e2, ?_⟩
    cases o with
    | nx ρ' =>
      obtain ⟨st2, hs, h2⟩ := ol_some h2
      cases h2
      exact fun σ' H' S' R' s' _ => endO (r := .da .none) R' s' hs .non q
    | bk ρ' => cases h2
    | ct ρ' => cases h2
    | rt r' ρ' =>
      cases r' with
      | da d =>
        obtain ⟨st2, hs, h2⟩ := ol_some h2
        cases h2
        exact fun v σ' H' S' R' s' o' => endO (r := .da d) R' s' hs o' q
      | fr fs =>
        obtain ⟨st2, hs, h2⟩ := ol_some h2
        cases h2
        exact fun v σ' H' S' R' s' o' => endO (r := .fr fs) R' s' hs o' q
      | bo i => cases h2
  · cases e
end
end DL
set_option maxHeartbeats 2000000
/-! The data layer 26: len, == of ovens; a def of an oven and of a list that may change. -/
namespace DL
open PySem L2 PySem.Spec PyProof.Rows
def rLenOwn (C : Addr) (sp : Sp) : List V → Hp → VK → Prop := fun xs H Q => ∃ (a dx : Addr) (fs : List (Str × V)), xs = [.ref a] ∧ H a = some (.ins C dx fs) ∧ sp [.ref a] H (fun v H' => ∃ n : Int, v = .int n ∧ 0 ≤ n ∧ n < 2 ^ 62 ∧ Q (.int n) H') E0
def rEqOwn (K : PySem.W.Frag) (C : Addr) (sp : Sp) : R2 := fun x y H Q => ∃ (a dx : Addr) (fs : List (Str × V)) (tb : Value), x = .ref a ∧ H a = some (.ins C dx fs) ∧ TyX K H y tb ∧ PySem.W.notFirst K C tb = true ∧ sp [.ref a, y] H (fun v H' => ∃ b, v = .bl b ∧ Q (.bl b) H') E0
section
variable {X : Cx} {k : Nat} {C f : Addr} {fd : FuncData} {ps : List Str} {sp : Sp}
theorem call_lenOwn (F : FnOk X.prog X.w X.K X.mg X.base CX0 k f fd ps sp) (hr : Room (k + 1) X.A) (hs : PySem.W.findIn X.K (.ref C) "__len__" = some (some (.ref f))) (hf : PySem.W.isFn X.K (.ref f) = true) (hb : Binds X.K fd ps []) : CallR X (.builtin "len") (rLenOwn C sp) := by
  intro pins s σ H xs us Q I r h
  obtain ⟨a, dx, fs, rfl, ha, hsp⟩ := h
  cases r with
  | cons r0 rr =>
    cases rr
    cases r0
    obtain ⟨mA, J, _⟩ := ins_get I.hok ha
    obtain ⟨od, J, _⟩ := J.look
    obtain ⟨m, hF⟩ := I.fr
    refine PySem.W.len_K hF I.ok.mod.kin J hs hf ?_
    have hl := F.len _ _ _ _ hsp
    refine wpAny_call (codeAny_mono (F.run X.A.in1 X.stack s H ⟨[.ref a], []⟩ [.ref a] [.ref a] _ E0 hr.in1 I.env0.in1 (by
      have := hb s [.ref a] I.kIn (by simpa using hl)
      simpa using this) (.cons rfl .nil) hsp) fun r s' hq => ?_)
    cases r with
    | error e => exact pass0 (X := X) pins σ H s e s' I hq
    | ok fl =>
      cases fl with
      | ret w =>
        obtain ⟨z, H', I', rz, n, ez, h1, h2, q⟩ := I.after hq
        subst ez
        obtain ⟨tk, rfl⟩ := (show ∃ t, w = Value.int n t from rz)
        exact ⟨⟨h1, by omega⟩, .int n, H', I'.tok _, ⟨_, rfl⟩, q⟩
      | next => exact False.elim hq
      | brk => exact False.elim hq
      | cont => exact False.elim hq
theorem op_eqOwn (F : FnOk X.prog X.w X.K X.mg X.base CX0 k f fd ps sp) (hr : Room k X.A) (hs : PySem.W.findIn X.K (.ref C) "__eq__" = some (some (.ref f))) (hf : PySem.W.isFn X.K (.ref f) = true) (hb : Binds X.K fd ps []) : OpR X (compareOp .Eq) (rEqOwn X.K C sp) := by
  intro pins s σ H x y v u Q I rx ry h
  obtain ⟨a, dx, fs, tb, rfl, ha, ty, hn, hsp⟩ := h
  cases rx
  obtain ⟨mA, J, _⟩ := ins_get I.hok ha
  obtain ⟨od, J, _⟩ := J.look
  obtain ⟨m, hF⟩ := I.fr
  obtain ⟨P, Z, hp, _⟩ := kit_of I ry ty
  show wpAny (model X.prog X.w) X.A (richCompare .Eq (.ref a) u) (EP X pins σ Q) X.xe s
  refine PySem.W.cmp_K (op := .Eq) (tb := tb) hr.units0 hF I.ok.mod.kin J (Z.ty _ _ I.kIn hp) hn hs hf ?_
  have hl := F.len _ _ _ _ hsp
  refine wpAny_call (codeAny_mono (F.run X.A X.stack s H ⟨[.ref a, u], []⟩ [.ref a, u] [.ref a, y] _ E0 hr I.env0 (by
    have := hb s [.ref a, u] I.kIn (by simpa using hl)
    simpa using this) (.cons rfl (.cons ry .nil)) hsp) fun r s' hq => ?_)
  cases r with
  | error e => exact pass0 (X := X) pins σ H s e s' I hq
  | ok fl =>
    cases fl with
    | ret w =>
      obtain ⟨z, H', I', rz, b, ez, q⟩ := I.after hq
      subst ez
      cases rz
      exact ⟨.bl b, H', I', rfl, q⟩
    | next => exact False.elim hq
    | brk => exact False.elim hq
    | cont => exact False.elim hq
end

/-! ### len(oven), oven == other, oven == data, oven.m(..).append(None) -/
def eLenO (i : Nat) (F : PyData → List PyData → List PyData → Option (Rv × List PyData)) : EF := fun ρ => ol ρ[i]? fun s => ob s.ovn fun b st => ob (F b st []) fun r st' => ol (intR r) fun n => if 0 ≤ n ∧ n < 2 ^ 62 then some (.da (.int n), ρ.set i (.ob b st')) else none
def eEqOO (i j : Nat) : EF := fun ρ => ol ρ[i]? fun s => ob s.ovn fun b st => ol ρ[j]? fun s' => ob s'.ovn fun b' st' => ol (atI st (-1)) fun d => ol (atI st' (-1)) fun d' => ol (eqD (.tuple [b, d]) (.tuple [b', d'])) fun r => ol (toB r) fun x => some (.da (.bool x), ρ)
def isTupR : Rv → Bool
  | .da (.tuple _) => true
  | _ => false
def eEqOD (i : Nat) (f : EF) : EF := fun ρ => ol ρ[i]? fun s => ob s.ovn fun _ _ => ob (f ρ) fun r ρ1 => ol ρ1[i]? fun s' => ob s'.ovn fun _ _ => if isTupR r = true then some (.da (.bool false), ρ1) else none
def frR : Rv → Option (List PyData)
  | .fr ds => some ds
  | _ => none
theorem frR_some {r : Rv} {ds : List PyData} (h : frR r = some ds) : r = .fr ds := by
  cases r <;> first | (cases h; rfl) | cases h
def eFrApp (m : EF) : EF := fun ρ => ob (m ρ) fun r ρ1 => ol (frR r) fun ds => if ds.length < 16777216 then some (.da .none, ρ1) else none
/-- the own ==: with another oven, with a tuple -/
def spEq (K : PySem.W.Frag) : Sp := fun vs H Q _ => ∃ (S : Hp) (C p dx l : Addr) (vb : V) (mv : List V) (b : PyData) (st : List PyData) (y : V), OvC K C ∧ Same S H ∧ vs = [.ref p, y] ∧ H p = some (.ins C dx (ovF vb l)) ∧ H l = some (.lst mv) ∧ Da K S vb b ∧ DaAll K S mv st ∧
  ((∃ (p2 dx2 l2 : Addr) (vb2 : V) (mv2 : List V) (b2 : PyData) (st2 : List PyData) (d d2 : PyData) (x : Bool), y = .ref p2 ∧ H p2 = some (.ins C dx2 (ovF vb2 l2)) ∧ H l2 = some (.lst mv2) ∧ Da K S vb2 b2 ∧ DaAll K S mv2 st2 ∧ atI st (-1) = some d ∧ atI st2 (-1) = some d2 ∧
    eqD (.tuple [b, d]) (.tuple [b2, d2]) = some (.da (.bool x)) ∧ ∀ H', Same H H' → Q (.bl x) H') ∨
   (∃ (a : Addr) (ys : List V), y = .ref a ∧ H a = some (.tup ys) ∧ ∀ H', Same H H' → Q (.bl false) H'))
/-- what is known of the class's own == -/
structure EqC (K : PySem.W.Frag) (C : Addr) : Prop where
  ha : PySem.W.findIn K (.ref C) "__class__" = some (some (.builtin "object.__class__"))
  hn : PySem.W.specialIn K (.builtin "object.__class__") "__get__" = some (some (.builtin "getset_descriptor.__get__"))
  ht : PySem.W.takesIn K (.builtin "object.__class__") = some true
  hm : PySem.W.mroIn K C (.type "object") = some true
  ko : PySem.W.kitOne K (.ref C) (.ref C) = some true
  kt : PySem.W.kitOne K (.type "tuple") (.ref C) = some false
  no : PySem.W.notFirst K C (.ref C) = true
  nt : PySem.W.notFirst K C (.type "tuple") = true
theorem toB_some' {r : Rv} {x : Bool} (h : toB r = some x) : r = .da (.bool x) := by
  unfold toB at h
  split at h
  · cases h; rfl
  · cases h
section
variable {X : Cx} {k i j : Nat} {C f : Addr} {fd : FuncData} {ps : List Str} {F : PyData → List PyData → List PyData → Option (Rv × List PyData)} {o e a b : Expr} {p1 pos apos cpos : Pos} {fe m : EF} {K : PySem.W.Frag}
theorem ok_lenO (T : OvnC X.K C) (M : MetC X.prog X.w X.K X.mg X.base k C "__len__" f fd ps (spO X.K F)) (hr : Room (k + 1) X.A) (ho : PE X o (tVar i)) (hg : Gl X "len") (hm : X.mg "len" = none)
    (hs : starEach [o] X.env = (false, eval o X.env) :: starEach [] X.env := by rfl) (hpl : (backTo pos (starEach [] X.env)).any (·.1) = false := by rfl) : OkE X (.Call (.Name "len" p1) [o] [] pos) (eLenO i F) :=
  pe_imp (pe_callB (call_lenOwn M.c hr M.m.at_ M.m.fn M.b) hg hm PySem.boot_len (pa_cons ho pa_nil hs) (by decide) (by decide) hs hpl) fun σ H Q ⟨t, S, ρ, r, ρ', R, e, k⟩ => by
    obtain ⟨s, q1, e⟩ := ol_some e
    obtain ⟨b, st, q2, e⟩ := ob_some e
    obtain ⟨r', st', q3, e⟩ := ob_some e
    obtain ⟨n, q4, e⟩ := ol_some e
    split at e
    · rename_i hn
      cases e
      cases ovn_some q2
      cases intR_some q4
      obtain ⟨p, dx, vb, l, vs, x1, x2, x3, x4, x5, x6, x7⟩ := ov_at T R q1
      refine ⟨_, x2, p, dx, _, rfl, x3, spO_in (E := E0) T R q1 x2 .nil q3 fun v H' S' R' s' o' => ?_⟩
      cases (show Da X.K S' v (.int n) from o')
      exact ⟨n, rfl, hn.1, hn.2, k _ H' S' R' s' (.int n)⟩
    · cases e
theorem rd_eqOO {sp : Sp} (T : OvnC K C) (Z : EqC K C) (hsp : ∀ vs H Q E, spEq K vs H Q E → sp vs H Q E) : ∀ σ H Q, rdE K (eEqOO i j) σ H Q → tOp (rEqOwn K C sp) (tVar i) (tVar j) σ H Q := fun σ H Q ⟨t, S, ρ, r, ρ', R, e, k⟩ => by
  obtain ⟨s, q1, e⟩ := ol_some e
  obtain ⟨b, st, q2, e⟩ := ob_some e
  obtain ⟨s', q3, e⟩ := ol_some e
  obtain ⟨b', st', q4, e⟩ := ob_some e
  obtain ⟨d, q5, e⟩ := ol_some e
  obtain ⟨d', q6, e⟩ := ol_some e
  obtain ⟨r', q7, e⟩ := ol_some e
  obtain ⟨x, q8, e⟩ := ol_some e
  cases e
  cases ovn_some q2
  cases ovn_some q4
  cases toB_some' q8
  obtain ⟨p, dx, vb, l, vs, x1, x2, x3, x4, x5, x6, x7⟩ := ov_at T R q1
  obtain ⟨p', dx', vb', l', vs', y1, y2, y3, y4, y5, y6, y7⟩ := ov_at T R q3
  refine ⟨_, x2, _, y2, p, dx, _, _, rfl, x3, .base (.ins y3 T.cl Z.ha Z.hn Z.ht Z.hm), Z.no, hsp _ _ _ _ ⟨S, C, p, dx, l, vb, vs, b, st, _, T.ov, R.sh, rfl, x3, x4, x6, x7, .inl ⟨p', dx', l', vb', vs', b', st', d, d', x, rfl, y3, y4, y6, y7, q5, q6, q7, fun H' s' => ?_⟩⟩⟩
  exact ⟨x, rfl, k _ H' S (R.new ⟨Same.refl _, s', R.sh.trans s', fun _ _ h => h⟩) (Same.refl _) (.bl x)⟩
theorem rd_eqOD {sp : Sp} (T : OvnC K C) (Z : EqC K C) (hsp : ∀ vs H Q E, spEq K vs H Q E → sp vs H Q E) : ∀ σ H Q, rdE K (eEqOD i fe) σ H Q → tOp (rEqOwn K C sp) (tVar i) (rdE K fe) σ H Q := fun σ H Q ⟨t, S, ρ, r, ρ', R, e, k⟩ => by
  obtain ⟨s, q1, e⟩ := ol_some e
  obtain ⟨b, st, q2, e⟩ := ob_some e
  obtain ⟨r', ρ1, q3, e⟩ := ob_some e
  obtain ⟨s', q4, e⟩ := ol_some e
  obtain ⟨b', st', q5, e⟩ := ob_some e
  split at e
  · rename_i ht
    cases e
    cases ovn_some q2
    cases ovn_some q5
    obtain ⟨p, dx, vb, l, vs, x1, x2, x3, x4, x5, x6, x7⟩ := ov_at T R q1
    refine ⟨_, x2, t, S, ρ, r', _, R, q3, fun v1 H1 S1 R1 s1 o1 => ?_⟩
    obtain ⟨p', dx', vb', l', vs', y1, y2, y3, y4, y5, y6, y7⟩ := ov_at T R1 q4
    rw [x2] at y2
    cases y2
    cases r' with
    | fr ds => cases ht
    | bo i => cases ht
    | da d =>
      cases d <;> first | cases ht | skip
      cases (show Da K S1 v1 (.tuple _) from o1) with
      | @tup a xs _ ha hxs =>
        have hH := R1.sh _ _ ha
        refine ⟨p, dx', _, _, rfl, y3, .base (.tup hH), Z.nt, hsp _ _ _ _ ⟨S1, C, p, dx', l', vb', vs', b', st', _, T.ov, R1.sh, rfl, y3, y4, y6, y7, .inr ⟨a, xs, rfl, hH, fun H' s' => ?_⟩⟩⟩
        exact ⟨false, rfl, k _ H' S1 (R1.new ⟨Same.refl _, s', R1.sh.trans s', fun _ _ h => h⟩) s1 (.bl false)⟩
  · cases e
theorem ok_eqOO (T : OvnC X.K C) (Z : EqC X.K C) (M : MetC X.prog X.w X.K X.mg X.base k C "__eq__" f fd ps (spEq X.K)) (hr : Room k X.A) (ha : PE X a (tVar i)) (hb : PE X b (tVar j)) (hm : behindInMarks .Eq b = false) : OkE X (.Compare a [.Eq] [b] pos) (eEqOO i j) :=
  pe_imp (pe_cmpR (op_eqOwn M.c hr M.m.at_ M.m.fn M.b) ha hb hm) (rd_eqOO T Z fun _ _ _ _ h => h)
theorem okT_eqOO (T : OvnC X.K C) (Z : EqC X.K C) (M : MetC X.prog X.w X.K X.mg X.base k C "__eq__" f fd ps (spEq X.K)) (hr : Room k X.A) (ha : PE X a (tVar i)) (hb : PE X b (tVar j)) (hm : behindInMarks .Eq b = false) : OkT X (.Compare a [.Eq] [b] pos) (tE (eEqOO i j)) :=
  pt_imp (pt_cmpR (op_eqOwn M.c hr M.m.at_ M.m.fn M.b) ha hb hm) (rd_test (rd_eqOO T Z fun _ _ _ _ h => h))
theorem okT_eqOD (T : OvnC X.K C) (Z : EqC X.K C) (M : MetC X.prog X.w X.K X.mg X.base k C "__eq__" f fd ps (spEq X.K)) (hr : Room k X.A) (ha : PE X a (tVar i)) (hb : OkE X b fe) (hm : behindInMarks .Eq b = false) : OkT X (.Compare a [.Eq] [b] pos) (tE (eEqOD i fe)) :=
  pt_imp (pt_cmpR (op_eqOwn M.c hr M.m.at_ M.m.fn M.b) ha hb hm) (rd_test (rd_eqOD T Z fun _ _ _ _ h => h))
theorem ok_frApp {jj : Nat} (ho : OkE X o m) (hbase : attributeBase o "append" X.env (eval o X.env) = eval o X.env := by rfl)
    (hfew : ((backTo cpos (starEach [.Constant .none jj p1] X.env)).all (fun x => !x.1) && (backToKw cpos (keywordEach [] X.env)).all (fun x => x.1.isSome)
      && decide (([.Constant .none jj p1] : List Expr).length + ([] : List Keyword).length + (if ([] : List Keyword).isEmpty then 0 else 1) < 30)) = true := by rfl)
    (hline : (apos.endLine == cpos.line) = true := by rfl) (hs : starEach [.Constant .none jj p1] X.env = (false, eval (.Constant .none jj p1) X.env) :: starEach [] X.env := by rfl) (hplain : (backTo cpos (starEach [] X.env)).any (·.1) = false := by rfl) :
    OkE X (.Call (.Attribute o "append" apos) [.Constant .none jj p1] [] cpos) (eFrApp m) :=
  pe_imp (pe_bm PySem.F.plainAttrs_list PySem.F.slot_list_append PySem.F.type_list_append mt_append ho (pa_cons pe_non pa_nil hs) hbase hfew hline hs hplain) fun σ H Q ⟨t, S, ρ, r, ρ', R, e, k⟩ => by
    obtain ⟨r', ρ1, q1, e⟩ := ob_some e
    obtain ⟨ds, q2, e⟩ := ol_some e
    split at e
    · rename_i hl
      cases e
      cases frR_some q2
      refine ⟨t, S, ρ, _, _, R, q1, fun v H1 S1 R1 s1 o1 => ?_⟩
      obtain ⟨c, us, rfl, h1, h2, h3, h4, h5, h6⟩ := o1
      refine ⟨.inl ⟨rfl, _, SqL.of h1⟩, c, us, .non, rfl, rfl, h1, by rw [line_eq, h5.length]; exact hl, ?_⟩
      exact k _ _ S1 (R1.upd_other h2 h3 h4 h6) s1 .non
    · cases e
end

/-! ### f(oven, data, list): the oven and the list may change -/
def spOB (K : PySem.W.Frag) (F : PyData → List PyData → PyData → List PyData → Option (Rv × List PyData × List PyData)) : Sp := fun vs H Q _ =>
  ∃ (S : Hp) (C p dx l a : Addr) (vb v1 : V) (mv us : List V) (b d : PyData) (st ms : List PyData) (r : PyData) (st' ms' : List PyData), OvC K C ∧ Same S H ∧ vs = [.ref p, v1, .ref a] ∧ H p = some (.ins C dx (ovF vb l)) ∧ H l = some (.lst mv) ∧ S l = none ∧ H a = some (.lst us) ∧ S a = none ∧ a ≠ l ∧ Da K S vb b ∧ DaAll K S mv st ∧ Da K S v1 d ∧ DaAll K S us ms ∧ F b st d ms = some (.da r, st', ms') ∧
    ∀ v H' S' mv' us', Same S S' → Same S' H' → (∀ b, H b ≠ none → S b = none → S' b = none) → (∀ b o, b ≠ l → b ≠ a → H b = some o → H' b = some o) → H' l = some (.lst mv') → H' a = some (.lst us') → DaAll K S' mv' st' → DaAll K S' us' ms' → Da K S' v r → Q v H'
def Sl.daD : Sl → Option PyData
  | .da d => some d
  | _ => none
theorem daD_some {s : Sl} {d : PyData} (h : s.daD = some d) : s = .da d := by
  cases s <;> cases h
  rfl
def daR : Rv → Option PyData
  | .da d => some d
  | _ => none
theorem daR_some {r : Rv} {d : PyData} (h : daR r = some d) : r = .da d := by
  cases r <;> cases h
  rfl
def eCallOB (i kk j : Nat) (F : PyData → List PyData → PyData → List PyData → Option (Rv × List PyData × List PyData)) : EF := fun ρ => ol ρ[i]? fun s => ob s.ovn fun b st => ol ρ[kk]? fun s1 => ol s1.daD fun d => ol ρ[j]? fun s2 => ol s2.ls fun ms => ob (F b st d ms) fun r z => ol (daR r) fun e => some (.da e, (ρ.set j (s2.put z.2)).set i (.ob b z.1))
section
variable {X : Cx} {k i j kk : Nat} {C f : Addr} {fd : FuncData} {ps : List Str} {F : PyData → List PyData → PyData → List PyData → Option (Rv × List PyData × List PyData)} {e1 e2 e3 : Expr} {p pos : Pos} {x : Str} {K : PySem.W.Frag}
theorem rd_callOB (T : OvnC K C) : ∀ σ H Q, rdE K (eCallOB i kk j F) σ H Q → tCall (spOB K F) [] E0 (tCons (tVar i) (tCons (tVar kk) (tCons (tVar j) tNil))) σ H Q := fun σ H Q ⟨t, S, ρ, r, ρ', R, e, k⟩ => by
  obtain ⟨s, q1, e⟩ := ol_some e
  obtain ⟨b, st, q2, e⟩ := ob_some e
  obtain ⟨s1, q3, e⟩ := ol_some e
  obtain ⟨d, q4, e⟩ := ol_some e
  obtain ⟨s2, q5, e⟩ := ol_some e
  obtain ⟨ms, q6, e⟩ := ol_some e
  obtain ⟨r', z, q7, e⟩ := ob_some e
  obtain ⟨d', q8, e⟩ := ol_some e
  cases e
  cases ovn_some q2
  cases daD_some q4
  cases daR_some q8
  obtain ⟨p, dx, vb, l, vs, x1, x2, x3, x4, x5, x6, x7⟩ := ov_at T R q1
  obtain ⟨v1, w1, w2⟩ := R.dat kk d q3
  obtain ⟨a, us, e1, e2, e3, e4, e5, e6⟩ := R.own j s2 ms q5 q6
  have lk : t.lk l := ⟨p, C, dx, vb, x1⟩
  have hal : a ≠ l := fun z => R.bh.lB lk (by rw [← z]; exact e4)
  refine ⟨_, x2, _, w1, _, e1, S, C, p, dx, l, a, vb, v1, vs, us, b, d, st, ms, d', z.1, z.2, T.ov, R.sh, rfl, x3, x4, x5, e2, e3, hal, x6, x7, w2, e5, q7, fun v H' S' mv' us' n1 n2 n3 n4 n5 n6 n7 n8 o => ?_⟩
  -- first the list, the oven's as it was
  have hSl : S' l = none := n3 l (none_ne x4) x5
  have R1 : Rep K t S' (fun c => if c = l then H l else H' c) σ (ρ.set j (s2.put z.2)) := by
    refine R.after q5 q6 e1 n1 (fun c o hc => ?_) n3 (fun c o hc hH => ?_) ?_ n8
    · show (if c = l then H l else H' c) = some o
      rw [if_neg (ne_of_none hc hSl)]
      exact n2 _ _ hc
    · show (if c = l then H l else H' c) = some o
      by_cases hcl : c = l
      · rw [if_pos hcl, ← hcl]; exact hH
      · rw [if_neg hcl]; exact n4 c o hcl hc hH
    · show (if a = l then H l else H' a) = _
      rw [if_neg hal]; exact n6
  have hij : i ≠ j := fun z => by
    subst z
    rw [q1] at q5
    cases q5
    cases q6
  have q1' : (ρ.set j (s2.put z.2))[i]? = some (.ob b st) := by rw [set_ne hij]; exact q1
  have R2 := R1.afterO (H' := H') (st' := z.1) (mv' := mv') q1' x1 x2 (Same.refl _) n2 (fun _ _ h => h) (fun c o hc h => by
    have h' : (if c = l then H l else H' c) = some o := h
    rw [if_neg hc] at h'
    exact h') n5 n7
  exact k v H' S' R2 n1 o
theorem ok_callOB (T : OvnC X.K C) (C1 : FnOk X.prog X.w X.K X.mg X.base CX0 k f fd ps (spOB X.K F)) (hr : Room k X.A) (hg : Gl X x) (hm : X.mg x = some (.ref f)) (hk : PySem.W.keepIn X.K (.ref f) = true) (hb : Binds X.K fd ps [])
    (h1 : PE X e1 (tVar i)) (h2 : PE X e2 (tVar kk)) (h3 : PE X e3 (tVar j)) (hdb : (x == ("__debug__" : Str)) = false := by decide) (he : starEach [e1, e2, e3] X.env = (false, eval e1 X.env) :: starEach [e2, e3] X.env := by rfl)
    (he2 : starEach [e2, e3] X.env = (false, eval e2 X.env) :: starEach [e3] X.env := by rfl) (he3 : starEach [e3] X.env = (false, eval e3 X.env) :: starEach [] X.env := by rfl) (hpl : (backTo pos (starEach [e2, e3] X.env)).any (·.1) = false := by rfl) :
    OkE X (.Call (.Name x p) [e1, e2, e3] [] pos) (eCallOB i kk j F) := pe_imp (pe_call C1 hr hg hm hk hb .nil pass0 (pa_cons h1 (pa_cons h2 (pa_cons h3 pa_nil he3) he2) he) hdb he hpl) (rd_callOB T)
end

/-! ### a def f(oven, data, list) -/
def startOB (N : Nat) (b : PyData) (st : List PyData) (d : PyData) (ms : List PyData) : En := .ob b st :: .da d :: .pa ms :: List.replicate (N - 3) .no
def stPa (ρ : En) : Option (List PyData × List PyData) := ol (stOf ρ) fun st => ol (paOf 2 ρ) fun ms => some (st, ms)
def outOB : Out → Option (Rv × List PyData × List PyData)
  | .rt (.da d) ρ => ol (stPa ρ) fun z => some (.da d, z)
  | .nx ρ => ol (stPa ρ) fun z => some (.da .none, z)
  | _ => none
def fnOB (N : Nat) (body : SF) (b : PyData) (st : List PyData) (d : PyData) (ms : List PyData) : Option (Rv × List PyData × List PyData) := ol (body (startOB N b st d ms)) outOB
section
variable {P : Program} {w : World} {K : PySem.W.Frag} {mg : Str → Option Value} {base : Heap} {x qual : Str} {stm : Stmt} {f : Addr} {fd : FuncData} {N ps : List Str} {k : Nat} {body : SF}
abbrev tOB (H S : Hp) (C p dx l a : Addr) (vb : V) : Et := ⟨fun c => if c = a then none else H c, S, some a, fun q => if q = p then some (C, dx, vb, l) else none⟩
theorem startOB_rep {S H : Hp} {C p dx l a : Addr} {vb v1 : V} {mv us : List V} {b d : PyData} {st ms : List PyData} (m : Nat) (hC : OvC K C) (sh : Same S H) (hp : H p = some (.ins C dx (ovF vb l))) (hl : H l = some (.lst mv)) (hS : S l = none) (ha : H a = some (.lst us)) (hSa : S a = none) (hal : a ≠ l)
    (hb : Da K S vb b) (hm : DaAll K S mv st) (hd : Da K S v1 d) (hu : DaAll K S us ms) :
    Rep K (tOB H S C p dx l a vb) S H ([V.ref p, v1, .ref a].map some ++ List.replicate m none) (.ob b st :: .da d :: .pa ms :: List.replicate m .no) := by
  have hpa : p ≠ a := fun z => by
    rw [z, ha] at hp
    cases hp
  have hov : ∀ {q : Addr} {z : Addr × Addr × V × Addr}, (tOB H S C p dx l a vb).ov q = some z → q = p ∧ z = (C, dx, vb, l) := fun {q z} e => by
    have e' : (if q = p then some (C, dx, vb, l) else none) = some z := e
    split at e'
    · rename_i h
      cases e'
      exact ⟨h, rfl⟩
    · cases e'
  have at_ : ∀ {i : Nat} {s : Sl}, (Sl.ob b st :: .da d :: .pa ms :: List.replicate m .no)[i]? = some s → s ≠ .no → (i = 0 ∧ s = .ob b st) ∨ (i = 1 ∧ s = .da d) ∨ (i = 2 ∧ s = .pa ms) := fun {i s} e hs => by
    match i, e with
    | 0, e => have e' : some (Sl.ob b st) = some s := e; cases e'; exact .inl ⟨rfl, rfl⟩
    | 1, e => have e' : some (Sl.da d) = some s := e; cases e'; exact .inr (.inl ⟨rfl, rfl⟩)
    | 2, e => have e' : some (Sl.pa ms) = some s := e; cases e'; exact .inr (.inr ⟨rfl, rfl⟩)
    | i + 3, e =>
      have e' : (List.replicate m Sl.no)[i]? = some s := e
      have := List.mem_of_getElem? e'
      rw [List.mem_replicate] at this
      exact absurd this.2 hs
  have own : ∀ {i : Nat} {s : Sl} {fs : List PyData}, (Sl.ob b st :: .da d :: .pa ms :: List.replicate m .no)[i]? = some s → s.ls = some fs → i = 2 ∧ s = .pa ms := fun {i s fs} e1 e2 => by
    rcases at_ e1 (ls_no e2) with ⟨_, rfl⟩ | ⟨_, rfl⟩ | ⟨h, rfl⟩
    · cases e2
    · cases e2
    · exact ⟨h, rfl⟩
  refine ⟨sh, Same.refl _, fun b h1 h2 => h2, ⟨fun c o e => ?_, fun q C' dx' vb' l' e => ?_, fun q q' C' C'' dx' dx'' vb' vb'' l' e e' => ?_⟩, fun b e => ?_, by simp, fun i d' e => ?_, fun i s fs e1 e2 => ?_, fun i j s s' fs fs' b hij e1 e2 e3 e4 _ _ => ?_, ⟨fun i b' st' e => ?_, fun i j b' b'' st' st'' n e e' => ?_⟩⟩
  · have e' : (if c = a then none else H c) = some o := e
    split at e'
    · cases e'
    · exact .inr e'
  · obtain ⟨rfl, z⟩ := hov e
    cases z
    refine ⟨hC, ?_, hp, ?_, hS, mv, hl⟩
    · show (if q = a then none else H q) = _
      rw [if_neg hpa]; exact hp
    · show (if l = a then none else H l) ≠ none
      rw [if_neg (fun z => hal z.symm)]; exact none_ne hl
  · obtain ⟨rfl, _⟩ := hov e
    obtain ⟨rfl, _⟩ := hov e'
    rfl
  · cases e
    exact none_ne ha
  · rcases at_ e (fun z => nomatch z) with ⟨_, z⟩ | ⟨rfl, z⟩ | ⟨_, z⟩
    · cases z
    · cases z
      exact ⟨v1, rfl, hd⟩
    · cases z
  · obtain ⟨rfl, rfl⟩ := own e1 e2
    have e2' : some ms = some fs := e2
    cases e2'
    exact ⟨a, us, rfl, ha, hSa, if_pos rfl, hu, fun _ => rfl, fun _ => rfl⟩
  · obtain ⟨z1, _⟩ := own e1 e2
    obtain ⟨z2, _⟩ := own e3 e4
    exact hij (z1.trans z2.symm)
  · rcases at_ e (fun z => nomatch z) with ⟨rfl, z⟩ | ⟨rfl, z⟩ | ⟨_, z⟩
    · cases z
      exact ⟨p, C, dx, vb, l, mv, if_pos rfl, rfl, hl, hb, hm⟩
    · cases z
    · cases z
  · rcases at_ e (fun z => nomatch z) with ⟨rfl, z⟩ | ⟨rfl, z⟩ | ⟨_, z⟩
    · rcases at_ e' (fun z => nomatch z) with ⟨rfl, z⟩ | ⟨rfl, z⟩ | ⟨_, z⟩
      · exact absurd rfl n
      · cases z
      · cases z
    · cases z
    · cases z
theorem fnOB_ok (F : Fun K x qual stm f fd) (Sc : FnScope N ps (defScope stm)) (h3 : ps.length = 3)
    (hbody : ∀ (cdv : Value) (A : Around) (outer : List Env) (s : Shared) (H : Hp) (E : XK), Room k (A.deeper (PyProof.Rows.envOfC qual (defScope stm) s.heap.objs.size f cdv)) → OkSs (cxOf CX0 P w K mg base N qual (defScope stm) f cdv A outer s H E).nox (defBody stm) body) :
    FnOk P w K mg base CX0 (k + 1) f fd ps (spOB K (fnOB N.length body)) := by
  refine F.ok Sc (fun vs H Q E h => ?_) (fun cdv A outer s H vs Q E hr h => ⟨_, hbody cdv A outer s H E hr, ?_⟩)
  · obtain ⟨S, C, p, dx, l, a, vb, v1, mv, us, b, d, st, ms, r, st', ms', hC, sh, rfl, _⟩ := h
    rw [h3]
    rfl
  · obtain ⟨S, C, p, dx, l, a, vb, v1, mv, us, b, d, st, ms, r, st', ms', hC, sh, rfl, hp, hl, hS, ha, hSa, hal, hb, hm, hd, hu, h2, q⟩ := h
    obtain ⟨o, e2, h2⟩ := ol_some h2
    have R := startOB_rep (N.length - 3) hC sh hp hl hS ha hSa hal hb hm hd hu
    refine ⟨_, S, _, o, R, e2, ?_⟩
    have fin : ∀ {S' H' : Hp} {σ' : L2.St} {ρ' : En} {v : V} {z : List PyData × List PyData}, Rep K (tOB H S C p dx l a vb) S' H' σ' ρ' → Same S S' → stPa ρ' = some z → z = (st', ms') → Da K S' v r → Q v H' := fun {S' H' σ' ρ' v z} R' s' hz ez hv => by
      subst ez
      obtain ⟨st2, y1, hz⟩ := ol_some hz
      obtain ⟨ms2, y2, hz⟩ := ol_some hz
      cases hz
      unfold paOf at y2
      split at y2
      · rename_i ms3 hq
        cases y2
        obtain ⟨a', us', z1, z2, z3, z4, z5, z6⟩ := R'.own 2 _ _ hq rfl
        have ea : a = a' := Option.some.inj (z6.mpr rfl)
        subst ea
        unfold stOf at y1
        split at y1
        · rename_i b' st3 hq2
          cases y1
          obtain ⟨p', C', dx', vb', l', vs, x1, x2, x3, x4, x5⟩ := R'.obs.ob 0 _ _ hq2
          have x1' : (if p' = p then some (C, dx, vb, l) else none) = some (C', dx', vb', l') := x1
          split at x1'
          · cases x1'
            refine q v H' S' vs us' s' R'.sh (fun c hc hc2 => ?_) (fun c o hc hc2 e => ?_) x3 z2 x5 z5 hv
            · by_cases hca : c = a
              · subst hca; exact z3
              · refine R'.sn c ?_ hc2
                show (if c = a then none else H c) ≠ none
                rw [if_neg hca]; exact hc
            · refine (R'.bh.b1 c o (by show (if c = a then none else H c) = some o; rw [if_neg hc2]; exact e)).resolve_left fun ⟨p2, C2, dx2, vb2, z⟩ => ?_
              have z' : (if p2 = p then some (C, dx, vb, l) else none) = some (C2, dx2, vb2, c) := z
              split at z'
              · cases z'
                exact hc rfl
              · cases z'
          · cases x1'
        · cases y1
      · cases y2
    cases o with
    | nx ρ' =>
      obtain ⟨z, hz, h2⟩ := ol_some h2
      cases h2
      exact fun σ' H' S' R' s' _ => fin R' s' hz rfl .non
    | bk ρ' => cases h2
    | ct ρ' => cases h2
    | rt r' ρ' =>
      cases r' with
      | da d =>
        obtain ⟨z, hz, h2⟩ := ol_some h2
        cases h2
        exact fun v σ' H' S' R' s' o' => fin R' s' hz rfl o'
      | fr fs => cases h2
      | bo i => cases h2
end
end DL
set_option maxHeartbeats 2000000
/-! The data layer 27: ovens are made; promises with and without errors. -/
namespace DL
open PySem L2 PySem.Spec PyProof.Rows
section
variable {P : Program} {w : World} {K : PySem.W.Frag} {mg : Str → Option Value} {base : Heap} {k : Nat} {f : Addr} {fd : FuncData} {ps : List Str} {sp sp' : Sp}
theorem toX (F : FnOk P w K mg base CX0 k f fd ps sp) : FnOk P w K mg base (L2.CX P w) k f fd ps sp :=
  ⟨F.len, fun A outer s H args us vs Q E hr he hb hv hs => codeAny_mono (F.run A outer s H args us vs Q E hr he hb hv hs) fun r s' h => by
    cases r with
    | error e => exact False.elim h
    | ok fl => cases fl <;> exact h⟩
def spOr (a b : Sp) : Sp := fun vs H Q E => a vs H Q E ∨ b vs H Q E
theorem fn_or {CX : CXT} (F : FnOk P w K mg base CX k f fd ps sp) (G : FnOk P w K mg base CX k f fd ps sp') : FnOk P w K mg base CX k f fd ps (spOr sp sp') :=
  ⟨fun vs H Q E h => h.elim (F.len vs H Q E) (G.len vs H Q E), fun A outer s H args us vs Q E hr he hb hv hs => hs.elim (F.run A outer s H args us vs Q E hr he hb hv) (G.run A outer s H args us vs Q E hr he hb hv)⟩
end
def st0 : PyData := .tuple [.int 0, .tuple []]
/-- an oven is set up at p -/
structure InitTo (K : PySem.W.Frag) (C : Addr) (S H : Hp) (p : Addr) (b : PyData) (S' H' : Hp) (l : Addr) (vb : V) : Prop where
  ss : Same S S'
  sh : Same S' H'
  fr : ∀ c, H c ≠ none → S c = none → S' c = none
  hh : ∀ c o, c ≠ p → H c = some o → H' c = some o
  hp : ∃ dx, H' p = some (.ins C dx (ovF vb l))
  nl : H l = none
  hl : ∃ mv, H' l = some (.lst mv) ∧ DaAll K S' mv [st0]
  sl : S' l = none
  db : Da K S' vb b
def spInit (K : PySem.W.Frag) (C : Addr) (FB : List PyData → Option Rv) : Sp := fun vs H Q _ => ∃ (S : Hp) (p dx : Addr) (y : V) (b : PyData), Same S H ∧ vs = [.ref p, y] ∧ H p = some (.ins C dx []) ∧ S p = none ∧ Da K S y b ∧ FB [b] = some (.da (.bool true)) ∧
  ∀ S' H' l vb, InitTo K C S H p b S' H' l vb → Q .non H'
/-- the promise where it raises -/
def spInitX (K : PySem.W.Frag) (C CN : Addr) (FB : List PyData → Option Rv) : Sp := fun vs H Q E => ∃ (S : Hp) (p dx : Addr) (y : V) (b : PyData), Same S H ∧ vs = [.ref p, y] ∧ H p = some (.ins C dx []) ∧ S p = none ∧ Da K S y b ∧ FB [b] = some (.da (.bool false)) ∧
  ∀ H', Same H H' → E (.ref CN) none H'
def b_ck (FB : List PyData → Option Rv) : SF := sIf (tNotF (tE (eCall FB (aCons (eVar 1) aNil)))) sNever sNil
theorem ck_ok {FB : List PyData → Option Rv} {p : Addr} {b : PyData} (h : FB [b] = some (.da (.bool true))) : b_ck FB [.da (adrD p), .da b] = some (.nx [.da (adrD p), .da b]) := by
  unfold b_ck
  rw [x_sIf]
  show ob (tNotF (tE (eCall FB (aCons (eVar 1) aNil))) _) _ = _
  have e : eCall FB (aCons (eVar 1) aNil) [.da (adrD p), .da b] = some (.da (.bool true), [.da (adrD p), .da b]) := by
    unfold eCall
    show ol (FB [b]) _ = _
    rw [h]
    rfl
  simp [tNotF, tE, e, sNil, h]
theorem adr_of {K : PySem.W.Frag} {S : Hp} {v : V} {a : Addr} (h : Da K S v (adrD a)) : v = .ref a := by
  unfold adrD at h
  generalize hd : PyData.dict [(.bool false, .none), (.none, .int (Int.ofNat a))] = d at h
  cases h with
  | adr b =>
    unfold adrD at hd
    simp only [PyData.dict.injEq, List.cons.injEq, Prod.mk.injEq, PyData.int.injEq, true_and, and_true] at hd
    have : a = b := by exact Int.ofNat.inj hd
    rw [this]
  | exn h => unfold exnD at hd; simp at hd
  | scr h => unfold scr at hd; simp at hd
  | dct h => unfold dctD at hd; simp at hd
  | _ => cases hd
theorem init_rd {K : PySem.W.Frag} {FB : List PyData → Option Rv} {D : Ends} {C p dx : Addr} {S H : Hp} {y : V} {b : PyData} (T : OvnC K C) (sh : Same S H) (hp : H p = some (.ins C dx [])) (hSp : S p = none) (hy : Da K S y b) (hF : FB [b] = some (.da (.bool true)))
    (q : ∀ σ S' H' l vb, InitTo K C S H p b S' H' l vb → D.nx σ H') :
    tSeq (rdS K (b_ck FB)) (tSeq (sFld K (tVar 0) (tVar 1) "batch") (sFld K (tVar 0) (tLst (tCons (tTup (tCons (tC (.int 0)) (tCons (tTup tNil) tNil))) tNil)) "stands")) D [some (.ref p), some y] H := by
  have R := start_rep 0 (DaAll.cons (.adr p) (.cons hy .nil)) sh
  refine ⟨_, S, _, _, R, ck_ok hF, fun σ' H1 S1 R1 s1 hl => ?_⟩
  obtain ⟨v0, e0, d0⟩ := R1.dat 0 _ rfl
  obtain ⟨v1, e1, d1⟩ := R1.dat 1 _ rfl
  cases adr_of d0
  have hh : Same H H1 := R1.bh.same fun _ => rfl
  have hp1 := hh _ _ hp
  have hS1 : S1 p = none := R1.sn p (none_ne hp) hSp
  refine ⟨v1, e1, _, e0, p, C, dx, [], rfl, hp1, T.cl, T.nB, by decide, ?_⟩
  show sFld K (tVar 0) (tLst (tCons (tTup (tCons (tC (.int 0)) (tCons (tTup tNil) tNil))) tNil)) "stands" D σ' _
  refine ⟨Nat.zero_le _, fun q1 n1 => ⟨(by show 2 ≤ sizeLine; decide), fun q2 n2 => ⟨(by show 1 ≤ sizeLine; decide), fun l n3 => ⟨_, e0, p, C, dx, putF "batch" v1 [], rfl, ?_, T.cl, T.nS, ?_, ?_⟩⟩⟩⟩
  · have a1 : p ≠ q1 := fun z => by rw [z, upd_same] at n1; cases n1
    have a2 : p ≠ q2 := fun z => by rw [z, upd_ne (by rw [← z]; exact a1), ← z, upd_same] at n2; cases n2
    have a3 : p ≠ l := fun z => by rw [z, upd_ne (by rw [← z]; exact a2), upd_ne (by rw [← z]; exact a1), ← z, upd_same] at n3; cases n3
    rw [upd_ne a3, upd_ne a2, upd_ne a1, upd_same]
  · show 1 < 1000
    decide
  · have a1 : q1 ≠ p := fun z => by rw [z, upd_same] at n1; cases n1
    have a2 : q2 ≠ q1 := fun z => by rw [z, upd_same] at n2; cases n2
    have a2p : q2 ≠ p := fun z => by rw [z, upd_ne a1.symm, upd_same] at n2; cases n2
    have a3 : l ≠ q2 := fun z => by rw [z, upd_same] at n3; cases n3
    have a31 : l ≠ q1 := fun z => by rw [z, upd_ne a2.symm, upd_same] at n3; cases n3
    have a3p : l ≠ p := fun z => by rw [z, upd_ne a2p.symm, upd_ne a1.symm, upd_same] at n3; cases n3
    have m1 : H1 q1 = none := by rw [upd_ne a1] at n1; exact n1
    have m2 : H1 q2 = none := by rw [upd_ne a2, upd_ne a2p] at n2; exact n2
    have m3 : H1 l = none := by rw [upd_ne a3, upd_ne a31, upd_ne a3p] at n3; exact n3
    have t1 : S1 q1 = none := R1.sh.free m1
    have t2 : S1 q2 = none := R1.sh.free m2
    have t3 : S1 l = none := R1.sh.free m3
    have u2 : upd S1 q1 (.tup []) q2 = none := by rw [upd_ne a2]; exact t2
    have s2 : Same S1 (upd (upd S1 q1 (.tup [])) q2 (.tup [.int 0, .ref q1])) := (same_put t1).trans (same_put u2)
    refine q _ (upd (upd S1 q1 (.tup [])) q2 (.tup [.int 0, .ref q1])) _ l v1 ⟨s1.trans s2, fun c o e => ?_, fun c h1 h2 => ?_, fun c o hc e => ?_, ⟨dx, by rw [upd_same]; rfl⟩, ?_, ⟨[.ref q2], by rw [upd_ne a3p, upd_same], .cons ?_ .nil⟩, ?_, d1.mono s2⟩
    · by_cases c2 : c = q2
      · subst c2
        rw [upd_same] at e
        cases e
        rw [upd_ne a2p, upd_ne a3.symm, upd_same]
      · rw [upd_ne c2] at e
        by_cases c1 : c = q1
        · subst c1
          rw [upd_same] at e
          cases e
          rw [upd_ne a1, upd_ne a31.symm, upd_ne a2.symm, upd_same]
        · rw [upd_ne c1] at e
          have cp : c ≠ p := ne_of_none e hS1
          have cl : c ≠ l := ne_of_none e t3
          rw [upd_ne cp, upd_ne cl, upd_ne c2, upd_ne c1, upd_ne cp]
          exact R1.sh _ _ e
    · have hc := none_ne (R1.bh.nn h1 |> fun z => (Option.ne_none_iff_exists'.mp z).choose_spec)
      have c2 : c ≠ q2 := fun z => hc (by rw [z]; exact m2)
      have c1 : c ≠ q1 := fun z => hc (by rw [z]; exact m1)
      rw [upd_ne c2, upd_ne c1]
      exact R1.sn c h1 h2
    · have e1 := hh _ _ e
      have c2 : c ≠ q2 := ne_of_none e1 m2
      have c1 : c ≠ q1 := ne_of_none e1 m1
      have cl : c ≠ l := ne_of_none e1 m3
      rw [upd_ne hc, upd_ne cl, upd_ne c2, upd_ne c1, upd_ne hc]
      exact e1
    · exact hh.free m3
    · exact .tup upd_same (.cons (.int 0) (.cons (.tup (by rw [upd_ne a2.symm, upd_same]) .nil) .nil))
    · rw [upd_ne a3, upd_ne a31]
      exact t3

/-! ### Oven(batch) -/
/-- a new oven at p -/
structure Made (K : PySem.W.Frag) (C : Addr) (S H : Hp) (b : PyData) (S' H' : Hp) (p l : Addr) : Prop where
  n : New S H S' H'
  np : H p = none
  nl : H l = none
  hp : ∃ dx vb, H' p = some (.ins C dx (ovF vb l)) ∧ Da K S' vb b
  hl : ∃ mv, H' l = some (.lst mv) ∧ DaAll K S' mv [st0]
  sl : S' l = none
theorem make_in {K : PySem.W.Frag} {C : Addr} {FB : List PyData → Option Rv} {ta : TA} {S H : Hp} {σ : L2.St} {Q : VK} {E : XK} {y : V} {b : PyData} (sh : Same S H) (hy : Da K S y b) (hF : FB [b] = some (.da (.bool true)))
    (ht : ∀ Q' : List V → Hp → Prop, Q' [y] H → ta σ H Q') (k : ∀ S' H' p l, Made K C S H b S' H' p l → Q (.ref p) H') : tMake C (spInit K C FB) [] E ta σ H Q := by
  refine ht _ fun x dx nx ndx nex => ?_
  have hs : Same H (upd (upd H dx (.own x)) x (.ins C dx [])) := fun c o e => by
    rw [upd_ne (ne_of_none e nx), upd_ne (ne_of_none e ndx)]
    exact e
  refine ⟨S, x, dx, y, b, sh.trans hs, rfl, upd_same, sh.free nx, hy, hF, fun S' H' l vb I => ⟨rfl, k S' H' x l ?_⟩⟩
  obtain ⟨dx', hp⟩ := I.hp
  have nl : H l = none := hs.free I.nl
  refine ⟨⟨I.ss, fun c o e => I.hh c o (ne_of_none e nx) (hs _ _ e), I.sh, fun c h1 h2 => I.fr c ?_ h2⟩, nx, nl, ⟨dx', vb, hp, I.db⟩, I.hl, I.sl⟩
  intro z
  exact h1 (hs.free z)

/-! ### an oven is taken into a frame -/
section
variable {K : PySem.W.Frag} {t : Et} {S H : Hp} {σ : L2.St} {ρ : En} {i : Nat} {b : PyData} {st : List PyData} {C p dx l : Addr} {vb : V} {mv : List V}
noncomputable abbrev tAdopt (t : Et) (S H : Hp) (σ : L2.St) (ρ : En) (C p dx l : Addr) (vb : V) : Et := ⟨cut H σ ρ, S, t.pp, fun q => if q = p then some (C, dx, vb, l) else t.ov q⟩
theorem Rep.adopt (R : Rep K t S H σ ρ) (hC : OvC K C) (hp : H p = some (.ins C dx (ovF vb l))) (hl : H l = some (.lst mv)) (hS : S l = none) (hown : ∀ (i : Nat) (s : Sl) (ds : List PyData), ρ[i]? = some s → s.ls = some ds → σ[i]? ≠ some (some (.ref l))) (hlk : ¬ t.lk l) (hov : t.ov p = none)
    (hb : Da K S vb b) (hm : DaAll K S mv st) (hi : ∀ ds, ρ[i]? ≠ some (.pa ds)) (hlen : i < ρ.length) : Rep K (tAdopt t S H σ ρ C p dx l vb) S H (σ.set i (some (.ref p))) (ρ.set i (.ob b st)) := by
  have hov1 : ∀ {q : Addr} {z : Addr × Addr × V × Addr}, (tAdopt t S H σ ρ C p dx l vb).ov q = some z → (q = p ∧ z = (C, dx, vb, l)) ∨ (q ≠ p ∧ t.ov q = some z) := fun {q z} e => by
    have e' : (if q = p then some (C, dx, vb, l) else t.ov q) = some z := e
    split at e'
    · rename_i h
      cases e'
      exact .inl ⟨h, rfl⟩
    · rename_i h
      exact .inr ⟨h, e'⟩
  have ls_ : ∀ {j : Nat} {s : Sl} {ds : List PyData}, (ρ.set i (.ob b st))[j]? = some s → s.ls = some ds → j ≠ i ∧ ρ[j]? = some s := fun {j s ds} q1 q2 => by
    rcases set_get q1 with ⟨_, rfl, _⟩ | ⟨h, q⟩
    · cases q2
    · exact ⟨h, q⟩
  have hil : i < σ.length := by rw [R.len]; exact hlen
  refine ⟨R.sh, Same.refl _, fun b _ h => h, ⟨fun c o e => .inr (cut_some e).1, fun q C' dx' vb' l' e => ?_, fun q q' C' C'' dx' dx'' vb' vb'' l' e e' => ?_⟩, R.ph, by rw [List.length_set, List.length_set]; exact R.len, fun j d q => ?_, fun j s fs q1 q2 => ?_, fun j k s1 s2 fs fs' c hb q1 q2 q3 q4 z1 z2 => ?_, ⟨fun j b' s' q => ?_, fun j k b1 b2 s1 s2 n q1 q2 => ?_⟩⟩
  · rcases hov1 e with ⟨rfl, z⟩ | ⟨_, e⟩
    · cases z
      refine ⟨hC, ?_, hp, ?_, hS, mv, hl⟩
      · refine cut_of hp fun j s ds h1 h2 h3 => ?_
        obtain ⟨a, us, w1, w2, _⟩ := R.own j s ds h1 h2
        rw [h3] at w1
        cases w1
        rw [hp] at w2
        cases w2
      · exact none_ne (cut_of hl hown)
    · obtain ⟨x1, x2, x3, x4, x5, x6⟩ := R.bh.b2 q C' dx' vb' l' e
      refine ⟨x1, ?_, x3, fun z => ?_, R.sn l' x4 x5, x6⟩
      · show cut H σ ρ q = _
        rw [cut_B R (none_ne x2)]
        exact x3
      · have z' : cut H σ ρ l' = none := z
        rw [cut_B R x4] at z'
        exact R.bh.nn x4 z'
  · rcases hov1 e with ⟨rfl, z⟩ | ⟨_, e1⟩
    · cases z
      rcases hov1 e' with ⟨rfl, z⟩ | ⟨_, e2⟩
      · rfl
      · exact absurd ⟨_, _, _, _, e2⟩ hlk
    · rcases hov1 e' with ⟨rfl, z⟩ | ⟨_, e2⟩
      · cases z
        exact absurd ⟨_, _, _, _, e1⟩ hlk
      · exact R.bh.b3 _ _ _ _ _ _ _ _ _ e1 e2
  · rcases set_get q with ⟨_, z, _⟩ | ⟨hj, q⟩
    · cases z
    · obtain ⟨v, z1, z2⟩ := R.dat j d q
      exact ⟨v, by rw [set_ne hj]; exact z1, z2⟩
  · obtain ⟨hj, q⟩ := ls_ q1 q2
    obtain ⟨a, us, e1, e2, e3, e4, e5, e6⟩ := R.own j s fs q q2
    refine ⟨a, us, by rw [set_ne hj]; exact e1, e2, e3, ?_, e5, e6⟩
    cases q : cut H σ ρ a with
    | none => exact q
    | some o => exact absurd e1 ((cut_some q).2 j s fs ‹_› q2)
  · obtain ⟨h1, y1⟩ := ls_ q1 q2
    obtain ⟨h2, y2⟩ := ls_ q3 q4
    rw [set_ne h1] at z1
    rw [set_ne h2] at z2
    exact R.dis j k s1 s2 fs fs' c hb y1 q2 y2 q4 z1 z2
  · rcases set_get q with ⟨rfl, z, _⟩ | ⟨hj, q⟩
    · cases z
      exact ⟨p, C, dx, vb, l, mv, if_pos rfl, by rw [List.getElem?_set_self hil], hl, hb, hm⟩
    · obtain ⟨p', C', dx', vb', l', vs, x1, x2, x⟩ := R.obs.ob j b' s' q
      have np : p' ≠ p := fun z => by rw [z, hov] at x1; cases x1
      exact ⟨p', C', dx', vb', l', vs, by show (if p' = p then _ else _) = _; rw [if_neg np]; exact x1, by rw [set_ne hj]; exact x2, x⟩
  · have key : ∀ {j : Nat} {b1 : PyData} {s1 : List PyData}, j ≠ i → ρ[j]? = some (.ob b1 s1) → σ[j]? ≠ some (some (.ref p)) := fun {j b1 s1} hj q z => by
      obtain ⟨p', C', dx', vb', l', vs, x1, x2, x⟩ := R.obs.ob j _ _ q
      rw [z] at x2
      cases x2
      rw [hov] at x1
      cases x1
    rcases set_get q1 with ⟨e1, _, _⟩ | ⟨hj, w1⟩
    · rcases set_get q2 with ⟨e2, _, _⟩ | ⟨hk, w2⟩
      · exact absurd (e1.trans e2.symm) n
      · rw [e1, List.getElem?_set_self hil, set_ne hk]
        exact fun z => key hk w2 z.symm
    · rcases set_get q2 with ⟨e2, _, _⟩ | ⟨hk, w2⟩
      · rw [e2, List.getElem?_set_self hil, set_ne hj]
        exact key hj w1
      · rw [set_ne hj, set_ne hk]
        exact R.obs.od j k _ _ _ _ n w1 w2
/-- what stood at the start stays -/
structure Kp (t : Et) (S0 H0 : Hp) : Prop where
  k1 : ∀ b o, H0 b = some o → t.B b = some o ∧ ¬ t.lk b
  k2 : ∀ b, H0 b ≠ none → S0 b = none → t.S0 b = none
theorem kp_start {S0 H0 : Hp} : Kp ⟨H0, S0, none, fun _ => none⟩ S0 H0 := ⟨fun b o e => ⟨e, fun ⟨p, _, _, _, z⟩ => nomatch z⟩, fun _ _ h => h⟩
theorem Kp.adopt {S0 H0 : Hp} (k : Kp t S0 H0) (R : Rep K t S H σ ρ) (hl : H0 l = none) : Kp (tAdopt t S H σ ρ C p dx l vb) S0 H0 := by
  refine ⟨fun c o e => ?_, fun c h1 h2 => ?_⟩
  · obtain ⟨e1, e2⟩ := k.k1 c o e
    refine ⟨?_, fun ⟨q, C', dx', vb', z⟩ => ?_⟩
    · show cut H σ ρ c = _
      rw [cut_B R (none_ne e1)]
      exact R.bh.get e1 e2
    · have z' : (if q = p then some (C, dx, vb, l) else t.ov q) = some (C', dx', vb', c) := z
      split at z'
      · cases z'
        rw [hl] at e
        cases e
      · exact e2 ⟨_, _, _, _, z'⟩
  · obtain ⟨o, e⟩ := Option.ne_none_iff_exists'.mp h1
    exact R.sn c (none_ne (k.k1 c o e).1) (k.k2 c h1 h2)
theorem Kp.new {S0 H0 : Hp} (k : Kp t S0 H0) (R : Rep K t S H σ ρ) (ss : Same S0 S) : New S0 H0 S H :=
  ⟨ss, fun c o e => R.bh.get (k.k1 c o e).1 (k.k1 c o e).2, R.sh, fun c h1 h2 => by
    obtain ⟨o, e⟩ := Option.ne_none_iff_exists'.mp h1
    exact R.sn c (none_ne (k.k1 c o e).1) (k.k2 c h1 h2)⟩
end
end DL
set_option maxHeartbeats 2000000
/-! The data layer 28: a list's truth; what makes ovens; the end of the law. -/
namespace DL
open PySem L2 PySem.Spec PyProof.Rows
def tLst (f : EF) : TF := fun ρ => ob (f ρ) fun r ρ1 => ol (vw ρ1 r) fun d => ol (lsD d) fun xs => some (!xs.isEmpty, ρ1)
theorem okT_lst {X : Cx} {e : Expr} {f : EF} (h : OkE X e f) (he : ∀ whole, isTrue e X.env whole = (do let v ← whole; standAt e.pos; holding [v] (truthy v)) := by intro _; rfl) : OkT X e (tLst f) :=
  pt_imp (pt_truth h he) fun σ H Q ⟨t, S, ρ, r, ρ', R, e, k⟩ => by
    obtain ⟨x, ρ1, q1, e⟩ := ob_some e
    obtain ⟨d, q2, e⟩ := ol_some e
    obtain ⟨xs, q3, e⟩ := ol_some e
    cases e
    cases lsD_some q3
    refine ⟨t, S, ρ, x, _, R, q1, fun v H1 S1 R1 s1 o1 => ?_⟩
    obtain ⟨a, us, rfl, ha, da⟩ := (R1.vwO o1 q2).lst R1.sh
    have hk := k H1 S1 R1 s1
    have he2 : (!us.isEmpty) = (!xs.isEmpty) := by cases da <;> rfl
    exact ⟨!us.isEmpty, .inl ⟨us, SqL.of ha, rfl⟩, by rw [he2]; exact hk⟩
/-- ovens of the batch in slot bi -/
def sMk3 (FB : List PyData → Option Rv) (bi i j l : Nat) : SF := fun ρ => ol ρ[bi]? fun s => ol s.daD fun d => match FB [d] with
  | some (.da (.bool true)) => some (.nx (((ρ.set i (.ob d [st0])).set j (.ob d [st0])).set l (.ow [st0])))
  | _ => none
def sMk1 (FB FL : List PyData → Option Rv) (bi i j : Nat) : SF := fun ρ => ol ρ[bi]? fun s => ol s.daD fun d => match FB [d], FL [d] with
  | some (.da (.bool true)), some (.da e) => some (.nx ((ρ.set i (.ob d [st0])).set j (.da e)))
  | _, _ => none
/-- try: Oven(batch + batch), refused -/
def sTryNB (FB : List PyData → Option Rv) (bi : Nat) : SF := fun ρ => ol ρ[bi]? fun s => ol s.daD fun d => match addD d d with
  | some (.da e) => match FB [e] with
    | some (.da (.bool false)) => some (.rt (.da (.bool true)) ρ)
    | _ => none
  | _ => none
end DL
set_option maxHeartbeats 2000000
/-! The data layer 29: refusals of an oven's methods. -/
namespace DL
open PySem L2 PySem.Spec PyProof.Rows
/-- the refusals -/
inductive Ek where | tick | empty | left | raw (z : Str)
def kindD : Ek → PyData
  | .tick => .str "NoTicks"
  | .empty => .str "Empty"
  | .left => .str "NothingLeft"
  | .raw z => .tuple [.str "Raw", .str z]
structure EkC where
  t : Addr
  e : Addr
  l : Addr
  r : Addr
def EkC.at (c : EkC) : Ek → Addr
  | .tick => c.t
  | .empty => c.e
  | .left => c.l
  | .raw _ => c.r
def ErrTo (c : EkC) (E : XK) (H' : Hp) : Ek → Prop
  | .raw z => ∀ H'' d, H' d = none → H'' d = some (.xd [("name", .str z)]) → Same H' H'' → E (.ref c.r) (some d) H''
  | .tick => E (.ref c.t) none H'
  | .empty => E (.ref c.e) none H'
  | .left => E (.ref c.l) none H'
/-- an error of a text, without __init__ of its own -/
structure TxtE (K : PySem.W.Frag) (mg : Str → Option Value) (x : Str) (C : Addr) : Prop where
  g : mg x = some (.ref C)
  x : PySem.W.excIn K C [.type "ValueError", .type "Exception", .type "BaseException", .type "object"] "ValueError.__new__" = true
  k : PySem.W.keepIn K (.ref C) = true
  b : PySem.W.subIn K (.ref C) (.type "BaseException") = some true
  t : PySem.W.typeIn K (.ref C) = some (.type "type")
def spE (K : PySem.W.Frag) (c : EkC) (G : PyData → List PyData → List PyData → Option (Ek × List PyData)) : Sp := fun vs H Q E =>
  ∃ (S : Hp) (C p dx l : Addr) (vb : V) (mv ws : List V) (b : PyData) (st ds : List PyData) (r : Ek) (st' : List PyData), OvC K C ∧ Same S H ∧ vs = .ref p :: ws ∧ H p = some (.ins C dx (ovF vb l)) ∧ H l = some (.lst mv) ∧ S l = none ∧ Da K S vb b ∧ DaAll K S mv st ∧ DaAll K S ws ds ∧ G b st ds = some (r, st') ∧
    ∀ H' S' mv', Same S S' → Same S' H' → (∀ b, H b ≠ none → S b = none → S' b = none) → (∀ b o, b ≠ l → H b = some o → H' b = some o) → H' l = some (.lst mv') → DaAll K S' mv' st' → ErrTo c E H' r
def nxO : Out → Option En
  | .nx ρ => some ρ
  | _ => none
theorem nxO_some {o : Out} {ρ : En} (h : nxO o = some ρ) : o = .nx ρ := by
  cases o <;> cases h
  rfl
def strD : PyData → Option Str
  | .str z => some z
  | _ => none
theorem strD_some {d : PyData} {z : Str} (h : strD d = some z) : d = .str z := by
  cases d <;> cases h
  rfl
section
variable {K : PySem.W.Frag}
theorem endO_facts {S H S' H' : Hp} {C p dx l : Addr} {vb : V} {st' : List PyData} {σ' : L2.St} {ρ' : En} (R' : Rep K ⟨H, S, none, fun q => if q = p then some (C, dx, vb, l) else none⟩ S' H' σ' ρ') (hp : stOf ρ' = some st') :
    ∃ mv', Same S' H' ∧ (∀ b, H b ≠ none → S b = none → S' b = none) ∧ (∀ b o, b ≠ l → H b = some o → H' b = some o) ∧ H' l = some (.lst mv') ∧ DaAll K S' mv' st' := by
  unfold stOf at hp
  split at hp
  · rename_i b' st2 hq
    cases hp
    obtain ⟨p', C', dx', vb', l', vs, x1, x2, x3, x4, x5⟩ := R'.obs.ob 0 _ _ hq
    have x1' : (if p' = p then some (C, dx, vb, l) else none) = some (C', dx', vb', l') := x1
    split at x1'
    · cases x1'
      refine ⟨vs, R'.sh, fun c hc hc2 => R'.sn c hc hc2, fun c o hc e => (R'.bh.b1 c o e).resolve_left fun ⟨p2, C2, dx2, vb2, z⟩ => ?_, x3, x5⟩
      have z' : (if p2 = p then some (C, dx, vb, l) else none) = some (C2, dx2, vb2, c) := z
      split at z'
      · cases z'
        exact hc rfl
      · cases z'
    · cases x1'
  · cases hp
end
section
variable {X : Cx} {CX : CXT} {k : Nat} {f C : Addr} {fd : FuncData} {ps : List Str} {sp : Sp} {E : L2.St → XK} {m : Str} {pos apos : Pos} {e o : Expr} {es : List Expr} {ta : TE} {t : TA}
def tMethS (C : Addr) (m : Str) (sp : Sp) (E : L2.St → XK) (ta : TE) (t : TA) : TE := fun σ H Q => ta σ H fun x H1 => ∃ a dx fs, x = .ref a ∧ H1 a = some (.ins C dx fs) ∧ fs.lookup m = none ∧ t σ H1 fun vs H2 => sp (x :: vs) H2 Q (E σ)
theorem pe_methC {pl : Sem Bool} (he : PE X o ta) (c : Cls X.K C) (hm : Meth X.K C m f) (F : FnOk X.prog X.w X.K X.mg X.base CX k f fd ps sp) (hr : Room k X.A) (hb : Binds X.K fd ps []) (hx : ∀ σ, PassesAt CX X σ (E σ)) (ha : PA X (e :: es) t)
    (hst : starEach (e :: es) X.env = (false, eval e X.env) :: starEach es X.env := by rfl) (hpl : (backTo pos (starEach es X.env)).any (·.1) = false := by rfl)
    (ht : eval (.Call (.Attribute o m apos) (e :: es) [] pos) X.env = (do
      let ov ← eval o X.env
      standAt apos.atName
      let (f, first) ← holding [ov] (getMethod ov m pl)
      callWith pos f first (backTo pos (starEach (e :: es) X.env)) (backToKw pos (keywordEach [] X.env))) := by rfl) :
    PE X (.Call (.Attribute o m apos) (e :: es) [] pos) (tMethS C m sp E ta t) := by
  refine ⟨fun pins s σ H Q I h => ?_⟩
  refine PySem.W.methodCall_KW (pl := pl) (thn (he.run pins s σ H _ I h) fun u s1 ⟨x, H1, I1, rx, a, dx, fs, ex, ea, l, q⟩ => ?_) ht
  subst ex
  obtain rfl : u = Value.ref a := rx
  refine getmeth_ok I1 ea c hm l ?_
  refine PySem.W.callWith_K (first := [.ref a]) (h₀ := X.base) I.ok.mod.kin hm.kp (thn (ha.run pos pins s1 σ H1 _ I1 q) fun us s2 ⟨vs, H2, I2, r, q2⟩ => ⟨I2.kIn, ?_⟩) hst hpl
  exact run_fnS (us := .ref a :: us) (vs := .ref a :: vs) F hr hb (hx σ) I2 (.cons rfl r) q2
theorem pe_methC0 {pl : Sem Bool} (he : PE X o ta) (c : Cls X.K C) (hm : Meth X.K C m f) (F : FnOk X.prog X.w X.K X.mg X.base CX k f fd ps sp) (hr : Room k X.A) (hb : Binds X.K fd ps []) (hx : ∀ σ, PassesAt CX X σ (E σ))
    (ht : eval (.Call (.Attribute o m apos) [] [] pos) X.env = (do
      let ov ← eval o X.env
      standAt apos.atName
      let (f, first) ← holding [ov] (getMethod ov m pl)
      callWith pos f first (backTo pos (starEach [] X.env)) (backToKw pos (keywordEach [] X.env))) := by rfl) :
    PE X (.Call (.Attribute o m apos) [] [] pos) (tMethS C m sp E ta tNil) := by
  refine ⟨fun pins s σ H Q I h => ?_⟩
  refine PySem.W.methodCall_KW (pl := pl) (thn (he.run pins s σ H _ I h) fun u s1 ⟨x, H1, I1, rx, a, dx, fs, ex, ea, l, q⟩ => ?_) ht
  subst ex
  obtain rfl : u = Value.ref a := rx
  refine getmeth_ok I1 ea c hm l ?_
  exact PySem.W.callWith_K0 (first := [.ref a]) I1.kIn hm.kp (run_fnS (us := [.ref a]) (vs := [.ref a]) F hr hb (hx σ) I1 (.cons rfl .nil) q)
end
end DL
set_option maxHeartbeats 2000000
/-! The data layer 30: a comprehension over zip of two lists, where an error is handled. -/
namespace DL
open PySem L2 PySem.Spec PyProof.Rows HotX
section
variable {prog : Program} {w : World} {A : Around} {E : Value → Shared → Prop} {s : Shared}
/-- a list's iterator at its end -/
theorem next_hot {it l x1 : Addr} {i : Nat} {items : Array Value} {Q : Value → Shared → Prop} (hot : HotAt A x1 s.heap) (hne : x1 ≠ it) (hit : s.heap.IsListIter it l i) (hl : s.heap.IsList l items) (hx : items[i]? = none)
    (hE : ∀ h' e, Heap.ExtBut it s.heap h' → (∃ o, h'.get? e = some o ∧ o.cls = .type "StopIteration") → E (.ref e) { s with heap := h' }) : wpAny (model prog w) A (Builtin.SmallTypes.nextOf (.ref it)) Q E s := by
  obtain ⟨o, ho, hc, hd⟩ := id hit
  obtain ⟨ol, hol, _, nl, hdl⟩ := hl
  obtain ⟨hh, o1, vs1, h1, d1, c1⟩ := hot
  unfold Builtin.SmallTypes.nextOf
  refine wpAny_bind (wpAny_callSpecial?_slot (name := Str.ofString "__next__") hit.typeIs slot_listiter_next (wpAny_call_entry slot_listiter_next hit.typeIs entry_listiter_next ?_ (args_listiter_next _)))
  show wpAny _ _ (field (.ref it) 0 >>= _) _ _ s
  refine wpAny_bind (wpAny_field ho hd (x := .ref l) rfl ?_)
  show wpAny _ _ (if (Value.ref l == Value.none) = true then _ else _) _ _ s
  rw [if_neg (show ¬ ((Value.ref l == Value.none) = true) from Bool.false_ne_true)]
  show wpAny _ _ (field (.ref it) 1 >>= _) _ _ s
  refine wpAny_bind (wpAny_field ho hd (x := .int i 0) rfl ?_)
  show wpAny _ _ (seqItems? (.ref l) >>= _) _ _ s
  refine wpAny_bind (wpAny_seqItems hol hdl ?_)
  simp only [Int.toNat_natCast, hx]
  refine wpAny_bind (wpAny_rule (wpAny_bind (wpAny_setField ho hd (by simp) ?_)))
  show wpAny _ _ (newExc (.type "StopIteration") [] >>= _) _ _ _
  refine wpAny_bind ?_
  simp only [newExc, newTuple]
  refine wpAny_bind (wpAny_newObj_type ?_ (by size_fits))
  refine wpAny_bind (m := firstArgMember _ _) (wpAny_of_eq (a := Value.none) (by first | rfl | (simp only [firstArgMember]; rfl)) ?_)
  refine wpAny_newObj_type ?_ (by size_fits)
  have up : ∀ {b : Addr} {u : Obj}, b ≠ it → s.heap.get? b = some u → ∀ f u1 u2, (((s.heap.update it f).push u1).push u2).get? b = some u := fun {b u} hb e f u1 u2 => Heap.get?_push_of_some _ (Heap.get?_push_of_some _ (((Heap.SameBut.update s.heap it f).2 b hb).trans e))
  refine raiseNew_hot (x1 := x1) ⟨hh, o1, vs1, up hne h1 _ _ _, d1, c1⟩ (Nat.ne_of_lt (Heap.lt_size (Heap.get?_push_of_some _ (((Heap.SameBut.update s.heap it _).2 x1 hne).trans h1)))) (Heap.get?_push_size _ rfl) rfl (by first | (simp; done) | (simp; omega) | (simp only [Array.size_append]; simp; omega)) ?_
  refine hE _ _ (fun b u hb e => ?_) ⟨_, Heap.get?_update_self _ (Heap.get?_push_size _ rfl) rfl, rfl⟩
  rw [Heap.get?_update_other _ _ (Nat.ne_of_gt (Heap.lt_size (Heap.get?_push_of_some _ (((Heap.SameBut.update s.heap it _).2 b hb).trans e))))]
  exact up hb e _ _ _
/-- zip of two lists, the first at its end -/
theorem zip_hot {z TI TO i1 i2 l1 l2 x1 : Addr} {k1 : Nat} {xs : Array Value} {a b : Value} {Q : Option Value → Shared → Prop} (hot : HotAt A x1 s.heap) (nz : x1 ≠ z) (n1 : x1 ≠ i1) (D : ZipApart z TI TO i1 i2 l1 l2)
    (hz : IsZip s.heap z TI TO .none) (hTI : IsPair s.heap TI (.ref i1) (.ref i2)) (hTO : IsPair s.heap TO a b) (h1 : s.heap.IsListIter i1 l1 k1) (hl1 : s.heap.IsList l1 xs) (hx : xs[k1]? = none)
    (hQ : ∀ h', (∀ c o, c ≠ z → c ≠ TO → c ≠ i1 → c ≠ i2 → s.heap.get? c = some o → h'.get? c = some o) → Q none { s with heap := h' }) : wpAny (model prog w) A (pyNext (.ref z)) Q E s := by
  obtain ⟨hh, o1, vs1, e1, d1, c1⟩ := hot
  have hT : s.TypeIs (.ref z) "zip" := ⟨_, hz, rfl⟩
  unfold pyNext
  refine wpAny_bind (wpAny_attempt (wpAny_callSpecial?_slot (name := Str.ofString "__next__") hT F.slot_zip_next (wpAny_call_entry F.slot_zip_next hT F.entry_zip_next ?_ (F.args_zip_next_1 _))))
  show wpAny _ _ (field (.ref z) 2 >>= _) _ _ _
  refine wpAny_bind (wpAny_field hz rfl (x := .bool false) rfl ?_)
  show wpAny _ _ (field (.ref z) 3 >>= _) _ _ _
  refine wpAny_bind (wpAny_field hz rfl (x := .ref TI) rfl ?_)
  refine wpAny_bind (wpAny_seqItems hTI rfl ?_)
  show wpAny _ _ (Builtin.SmallTypes.ownedTupleIsFree (.ref z) >>= _) _ _ _
  refine wpAny_bind ?_
  unfold Builtin.SmallTypes.ownedTupleIsFree
  refine wpAny_bind (wpAny_field hz rfl (x := .none) rfl (wpAny_pure ?_))
  simp only [if_true]
  refine wpAny_bind (wpAny_rule ?_)
  refine wpAny_bind (wpAny_field hz rfl (x := .ref TO) rfl ?_)
  refine wpAny_bind (wpAny_setField_rec hz (by simp) fun h₁ hz₁ hs₁ => ?_)
  replace hz₁ : IsZip h₁ z TI TO .ellipsis := hz₁
  refine wpAny_bind ?_
  simp only [List.zipIdx_cons, List.zipIdx_nil, List.forIn_cons, List.forIn_nil]
  refine wpAny_bind (wpAny_bind (wpAny_onRaise ?_))
  show wpAny _ _ (Builtin.SmallTypes.nextOf (.ref i1) >>= _) _ _ _
  refine wpAny_bind (next_hot (x1 := x1) ⟨hh, o1, vs1, hs₁.extBut _ _ nz e1, d1, c1⟩ n1 (h1.extBut hs₁.extBut D.i1z) (hl1.extBut hs₁.extBut D.l1z) hx fun h₂ e hs₂ he => ?_)
  obtain ⟨oe, hoe, hce⟩ := he
  have hz₂ : IsZip h₂ z TI TO .ellipsis := hs₂ _ _ D.i1z.symm hz₁
  have hez : e ≠ z := fun x => by
    subst x
    rw [hz₂] at hoe
    cases hoe
    simp at hce
  refine wpAny_setField_rec hz₂ (by simp) fun h₃ _ hs₃ => ?_
  refine wpAny_bind (wpAny_isInstance (T := "StopIteration") (b := true) ⟨oe, hs₃.extBut _ _ hez hoe, hce⟩ isSubtype_stop ?_)
  exact wpAny_pure (hQ _ fun c o c1 _ c3 _ x => hs₃.extBut _ _ c1 (hs₂ _ _ c3 (hs₁.extBut _ _ c1 x)))
end

/-! ### the comprehension -/
section
variable {P : Program} {w : World} {K : PySem.W.Frag} {elts : List Expr} {kk : Nat} {tpos : Pos}
/-- what zip's iterator does at a turn, whatever is handled -/
structure ZipAt (a b z TI TO i1 i2 : Addr) (i : Nat) (h : Heap) : Prop where
  z : IsZip h z TI TO .none
  ti : IsPair h TI (.ref i1) (.ref i2)
  to : ∃ x y, IsPair h TO x y
  a : h.IsListIter i1 a i
  b : h.IsListIter i2 b i
theorem ZipAt.keep {a b z TI TO i1 i2 : Addr} {i : Nat} {h h' : Heap} (st : ZipAt a b z TI TO i1 i2 i h) (k : ∀ c ∈ [z, TI, TO, i1, i2], ∀ o, h.get? c = some o → h'.get? c = some o) : ZipAt a b z TI TO i1 i2 i h' := by
  obtain ⟨x, y, hTO⟩ := st.to
  exact ⟨k z (by simp) _ st.z, k TI (by simp) _ st.ti, ⟨x, y, k TO (by simp) _ hTO⟩, st.a.at fun o q => k i1 (by simp) o q, st.b.at fun o q => k i2 (by simp) o q⟩
theorem ZipAt.obj {a b z TI TO i1 i2 : Addr} {i : Nat} {h : Heap} (st : ZipAt a b z TI TO i1 i2 i h) : ∀ c ∈ [z, TI, TO, i1, i2], ∃ o, h.get? c = some o ∧ ∀ v, o.data ≠ .cell v := fun c hc => by
  obtain ⟨x, y, hTO⟩ := st.to
  obtain ⟨o1, e1, _, d1⟩ := st.a
  obtain ⟨o2, e2, _, d2⟩ := st.b
  simp only [List.mem_cons, List.not_mem_nil, or_false] at hc
  rcases hc with rfl | rfl | rfl | rfl | rfl
  · exact ⟨_, st.z, fun v q => nomatch q⟩
  · exact ⟨_, st.ti, fun v q => nomatch q⟩
  · exact ⟨_, hTO, fun v q => nomatch q⟩
  · exact ⟨o1, e1, fun v q => by rw [d1] at q; cases q⟩
  · exact ⟨o2, e2, fun v q => by rw [d2] at q; cases q⟩
theorem turn_zipHot {a b z TI TO i1 i2 : Addr} (D : ZipApart z TI TO i1 i2 a b) : L2H.TurnH P w K (.Tuple elts kk tpos) ⟨(Itz K a b).go, (Itz K a b).yld, fun i H => ∃ xs ys : List V, SqL K H a xs ∧ SqL K H b ys ∧ xs.length ≤ i⟩ [z, TI, TO, i1, i2] z (ZipAt a b z TI TO i1 i2) where
  mem := by simp
  obj := fun i h st => st.obj
  keep := fun i h h' st k => st.keep k
  item := by
    intro X hP hw hK hc i pins s σ H E I hf st hg
    subst hP hw hK
    obtain ⟨x0, y0, hTO⟩ := st.to
    obtain ⟨xs, ys, x, y, hqx, hqy, hx, hy⟩ := hg
    obtain ⟨its, rv, p, _⟩ := I.list hqx
    obtain ⟨its2, rv2, p2, _⟩ := I.list hqy
    obtain ⟨u, hu, ru⟩ := rv.get hx
    obtain ⟨u2, hu2, ru2⟩ := rv2.get hy
    have lt_ : ∀ c ∈ [z, TI, TO, i1, i2], c < s.heap.objs.size := fun c hcm => by
      obtain ⟨o, e, _⟩ := st.obj c hcm
      exact Heap.lt_size e
    have hzl := lt_ z (by simp)
    refine wpAny_pyNext_zip_item D st.z st.ti hTO st.a st.b p.isList p2.isList (x := u) (y := u2) (by simpa using hu) (by simpa using hu2) fun h' z' TO' h1' h2' hT hsz hk => ?_
    refine ⟨_, rfl, wpAny_letOwnedTupleGo_zip (s := { s with heap := h' }) z' fun h'' z'' sb => ?_⟩
    have hT2 : h''.get? s.heap.objs.size = some { cls := .type "tuple", data := .seq #[u, u2] } := (sb.2 _ (Nat.ne_of_gt hzl)).trans hT
    have mk : ObjOk X.prog X.w (upd H s.heap.objs.size (.tup [x, y])) h'' s.heap.objs.size (.tup [x, y]) := ⟨by show 2 ≤ sizeLine; decide, [u, u2], .cons ru (.cons ru2 .nil), ⟨_, hT2, rfl, _, rfl⟩⟩
    have kp : ∀ c o, c ∉ [z, TI, TO, i1, i2] → s.heap.get? c = some o → h''.get? c = some o := fun c o hc q => by
      simp only [List.mem_cons, List.not_mem_nil, or_false, not_or] at hc
      exact (sb.2 c hc.1).trans (hk c o hc.1 hc.2.2.1 hc.2.2.2.1 hc.2.2.2.2 q)
    have I1 : Inv X pins σ (upd H s.heap.objs.size (.tup [x, y])) { s with heap := h'' } := I.turnedNew (t' := s.toks) (ch := [z, TI, TO, i1, i2]) kp hf (Nat.le_refl _) mk
    refine ⟨.ref s.heap.objs.size, _, I1, rfl, ⟨_, x, y, rfl, I.hok.fresh (Nat.le_refl _), rfl, fun l hl => by rw [I.list_inj hl hqx]; exact hx, fun l hl => by rw [I.list_inj hl hqy]; exact hy⟩, ⟨z'', ?_, ⟨u, u2, (sb.2 _ D.TOz).trans TO'⟩, h1'.at fun o q => (sb.2 _ D.i1z).trans q, h2'.at fun o q => (sb.2 _ D.i2z).trans q⟩, fun c hcm => ?_⟩
    · exact (sb.2 _ D.TIz).trans (hk _ _ D.TIz D.TITO D.TIi1 D.TIi2 st.ti)
    · rw [upd_ne (Nat.ne_of_lt (lt_ c hcm))]
      exact (hf c hcm).1
  done := by
    intro X hP hw hK hc i pins s σ H E I hf st hg
    subst hP hw hK
    obtain ⟨x0, y0, hTO⟩ := st.to
    obtain ⟨xs, ys, hqx, hqy, hend⟩ := hg
    obtain ⟨its, rv, p, _⟩ := I.list hqx
    have l1 := rv.length
    obtain ⟨q, ⟨hh, vs, d1, c1⟩, hq⟩ := hc
    have hp := I.pin q (List.mem_append_left _ hq)
    have ne : ∀ c ∈ [z, TI, TO, i1, i2], q.1 ≠ c := fun c hcm => (hf c hcm).2.2.2.2.2 q (List.mem_append_left _ hq)
    exact zip_hot (x1 := q.1) ⟨hh, q.2, vs, hp.1, d1, c1⟩ (ne z (by simp)) (ne i1 (by simp)) D st.z st.ti hTO st.a p.isList (by simp; omega) fun h' hk => ⟨rfl, I.turnedL (t' := s.toks) (ch := [z, TI, TO, i1, i2]) (fun c o hb e => by
      simp only [List.mem_cons, List.not_mem_nil, or_false, not_or] at hb
      exact hk c o hb.1 hb.2.2.1 hb.2.2.2.1 hb.2.2.2.2 e) hf⟩
  self := fun A i s Q E st h => wpAny_pyIter_zip st.z h
end

/-- the context of a comprehension's block where an error is handled -/
abbrev blkH (X : Cx) (s : Shared) (H : Hp) (scope : Scope) (cenv : Env) (fp : List Addr) : Cx := { X.blk s H scope cenv fp with pn := X.pn }
/-- the same, beside the error that is handled -/
theorem blk_pinned {X : Cx} {s : Shared} {H H' : Hp} {scope : Scope} {cenv : Env} {fp : List Addr} {σ : L2.St} {s' : Shared} (I : Inv (X.blk s H scope cenv fp) [] σ H' s') (h : ∀ p ∈ X.pn, s'.heap.get? p.1 = some p.2 ∧ H' p.1 = none ∧ p.1 ≠ cenv.locals ∧ p.1 ∉ frs X.stack ∧ ∀ v, p.2.data ≠ .cell v) : Inv (blkH X s H scope cenv fp) [] σ H' s' :=
  ⟨⟨I.ok.mod, I.ok.kind, I.ok.glob, I.ok.blt, I.ok.above, I.ok.inj, I.ok.has, I.ok.cab, I.ok.hd, I.ok.frames, I.ok.stk, I.ok.exf, I.ok.bs, I.ok.bsz, I.ok.noex, I.ok.exfs, I.ok.funs, I.ok.frf⟩, I.os, I.bare, I.base, I.loc, I.cell, I.free, I.freeC, fun p hp => h p (by simpa using hp), I.hok, I.len⟩
section
variable {X : Cx}
theorem pe_lcHot {elt tg iter : Expr} {ifs : List Expr} {scope : Scope} {own : List (Str × Nat)} {pos : Pos} {wi : TI} {g : TG} {tt : TT} {te : TE} (hc : L2H.HotC X) (hN : X.N.Nodup) (hi : L2H.PIH X tg iter wi) (ok : BlkOk X.N X.env.scope scope own)
    (hg : ∀ (s : Shared) (H : Hp) (C : Addr) (cl : List (Str × Addr)) (fp : List Addr), PG (blkH X s H scope (compEnvC scope cl C X.env) fp) tg g) (ht : ∀ (s : Shared) (H : Hp) (C : Addr) (cl : List (Str × Addr)) (fp : List Addr), PTs (blkH X s H scope (compEnvC scope cl C X.env) fp) ifs tt)
    (he : ∀ (s : Shared) (H : Hp) (C : Addr) (cl : List (Str × Addr)) (fp : List Addr), PE (blkH X s H scope (compEnvC scope cl C X.env) fp) elt te) (hs : ∀ x, foldedSetIterable iter X.env x = pure x := by intro _; rfl) :
    PE X (.ListComp elt [⟨tg, iter, ifs, 0⟩] scope pos) (tLc wi g tt te (own.map (·.2))) := by
  refine ⟨fun pins s σ H Q I h => ?_⟩
  rw [eval_ListComp]
  have hfree : ∀ y ∈ scope.names, y.2 = .free → ∃ c, X.env.cells.lookup y.1 = some c := fun y hy e => by
    rcases ok.free y hy e with k | k
    · exact I.ok.has _ (.inl k)
    · exact I.ok.has _ (.inr k)
  refine wpAny_comprehension_free (use := none) rfl hs (closure_ok hfree) ok.kind (fun y hy e => by rw [ok.uniq y hy, e]) (thn (hi.run pins s σ H _ I h) fun xv s1 hx => thn hx fun itv s2 h2 => ?_)
  obtain ⟨it, fp, tn, J, H2, e, I2, T, st2, f2, q⟩ := h2
  subst e
  refine wpAny_newObj_type (newEnv_comp ?_) (by show 0 ≤ sizeLine; decide)
  generalize hD : s2.heap.objs.size = D
  have hDn : H2 D = none := I2.hok.fresh (Nat.le_of_eq hD)
  obtain ⟨W, ⟨m0, w0⟩, turn⟩ := q D hDn
  generalize hs3 : ({ s2 with heap := s2.heap.push { cls := .type "list", data := .seq ([] : List Value).toArray } } : Shared) = s3
  have h3 : s3.heap = s2.heap.push { cls := .type "list", data := .seq ([] : List Value).toArray } := by rw [← hs3]
  have I3 : Inv X pins σ (upd H2 D (.lst [])) s3 := by
    rw [← hs3]
    refine I2.laid (t' := s2.toks) (fun b o e => Heap.get?_push_of_some _ e) (Nat.le_of_eq hD) ⟨Nat.zero_le _, [], 0, .nil, ?_⟩
    rw [← hD]
    exact Heap.get?_push_size _ rfl
  have f3 : ∀ b ∈ fp, FpOk X pins (upd H2 D (.lst [])) b ∧ b < s3.heap.objs.size := fun b hb => by
    obtain ⟨o, e, _⟩ := T.obj _ _ st2 b hb
    have hlt : b < s2.heap.objs.size := Heap.lt_size e
    refine ⟨⟨?_, (f2 b hb).2⟩, by rw [h3, Heap.size_push]; exact Nat.lt_succ_of_lt hlt⟩
    rw [upd_ne (by rw [← hD]; exact Nat.ne_of_lt hlt)]
    exact (f2 b hb).1
  have st3 : tn 0 s3.heap := T.keep _ _ _ st2 fun b _ o e => by rw [h3]; exact Heap.get?_push_of_some _ e
  have I4 := block_start I3 ok hN f3
  show codeAny _ _ (.compStart (.ListComp elt [⟨tg, iter, ifs, 0⟩] scope pos) 0 (.ref it) (.ref D) (compEnvC scope (cellsFrom (s3.heap.objs.size + 1) scope.names (cloFrom X.env.cells scope.names [])) s3.heap.objs.size X.env)) (compPost (model X.prog X.w) X.A X.xe none _ (.ref D) s3.heap.objs.size) { s3 with heap := pushCells (s3.heap.push { cls := .type "dict", data := .dict #[] }) scope.names }
  have pg := hg s3 (upd H2 D (.lst [])) s3.heap.objs.size (cellsFrom (s3.heap.objs.size + 1) scope.names (cloFrom X.env.cells scope.names [])) fp
  have pt := ht s3 (upd H2 D (.lst [])) s3.heap.objs.size (cellsFrom (s3.heap.objs.size + 1) scope.names (cloFrom X.env.cells scope.names [])) fp
  have pe := he s3 (upd H2 D (.lst [])) s3.heap.objs.size (cellsFrom (s3.heap.objs.size + 1) scope.names (cloFrom X.env.cells scope.names [])) fp
  have nfp : ∀ b ∈ fp, (upd H2 D (.lst [])) b = none := fun b hb => (f3 b hb).1.1
  have hpc : ∀ p ∈ X.pn, s3.heap.get? p.1 = some p.2 ∧ (upd H2 D (.lst [])) p.1 = none ∧ p.1 ≠ s3.heap.objs.size ∧ p.1 ∉ frs X.stack ∧ ∀ v, p.2.data ≠ .cell v := fun p hp => by
    have z := I3.pin p (List.mem_append_left _ hp)
    exact ⟨z.1, z.2.1, Nat.ne_of_lt (Heap.lt_size z.1), fun hm => (List.mem_cons.mp (I3.stkSub p.1 hm)).elim z.2.2.1 z.2.2.2.1, z.2.2.2.2⟩
  generalize hce : compEnvC scope (cellsFrom (s3.heap.objs.size + 1) scope.names (cloFrom X.env.cells scope.names [])) s3.heap.objs.size X.env = ce at I4 pg pt pe ⊢
  have cL : ce.locals = s3.heap.objs.size := by subst hce; rfl
  generalize hH3 : upd H2 D (.lst []) = H3 at I3 I4 pg pt pe w0 nfp f3 hpc
  generalize hs4 : ({ s3 with heap := pushCells (s3.heap.push { cls := .type "dict", data := .dict #[] }) scope.names } : Shared) = s4 at I4 ⊢
  have k4 : ∀ b o, s3.heap.get? b = some o → s4.heap.get? b = some o := fun b o e => by rw [← hs4]; exact pushCells_keeps _ _ _ _ (Heap.get?_push_of_some _ e)
  have st4 : tn 0 s4.heap := T.keep _ _ _ st3 fun b _ o e => k4 b o e
  have I4' : Inv (blkH X s3 H3 scope ce fp) [] (wipe σ (own.map (·.2))) H3 s4 := blk_pinned I4 fun p hp => by
    obtain ⟨a1, a2, a3, a4, a5⟩ := hpc p hp
    exact ⟨k4 _ _ a1, a2, by rw [cL]; exact a3, a4, a5⟩
  have hcB : L2H.HotC (blkH X s3 H3 scope ce fp) := hc
  have nep : ∀ b ∈ fp, ∀ p ∈ X.pn, p.1 ≠ b := fun b hb p hp => (f3 b hb).1.2.2.2.2.2 p (List.mem_append_left _ hp)
  have stat : ∀ {σ' : L2.St} {H' : Hp} {s' : Shared}, Inv (blkH X s3 H3 scope ce fp) [] σ' H' s' → (∀ b ∈ fp, H' b = none) → ∀ b ∈ fp, FpOk (blkH X s3 H3 scope ce fp) [] H' b := fun {σ' H' s'} I' hn b hb =>
    ⟨hn b hb, (I'.ok.exf b hb).1, I'.ok.exfs b hb, .inl hb, fun x c e => (I'.ok.exf b hb).2 x c e, fun p hp => nep b hb p (by simpa using hp)⟩
  have loop : codeAny (model X.prog X.w) X.A (.compLoop (.ListComp elt [⟨tg, iter, ifs, 0⟩] scope pos) 0 (.ref it) (.ref D) ce) (compPost (model X.prog X.w) X.A X.xe none (EP X pins σ Q) (.ref D) s3.heap.objs.size) s4 := by
    refine compLoop_any (fun n s' => ∃ i H', Inv (blkH X s3 H3 scope ce fp) [] (wipe σ (own.map (·.2))) H' s' ∧ tn i s'.heap ∧ (∀ b ∈ fp, H' b = none) ∧ W i n H') ?_ m0 ⟨0, H3, I4', st4, nfp, w0⟩
    rintro n s5 ⟨i, H5, I5, st5, n5, w5⟩
    rcases turn i n H5 w5 with ⟨stop, qq⟩ | ⟨go, Nx, hNx, step⟩
    · refine thnF (T.done (blkH X s3 H3 scope ce fp) rfl rfl rfl hcB i [] s5 _ H5 (fun _ _ => False) I5 (stat I5 n5) st5 stop) fun r s6 ⟨hr, I6⟩ => ?_
      subst hr
      have I7 : Inv X pins σ H5 s6 := I3.call' (ch := fp) I6.os I6.base I6.hok I6.bare fun b hb => ⟨(f3 b hb).1.2.2.2.1, (f3 b hb).1.2.1, (f3 b hb).1.2.2.2.2.1, (f3 b hb).1.2.2.2.2.2⟩
      have nC : H5 s3.heap.objs.size = none := by
        have z : H5 ce.locals = none := I6.free
        rw [cL] at z
        exact z
      obtain ⟨m, hn, _⟩ := I6.loc
      have hn : s6.heap.Ns ce.locals m := hn
      rw [cL] at hn
      obtain ⟨f0, f1, f2, f3, f4, f5⟩ := I3.fpOk (Nat.le_refl s3.heap.objs.size) nC
      exact ⟨m, hn, fun h'' sb => ⟨.ref D, H5, I7.turned (t' := s6.toks) (fun b o hb e => (sb.2 b hb).trans e) f0 f1 f3 f4 f5, rfl, qq⟩⟩
    · refine thnF (T.item (blkH X s3 H3 scope ce fp) rfl rfl rfl hcB i [] s5 _ H5 (fun _ _ => False) I5 (stat I5 n5) st5 go) fun r s6 ⟨u, hr, h6⟩ => ?_
      subst hr
      refine thnF h6 fun _ s7 ⟨x, H7, I7, r7, y7, st7, n7⟩ => ?_
      have I7' := I7.pinned (stat I7 n7) (T.obj _ _ st7)
      refine thnF (pg.run _ s7 _ H7 x u _ I7' r7 (step x H7 y7)) fun _ s8 ⟨σ8, H8, I8, hw8, q8⟩ => ?_
      refine thnF (pt.run _ s8 σ8 H8 _ I8 q8) fun b s9 ⟨H9, I9, q9⟩ => ?_
      have fin : ∀ {s' : Shared} {H' : Hp}, Inv (blkH X s3 H3 scope ce fp) ([] ++ pinsAt fp s7.heap) σ8 H' s' → Nx H' → ∃ m, m < n ∧ ∃ i H', Inv (blkH X s3 H3 scope ce fp) [] (wipe σ (own.map (·.2))) H' s' ∧ tn i s'.heap ∧ (∀ b ∈ fp, H' b = none) ∧ W i m H' := fun {s' H'} I' nx => by
        obtain ⟨m', hm, w'⟩ := hNx H' nx
        have pin' : ∀ b ∈ fp, ∀ o, s7.heap.get? b = some o → s'.heap.get? b = some o ∧ H' b = none := fun b hb o e =>
          let z := I'.pin (b, o) (List.mem_append_right _ (List.mem_append_right _ (mem_pinsAt hb e)))
          ⟨z.1, z.2.1⟩
        have hl : (wipe σ (own.map (·.2))).length = σ8.length := by rw [← hw8, wipe_length]
        refine ⟨m', hm, i + 1, H', (I'.unpinned (pins := [])).weak hl (fun j v e => ?_), T.keep _ _ _ st7 fun b hb o e => (pin' b hb o e).1, fun b hb => ?_, w'⟩
        · rw [← hw8] at e
          exact (wipe_some e).1
        · obtain ⟨o, e, _⟩ := T.obj _ _ st7 b hb
          exact (pin' b hb o e).2
      cases b with
      | false =>
        simp only [Bool.false_eq_true, if_false] at q9 ⊢
        exact fin I9 q9
      | true =>
        simp only [if_true] at q9 ⊢
        refine thnF (pe.run _ s9 σ8 H9 _ I9 q9) fun z s10 ⟨yv, H10, I10, r10, acc, hD10, hz10, nx⟩ => ?_
        exact app_ok (X := blkH X s3 H3 scope ce fp) I10 hD10 hz10 r10 fun s11 I11 => fin I11 nx
  exact codeAny_compStart_list loop (T.self X.A 0 _ _ _ st4 loop)
end
end DL
set_option maxHeartbeats 2000000
/-! The data layer 31: errors whose context is told; a call within an except suite that is handed the error. -/
namespace DL
open PySem L2 PySem.Spec PyProof.Rows
section
variable {P : Program} {w : World} {K : PySem.W.Frag} {mg : Str → Option Value} {base : Heap} {k : Nat} {f : Addr} {fd : FuncData} {ps : List Str} {sp sp' : Sp}
theorem toN (F : FnOk P w K mg base CX0 k f fd ps sp) : FnOk P w K mg base (L2N.CX P w) k f fd ps sp :=
  ⟨F.len, fun A outer s H args us vs Q E hr he hb hv hs => codeAny_mono (F.run A outer s H args us vs Q E hr he hb hv hs) fun r s' h => by
    cases r with
    | error e => exact False.elim h
    | ok fl => cases fl <;> exact h⟩
/-- a def that may raise -/
theorem okN {x qual : Str} {st : Stmt} {N : List Str} (F : Fun K x qual st f fd) (S : FnScope N ps (defScope st)) (len : ∀ vs H Q E, sp vs H Q E → vs.length = ps.length)
    (hbody : ∀ (cdv : Value) (A : Around) (outer : List Env) (s : Shared) (H : Hp) (vs : List V) (Q : VK) (E : XK), Room k (A.deeper (envOfC qual (defScope st) s.heap.objs.size f cdv)) → sp vs H Q E →
      ∃ t, PSs (cxOf (L2N.CX P w) P w K mg base N qual (defScope st) f cdv A outer s H E) (defBody st) t ∧ t { nx := fun _ H' => Q .non H', rt := Q } (L2.start N vs) H) : FnOk P w K mg base (L2N.CX P w) (k + 1) f fd ps sp := by
  obtain ⟨oc, od, kV, doc, pm, an, cdv, ct, osl, rfl, lk, hcd⟩ := F.ex
  exact fn_of lk hcd S len fun A outer s H vs Q E hr hsp => hbody cdv A outer s H vs Q E hr hsp
end
section
variable {X : Cx} {e : Expr} {es : List Expr} {ta : TA} {p pos : Pos}
/-- C(e, ..) of an own error with an __init__, its context told -/
theorem pmk_oexN {CX : CXT} {x : Str} {C fI : Addr} {k : Nat} {fd : FuncData} {ps : List Str} {sp : Sp} (T : OexC X.K C) (iC : PySem.W.findIn X.K (.ref C) "__init__" = some (some (.ref fI))) (tI : PySem.W.typeIn X.K (.ref fI) = some (.type "function"))
    (F1 : FnOk X.prog X.w X.K X.mg X.base CX k fI fd ps sp) (hr : Room (k + 1) X.A) (hb : Binds X.K fd ps []) (hx : Passes CX X (fun _ _ _ => False)) (hg : Gl X x) (hm : X.mg x = some (.ref C)) (ha : PA X (e :: es) ta)
    (hdb : (x == ("__debug__" : Str)) = false := by decide) (he : starEach (e :: es) X.env = (false, eval e X.env) :: starEach es X.env := by rfl) (hpl : (backTo pos (starEach es X.env)).any (·.1) = false := by rfl) :
    L2N.PMk X (.Call (.Name x p) (e :: es) [] pos) (tMkO C sp [] ta) := by
  intro pins s σ H Q I h
  obtain ⟨nm, q, N, bs, bm, sn, sub, ab, col, dd, k0, k1, k2, k3, k5, hC, hbm⟩ := T.cls
  refine wpAny_Call_Name_kw (ld_glob I hg hm ?_ hdb)
  refine PySem.W.callWith_K (h₀ := X.base) I.ok.mod.kin T.kC (thn (ha.run pos pins s σ H _ I h) fun us s1 ⟨vs, H1, I1, r1, hz, q1⟩ => ⟨I1.kIn, ?_⟩) he hpl
  show wpAny _ _ (call (.ref C) us) _ _ _
  obtain ⟨hp, g, dr, tk, os⟩ := s1
  have hsz : hp.objs.size ≤ hp.objs.size + 1 := Nat.le_succ _
  have hq := q1 (hp.objs.size + 1) (I1.hok.fresh hsz)
  rw [List.append_nil] at hq
  have kk : ∀ b o, hp.get? b = some o → ((hp.push (PySem.W.kdv_tup us)).push (PySem.HandSPX.excO C hp.objs.size)).get? b = some o := fun b o e => Heap.get?_push_of_some _ (Heap.get?_push_of_some _ e)
  have hget : ((hp.push (PySem.W.kdv_tup us)).push (PySem.HandSPX.excO C hp.objs.size)).get? (hp.objs.size + 1) = some (PySem.HandSPX.excO C hp.objs.size) := by heap_get
  have I2 := I1.laid (t' := tk) (a := hp.objs.size + 1) (o := exo (hp.objs.size + 1) C none) (h' := (hp.push (PySem.W.kdv_tup us)).push (PySem.HandSPX.excO C hp.objs.size)) kk hsz (exo_ok hget)
  have r2 : Vals (V.ref (hp.objs.size + 1) :: vs) (Value.ref (hp.objs.size + 1) :: us) := .cons rfl r1
  have hl : (Value.ref (hp.objs.size + 1) :: us).length = ps.length := by
    have e := r2.length
    rw [F1.len _ _ _ _ hq] at e
    exact e.symm
  have hus : us.length ≤ sizeLine := by
    rw [← Paired.length r1, sizeLine_eq]
    omega
  have hbb := hb _ (Value.ref (hp.objs.size + 1) :: us) I2.kIn (by rw [List.append_nil]; exact hl)
  rw [List.append_nil] at hbb
  refine wpAny_call (PySem.HandSPX.call_own F.excBase_ValueError (fun Y => PySem.HandSPX.refsVE_contains Y bm hbm) (I1.kIn _ _ hC) (PySem.W.looks_findIn I1.kIn iC) (fun self => PySem.W.bind_fn I1.kIn self tI) hus
    (codeAny_mono (F1.run _ X.stack _ _ ⟨Value.ref (hp.objs.size + 1) :: us, []⟩ _ _ _ (fun _ _ _ => False) (hr.make C us []) (I2.env0.make C us []) hbb r2 hq) fun r s' hq' => ?_))
  cases r with
  | error er => exact hx pins σ _ _ er s' I2 hq'
  | ok fl =>
    cases fl with
    | ret u =>
      obtain ⟨v, H2, os2, bare2, un2, hok2, rv, ev, d, fs, ea, ed, hd1, q2⟩ := hq'
      subst ev
      obtain ⟨h2, g2, d2, t2, os'⟩ := s'
      obtain ⟨t0, G, J, kG, ge, hoe, na⟩ := mk_end0 (d2 := d2) (t2 := t2) I1 hsz kk un2 hok2 os2 bare2 ea ed hd1
      exact ⟨rv, _, _, _, ⟨G, g2, d2, t2, os'⟩, _, .ref C, some d, rfl, J, kG, ge, hoe, ⟨rfl, rfl, fun vs e => by cases e; rfl⟩, rfl, rfl, na, rfl, bare2, raises_own T.exC T.tyC, q2⟩
    | next => exact False.elim hq'
    | brk => exact False.elim hq'
    | cont => exact False.elim hq'
end
end DL
set_option maxHeartbeats 2000000
/-! The data layer 32: a def that is handed the error which is handled. -/
namespace DL
open PySem L2 PySem.Spec PyProof.Rows
def ItzH (K : PySem.W.Frag) (a b : Addr) : It := ⟨(Itz K a b).go, (Itz K a b).yld, fun i H => ∃ xs ys : List V, SqL K H a xs ∧ SqL K H b ys ∧ xs.length ≤ i⟩
def iZipH (K : PySem.W.Frag) (ta : TA) : TI := fun σ H R => ta σ H fun vs H1 => ∃ a b xs ys, vs = [.ref a, .ref b] ∧ SqL K H1 a xs ∧ SqL K H1 b ys ∧ R (ItzH K a b) H1
section
variable {X : Cx} {e e2 : Expr} {ta : TA} {p pos tpos : Pos} {elts : List Expr} {kk : Nat} {g : AF} {K : PySem.W.Frag}
theorem pi_zipHot (hg : Gl X "zip") (hm : X.mg "zip" = none) (ha : PA X [e, e2] ta) (hs : starEach [e, e2] X.env = (false, eval e X.env) :: starEach [e2] X.env := by rfl) (hpl : (backTo pos (starEach [e2] X.env)).any (·.1) = false := by rfl) :
    L2H.PIH X (.Tuple elts kk tpos) (.Call (.Name "zip" p) [e, e2] [] pos) (iZipH X.K ta) := by
  refine ⟨fun pins s σ H R I h => ?_⟩
  refine Call_ (ld_blt I hg hm PyProof.Rows.boot_zip (PyProof.Rows.callWith_type1 (thn (ha.run pos pins s σ H _ I h) fun us s1 ⟨vs, H1, I1, r1, q1⟩ => ?_) hs hpl))
  obtain ⟨a, b, xs, ys, ex, hqx, hqy, q⟩ := q1
  subst ex
  cases r1 with
  | cons r rr =>
    cases rr with
    | cons r' rr =>
      cases rr
      cases r
      cases r'
      obtain ⟨its, rv, p1, _⟩ := I1.list hqx
      obtain ⟨its2, rv2, p2, _⟩ := I1.list hqy
      refine call_zip_2 p1.isList p2.isList fun h' hz hTI hTO h1 h2 hsz hk => wpAny_pyIter_zip hz ?_
      have I2 : Inv X pins σ H1 { s1 with heap := h' } := I1.kept (t' := s1.toks) hk
      refine ⟨s1.heap.objs.size + 4, [s1.heap.objs.size + 4, s1.heap.objs.size + 2, s1.heap.objs.size + 3, s1.heap.objs.size, s1.heap.objs.size + 1], _, _, H1, rfl, I2, turn_zipHot (PySem.W.ktu_apart s1.heap.objs.size a b p1.lt p2.lt), ⟨hz, hTI, ⟨_, _, hTO⟩, h1, h2⟩, fun c hcm => ?_, q⟩
      have hle : s1.heap.objs.size ≤ c := by
        have hc5 : c = s1.heap.objs.size + 4 ∨ c = s1.heap.objs.size + 2 ∨ c = s1.heap.objs.size + 3 ∨ c = s1.heap.objs.size ∨ c = s1.heap.objs.size + 1 := by simpa using hcm
        rcases hc5 with h | h | h | h | h <;> rw [h] <;> first | exact Nat.le_add_right _ _ | exact Nat.le_refl _
      exact I1.fpOk hle (I1.hok.fresh hle)
theorem pih_imp {tg e : Expr} {u u' : TI} (h : L2H.PIH X tg e u) (i : ∀ σ H Q, u' σ H Q → u σ H Q) : L2H.PIH X tg e u' := ⟨fun pins s σ H Q I hw => h.run pins s σ H Q I (i σ H Q hw)⟩
/-- zip of two lists, the second no shorter -/
def iZipE (as : AF) : IF := fun ρ => ob (as ρ) fun rs ρ1 => ob (stos ρ1 rs) fun ds ρ2 => ob (two2 ds) fun d e => ol (lsD d) fun xs => ol (lsD e) fun ys => if xs.length ≤ ys.length then some (zipD xs ys, ρ2) else none
theorem okI_zipHot (hg : Gl X "zip") (hm : X.mg "zip" = none) (ha : OkA X [e, e2] g) (hs : starEach [e, e2] X.env = (false, eval e X.env) :: starEach [e2] X.env := by rfl) (hpl : (backTo pos (starEach [e2] X.env)).any (·.1) = false := by rfl) :
    L2H.PIH X (.Tuple elts kk tpos) (.Call (.Name "zip" p) [e, e2] [] pos) (rdI X.K (iZipE g)) :=
  pih_imp (pi_zipHot hg hm ha hs hpl) fun σ H Q ⟨t, S, ρ, ds, ρ', R, e, k⟩ => by
    obtain ⟨rs, ρ1, q1, e⟩ := ob_some e
    obtain ⟨ds', ρ2, q2, e⟩ := ob_some e
    obtain ⟨d, d', q3, e⟩ := ob_some e
    obtain ⟨xs, q4, e⟩ := ol_some e
    obtain ⟨ys, q5, e⟩ := ol_some e
    split at e
    · rename_i hlen
      cases e
      cases lsD_some q4
      cases lsD_some q5
      refine ⟨t, S, ρ, rs, ρ1, R, q1, fun vs H1 S1 R1 s1 o1 => ?_⟩
      obtain ⟨S2, s2, R2, d2⟩ := R1.stos o1 q2
      unfold two2 at q3
      split at q3
      · cases q3
        cases d2 with
        | cons h1 h2 =>
          cases h2 with
          | cons h2 h3 =>
            cases h3
            cases h1 with
            | @lst a us _ ha hus =>
              cases h2 with
              | @lst b ws _ hb hws =>
                have l1 := hus.length
                have l2 := hws.length
                refine ⟨a, b, us, ws, rfl, SqL.of (R2.sh _ _ ha), SqL.of (R2.sh _ _ hb), k _ H1 S2 R2 (s1.trans s2) ⟨fun i S3 H3 z1 z2 hi => ?_, fun i S3 H3 x H4 z1 z2 hi y => ?_, fun S3 H3 z1 z2 => ?_⟩⟩
                · rw [zipD_length] at hi
                  exact ⟨us, ws, us[i]'(by omega), ws[i]'(by omega), SqL.of (z2 _ _ (z1 _ _ ha)), SqL.of (z2 _ _ (z1 _ _ hb)), by simp, by simp⟩
                · obtain ⟨T, z, z', e1, e2, e3, e4, e5⟩ := y
                  subst e1 e3
                  obtain ⟨c, f1, f2⟩ := hus.get (e4 us (SqL.of (z2 _ _ (z1 _ _ ha))))
                  obtain ⟨c', f3, f4⟩ := hws.get (e5 ws (SqL.of (z2 _ _ (z1 _ _ hb))))
                  obtain ⟨S5, N, q⟩ := pair_new z2 e2 (f2.mono z1) (f4.mono z1)
                  exact ⟨S5, _, N, zipD_get xs ys i c c' f1 f3, q⟩
                · exact ⟨us, ws, SqL.of (z2 _ _ (z1 _ _ ha)), SqL.of (z2 _ _ (z1 _ _ hb)), by rw [zipD_length]; omega⟩
      · cases q3
    · cases e
/-- sep.join of a list of one text -/
def eJoin1 (f : EF) : EF := fun ρ => ob (f ρ) fun r ρ1 => ol (frR r) fun ds => match ds with
  | [.str z] => if z.length ≤ 1000 then some (.da (.str z), ρ1) else none
  | _ => none
theorem ok_join1 {apos cpos q : Pos} {f : EF} {j : Nat} {sep : Str} (hsep : sep.length ≤ 1000) (he : OkE X e f) (hs : starEach [e] X.env = [(false, eval e X.env)] := by rfl) (hbase : attributeBase (.Constant (.str sep) j q) "join" X.env (eval (.Constant (.str sep) j q) X.env) = eval (.Constant (.str sep) j q) X.env := by rfl) (hline : (apos.endLine == cpos.line) = true := by rfl) :
    OkE X (.Call (.Attribute (.Constant (.str sep) j q) "join" apos) [e] [] cpos) (eJoin1 f) :=
  pe_imp (pe_join pe_str he hs hbase hline) fun σ H Q ⟨t, S, ρ, r, ρ', R, e, k⟩ => by
    obtain ⟨r', ρ1, q1, e⟩ := ob_some e
    obtain ⟨ds, q2, e⟩ := ol_some e
    split at e
    · rename_i z
      split at e
      · rename_i hz
        cases e
        cases frR_some q2
        refine ⟨⟨_, rfl⟩, t, S, ρ, _, _, R, q1, fun v H1 S1 R1 s1 o1 => ?_⟩
        obtain ⟨c, us, rfl, h1, h2, h3, h4, h5, h6⟩ := o1
        have hu : us = [V.str z] := by
          cases h5 with
          | cons a b =>
            cases b
            cases a
            rfl
        subst hu
        refine ⟨sep, c, [z], rfl, rfl, .inl (SqL.of h1), ?_, ?_⟩
        · simp only [List.map_cons, List.map_nil, List.sum_cons, List.sum_nil, List.length_cons, List.length_nil]
          omega
        · exact k _ H1 S1 R1 s1 (.str z)
      · cases e
    · cases e
end
section
variable {X : Cx} {elt tg iter : Expr} {ifs : List Expr} {scope : Scope} {own : List (Str × Nat)} {pos : Pos} {fi : IF} {g : GF} {ts : TF} {fe : EF} {ws : List Nat}
theorem ok_lcHot (hc : L2H.HotC X) (hN : X.N.Nodup) (hi : L2H.PIH X tg iter (rdI X.K fi)) (ok : BlkOk X.N X.env.scope scope own)
    (hg : ∀ (s : Shared) (H : Hp) (C : Addr) (cl : List (Str × Addr)) (fp : List Addr), OkG (blkH X s H scope (compEnvC scope cl C X.env) fp) tg ws g) (ht : ∀ (s : Shared) (H : Hp) (C : Addr) (cl : List (Str × Addr)) (fp : List Addr), OkTs (blkH X s H scope (compEnvC scope cl C X.env) fp) ifs ts)
    (he : ∀ (s : Shared) (H : Hp) (C : Addr) (cl : List (Str × Addr)) (fp : List Addr), OkE (blkH X s H scope (compEnvC scope cl C X.env) fp) elt fe) (hw : ∀ j ∈ ws, j ∈ own.map (·.2) := by decide) (hs : ∀ x, foldedSetIterable iter X.env x = pure x := by intro _; rfl) :
    OkE X (.ListComp elt [⟨tg, iter, ifs, 0⟩] scope pos) (eLc fi g ts fe (own.map (·.2))) :=
  pe_imp (pe_lcHot hc hN hi ok (fun s H C cl fp => (hg s H C cl fp).run) (fun s H C cl fp => (ht s H C cl fp).run) he hs) (rd_lc hw)
end
/-- what isinstance asks of an error's class -/
structure KxC (K : PySem.W.Frag) (D : Addr) : Prop where
  cl : (PySem.W.clsIn K D).isSome = true
  ga : PySem.W.findIn K (.ref D) "__getattribute__" = some (some (.builtin "BaseException.__getattribute__"))
  gg : PySem.W.findIn K (.ref D) "__getattr__" = some none
  ex : PySem.W.subIn K (.ref D) (.type "BaseException") = some true
  hd : PySem.W.hasDictIn K D = true
  ca : PySem.W.findIn K (.ref D) "__class__" = some (some (.builtin "object.__class__"))
  cn : PySem.W.specialIn K (.builtin "object.__class__") "__get__" = some (some (.builtin "getset_descriptor.__get__"))
  ct : PySem.W.takesIn K (.builtin "object.__class__") = some true
  cm : PySem.W.mroIn K D (.type "object") = some true
/-- the error as data -/
def exD (a : Addr) : Option (Addr × Str) → PyData
  | none => adrD a
  | some z => exnD a z.1 z.2
theorem exn_of {K : PySem.W.Frag} {S : Hp} {v : V} {a d : Addr} {z : Str} (h : Da K S v (exnD a d z)) : v = .ref a ∧ S d = some (.xd [("name", .str z)]) := by
  unfold exnD at h
  generalize hd : PyData.dict [(.bool false, .str z), (.int (Int.ofNat d), .int (Int.ofNat a))] = D at h
  cases h with
  | exn h =>
    unfold exnD at hd
    simp only [PyData.dict.injEq, List.cons.injEq, Prod.mk.injEq, PyData.int.injEq, PyData.str.injEq, true_and, and_true] at hd
    obtain ⟨rfl, h1, h2⟩ := hd
    have h1 := Int.ofNat.inj h1
    have h2 := Int.ofNat.inj h2
    subst h1 h2
    exact ⟨rfl, h⟩
  | adr b => unfold adrD at hd; simp at hd
  | scr h => unfold scr at hd; simp at hd
  | dct h => unfold dctD at hd; simp at hd
  | _ => cases hd
open Classical in
/-- isinstance(e, ..), e the error in slot i -/
noncomputable def eIsx (i : Nat) (D : PyData) (b : Bool) : EF := fun ρ => if ρ[i]? = some (.da D) then some (.da (.bool b), ρ) else none
open Classical in
noncomputable def eXnm (i : Nat) (D : PyData) (z : Str) : EF := fun ρ => if ρ[i]? = some (.da D) then some (.da (.str z), ρ) else none
section
variable {X : Cx} {a D C1 : Addr} {oe : Obj} {d : Option Addr} {i : Nat} {b : Bool} {o : Expr} {cn : Str} {p p2 pos : Pos} {zz : Option (Addr × Str)}
theorem inst_at {pins : List (Addr × Obj)} {σ : L2.St} {H : Hp} {s : Shared} {S : Hp} {v : V} (hp : (a, oe) ∈ X.pn) (hz : Zc (.ref D) (zz.map (·.1)) oe) (hf : ∃ vs, oe.data = .fields vs) (I : Inv X pins σ H s) (ss : Same S H) (hv : Da X.K S v (exD a zz)) :
    v = .ref a ∧ ∃ od, PySem.W.InstAt s.heap a oe D od := by
  have hget := (I.pin (a, oe) (List.mem_append_left _ hp)).1
  obtain ⟨vs, hd⟩ := hf
  cases zz with
  | none =>
    refine ⟨adr_of hv, none, hget, hz.1, by unfold PySem.W.notCls; rw [hd] <;> rfl, ?_⟩
    rw [hz.2]
    trivial
  | some z =>
    obtain ⟨rfl, hS⟩ := exn_of hv
    refine ⟨rfl, ?_⟩
    have hx : ObjOk X.prog X.w H s.heap z.1 (.xd [("name", .str z.2)]) := I.hok z.1 _ (ss _ _ hS)
    obtain ⟨mA, hns, hr⟩ := hx
    obtain ⟨od, ho, hl⟩ := lookIn_ns hns
    refine ⟨some od, hget, hz.1, by unfold PySem.W.notCls; rw [hd] <;> rfl, ?_⟩
    rw [hz.2]
    exact ho
def rIsx (K : PySem.W.Frag) (a C1 : Addr) (zz : Option (Addr × Str)) (b : Bool) : List V → Hp → VK → Prop := fun xs H Q => ∃ (v : V) (S : Hp), xs = [v, .ref C1] ∧ Same S H ∧ Da K S v (exD a zz) ∧ Q (.bl b) H
theorem call_isx (hp : (a, oe) ∈ X.pn) (hz : Zc (.ref D) (zz.map (·.1)) oe) (hf : ∃ vs, oe.data = .fields vs) (T : KxC X.K D) (ki : PySem.W.kitOne X.K (.ref D) (.ref C1) = some b) : CallR X (.builtin "isinstance") (rIsx X.K a C1 zz b) := by
  intro pins s σ H xs us Q I r h
  obtain ⟨v, S, rfl, ss, hv, q⟩ := h
  obtain ⟨rfl, od, J⟩ := inst_at hp hz hf I ss hv
  cases r with
  | cons rx rr =>
    cases rr with
    | cons rt rr =>
      cases rr
      cases rx
      cases rt
      exact PySem.W.kia_one (PySem.W.kitx_exc T.cl T.ga T.gg T.ex T.ca T.cn T.ct T.cm) I.kIn J ki (fun z => nomatch z) fun tk => ⟨.bl b, H, I.kept (t' := tk) fun _ _ z => z, rfl, q⟩
theorem ok_isx (hp : (a, oe) ∈ X.pn) (hz : Zc (.ref D) (zz.map (·.1)) oe) (hf : ∃ vs, oe.data = .fields vs) (T : KxC X.K D) (ki : PySem.W.kitOne X.K (.ref D) (.ref C1) = some b) (ho : PE X o (tVar i)) (hg : Gl X "isinstance") (hm : X.mg "isinstance" = none) (hgc : Gl X cn) (hmc : X.mg cn = some (.ref C1))
    (hdb : (cn == ("__debug__" : Str)) = false := by decide)
    (hs : starEach [o, .Name cn p2] X.env = (false, eval o X.env) :: starEach [.Name cn p2] X.env := by rfl) (hs2 : starEach [.Name cn p2] X.env = (false, eval (.Name cn p2) X.env) :: starEach [] X.env := by rfl) (hpl : (backTo pos (starEach [.Name cn p2] X.env)).any (·.1) = false := by rfl) :
    OkE X (.Call (.Name "isinstance" p) [o, .Name cn p2] [] pos) (eIsx i (exD a zz) b) :=
  pe_imp (pe_callB (call_isx hp hz hf T ki) hg hm (by decide +kernel) (pa_cons ho (pa_cons (pe_glob (v := .ref C1) hgc hmc rfl hdb) pa_nil hs2) hs) (by decide) (by decide) hs hpl) fun σ H Q ⟨t, S, ρ, r, ρ', R, e, k⟩ => by
    unfold eIsx at e
    split at e
    · rename_i hi
      cases e
      obtain ⟨v, e1, dv⟩ := R.dat i _ hi
      exact ⟨v, e1, v, S, rfl, R.sh, dv, k _ H S R (Same.refl _) (.bl b)⟩
    · cases e
theorem ok_xnm {dd : Addr} {z : Str} (hp : (a, oe) ∈ X.pn) (hz : Zc (.ref D) (some dd) oe) (hf : ∃ vs, oe.data = .fields vs) (T : KxC X.K D) (hno : PySem.W.findIn X.K (.ref D) "name" = some none) (ho : PE X o (tVar i)) (hb : attributeBase o "name" X.env (eval o X.env) = eval o X.env := by rfl) :
    OkE X (.Attribute o "name" pos) (eXnm i (exnD a dd z) z) := by
  refine ⟨fun pins s σ H Q I h => ?_⟩
  obtain ⟨t, S, ρ, r, ρ', R, e, k⟩ := h
  unfold eXnm at e
  split at e
  · rename_i hi
    cases e
    obtain ⟨v, e1, dv⟩ := R.dat i _ hi
    obtain ⟨rfl, hS⟩ := exn_of dv
    refine attr_of hb (thn (ho.run pins s σ H (fun x H1 => x = .ref a ∧ H1 = H) I ⟨.ref a, e1, rfl, rfl⟩) fun u s1 hh => ?_)
    obtain ⟨x, H1, I1, rx, rfl, rfl⟩ := hh
    obtain rfl : u = Value.ref a := rx
    obtain ⟨ha, _⟩ := I1.pin (a, oe) (List.mem_append_left _ hp)
    obtain ⟨vs, hd⟩ := hf
    have hx : ObjOk X.prog X.w H1 s1.heap dd (.xd [("name", .str z)]) := I1.hok dd _ (R.sh _ _ hS)
    obtain ⟨mA, hns, hr⟩ := hx
    obtain ⟨od, hod, hl⟩ := lookIn_ns hns
    obtain ⟨u, hu, ru⟩ := RelO.some_of (v := .str z) (o := mA "name") (by simpa [List.lookup] using hr "name")
    have J : PySem.W.InstAt s1.heap a oe D (some od) := ⟨ha, hz.1, by unfold PySem.W.notCls; rw [hd] <;> rfl, by rw [hz.2]; exact hod⟩
    exact HandSPX.exc_get I1.kIn J T.ga T.gg T.ex (PySem.W.findObj_own T.hd hno rfl (by rw [hl, hu])) (handed_of ru) ⟨.str z, H1, I1.tok _, ru, k _ H1 S R (Same.refl _) (.str z)⟩
  · cases e
end
end DL
set_option maxHeartbeats 2000000
/-! The data layer 33: a tuple is unpacked where an error is handled; the call that hands the error on. -/
namespace DL
open PySem L2 PySem.Spec PyProof.Rows HotX
section
variable {prog : Program} {w : World} {A : Around} {E : Value → Shared → Prop} {s : Shared}
theorem tup_end_hot {it t x1 : Addr} {i : Nat} {items : Array Value} {Q : Option Value → Shared → Prop} (hot : HotAt A x1 s.heap) (hne : x1 ≠ it) (hit : s.heap.IsTupleIter it t i) (ht : IsTup s.heap t items) (hx : items[i]? = none)
    (hQ : ∀ h', Heap.ExtBut it s.heap h' → Q none { s with heap := h' }) : wpAny (model prog w) A (pyNext (.ref it)) Q E s := by
  obtain ⟨o, ho, hc, hd⟩ := id hit
  obtain ⟨ol, hol, _, nl, hdl⟩ := ht
  obtain ⟨hh, o1, vs1, h1, d1, c1⟩ := hot
  unfold pyNext
  refine wpAny_bind (wpAny_attempt (wpAny_callSpecial?_slot (name := Str.ofString "__next__") hit.typeIs F.slot_tuple_iterator_next (wpAny_call_entry F.slot_tuple_iterator_next hit.typeIs F.entry_tuple_iterator_next ?_ (F.args_tuple_iterator_next_1 _))))
  show wpAny _ _ (field (.ref it) 0 >>= _) _ _ s
  refine wpAny_bind (wpAny_field ho hd (x := .ref t) rfl ?_)
  show wpAny _ _ (if (Value.ref t == Value.none) = true then _ else _) _ _ s
  rw [if_neg (show ¬ ((Value.ref t == Value.none) = true) from Bool.false_ne_true)]
  show wpAny _ _ (field (.ref it) 1 >>= _) _ _ s
  refine wpAny_bind (wpAny_field ho hd (x := .int i 0) rfl ?_)
  show wpAny _ _ (seqItems? (.ref t) >>= _) _ _ s
  refine wpAny_bind (wpAny_seqItems hol hdl ?_)
  simp only [Int.toNat_natCast, hx]
  refine wpAny_bind (wpAny_rule (wpAny_bind (wpAny_setField ho hd (by simp) ?_)))
  show wpAny _ _ (newExc (.type "StopIteration") [] >>= _) _ _ _
  refine wpAny_bind ?_
  simp only [newExc, newTuple]
  refine wpAny_bind (wpAny_newObj_type ?_ (by size_fits))
  refine wpAny_bind (m := firstArgMember _ _) (wpAny_of_eq (a := Value.none) (by first | rfl | (simp only [firstArgMember]; rfl)) ?_)
  refine wpAny_newObj_type ?_ (by size_fits)
  have up : ∀ {b : Addr} {u : Obj}, b ≠ it → s.heap.get? b = some u → ∀ f u1 u2, (((s.heap.update it f).push u1).push u2).get? b = some u := fun {b u} hb e f u1 u2 => Heap.get?_push_of_some _ (Heap.get?_push_of_some _ (((Heap.SameBut.update s.heap it f).2 b hb).trans e))
  refine raiseNew_hot (x1 := x1) ⟨hh, o1, vs1, up hne h1 _ _ _, d1, c1⟩ (Nat.ne_of_lt (Heap.lt_size (Heap.get?_push_of_some _ (((Heap.SameBut.update s.heap it _).2 x1 hne).trans h1)))) (Heap.get?_push_size _ rfl) rfl (by first | (simp; done) | (simp; omega) | (simp only [Array.size_append]; simp; omega)) ?_
  refine wpAny_bind (wpAny_isInstance (T := "StopIteration") (b := true) ⟨_, Heap.get?_update_self _ (Heap.get?_push_size _ rfl) rfl, rfl⟩ isSubtype_stop ?_)
  refine wpAny_pure (hQ _ fun b u hb e => ?_)
  rw [Heap.get?_update_other _ _ (Nat.ne_of_gt (Heap.lt_size (Heap.get?_push_of_some _ (((Heap.SameBut.update s.heap it _).2 b hb).trans e))))]
  exact up hb e _ _ _
theorem unpack_hot {t x1 : Addr} {items : Array Value} {Q : List Value → Shared → Prop} (hot : HotAt A x1 s.heap) (ht : IsTup s.heap t items)
    (hQ : ∀ h', Heap.ExtBut s.heap.objs.size s.heap h' → Q items.toList { s with heap := h' }) : wpAny (model prog w) A (unpackItems (.ref t) items.size none) Q E s := by
  have hlt : t ≠ s.heap.objs.size := by obtain ⟨o, ho, _⟩ := ht; exact Nat.ne_of_lt (Heap.lt_size ho)
  unfold unpackItems
  refine wpAny_bind ?_
  unfold notIterableAtAll
  refine wpAny_bind (wpAny_specialOf ht.typeIs slot_tuple_iter.lookup ?_)
  refine wpAny_pure ?_
  simp only [Bool.false_eq_true, if_false]
  refine wpAny_bind (wpAny_holding (iter_tuple ht ?_))
  refine wpAny_bind (wpAny_holding (draw_tuple hlt items.size 0 _ _ ⟨_, Heap.get?_push_size _ rfl, rfl, rfl⟩ (ht.push _) (by omega) fun h₁ hit₁ hs₁ => ?_))
  have hall : List.take items.size (List.drop 0 items.toList) = items.toList := by
    rw [List.drop_zero]
    exact List.take_of_length_le (by simp)
  rw [hall, if_neg (by simp)]
  have ht₁ : IsTup h₁ t items := (ht.push _).extBut hs₁.extBut hlt
  obtain ⟨hh, o1, vs1, e1, d1, c1⟩ := hot
  have hn1 : x1 ≠ s.heap.objs.size := Nat.ne_of_lt (Heap.lt_size e1)
  refine wpAny_bind (wpAny_holding (tup_end_hot (x1 := x1) ⟨hh, o1, vs1, hs₁.extBut _ _ hn1 (Heap.get?_push_of_some _ e1), d1, c1⟩ hn1 hit₁ ht₁ (by simp) fun h₂ he₂ => ?_))
  simp only [Option.isSome_none, Bool.false_eq_true, if_false]
  exact wpAny_pure (hQ h₂ fun b o hb e => he₂ b o hb (hs₁.extBut b o hb (Heap.get?_push_of_some _ e)))
end
section
variable {X : Cx} {pos : Pos}
theorem pg_tupHot {es : List Expr} {k : Nat} {t : TGs} {n : Nat} (hc : L2H.HotC X) (h : PGs X es t) (hn : (assignEach es X.env).length = n := by rfl) (hst : (assignEach es X.env).findIdx? (·.1) = none := by rfl) : PG X (.Tuple es k pos) (L2.gTup X.K n t) := by
  refine ⟨fun pins s σ H v u Q I r hw => ?_⟩
  obtain ⟨a, xs, e1, hq, hl, hw⟩ := hw
  subst e1
  cases r
  obtain ⟨its, rv, ht, hz⟩ := I.tuple hq
  obtain ⟨x1, hot⟩ := hc.at I
  rw [assign_Tuple]
  refine wpAny_bind (wpAny_standAt ?_)
  unfold unpack
  rw [show (assignEach es X.env).length = its.toArray.size from by simp [hn, ← hl, rv.length], hst]
  refine wpAny_bind (wpAny_holding (unpack_hot hot ht fun h' hx => ?_))
  have I1 : Inv X pins σ H { s with heap := h' } := I.kept (t' := s.toks) fun b o e => hx b o (Nat.ne_of_lt (Heap.lt_size e)) e
  exact h.run pins _ σ H xs _ Q I1 (by simpa using rv) hw
theorem okG_tupHot {es : List Expr} {kk n : Nat} {ws : List Nat} {gs : GFs} (hc : L2H.HotC X) (h : OkGs X es ws gs) (hn : (assignEach es X.env).length = n := by rfl) (hst : (assignEach es X.env).findIdx? (·.1) = none := by rfl) : OkG X (.Tuple es kk pos) ws (gTup n gs) :=
  ⟨pg_imp (pg_tupHot hc h.run hn hst) fun v σ H Q ⟨t, S, ρ, r, ρ', R, o, e, k⟩ => by
    unfold gTup at e
    split at e
    · split at e
      · rename_i ds hl
        obtain ⟨a, vs, rfl, h1, h2⟩ := (Vw.of (H := H) (o : Da X.K S v (.tuple ds))).tup
        exact ⟨a, vs, rfl, SqT.of (R.sh _ _ h1), by rw [h2.length]; exact hl, t, S, ρ, ds, ρ', R, h2, e, k⟩
      · cases e
    · cases e⟩
end

/-! ### the call that hands the error on -/
theorem roomS {k : Nat} {A : Around} {h : Option Value} (r : Room k A) : L2H.RoomH k (A.mark h) := ⟨r.dp, r.un⟩
section
variable {P : Program} {w : World} {K : PySem.W.Frag} {mg : Str → Option Value} {base : Heap}
theorem run_pin {x qual : Str} {st : Stmt} {f : Addr} {fd : FuncData} {N ps : List Str} {k : Nat} (F : Fun K x qual st f fd) (S : FnScope N ps (defScope st)) {A : Around} {outer : List Env} {s : Shared} {H : Hp} {us : List Value} {vs : List V} {Q : VK} {p : Addr × Obj}
    (hr : L2H.RoomH (k + 1) A) (hot : L2H.Hot1 A p) (hpin : L2H.PinOk outer H s p) (e0 : Env0 P w K mg base A outer s H) (hb : BindsTo s fd ⟨us, []⟩ (ps.zip us)) (r : Vals vs us) (hl : vs.length = ps.length)
    (hbody : ∀ cdv, L2H.Hot1 (A.deeper (envOfC qual (defScope st) s.heap.objs.size f cdv)) p → L2H.RoomH k (A.deeper (envOfC qual (defScope st) s.heap.objs.size f cdv)) → ∃ t, PSs (L2H.cxH CX0 P w K mg base N qual (defScope st) f cdv A outer s H E0 p) (defBody st) t ∧ t { nx := fun _ H' => Q .non H', rt := Q } (L2.start N vs) H) :
    codeAny (model P w) A (.call (.ref f) ⟨us, []⟩) (CR CX0 outer P w H s Q E0) s := by
  obtain ⟨oc, od, kV, doc, pm, an, cdv, ct, osl, rfl, lk, hcd⟩ := F.ex
  have KX : K.In s.heap := e0.mod.kin.keeps fun b o e => (e0.bs b o e).1
  have lim : s.heap.NoLimit := e0.mod.nolimit.keeps fun b o e => (e0.bs b o e).1
  have hkind : ∀ y ∈ ps.zip us, (defScope st).names.lookup y.1 = some .local ∨ ((defScope st).names.lookup y.1 = some .cell ∧ ((cellsFrom (s.heap.objs.size + 1) (defScope st).names []).lookup y.1).isSome = true) := fun ⟨n, v⟩ hy => by
    rcases S.par n (List.of_mem_zip hy).1 with q | q
    · exact .inl q
    · exact .inr ⟨q, PySem.W.cellsFrom_some _ _ _ (.inl q)⟩
  refine codeAny_call_function hr.depth (KX _ _ lk) rfl S.co S.gen rfl (PySem.W.codeRec_of KX hcd) (hb _ _ _ _ ?_)
  refine wpAny_newFunctionEnv_cells S.kind hkind fun env he s1 x => ?_
  subst he
  refine ⟨lim.keeps x.toInCall.keep, codeAny_func ?_⟩
  obtain ⟨t, ht, hq⟩ := hbody cdv hot (hr.deeper _)
  have I : Inv (L2H.cxH CX0 P w K mg base N qual (defScope st) f cdv A outer s H E0 p) [] (L2.start N vs) H s1 := L2H.inv_startH S hpin e0 hl r x
  refine wpAny_mono (ht.run [] s1 (L2.start N vs) H _ I hq) (fun fl s' hs => ?_) fun e s' hs => hs
  cases fl with
  | ret u =>
    obtain ⟨v, σ', H', J, rv, q⟩ := hs
    exact ⟨v, H', J.os, J.bare, J.base, J.hok, rv, q⟩
  | next =>
    obtain ⟨σ', H', J, q⟩ := hs
    exact ⟨V.non, H', J.os, J.bare, J.base, J.hok, rfl, q⟩
  | brk =>
    obtain ⟨_, _, _, q⟩ := hs
    exact False.elim q
  | cont =>
    obtain ⟨_, _, _, q⟩ := hs
    exact False.elim q
end
section
variable {X : Cx} {a : Addr} {oe : Obj} {pn : List (Addr × Obj)} {x qual : Str} {st : Stmt} {f : Addr} {fd : FuncData} {N ps : List Str} {k : Nat} {e : Expr} {es : List Expr} {t : TA} {q pos : Pos} {cls : Value} {d : Option Addr}
/-- f(e) where e is the error that the suite holds -/
theorem pe_callPin (F : Fun X.K x qual st f fd) (S : FnScope N ps (defScope st)) (hr : Room (k + 1) X.A) (hz : L2N.Zn cls d oe) (hf : ∃ vs, oe.data = .fields vs) (hg : Gl X x) (hm : X.mg x = some (.ref f)) (hk : PySem.W.keepIn X.K (.ref f) = true) (hb : Binds X.K fd ps [])
    (ha : PA (X.suite a ((a, oe) :: pn)) (e :: es) t) (hdb : (x == ("__debug__" : Str)) = false := by decide) (he : starEach (e :: es) X.env = (false, eval e X.env) :: starEach es X.env := by rfl) (hpl : (backTo pos (starEach es X.env)).any (·.1) = false := by rfl) :
    PE (X.suite a ((a, oe) :: pn)) (.Call (.Name x q) (e :: es) [] pos) (fun σ H Q => t σ H fun vs H1 => vs.length = ps.length ∧ ∀ oe : Obj, L2N.Zn cls d oe → (∃ vs, oe.data = .fields vs) → ∀ (s : Shared) (cdv : Value) (A : Around) (outer : List Env), L2H.Hot1 (A.deeper (envOfC qual (defScope st) s.heap.objs.size f cdv)) (a, oe) → L2H.RoomH k (A.deeper (envOfC qual (defScope st) s.heap.objs.size f cdv)) →
      ∃ u, PSs (L2H.cxH CX0 X.prog X.w X.K X.mg X.base N qual (defScope st) f cdv A outer s H1 E0 (a, oe)) (defBody st) u ∧ u { nx := fun _ H' => Q .non H', rt := Q } (L2.start N vs) H1) := by
  refine ⟨fun pins s σ H Q I h => ?_⟩
  refine wpAny_Call_Name_kw (ld_glob I hg hm ?_ hdb)
  refine PySem.W.callWith_K (h₀ := X.base) I.ok.mod.kin hk (thn (ha.run pos pins s σ H _ I h) fun us s1 ⟨vs, H1, I1, r, hl, hq⟩ => ⟨I1.kIn, ?_⟩) he hpl
  have P1 := I1.pin (a, oe) (List.mem_append_left _ List.mem_cons_self)
  have hpin : L2H.PinOk X.stack H1 s1 (a, oe) := ⟨P1.1, P1.2.1, fun hm => (List.mem_cons.mp (I1.stkSub a hm)).elim P1.2.2.1 P1.2.2.2.1, P1.2.2.2.2⟩
  obtain ⟨vs0, hv⟩ := id hf
  have hot : L2H.Hot1 (X.suite a ((a, oe) :: pn)).A (a, oe) := ⟨rfl, vs0, hv, hz.2.2 vs0 hv⟩
  have b := hb s1 us I1.kIn (by rw [List.append_nil, ← r.length]; exact hl)
  rw [List.append_nil] at b
  refine wpAny_call (codeAny_mono (run_pin F S (roomS hr) hot hpin I1.env0 b r hl fun cdv h1 h2 => hq oe hz hf s1 cdv _ _ h1 h2) fun r s' hq => ?_)
  cases r with
  | error e => exact False.elim hq
  | ok fl =>
    cases fl with
    | ret u => exact I1.after hq
    | next => exact False.elim hq
    | brk => exact False.elim hq
    | cont => exact False.elim hq
end
theorem takes0N {X : Cx} : L2N.Takes X (fun _ _ _ _ => False) := fun _ _ x => by
  obtain ⟨_, _, _, _, _, _, _, _, _, _, _, _, _, _, _, _, z⟩ := x
  exact z.elim
section
variable {K : PySem.W.Frag} {t : Et} {S H : Hp} {σ : L2.St} {ρ : En} {i : Nat} {b : PyData} {st st' ds : List PyData} {ws : List V} {r : Ek} {v0 : V} {Q : VK} {E : XK} {C : Addr} {c : EkC} {G : PyData → List PyData → List PyData → Option (Ek × List PyData)}
theorem spE_in (T : OvnC K C) (R : Rep K t S H σ ρ) (q : ρ[i]? = some (.ob b st)) (hv : σ[i]? = some (some v0)) (d2 : DaAll K S ws ds) (qG : G b st ds = some (r, st'))
    (k : ∀ H' S', Rep K t S' H' σ (ρ.set i (.ob b st')) → Same S S' → ErrTo c E H' r) : spE K c G (v0 :: ws) H Q E := by
  obtain ⟨p, dx, vb, l, vs, x1, x2, x3, x4, x5, x6, x7⟩ := ov_at T R q
  rw [hv] at x2
  cases x2
  exact ⟨S, C, p, dx, l, vb, vs, ws, b, st, ds, r, st', T.ov, R.sh, rfl, x3, x4, x5, x6, x7, d2, qG, fun H' S' mv' n1 n2 n3 n4 n5 n6 => k H' S' (R.afterO q x1 hv n1 n2 n3 n4 n5 n6) n1⟩
end
end DL
set_option maxHeartbeats 2000000
/-! The data layer 34: what makes ovens, read; the call that is refused. -/
namespace DL
open PySem L2 PySem.Spec PyProof.Rows
section
variable {K : PySem.W.Frag} {FB FL : List PyData → Option Rv} {C : Addr} {D : Ends} {t : Et} {S H S0 H0 : Hp} {σ : L2.St} {ρ ρ' : En} {bi i j l : Nat}
theorem Rep.nopa (R : Rep K t S H σ ρ) (hpp : t.pp = none) (k : Nat) (ds : List PyData) : ρ[k]? ≠ some (.pa ds) := fun e => by
  obtain ⟨a, vs, _, _, _, _, _, h⟩ := R.own k _ ds e rfl
  have := h.mpr rfl
  rw [hpp] at this
  cases this
theorem mk1_rd (O : OvnC K C) (R : Rep K t S H σ ρ) (hov : ∀ p, t.ov p = none) (hpp : t.pp = none) (hk : Kp t S0 H0) (e : sMk1 FB FL bi i j ρ = some (.nx ρ')) (hi : i < ρ.length)
    (cont : ∀ t1 S1 H1 σ1, Rep K t1 S1 H1 σ1 ρ' → Same S S1 → Kp t1 S0 H0 → σ1.length = σ.length → D.nx σ1 H1) :
    tPar i j (tCons (tMake C (spInit K C FB) [] E0 (tCons (tVar bi) tNil)) (tCons (rdE K (eCall FL (aCons (eVar bi) aNil))) tNil)) D σ H := by
  obtain ⟨s, q1, e1⟩ := ol_some e
  obtain ⟨d, q2, e2⟩ := ol_some e1
  obtain rfl := daD_some q2
  split at e2
  · rename_i d2 hF hL
    cases e2
    obtain ⟨y, y1, y2⟩ := R.dat bi d q1
    unfold tPar tCons
    refine make_in R.sh y2 hF (fun Q' q => ⟨y, y1, q⟩) fun S1 H1 p l M => ?_
    obtain ⟨dx, vb, m1, m2⟩ := M.hp
    obtain ⟨mv, m3, m4⟩ := M.hl
    have R1 := R.new M.n
    have ec : eCall FL (aCons (eVar bi) aNil) ρ = some (.da d2, ρ) := by
      unfold eCall
      simp [q1, aCons, aNil, eSl, hL]
    refine ⟨t.re S1 H1 σ ρ, S1, ρ, _, _, R1.base, ec, fun w0 H2 S2 R2 s2 o2 => ?_⟩
    have hs : ∀ b o, cut H1 σ ρ b = some o → H2 b = some o := fun b o e => R2.bh.get (a := b) e fun ⟨q, _, _, _, z⟩ => by
      have z' : t.ov q = _ := z
      rw [hov q] at z'
      cases z'
    have own0 : ∀ {b : Addr}, H b = none → ∀ (i : Nat) (s : Sl) (ds : List PyData), ρ[i]? = some s → s.ls = some ds → σ[i]? ≠ some (some (.ref b)) := fun {b} hb i s ds h1 h2 h3 => by
      obtain ⟨a, vs, w1, w2, _⟩ := R.own i s ds h1 h2
      rw [h3] at w1
      cases w1
      rw [hb] at w2
      cases w2
    have c1 : cut H1 σ ρ p = _ := cut_of m1 (own0 M.np)
    have c2 : cut H1 σ ρ l = _ := cut_of m3 (own0 M.nl)
    have R3 := R1.unbase R2
    have hSl : S2 l = none := R2.sn l (none_ne c2) M.sl
    have R4 := R3.adopt (i := i) O.ov (hs _ _ c1) (hs _ _ c2) hSl (own0 M.nl) (fun ⟨q, _, _, _, z⟩ => by rw [hov q] at z; cases z) (hov p) (m2.mono s2) (m4.mono s2) (R3.nopa hpp i) hi
    have nl0 : H0 l = none := by
      cases e : H0 l with
      | none => rfl
      | some o => exact absurd (R.bh.get (hk.k1 l o e).1 (hk.k1 l o e).2) (by rw [M.nl]; exact fun z => nomatch z)
    have R5 := R4.setD (i := j) (show Da K S2 w0 d2 from o2) (R4.nopa hpp j)
    exact ⟨_, _, rfl, cont _ S2 H2 _ R5 (M.n.ss.trans s2) (hk.adopt R3 nl0) (by rw [List.length_set, List.length_set])⟩
  · cases e2
theorem mk3_rd (O : OvnC K C) (R : Rep K t S H σ ρ) (hov : ∀ p, t.ov p = none) (hpp : t.pp = none) (hk : Kp t S0 H0) (e : sMk3 FB bi i j l ρ = some (.nx ρ')) (hi : i < ρ.length) (hj : j < ρ.length) (hij : i ≠ j) (hil : i ≠ l) (hjl : j ≠ l)
    (cont : ∀ t1 S1 H1 σ1, Rep K t1 S1 H1 σ1 ρ' → Same S S1 → Kp t1 S0 H0 → σ1.length = σ.length → D.nx σ1 H1) :
    tPar3 i j l (tCons (tMake C (spInit K C FB) [] E0 (tCons (tVar bi) tNil)) (tCons (tMake C (spInit K C FB) [] E0 (tCons (tVar bi) tNil)) (tCons (L2.tLst (tCons (tTup (tCons (tC (.int 0)) (tCons (tTup tNil) tNil))) tNil)) tNil))) D σ H := by
  obtain ⟨s, q1, e1⟩ := ol_some e
  obtain ⟨d, q2, e2⟩ := ol_some e1
  obtain rfl := daD_some q2
  split at e2
  · rename_i hF
    cases e2
    obtain ⟨y, y1, y2⟩ := R.dat bi d q1
    unfold tPar3 tCons
    refine make_in R.sh y2 hF (fun Q' q => ⟨y, y1, q⟩) fun S1 H1 p1 l1 M1 => ?_
    obtain ⟨dx1, vb1, a1, a2⟩ := M1.hp
    obtain ⟨mv1, a3, a4⟩ := M1.hl
    have R1 := R.new M1.n
    refine make_in R1.sh (y2.mono M1.n.ss) hF (fun Q' q => ⟨y, y1, q⟩) fun S2 H2 p2 l2 M2 => ?_
    obtain ⟨dx2, vb2, b1, b2⟩ := M2.hp
    obtain ⟨mv2, b3, b4⟩ := M2.hl
    have R2 := R1.new M2.n
    refine ⟨Nat.zero_le _, fun t1 n1 => ⟨(by show 2 ≤ sizeLine; decide), fun t2 n2 => ⟨(by show 1 ≤ sizeLine; decide), fun L nL => ?_⟩⟩⟩
    have N1 := New.put (o := .tup []) R2.sh n1
    have N2 := New.put (o := .tup [.int 0, .ref t1]) N1.sh n2
    have N3 := New.lay (o := .lst [.ref t2]) N2.sh nL
    have N := (N1.trans N2).trans N3
    have hL2 : H2 L = none := (N1.trans N2).hh.free nL
    have hd0 : Da K (upd (upd S2 t1 (.tup [])) t2 (.tup [.int 0, .ref t1])) (.ref t2) st0 := .tup upd_same (.cons (.int 0) (.cons (.tup (N2.ss _ _ upd_same) .nil) .nil))
    have o : RvOk K t _ _ σ ρ (.ref L) (.fr [st0]) := RO.rv (H := H2) R2 N ⟨L, _, rfl, hL2, upd_same, N2.sh.free nL, .cons hd0 .nil⟩
    have R3 := (R2.new N).setO (i := l) o ((R2.new N).nopa hpp l)
    have S1l : S2 l1 = none := M2.n.fr l1 (none_ne a3) M1.sl
    have sl1 : (upd (upd S2 t1 (.tup [])) t2 (.tup [.int 0, .ref t1])) l1 = none := N.fr l1 (none_ne (M2.n.hh _ _ a3)) S1l
    have sl2 : (upd (upd S2 t1 (.tup [])) t2 (.tup [.int 0, .ref t1])) l2 = none := N.fr l2 (none_ne b3) M2.sl
    have own0 : ∀ {b : Addr}, H b = none → H2 b ≠ none → ∀ (k : Nat) (s : Sl) (ds : List PyData), (ρ.set l (.ow [st0]))[k]? = some s → s.ls = some ds → (σ.set l (some (.ref L)))[k]? ≠ some (some (.ref b)) := fun {b} hb hb2 k s ds h1 h2 h3 => by
      rcases set_get h1 with ⟨rfl, _, _⟩ | ⟨hkl, h1⟩
      · by_cases hl : k < σ.length
        · rw [List.getElem?_set_self hl] at h3
          cases h3
          exact hb2 hL2
        · rw [List.getElem?_eq_none (by simpa using hl)] at h3
          cases h3
      · rw [set_ne hkl] at h3
        obtain ⟨a, vs, w1, w2, _⟩ := R.own k s ds h1 h2
        rw [h3] at w1
        cases w1
        rw [hb] at w2
        cases w2
    have hl2 : H l2 = none := M1.n.hh.free M2.nl
    have R4 := R3.adopt (i := i) O.ov (N.hh _ _ (M2.n.hh _ _ a1)) (N.hh _ _ (M2.n.hh _ _ a3)) sl1 (own0 M1.nl (none_ne (M2.n.hh _ _ a3))) (fun ⟨q, _, _, _, z⟩ => by rw [hov q] at z; cases z) (hov p1)
      (a2.mono (M2.n.ss.trans N.ss)) (a4.mono (M2.n.ss.trans N.ss)) (R3.nopa hpp i) (by rw [List.length_set]; exact hi)
    have ne_p : p2 ≠ p1 := fun z => by
      have := M2.np
      rw [z, a1] at this
      cases this
    have ne_l : l2 ≠ l1 := fun z => by
      have := M2.nl
      rw [z, a3] at this
      cases this
    have own2 : ∀ (k : Nat) (s : Sl) (ds : List PyData), ((ρ.set l (.ow [st0])).set i (.ob d [st0]))[k]? = some s → s.ls = some ds → ((σ.set l (some (.ref L))).set i (some (.ref p1)))[k]? ≠ some (some (.ref l2)) := fun k s ds h1 h2 h3 => by
      rcases set_get h1 with ⟨_, rfl, _⟩ | ⟨hki, h1⟩
      · cases h2
      · rw [set_ne hki] at h3
        exact own0 hl2 (none_ne b3) k s ds h1 h2 h3
    have R5 := R4.adopt (i := j) (p := p2) (l := l2) O.ov (N.hh _ _ b1) (N.hh _ _ b3) sl2 own2 (fun ⟨q, _, _, _, z⟩ => by
      have z' : (if q = p1 then some (C, dx1, vb1, l1) else t.ov q) = _ := z
      split at z'
      · cases z'
        exact ne_l rfl
      · rw [hov q] at z'
        cases z') (by show (if p2 = p1 then _ else t.ov p2) = none; rw [if_neg ne_p]; exact hov p2) (b2.mono N.ss) (b4.mono N.ss) (R4.nopa hpp j) (by rw [List.length_set, List.length_set]; exact hj)
    have nl0 : ∀ {b : Addr}, H b = none → H0 b = none := fun {b} hb => by
      cases e : H0 b with
      | none => rfl
      | some o => exact absurd (R.bh.get (hk.k1 b o e).1 (hk.k1 b o e).2) (by rw [hb]; exact fun z => nomatch z)
    have k1 := (hk.adopt (C := C) (p := p1) (dx := dx1) (vb := vb1) R3 (nl0 M1.nl)).adopt (C := C) (p := p2) (dx := dx2) (vb := vb2) R4 (nl0 hl2)
    generalize tAdopt (tAdopt t _ _ _ _ C p1 dx1 l1 vb1) _ _ _ _ C p2 dx2 l2 vb2 = t9 at R5 k1
    rw [List.set_comm _ _ hil.symm, List.set_comm _ _ hjl.symm, List.set_comm _ _ hil.symm, List.set_comm _ _ hjl.symm] at R5
    refine ⟨_, _, _, rfl, cont _ _ _ _ R5 ((M1.n.ss.trans M2.n.ss).trans N.ss) k1 (by simp)⟩
  · cases e2
end

section
variable {K : PySem.W.Frag} {t : Et} {S H S0 H0 : Hp} {σ : L2.St} {ρ : En} {d : PyData} {o : Out} {Q : VK} {n : Nat}
/-- how a def ends that has made ovens -/
theorem outM (k : Kp t S0 H0) (ss : Same S0 S) (ho : outF o = some (.da d)) (q : ∀ v H' S', New S0 H0 S' H' → Da K S' v d → Q v H') : OutOk K t S n { nx := fun _ H' => Q .non H', rt := Q } o := by
  cases o with
  | nx ρ' =>
    cases ho
    exact fun σ' H' S' R s _ => q _ H' S' (k.new R (ss.trans s)) .non
  | bk ρ' => cases ho
  | ct ρ' => cases ho
  | rt r ρ' =>
    cases r with
    | da d' =>
      cases ho
      exact fun v σ' H' S' R s o => q v H' S' (k.new R (ss.trans s)) o
    | fr fs => cases ho
    | bo i => cases ho
end
section
variable {X : Cx} {CX : CXT} {k : Nat} {f C : Addr} {fd : FuncData} {ps : List Str} {sp : Sp} {E : L2.St → XK} {x : Str} {p pos : Pos} {e : Expr} {es : List Expr} {t : TA}
def tMakeC (C : Addr) (sp : Sp) (E : L2.St → XK) (t : TA) : TE := fun σ H Q => t σ H fun vs H1 => ∀ x dx, H1 x = none → H1 dx = none → dx ≠ x → sp (.ref x :: vs) (upd (upd H1 dx (.own x)) x (.ins C dx [])) (fun v H2 => v = .non ∧ Q (.ref x) H2) (E σ)
/-- C(e, ..) that may be refused -/
theorem pe_makeC (M : Mk X.K C f) (F : FnOk X.prog X.w X.K X.mg X.base CX k f fd ps sp) (hr : Room (k + 1) X.A) (hg : Gl X x) (hm : X.mg x = some (.ref C)) (hb : Binds X.K fd ps []) (hx : ∀ σ, PassesAt CX X σ (E σ))
    (ha : PA X (e :: es) t) (hdb : (x == ("__debug__" : Str)) = false := by decide) (he : starEach (e :: es) X.env = (false, eval e X.env) :: starEach es X.env := by rfl) (hpl : (backTo pos (starEach es X.env)).any (·.1) = false := by rfl) :
    PE X (.Call (.Name x p) (e :: es) [] pos) (tMakeC C sp E t) := by
  refine ⟨fun pins s σ H Q I h => ?_⟩
  refine wpAny_Call_Name_kw (ld_glob I hg hm ?_ hdb)
  refine PySem.W.callWith_K (h₀ := X.base) I.ok.mod.kin M.kp (thn (ha.run pos pins s σ H _ I h) fun us s1 ⟨vs, H1, I1, r, q⟩ => ⟨I1.kIn, ?_⟩) he hpl
  have hq := q (s1.heap.objs.size + 1) s1.heap.objs.size (I1.hok.fresh (Nat.le_succ _)) (I1.hok.fresh (Nat.le_refl _)) (Nat.ne_of_lt (Nat.lt_succ_self _))
  have I2 := Inv.made (C := C) I1
  have r2 : Vals (V.ref (s1.heap.objs.size + 1) :: vs) (Value.ref (s1.heap.objs.size + 1) :: us) := .cons rfl r
  have hl : (Value.ref (s1.heap.objs.size + 1) :: us).length = ps.length := by
    rw [← r2.length]
    exact F.len _ _ _ _ hq
  have hbb := hb _ (Value.ref (s1.heap.objs.size + 1) :: us) I2.kIn (by rw [List.append_nil]; exact hl)
  rw [List.append_nil] at hbb
  refine wpAny_call (make_map (f := f) I1.kIn M.makes M.init (beq_iff_eq.mp M.fn) (codeAny_mono (F.run _ X.stack _ _ ⟨Value.ref (s1.heap.objs.size + 1) :: us, []⟩ (Value.ref (s1.heap.objs.size + 1) :: us) _ _ (E σ) (hr.make C us []) (I2.env0.make C us []) hbb r2 hq) fun r s' hq' => ?_))
  cases r with
  | error e => exact hx σ pins _ _ e s' I2 hq'
  | ok fl =>
    cases fl with
    | ret u =>
      obtain ⟨v, H', I3, rv, ev, q3⟩ := I2.after hq'
      subst ev
      exact ⟨rv, ⟨V.ref (s1.heap.objs.size + 1), H', I3, rfl, q3⟩⟩
    | next => exact False.elim hq'
    | brk => exact False.elim hq'
    | cont => exact False.elim hq'
end
section
variable {K : PySem.W.Frag} {FB : List PyData → Option Rv} {C CN : Addr} {bi : Nat}
/-- try: Oven(batch + batch), refused: True -/
theorem try_rd (te : PySem.W.exmOne K (.ref CN) (.ref CN) = some true) : ∀ (D : Ends) (σ : L2.St) (H : Hp), rdS K (sTryNB FB bi) D σ H →
    tSeq (fun D σ H => tDrop (tMakeC C (spInitX K C CN FB) (WE (wOnly K (.ref CN) (fun _ _ _ => tRet (tC (.bl true))) (fun _ _ _ _ => False) D)) (rdA K (aCons (eBin addD (eVar bi) (eVar bi)) aNil))) D σ H) tNever D σ H := fun D σ H ⟨t, S, ρ, o, R, e, k⟩ => by
  obtain ⟨s, q1, e1⟩ := ol_some e
  obtain ⟨d, q2, e2⟩ := ol_some e1
  obtain rfl := daD_some q2
  split at e2
  · rename_i dd ha
    split at e2
    · rename_i hF
      cases e2
      have ea : aCons (eBin addD (eVar bi) (eVar bi)) aNil ρ = some ([.da dd], ρ) := by
        simp [aCons, aNil, q1, eSl, ha]
      refine ⟨t, S, ρ, _, _, R, ea, fun vs H1 S1 R1 s1 o1 => ?_⟩
      obtain ⟨v, hv, rfl⟩ : ∃ v, RvV K S1 σ v (.da dd) ∧ vs = [v] := by
        cases vs with
        | nil => exact o1.elim
        | cons v vs =>
          cases vs with
          | nil => exact ⟨v, o1.1, rfl⟩
          | cons w ws => exact o1.2.elim
      intro x dx nx ndx nex
      have hs : Same H1 (upd (upd H1 dx (.own x)) x (.ins C dx [])) := fun c o e => by
        rw [upd_ne (ne_of_none e nx), upd_ne (ne_of_none e ndx)]
        exact e
      refine ⟨S1, x, dx, v, dd, R1.sh.trans hs, rfl, upd_same, R1.sh.free nx, hv, hF, fun H' hs' => ?_⟩
      refine ⟨true, te, fun _ a ha => ?_, fun z => nomatch z⟩
      exact k (.bl true) σ H' S1 (R1.new ⟨Same.refl _, hs.trans hs', (R1.sh.trans hs).trans hs', fun _ _ h => h⟩) s1 (.bl true)
    · cases e2
  · cases e2
end

/-! ### defs that make ovens -/
def fnM (n N : Nat) (body : SF) (ds : List PyData) : Option Rv := ol (fnF n N body ds) fun r => ol (daR r) fun d => some (.da d)
section
variable {K : PySem.W.Frag} {FB FL : List PyData → Option Rv} {C : Addr} {n N : Nat} {b0 b1 : SF} {bi i j l : Nat} {H : Hp} {Q : VK} {E : XK} {vs : List V} {NN : List Str}
theorem fnM_inv {body : SF} {ds : List PyData} {r : Rv} (h : fnM n N body ds = some r) : ∃ o d, ds.length = n ∧ body (ds.map Sl.da ++ List.replicate (N - n) .no) = some o ∧ outF o = some (.da d) ∧ r = .da d := by
  obtain ⟨r1, e1, h⟩ := ol_some h
  obtain ⟨d, e2, h⟩ := ol_some h
  cases h
  cases daR_some e2
  obtain ⟨ρ, e3, f1⟩ := ol_some e1
  obtain ⟨o, e4, f2⟩ := ol_some f1
  unfold startE at e3
  split at e3
  · rename_i hl
    cases e3
    exact ⟨o, d, hl, e4, f2, rfl⟩
  · cases e3
theorem fnM_len {body : SF} (h : spF K (fnM n N body) vs H Q E) : vs.length = n := by
  obtain ⟨S, ds, r, _, h1, h2, _⟩ := h
  obtain ⟨o, d, hl, _⟩ := fnM_inv h2
  rw [h1.length]
  exact hl
theorem sMk1_nx {ρ : En} {o : Out} (h : sMk1 FB FL bi i j ρ = some o) : ∃ ρ', o = .nx ρ' := by
  obtain ⟨s, q1, h⟩ := ol_some h
  obtain ⟨d, q2, h⟩ := ol_some h
  split at h
  · cases h
    exact ⟨_, rfl⟩
  · cases h
theorem sMk3_nx {ρ : En} {o : Out} (h : sMk3 FB bi i j l ρ = some o) : ∃ ρ', o = .nx ρ' := by
  obtain ⟨s, q1, h⟩ := ol_some h
  obtain ⟨d, q2, h⟩ := ol_some h
  split at h
  · cases h
    exact ⟨_, rfl⟩
  · cases h
theorem mk1_fn (O : OvnC K C) (hi : i < N) (h : spF K (fnM n N (sSeq sNil (sSeq (sMk1 FB FL bi i j) b1))) vs H Q E) (hN : NN.length = N) (hn : N - n + n = N) :
    tSeq (tPar i j (tCons (tMake C (spInit K C FB) [] E0 (tCons (tVar bi) tNil)) (tCons (rdE K (eCall FL (aCons (eVar bi) aNil))) tNil))) (rdS K b1) { nx := fun _ H' => Q .non H', rt := Q } (L2.start NN vs) H := by
  obtain ⟨S, ds, r, sh, h1, h2, q⟩ := h
  obtain ⟨o, d, hl, e1, e2, rfl⟩ := fnM_inv h2
  obtain ⟨o0, e3, e1⟩ := ol_some e1
  cases e3
  obtain ⟨o1, e4, e5⟩ := ol_some (show sSeq (sMk1 FB FL bi i j) b1 _ = some o from e1)
  obtain ⟨ρ', rfl⟩ := sMk1_nx e4
  have R := start_rep (N - n) h1 sh
  have es : L2.start NN vs = vs.map some ++ List.replicate (N - n) none := by
    unfold L2.start
    rw [h1.length, hl, hN]
  rw [es]
  refine mk1_rd O R (fun _ => rfl) rfl kp_start e4 (by rw [List.length_append, List.length_map, List.length_replicate]; omega) fun t1 S1 H1 σ1 R1 ss k1 _ => ⟨t1, S1, ρ', o, R1, e5, outM k1 ss e2 fun v H' S' N o' => q v H' S' N o'⟩
theorem mk3_fn (O : OvnC K C) (hi : i < N) (hj : j < N) (hij : i ≠ j) (hil : i ≠ l) (hjl : j ≠ l) (h : spF K (fnM n N (sSeq b0 (sSeq (sMk3 FB bi i j l) b1))) vs H Q E) (hN : NN.length = N) (hn : N - n + n = N) :
    tSeq (rdS K b0) (tSeq (tPar3 i j l (tCons (tMake C (spInit K C FB) [] E0 (tCons (tVar bi) tNil)) (tCons (tMake C (spInit K C FB) [] E0 (tCons (tVar bi) tNil)) (tCons (L2.tLst (tCons (tTup (tCons (tC (.int 0)) (tCons (tTup tNil) tNil))) tNil)) tNil)))) (rdS K b1)) { nx := fun _ H' => Q .non H', rt := Q } (L2.start NN vs) H := by
  obtain ⟨S, ds, r, sh, h1, h2, q⟩ := h
  obtain ⟨o, d, hl, e1, e2, rfl⟩ := fnM_inv h2
  obtain ⟨o0, e3, e1⟩ := ol_some e1
  have R := start_rep (N - n) h1 sh
  have es : L2.start NN vs = vs.map some ++ List.replicate (N - n) none := by
    unfold L2.start
    rw [h1.length, hl, hN]
  rw [es]
  refine ⟨_, S, _, o0, R, e3, ?_⟩
  cases o0 with
  | bk ρ => cases e1; cases e2
  | ct ρ => cases e1; cases e2
  | rt r ρ =>
    cases e1
    exact (outM (n := 0) kp_start (Same.refl _) e2 fun v H' S' N o' => q v H' S' N o')
  | nx ρ1 =>
    intro σ1 H1 S1 R1 s1 hlen
    obtain ⟨o1, e4, e5⟩ := ol_some (show sSeq (sMk3 FB bi i j l) b1 ρ1 = some o from e1)
    obtain ⟨ρ', rfl⟩ := sMk3_nx e4
    have hr : ρ1.length = N := by
      rw [← R1.len, hlen, List.length_append, List.length_map, List.length_replicate, h1.length, hl]
      omega
    exact mk3_rd O R1 (fun _ => rfl) rfl kp_start e4 (by rw [hr]; exact hi) (by rw [hr]; exact hj) hij hil hjl fun t1 S2 H2 σ2 R2 ss k1 _ => ⟨t1, S2, ρ', o, R2, e5, outM k1 (s1.trans ss) e2 fun v H' S' N o' => q v H' S' N o'⟩
end
end DL
set_option maxHeartbeats 2000000
/-! The data layer 35: a call that is handed a new list (f(g(..), 1, 2, 3)) and changes it: the list is forgotten. -/
namespace DL
open PySem L2 PySem.Spec PyProof.Rows
def eCallT (F : List PyData → List PyData → Option (Rv × List PyData)) (e : EF) (cs : List PyData) : EF := fun ρ => ob (e ρ) fun r ρ1 => ol (frR r) fun ms => ob (F ms cs) fun r' _ => some (r', ρ1)
@[simp] theorem x_eCallT (F : List PyData → List PyData → Option (Rv × List PyData)) (e : EF) (cs : List PyData) (ρ : En) : eCallT F e cs ρ = ob (e ρ) fun r ρ1 => ol (frR r) fun ms => ob (F ms cs) fun r' _ => some (r', ρ1) := rfl
section
variable {K : PySem.W.Frag} {t : Et} {S S' H H' : Hp} {σ : L2.St} {ρ : En}
/-- behind what changed a list that no slot holds -/
theorem Rep.aside {a : Addr} {vs mv' : List V} (R : Rep K t S H σ ρ) (h1 : H a = some (.lst vs)) (h2 : S a = none) (h3 : t.B a = none) (h4 : t.pp ≠ some a) (h6 : ∀ (i : Nat) (s : Sl) (ds : List PyData), ρ[i]? = some s → s.ls = some ds → σ[i]? ≠ some (some (.ref a)))
    (n1 : Same S S') (n2 : Same S' H') (n3 : ∀ b, H b ≠ none → S b = none → S' b = none) (n4 : ∀ b o, b ≠ a → H b = some o → H' b = some o) (n5 : H' a = some (.lst mv')) : Rep K t S' H' σ ρ := by
  refine ⟨n2, R.s0.trans n1, fun b h1 h2 => n3 b (R.bh.nn h1) (R.sn b h1 h2), R.bh.but h3 n4, fun b q z => ?_, R.len, fun j d q => ?_, fun j s' fs q1 q2 => ?_, R.dis, R.obs.keep (fun l vs q e => n4 l _ (fun z => R.bh.lB q (by rw [z]; exact h3)) e) n1⟩
  · cases q2 : H b with
    | none => exact R.ph b q q2
    | some o =>
      have hb : b ≠ a := fun z => h4 (z ▸ q)
      rw [n4 b o hb q2] at z
      cases z
  · obtain ⟨v, z1, z2⟩ := R.dat j d q
    exact ⟨v, z1, z2.mono n1⟩
  · obtain ⟨b, vs', z1, z2, z3, z4, z5, z6⟩ := R.own j s' fs q1 q2
    have hba : b ≠ a := fun z => h6 j s' fs q1 q2 (z ▸ z1)
    exact ⟨b, vs', z1, n4 b _ hba z2, n3 b (none_ne z2) z3, z4, z5.mono n1, z6⟩
end
section
variable {X : Cx} {e : Expr} {fe : EF} {k : Nat} {f : Addr} {fd : FuncData} {ps : List Str} {F : List PyData → List PyData → Option (Rv × List PyData)} {x : Str} {p pos : Pos} {K : PySem.W.Frag} {i1 i2 i3 : Int}
theorem rd_callT : ∀ σ H Q, rdE K (eCallT F fe [.int i1, .int i2, .int i3]) σ H Q → tCall (spB K 0 F) [] E0 (tCons (rdE K fe) (tCons (tC (.int i1)) (tCons (tC (.int i2)) (tCons (tC (.int i3)) tNil)))) σ H Q := fun σ H Q ⟨t, S, ρ, r, ρ', R, e, k⟩ => by
  obtain ⟨rj, ρ1, q1, e⟩ := ob_some e
  obtain ⟨ms, q2, e⟩ := ol_some e
  obtain ⟨r', ms', q3, e⟩ := ob_some e
  cases e
  cases frR_some q2
  refine ⟨t, S, ρ, _, _, R, q1, fun v1 H1 S1 R1 s1 o1 => ?_⟩
  obtain ⟨a, mv, rfl, h1, h2, h3, h4, h5, h6⟩ := o1
  refine ⟨S1, a, ms, _, mv, _, ms', R1.sh, rfl, h1, h2, h5, .cons (.int i1) (.cons (.int i2) (.cons (.int i3) .nil)), q3, fun v H' S' mv' n1 n2 n3 n4 n5 n6 o => ?_⟩
  have R3 := R1.aside h1 h2 h3 h4 h6 n1 n2 n3 n4 n5
  refine k v H' S' R3 (s1.trans n1) ?_
  cases r with
  | da d => exact o
  | bo i => exact False.elim o
  | fr fs =>
    obtain ⟨b, ws, z, g1, g2, g3, g4⟩ := o
    refine ⟨b, ws, z, g2, g3, R1.bh.free g1, fun y => R1.ph b y g1, g4, fun l s' ds' y1 y2 y => ?_⟩
    obtain ⟨c, us, y3, y4, _⟩ := R1.own l s' ds' y1 y2
    rw [y] at y3
    cases y3
    rw [g1] at y4
    cases y4
theorem ok_callT {j1 j2 j3 p1 p2 p3} (C : FnOk X.prog X.w X.K X.mg X.base CX0 k f fd ps (spB X.K 0 F)) (hr : Room k X.A) (hg : Gl X x) (hm : X.mg x = some (.ref f)) (hk : PySem.W.keepIn X.K (.ref f) = true) (hb : Binds X.K fd ps [])
    (he : OkE X e fe) (hs : starEach [e, .Constant (.int i1) j1 p1, .Constant (.int i2) j2 p2, .Constant (.int i3) j3 p3] X.env = (false, eval e X.env) :: starEach [.Constant (.int i1) j1 p1, .Constant (.int i2) j2 p2, .Constant (.int i3) j3 p3] X.env := by rfl)
    (hdb : (x == ("__debug__" : Str)) = false := by decide) (hpl : (backTo pos (starEach [.Constant (.int i1) j1 p1, .Constant (.int i2) j2 p2, .Constant (.int i3) j3 p3] X.env)).any (·.1) = false := by rfl) :
    OkE X (.Call (.Name x p) [e, .Constant (.int i1) j1 p1, .Constant (.int i2) j2 p2, .Constant (.int i3) j3 p3] [] pos) (eCallT F fe [.int i1, .int i2, .int i3]) :=
  pe_imp (pe_call C hr hg hm hk hb .nil pass0 (pa_cons he (pa_cons pe_int (pa_cons pe_int (pa_cons pe_int pa_nil rfl) rfl) rfl) hs) hdb hs hpl) rd_callT
end
end DL
namespace Gn
open PySem L2 DL
def topS (i : Nat) : Stmt := PySem.Challenge.pw_deepoven_k07_whole_an_oven_tick_by_tick.main.body.getD i (.Pass ⟨0, 0, 0, 0⟩)
structure Txt (mg : Str → Option Value) : Prop where
  b_all : mg "all" = none
  b_any : mg "any" = none
  b_bool : mg "bool" = none
  b_enumerate : mg "enumerate" = none
  b_int : mg "int" = none
  b_isinstance : mg "isinstance" = none
  b_len : mg "len" = none
  b_list : mg "list" = none
  b_max : mg "max" = none
  b_min : mg "min" = none
  b_range : mg "range" = none
  b_reversed : mg "reversed" = none
  b_sorted : mg "sorted" = none
  b_str : mg "str" = none
  b_tuple : mg "tuple" = none
  b_zip : mg "zip" = none
  g_LAST : ∃ tk, mg "LAST" = some (.int 40 tk)
  g_LEAST : ∃ tk, mg "LEAST" = some (.int 40 tk)
  g_LETTERS : ∃ tk, mg "LETTERS" = some (.str "abcdefghijklmnopqrstuvwxyz" tk)
  g_LOAVES : ∃ tk, mg "LOAVES" = some (.int 8 tk)
  g_MOST : ∃ tk, mg "MOST" = some (.int 60 tk)
section
variable {P : Program} {w : World} {K : PySem.W.Frag} {mg : Str → Option Value} {base : Heap}
abbrev s_Raw___init__ : Stmt := inClass (topS 16) 0
abbrev N_Raw___init__ : List Str := ["self", "name"]
theorem sc_Raw___init__ : FnScope N_Raw___init__ ["self", "name"] (defScope s_Raw___init__) := ⟨rfl, rfl, rfl, by decide +kernel, rfl, by decide +kernel, by decide +kernel⟩
abbrev s__law_take : Stmt := topS 25
abbrev N__law_take : List Str := ["bag", "count", "found"]
theorem sc__law_take : FnScope N__law_take ["bag", "count"] (defScope s__law_take) := ⟨rfl, rfl, rfl, by decide +kernel, rfl, by decide +kernel, by decide +kernel⟩
def b__law_take : SF := sSeq (sIf (tE (eBin gtD (eBin ixR (eVar 0) (eC (.int 0))) (eC (.int 0)))) (sSeq (sAsg (eBin modD (eBin ixR (eVar 0) (eC (.int 0))) (eVar 1)) (gNm 2)) (sSeq (sAsg (eBin fdivD (eBin ixR (eVar 0) (eC (.int 0))) (eVar 1)) (gSub 0 (eC (.int 0)))) (sRet (eVar 2)))) (sNil)) (sSeq (sAsg (eBin modD (eBin mulV (eBin ixR (eVar 0) (eC (.int 1))) (eC (.int 48271))) (eC (.int 2147483647))) (gSub 0 (eC (.int 1)))) (sRet (eBin modD (eBin fdivD (eBin modD (eBin mulV (eBin fdivD (eBin ixR (eVar 0) (eC (.int 1))) (eC (.int 13))) (eBin addD (eBin modD (eBin ixR (eVar 0) (eC (.int 1))) (eC (.int 32749))) (eC (.int 17)))) (eC (.int 2147483629))) (eC (.int 32))) (eVar 1))))
def F__law_take : List PyData → List PyData → Option (Rv × List PyData) := fnB 0 2 3 b__law_take
theorem ok__law_take (T : Txt mg)  {f : Addr} {fd : FuncData} (F : Fun K "_law_take" "_law_take" s__law_take f fd) : FnOk P w K mg base CX0 1 f fd ["bag", "count"] (spB K 0 F__law_take) :=
  have Sc := sc__law_take
  fnB_ok 0 (k := 0) F sc__law_take fun cdv A outer s H E hr => okSs_cons (okS_if (okT_cmp op_gt okGt (ok_ix (ok_name 0) (ok_int)) (ok_int) (nomark _)) (okSs_cons (okS_set 2 Sc.nd rfl (Or.inl rfl) (ok_bin op_mod okMod (ok_ix (ok_name 0) (ok_int)) (ok_name 1))) (okSs_cons (okS_asg (ok_bin op_fdiv okFdiv (ok_ix (ok_name 0) (ok_int)) (ok_name 1)) (okG_sub (pv 0) (ok_int))) (okSs_one (okS_ret (ok_name 2))))) (okSs_nil)) (okSs_cons (okS_asg (ok_bin op_mod okMod (ok_bin opMulV okMulV (ok_ix (ok_name 0) (ok_int)) (ok_int)) (ok_int)) (okG_sub (pv 0) (ok_int))) (okSs_one (okS_ret (ok_bin op_mod okMod (ok_bin op_fdiv okFdiv (ok_bin op_mod okMod (ok_bin opMulV okMulV (ok_bin op_fdiv okFdiv (ok_ix (ok_name 0) (ok_int)) (ok_int)) (ok_bin opAdd okAdd (ok_bin op_mod okMod (ok_ix (ok_name 0) (ok_int)) (ok_int)) (ok_int))) (ok_int)) (ok_int)) (ok_name 1)))))
abbrev s__law_batch : Stmt := topS 27
abbrev N__law_batch : List Str := ["bag", "many", "wide", "spare", "names", "found", "tick", "turn", "least_so", "name"]
theorem sc__law_batch : FnScope N__law_batch ["bag", "many", "wide", "spare"] (defScope s__law_batch) := ⟨rfl, rfl, rfl, by decide +kernel, rfl, by decide +kernel, by decide +kernel⟩
def B1__law_batch : SF := sFg [7, 8, 9] (sSeq (sAsg (eBin addD (eC (.int 1)) (eCallO 0 F__law_take (aCons (eVar 0) (aCons (eVar 2) (aNil))))) (gNm 8)) (sSeq (sAsg (ePop 4 (eCallO 0 F__law_take (aCons (eVar 0) (aCons (eCb lenD (aCons (eVar 4) (aNil))) (aNil))))) (gNm 9)) (sSeq (sIf (tE (eBin leD (eVar 6) (eC (.int 40)))) (sDrop (eApp 5 (eTup (aCons (eVar 9) (aCons (eVar 6) (aCons (eVar 8) (aCons (eCb minD (aCons (eC (.int 60)) (aCons (eBin addD (eVar 8) (eCallO 0 F__law_take (aCons (eVar 0) (aCons (eBin addD (eVar 3) (eC (.int 1))) (aNil))))) (aNil)))) (aNil)))))))) (sNil)) (sAsg (eBin addD (eBin addD (eVar 6) (eC (.int 1))) (eCallO 0 F__law_take (aCons (eVar 0) (aCons (eBin addD (eC (.int 1)) (eBin fdivD (eVar 2) (eC (.int 2)))) (aNil))))) (gNm 6)))))
def b__law_batch : SF := sSeq (sPar3 4 5 6 (pCons (eLst (aCons (eC (.str "ann")) (aCons (eC (.str "bo")) (aCons (eC (.str "cy")) (aCons (eC (.str "dee")) (aCons (eC (.str "eli")) (aCons (eC (.str "fay")) (aCons (eC (.str "gus")) (aCons (eC (.str "hal")) (aNil)))))))))) (pCons (eLst (aNil)) (pCons (eCallO 0 F__law_take (aCons (eVar 0) (aCons (eC (.int 3)) (aNil)))) (pNil))))) (sSeq (sFa [7, 8, 9] (sFor (iRange1 (eBin addD (eC (.int 1)) (eCallO 0 F__law_take (aCons (eVar 0) (aCons (eVar 1) (aNil)))))) (gNm 7) B1__law_batch)) (sRet (eCb tupleD (aCons (eVar 5) (aNil)))))
def F__law_batch : List PyData → List PyData → Option (Rv × List PyData) := fnB 0 4 10 b__law_batch
theorem ok__law_batch (T : Txt mg) {f__law_take : Addr} {fd__law_take : FuncData} (C__law_take : Cal P w K mg base 1 "_law_take" f__law_take fd__law_take ["bag", "count"] (spB K 0 F__law_take)) {f : Addr} {fd : FuncData} (F : Fun K "_law_batch" "_law_batch" s__law_batch f fd) : FnOk P w K mg base CX0 2 f fd ["bag", "many", "wide", "spare"] (spB K 0 F__law_batch) :=
  have Sc := sc__law_batch
  fnB_ok 0 (k := 1) F sc__law_batch fun cdv A outer s H E hr => okSs_cons (okS_par3 4 5 6 rfl Sc.nd rfl rfl rfl (by decide) (by decide) (by decide) (fun ta h => ps_par3 rfl Sc.nd rfl rfl rfl (by decide) (by decide) (by decide) rfl rfl rfl h (by rfl)) (okP_cons (ok_lst (okA_cons (ok_str) (okA_cons (ok_str) (okA_cons (ok_str) (okA_cons (ok_str) (okA_cons (ok_str) (okA_cons (ok_str) (okA_cons (ok_str) (okA_cons (ok_str) (okA_nil)))))))))) (okP_cons (ok_lst (okA_nil)) (okP_cons (ok_callO C__law_take.c (hr.mono (by decide)) rfl C__law_take.g C__law_take.k C__law_take.b (okA_cons (ok_name 0) (okA_cons (ok_int) (okA_nil)))) (okP_nil))))) (okSs_cons (okS_fa [7, 8, 9] (okS_for PassesOwn.never rfl (okI_range1 rfl T.b_range (ok_bin opAdd okAdd (ok_int) (ok_callO C__law_take.c (hr.mono (by decide)) rfl C__law_take.g C__law_take.k C__law_take.b (okA_cons (ok_name 0) (okA_cons (ok_name 1) (okA_nil)))))) (okG_name 7 Sc.nd rfl (Or.inl rfl)) (okSs_fg [7, 8, 9] (okSs_cons (okS_set 8 Sc.nd rfl (Or.inl rfl) (ok_bin opAdd okAdd (ok_int) (ok_callO C__law_take.c (hr.mono (by decide)) rfl C__law_take.g C__law_take.k C__law_take.b (okA_cons (ok_name 0) (okA_cons (ok_name 2) (okA_nil)))))) (okSs_cons (okS_set 9 Sc.nd rfl (Or.inl rfl) (ok_pop (pv 4) (ok_callO C__law_take.c (hr.mono (by decide)) rfl C__law_take.g C__law_take.k C__law_take.b (okA_cons (ok_name 0) (okA_cons (ok_callB call_len okLen rfl T.b_len (by decide +kernel) (okA_cons (ok_name 4) (okA_nil))) (okA_nil)))))) (okSs_cons (okS_if (okT_cmp op_le okLe (ok_name 6) (ok_int) (nomark _)) (okSs_one (okS_expr (ok_app (pv 5) (ok_tup (okA_cons (ok_name 9) (okA_cons (ok_name 6) (okA_cons (ok_name 8) (okA_cons (ok_callB (opMin rfl hr.units) okMin rfl T.b_min (by decide +kernel) (okA_cons (ok_int) (okA_cons (ok_bin opAdd okAdd (ok_name 8) (ok_callO C__law_take.c (hr.mono (by decide)) rfl C__law_take.g C__law_take.k C__law_take.b (okA_cons (ok_name 0) (okA_cons (ok_bin opAdd okAdd (ok_name 3) (ok_int)) (okA_nil))))) (okA_nil)))) (okA_nil))))))))) (okSs_nil)) (okSs_one (okS_set 6 Sc.nd rfl (Or.inl rfl) (ok_bin opAdd okAdd (ok_bin opAdd okAdd (ok_name 6) (ok_int)) (ok_callO C__law_take.c (hr.mono (by decide)) rfl C__law_take.g C__law_take.k C__law_take.b (okA_cons (ok_name 0) (okA_cons (ok_bin opAdd okAdd (ok_int) (ok_bin op_fdiv okFdiv (ok_name 2) (ok_int))) (okA_nil))))))))))))) (okSs_one (okS_ret (ok_callTy call_tuple_of okTuple rfl T.b_tuple (by decide +kernel) (okA_cons (ok_name 5) (okA_nil))))))
abbrev s__law_bag : Stmt := topS 24
abbrev N__law_bag : List Str := ["script", "k", "cell", "seed"]
theorem sc__law_bag : FnScope N__law_bag ["script", "k"] (defScope s__law_bag) := ⟨rfl, rfl, rfl, by decide +kernel, rfl, by decide +kernel, by decide +kernel⟩
def b__law_bag : SF := sSeq (sAsg (eC (.int 0)) (gNm 2)) (sSeq (sIf (tE (eBin ltD (eVar 1) (eCb lenD (aCons (eVar 0) (aNil))))) (sAsg (eBin modD (eBin ixR (eVar 0) (eVar 1)) (eBin powD (eC (.int 10)) (eC (.int 60)))) (gNm 2)) (sNil)) (sSeq (sAsg (eBin addD (eC (.int 1)) (eBin modD (eBin addD (eBin addD (eBin addD (eBin mulV (eBin modD (eVar 2) (eC (.int 2147483629))) (eC (.int 16807))) (eBin mulV (eBin mulV (eC (.int 40009)) (eVar 1)) (eVar 1))) (eBin mulV (eC (.int 7919)) (eVar 1))) (eC (.int 1009))) (eC (.int 2147483645)))) (gNm 3)) (sSeq (sIf (tE (eBin ltD (eVar 2) (eBin powD (eC (.int 10)) (eC (.int 18))))) (sRet (eLst (aCons (eC (.int 0)) (aCons (eVar 3) (aNil))))) (sNil)) (sRet (eLst (aCons (eVar 2) (aCons (eVar 3) (aNil))))))))
def F__law_bag : List PyData → Option Rv := fnF 2 4 b__law_bag
theorem ok__law_bag (T : Txt mg)  {f : Addr} {fd : FuncData} (F : Fun K "_law_bag" "_law_bag" s__law_bag f fd) : FnOk P w K mg base CX0 1 f fd ["script", "k"] (spF K F__law_bag) :=
  have Sc := sc__law_bag
  fn_ok (k := 0) F sc__law_bag fun cdv A outer s H E hr => okSs_cons (okS_set 2 Sc.nd rfl (Or.inl rfl) (ok_int)) (okSs_cons (okS_if (okT_cmp op_lt okLt (ok_name 1) (ok_callB call_len okLen rfl T.b_len (by decide +kernel) (okA_cons (ok_name 0) (okA_nil))) (nomark _)) (okSs_one (okS_set 2 Sc.nd rfl (Or.inl rfl) (ok_bin op_mod okMod (ok_ix (ok_name 0) (ok_name 1)) (ok_bin op_pow okPow (ok_int) (ok_int))))) (okSs_nil)) (okSs_cons (okS_set 3 Sc.nd rfl (Or.inl rfl) (ok_bin opAdd okAdd (ok_int) (ok_bin op_mod okMod (ok_bin opAdd okAdd (ok_bin opAdd okAdd (ok_bin opAdd okAdd (ok_bin opMulV okMulV (ok_bin op_mod okMod (ok_name 2) (ok_int)) (ok_int)) (ok_bin opMulV okMulV (ok_bin opMulV okMulV (ok_int) (ok_name 1)) (ok_name 1))) (ok_bin opMulV okMulV (ok_int) (ok_name 1))) (ok_int)) (ok_int)))) (okSs_cons (okS_if (okT_cmp op_lt okLt (ok_name 2) (ok_bin op_pow okPow (ok_int) (ok_int)) (nomark _)) (okSs_one (okS_ret (ok_lst (okA_cons (ok_int) (okA_cons (ok_name 3) (okA_nil)))))) (okSs_nil)) (okSs_one (okS_ret (ok_lst (okA_cons (ok_name 2) (okA_cons (ok_name 3) (okA_nil)))))))))
abbrev s__law_of : Stmt := topS 26
abbrev N__law_of : List Str := ["bag", "some"]
theorem sc__law_of : FnScope N__law_of ["bag", "some"] (defScope s__law_of) := ⟨rfl, rfl, rfl, by decide +kernel, rfl, by decide +kernel, by decide +kernel⟩
def b__law_of : SF := sRet (eBin ixR (eVar 1) (eCallO 0 F__law_take (aCons (eVar 0) (aCons (eCb lenD (aCons (eVar 1) (aNil))) (aNil)))))
def F__law_of : List PyData → List PyData → Option (Rv × List PyData) := fnB 0 2 2 b__law_of
theorem ok__law_of (T : Txt mg) {f__law_take : Addr} {fd__law_take : FuncData} (C__law_take : Cal P w K mg base 1 "_law_take" f__law_take fd__law_take ["bag", "count"] (spB K 0 F__law_take)) {f : Addr} {fd : FuncData} (F : Fun K "_law_of" "_law_of" s__law_of f fd) : FnOk P w K mg base CX0 2 f fd ["bag", "some"] (spB K 0 F__law_of) :=
  have Sc := sc__law_of
  fnB_ok 0 (k := 1) F sc__law_of fun cdv A outer s H E hr => okSs_one (okS_ret (ok_ix (ok_name 1) (ok_callO C__law_take.c (hr.mono (by decide)) rfl C__law_take.g C__law_take.k C__law_take.b (okA_cons (ok_name 0) (okA_cons (ok_callB call_len okLen rfl T.b_len (by decide +kernel) (okA_cons (ok_name 1) (okA_nil))) (okA_nil))))))
abbrev s__law_a_deed : Stmt := topS 36
abbrev N__law_a_deed : List Str := ["bag", "way"]
theorem sc__law_a_deed : FnScope N__law_a_deed ["bag"] (defScope s__law_a_deed) := ⟨rfl, rfl, rfl, by decide +kernel, rfl, by decide +kernel, by decide +kernel⟩
def b__law_a_deed : SF := sSeq (sAsg (eCallO 0 F__law_take (aCons (eVar 0) (aCons (eC (.int 12)) (aNil)))) (gNm 1)) (sSeq (sIf (tE (eBin ltD (eVar 1) (eC (.int 5)))) (sRet (eTup (aCons (eC (.str "wait")) (aCons (eBin addD (eC (.int 1)) (eCallO 0 F__law_take (aCons (eVar 0) (aCons (eBin ixR (eLst (aCons (eC (.int 3)) (aCons (eC (.int 9)) (aNil)))) (eCallO 0 F__law_take (aCons (eVar 0) (aCons (eC (.int 2)) (aNil))))) (aNil))))) (aNil))))) (sNil)) (sSeq (sIf (tE (eBin ltD (eVar 1) (eC (.int 10)))) (sRet (eTup (aCons (eC (.str "take")) (aNil)))) (sNil)) (sRet (eIfF (tE (eBin eqD (eVar 1) (eC (.int 10)))) (eTup (aCons (eC (.str "back")) (aNil))) (eTup (aCons (eC (.str "wait")) (aCons (eCallO 0 F__law_of (aCons (eVar 0) (aCons (eLst (aCons (eC (.int 0)) (aCons (eC (.int 101)) (aCons (eC (.bool true)) (aCons (eC .none) (aCons (eC (.int (-1))) (aCons (eC (.str "1")) (aCons (eC (.int 100)) (aNil))))))))) (aNil)))) (aNil))))))))
def F__law_a_deed : List PyData → List PyData → Option (Rv × List PyData) := fnB 0 1 2 b__law_a_deed
theorem ok__law_a_deed (T : Txt mg) {f__law_take : Addr} {fd__law_take : FuncData} (C__law_take : Cal P w K mg base 1 "_law_take" f__law_take fd__law_take ["bag", "count"] (spB K 0 F__law_take)) {f__law_of : Addr} {fd__law_of : FuncData} (C__law_of : Cal P w K mg base 2 "_law_of" f__law_of fd__law_of ["bag", "some"] (spB K 0 F__law_of)) {f : Addr} {fd : FuncData} (F : Fun K "_law_a_deed" "_law_a_deed" s__law_a_deed f fd) : FnOk P w K mg base CX0 3 f fd ["bag"] (spB K 0 F__law_a_deed) :=
  have Sc := sc__law_a_deed
  fnB_ok 0 (k := 2) F sc__law_a_deed fun cdv A outer s H E hr => okSs_cons (okS_set 1 Sc.nd rfl (Or.inl rfl) (ok_callO C__law_take.c (hr.mono (by decide)) rfl C__law_take.g C__law_take.k C__law_take.b (okA_cons (ok_name 0) (okA_cons (ok_int) (okA_nil))))) (okSs_cons (okS_if (okT_cmp op_lt okLt (ok_name 1) (ok_int) (nomark _)) (okSs_one (okS_ret (ok_tup (okA_cons (ok_str) (okA_cons (ok_bin opAdd okAdd (ok_int) (ok_callO C__law_take.c (hr.mono (by decide)) rfl C__law_take.g C__law_take.k C__law_take.b (okA_cons (ok_name 0) (okA_cons (ok_ix (ok_lst (okA_cons (ok_int) (okA_cons (ok_int) (okA_nil)))) (ok_callO C__law_take.c (hr.mono (by decide)) rfl C__law_take.g C__law_take.k C__law_take.b (okA_cons (ok_name 0) (okA_cons (ok_int) (okA_nil))))) (okA_nil))))) (okA_nil)))))) (okSs_nil)) (okSs_cons (okS_if (okT_cmp op_lt okLt (ok_name 1) (ok_int) (nomark _)) (okSs_one (okS_ret (ok_tup (okA_cons (ok_str) (okA_nil))))) (okSs_nil)) (okSs_one (okS_ret (ok_if (okT_cmp (op_eqD hr.units) okEq (ok_name 1) (ok_int) (nomark _)) (ok_tup (okA_cons (ok_str) (okA_nil))) (ok_tup (okA_cons (ok_str) (okA_cons (ok_callO C__law_of.c (hr.mono (by decide)) rfl C__law_of.g C__law_of.k C__law_of.b (okA_cons (ok_name 0) (okA_cons (ok_lst (okA_cons (ok_int) (okA_cons (ok_int) (okA_cons (ok_bl) (okA_cons (ok_non) (okA_cons (ok_negC) (okA_cons (ok_str) (okA_cons (ok_int) (okA_nil))))))))) (okA_nil)))) (okA_nil)))))))))
abbrev s__law_within : Stmt := topS 33
abbrev N__law_within : List Str := ["batch", "now", "gone", "row", "names", "loaf"]
theorem sc__law_within : FnScope N__law_within ["batch", "now", "gone"] (defScope s__law_within) := ⟨rfl, rfl, rfl, by decide +kernel, rfl, by decide +kernel, by decide +kernel⟩
def b__law_within : SF := sSeq (sAsg (eLc (iSeq (eVar 2)) (gNm 3) (tYesF) (eBin ixR (eVar 3) (eC (.int 0))) [3]) (gNm 4)) (sRet (eRevS (eLc (iSeq (eVar 0)) (gNm 5) (tAndF (tE (eBin ltD (eBin ixR (eVar 5) (eC (.int 1))) (eVar 1))) (tE (eBin ninR (eBin ixR (eVar 5) (eC (.int 0))) (eVar 4)))) (eVar 5) [5])))
def F__law_within : List PyData → Option Rv := fnF 3 6 b__law_within
theorem ok__law_within (T : Txt mg)  {f : Addr} {fd : FuncData} (F : Fun K "_law_within" "_law_within" s__law_within f fd) : FnOk P w K mg base CX0 1 f fd ["batch", "now", "gone"] (spF K F__law_within) :=
  have Sc := sc__law_within
  fn_ok (k := 0) F sc__law_within fun cdv A outer s H E hr => okSs_cons (okS_set 4 Sc.nd rfl (Or.inr rfl) (ok_lc (own := [("row", 3)]) rfl Sc.nd (okI_seq (ok_name 2)) (blkOk_by (own := [("row", 3)]) (N := N__law_within) (sc := defScope s__law_within) (by decide +kernel)) (fun _ _ _ _ _ => okG_name 3 Sc.nd rfl (Or.inl rfl)) (fun _ _ _ _ _ => okTs_nil) (fun _ _ _ _ _ => ok_ix (ok_name 3) (ok_int)))) (okSs_one (okS_ret (ok_revS (ok_lc (own := [("loaf", 5)]) rfl Sc.nd (okI_seq (ok_name 0)) (blkOk_by (own := [("loaf", 5)]) (N := N__law_within) (sc := defScope s__law_within) (by decide +kernel)) (fun _ _ _ _ _ => okG_name 5 Sc.nd rfl (Or.inl rfl)) (fun _ _ _ _ _ => okTs_one (okT_w (okW_and (okT_cmp op_lt okLt (ok_ix (ok_name 5) (ok_int)) (ok_name 1) (nomark _)) (okW_and1 (okT_cmp (opNotIn (hu65 hr)) okNotIn (ok_ix (ok_name 5) (ok_int)) (ok_name 4) rfl))))) (fun _ _ _ _ _ => ok_name 5)))))
abbrev s__law_due : Stmt := topS 35
abbrev N__law_due : List Str := ["batch", "rows", "deed", "now", "gone", "inside", "name", "since", "low", "most"]
theorem sc__law_due : FnScope N__law_due ["batch", "rows", "deed"] (defScope s__law_due) := ⟨rfl, rfl, rfl, by decide +kernel, rfl, by decide +kernel, by decide +kernel⟩
def b__law_due : SF := sSeq (sAsg (eBin ixR (eVar 1) (eC (.int (-1)))) (gTup 2 (gCons (gNm 3) (gCons (gNm 4) (gNil))))) (sSeq (sIf (tE (eBin eqD (eBin ixR (eVar 2) (eC (.int 0))) (eC (.str "back")))) (sSeq (sIf (tE (eBin eqD (eCb lenD (aCons (eVar 1) (aNil))) (eC (.int 1)))) (sRet (eC (.str "NothingLeft"))) (sNil)) (sSeq (sDrop (ePop0 1)) (sRet (eC .none)))) (sNil)) (sSeq (sIf (tE (eBin eqD (eBin ixR (eVar 2) (eC (.int 0))) (eC (.str "wait")))) (sSeq (sIf (tOrF (tNotF (tE (eIsi "int" (eBin ixR (eVar 2) (eC (.int 1)))))) (tOrF (tE (eIsi "bool" (eBin ixR (eVar 2) (eC (.int 1))))) (tNotF (tE (eChain leD leD (eC (.int 1)) (eBin ixR (eVar 2) (eC (.int 1))) (eC (.int 100))))))) (sRet (eC (.str "NoTicks"))) (sNil)) (sSeq (sDrop (eApp 1 (eTup (aCons (eBin addD (eVar 3) (eBin ixR (eVar 2) (eC (.int 1)))) (aCons (eVar 4) (aNil)))))) (sRet (eC .none)))) (sNil)) (sSeq (sAsg (eCall F__law_within (aCons (eVar 0) (aCons (eVar 3) (aCons (eVar 4) (aNil))))) (gNm 5)) (sSeq (sIf (tE (eBin eqD (eVar 5) (eLst (aNil)))) (sRet (eC (.str "Empty"))) (sNil)) (sSeq (sAsg (eBin ixR (eVar 5) (eC (.int 0))) (gTup 4 (gCons (gNm 6) (gCons (gNm 7) (gCons (gNm 8) (gCons (gNm 9) (gNil))))))) (sSeq (sIf (tE (eBin ltD (eBin subD (eVar 3) (eVar 7)) (eVar 8))) (sRet (eTup (aCons (eC (.str "Raw")) (aCons (eVar 6) (aNil))))) (sNil)) (sSeq (sDrop (eApp 1 (eTup (aCons (eVar 3) (aCons (eBin addD (eVar 4) (eTup (aCons (eTup (aCons (eVar 6) (aCons (eVar 3) (aCons (eBin leD (eBin subD (eVar 3) (eVar 7)) (eVar 9)) (aNil))))) (aNil)))) (aNil)))))) (sRet (eTup (aCons (eVar 6) (aCons (eBin subD (eVar 3) (eVar 7)) (aCons (eBin leD (eBin subD (eVar 3) (eVar 7)) (eVar 9)) (aNil)))))))))))))
def F__law_due : List PyData → List PyData → Option (Rv × List PyData) := fnB 1 3 10 b__law_due
theorem ok__law_due (T : Txt mg) {f__law_within : Addr} {fd__law_within : FuncData} (C__law_within : Cal P w K mg base 1 "_law_within" f__law_within fd__law_within ["batch", "now", "gone"] (spF K F__law_within)) {f : Addr} {fd : FuncData} (F : Fun K "_law_due" "_law_due" s__law_due f fd) : FnOk P w K mg base CX0 2 f fd ["batch", "rows", "deed"] (spB K 1 F__law_due) :=
  have Sc := sc__law_due
  fnB_ok 1 (k := 1) F sc__law_due fun cdv A outer s H E hr => okSs_cons (okS_asg (ok_ix (ok_name 1) (ok_negC)) (okG_tup rfl (okGs_cons (okG_name 3 Sc.nd rfl (Or.inl rfl)) (okGs_cons (okG_name 4 Sc.nd rfl (Or.inl rfl)) (okGs_nil))))) (okSs_cons (okS_if (okT_cmp (op_eqD hr.units) okEq (ok_ix (ok_name 2) (ok_int)) (ok_str) (nomark _)) (okSs_cons (okS_if (okT_cmp (op_eqD hr.units) okEq (ok_callB call_len okLen rfl T.b_len (by decide +kernel) (okA_cons (ok_name 1) (okA_nil))) (ok_int) (nomark _)) (okSs_one (okS_ret (ok_str))) (okSs_nil)) (okSs_cons (okS_expr (ok_pop0 (pv 1))) (okSs_one (okS_ret (ok_non))))) (okSs_nil)) (okSs_cons (okS_if (okT_cmp (op_eqD hr.units) okEq (ok_ix (ok_name 2) (ok_int)) (ok_str) (nomark _)) (okSs_cons (okS_if (okT_w (okW_or (okT_not (okT_val (ok_isi rfl T.b_isinstance rfl T.b_int (by decide +kernel) (ok_ix (ok_name 2) (ok_int)) isi_int))) (okW_or (okT_val (ok_isi rfl T.b_isinstance rfl T.b_bool (by decide +kernel) (ok_ix (ok_name 2) (ok_int)) isi_bool)) (okW_or1 (okT_not (okT_chain op_le op_le okLe okLe (ok_int) (ok_ix (ok_name 2) (ok_int)) (ok_int))))))) (okSs_one (okS_ret (ok_str))) (okSs_nil)) (okSs_cons (okS_expr (ok_app (pv 1) (ok_tup (okA_cons (ok_bin opAdd okAdd (ok_name 3) (ok_ix (ok_name 2) (ok_int))) (okA_cons (ok_name 4) (okA_nil)))))) (okSs_one (okS_ret (ok_non))))) (okSs_nil)) (okSs_cons (okS_set 5 Sc.nd rfl (Or.inl rfl) (ok_call C__law_within.c (hr.mono (by decide)) rfl C__law_within.g C__law_within.k C__law_within.b (okA_cons (ok_name 0) (okA_cons (ok_name 3) (okA_cons (ok_name 4) (okA_nil)))))) (okSs_cons (okS_if (okT_cmp (op_eqD hr.units) okEq (ok_name 5) (ok_lst (okA_nil)) (nomark _)) (okSs_one (okS_ret (ok_str))) (okSs_nil)) (okSs_cons (okS_asg (ok_ix (ok_name 5) (ok_int)) (okG_tup rfl (okGs_cons (okG_name 6 Sc.nd rfl (Or.inl rfl)) (okGs_cons (okG_name 7 Sc.nd rfl (Or.inl rfl)) (okGs_cons (okG_name 8 Sc.nd rfl (Or.inl rfl)) (okGs_cons (okG_name 9 Sc.nd rfl (Or.inl rfl)) (okGs_nil))))))) (okSs_cons (okS_if (okT_cmp op_lt okLt (ok_bin op_sub okSub (ok_name 3) (ok_name 7)) (ok_name 8) (nomark _)) (okSs_one (okS_ret (ok_tup (okA_cons (ok_str) (okA_cons (ok_name 6) (okA_nil)))))) (okSs_nil)) (okSs_cons (okS_expr (ok_app (pv 1) (ok_tup (okA_cons (ok_name 3) (okA_cons (ok_bin opAdd okAdd (ok_name 4) (ok_tup (okA_cons (ok_tup (okA_cons (ok_name 6) (okA_cons (ok_name 3) (okA_cons (ok_cmp op_le okLe (ok_bin op_sub okSub (ok_name 3) (ok_name 7)) (ok_name 9) (nomark _)) (okA_nil))))) (okA_nil)))) (okA_nil)))))) (okSs_one (okS_ret (ok_tup (okA_cons (ok_name 6) (okA_cons (ok_bin op_sub okSub (ok_name 3) (ok_name 7)) (okA_cons (ok_cmp op_le okLe (ok_bin op_sub okSub (ok_name 3) (ok_name 7)) (ok_name 9) (nomark _)) (okA_nil))))))))))))))
abbrev s_raised : Stmt := topS 18
abbrev N_raised : List Str := ["batch", "bounds", "waits", "going", "place", "other"]
theorem sc_raised : FnScope N_raised ["batch", "bounds"] (defScope s_raised) := ⟨rfl, rfl, rfl, by decide +kernel, rfl, by decide +kernel, by decide +kernel⟩
def B1_raised : SF := sFg [5] (sIf (tE (eChain ltD ltD (eBin ixR (eBin ixR (eVar 0) (eVar 5)) (eC (.int 1))) (eBin ixR (eVar 1) (eVar 4)) (eBin ixR (eVar 1) (eVar 5)))) (sSeq (sAsg (eBin ixR (eVar 1) (eVar 5)) (gSub 1 (eVar 4))) (sSeq (sDrop (eApp 2 (eTup (aCons (eVar 4) (aCons (eVar 5) (aNil)))))) (sSeq (sAsg (eC (.bool true)) (gNm 3)) (sIf (tE (eBin gtD (eBin ixR (eVar 1) (eVar 4)) (eBin addD (eBin ixR (eBin ixR (eVar 0) (eVar 4)) (eC (.int 1))) (eBin ixR (eBin ixR (eVar 0) (eVar 4)) (eC (.int 3)))))) (sRet (eTup (aCons (eC .none) (aCons (eVar 2) (aNil))))) (sNil))))) (sNil))
def B2_raised : SF := sFg [4, 5] (sFa [5] (sFor (iRange2 (eBin addD (eVar 4) (eC (.int 1))) (eCb lenD (aCons (eVar 0) (aNil)))) (gNm 5) B1_raised))
def B3_raised : SF := sFg [4, 5] (sSeq (sAsg (eC (.bool false)) (gNm 3)) (sFa [4, 5] (sFor (iRev1 (eCb lenD (aCons (eVar 0) (aNil)))) (gNm 4) B2_raised)))
def b_raised : SF := sSeq (sPar3 1 2 3 (pCons (eCb listD (aCons (eVar 1) (aNil))) (pCons (eLst (aNil)) (pCons (eC (.bool true)) (pNil))))) (sSeq (sFa [4, 5] (sWhile 2000 (tE (eVar 3)) B3_raised)) (sRet (eTup (aCons (eCb tupleD (aCons (eVar 1) (aNil))) (aCons (eVar 2) (aNil))))))
def F_raised : List PyData → Option Rv := fnF 2 6 b_raised
theorem ok_raised (T : Txt mg)  {f : Addr} {fd : FuncData} (F : Fun K "raised" "raised" s_raised f fd) : FnOk P w K mg base CX0 1 f fd ["batch", "bounds"] (spF K F_raised) :=
  have Sc := sc_raised
  fn_ok (k := 0) F sc_raised fun cdv A outer s H E hr => okSs_cons (okS_par3 1 2 3 rfl Sc.nd rfl rfl rfl (by decide) (by decide) (by decide) (fun ta h => ps_par3 rfl Sc.nd rfl rfl rfl (by decide) (by decide) (by decide) rfl rfl rfl h (by rfl)) (okP_cons (ok_callTy call_list_of okList rfl T.b_list (by decide +kernel) (okA_cons (ok_name 1) (okA_nil))) (okP_cons (ok_lst (okA_nil)) (okP_cons (ok_bl) (okP_nil))))) (okSs_cons (okS_fa [4, 5] (okS_while 2000 PassesOwn.never (okT_val (ok_name 3)) (okSs_fg [4, 5] (okSs_cons (okS_set 3 Sc.nd rfl (Or.inl rfl) (ok_bl)) (okSs_one (okS_fa [4, 5] (okS_for PassesOwn.never rfl (okI_rev1 rfl T.b_reversed rfl T.b_range (ok_callB call_len okLen rfl T.b_len (by decide +kernel) (okA_cons (ok_name 0) (okA_nil)))) (okG_name 4 Sc.nd rfl (Or.inl rfl)) (okSs_fg [4, 5] (okSs_one (okS_fa [5] (okS_for PassesOwn.never rfl (okI_range2 rfl T.b_range (ok_bin opAdd okAdd (ok_name 4) (ok_int)) (ok_callB call_len okLen rfl T.b_len (by decide +kernel) (okA_cons (ok_name 0) (okA_nil)))) (okG_name 5 Sc.nd rfl (Or.inl rfl)) (okSs_fg [5] (okSs_one (okS_if (okT_chain op_lt op_lt okLt okLt (ok_ix (ok_ix (ok_name 0) (ok_name 5)) (ok_int)) (ok_ix (ok_name 1) (ok_name 4)) (ok_ix (ok_name 1) (ok_name 5))) (okSs_cons (okS_asg (ok_ix (ok_name 1) (ok_name 5)) (okG_sub (pv 1) (ok_name 4))) (okSs_cons (okS_expr (ok_app (pv 2) (ok_tup (okA_cons (ok_name 4) (okA_cons (ok_name 5) (okA_nil)))))) (okSs_cons (okS_set 3 Sc.nd rfl (Or.inl rfl) (ok_bl)) (okSs_one (okS_if (okT_cmp op_gt okGt (ok_ix (ok_name 1) (ok_name 4)) (ok_bin opAdd okAdd (ok_ix (ok_ix (ok_name 0) (ok_name 4)) (ok_int)) (ok_ix (ok_ix (ok_name 0) (ok_name 4)) (ok_int))) (nomark _)) (okSs_one (okS_ret (ok_tup (okA_cons (ok_non) (okA_cons (ok_name 2) (okA_nil)))))) (okSs_nil)))))) (okSs_nil))))))))))))))) (okSs_one (okS_ret (ok_tup (okA_cons (ok_callTy call_tuple_of okTuple rfl T.b_tuple (by decide +kernel) (okA_cons (ok_name 1) (okA_nil))) (okA_cons (ok_name 2) (okA_nil)))))))
abbrev s_first_bounds : Stmt := topS 19
abbrev N_first_bounds : List Str := ["batch", "loaf"]
theorem sc_first_bounds : FnScope N_first_bounds ["batch"] (defScope s_first_bounds) := ⟨rfl, rfl, rfl, by decide +kernel, rfl, by decide +kernel, by decide +kernel⟩
def b_first_bounds : SF := sRet (eLc (iSeq (eVar 0)) (gNm 1) (tYesF) (eBin addD (eBin ixR (eVar 1) (eC (.int 1))) (eBin ixR (eVar 1) (eC (.int 2)))) [1])
def F_first_bounds : List PyData → Option Rv := fnF 1 2 b_first_bounds
theorem ok_first_bounds (T : Txt mg)  {f : Addr} {fd : FuncData} (F : Fun K "first_bounds" "first_bounds" s_first_bounds f fd) : FnOk P w K mg base CX0 1 f fd ["batch"] (spF K F_first_bounds) :=
  have Sc := sc_first_bounds
  fn_ok (k := 0) F sc_first_bounds fun cdv A outer s H E hr => okSs_one (okS_ret (ok_lc (own := [("loaf", 1)]) rfl Sc.nd (okI_seq (ok_name 0)) (blkOk_by (own := [("loaf", 1)]) (N := N_first_bounds) (sc := defScope s_first_bounds) (by decide +kernel)) (fun _ _ _ _ _ => okG_name 1 Sc.nd rfl (Or.inl rfl)) (fun _ _ _ _ _ => okTs_nil) (fun _ _ _ _ _ => ok_bin opAdd okAdd (ok_ix (ok_name 1) (ok_int)) (ok_ix (ok_name 1) (ok_int)))))
abbrev s_least_outs : Stmt := topS 20
abbrev N_least_outs : List Str := ["batch"]
theorem sc_least_outs : FnScope N_least_outs ["batch"] (defScope s_least_outs) := ⟨rfl, rfl, rfl, by decide +kernel, rfl, by decide +kernel, by decide +kernel⟩
def b_least_outs : SF := sRet (eBin ixR (eCall F_raised (aCons (eVar 0) (aCons (eCall F_first_bounds (aCons (eVar 0) (aNil))) (aNil)))) (eC (.int 0)))
def F_least_outs : List PyData → Option Rv := fnF 1 1 b_least_outs
theorem ok_least_outs (T : Txt mg) {f_raised : Addr} {fd_raised : FuncData} (C_raised : Cal P w K mg base 1 "raised" f_raised fd_raised ["batch", "bounds"] (spF K F_raised)) {f_first_bounds : Addr} {fd_first_bounds : FuncData} (C_first_bounds : Cal P w K mg base 1 "first_bounds" f_first_bounds fd_first_bounds ["batch"] (spF K F_first_bounds)) {f : Addr} {fd : FuncData} (F : Fun K "least_outs" "least_outs" s_least_outs f fd) : FnOk P w K mg base CX0 2 f fd ["batch"] (spF K F_least_outs) :=
  have Sc := sc_least_outs
  fn_ok (k := 1) F sc_least_outs fun cdv A outer s H E hr => okSs_one (okS_ret (ok_ix (ok_call C_raised.c (hr.mono (by decide)) rfl C_raised.g C_raised.k C_raised.b (okA_cons (ok_name 0) (okA_cons (ok_call C_first_bounds.c (hr.mono (by decide)) rfl C_first_bounds.g C_first_bounds.k C_first_bounds.b (okA_cons (ok_name 0) (okA_nil))) (okA_nil)))) (ok_int)))
abbrev s_is_from : Stmt := topS 6
abbrev N_is_from : List Str := ["thing", "low", "high"]
theorem sc_is_from : FnScope N_is_from ["thing", "low", "high"] (defScope s_is_from) := ⟨rfl, rfl, rfl, by decide +kernel, rfl, by decide +kernel, by decide +kernel⟩
def b_is_from : SF := sRet (eAndF (eIsi "int" (eVar 0)) (eAndF (eNotF (eIsi "bool" (eVar 0))) (eChain leD leD (eVar 1) (eVar 0) (eVar 2))))
def F_is_from : List PyData → Option Rv := fnF 3 3 b_is_from
theorem ok_is_from (T : Txt mg)  {f : Addr} {fd : FuncData} (F : Fun K "is_from" "is_from" s_is_from f fd) : FnOk P w K mg base CX0 1 f fd ["thing", "low", "high"] (spF K F_is_from) :=
  have Sc := sc_is_from
  fn_ok (k := 0) F sc_is_from fun cdv A outer s H E hr => okSs_one (okS_ret (ok_and (ok_isi rfl T.b_isinstance rfl T.b_int (by decide +kernel) (ok_name 0) isi_int) (ok_and (ok_not (ok_isi rfl T.b_isinstance rfl T.b_bool (by decide +kernel) (ok_name 0) isi_bool)) (ok_one (ok_chain op_le op_le okLe okLe (ok_name 1) (ok_name 0) (ok_name 2))))))
abbrev s_is_name : Stmt := topS 7
abbrev N_is_name : List Str := ["thing", "sign"]
theorem sc_is_name : FnScope N_is_name ["thing"] (defScope s_is_name) := ⟨rfl, rfl, rfl, by decide +kernel, rfl, by decide +kernel, by decide +kernel⟩
def b_is_name : SF := sRet (eAndF (eIsi "str" (eVar 0)) (eAndF (eChain leD leD (eC (.int 1)) (eCb lenD (aCons (eVar 0) (aNil))) (eC (.int 8))) (eCb allD (aCons (eLc (iSeq (eVar 0)) (gNm 1) (tYesF) (eBin inR (eVar 1) (eC (.str "abcdefghijklmnopqrstuvwxyz"))) [1]) (aNil)))))
def F_is_name : List PyData → Option Rv := fnF 1 2 b_is_name
theorem ok_is_name (T : Txt mg)  {f : Addr} {fd : FuncData} (F : Fun K "is_name" "is_name" s_is_name f fd) : FnOk P w K mg base CX0 1 f fd ["thing"] (spF K F_is_name) :=
  have Sc := sc_is_name
  fn_ok (k := 0) F sc_is_name fun cdv A outer s H E hr => okSs_one (okS_ret (ok_and (ok_isi rfl T.b_isinstance rfl T.b_str (by decide +kernel) (ok_name 0) isi_str) (ok_and (ok_chain op_le op_le okLe okLe (ok_int) (ok_callB call_len okLen rfl T.b_len (by decide +kernel) (okA_cons (ok_name 0) (okA_nil))) (ok_int)) (ok_one (ok_callB (cr_all rfl) okAll rfl T.b_all (by decide +kernel) (okA_cons (ok_lc (own := [("sign", 1)]) rfl Sc.nd (okI_seq (ok_name 0)) (blkOk_by (own := [("sign", 1)]) (N := N_is_name) (sc := defScope s_is_name) (by decide +kernel)) (fun _ _ _ _ _ => okG_name 1 Sc.nd rfl (Or.inl rfl)) (fun _ _ _ _ _ => okTs_nil) (fun _ _ _ _ _ => ok_cmp (opIn (hu65 hr)) okIn (ok_name 1) (ok_globS rfl T.g_LETTERS.choose_spec) rfl)) (okA_nil)))))))
abbrev s_is_loaf : Stmt := topS 8
abbrev N_is_loaf : List Str := ["thing"]
theorem sc_is_loaf : FnScope N_is_loaf ["thing"] (defScope s_is_loaf) := ⟨rfl, rfl, rfl, by decide +kernel, rfl, by decide +kernel, by decide +kernel⟩
def b_is_loaf : SF := sSeq (sIf (tOrF (tNotF (tE (eIsi "tuple" (eVar 0)))) (tOrF (tE (eBin neD (eCb lenD (aCons (eVar 0) (aNil))) (eC (.int 4)))) (tNotF (tE (eCall F_is_name (aCons (eBin ixR (eVar 0) (eC (.int 0))) (aNil))))))) (sRet (eC (.bool false))) (sNil)) (sRet (eAndF (eCall F_is_from (aCons (eBin ixR (eVar 0) (eC (.int 1))) (aCons (eC (.int 0)) (aCons (eC (.int 40)) (aNil))))) (eAndF (eCall F_is_from (aCons (eBin ixR (eVar 0) (eC (.int 2))) (aCons (eC (.int 1)) (aCons (eC (.int 40)) (aNil))))) (eCall F_is_from (aCons (eBin ixR (eVar 0) (eC (.int 3))) (aCons (eBin ixR (eVar 0) (eC (.int 2))) (aCons (eC (.int 60)) (aNil))))))))
def F_is_loaf : List PyData → Option Rv := fnF 1 1 b_is_loaf
theorem ok_is_loaf (T : Txt mg) {f_is_from : Addr} {fd_is_from : FuncData} (C_is_from : Cal P w K mg base 1 "is_from" f_is_from fd_is_from ["thing", "low", "high"] (spF K F_is_from)) {f_is_name : Addr} {fd_is_name : FuncData} (C_is_name : Cal P w K mg base 1 "is_name" f_is_name fd_is_name ["thing"] (spF K F_is_name)) {f : Addr} {fd : FuncData} (F : Fun K "is_loaf" "is_loaf" s_is_loaf f fd) : FnOk P w K mg base CX0 2 f fd ["thing"] (spF K F_is_loaf) :=
  have Sc := sc_is_loaf
  fn_ok (k := 1) F sc_is_loaf fun cdv A outer s H E hr => okSs_cons (okS_if (okT_w (okW_or (okT_not (okT_val (ok_isi rfl T.b_isinstance rfl T.b_tuple (by decide +kernel) (ok_name 0) isi_tuple))) (okW_or (okT_cmp (op_neD hr.units) okNe (ok_callB call_len okLen rfl T.b_len (by decide +kernel) (okA_cons (ok_name 0) (okA_nil))) (ok_int) (nomark _)) (okW_or1 (okT_not (okT_val (ok_call C_is_name.c (hr.mono (by decide)) rfl C_is_name.g C_is_name.k C_is_name.b (okA_cons (ok_ix (ok_name 0) (ok_int)) (okA_nil))))))))) (okSs_one (okS_ret (ok_bl))) (okSs_nil)) (okSs_one (okS_ret (ok_and (ok_call C_is_from.c (hr.mono (by decide)) rfl C_is_from.g C_is_from.k C_is_from.b (okA_cons (ok_ix (ok_name 0) (ok_int)) (okA_cons (ok_int) (okA_cons (ok_globI rfl T.g_LAST.choose_spec) (okA_nil))))) (ok_and (ok_call C_is_from.c (hr.mono (by decide)) rfl C_is_from.g C_is_from.k C_is_from.b (okA_cons (ok_ix (ok_name 0) (ok_int)) (okA_cons (ok_int) (okA_cons (ok_globI rfl T.g_LEAST.choose_spec) (okA_nil))))) (ok_one (ok_call C_is_from.c (hr.mono (by decide)) rfl C_is_from.g C_is_from.k C_is_from.b (okA_cons (ok_ix (ok_name 0) (ok_int)) (okA_cons (ok_ix (ok_name 0) (ok_int)) (okA_cons (ok_globI rfl T.g_MOST.choose_spec) (okA_nil))))))))))
abbrev s_is_batch : Stmt := topS 9
abbrev N_is_batch : List Str := ["thing", "loaf", "one", "other"]
theorem sc_is_batch : FnScope N_is_batch ["thing"] (defScope s_is_batch) := ⟨rfl, rfl, rfl, by decide +kernel, rfl, by decide +kernel, by decide +kernel⟩
def b_is_batch : SF := sSeq (sIf (tOrF (tNotF (tE (eIsi "tuple" (eVar 0)))) (tOrF (tNotF (tE (eChain leD leD (eC (.int 1)) (eCb lenD (aCons (eVar 0) (aNil))) (eC (.int 8))))) (tNotF (tE (eCb allD (aCons (eLc (iSeq (eVar 0)) (gNm 1) (tYesF) (eCall F_is_loaf (aCons (eVar 1) (aNil))) [1]) (aNil))))))) (sRet (eC (.bool false))) (sNil)) (sSeq (sIf (tE (eBin neD (eLenSc (iSeq (eVar 0)) (gNm 1) (tYesF) (eBin ixR (eVar 1) (eC (.int 0))) [1]) (eCb lenD (aCons (eVar 0) (aNil))))) (sRet (eC (.bool false))) (sNil)) (sRet (eCb allD (aCons (eLc (iZip (aCons (eVar 0) (aCons (eSlice (eVar 0) (oE (eC (.int 1))) (oNo)) (aNil)))) (gTup 2 (gCons (gNm 2) (gCons (gNm 3) (gNil)))) (tYesF) (eBin ltD (eBin ixR (eVar 2) (eC (.int 1))) (eBin ixR (eVar 3) (eC (.int 1)))) [2, 3]) (aNil)))))
def F_is_batch : List PyData → Option Rv := fnF 1 4 b_is_batch
theorem ok_is_batch (T : Txt mg) {f_is_loaf : Addr} {fd_is_loaf : FuncData} (C_is_loaf : Cal P w K mg base 2 "is_loaf" f_is_loaf fd_is_loaf ["thing"] (spF K F_is_loaf)) {f : Addr} {fd : FuncData} (F : Fun K "is_batch" "is_batch" s_is_batch f fd) : FnOk P w K mg base CX0 3 f fd ["thing"] (spF K F_is_batch) :=
  have Sc := sc_is_batch
  fn_ok (k := 2) F sc_is_batch fun cdv A outer s H E hr => okSs_cons (okS_if (okT_w (okW_or (okT_not (okT_val (ok_isi rfl T.b_isinstance rfl T.b_tuple (by decide +kernel) (ok_name 0) isi_tuple))) (okW_or (okT_not (okT_chain op_le op_le okLe okLe (ok_int) (ok_callB call_len okLen rfl T.b_len (by decide +kernel) (okA_cons (ok_name 0) (okA_nil))) (ok_globI rfl T.g_LOAVES.choose_spec))) (okW_or1 (okT_not (okT_val (ok_callB (cr_all rfl) okAll rfl T.b_all (by decide +kernel) (okA_cons (ok_lc (own := [("loaf", 1)]) rfl Sc.nd (okI_seq (ok_name 0)) (blkOk_by (own := [("loaf", 1)]) (N := N_is_batch) (sc := defScope s_is_batch) (by decide +kernel)) (fun _ _ _ _ _ => okG_name 1 Sc.nd rfl (Or.inl rfl)) (fun _ _ _ _ _ => okTs_nil) (fun _ _ _ _ _ => ok_call C_is_loaf.c (hr.mono (by decide)) rfl C_is_loaf.g C_is_loaf.k C_is_loaf.b (okA_cons (ok_name 1) (okA_nil)))) (okA_nil))))))))) (okSs_one (okS_ret (ok_bl))) (okSs_nil)) (okSs_cons (okS_if (okT_cmp (op_neD hr.units) okNe (ok_lenSc (own := [("loaf", 1)]) rfl Sc.nd rfl T.b_len (okI_seq (ok_name 0)) (blkOk_by (own := [("loaf", 1)]) (N := N_is_batch) (sc := defScope s_is_batch) (by decide +kernel)) (fun _ _ _ _ _ => okG_name 1 Sc.nd rfl (Or.inl rfl)) (fun _ _ _ _ _ => okTs_nil) (fun _ _ _ _ _ => ok_ix (ok_name 1) (ok_int))) (ok_callB call_len okLen rfl T.b_len (by decide +kernel) (okA_cons (ok_name 0) (okA_nil))) (nomark _)) (okSs_one (okS_ret (ok_bl))) (okSs_nil)) (okSs_one (okS_ret (ok_callB (cr_all rfl) okAll rfl T.b_all (by decide +kernel) (okA_cons (ok_lc (own := [("one", 2), ("other", 3)]) rfl Sc.nd (okI_zip rfl T.b_zip (okA_cons (ok_name 0) (okA_cons (ok_sl (ok_name 0) (okO_e (ok_int)) (okO_no)) (okA_nil)))) (blkOk_by (own := [("one", 2), ("other", 3)]) (N := N_is_batch) (sc := defScope s_is_batch) (by decide +kernel)) (fun _ _ _ _ _ => okG_tup rfl (okGs_cons (okG_name 2 Sc.nd rfl (Or.inl rfl)) (okGs_cons (okG_name 3 Sc.nd rfl (Or.inl rfl)) (okGs_nil)))) (fun _ _ _ _ _ => okTs_nil) (fun _ _ _ _ _ => ok_cmp op_lt okLt (ok_ix (ok_name 2) (ok_int)) (ok_ix (ok_name 3) (ok_int)) (nomark _))) (okA_nil))))))
abbrev s_Oven___init__ : Stmt := inClass (topS 22) 0
abbrev N_Oven___init__ : List Str := ["self", "batch"]
theorem sc_Oven___init__ : FnScope N_Oven___init__ ["self", "batch"] (defScope s_Oven___init__) := ⟨rfl, rfl, rfl, by decide +kernel, rfl, by decide +kernel, by decide +kernel⟩
theorem ok___init__ (T : Txt mg) {C : Addr} (O : OvnC K C) {f_is_batch : Addr} {fd_is_batch : FuncData} (C_is_batch : Cal P w K mg base 3 "is_batch" f_is_batch fd_is_batch ["thing"] (spF K F_is_batch)) {f : Addr} {fd : FuncData}
    (F : Fun K "__init__" "Oven.__init__" s_Oven___init__ f fd) : FnOk P w K mg base CX0 4 f fd ["self", "batch"] (spInit K C F_is_batch) := by
  have Sc := sc_Oven___init__
  refine F.ok Sc (fun vs H Q E h => ?_) (fun cdv A outer s H vs Q E hr h => ⟨_, pss_cons (okS_if (okT_not (okT_val (ok_call C_is_batch.c (hr.mono (by decide)) rfl C_is_batch.g C_is_batch.k C_is_batch.b (okA_cons (ok_name 1) (okA_nil))))) (okSs_one okS_never) okSs_nil)
    (pss_cons (ps_fld (pv 0) (pv 1) rfl) (pss_one (ps_fld (pv 0) (pe_lst (pa_cons (pe_tup (pa_cons pe_int (pa_cons (pe_tup pa_nil) pa_nil))) pa_nil)) rfl))), ?_⟩)
  · obtain ⟨S, p, dx, y, b, _, rfl, _⟩ := h
    rfl
  · obtain ⟨S, p, dx, y, b, sh, rfl, hp, hS, hy, hF, q⟩ := h
    exact init_rd O sh hp hS hy hF fun σ S' H' l vb I => q S' H' l vb I
theorem ok___init__X (T : Txt mg) {C CN : Addr} (O : OvnC K C) (EK : TxtE K mg "NoBatch" CN) {f_is_batch : Addr} {fd_is_batch : FuncData} (C_is_batch : Cal P w K mg base 3 "is_batch" f_is_batch fd_is_batch ["thing"] (spF K F_is_batch)) {f : Addr} {fd : FuncData}
    (F : Fun K "__init__" "Oven.__init__" s_Oven___init__ f fd) : FnOk P w K mg base (L2.CX P w) 4 f fd ["self", "batch"] (spInitX K C CN F_is_batch) := by
  have Sc := sc_Oven___init__
  refine F.okX Sc (fun vs H Q E h => ?_) (fun cdv A outer s H vs Q E hr h => ⟨_, pss_cons (ps_if (okT_not (okT_val (ok_call C_is_batch.c (hr.mono (by decide)) rfl C_is_batch.g C_is_batch.k C_is_batch.b (okA_cons (ok_name 1) (okA_nil)))))
    (pss_one (ps_raise rfl (takes_of rfl rfl rfl rfl) (pmk_own PySem.F.excBase_ValueError EK.x EK.g EK.k (raises_own EK.b EK.t) rfl))) pss_nil) pss_nev, ?_⟩)
  · obtain ⟨S, p, dx, y, b, _, rfl, _⟩ := h
    rfl
  · obtain ⟨S, p, dx, y, b, sh, rfl, hp, hS, hy, hF, q⟩ := h
    have R := start_rep 0 (DaAll.cons (.adr p) (.cons hy .nil)) sh
    have e : tNotF (tE (eCall F_is_batch (aCons (eVar 1) aNil))) [.da (adrD p), .da b] = some (true, [.da (adrD p), .da b]) := by
      have e1 : eCall F_is_batch (aCons (eVar 1) aNil) [.da (adrD p), .da b] = some (.da (.bool false), [.da (adrD p), .da b]) := by
        unfold eCall
        show ol (F_is_batch [b]) _ = _
        rw [hF]
        rfl
      unfold tNotF tE
      rw [e1]
      rfl
    exact ⟨_, S, _, _, _, R, e, fun H1 S1 R1 s1 => iteT (q H1 (R1.bh.same fun _ => rfl))⟩

abbrev s_Oven_places_within : Stmt := inClass (topS 22) 3
abbrev N_Oven_places_within : List Str := ["self", "now", "gone", "row", "names", "at", "loaf"]
theorem sc_Oven_places_within : FnScope N_Oven_places_within ["self"] (defScope s_Oven_places_within) := ⟨rfl, rfl, rfl, by decide +kernel, rfl, by decide +kernel, by decide +kernel⟩
def b_Oven_places_within : SF := sSeq (sAsg (eLast 0) (gTup 2 (gCons (gNm 1) (gCons (gNm 2) (gNil))))) (sSeq (sAsg (eLc (iSeq (eVar 2)) (gNm 3) (tYesF) (eBin ixR (eVar 3) (eC (.int 0))) [3]) (gNm 4)) (sRet (eRevS (eLc (iEnum (aCons (eBat 0) (aNil))) (gTup 2 (gCons (gNm 5) (gCons (gNm 6) (gNil)))) (tAndF (tE (eBin ltD (eBin ixR (eVar 6) (eC (.int 1))) (eVar 1))) (tE (eBin ninR (eBin ixR (eVar 6) (eC (.int 0))) (eVar 4)))) (eVar 5) [5, 6]))))
def F_Oven_places_within : PyData → List PyData → List PyData → Option (Rv × List PyData) := fnO 1 7 b_Oven_places_within
theorem ok_Oven_places_within (T : Txt mg) {C : Addr} (O : OvnC K C)  {f : Addr} {fd : FuncData} (F : Fun K "places_within" "Oven.places_within" s_Oven_places_within f fd) : FnOk P w K mg base CX0 1 f fd ["self"] (spO K F_Oven_places_within) :=
  have Sc := sc_Oven_places_within
  fnO_ok (k := 0) F sc_Oven_places_within fun cdv A outer s H E hr => okSs_cons (okS_asg (ok_last O (pv 0)) (okG_tup rfl (okGs_cons (okG_name 1 Sc.nd rfl (Or.inr rfl)) (okGs_cons (okG_name 2 Sc.nd rfl (Or.inl rfl)) (okGs_nil))))) (okSs_cons (okS_set 4 Sc.nd rfl (Or.inr rfl) (ok_lc (own := [("row", 3)]) rfl Sc.nd (okI_seq (ok_name 2)) (blkOk_by (own := [("row", 3)]) (N := N_Oven_places_within) (sc := defScope s_Oven_places_within) (by decide +kernel)) (fun _ _ _ _ _ => okG_name 3 Sc.nd rfl (Or.inl rfl)) (fun _ _ _ _ _ => okTs_nil) (fun _ _ _ _ _ => ok_ix (ok_name 3) (ok_int)))) (okSs_one (okS_ret (ok_revS (ok_lc (own := [("at", 5), ("loaf", 6)]) rfl Sc.nd (okI_enum rfl T.b_enumerate (okA_cons (ok_bat O (pv 0)) (okA_nil))) (blkOk_by (own := [("at", 5), ("loaf", 6)]) (N := N_Oven_places_within) (sc := defScope s_Oven_places_within) (by decide +kernel)) (fun _ _ _ _ _ => okG_tup rfl (okGs_cons (okG_name 5 Sc.nd rfl (Or.inl rfl)) (okGs_cons (okG_name 6 Sc.nd rfl (Or.inl rfl)) (okGs_nil)))) (fun _ _ _ _ _ => okTs_one (okT_w (okW_and (okT_cmp op_lt okLt (ok_ix (ok_name 6) (ok_int)) (ok_name 1) (nomark _)) (okW_and1 (okT_cmp (opNotIn (hu65 hr)) okNotIn (ok_ix (ok_name 6) (ok_int)) (ok_name 4) rfl))))) (fun _ _ _ _ _ => ok_name 5))))))
abbrev s_Oven_take : Stmt := inClass (topS 22) 5
abbrev N_Oven_take : List Str := ["self", "now", "gone", "places", "name", "since", "least", "most", "good"]
theorem sc_Oven_take : FnScope N_Oven_take ["self"] (defScope s_Oven_take) := ⟨rfl, rfl, rfl, by decide +kernel, rfl, by decide +kernel, by decide +kernel⟩
def b_Oven_take : SF := sSeq (sAsg (eLast 0) (gTup 2 (gCons (gNm 1) (gCons (gNm 2) (gNil))))) (sSeq (sAsg (eMeth 0 F_Oven_places_within aNil) (gNm 3)) (sSeq (sIf (tNotF (tLst (eVar 3))) (sNever) (sNil)) (sSeq (sAsg (eBin ixR (eBat 0) (eBin ixR (eVar 3) (eC (.int 0)))) (gTup 4 (gCons (gNm 4) (gCons (gNm 5) (gCons (gNm 6) (gCons (gNm 7) (gNil))))))) (sSeq (sIf (tE (eBin ltD (eBin subD (eVar 1) (eVar 5)) (eVar 6))) (sNever) (sNil)) (sSeq (sAsg (eBin leD (eBin subD (eVar 1) (eVar 5)) (eVar 7)) (gNm 8)) (sSeq (sDrop (eStApp 0 (eTup (aCons (eVar 1) (aCons (eBin addD (eVar 2) (eTup (aCons (eTup (aCons (eVar 4) (aCons (eVar 1) (aCons (eVar 8) (aNil))))) (aNil)))) (aNil)))))) (sRet (eTup (aCons (eVar 4) (aCons (eBin subD (eVar 1) (eVar 5)) (aCons (eVar 8) (aNil))))))))))))
def F_Oven_take : PyData → List PyData → List PyData → Option (Rv × List PyData) := fnO 1 9 b_Oven_take
theorem ok_Oven_take (T : Txt mg) {C : Addr} (O : OvnC K C) {f_Oven_places_within : Addr} {fd_Oven_places_within : FuncData} (M_Oven_places_within : MetC P w K mg base 1 C "places_within" f_Oven_places_within fd_Oven_places_within ["self"] (spO K F_Oven_places_within)) {f : Addr} {fd : FuncData} (F : Fun K "take" "Oven.take" s_Oven_take f fd) : FnOk P w K mg base CX0 2 f fd ["self"] (spO K F_Oven_take) :=
  have Sc := sc_Oven_take
  fnO_ok (k := 1) F sc_Oven_take fun cdv A outer s H E hr => okSs_cons (okS_asg (ok_last O (pv 0)) (okG_tup rfl (okGs_cons (okG_name 1 Sc.nd rfl (Or.inl rfl)) (okGs_cons (okG_name 2 Sc.nd rfl (Or.inl rfl)) (okGs_nil))))) (okSs_cons (okS_set 3 Sc.nd rfl (Or.inl rfl) (ok_meth0 O M_Oven_places_within (hr.mono (by decide)) (pv 0))) (okSs_cons (okS_if (okT_not (okT_lst (ok_name 3))) (okSs_one (okS_never)) (okSs_nil)) (okSs_cons (okS_asg (ok_ix (ok_bat O (pv 0)) (ok_ix (ok_name 3) (ok_int))) (okG_tup rfl (okGs_cons (okG_name 4 Sc.nd rfl (Or.inl rfl)) (okGs_cons (okG_name 5 Sc.nd rfl (Or.inl rfl)) (okGs_cons (okG_name 6 Sc.nd rfl (Or.inl rfl)) (okGs_cons (okG_name 7 Sc.nd rfl (Or.inl rfl)) (okGs_nil))))))) (okSs_cons (okS_if (okT_cmp op_lt okLt (ok_bin op_sub okSub (ok_name 1) (ok_name 5)) (ok_name 6) (nomark _)) (okSs_one (okS_never)) (okSs_nil)) (okSs_cons (okS_set 8 Sc.nd rfl (Or.inl rfl) (ok_cmp op_le okLe (ok_bin op_sub okSub (ok_name 1) (ok_name 5)) (ok_name 7) (nomark _))) (okSs_cons (okS_expr (ok_stApp O (pv 0) (ok_tup (okA_cons (ok_name 1) (okA_cons (ok_bin opAdd okAdd (ok_name 2) (ok_tup (okA_cons (ok_tup (okA_cons (ok_name 4) (okA_cons (ok_name 1) (okA_cons (ok_name 8) (okA_nil))))) (okA_nil)))) (okA_nil)))))) (okSs_one (okS_ret (ok_tup (okA_cons (ok_name 4) (okA_cons (ok_bin op_sub okSub (ok_name 1) (ok_name 5)) (okA_cons (ok_name 8) (okA_nil)))))))))))))
abbrev s_Oven_can_still : Stmt := inClass (topS 22) 10
abbrev N_Oven_can_still : List Str := ["self", "now", "gone", "row", "names", "loaf", "rest", "bounds", "bound"]
theorem sc_Oven_can_still : FnScope N_Oven_can_still ["self"] (defScope s_Oven_can_still) := ⟨rfl, rfl, rfl, by decide +kernel, rfl, by decide +kernel, by decide +kernel⟩
def b_Oven_can_still : SF := sSeq (sAsg (eLast 0) (gTup 2 (gCons (gNm 1) (gCons (gNm 2) (gNil))))) (sSeq (sIf (tNotF (tE (eCb allD (aCons (eLc (iSeq (eVar 2)) (gNm 3) (tYesF) (eBin ixR (eVar 3) (eC (.int 2))) [3]) (aNil))))) (sRet (eC (.bool false))) (sNil)) (sSeq (sAsg (eLc (iSeq (eVar 2)) (gNm 3) (tYesF) (eBin ixR (eVar 3) (eC (.int 0))) [3]) (gNm 4)) (sSeq (sAsg (eCb tupleD (aCons (eLc (iSeq (eBat 0)) (gNm 5) (tE (eBin ninR (eBin ixR (eVar 5) (eC (.int 0))) (eVar 4))) (eVar 5) [5]) (aNil))) (gNm 6)) (sSeq (sAsg (eLc (iSeq (eVar 6)) (gNm 5) (tYesF) (eCb maxD (aCons (eVar 1) (aCons (eBin addD (eBin ixR (eVar 5) (eC (.int 1))) (eBin ixR (eVar 5) (eC (.int 2)))) (aNil)))) [5]) (gNm 7)) (sSeq (sIf (tE (eCb anyD (aCons (eLc (iZip (aCons (eVar 7) (aCons (eVar 6) (aNil)))) (gTup 2 (gCons (gNm 8) (gCons (gNm 5) (gNil)))) (tYesF) (eBin gtD (eVar 8) (eBin addD (eBin ixR (eVar 5) (eC (.int 1))) (eBin ixR (eVar 5) (eC (.int 3))))) [8, 5]) (aNil)))) (sRet (eC (.bool false))) (sNil)) (sRet (eBin isnD (eBin ixR (eCall F_raised (aCons (eVar 6) (aCons (eVar 7) (aNil)))) (eC (.int 0))) (eC .none))))))))
def F_Oven_can_still : PyData → List PyData → List PyData → Option (Rv × List PyData) := fnO 1 9 b_Oven_can_still
theorem ok_Oven_can_still (T : Txt mg) {C : Addr} (O : OvnC K C) {f_raised : Addr} {fd_raised : FuncData} (C_raised : Cal P w K mg base 1 "raised" f_raised fd_raised ["batch", "bounds"] (spF K F_raised)) {f : Addr} {fd : FuncData} (F : Fun K "can_still" "Oven.can_still" s_Oven_can_still f fd) : FnOk P w K mg base CX0 2 f fd ["self"] (spO K F_Oven_can_still) :=
  have Sc := sc_Oven_can_still
  fnO_ok (k := 1) F sc_Oven_can_still fun cdv A outer s H E hr => okSs_cons (okS_asg (ok_last O (pv 0)) (okG_tup rfl (okGs_cons (okG_name 1 Sc.nd rfl (Or.inr rfl)) (okGs_cons (okG_name 2 Sc.nd rfl (Or.inl rfl)) (okGs_nil))))) (okSs_cons (okS_if (okT_not (okT_val (ok_callB (cr_all rfl) okAll rfl T.b_all (by decide +kernel) (okA_cons (ok_lc (own := [("row", 3)]) rfl Sc.nd (okI_seq (ok_name 2)) (blkOk_by (own := [("row", 3)]) (N := N_Oven_can_still) (sc := defScope s_Oven_can_still) (by decide +kernel)) (fun _ _ _ _ _ => okG_name 3 Sc.nd rfl (Or.inl rfl)) (fun _ _ _ _ _ => okTs_nil) (fun _ _ _ _ _ => ok_ix (ok_name 3) (ok_int))) (okA_nil))))) (okSs_one (okS_ret (ok_bl))) (okSs_nil)) (okSs_cons (okS_set 4 Sc.nd rfl (Or.inr rfl) (ok_lc (own := [("row", 3)]) rfl Sc.nd (okI_seq (ok_name 2)) (blkOk_by (own := [("row", 3)]) (N := N_Oven_can_still) (sc := defScope s_Oven_can_still) (by decide +kernel)) (fun _ _ _ _ _ => okG_name 3 Sc.nd rfl (Or.inl rfl)) (fun _ _ _ _ _ => okTs_nil) (fun _ _ _ _ _ => ok_ix (ok_name 3) (ok_int)))) (okSs_cons (okS_set 6 Sc.nd rfl (Or.inl rfl) (ok_callTy call_tuple_of okTuple rfl T.b_tuple (by decide +kernel) (okA_cons (ok_lc (own := [("loaf", 5)]) rfl Sc.nd (okI_seq (ok_bat O (pv 0))) (blkOk_by (own := [("loaf", 5)]) (N := N_Oven_can_still) (sc := defScope s_Oven_can_still) (by decide +kernel)) (fun _ _ _ _ _ => okG_name 5 Sc.nd rfl (Or.inl rfl)) (fun _ _ _ _ _ => okTs_one (okT_cmp (opNotIn (hu65 hr)) okNotIn (ok_ix (ok_name 5) (ok_int)) (ok_name 4) rfl)) (fun _ _ _ _ _ => ok_name 5)) (okA_nil)))) (okSs_cons (okS_setLc (i := 7) (own := [("loaf", 5)]) rfl Sc.nd rfl rfl (sw_true rfl rfl rfl (by decide +kernel)) (okI_seq (ok_name 6)) (blkOk_by (own := [("loaf", 5)]) (N := N_Oven_can_still) (sc := defScope s_Oven_can_still) (by decide +kernel)) (fun _ _ _ _ _ => okG_name 5 Sc.nd rfl (Or.inl rfl)) (fun _ _ _ _ _ => okTs_nil) (fun _ _ _ _ _ => ok_callB (opMax rfl hr.units) okMax rfl T.b_max (by decide +kernel) (okA_cons (ok_name 1) (okA_cons (ok_bin opAdd okAdd (ok_ix (ok_name 5) (ok_int)) (ok_ix (ok_name 5) (ok_int))) (okA_nil))))) (okSs_cons (okS_if (okT_val (ok_callB (cr_any rfl) okAny rfl T.b_any (by decide +kernel) (okA_cons (ok_lc (own := [("bound", 8), ("loaf", 5)]) rfl Sc.nd (okI_zip rfl T.b_zip (okA_cons (ok_name 7) (okA_cons (ok_name 6) (okA_nil)))) (blkOk_by (own := [("bound", 8), ("loaf", 5)]) (N := N_Oven_can_still) (sc := defScope s_Oven_can_still) (by decide +kernel)) (fun _ _ _ _ _ => okG_tup rfl (okGs_cons (okG_name 8 Sc.nd rfl (Or.inl rfl)) (okGs_cons (okG_name 5 Sc.nd rfl (Or.inl rfl)) (okGs_nil)))) (fun _ _ _ _ _ => okTs_nil) (fun _ _ _ _ _ => ok_cmp op_gt okGt (ok_name 8) (ok_bin opAdd okAdd (ok_ix (ok_name 5) (ok_int)) (ok_ix (ok_name 5) (ok_int))) (nomark _))) (okA_nil)))) (okSs_one (okS_ret (ok_bl))) (okSs_nil)) (okSs_one (okS_ret (ok_cmp opIsn okIsn (ok_ix (ok_call C_raised.c (hr.mono (by decide)) rfl C_raised.g C_raised.k C_raised.b (okA_cons (ok_name 6) (okA_cons (ok_name 7) (okA_nil)))) (ok_int)) (ok_non) (nomark _)))))))))
abbrev s_Oven_tick : Stmt := inClass (topS 22) 7
abbrev N_Oven_tick : List Str := ["self"]
theorem sc_Oven_tick : FnScope N_Oven_tick ["self"] (defScope s_Oven_tick) := ⟨rfl, rfl, rfl, by decide +kernel, rfl, by decide +kernel, by decide +kernel⟩
def b_Oven_tick : SF := sRet (eBin ixR (eLast 0) (eC (.int 0)))
def F_Oven_tick : PyData → List PyData → List PyData → Option (Rv × List PyData) := fnO 1 1 b_Oven_tick
theorem ok_Oven_tick (T : Txt mg) {C : Addr} (O : OvnC K C)  {f : Addr} {fd : FuncData} (F : Fun K "tick" "Oven.tick" s_Oven_tick f fd) : FnOk P w K mg base CX0 1 f fd ["self"] (spO K F_Oven_tick) :=
  have Sc := sc_Oven_tick
  fnO_ok (k := 0) F sc_Oven_tick fun cdv A outer s H E hr => okSs_one (okS_ret (ok_ix (ok_last O (pv 0)) (ok_int)))
abbrev s_Oven_wait : Stmt := inClass (topS 22) 4
abbrev N_Oven_wait : List Str := ["self", "ticks", "now", "gone"]
theorem sc_Oven_wait : FnScope N_Oven_wait ["self", "ticks"] (defScope s_Oven_wait) := ⟨rfl, rfl, rfl, by decide +kernel, rfl, by decide +kernel, by decide +kernel⟩
def b_Oven_wait : SF := sSeq (sIf (tNotF (tE (eCall F_is_from (aCons (eVar 1) (aCons (eC (.int 1)) (aCons (eC (.int 100)) (aNil))))))) (sNever) (sNil)) (sSeq (sAsg (eLast 0) (gTup 2 (gCons (gNm 2) (gCons (gNm 3) (gNil))))) (sDrop (eStApp 0 (eTup (aCons (eBin addD (eVar 2) (eVar 1)) (aCons (eVar 3) (aNil)))))))
def F_Oven_wait : PyData → List PyData → List PyData → Option (Rv × List PyData) := fnO 2 4 b_Oven_wait
theorem ok_Oven_wait (T : Txt mg) {C : Addr} (O : OvnC K C) {f_is_from : Addr} {fd_is_from : FuncData} (C_is_from : Cal P w K mg base 1 "is_from" f_is_from fd_is_from ["thing", "low", "high"] (spF K F_is_from)) {f : Addr} {fd : FuncData} (F : Fun K "wait" "Oven.wait" s_Oven_wait f fd) : FnOk P w K mg base CX0 2 f fd ["self", "ticks"] (spO K F_Oven_wait) :=
  have Sc := sc_Oven_wait
  fnO_ok (k := 1) F sc_Oven_wait fun cdv A outer s H E hr => okSs_cons (okS_if (okT_not (okT_val (ok_call C_is_from.c (hr.mono (by decide)) rfl C_is_from.g C_is_from.k C_is_from.b (okA_cons (ok_name 1) (okA_cons (ok_int) (okA_cons (ok_int) (okA_nil))))))) (okSs_one (okS_never)) (okSs_nil)) (okSs_cons (okS_asg (ok_last O (pv 0)) (okG_tup rfl (okGs_cons (okG_name 2 Sc.nd rfl (Or.inl rfl)) (okGs_cons (okG_name 3 Sc.nd rfl (Or.inl rfl)) (okGs_nil))))) (okSs_one (okS_expr (ok_stApp O (pv 0) (ok_tup (okA_cons (ok_bin opAdd okAdd (ok_name 2) (ok_name 1)) (okA_cons (ok_name 3) (okA_nil))))))))
abbrev s_Oven_within : Stmt := inClass (topS 22) 8
abbrev N_Oven_within : List Str := ["self", "place"]
theorem sc_Oven_within : FnScope N_Oven_within ["self"] (defScope s_Oven_within) := ⟨rfl, rfl, rfl, by decide +kernel, rfl, by decide +kernel, by decide +kernel⟩
def b_Oven_within : SF := sRet (eCb tupleD (aCons (eLc (iSeq (eMeth 0 F_Oven_places_within aNil)) (gNm 1) (tYesF) (eBin ixR (eBin ixR (eBat 0) (eVar 1)) (eC (.int 0))) [1]) (aNil)))
def F_Oven_within : PyData → List PyData → List PyData → Option (Rv × List PyData) := fnO 1 2 b_Oven_within
theorem ok_Oven_within (T : Txt mg) {C : Addr} (O : OvnC K C) {f_Oven_places_within : Addr} {fd_Oven_places_within : FuncData} (M_Oven_places_within : MetC P w K mg base 1 C "places_within" f_Oven_places_within fd_Oven_places_within ["self"] (spO K F_Oven_places_within)) {f : Addr} {fd : FuncData} (F : Fun K "within" "Oven.within" s_Oven_within f fd) : FnOk P w K mg base CX0 2 f fd ["self"] (spO K F_Oven_within) :=
  have Sc := sc_Oven_within
  fnO_ok (k := 1) F sc_Oven_within fun cdv A outer s H E hr => okSs_one (okS_ret (ok_callTy call_tuple_of okTuple rfl T.b_tuple (by decide +kernel) (okA_cons (ok_lc (own := [("place", 1)]) rfl Sc.nd (okI_seq (ok_meth0 O M_Oven_places_within (hr.mono (by decide)) (pv 0))) (blkOk_by (own := [("place", 1)]) (N := N_Oven_within) (sc := defScope s_Oven_within) (by decide +kernel)) (fun _ _ _ _ _ => okG_name 1 Sc.nd rfl (Or.inl rfl)) (fun _ _ _ _ _ => okTs_nil) (fun _ _ _ _ _ => ok_ix (ok_ix (ok_bat O (pv 0)) (ok_name 1)) (ok_int))) (okA_nil))))
abbrev s_Oven___len__ : Stmt := inClass (topS 22) 1
abbrev N_Oven___len__ : List Str := ["self"]
theorem sc_Oven___len__ : FnScope N_Oven___len__ ["self"] (defScope s_Oven___len__) := ⟨rfl, rfl, rfl, by decide +kernel, rfl, by decide +kernel, by decide +kernel⟩
def b_Oven___len__ : SF := sRet (eCb lenD (aCons (eMeth 0 F_Oven_within aNil) (aNil)))
def F_Oven___len__ : PyData → List PyData → List PyData → Option (Rv × List PyData) := fnO 1 1 b_Oven___len__
theorem ok_Oven___len__ (T : Txt mg) {C : Addr} (O : OvnC K C) {f_Oven_within : Addr} {fd_Oven_within : FuncData} (M_Oven_within : MetC P w K mg base 2 C "within" f_Oven_within fd_Oven_within ["self"] (spO K F_Oven_within)) {f : Addr} {fd : FuncData} (F : Fun K "__len__" "Oven.__len__" s_Oven___len__ f fd) : FnOk P w K mg base CX0 3 f fd ["self"] (spO K F_Oven___len__) :=
  have Sc := sc_Oven___len__
  fnO_ok (k := 2) F sc_Oven___len__ fun cdv A outer s H E hr => okSs_one (okS_ret (ok_callB call_len okLen rfl T.b_len (by decide +kernel) (okA_cons (ok_meth0 O M_Oven_within (hr.mono (by decide)) (pv 0)) (okA_nil))))
abbrev s_Oven_out : Stmt := inClass (topS 22) 9
abbrev N_Oven_out : List Str := ["self"]
theorem sc_Oven_out : FnScope N_Oven_out ["self"] (defScope s_Oven_out) := ⟨rfl, rfl, rfl, by decide +kernel, rfl, by decide +kernel, by decide +kernel⟩
def b_Oven_out : SF := sRet (eCb listD (aCons (eBin ixR (eLast 0) (eC (.int 1))) (aNil)))
def F_Oven_out : PyData → List PyData → List PyData → Option (Rv × List PyData) := fnO 1 1 b_Oven_out
theorem ok_Oven_out (T : Txt mg) {C : Addr} (O : OvnC K C)  {f : Addr} {fd : FuncData} (F : Fun K "out" "Oven.out" s_Oven_out f fd) : FnOk P w K mg base CX0 1 f fd ["self"] (spO K F_Oven_out) :=
  have Sc := sc_Oven_out
  fnO_ok (k := 0) F sc_Oven_out fun cdv A outer s H E hr => okSs_one (okS_ret (ok_callTy call_list_of okList rfl T.b_list (by decide +kernel) (okA_cons (ok_ix (ok_last O (pv 0)) (ok_int)) (okA_nil))))
abbrev s__law_baked_right : Stmt := topS 38
abbrev N__law_baked_right : List Str := ["batch", "oven", "told", "place", "out", "left", "back", "name", "baked", "good"]
theorem sc__law_baked_right : FnScope N__law_baked_right ["batch"] (defScope s__law_baked_right) := ⟨rfl, rfl, rfl, by decide +kernel, rfl, by decide +kernel, by decide +kernel⟩
def B1__law_baked_right : SF := sFg [4, 6, 7, 8, 9] (sSeq (sIf (tE (eBin ltD (eMeth 1 F_Oven_tick aNil) (eVar 4))) (sDrop (eMeth 1 F_Oven_wait (aCons (eBin subD (eVar 4) (eMeth 1 F_Oven_tick aNil)) (aNil)))) (sNil)) (sSeq (sAsg (eMeth 1 F_Oven_take aNil) (gTup 3 (gCons (gNm 7) (gCons (gNm 8) (gCons (gNm 9) (gNil)))))) (sIf (tOrF (tE (eBin neD (eVar 7) (eBin ixR (eBin ixR (eVar 0) (eBin subD (eC (.int 0)) (eVar 6))) (eC (.int 0))))) (tOrF (tE (eBin isnD (eVar 9) (eC (.bool true)))) (tE (eBin isnD (eMeth 1 F_Oven_can_still aNil) (eC (.bool true)))))) (sRet (eC (.bool false))) (sNil))))
def b0__law_baked_right : SF := sNil
def b1__law_baked_right : SF := sSeq (sIf (tE (eBin isD (eVar 2) (eC .none))) (sRet (eBin isD (eMeth 1 F_Oven_can_still aNil) (eC (.bool false)))) (sNil)) (sSeq (sAsg (eCb sortD (aCons (eLc (iEnum (aCons (eVar 2) (aNil))) (gTup 2 (gCons (gNm 3) (gCons (gNm 4) (gNil)))) (tYesF) (eTup (aCons (eVar 4) (aCons (eBin subD (eC (.int 0)) (eVar 3)) (aNil)))) [3, 4]) (aNil))) (gNm 5)) (sSeq (sFa [2, 3, 4, 6, 7, 8, 9] (sFor (iSeq (eVar 5)) (gTup 2 (gCons (gNm 4) (gCons (gNm 6) (gNil)))) B1__law_baked_right)) (sRet (eAndF (eBin eqD (eLenO 1 F_Oven___len__) (eC (.int 0))) (eBin eqD (eCb lenD (aCons (eMeth 1 F_Oven_out aNil) (aNil))) (eCb lenD (aCons (eVar 0) (aNil))))))))
def b__law_baked_right : SF := sSeq b0__law_baked_right (sSeq (sMk1 F_is_batch F_least_outs 0 1 2) b1__law_baked_right)
def F__law_baked_right : List PyData → Option Rv := fnM 1 10 b__law_baked_right
theorem okq__law_baked_right (T : Txt mg) {C : Addr} (O : OvnC K C) {f_least_outs : Addr} {fd_least_outs : FuncData} (C_least_outs : Cal P w K mg base 2 "least_outs" f_least_outs fd_least_outs ["batch"] (spF K F_least_outs)) {f_Oven___init__ : Addr} {fd_Oven___init__ : FuncData} (M_Oven___init__ : MetC P w K mg base 4 C "__init__" f_Oven___init__ fd_Oven___init__ ["self", "batch"] (spInit K C F_is_batch)) {f_Oven_take : Addr} {fd_Oven_take : FuncData} (M_Oven_take : MetC P w K mg base 2 C "take" f_Oven_take fd_Oven_take ["self"] (spO K F_Oven_take)) {f_Oven_can_still : Addr} {fd_Oven_can_still : FuncData} (M_Oven_can_still : MetC P w K mg base 2 C "can_still" f_Oven_can_still fd_Oven_can_still ["self"] (spO K F_Oven_can_still)) {f_Oven_tick : Addr} {fd_Oven_tick : FuncData} (M_Oven_tick : MetC P w K mg base 1 C "tick" f_Oven_tick fd_Oven_tick ["self"] (spO K F_Oven_tick)) {f_Oven_wait : Addr} {fd_Oven_wait : FuncData} (M_Oven_wait : MetC P w K mg base 2 C "wait" f_Oven_wait fd_Oven_wait ["self", "ticks"] (spO K F_Oven_wait)) {f_Oven___len__ : Addr} {fd_Oven___len__ : FuncData} (M_Oven___len__ : MetC P w K mg base 3 C "__len__" f_Oven___len__ fd_Oven___len__ ["self"] (spO K F_Oven___len__)) {f_Oven_out : Addr} {fd_Oven_out : FuncData} (M_Oven_out : MetC P w K mg base 1 C "out" f_Oven_out fd_Oven_out ["self"] (spO K F_Oven_out)) {f : Addr} {cdv : Value} {A : Around} {outer : List Env} {s : Shared} {H : Hp} {E : XK} (hr : Room 5 (A.deeper (PyProof.Rows.envOfC "_law_baked_right" (defScope s__law_baked_right) s.heap.objs.size f cdv))) : OkSs (cxOf CX0 P w K mg base N__law_baked_right "_law_baked_right" (defScope s__law_baked_right) f cdv A outer s H E).nox ((defBody s__law_baked_right).drop 1) b1__law_baked_right :=
  have Sc := sc__law_baked_right
  okSs_cons (okS_if (okT_cmp opIs okIs (ok_name 2) (ok_non) (nomark _)) (okSs_one (okS_ret (ok_cmp opIs okIs (ok_meth0 O M_Oven_can_still (hr.mono (by decide)) (pv 1)) (ok_bl) (nomark _)))) (okSs_nil)) (okSs_cons (okS_set 5 Sc.nd rfl (Or.inl rfl) (ok_callB (cr_sortD (hu65 hr)) okSort rfl T.b_sorted (by decide +kernel) (okA_cons (ok_lc (own := [("place", 3), ("out", 4)]) rfl Sc.nd (okI_enum rfl T.b_enumerate (okA_cons (ok_name 2) (okA_nil))) (blkOk_by (own := [("place", 3), ("out", 4)]) (N := N__law_baked_right) (sc := defScope s__law_baked_right) (by decide +kernel)) (fun _ _ _ _ _ => okG_tup rfl (okGs_cons (okG_name 3 Sc.nd rfl (Or.inl rfl)) (okGs_cons (okG_name 4 Sc.nd rfl (Or.inl rfl)) (okGs_nil)))) (fun _ _ _ _ _ => okTs_nil) (fun _ _ _ _ _ => ok_tup (okA_cons (ok_name 4) (okA_cons (ok_bin op_sub okSub (ok_int) (ok_name 3)) (okA_nil))))) (okA_nil)))) (okSs_cons (okS_fa [2, 3, 4, 6, 7, 8, 9] (okS_for PassesOwn.never rfl (okI_seq (ok_name 5)) (okG_tup rfl (okGs_cons (okG_name 4 Sc.nd rfl (Or.inl rfl)) (okGs_cons (okG_name 6 Sc.nd rfl (Or.inl rfl)) (okGs_nil)))) (okSs_fg [4, 6, 7, 8, 9] (okSs_cons (okS_if (okT_cmp op_lt okLt (ok_meth0 O M_Oven_tick (hr.mono (by decide)) (pv 1)) (ok_name 4) (nomark _)) (okSs_one (okS_expr (ok_meth O M_Oven_wait (hr.mono (by decide)) (pv 1) (okA_cons (ok_bin op_sub okSub (ok_name 4) (ok_meth0 O M_Oven_tick (hr.mono (by decide)) (pv 1))) (okA_nil))))) (okSs_nil)) (okSs_cons (okS_asg (ok_meth0 O M_Oven_take (hr.mono (by decide)) (pv 1)) (okG_tup rfl (okGs_cons (okG_name 7 Sc.nd rfl (Or.inl rfl)) (okGs_cons (okG_name 8 Sc.nd rfl (Or.inl rfl)) (okGs_cons (okG_name 9 Sc.nd rfl (Or.inl rfl)) (okGs_nil)))))) (okSs_one (okS_if (okT_w (okW_or (okT_cmp (op_neD hr.units) okNe (ok_name 7) (ok_ix (ok_ix (ok_name 0) (ok_bin op_sub okSub (ok_int) (ok_name 6))) (ok_int)) (nomark _)) (okW_or (okT_cmp opIsn okIsn (ok_name 9) (ok_bl) (nomark _)) (okW_or1 (okT_cmp opIsn okIsn (ok_meth0 O M_Oven_can_still (hr.mono (by decide)) (pv 1)) (ok_bl) (nomark _)))))) (okSs_one (okS_ret (ok_bl))) (okSs_nil)))))))) (okSs_one (okS_ret (ok_and (ok_cmp (op_eqD hr.units) okEq (ok_lenO O M_Oven___len__ (hr.mono (by decide)) (pv 1) rfl T.b_len) (ok_int) (nomark _)) (ok_one (ok_cmp (op_eqD hr.units) okEq (ok_callB call_len okLen rfl T.b_len (by decide +kernel) (okA_cons (ok_meth0 O M_Oven_out (hr.mono (by decide)) (pv 1)) (okA_nil))) (ok_callB call_len okLen rfl T.b_len (by decide +kernel) (okA_cons (ok_name 0) (okA_nil))) (nomark _))))))))
theorem ok__law_baked_right (T : Txt mg) {C : Addr} (O : OvnC K C) {f_least_outs : Addr} {fd_least_outs : FuncData} (C_least_outs : Cal P w K mg base 2 "least_outs" f_least_outs fd_least_outs ["batch"] (spF K F_least_outs)) {f_Oven___init__ : Addr} {fd_Oven___init__ : FuncData} (M_Oven___init__ : MetC P w K mg base 4 C "__init__" f_Oven___init__ fd_Oven___init__ ["self", "batch"] (spInit K C F_is_batch)) {f_Oven_take : Addr} {fd_Oven_take : FuncData} (M_Oven_take : MetC P w K mg base 2 C "take" f_Oven_take fd_Oven_take ["self"] (spO K F_Oven_take)) {f_Oven_can_still : Addr} {fd_Oven_can_still : FuncData} (M_Oven_can_still : MetC P w K mg base 2 C "can_still" f_Oven_can_still fd_Oven_can_still ["self"] (spO K F_Oven_can_still)) {f_Oven_tick : Addr} {fd_Oven_tick : FuncData} (M_Oven_tick : MetC P w K mg base 1 C "tick" f_Oven_tick fd_Oven_tick ["self"] (spO K F_Oven_tick)) {f_Oven_wait : Addr} {fd_Oven_wait : FuncData} (M_Oven_wait : MetC P w K mg base 2 C "wait" f_Oven_wait fd_Oven_wait ["self", "ticks"] (spO K F_Oven_wait)) {f_Oven___len__ : Addr} {fd_Oven___len__ : FuncData} (M_Oven___len__ : MetC P w K mg base 3 C "__len__" f_Oven___len__ fd_Oven___len__ ["self"] (spO K F_Oven___len__)) {f_Oven_out : Addr} {fd_Oven_out : FuncData} (M_Oven_out : MetC P w K mg base 1 C "out" f_Oven_out fd_Oven_out ["self"] (spO K F_Oven_out)) (MK : Mk K C f_Oven___init__) (gO : mg "Oven" = some (.ref C)) {f : Addr} {fd : FuncData} (F : Fun K "_law_baked_right" "_law_baked_right" s__law_baked_right f fd) : FnOk P w K mg base CX0 6 f fd ["batch"] (spF K F__law_baked_right) := by
  have Sc := sc__law_baked_right
  refine F.ok Sc (fun vs H Q E h => fnM_len h) (fun cdv A outer s H vs Q E hr h => ⟨_, pss_cons (ps_par (i := 1) (j := 2) rfl Sc.nd rfl rfl (by decide) rfl rfl (pa_cons (pe_make MK M_Oven___init__.c (hr.mono (by decide)) rfl gO M_Oven___init__.b .nil pass0 (pa_cons (pv 0) pa_nil)) (pa_cons (ok_call C_least_outs.c (hr.mono (by decide)) rfl C_least_outs.g C_least_outs.k C_least_outs.b (okA_cons (ok_name 0) okA_nil)) pa_nil)) (by rfl)) (okq__law_baked_right T O C_least_outs M_Oven___init__ M_Oven_take M_Oven_can_still M_Oven_tick M_Oven_wait M_Oven___len__ M_Oven_out hr), ?_⟩)
  exact mk1_fn O (by decide) h rfl rfl
abbrev s__law_kind : Stmt := topS 31
abbrev N__law_kind : List Str := ["e", "some", "words", "word", "is_it"]
theorem sc__law_kind : FnScope N__law_kind ["e"] (defScope s__law_kind) := ⟨rfl, rfl, rfl, by decide +kernel, rfl, by decide +kernel, by decide +kernel⟩
/-- what isinstance answers for an error of the class D -/
structure KiF (K : PySem.W.Frag) (c : EkC) (CN D : Addr) (b0 b1 b2 b3 b4 : Bool) : Prop where
  kx : KxC K D
  k0 : PySem.W.kitOne K (.ref D) (.ref c.e) = some b0
  k1 : PySem.W.kitOne K (.ref D) (.ref CN) = some b1
  k2 : PySem.W.kitOne K (.ref D) (.ref c.l) = some b2
  k3 : PySem.W.kitOne K (.ref D) (.ref c.t) = some b3
  k4 : PySem.W.kitOne K (.ref D) (.ref c.r) = some b4
/-- the classes' names -/
structure EkG (mg : Str → Option Value) (c : EkC) (CN : Addr) : Prop where
  e : mg "Empty" = some (.ref c.e)
  n : mg "NoBatch" = some (.ref CN)
  l : mg "NothingLeft" = some (.ref c.l)
  t : mg "NoTicks" = some (.ref c.t)
  r : mg "Raw" = some (.ref c.r)
noncomputable def eXn (a : Addr) : Option (Addr × Str) → EF
  | none => fun _ => none
  | some z => eXnm 0 (exnD a z.1 z.2) z.2
theorem ok_nothing {X : Cx} {e : Expr} : OkE X e (fun _ => none) := ⟨fun pins s σ H Q I ⟨t, S, ρ, r, ρ', R, e, k⟩ => by cases e⟩
noncomputable def b_kind (a : Addr) (zz : Option (Addr × Str)) (b0 b1 b2 b3 b4 : Bool) : SF :=
  sSeq (sAsg (eLst (aCons (eIsx 0 (exD a zz) b0) (aCons (eIsx 0 (exD a zz) b1) (aCons (eIsx 0 (exD a zz) b2) (aCons (eIsx 0 (exD a zz) b3) aNil))))) (gNm 1))
  (sSeq (sAsg (eLst (aCons (eC (.str "Empty")) (aCons (eC (.str "NoBatch")) (aCons (eC (.str "NothingLeft")) (aCons (eC (.str "NoTicks")) (aCons (eC (.str "Raw")) aNil)))))) (gNm 2))
  (sSeq (sAsg (eJoin1 (eLc (iZipE (aCons (eVar 2) (aCons (eBin addD (eVar 1) (eLst (aCons (eIsx 0 (exD a zz) b4) aNil))) aNil))) (gTup 2 (gCons (gNm 3) (gCons (gNm 4) gNil))) (tE (eVar 4)) (eVar 3) [3, 4])) (gNm 3))
  (sRet (eIfF (tE (eIsx 0 (exD a zz) b4)) (eTup (aCons (eVar 3) (aCons (eXn a zz) aNil))) (eVar 3)))))
theorem kind_ok (T : Txt mg) {c : EkC} {CN D : Addr} {b0 b1 b2 b3 b4 : Bool} {zz : Option (Addr × Str)} {a : Addr} {oe : Obj} {f : Addr} {cdv : Value} {A : Around} {outer : List Env} {s : Shared} {H : Hp} (G : EkG mg c CN) (KF : KiF K c CN D b0 b1 b2 b3 b4) (hno : PySem.W.findIn K (.ref D) "name" = some none)
    (hz : L2N.Zn (.ref D) (zz.map (·.1)) oe) (hf : ∃ vs, oe.data = .fields vs) (hot : L2H.Hot1 (A.deeper (PyProof.Rows.envOfC "_law_kind" (defScope s__law_kind) s.heap.objs.size f cdv)) (a, oe)) :
    PSs (L2H.cxH CX0 P w K mg base N__law_kind "_law_kind" (defScope s__law_kind) f cdv A outer s H E0 (a, oe)) (defBody s__law_kind) (rdS K (b_kind a zz b0 b1 b2 b3 b4)) := by
  have Sc := sc__law_kind
  have HC : L2H.HotC (L2H.cxH CX0 P w K mg base N__law_kind "_law_kind" (defScope s__law_kind) f cdv A outer s H E0 (a, oe)) := ⟨(a, oe), hot, List.mem_singleton.mpr rfl⟩
  have hp : (a, oe) ∈ (L2H.cxH CX0 P w K mg base N__law_kind "_law_kind" (defScope s__law_kind) f cdv A outer s H E0 (a, oe)).pn := List.mem_singleton.mpr rfl
  have nm : ∀ p1 p2 : Pos, OkE (L2H.cxH CX0 P w K mg base N__law_kind "_law_kind" (defScope s__law_kind) f cdv A outer s H E0 (a, oe)) (.Attribute (.Name "e" p1) "name" p2) (eXn a zz) := fun p1 p2 => by
    cases zz with
    | none => exact ok_nothing
    | some z => exact ok_xnm hp hz.zc hf KF.kx hno (pv 0)
  exact okSs_cons (okS_set 1 Sc.nd rfl (Or.inl rfl) (ok_lst (okA_cons (ok_isx hp hz.zc hf KF.kx KF.k0 (pv 0) rfl T.b_isinstance rfl G.e) (okA_cons (ok_isx hp hz.zc hf KF.kx KF.k1 (pv 0) rfl T.b_isinstance rfl G.n) (okA_cons (ok_isx hp hz.zc hf KF.kx KF.k2 (pv 0) rfl T.b_isinstance rfl G.l) (okA_cons (ok_isx hp hz.zc hf KF.kx KF.k3 (pv 0) rfl T.b_isinstance rfl G.t) okA_nil))))))
    (okSs_cons (okS_set 2 Sc.nd rfl (Or.inl rfl) (ok_lst (okA_cons ok_str (okA_cons ok_str (okA_cons ok_str (okA_cons ok_str (okA_cons ok_str okA_nil)))))))
    (okSs_cons (okS_set 3 Sc.nd rfl (Or.inl rfl) (ok_join1 (by decide +kernel) (ok_lcHot (own := [("word", 3), ("is_it", 4)]) HC Sc.nd (okI_zipHot rfl T.b_zip (okA_cons (ok_name 2) (okA_cons (ok_bin opAdd okAdd (ok_name 1) (ok_lst (okA_cons (ok_isx hp hz.zc hf KF.kx KF.k4 (pv 0) rfl T.b_isinstance rfl G.r) okA_nil))) okA_nil))) (blkOk_by (own := [("word", 3), ("is_it", 4)]) (N := N__law_kind) (sc := defScope s__law_kind) (by decide +kernel))
      (fun _ _ _ _ _ => okG_tupHot HC (okGs_cons (okG_name 3 Sc.nd rfl (Or.inl rfl)) (okGs_cons (okG_name 4 Sc.nd rfl (Or.inl rfl)) okGs_nil))) (fun _ _ _ _ _ => okTs_one (okT_val (ok_name 4))) (fun _ _ _ _ _ => ok_name 3))))
    (okSs_one (okS_ret (ok_if (okT_val (ok_isx hp hz.zc hf KF.kx KF.k4 (pv 0) rfl T.b_isinstance rfl G.r)) (ok_tup (okA_cons (ok_name 3) (okA_cons (nm _ _) okA_nil))) (ok_name 3))))))
/-- what the error is, as data -/
def zzOf (d : Addr) : Ek → Option (Addr × Str)
  | .raw z => some (d, z)
  | _ => none
def kb : Ek → Nat → Bool
  | .empty, 0 => true
  | .left, 2 => true
  | .tick, 3 => true
  | .raw _, 4 => true
  | _, _ => false
theorem tx1 : ("NoTicks" : Str).length ≤ 1000 := by decide +kernel
theorem tx2 : ("Empty" : Str).length ≤ 1000 := by decide +kernel
theorem tx3 : ("NothingLeft" : Str).length ≤ 1000 := by decide +kernel
theorem tx4 : ("Raw" : Str).length ≤ 1000 := by decide +kernel
theorem kind_run (a d : Addr) (k : Ek) : ∃ ρ, b_kind a (zzOf d k) (kb k 0) (kb k 1) (kb k 2) (kb k 3) (kb k 4) [.da (exD a (zzOf d k)), .no, .no, .no, .no] = some (.rt (.da (kindD k)) ρ) := by
  cases k <;> exact ⟨_, by (simp [b_kind, zzOf, kb, exD, eIsx, eXn, eXnm, kindD, eJoin1, iZipE, frR, zipD, lcL_cons, setS, tx1, tx2, tx3, tx4, tE]; rfl)⟩

abbrev s_Oven_back : Stmt := inClass (topS 22) 6
abbrev N_Oven_back : List Str := ["self"]
theorem sc_Oven_back : FnScope N_Oven_back ["self"] (defScope s_Oven_back) := ⟨rfl, rfl, rfl, by decide +kernel, rfl, by decide +kernel, by decide +kernel⟩
def b_Oven_back : SF := sSeq (sIf (tE (eBin eqD (eStN 0) (eC (.int 1)))) (sNever) (sNil)) (sDrop (eStPop 0))
def F_Oven_back : PyData → List PyData → List PyData → Option (Rv × List PyData) := fnO 1 1 b_Oven_back
theorem ok_Oven_back (T : Txt mg) {C : Addr} (O : OvnC K C)  {f : Addr} {fd : FuncData} (F : Fun K "back" "Oven.back" s_Oven_back f fd) : FnOk P w K mg base CX0 1 f fd ["self"] (spO K F_Oven_back) :=
  have Sc := sc_Oven_back
  fnO_ok (k := 0) F sc_Oven_back fun cdv A outer s H E hr => okSs_cons (okS_if (okT_cmp (op_eqD hr.units) okEq (ok_stN O (pv 0) rfl T.b_len) (ok_int) (nomark _)) (okSs_one (okS_never)) (okSs_nil)) (okSs_one (okS_expr (ok_stPop O (pv 0))))
abbrev s__law_did : Stmt := topS 32
abbrev N__law_did : List Str := ["oven", "deed", "e"]
theorem sc__law_did : FnScope N__law_did ["oven", "deed"] (defScope s__law_did) := ⟨rfl, rfl, rfl, by decide +kernel, rfl, by decide +kernel, by decide +kernel⟩
def w_t : TF := tNotF (tE (eCall F_is_from (aCons (eVar 1) (aCons (eC (.int 1)) (aCons (eC (.int 100)) aNil)))))
def G_wait (b : PyData) (st ds : List PyData) : Option (Ek × List PyData) := ol (startO 2 4 b st ds) fun ρ => ob (w_t ρ) fun k ρ1 => if k = true then ol (stOf ρ1) fun st' => some (.tick, st') else none
def k_t : TF := tE (eBin eqD (eStN 0) (eC (.int 1)))
def G_back (b : PyData) (st ds : List PyData) : Option (Ek × List PyData) := ol (startO 1 1 b st ds) fun ρ => ob (k_t ρ) fun k ρ1 => if k = true then ol (stOf ρ1) fun st' => some (.left, st') else none
def t_1 : SF := sAsg (eLast 0) (gTup 2 (gCons (gNm 1) (gCons (gNm 2) (gNil))))
def t_2 : SF := sAsg (eMeth 0 F_Oven_places_within aNil) (gNm 3)
def t_3 : TF := tNotF (tLst (eVar 3))
def t_4 : SF := sAsg (eBin ixR (eBat 0) (eBin ixR (eVar 3) (eC (.int 0)))) (gTup 4 (gCons (gNm 4) (gCons (gNm 5) (gCons (gNm 6) (gCons (gNm 7) (gNil))))))
def t_5 : TF := tE (eBin ltD (eBin subD (eVar 1) (eVar 5)) (eVar 6))
def G_take1 (b : PyData) (st ds : List PyData) : Option (Ek × List PyData) := ol (startO 1 9 b st ds) fun ρ => ol (t_1 ρ) fun o1 => ol (nxO o1) fun ρ1 => ol (t_2 ρ1) fun o2 => ol (nxO o2) fun ρ2 => ob (t_3 ρ2) fun k ρ3 => if k = true then ol (stOf ρ3) fun st' => some (.empty, st') else none
def G_take2 (b : PyData) (st ds : List PyData) : Option (Ek × List PyData) := ol (startO 1 9 b st ds) fun ρ => ol (t_1 ρ) fun o1 => ol (nxO o1) fun ρ1 => ol (t_2 ρ1) fun o2 => ol (nxO o2) fun ρ2 => ob (t_3 ρ2) fun k ρ3 => if k = true then none else
  ol (t_4 ρ3) fun o4 => ol (nxO o4) fun ρ4 => ob (t_5 ρ4) fun k ρ5 => if k = true then ol ρ5[4]? fun s => ol s.daD fun d => ol (strD d) fun z => ol (stOf ρ5) fun st' => some (.raw z, st') else none
def alt (x : Option (Rv × List PyData)) (y : Option (Ek × List PyData)) : Option (Rv × List PyData) := match x with
  | some r => some r
  | none => match y with
    | some (k, st') => some (.da (kindD k), st')
    | none => none
def altE (x y : Option (Ek × List PyData)) : Option (Ek × List PyData) := match x with
  | some r => some r
  | none => y
def F__law_did (b : PyData) (st ds : List PyData) : Option (Rv × List PyData) := match ds with
  | [.tuple [.str z, d]] => if z = "wait" then alt (F_Oven_wait b st [d]) (G_wait b st [d]) else none
  | [.tuple [.str z]] => if z = "take" then alt (F_Oven_take b st []) (altE (G_take1 b st []) (G_take2 b st [])) else if z = "back" then alt (F_Oven_back b st []) (G_back b st []) else none
  | _ => none

theorem startO_at {n N : Nat} {b : PyData} {st ds : List PyData} {ρ : En} (h : startO n N b st ds = some ρ) : ds.length + 1 = n ∧ ρ = .ob b st :: ds.map Sl.da ++ List.replicate (N - n) .no := by
  unfold startO at h
  split at h
  · rename_i hl
    cases h
    exact ⟨hl, rfl⟩
  · cases h
theorem ok_waitX (T : Txt mg) {C : Addr} (O : OvnC K C) {c : EkC} (EK : TxtE K mg "NoTicks" c.t) {f_is_from : Addr} {fd_is_from : FuncData} (C_is_from : Cal P w K mg base 1 "is_from" f_is_from fd_is_from ["thing", "low", "high"] (spF K F_is_from)) {f : Addr} {fd : FuncData}
    (F : Fun K "wait" "Oven.wait" s_Oven_wait f fd) : FnOk P w K mg base (L2N.CX P w) 2 f fd ["self", "ticks"] (spE K c G_wait) := by
  have Sc := sc_Oven_wait
  refine okN F sc_Oven_wait (fun vs H Q E h => ?_) (fun cdv A outer s H vs Q E hr h => ⟨_, pss_cons (ps_if (okT_not (okT_val (ok_call C_is_from.c (hr.mono (by decide)) rfl C_is_from.g C_is_from.k C_is_from.b (okA_cons (ok_name 1) (okA_cons (ok_int) (okA_cons (ok_int) (okA_nil)))))))
    (pss_one (L2N.ps_raise rfl (L2N.takes_of rfl rfl rfl rfl) (L2N.pmk_own PySem.F.excBase_ValueError EK.x EK.g EK.k (raises_own EK.b EK.t) rfl))) pss_nil) pss_nev, ?_⟩)
  · obtain ⟨S, C, p, dx, l, vb, mv, ws, b, st, ds, r, st', hC, sh, rfl, hp, hl, hS, hb, hm, h1, h2, q⟩ := h
    obtain ⟨ρ, e, h2⟩ := ol_some h2
    rw [List.length_cons, h1.length]
    exact (startO_at e).1
  · obtain ⟨S, C, p, dx, l, vb, mv, ws, b, st, ds, r, st', hC, sh, rfl, hp, hl, hS, hb, hm, h1, h2, q⟩ := h
    obtain ⟨ρ, e, h2⟩ := ol_some h2
    obtain ⟨k, ρ1, e1, h2⟩ := ob_some h2
    split at h2
    · rename_i hk
      subst hk
      obtain ⟨st2, e2, h2⟩ := ol_some h2
      cases h2
      obtain ⟨hn, rfl⟩ := startO_at e
      have R := startO_rep 2 hC sh hp hl hS hb hm h1
      have es : L2.start N_Oven_wait (V.ref p :: ws) = (V.ref p :: ws).map some ++ List.replicate 2 none := by
        unfold L2.start
        rw [show (V.ref p :: ws).length = ds.length + 1 from by rw [List.length_cons, h1.length], hn]
        rfl
      rw [es]
      refine ⟨_, S, _, _, _, R, e1, fun H1 S1 R1 s1 => ?_⟩
      obtain ⟨mv', f1, f2, f3, f4, f5⟩ := endO_facts R1 e2
      exact q H1 S1 mv' s1 f1 f2 f3 f4 f5
    · cases h2
theorem ok_backX (T : Txt mg) {C : Addr} (O : OvnC K C) {c : EkC} (EK : TxtE K mg "NothingLeft" c.l) {f : Addr} {fd : FuncData}
    (F : Fun K "back" "Oven.back" s_Oven_back f fd) : FnOk P w K mg base (L2N.CX P w) 1 f fd ["self"] (spE K c G_back) := by
  have Sc := sc_Oven_back
  refine okN F sc_Oven_back (fun vs H Q E h => ?_) (fun cdv A outer s H vs Q E hr h => ⟨_, pss_cons (ps_if (okT_cmp (op_eqD hr.units) okEq (ok_stN O (pv 0) rfl T.b_len) (ok_int) (nomark _))
    (pss_one (L2N.ps_raise rfl (L2N.takes_of rfl rfl rfl rfl) (L2N.pmk_own PySem.F.excBase_ValueError EK.x EK.g EK.k (raises_own EK.b EK.t) rfl))) pss_nil) pss_nev, ?_⟩)
  · obtain ⟨S, C, p, dx, l, vb, mv, ws, b, st, ds, r, st', hC, sh, rfl, hp, hl, hS, hb, hm, h1, h2, q⟩ := h
    obtain ⟨ρ, e, h2⟩ := ol_some h2
    rw [List.length_cons, h1.length]
    exact (startO_at e).1
  · obtain ⟨S, C, p, dx, l, vb, mv, ws, b, st, ds, r, st', hC, sh, rfl, hp, hl, hS, hb, hm, h1, h2, q⟩ := h
    obtain ⟨ρ, e, h2⟩ := ol_some h2
    obtain ⟨k, ρ1, e1, h2⟩ := ob_some h2
    split at h2
    · rename_i hk
      subst hk
      obtain ⟨st2, e2, h2⟩ := ol_some h2
      cases h2
      obtain ⟨hn, rfl⟩ := startO_at e
      have R := startO_rep 0 hC sh hp hl hS hb hm h1
      have es : L2.start N_Oven_back (V.ref p :: ws) = (V.ref p :: ws).map some ++ List.replicate 0 none := by
        unfold L2.start
        rw [show (V.ref p :: ws).length = ds.length + 1 from by rw [List.length_cons, h1.length], hn]
        rfl
      rw [es]
      refine ⟨_, S, _, _, _, R, e1, fun H1 S1 R1 s1 => ?_⟩
      obtain ⟨mv', f1, f2, f3, f4, f5⟩ := endO_facts R1 e2
      exact q H1 S1 mv' s1 f1 f2 f3 f4 f5
    · cases h2
theorem ok_take1X (T : Txt mg) {C : Addr} (O : OvnC K C) {c : EkC} (EK : TxtE K mg "Empty" c.e) {f_p : Addr} {fd_p : FuncData} (M_p : MetC P w K mg base 1 C "places_within" f_p fd_p ["self"] (spO K F_Oven_places_within)) {f : Addr} {fd : FuncData}
    (F : Fun K "take" "Oven.take" s_Oven_take f fd) : FnOk P w K mg base (L2N.CX P w) 2 f fd ["self"] (spE K c G_take1) := by
  have Sc := sc_Oven_take
  refine okN F sc_Oven_take (fun vs H Q E h => ?_) (fun cdv A outer s H vs Q E hr h => ⟨_, pss_cons (okS_asg (ok_last O (pv 0)) (okG_tup rfl (okGs_cons (okG_name 1 Sc.nd rfl (Or.inl rfl)) (okGs_cons (okG_name 2 Sc.nd rfl (Or.inl rfl)) (okGs_nil)))))
    (pss_cons (okS_set 3 Sc.nd rfl (Or.inl rfl) (ok_meth0 O M_p (hr.mono (by decide)) (pv 0))) (pss_cons (ps_if (okT_not (okT_lst (ok_name 3)))
    (pss_one (L2N.ps_raise rfl (L2N.takes_of rfl rfl rfl rfl) (L2N.pmk_own PySem.F.excBase_ValueError EK.x EK.g EK.k (raises_own EK.b EK.t) rfl))) pss_nil) pss_nev)), ?_⟩)
  · obtain ⟨S, C, p, dx, l, vb, mv, ws, b, st, ds, r, st', hC, sh, rfl, hp, hl, hS, hb, hm, h1, h2, q⟩ := h
    obtain ⟨ρ, e, h2⟩ := ol_some h2
    rw [List.length_cons, h1.length]
    exact (startO_at e).1
  · obtain ⟨S, C, p, dx, l, vb, mv, ws, b, st, ds, r, st', hC, sh, rfl, hp, hl, hS, hb, hm, h1, h2, q⟩ := h
    obtain ⟨ρ, e, k0⟩ := ol_some h2
    obtain ⟨o1, e1, k1⟩ := ol_some k0
    obtain ⟨ρ1, n1, k2⟩ := ol_some k1
    obtain rfl := nxO_some n1
    obtain ⟨o2, e2, k3⟩ := ol_some k2
    obtain ⟨ρ2, n2, k4⟩ := ol_some k3
    obtain rfl := nxO_some n2
    obtain ⟨k, ρ3, e3, k5⟩ := ob_some k4
    split at k5
    · rename_i hk
      subst hk
      obtain ⟨st2, e4, k6⟩ := ol_some k5
      cases k6
      obtain ⟨hn, rfl⟩ := startO_at e
      have R := startO_rep 8 hC sh hp hl hS hb hm h1
      have es : L2.start N_Oven_take (V.ref p :: ws) = (V.ref p :: ws).map some ++ List.replicate 8 none := by
        unfold L2.start
        rw [show (V.ref p :: ws).length = ds.length + 1 from by rw [List.length_cons, h1.length], hn]
        rfl
      rw [es]
      refine ⟨_, S, _, _, R, e1, fun σ1 H1 S1 R1 s1 _ => ⟨_, S1, _, _, R1, e2, fun σ2 H2 S2 R2 s2 _ => ⟨_, S2, _, _, _, R2, e3, fun H3 S3 R3 s3 => ?_⟩⟩⟩
      obtain ⟨mv', f1, f2, f3, f4, f5⟩ := endO_facts R3 e4
      exact q H3 S3 mv' ((s1.trans s2).trans s3) f1 f2 f3 f4 f5
    · cases k5
theorem ok_take2X (T : Txt mg) {C : Addr} (O : OvnC K C) {c : EkC} {C0 fI : Addr} (TE : ErrC K mg "OvenError" "Raw" "name" C0 c.r fI) {fd1 : FuncData} (F1 : FnOk P w K mg base CX0 1 fI fd1 ["self", "name"] (spNI K c.r "name")) (hb1 : Binds K fd1 ["self", "name"] [])
    {f_p : Addr} {fd_p : FuncData} (M_p : MetC P w K mg base 1 C "places_within" f_p fd_p ["self"] (spO K F_Oven_places_within)) {f : Addr} {fd : FuncData}
    (F : Fun K "take" "Oven.take" s_Oven_take f fd) : FnOk P w K mg base (L2N.CX P w) 3 f fd ["self"] (spE K c G_take2) := by
  have Sc := sc_Oven_take
  refine okN F sc_Oven_take (fun vs H Q E h => ?_) (fun cdv A outer s H vs Q E hr h => ⟨_, pss_cons (okS_asg (ok_last O (pv 0)) (okG_tup rfl (okGs_cons (okG_name 1 Sc.nd rfl (Or.inl rfl)) (okGs_cons (okG_name 2 Sc.nd rfl (Or.inl rfl)) (okGs_nil)))))
    (pss_cons (okS_set 3 Sc.nd rfl (Or.inl rfl) (ok_meth0 O M_p (hr.mono (by decide)) (pv 0))) (pss_cons (okS_if (okT_not (okT_lst (ok_name 3))) (okSs_one okS_never) (okSs_nil))
    (pss_cons (okS_asg (ok_ix (ok_bat O (pv 0)) (ok_ix (ok_name 3) (ok_int))) (okG_tup rfl (okGs_cons (okG_name 4 Sc.nd rfl (Or.inl rfl)) (okGs_cons (okG_name 5 Sc.nd rfl (Or.inl rfl)) (okGs_cons (okG_name 6 Sc.nd rfl (Or.inl rfl)) (okGs_cons (okG_name 7 Sc.nd rfl (Or.inl rfl)) (okGs_nil)))))))
    (pss_cons (ps_if (okT_cmp op_lt okLt (ok_bin op_sub okSub (ok_name 1) (ok_name 5)) (ok_name 6) (nomark _))
    (pss_one (L2N.ps_raise rfl (L2N.takes_of rfl rfl rfl rfl) (pmk_oexN TE.ox TE.iC TE.tI F1 (hr.mono (by decide)) hb1 pass0 rfl TE.g (pa_cons (pv 4) pa_nil)))) pss_nil) pss_nev)))), ?_⟩)
  · obtain ⟨S, C, p, dx, l, vb, mv, ws, b, st, ds, r, st', hC, sh, rfl, hp, hl, hS, hb, hm, h1, h2, q⟩ := h
    obtain ⟨ρ, e, h2⟩ := ol_some h2
    rw [List.length_cons, h1.length]
    exact (startO_at e).1
  · obtain ⟨S, C, p, dx, l, vb, mv, ws, b, st, ds, r, st', hC, sh, rfl, hp, hl, hS, hb, hm, h1, h2, q⟩ := h
    obtain ⟨ρ, e, k0⟩ := ol_some h2
    obtain ⟨o1, e1, k1⟩ := ol_some k0
    obtain ⟨ρ1, n1, k2⟩ := ol_some k1
    obtain rfl := nxO_some n1
    obtain ⟨o2, e2, k3⟩ := ol_some k2
    obtain ⟨ρ2, n2, k4⟩ := ol_some k3
    obtain rfl := nxO_some n2
    obtain ⟨k, ρ3, e3, k5⟩ := ob_some k4
    split at k5
    · cases k5
    · rename_i hk
      obtain ⟨o4, e4, k6⟩ := ol_some k5
      obtain ⟨ρ4, n4, k7⟩ := ol_some k6
      obtain rfl := nxO_some n4
      obtain ⟨kk, ρ5, e5, k8⟩ := ob_some k7
      split at k8
      · rename_i hk5
        subst hk5
        obtain ⟨s, g1, k9⟩ := ol_some k8
        obtain ⟨d, g2, k10⟩ := ol_some k9
        obtain ⟨z, g3, k11⟩ := ol_some k10
        obtain ⟨st2, g4, k12⟩ := ol_some k11
        cases k12
        cases daD_some g2
        cases strD_some g3
        obtain ⟨hn, rfl⟩ := startO_at e
        have R := startO_rep 8 hC sh hp hl hS hb hm h1
        have es : L2.start N_Oven_take (V.ref p :: ws) = (V.ref p :: ws).map some ++ List.replicate 8 none := by
          unfold L2.start
          rw [show (V.ref p :: ws).length = ds.length + 1 from by rw [List.length_cons, h1.length], hn]
          rfl
        rw [es]
        have e3' : sIf (tNotF (tLst (eVar 3))) sNever sNil ρ2 = some (.nx ρ3) := by
          rw [x_sIf]
          have e3' : tNotF (tLst (eVar 3)) ρ2 = some (k, ρ3) := e3
          rw [e3', ob_mk, if_neg hk]
          rfl
        refine ⟨_, S, _, _, R, e1, fun σ1 H1 S1 R1 s1 _ => ⟨_, S1, _, _, R1, e2, fun σ2 H2 S2 R2 s2 _ => ⟨_, S2, _, _, R2, e3', fun σ3 H3 S3 R3 s3 _ => ⟨_, S3, _, _, R3, e4, fun σ4 H4 S4 R4 s4 _ => ⟨_, S4, _, _, _, R4, e5, fun H5 S5 R5 s5 => ?_⟩⟩⟩⟩⟩
        obtain ⟨mv', f1, f2, f3, f4, f5⟩ := endO_facts R5 g4
        obtain ⟨v, hv, dv⟩ := R5.dat 4 _ g1
        cases dv
        refine ⟨_, hv, ?_⟩
        exact mkE_in fun d H6 hd h6 s6 => q H5 S5 mv' ((((s1.trans s2).trans s3).trans s4).trans s5) f1 f2 f3 f4 f5 H6 d hd h6 s6
      · cases k8
/-- what the class part knows of the refusals -/
structure EkT (K : PySem.W.Frag) (c : EkC) (CN C0 : Addr) : Prop where
  kf : ∀ k : Ek, KiF K c CN (c.at k) (kb k 0) (kb k 1) (kb k 2) (kb k 3) (kb k 4)
  no : ∀ k : Ek, PySem.W.findIn K (.ref (c.at k)) "name" = some none
  te : ∀ k : Ek, PySem.W.exmOne K (.ref (c.at k)) (.ref C0) = some true
def dC1 : TF := tE (eBin eqD (eBin ixR (eVar 1) (eC (.int 0))) (eC (.str "wait")))
def dC2 : TF := tE (eBin eqD (eBin ixR (eVar 1) (eC (.int 0))) (eC (.str "take")))
theorem alt_some {x : Option (Rv × List PyData)} {y : Option (Ek × List PyData)} {r : Rv} {st' : List PyData} (h : alt x y = some (r, st')) : x = some (r, st') ∨ ∃ k, y = some (k, st') ∧ r = .da (kindD k) := by
  unfold alt at h
  split at h
  · exact .inl h
  · split at h
    · cases h
      exact .inr ⟨_, rfl, rfl⟩
    · cases h
theorem spE_alt {c : EkC} {G1 G2 : PyData → List PyData → List PyData → Option (Ek × List PyData)} : ∀ vs H Q E, spE K c (fun b st ds => altE (G1 b st ds) (G2 b st ds)) vs H Q E → spOr (spE K c G1) (spE K c G2) vs H Q E := fun vs H Q E h => by
  obtain ⟨S, C, p, dx, l, vb, mv, ws, b, st, ds, r, st', hC, sh, e, hp, hl, hS, hb, hm, h1, h2, q⟩ := h
  have h2 : altE (G1 b st ds) (G2 b st ds) = some (r, st') := h2
  unfold altE at h2
  split at h2
  · rename_i e1
    cases h2
    exact .inl ⟨S, C, p, dx, l, vb, mv, ws, b, st, ds, r, st', hC, sh, e, hp, hl, hS, hb, hm, h1, e1, q⟩
  · exact .inr ⟨S, C, p, dx, l, vb, mv, ws, b, st, ds, r, st', hC, sh, e, hp, hl, hS, hb, hm, h1, h2, q⟩
/-- what the suite reads: f(e) -/
def kread (P : Program) (w : World) (K : PySem.W.Frag) (mg : Str → Option Value) (base : Heap) (fk : Addr) (a : Addr) (cls : Value) (d : Option Addr) : TE := fun σ H Q => tCons (tVar 2) tNil σ H fun vs H1 => vs.length = ["e"].length ∧ ∀ oe : Obj, L2N.Zn cls d oe → (∃ vs, oe.data = .fields vs) → ∀ (s : Shared) (cdv : Value) (A : Around) (outer : List Env), L2H.Hot1 (A.deeper (PyProof.Rows.envOfC "_law_kind" (defScope s__law_kind) s.heap.objs.size fk cdv)) (a, oe) → L2H.RoomH 0 (A.deeper (PyProof.Rows.envOfC "_law_kind" (defScope s__law_kind) s.heap.objs.size fk cdv)) →
      ∃ u, PSs (L2H.cxH CX0 P w K mg base N__law_kind "_law_kind" (defScope s__law_kind) fk cdv A outer s H1 E0 (a, oe)) (defBody s__law_kind) u ∧ u { nx := fun _ H' => Q .non H', rt := Q } (L2.start N__law_kind vs) H1
theorem kread_ok (T : Txt mg) {c : EkC} {CN C0 : Addr} (G : EkG mg c CN) (Y : EkT K c CN C0) {fk a d : Addr} {k : Ek} {σ : L2.St} {S H : Hp} {Q : VK} (sh : Same S H) (hσ : σ[2]? = some (some (.ref a))) (hd : Da K S (.ref a) (exD a (zzOf d k)))
    (q : ∀ v H' S', New S H S' H' → Da K S' v (kindD k) → Q v H') : kread P w K mg base fk a (.ref (c.at k)) ((zzOf d k).map (·.1)) σ H Q := by
  refine ⟨_, hσ, rfl, fun oe hz hf s cdv A outer hot hroom => ⟨_, kind_ok T G (Y.kf k) (Y.no k) hz hf hot, ?_⟩⟩
  obtain ⟨ρ', hrun⟩ := kind_run a d k
  have R := start_rep 4 (DaAll.cons hd .nil) sh
  exact ⟨_, S, _, _, R, hrun, fun v σ' H' S' R' s' o => q v H' S' ⟨s', R'.bh.same fun _ => rfl, R'.sh, R'.sn⟩ o⟩
theorem did_run {c : EkC} {CN C0 fk : Addr} {C p dx l : Addr} {vb : V} (T : Txt mg) (O : OvnC K C) (G : EkG mg c CN) (Y : EkT K c CN C0) {S0 H0 S H : Hp} {σ : L2.St} {ρ : En} {b : PyData} {st st' ds : List PyData} {ws : List V} {r : Rv} {v0 : V} {D : Ends}
    {Fm : PyData → List PyData → List PyData → Option (Rv × List PyData)} {Gm : PyData → List PyData → List PyData → Option (Ek × List PyData)}
    (R : Rep K ⟨H0, S0, none, fun q => if q = p then some (C, dx, vb, l) else none⟩ S H σ ρ) (ss : Same S0 S) (q0 : ρ[0]? = some (.ob b st)) (h2 : 2 < σ.length) (hv : σ[0]? = some (some v0)) (d2 : DaAll K S ws ds) (ha : alt (Fm b st ds) (Gm b st ds) = some (r, st')) (hr : ∀ i, r ≠ .bo i)
    (q : ∀ v H' S' mv', Same S0 S' → Same S' H' → (∀ b, H0 b ≠ none → S0 b = none → S' b = none) → (∀ b o, b ≠ l → H0 b = some o → H' b = some o) → H' l = some (.lst mv') → DaAll K S' mv' st' → RO K H0 S' H' v r → D.rt v H') :
    spOr (spO K Fm) (spE K c Gm) (v0 :: ws) H D.rt (WE (wAs K (.ref C0) 2 (fun a cls d => tRet (kread P w K mg base fk a cls d)) (fun _ _ _ _ => False) D) σ) := by
  have hst : stOf (ρ.set 0 (.ob b st')) = some st' := by
    cases ρ with
    | nil => cases q0
    | cons s ρ => rfl
  rcases alt_some ha with hF | ⟨k, hG, rfl⟩
  · refine .inl (spO_in O R q0 hv d2 hF fun v H' S' R' s' o => ?_)
    cases r with
    | da d => exact endO R' (ss.trans s') hst o q
    | fr fs => exact endO R' (ss.trans s') hst o q
    | bo i => exact absurd rfl (hr i)
  · refine .inr (spE_in O R q0 hv d2 hG fun H' S' R' s' => ?_)
    -- the suite at a heap that has grown by the error's dict, if any
    have fin : ∀ {S1 H1 : Hp} {d : Addr} {a : Addr}, New S' H' S1 H1 → Da K S1 (.ref a) (exD a (zzOf d k)) → kread P w K mg base fk a (.ref (c.at k)) ((zzOf d k).map (·.1)) (σ.set 2 (some (.ref a))) H1 D.rt := fun {S1 H1 d a} N hd => by
      have R1 := R'.new N
      refine kread_ok T G Y R1.sh (List.getElem?_set_self h2) hd fun v H2 S2 N2 o => ?_
      exact endO (r := .da (kindD k)) (R1.new N2) (((ss.trans s').trans N.ss).trans N2.ss) hst o q
    cases k with
    | tick => exact ⟨true, Y.te .tick, fun _ a _ => fin (d := 0) (New.refl R'.sh) (.adr a), fun z => nomatch z⟩
    | empty => exact ⟨true, Y.te .empty, fun _ a _ => fin (d := 0) (New.refl R'.sh) (.adr a), fun z => nomatch z⟩
    | left => exact ⟨true, Y.te .left, fun _ a _ => fin (d := 0) (New.refl R'.sh) (.adr a), fun z => nomatch z⟩
    | raw z =>
      intro H'' d hd hx hs
      refine ⟨true, Y.te (.raw z), fun _ a _ => ?_, fun z => nomatch z⟩
      have hSd : S' d = none := R'.sh.free hd
      refine fin (d := d) (S1 := upd S' d (.xd [("name", .str z)])) ⟨same_put hSd, hs, fun b o e => ?_, fun b h1 h3 => ?_⟩ (.exn upd_same)
      · by_cases hb : b = d
        · subst hb
          rw [upd_same] at e
          cases e
          exact hx
        · rw [upd_ne hb] at e
          exact hs _ _ (R'.sh _ _ e)
      · have hb : b ≠ d := fun z => h1 (by rw [z]; exact hd)
        rw [upd_ne hb]
        exact h3
theorem dC_run {z w0 : Str} {k : Bool} (e : eqD (.str z) (.str w0) = some (.da (.bool k))) (b : PyData) (st : List PyData) (zs : List PyData) : tE (eBin eqD (eBin ixR (eVar 1) (eC (.int 0))) (eC (.str w0))) [.ob b st, .da (.tuple (.str z :: zs)), .no] = some (k, [.ob b st, .da (.tuple (.str z :: zs)), .no]) := by
  simp [tE, e]
theorem tw_ : ¬ (("take" : Str) = "wait") := by decide +kernel
theorem bw_ : ¬ (("back" : Str) = "wait") := by decide +kernel
theorem bt_ : ¬ (("back" : Str) = "take") := by decide +kernel
theorem e_ww : eqD (.str "wait") (.str "wait") = some (.da (.bool true)) := eqD_same (by decide +kernel)
theorem e_tt : eqD (.str "take") (.str "take") = some (.da (.bool true)) := eqD_same (by decide +kernel)
theorem e_tw : eqD (.str "take") (.str "wait") = some (.da (.bool false)) := eqD_diff (by decide +kernel) (by decide +kernel) (fun q => tw_ (by cases q))
theorem e_bw : eqD (.str "back") (.str "wait") = some (.da (.bool false)) := eqD_diff (by decide +kernel) (by decide +kernel) (fun q => bw_ (by cases q))
theorem e_bt : eqD (.str "back") (.str "take") = some (.da (.bool false)) := eqD_diff (by decide +kernel) (by decide +kernel) (fun q => bt_ (by cases q))
theorem ok__law_did (T : Txt mg) {C : Addr} (O : OvnC K C) {c : EkC} {CN C0 : Addr} (G : EkG mg c CN) (Y : EkT K c CN C0) (g0 : mg "OvenError" = some (.ref C0))
    {fk : Addr} {fdk : FuncData} (FK : Fun K "_law_kind" "_law_kind" s__law_kind fk fdk) (gk : mg "_law_kind" = some (.ref fk)) (kk : PySem.W.keepIn K (.ref fk) = true) (bk : Binds K fdk ["e"] [])
    {fw : Addr} {fdw : FuncData} (MW : Meth K C "wait" fw) (FW : FnOk P w K mg base (L2N.CX P w) 3 fw fdw ["self", "ticks"] (spOr (spO K F_Oven_wait) (spE K c G_wait))) (bw : Binds K fdw ["self", "ticks"] [])
    {ft : Addr} {fdt : FuncData} (MT : Meth K C "take" ft) (FT : FnOk P w K mg base (L2N.CX P w) 3 ft fdt ["self"] (spOr (spO K F_Oven_take) (spE K c (fun b st ds => altE (G_take1 b st ds) (G_take2 b st ds))))) (bt : Binds K fdt ["self"] [])
    {fb : Addr} {fdb : FuncData} (MB : Meth K C "back" fb) (FB : FnOk P w K mg base (L2N.CX P w) 3 fb fdb ["self"] (spOr (spO K F_Oven_back) (spE K c G_back))) (bb : Binds K fdb ["self"] [])
    {f : Addr} {fd : FuncData} (F : Fun K "_law_did" "_law_did" s__law_did f fd) : FnOk P w K mg base CX0 4 f fd ["oven", "deed"] (spO K F__law_did) := by
  have Sc := sc__law_did
  refine F.ok Sc (fun vs H Q E h => ?_) (fun cdv A outer s H vs Q E hr h => ⟨_, pss_one (L2N.ps_try_as (i := 2) (tb := fun W => tSeq (tIfS (rdT K (tE (eBin eqD (eBin ixR (eVar 1) (eC (.int 0))) (eC (.str "wait"))))) (tRet (tMethS C "wait" (spOr (spO K F_Oven_wait) (spE K c G_wait)) (WE W) (tVar 0) (rdA K (aCons (eBin ixR (eVar 1) (eC (.int 1))) aNil)))) tNext) (tRet (tIf (rdT K (tE (eBin eqD (eBin ixR (eVar 1) (eC (.int 0))) (eC (.str "take"))))) (tMethS C "take" (spOr (spO K F_Oven_take) (spE K c (fun b st ds => altE (G_take1 b st ds) (G_take2 b st ds)))) (WE W) (tVar 0) tNil) (tMethS C "back" (spOr (spO K F_Oven_back) (spE K c G_back)) (WE W) (tVar 0) tNil)))) (ts := fun a cls d => tRet (kread P w K mg base fk a cls d)) (Wout := fun _ _ _ _ => False) rfl rfl Sc.nd rfl rfl ⟨rfl, by decide, Or.inl g0⟩ takes0N
    (fun W pn xe tk _ => pss_cons (ps_if (okT_cmp (op_eqD hr.units) okEq (ok_ix (ok_name 1) (ok_int)) (ok_str) (nomark _)) (pss_one (ps_ret (pe_methC (pv 0) O.cl MW FW (hr.mono (by decide)) bw (fun σ => L2N.passAt tk σ) (okA_cons (ok_ix (ok_name 1) (ok_int)) okA_nil)))) pss_nil)
      (pss_one (ps_ret (pe_ifExp (okT_cmp (op_eqD hr.units) okEq (ok_ix (ok_name 1) (ok_int)) (ok_str) (nomark _)) (pe_methC0 (pv 0) O.cl MT FT (hr.mono (by decide)) bt (fun σ => L2N.passAt tk σ)) (pe_methC0 (pv 0) O.cl MB FB (hr.mono (by decide)) bb (fun σ => L2N.passAt tk σ))))))
    (fun a oe cls d pn hz hf => pss_one (ps_ret (pe_callPin FK sc__law_kind (hr.mono (by decide)) hz hf rfl gk kk bk (pa_cons (pv 2) pa_nil))))), ?_⟩)
  · obtain ⟨S, C, p, dx, l, vb, mv, ws, b, st, ds, r, st', hC, sh, rfl, hp, hl, hS, hb, hm, h1, h2, q⟩ := h
    rw [List.length_cons, h1.length]
    unfold F__law_did at h2
    split at h2
    · rfl
    · rfl
    · cases h2
  · obtain ⟨S, C', p, dx, l, vb, mv, ws, b, st, ds, r, st', hC, sh, rfl, hp, hl, hS, hb, hm, h1, h2, q⟩ := h
    cases O.ov.eq hC
    have R := startO_rep 1 hC sh hp hl hS hb hm h1
    have es : ds.length = 1 → L2.start N__law_did (V.ref p :: ws) = (V.ref p :: ws).map some ++ List.replicate 1 none := fun hn => by
      unfold L2.start
      rw [show (V.ref p :: ws).length = 2 from by rw [List.length_cons, h1.length, hn]]
      rfl
    have hnb : ∀ {x : Option (Rv × List PyData)} {y : Option (Ek × List PyData)}, (∀ i s, x ≠ some (.bo i, s)) → alt x y = some (r, st') → ∀ i, r ≠ .bo i := fun {x y} hx ha i e => by
      rcases alt_some ha with h | ⟨k, _, h⟩
      · rw [e] at h
        exact hx i st' h
      · rw [e] at h
        cases h
    have nO : ∀ {n N : Nat} {body : SF} {b : PyData} {st ds : List PyData} (i : Nat) (s : List PyData), fnO n N body b st ds ≠ some (.bo i, s) := fun {n N body b st ds} i s e => by
      obtain ⟨ρ, e1, e⟩ := ol_some e
      obtain ⟨o, e2, e⟩ := ol_some e
      unfold outO at e
      split at e
      · obtain ⟨_, _, e⟩ := ol_some e
        cases e
      · obtain ⟨_, _, e⟩ := ol_some e
        cases e
      · obtain ⟨_, _, e⟩ := ol_some e
        cases e
      · cases e
    unfold F__law_did at h2
    split at h2
    · rename_i z d
      split at h2
      · rename_i hz
        subst hz
        rw [es rfl]
        refine ⟨_, S, _, _, _, R, dC_run e_ww _ _ _, fun H1 S1 R1 s1 => iteT ?_⟩
        obtain ⟨p', dx', vb', l', vs', x1, x2, x3, x4, x5, x6, x7⟩ := ov_at (i := 0) O R1 rfl
        refine ⟨_, x2, p', dx', _, rfl, x3, ovF_no _ _ (by decide +kernel) (by decide +kernel), _, S1, _, [.da d], _, R1, rfl, fun us H2 S2 R2 s2 o2 => ?_⟩
        obtain ⟨S3, s3, R3, d3⟩ := R2.stos o2 (ds := [d]) (ρ' := _) rfl
        exact did_run T O G Y R3 ((s1.trans s2).trans s3) rfl (by rw [R3.len]; show 2 < 3; decide) x2 d3 h2 (hnb nO h2) q
      · cases h2
    · rename_i z
      split at h2
      · rename_i hz
        subst hz
        rw [es rfl]
        refine ⟨_, S, _, _, _, R, dC_run e_tw _ _ _, fun H1 S1 R1 s1 => iteF ?_⟩
        refine ⟨_, S1, _, _, _, R1, dC_run e_tt _ _ _, fun H2 S2 R2 s2 => iteT ?_⟩
        obtain ⟨p', dx', vb', l', vs', x1, x2, x3, x4, x5, x6, x7⟩ := ov_at (i := 0) O R2 rfl
        refine ⟨_, x2, p', dx', _, rfl, x3, ovF_no _ _ (by decide +kernel) (by decide +kernel), ?_⟩
        exact did_run T O G Y R2 (s1.trans s2) rfl (by rw [R2.len]; show 2 < 3; decide) x2 .nil h2 (hnb nO h2) q
      · split at h2
        · rename_i hz
          subst hz
          rw [es rfl]
          refine ⟨_, S, _, _, _, R, dC_run e_bw _ _ _, fun H1 S1 R1 s1 => iteF ?_⟩
          refine ⟨_, S1, _, _, _, R1, dC_run e_bt _ _ _, fun H2 S2 R2 s2 => iteF ?_⟩
          obtain ⟨p', dx', vb', l', vs', x1, x2, x3, x4, x5, x6, x7⟩ := ov_at (i := 0) O R2 rfl
          refine ⟨_, x2, p', dx', _, rfl, x3, ovF_no _ _ (by decide +kernel) (by decide +kernel), ?_⟩
          exact did_run T O G Y R2 (s1.trans s2) rfl (by rw [R2.len]; show 2 < 3; decide) x2 .nil h2 (hnb nO h2) q
        · cases h2
    · cases h2

abbrev s__law_can_still : Stmt := topS 34
abbrev N__law_can_still : List Str := ["batch", "now", "gone", "row", "names", "loaf", "rest", "outs", "turn", "place", "k", "waits", "out"]
theorem sc__law_can_still : FnScope N__law_can_still ["batch", "now", "gone"] (defScope s__law_can_still) := ⟨rfl, rfl, rfl, by decide +kernel, rfl, by decide +kernel, by decide +kernel⟩
def B1__law_can_still : SF := sFg [9, 11] (sSeq (sAsg (eLc (iRange2 (eBin addD (eVar 9) (eC (.int 1))) (eCb lenD (aCons (eVar 6) (aNil)))) (gNm 10) (tE (eChain ltD ltD (eBin ixR (eBin ixR (eVar 6) (eVar 10)) (eC (.int 1))) (eBin ixR (eVar 7) (eVar 9)) (eBin ixR (eVar 7) (eVar 10)))) (eBin ixR (eVar 7) (eVar 10)) [10]) (gNm 11)) (sAsg (eCb maxD (aCons (eBin addD (eVar 11) (eLst (aCons (eBin ixR (eVar 7) (eVar 9)) (aNil)))) (aNil))) (gSub 7 (eVar 9))))
def B2__law_can_still : SF := sFg [8, 9, 11] (sFa [0, 1, 2, 3, 4, 5, 8, 9, 10, 11, 12] (sFor (iRange3 (eBin subD (eCb lenD (aCons (eVar 6) (aNil))) (eC (.int 1))) (eC (.int (-1)))) (gNm 9) B1__law_can_still))
def b__law_can_still : SF := sSeq (sIf (tE (eBin neD (eLc (iSeq (eVar 2)) (gNm 3) (tNotF (tE (eBin ixR (eVar 3) (eC (.int 2))))) (eVar 3) [3]) (eLst (aNil)))) (sRet (eC (.bool false))) (sNil)) (sSeq (sAsg (eLc (iSeq (eVar 2)) (gNm 3) (tYesF) (eBin ixR (eVar 3) (eC (.int 0))) [3]) (gNm 4)) (sSeq (sAsg (eLc (iSeq (eVar 0)) (gNm 5) (tE (eBin ninR (eBin ixR (eVar 5) (eC (.int 0))) (eVar 4))) (eVar 5) [5]) (gNm 6)) (sSeq (sAsg (eLc (iSeq (eVar 6)) (gNm 5) (tYesF) (eCb maxD (aCons (eVar 1) (aCons (eBin addD (eBin ixR (eVar 5) (eC (.int 1))) (eBin ixR (eVar 5) (eC (.int 2)))) (aNil)))) [5]) (gNm 7)) (sSeq (sFa [0, 1, 2, 3, 4, 5, 8, 9, 10, 11, 12] (sFor (iRange1 (eC (.int 9))) (gNm 8) B2__law_can_still)) (sRet (eBin eqD (eLc (iZip (aCons (eVar 7) (aCons (eVar 6) (aNil)))) (gTup 2 (gCons (gNm 12) (gCons (gNm 5) (gNil)))) (tE (eBin gtD (eVar 12) (eBin addD (eBin ixR (eVar 5) (eC (.int 1))) (eBin ixR (eVar 5) (eC (.int 3)))))) (eC (.int 1)) [12, 5]) (eLst (aNil))))))))
def F__law_can_still : List PyData → Option Rv := fnF 3 13 b__law_can_still
theorem ok__law_can_still (T : Txt mg)  {f : Addr} {fd : FuncData} (F : Fun K "_law_can_still" "_law_can_still" s__law_can_still f fd) : FnOk P w K mg base CX0 1 f fd ["batch", "now", "gone"] (spF K F__law_can_still) :=
  have Sc := sc__law_can_still
  fn_ok (k := 0) F sc__law_can_still fun cdv A outer s H E hr => okSs_cons (okS_if (okT_cmp (op_neD hr.units) okNe (ok_lc (own := [("row", 3)]) rfl Sc.nd (okI_seq (ok_name 2)) (blkOk_by (own := [("row", 3)]) (N := N__law_can_still) (sc := defScope s__law_can_still) (by decide +kernel)) (fun _ _ _ _ _ => okG_name 3 Sc.nd rfl (Or.inl rfl)) (fun _ _ _ _ _ => okTs_one (okT_not (okT_val (ok_ix (ok_name 3) (ok_int))))) (fun _ _ _ _ _ => ok_name 3)) (ok_lst (okA_nil)) (nomark _)) (okSs_one (okS_ret (ok_bl))) (okSs_nil)) (okSs_cons (okS_set 4 Sc.nd rfl (Or.inr rfl) (ok_lc (own := [("row", 3)]) rfl Sc.nd (okI_seq (ok_name 2)) (blkOk_by (own := [("row", 3)]) (N := N__law_can_still) (sc := defScope s__law_can_still) (by decide +kernel)) (fun _ _ _ _ _ => okG_name 3 Sc.nd rfl (Or.inl rfl)) (fun _ _ _ _ _ => okTs_nil) (fun _ _ _ _ _ => ok_ix (ok_name 3) (ok_int)))) (okSs_cons (okS_set 6 Sc.nd rfl (Or.inr rfl) (ok_lc (own := [("loaf", 5)]) rfl Sc.nd (okI_seq (ok_name 0)) (blkOk_by (own := [("loaf", 5)]) (N := N__law_can_still) (sc := defScope s__law_can_still) (by decide +kernel)) (fun _ _ _ _ _ => okG_name 5 Sc.nd rfl (Or.inl rfl)) (fun _ _ _ _ _ => okTs_one (okT_cmp (opNotIn (hu65 hr)) okNotIn (ok_ix (ok_name 5) (ok_int)) (ok_name 4) rfl)) (fun _ _ _ _ _ => ok_name 5))) (okSs_cons (okS_set 7 Sc.nd rfl (Or.inr rfl) (ok_lc (own := [("loaf", 5)]) rfl Sc.nd (okI_seq (ok_name 6)) (blkOk_by (own := [("loaf", 5)]) (N := N__law_can_still) (sc := defScope s__law_can_still) (by decide +kernel)) (fun _ _ _ _ _ => okG_name 5 Sc.nd rfl (Or.inl rfl)) (fun _ _ _ _ _ => okTs_nil) (fun _ _ _ _ _ => ok_callB (opMax rfl hr.units) okMax rfl T.b_max (by decide +kernel) (okA_cons (ok_name 1) (okA_cons (ok_bin opAdd okAdd (ok_ix (ok_name 5) (ok_int)) (ok_ix (ok_name 5) (ok_int))) (okA_nil)))))) (okSs_cons (okS_fa [0, 1, 2, 3, 4, 5, 8, 9, 10, 11, 12] (okS_for PassesOwn.never rfl (okI_range1 rfl T.b_range (ok_int)) (okG_name 8 Sc.nd rfl (Or.inl rfl)) (okSs_fg [8, 9, 11] (okSs_one (okS_fa [0, 1, 2, 3, 4, 5, 8, 9, 10, 11, 12] (okS_for PassesOwn.never rfl (okI_range3 rfl T.b_range (ok_bin op_sub okSub (ok_callB call_len okLen rfl T.b_len (by decide +kernel) (okA_cons (ok_name 6) (okA_nil))) (ok_int)) (ok_negC) (fun ta h => pi_range3 rfl T.b_range h)) (okG_name 9 Sc.nd rfl (Or.inr rfl)) (okSs_fg [9, 11] (okSs_cons (okS_setLc (i := 11) (own := [("k", 10)]) rfl Sc.nd rfl rfl (sw_true rfl rfl rfl (by decide +kernel)) (okI_range2 rfl T.b_range (ok_bin opAdd okAdd (ok_name 9) (ok_int)) (ok_callB call_len okLen rfl T.b_len (by decide +kernel) (okA_cons (ok_name 6) (okA_nil)))) (blkOk_by (own := [("k", 10)]) (N := N__law_can_still) (sc := defScope s__law_can_still) (by decide +kernel)) (fun _ _ _ _ _ => okG_name 10 Sc.nd rfl (Or.inl rfl)) (fun _ _ _ _ _ => okTs_one (okT_chain op_lt op_lt okLt okLt (ok_ix (ok_ix (ok_name 6) (ok_name 10)) (ok_int)) (ok_ix (ok_name 7) (ok_name 9)) (ok_ix (ok_name 7) (ok_name 10)))) (fun _ _ _ _ _ => ok_ix (ok_name 7) (ok_name 10))) (okSs_one (okS_asg (ok_callB (opMax rfl hr.units) okMax rfl T.b_max (by decide +kernel) (okA_cons (ok_bin opAdd okAdd (ok_name 11) (ok_lst (okA_cons (ok_ix (ok_name 7) (ok_name 9)) (okA_nil)))) (okA_nil))) (okG_sub (pv 7) (ok_name 9)))))))))))) (okSs_one (okS_ret (ok_cmp (op_eqD hr.units) okEq (ok_lc (own := [("out", 12), ("loaf", 5)]) rfl Sc.nd (okI_zip rfl T.b_zip (okA_cons (ok_name 7) (okA_cons (ok_name 6) (okA_nil)))) (blkOk_by (own := [("out", 12), ("loaf", 5)]) (N := N__law_can_still) (sc := defScope s__law_can_still) (by decide +kernel)) (fun _ _ _ _ _ => okG_tup rfl (okGs_cons (okG_name 12 Sc.nd rfl (Or.inl rfl)) (okGs_cons (okG_name 5 Sc.nd rfl (Or.inl rfl)) (okGs_nil)))) (fun _ _ _ _ _ => okTs_one (okT_cmp op_gt okGt (ok_name 12) (ok_bin opAdd okAdd (ok_ix (ok_name 5) (ok_int)) (ok_ix (ok_name 5) (ok_int))) (nomark _))) (fun _ _ _ _ _ => ok_int)) (ok_lst (okA_nil)) (nomark _))))))))
abbrev s__law_stands_so : Stmt := topS 37
abbrev N__law_stands_so : List Str := ["oven", "batch", "rows", "now", "gone", "loaf", "inside", "can"]
theorem sc__law_stands_so : FnScope N__law_stands_so ["oven", "batch", "rows"] (defScope s__law_stands_so) := ⟨rfl, rfl, rfl, by decide +kernel, rfl, by decide +kernel, by decide +kernel⟩
def b__law_stands_so : SF := sSeq (sAsg (eBin ixR (eVar 2) (eC (.int (-1)))) (gTup 2 (gCons (gNm 3) (gCons (gNm 4) (gNil))))) (sSeq (sAsg (eCb tupleD (aCons (eLc (iSeq (eCall F__law_within (aCons (eVar 1) (aCons (eVar 3) (aCons (eVar 4) (aNil)))))) (gNm 5) (tYesF) (eBin ixR (eVar 5) (eC (.int 0))) [5]) (aNil))) (gNm 6)) (sSeq (sIf (tOrF (tE (eBin neD (eMeth 0 F_Oven_tick aNil) (eVar 3))) (tOrF (tE (eBin neD (eMeth 0 F_Oven_within aNil) (eVar 6))) (tOrF (tE (eBin neD (eLenO 0 F_Oven___len__) (eCb lenD (aCons (eVar 6) (aNil))))) (tE (eBin neD (eMeth 0 F_Oven_out aNil) (eCb listD (aCons (eVar 4) (aNil)))))))) (sRet (eC (.bool false))) (sNil)) (sSeq (sAsg (eMeth 0 F_Oven_can_still aNil) (gNm 7)) (sRet (eAndF (eIsi "bool" (eVar 7)) (eBin eqD (eVar 7) (eCall F__law_can_still (aCons (eVar 1) (aCons (eVar 3) (aCons (eVar 4) (aNil)))))))))))
def F__law_stands_so : PyData → List PyData → PyData → List PyData → Option (Rv × List PyData × List PyData) := fnOB 8 b__law_stands_so
theorem ok__law_stands_so (T : Txt mg) {C : Addr} (O : OvnC K C) {f__law_can_still : Addr} {fd__law_can_still : FuncData} (C__law_can_still : Cal P w K mg base 1 "_law_can_still" f__law_can_still fd__law_can_still ["batch", "now", "gone"] (spF K F__law_can_still)) {f__law_within : Addr} {fd__law_within : FuncData} (C__law_within : Cal P w K mg base 1 "_law_within" f__law_within fd__law_within ["batch", "now", "gone"] (spF K F__law_within)) {f_Oven_can_still : Addr} {fd_Oven_can_still : FuncData} (M_Oven_can_still : MetC P w K mg base 2 C "can_still" f_Oven_can_still fd_Oven_can_still ["self"] (spO K F_Oven_can_still)) {f_Oven_tick : Addr} {fd_Oven_tick : FuncData} (M_Oven_tick : MetC P w K mg base 1 C "tick" f_Oven_tick fd_Oven_tick ["self"] (spO K F_Oven_tick)) {f_Oven_within : Addr} {fd_Oven_within : FuncData} (M_Oven_within : MetC P w K mg base 2 C "within" f_Oven_within fd_Oven_within ["self"] (spO K F_Oven_within)) {f_Oven___len__ : Addr} {fd_Oven___len__ : FuncData} (M_Oven___len__ : MetC P w K mg base 3 C "__len__" f_Oven___len__ fd_Oven___len__ ["self"] (spO K F_Oven___len__)) {f_Oven_out : Addr} {fd_Oven_out : FuncData} (M_Oven_out : MetC P w K mg base 1 C "out" f_Oven_out fd_Oven_out ["self"] (spO K F_Oven_out)) {f : Addr} {fd : FuncData} (F : Fun K "_law_stands_so" "_law_stands_so" s__law_stands_so f fd) : FnOk P w K mg base CX0 5 f fd ["oven", "batch", "rows"] (spOB K F__law_stands_so) :=
  have Sc := sc__law_stands_so
  fnOB_ok (k := 4) F sc__law_stands_so rfl fun cdv A outer s H E hr => okSs_cons (okS_asg (ok_ix (ok_name 2) (ok_negC)) (okG_tup rfl (okGs_cons (okG_name 3 Sc.nd rfl (Or.inl rfl)) (okGs_cons (okG_name 4 Sc.nd rfl (Or.inl rfl)) (okGs_nil))))) (okSs_cons (okS_set 6 Sc.nd rfl (Or.inl rfl) (ok_callTy call_tuple_of okTuple rfl T.b_tuple (by decide +kernel) (okA_cons (ok_lc (own := [("loaf", 5)]) rfl Sc.nd (okI_seq (ok_call C__law_within.c (hr.mono (by decide)) rfl C__law_within.g C__law_within.k C__law_within.b (okA_cons (ok_name 1) (okA_cons (ok_name 3) (okA_cons (ok_name 4) (okA_nil)))))) (blkOk_by (own := [("loaf", 5)]) (N := N__law_stands_so) (sc := defScope s__law_stands_so) (by decide +kernel)) (fun _ _ _ _ _ => okG_name 5 Sc.nd rfl (Or.inl rfl)) (fun _ _ _ _ _ => okTs_nil) (fun _ _ _ _ _ => ok_ix (ok_name 5) (ok_int))) (okA_nil)))) (okSs_cons (okS_if (okT_w (okW_or (okT_cmp (op_neD hr.units) okNe (ok_meth0 O M_Oven_tick (hr.mono (by decide)) (pv 0)) (ok_name 3) (nomark _)) (okW_or (okT_cmp (op_neD hr.units) okNe (ok_meth0 O M_Oven_within (hr.mono (by decide)) (pv 0)) (ok_name 6) (nomark _)) (okW_or (okT_cmp (op_neD hr.units) okNe (ok_lenO O M_Oven___len__ (hr.mono (by decide)) (pv 0) rfl T.b_len) (ok_callB call_len okLen rfl T.b_len (by decide +kernel) (okA_cons (ok_name 6) (okA_nil))) (nomark _)) (okW_or1 (okT_cmp (op_neD hr.units) okNe (ok_meth0 O M_Oven_out (hr.mono (by decide)) (pv 0)) (ok_callTy call_list_of okList rfl T.b_list (by decide +kernel) (okA_cons (ok_name 4) (okA_nil))) (nomark _))))))) (okSs_one (okS_ret (ok_bl))) (okSs_nil)) (okSs_cons (okS_set 7 Sc.nd rfl (Or.inl rfl) (ok_meth0 O M_Oven_can_still (hr.mono (by decide)) (pv 0))) (okSs_one (okS_ret (ok_and (ok_isi rfl T.b_isinstance rfl T.b_bool (by decide +kernel) (ok_name 7) isi_bool) (ok_one (ok_cmp (op_eqD hr.units) okEq (ok_name 7) (ok_call C__law_can_still.c (hr.mono (by decide)) rfl C__law_can_still.g C__law_can_still.k C__law_can_still.b (okA_cons (ok_name 1) (okA_cons (ok_name 3) (okA_cons (ok_name 4) (okA_nil))))) (nomark _)))))))))
abbrev s_Oven___eq__ : Stmt := inClass (topS 22) 2
abbrev N_Oven___eq__ : List Str := ["self", "other"]
theorem sc_Oven___eq__ : FnScope N_Oven___eq__ ["self", "other"] (defScope s_Oven___eq__) := ⟨rfl, rfl, rfl, by decide +kernel, rfl, by decide +kernel, by decide +kernel⟩
theorem ok___eq__ (T : Txt mg) {C : Addr} (O : OvnC K C) (Z : EqC K C) (gO : mg "Oven" = some (.ref C)) {f : Addr} {fd : FuncData}
    (F : Fun K "__eq__" "Oven.__eq__" s_Oven___eq__ f fd) : FnOk P w K mg base CX0 1 f fd ["self", "other"] (spEq K) := by
  have Sc := sc_Oven___eq__
  refine F.ok Sc (fun vs H Q E h => ?_) (fun cdv A outer s H vs Q E hr h => ⟨_, pss_cons (ps_if (pt_not (pt_val (pe_callB call_isi rfl T.b_isinstance (by decide +kernel) (pa_cons (pv 1) (pa_cons (pe_glob (v := .ref C) rfl gO rfl) pa_nil))) (by intro _; rfl))) (pss_one (ps_ret pe_bl)) pss_nil)
    (pss_one (ps_ret (pe_cmpR (op_eqD hr.units) (pe_tup (pa_cons (pe_fld (pv 0) rfl) (pa_cons (pe_ix ix_seq (pe_fld (pv 0) rfl) (pe_un un_neg pe_int) (by intro _ _; rfl)) pa_nil))) (pe_tup (pa_cons (pe_fld (pv 1) rfl) (pa_cons (pe_ix ix_seq (pe_fld (pv 1) rfl) (pe_un un_neg pe_int) (by intro _ _; rfl)) pa_nil))) (nomark _)))), ?_⟩)
  · obtain ⟨S, C', p, dx, l, vb, mv, b, st, y, hC, sh, rfl, _⟩ := h
    rfl
  · obtain ⟨S, C', p, dx, l, vb, mv, b, st, y, hC, sh, rfl, hp, hl, hb, hm, h⟩ := h
    cases O.ov.eq hC
    rcases h with ⟨p2, dx2, l2, vb2, mv2, b2, st2, d, d2, x, rfl, hp2, hl2, hb2, hm2, e1, e2, e3, q⟩ | ⟨a, ys, rfl, ha, q⟩
    · obtain ⟨v, v1, v2⟩ := hm.atI e1
      obtain ⟨u, u1, u2⟩ := hm2.atI e2
      refine ⟨_, rfl, _, _, .ref C, .ref C, true, rfl, .own C, .base (.ins hp2 O.cl Z.ha Z.hn Z.ht Z.hm), Z.ko, true, rfl, iteF ?_⟩
      refine ⟨_, rfl, p, C, dx, _, _, rfl, hp, O.cl, O.nB, ovF_batch _ _, _, rfl, p, C, dx, _, _, rfl, hp, O.cl, O.nS, ovF_stands _ _, 1, rfl, .inl ⟨l, mv, -1, v, rfl, rfl, SqL.of hl, v1, ?_⟩⟩
      refine ⟨by show 2 ≤ sizeLine; decide, fun t1 n1 => ?_⟩
      have N1 := New.put (o := .tup [vb, v]) sh n1
      refine ⟨_, rfl, p2, C, dx2, _, _, rfl, N1.hh _ _ hp2, O.cl, O.nB, ovF_batch _ _, _, rfl, p2, C, dx2, _, _, rfl, N1.hh _ _ hp2, O.cl, O.nS, ovF_stands _ _, 1, rfl, .inl ⟨l2, mv2, -1, u, rfl, rfl, SqL.of (N1.hh _ _ hl2), u1, ?_⟩⟩
      refine ⟨by show 2 ≤ sizeLine; decide, fun t2 n2 => ?_⟩
      have N2 := New.put (o := .tup [vb2, u]) N1.sh n2
      have N := N1.trans N2
      have d1 : Da K _ (.ref t1) (.tuple [b, d]) := .tup (N2.ss _ _ upd_same) (.cons (hb.mono N.ss) (.cons (v2.mono N.ss) .nil))
      have d2' : Da K _ (.ref t2) (.tuple [b2, d2]) := .tup upd_same (.cons (hb2.mono N.ss) (.cons (u2.mono N.ss) .nil))
      refine okEq _ _ _ _ _ _ _ N.sh (.of d1) (.of d2') e3 _ fun v' H' S' N3 o => ?_
      cases (show Da K S' v' (.bool x) from o)
      exact q H' (N.hh.trans N3.hh)
    · refine ⟨_, rfl, _, _, .type "tuple", .ref C, false, rfl, .own C, .base (.tup ha), Z.kt, false, rfl, iteT ?_⟩
      exact q H (Same.refl _)

abbrev s_law : Stmt := topS 39
abbrev N_law : List Str := ["script", "batch", "oven", "other", "rows", "k", "bag", "turn", "deed", "due", "row"]
theorem sc_law : FnScope N_law ["script"] (defScope s_law) := ⟨rfl, rfl, rfl, by decide +kernel, rfl, by decide +kernel, by decide +kernel⟩
def B1_law : SF := sFg [7, 8, 9] (sSeq (sAsg (eCallO 0 F__law_a_deed (aCons (eVar 6) (aNil))) (gNm 8)) (sSeq (sAsg (eCallO 1 F__law_due (aCons (eVar 1) (aCons (eVar 4) (aCons (eVar 8) (aNil))))) (gNm 9)) (sSeq (sIf (tOrF (tE (eBin neD (eMeth 2 F__law_did (aCons (eVar 8) (aNil))) (eVar 9))) (tNotF (tE (eCallOB 2 1 4 F__law_stands_so)))) (sRet (eC (.bool false))) (sNil)) (sDrop (eFrApp (eMeth 2 F_Oven_out aNil))))))
def B2_law : SF := sFg [5, 6, 7, 8, 9] (sSeq (sAsg (eCall F__law_bag (aCons (eVar 0) (aCons (eBin addD (eVar 5) (eC (.int 1))) (aNil)))) (gNm 6)) (sSeq (sFa [5, 7, 8, 9, 10] (sFor (iRange1 (eC (.int 3))) (gNm 7) B1_law)) (sIf (tNotF (tE (eCall F__law_baked_right (aCons (eCallO 0 F__law_batch (aCons (eVar 6) (aCons (eC (.int 8)) (aCons (eC (.int 7)) (aCons (eCallO 0 F__law_of (aCons (eVar 6) (aCons (eLst (aCons (eC (.int 9)) (aCons (eC (.int 30)) (aNil)))) (aNil)))) (aNil)))))) (aNil))))) (sRet (eC (.bool false))) (sNil))))
def B3_law : SF := sFg [10] (sDrop (eMeth 2 F_Oven_back aNil))
def b0_law : SF := sAsg (eCallT F__law_batch (eCall F__law_bag (aCons (eVar 0) (aCons (eC (.int 0)) (aNil)))) [.int 8, .int 7, .int 15]) (gNm 1)
def b1_law : SF := sSeq (sFa [5, 6, 7, 8, 9, 10] (sFor (iRange1 (eBin addD (eCb minD (aCons (eCb lenD (aCons (eVar 0) (aNil))) (aCons (eC (.int 14)) (aNil)))) (eC (.int 1)))) (gNm 5) B2_law)) (sSeq (sIf (tOrF (tE (eBin neD (eEqOO 2 3) (eBin eqD (eBin ixR (eVar 4) (eC (.int (-1)))) (eTup (aCons (eC (.int 0)) (aCons (eTup (aNil)) (aNil))))))) (tE (eEqOD 2 (eVar 1)))) (sRet (eC (.bool false))) (sNil)) (sSeq (sFa [0, 5, 6, 7, 8, 9, 10] (sFor (iSeq (eSlice (eVar 4) (oE (eC (.int 1))) (oNo))) (gNm 10) B3_law)) (sSeq (sIf (tOrF (tNotF (tE (eEqOO 2 3))) (tE (eBin neD (eMeth 2 F__law_did (aCons (eTup (aCons (eC (.str "back")) (aNil))) (aNil))) (eC (.str "NothingLeft"))))) (sRet (eC (.bool false))) (sNil)) (sTryNB F_is_batch 1))))
def b_law : SF := sSeq b0_law (sSeq (sMk3 F_is_batch 1 2 3 4) b1_law)
def F_law : List PyData → Option Rv := fnM 1 11 b_law
theorem okp_law (T : Txt mg) {C : Addr} (O : OvnC K C) (Z : EqC K C) {f__law_batch : Addr} {fd__law_batch : FuncData} (C__law_batch : Cal P w K mg base 2 "_law_batch" f__law_batch fd__law_batch ["bag", "many", "wide", "spare"] (spB K 0 F__law_batch)) {f__law_bag : Addr} {fd__law_bag : FuncData} (C__law_bag : Cal P w K mg base 1 "_law_bag" f__law_bag fd__law_bag ["script", "k"] (spF K F__law_bag)) {f__law_a_deed : Addr} {fd__law_a_deed : FuncData} (C__law_a_deed : Cal P w K mg base 3 "_law_a_deed" f__law_a_deed fd__law_a_deed ["bag"] (spB K 0 F__law_a_deed)) {f__law_due : Addr} {fd__law_due : FuncData} (C__law_due : Cal P w K mg base 2 "_law_due" f__law_due fd__law_due ["batch", "rows", "deed"] (spB K 1 F__law_due)) {f__law_baked_right : Addr} {fd__law_baked_right : FuncData} (C__law_baked_right : Cal P w K mg base 6 "_law_baked_right" f__law_baked_right fd__law_baked_right ["batch"] (spF K F__law_baked_right)) {f__law_did : Addr} {fd__law_did : FuncData} (C__law_did : Cal P w K mg base 4 "_law_did" f__law_did fd__law_did ["oven", "deed"] (spO K F__law_did)) {f__law_stands_so : Addr} {fd__law_stands_so : FuncData} (C__law_stands_so : Cal P w K mg base 5 "_law_stands_so" f__law_stands_so fd__law_stands_so ["oven", "batch", "rows"] (spOB K F__law_stands_so)) {f__law_of : Addr} {fd__law_of : FuncData} (C__law_of : Cal P w K mg base 2 "_law_of" f__law_of fd__law_of ["bag", "some"] (spB K 0 F__law_of)) {f_Oven___init__ : Addr} {fd_Oven___init__ : FuncData} (M_Oven___init__ : MetC P w K mg base 4 C "__init__" f_Oven___init__ fd_Oven___init__ ["self", "batch"] (spInit K C F_is_batch)) {f_Oven___eq__ : Addr} {fd_Oven___eq__ : FuncData} (M_Oven___eq__ : MetC P w K mg base 1 C "__eq__" f_Oven___eq__ fd_Oven___eq__ ["self", "other"] (spEq K)) {f_Oven_back : Addr} {fd_Oven_back : FuncData} (M_Oven_back : MetC P w K mg base 1 C "back" f_Oven_back fd_Oven_back ["self"] (spO K F_Oven_back)) {f_Oven_out : Addr} {fd_Oven_out : FuncData} (M_Oven_out : MetC P w K mg base 1 C "out" f_Oven_out fd_Oven_out ["self"] (spO K F_Oven_out)) {f : Addr} {cdv : Value} {A : Around} {outer : List Env} {s : Shared} {H : Hp} {E : XK} (hr : Room 6 (A.deeper (PyProof.Rows.envOfC "law" (defScope s_law) s.heap.objs.size f cdv))) : OkS (cxOf CX0 P w K mg base N_law "law" (defScope s_law) f cdv A outer s H E).nox ((defBody s_law).getD 0 (.Pass ⟨0, 0, 0, 0⟩)) b0_law :=
  have Sc := sc_law
  (okS_set 1 Sc.nd rfl (Or.inl rfl) (ok_callT C__law_batch.c (hr.mono (by decide)) rfl C__law_batch.g C__law_batch.k C__law_batch.b (ok_call C__law_bag.c (hr.mono (by decide)) rfl C__law_bag.g C__law_bag.k C__law_bag.b (okA_cons (ok_name 0) (okA_cons (ok_int) (okA_nil))))))
theorem okq_law (T : Txt mg) {C : Addr} (O : OvnC K C) (Z : EqC K C) {f__law_batch : Addr} {fd__law_batch : FuncData} (C__law_batch : Cal P w K mg base 2 "_law_batch" f__law_batch fd__law_batch ["bag", "many", "wide", "spare"] (spB K 0 F__law_batch)) {f__law_bag : Addr} {fd__law_bag : FuncData} (C__law_bag : Cal P w K mg base 1 "_law_bag" f__law_bag fd__law_bag ["script", "k"] (spF K F__law_bag)) {f__law_a_deed : Addr} {fd__law_a_deed : FuncData} (C__law_a_deed : Cal P w K mg base 3 "_law_a_deed" f__law_a_deed fd__law_a_deed ["bag"] (spB K 0 F__law_a_deed)) {f__law_due : Addr} {fd__law_due : FuncData} (C__law_due : Cal P w K mg base 2 "_law_due" f__law_due fd__law_due ["batch", "rows", "deed"] (spB K 1 F__law_due)) {f__law_baked_right : Addr} {fd__law_baked_right : FuncData} (C__law_baked_right : Cal P w K mg base 6 "_law_baked_right" f__law_baked_right fd__law_baked_right ["batch"] (spF K F__law_baked_right)) {f__law_did : Addr} {fd__law_did : FuncData} (C__law_did : Cal P w K mg base 4 "_law_did" f__law_did fd__law_did ["oven", "deed"] (spO K F__law_did)) {f__law_stands_so : Addr} {fd__law_stands_so : FuncData} (C__law_stands_so : Cal P w K mg base 5 "_law_stands_so" f__law_stands_so fd__law_stands_so ["oven", "batch", "rows"] (spOB K F__law_stands_so)) {f__law_of : Addr} {fd__law_of : FuncData} (C__law_of : Cal P w K mg base 2 "_law_of" f__law_of fd__law_of ["bag", "some"] (spB K 0 F__law_of)) {f_Oven___init__ : Addr} {fd_Oven___init__ : FuncData} (M_Oven___init__ : MetC P w K mg base 4 C "__init__" f_Oven___init__ fd_Oven___init__ ["self", "batch"] (spInit K C F_is_batch)) {f_Oven___eq__ : Addr} {fd_Oven___eq__ : FuncData} (M_Oven___eq__ : MetC P w K mg base 1 C "__eq__" f_Oven___eq__ fd_Oven___eq__ ["self", "other"] (spEq K)) {f_Oven_back : Addr} {fd_Oven_back : FuncData} (M_Oven_back : MetC P w K mg base 1 C "back" f_Oven_back fd_Oven_back ["self"] (spO K F_Oven_back)) {f_Oven_out : Addr} {fd_Oven_out : FuncData} (M_Oven_out : MetC P w K mg base 1 C "out" f_Oven_out fd_Oven_out ["self"] (spO K F_Oven_out)) {f : Addr} {cdv : Value} {A : Around} {outer : List Env} {s : Shared} {H : Hp} {E : XK} (hr : Room 6 (A.deeper (PyProof.Rows.envOfC "law" (defScope s_law) s.heap.objs.size f cdv))) (hT : OkSs (cxOf CX0 P w K mg base N_law "law" (defScope s_law) f cdv A outer s H E).nox ((defBody s_law).drop 6) (sTryNB F_is_batch 1)) : OkSs (cxOf CX0 P w K mg base N_law "law" (defScope s_law) f cdv A outer s H E).nox ((defBody s_law).drop 2) b1_law :=
  have Sc := sc_law
  okSs_cons (okS_fa [5, 6, 7, 8, 9, 10] (okS_for PassesOwn.never rfl (okI_range1 rfl T.b_range (ok_bin opAdd okAdd (ok_callB (opMin rfl hr.units) okMin rfl T.b_min (by decide +kernel) (okA_cons (ok_callB call_len okLen rfl T.b_len (by decide +kernel) (okA_cons (ok_name 0) (okA_nil))) (okA_cons (ok_int) (okA_nil)))) (ok_int))) (okG_name 5 Sc.nd rfl (Or.inl rfl)) (okSs_fg [5, 6, 7, 8, 9] (okSs_cons (okS_set 6 Sc.nd rfl (Or.inl rfl) (ok_call C__law_bag.c (hr.mono (by decide)) rfl C__law_bag.g C__law_bag.k C__law_bag.b (okA_cons (ok_name 0) (okA_cons (ok_bin opAdd okAdd (ok_name 5) (ok_int)) (okA_nil))))) (okSs_cons (okS_fa [5, 7, 8, 9, 10] (okS_for PassesOwn.never rfl (okI_range1 rfl T.b_range (ok_int)) (okG_name 7 Sc.nd rfl (Or.inl rfl)) (okSs_fg [7, 8, 9] (okSs_cons (okS_set 8 Sc.nd rfl (Or.inl rfl) (ok_callO C__law_a_deed.c (hr.mono (by decide)) rfl C__law_a_deed.g C__law_a_deed.k C__law_a_deed.b (okA_cons (ok_name 6) (okA_nil)))) (okSs_cons (okS_set 9 Sc.nd rfl (Or.inl rfl) (ok_callO C__law_due.c (hr.mono (by decide)) rfl C__law_due.g C__law_due.k C__law_due.b (okA_cons (ok_name 1) (okA_cons (ok_name 4) (okA_cons (ok_name 8) (okA_nil)))))) (okSs_cons (okS_if (okT_w (okW_or (okT_cmp (op_neD hr.units) okNe (ok_obcall O C__law_did.c (hr.mono (by decide)) rfl C__law_did.g C__law_did.k C__law_did.b (pv 2) (okA_cons (ok_name 8) (okA_nil))) (ok_name 9) (nomark _)) (okW_or1 (okT_not (okT_val (ok_callOB O C__law_stands_so.c (hr.mono (by decide)) rfl C__law_stands_so.g C__law_stands_so.k C__law_stands_so.b (pv 2) (pv 1) (pv 4))))))) (okSs_one (okS_ret (ok_bl))) (okSs_nil)) (okSs_one (okS_expr (ok_frApp (ok_meth0 O M_Oven_out (hr.mono (by decide)) (pv 2))))))))))) (okSs_one (okS_if (okT_not (okT_val (ok_call C__law_baked_right.c (hr.mono (by decide)) rfl C__law_baked_right.g C__law_baked_right.k C__law_baked_right.b (okA_cons (ok_callO C__law_batch.c (hr.mono (by decide)) rfl C__law_batch.g C__law_batch.k C__law_batch.b (okA_cons (ok_name 6) (okA_cons (ok_int) (okA_cons (ok_int) (okA_cons (ok_callO C__law_of.c (hr.mono (by decide)) rfl C__law_of.g C__law_of.k C__law_of.b (okA_cons (ok_name 6) (okA_cons (ok_lst (okA_cons (ok_int) (okA_cons (ok_int) (okA_nil)))) (okA_nil)))) (okA_nil)))))) (okA_nil))))) (okSs_one (okS_ret (ok_bl))) (okSs_nil)))))))) (okSs_cons (okS_if (okT_w (okW_or (okT_cmp (op_neD hr.units) okNe (ok_eqOO O Z M_Oven___eq__ (hr.mono (by decide)) (pv 2) (pv 3) (nomark _)) (ok_cmp (op_eqD hr.units) okEq (ok_ix (ok_name 4) (ok_negC)) (ok_tup (okA_cons (ok_int) (okA_cons (ok_tup (okA_nil)) (okA_nil)))) (nomark _)) (nomark _)) (okW_or1 (okT_eqOD O Z M_Oven___eq__ (hr.mono (by decide)) (pv 2) (ok_name 1) (nomark _))))) (okSs_one (okS_ret (ok_bl))) (okSs_nil)) (okSs_cons (okS_fa [0, 5, 6, 7, 8, 9, 10] (okS_for PassesOwn.never rfl (okI_seq (ok_sl (ok_name 4) (okO_e (ok_int)) (okO_no))) (okG_name 10 Sc.nd rfl (Or.inl rfl)) (okSs_fg [10] (okSs_one (okS_expr (ok_meth0 O M_Oven_back (hr.mono (by decide)) (pv 2))))))) (okSs_cons (okS_if (okT_w (okW_or (okT_not (okT_eqOO O Z M_Oven___eq__ (hr.mono (by decide)) (pv 2) (pv 3) (nomark _))) (okW_or1 (okT_cmp (op_neD hr.units) okNe (ok_obcall O C__law_did.c (hr.mono (by decide)) rfl C__law_did.g C__law_did.k C__law_did.b (pv 2) (okA_cons (ok_tup (okA_cons (ok_str) (okA_nil))) (okA_nil))) (ok_str) (nomark _))))) (okSs_one (okS_ret (ok_bl))) (okSs_nil)) (hT))))
theorem ok_law (T : Txt mg) {C : Addr} (O : OvnC K C) (Z : EqC K C) {f__law_batch : Addr} {fd__law_batch : FuncData} (C__law_batch : Cal P w K mg base 2 "_law_batch" f__law_batch fd__law_batch ["bag", "many", "wide", "spare"] (spB K 0 F__law_batch)) {f__law_bag : Addr} {fd__law_bag : FuncData} (C__law_bag : Cal P w K mg base 1 "_law_bag" f__law_bag fd__law_bag ["script", "k"] (spF K F__law_bag)) {f__law_a_deed : Addr} {fd__law_a_deed : FuncData} (C__law_a_deed : Cal P w K mg base 3 "_law_a_deed" f__law_a_deed fd__law_a_deed ["bag"] (spB K 0 F__law_a_deed)) {f__law_due : Addr} {fd__law_due : FuncData} (C__law_due : Cal P w K mg base 2 "_law_due" f__law_due fd__law_due ["batch", "rows", "deed"] (spB K 1 F__law_due)) {f__law_baked_right : Addr} {fd__law_baked_right : FuncData} (C__law_baked_right : Cal P w K mg base 6 "_law_baked_right" f__law_baked_right fd__law_baked_right ["batch"] (spF K F__law_baked_right)) {f__law_did : Addr} {fd__law_did : FuncData} (C__law_did : Cal P w K mg base 4 "_law_did" f__law_did fd__law_did ["oven", "deed"] (spO K F__law_did)) {f__law_stands_so : Addr} {fd__law_stands_so : FuncData} (C__law_stands_so : Cal P w K mg base 5 "_law_stands_so" f__law_stands_so fd__law_stands_so ["oven", "batch", "rows"] (spOB K F__law_stands_so)) {f__law_of : Addr} {fd__law_of : FuncData} (C__law_of : Cal P w K mg base 2 "_law_of" f__law_of fd__law_of ["bag", "some"] (spB K 0 F__law_of)) {f_Oven___init__ : Addr} {fd_Oven___init__ : FuncData} (M_Oven___init__ : MetC P w K mg base 4 C "__init__" f_Oven___init__ fd_Oven___init__ ["self", "batch"] (spInit K C F_is_batch)) {f_Oven___eq__ : Addr} {fd_Oven___eq__ : FuncData} (M_Oven___eq__ : MetC P w K mg base 1 C "__eq__" f_Oven___eq__ fd_Oven___eq__ ["self", "other"] (spEq K)) {f_Oven_back : Addr} {fd_Oven_back : FuncData} (M_Oven_back : MetC P w K mg base 1 C "back" f_Oven_back fd_Oven_back ["self"] (spO K F_Oven_back)) {f_Oven_out : Addr} {fd_Oven_out : FuncData} (M_Oven_out : MetC P w K mg base 1 C "out" f_Oven_out fd_Oven_out ["self"] (spO K F_Oven_out)) (MK : Mk K C f_Oven___init__) (gO : mg "Oven" = some (.ref C)) {CN : Addr} (FX : FnOk P w K mg base (L2.CX P w) 4 f_Oven___init__ fd_Oven___init__ ["self", "batch"] (spInitX K C CN F_is_batch)) (gN : mg "NoBatch" = some (.ref CN)) (te : PySem.W.exmOne K (.ref CN) (.ref CN) = some true) {f : Addr} {fd : FuncData} (F : Fun K "law" "law" s_law f fd) : FnOk P w K mg base CX0 7 f fd ["script"] (spF K F_law) := by
  have Sc := sc_law
  refine F.ok Sc (fun vs H Q E h => fnM_len h) (fun cdv A outer s H vs Q E hr h => ⟨_, pss_cons (okp_law T O Z C__law_batch C__law_bag C__law_a_deed C__law_due C__law_baked_right C__law_did C__law_stands_so C__law_of M_Oven___init__ M_Oven___eq__ M_Oven_back M_Oven_out hr) (pss_cons (ps_par3 (i := 2) (j := 3) (l := 4) rfl Sc.nd rfl rfl rfl (by decide) (by decide) (by decide) rfl rfl rfl (pa_cons (pe_make MK M_Oven___init__.c (hr.mono (by decide)) rfl gO M_Oven___init__.b .nil pass0 (pa_cons (pv 1) pa_nil)) (pa_cons (pe_make MK M_Oven___init__.c (hr.mono (by decide)) rfl gO M_Oven___init__.b .nil pass0 (pa_cons (pv 1) pa_nil)) (pa_cons (pe_lst (pa_cons (pe_tup (pa_cons pe_int (pa_cons (pe_tup pa_nil) pa_nil))) pa_nil)) pa_nil))) (by rfl)) (okq_law T O Z C__law_batch C__law_bag C__law_a_deed C__law_due C__law_baked_right C__law_did C__law_stands_so C__law_of M_Oven___init__ M_Oven___eq__ M_Oven_back M_Oven_out hr (pss_imp (pss_cons (ps_try_only (tb := fun W => tDrop (tMakeC C (spInitX K C CN F_is_batch) (WE W) (rdA K (aCons (eBin addD (eVar 1) (eVar 1)) aNil)))) (ts := fun _ _ _ => tRet (tC (.bl true))) (Wout := fun _ _ _ _ => False) rfl rfl ⟨rfl, by decide, Or.inl gN⟩ takes0 (fun W pn xe tk _ => pss_one (ps_expr (pe_makeC MK FX (hr.mono (by decide)) rfl gO M_Oven___init__.b (fun σ => passAt tk σ) (okA_cons (ok_bin opAdd okAdd (ok_name 1) (ok_name 1)) okA_nil)))) (fun _ _ _ _ _ _ _ => pss_one (ps_ret pe_bl))) pss_never) (try_rd te)))), ?_⟩)
  exact mk3_fn O (by decide) (by decide) (by decide) (by decide) (by decide) h rfl rfl
theorem ok_rawinit {C0 C fI : Addr} (T : ErrC K mg "OvenError" "Raw" "name" C0 C fI) {fd : FuncData} (F : Fun K "__init__" "Raw.__init__" s_Raw___init__ fI fd) : FnOk P w K mg base CX0 1 fI fd ["self", "name"] (spNI K C "name") := by
  refine F.ok sc_Raw___init__ (fun vs H Q E h => ?_) (fun cdv A outer s H vs Q E hr h => ⟨_, pss_cons (ps_expr (pe_ovinit rfl T.g0 T.s0 T.r0 T.v0 (pa_cons (pv 0) (pa_cons pe_str pa_nil)) rfl)) (pss_one (ps_ost (pv 0) (pv 1))), ?_⟩)
  · obtain ⟨a, y, rfl, _⟩ := h
    rfl
  · obtain ⟨a, y, rfl, ha, q⟩ := h
    exact init_reads T ha fun dx h1 h2 => q dx h1 h2
end
/-! ### what the top has written, the head -/
theorem all_mk {l : PySem.W.OpenLaw} {w : World} {K : PySem.W.Frag} {h : Heap} {mg : Str → Option Value} {fa f__law_take f__law_batch f__law_bag f__law_of f__law_a_deed f__law_within f__law_due f_raised f_first_bounds f_least_outs f_is_from f_is_name f_is_loaf f_is_batch f__law_baked_right f__law_kind f__law_did f__law_can_still f__law_stands_so f_law f_Oven___init__ f_Oven_places_within f_Oven_take f_Oven_can_still f_Oven_tick f_Oven_wait f_Oven_within f_Oven___len__ f_Oven_out f_Oven_back f_Oven___eq__ f_Raw___init__ C C0 CN cT cE cL cR : Addr} (X : K.In h) (G : h.Ns mainGlobals mg) (hfa : mg "law" = some (.ref fa))
    {od__law_take an__law_take : Option Addr} {sl__law_take : Array (Option Value)} {oc__law_take kV__law_take dc__law_take pm__law_take cd__law_take ct__law_take : Value} (a__law_take : PySem.W.nsIn K mainGlobals "_law_take" = some (some (.ref f__law_take))) (l__law_take : K.lookup f__law_take = some ⟨oc__law_take, od__law_take, .func (PySem.W.fnOf "_law_take" "_law_take" (defArgs s__law_take) (defBody s__law_take) (defScope s__law_take) .none kV__law_take dc__law_take pm__law_take an__law_take cd__law_take ct__law_take), sl__law_take⟩) (c__law_take : PySem.W.codeIn K cd__law_take "_law_take" = true) (k__law_take : PySem.W.keepIn K (.ref f__law_take) = true)
    {od__law_batch an__law_batch : Option Addr} {sl__law_batch : Array (Option Value)} {oc__law_batch kV__law_batch dc__law_batch pm__law_batch cd__law_batch ct__law_batch : Value} (a__law_batch : PySem.W.nsIn K mainGlobals "_law_batch" = some (some (.ref f__law_batch))) (l__law_batch : K.lookup f__law_batch = some ⟨oc__law_batch, od__law_batch, .func (PySem.W.fnOf "_law_batch" "_law_batch" (defArgs s__law_batch) (defBody s__law_batch) (defScope s__law_batch) .none kV__law_batch dc__law_batch pm__law_batch an__law_batch cd__law_batch ct__law_batch), sl__law_batch⟩) (c__law_batch : PySem.W.codeIn K cd__law_batch "_law_batch" = true) (k__law_batch : PySem.W.keepIn K (.ref f__law_batch) = true)
    {od__law_bag an__law_bag : Option Addr} {sl__law_bag : Array (Option Value)} {oc__law_bag kV__law_bag dc__law_bag pm__law_bag cd__law_bag ct__law_bag : Value} (a__law_bag : PySem.W.nsIn K mainGlobals "_law_bag" = some (some (.ref f__law_bag))) (l__law_bag : K.lookup f__law_bag = some ⟨oc__law_bag, od__law_bag, .func (PySem.W.fnOf "_law_bag" "_law_bag" (defArgs s__law_bag) (defBody s__law_bag) (defScope s__law_bag) .none kV__law_bag dc__law_bag pm__law_bag an__law_bag cd__law_bag ct__law_bag), sl__law_bag⟩) (c__law_bag : PySem.W.codeIn K cd__law_bag "_law_bag" = true) (k__law_bag : PySem.W.keepIn K (.ref f__law_bag) = true)
    {od__law_of an__law_of : Option Addr} {sl__law_of : Array (Option Value)} {oc__law_of kV__law_of dc__law_of pm__law_of cd__law_of ct__law_of : Value} (a__law_of : PySem.W.nsIn K mainGlobals "_law_of" = some (some (.ref f__law_of))) (l__law_of : K.lookup f__law_of = some ⟨oc__law_of, od__law_of, .func (PySem.W.fnOf "_law_of" "_law_of" (defArgs s__law_of) (defBody s__law_of) (defScope s__law_of) .none kV__law_of dc__law_of pm__law_of an__law_of cd__law_of ct__law_of), sl__law_of⟩) (c__law_of : PySem.W.codeIn K cd__law_of "_law_of" = true) (k__law_of : PySem.W.keepIn K (.ref f__law_of) = true)
    {od__law_a_deed an__law_a_deed : Option Addr} {sl__law_a_deed : Array (Option Value)} {oc__law_a_deed kV__law_a_deed dc__law_a_deed pm__law_a_deed cd__law_a_deed ct__law_a_deed : Value} (a__law_a_deed : PySem.W.nsIn K mainGlobals "_law_a_deed" = some (some (.ref f__law_a_deed))) (l__law_a_deed : K.lookup f__law_a_deed = some ⟨oc__law_a_deed, od__law_a_deed, .func (PySem.W.fnOf "_law_a_deed" "_law_a_deed" (defArgs s__law_a_deed) (defBody s__law_a_deed) (defScope s__law_a_deed) .none kV__law_a_deed dc__law_a_deed pm__law_a_deed an__law_a_deed cd__law_a_deed ct__law_a_deed), sl__law_a_deed⟩) (c__law_a_deed : PySem.W.codeIn K cd__law_a_deed "_law_a_deed" = true) (k__law_a_deed : PySem.W.keepIn K (.ref f__law_a_deed) = true)
    {od__law_within an__law_within : Option Addr} {sl__law_within : Array (Option Value)} {oc__law_within kV__law_within dc__law_within pm__law_within cd__law_within ct__law_within : Value} (a__law_within : PySem.W.nsIn K mainGlobals "_law_within" = some (some (.ref f__law_within))) (l__law_within : K.lookup f__law_within = some ⟨oc__law_within, od__law_within, .func (PySem.W.fnOf "_law_within" "_law_within" (defArgs s__law_within) (defBody s__law_within) (defScope s__law_within) .none kV__law_within dc__law_within pm__law_within an__law_within cd__law_within ct__law_within), sl__law_within⟩) (c__law_within : PySem.W.codeIn K cd__law_within "_law_within" = true) (k__law_within : PySem.W.keepIn K (.ref f__law_within) = true)
    {od__law_due an__law_due : Option Addr} {sl__law_due : Array (Option Value)} {oc__law_due kV__law_due dc__law_due pm__law_due cd__law_due ct__law_due : Value} (a__law_due : PySem.W.nsIn K mainGlobals "_law_due" = some (some (.ref f__law_due))) (l__law_due : K.lookup f__law_due = some ⟨oc__law_due, od__law_due, .func (PySem.W.fnOf "_law_due" "_law_due" (defArgs s__law_due) (defBody s__law_due) (defScope s__law_due) .none kV__law_due dc__law_due pm__law_due an__law_due cd__law_due ct__law_due), sl__law_due⟩) (c__law_due : PySem.W.codeIn K cd__law_due "_law_due" = true) (k__law_due : PySem.W.keepIn K (.ref f__law_due) = true)
    {od_raised an_raised : Option Addr} {sl_raised : Array (Option Value)} {oc_raised kV_raised dc_raised pm_raised cd_raised ct_raised : Value} (a_raised : PySem.W.nsIn K mainGlobals "raised" = some (some (.ref f_raised))) (l_raised : K.lookup f_raised = some ⟨oc_raised, od_raised, .func (PySem.W.fnOf "raised" "raised" (defArgs s_raised) (defBody s_raised) (defScope s_raised) .none kV_raised dc_raised pm_raised an_raised cd_raised ct_raised), sl_raised⟩) (c_raised : PySem.W.codeIn K cd_raised "raised" = true) (k_raised : PySem.W.keepIn K (.ref f_raised) = true)
    {od_first_bounds an_first_bounds : Option Addr} {sl_first_bounds : Array (Option Value)} {oc_first_bounds kV_first_bounds dc_first_bounds pm_first_bounds cd_first_bounds ct_first_bounds : Value} (a_first_bounds : PySem.W.nsIn K mainGlobals "first_bounds" = some (some (.ref f_first_bounds))) (l_first_bounds : K.lookup f_first_bounds = some ⟨oc_first_bounds, od_first_bounds, .func (PySem.W.fnOf "first_bounds" "first_bounds" (defArgs s_first_bounds) (defBody s_first_bounds) (defScope s_first_bounds) .none kV_first_bounds dc_first_bounds pm_first_bounds an_first_bounds cd_first_bounds ct_first_bounds), sl_first_bounds⟩) (c_first_bounds : PySem.W.codeIn K cd_first_bounds "first_bounds" = true) (k_first_bounds : PySem.W.keepIn K (.ref f_first_bounds) = true)
    {od_least_outs an_least_outs : Option Addr} {sl_least_outs : Array (Option Value)} {oc_least_outs kV_least_outs dc_least_outs pm_least_outs cd_least_outs ct_least_outs : Value} (a_least_outs : PySem.W.nsIn K mainGlobals "least_outs" = some (some (.ref f_least_outs))) (l_least_outs : K.lookup f_least_outs = some ⟨oc_least_outs, od_least_outs, .func (PySem.W.fnOf "least_outs" "least_outs" (defArgs s_least_outs) (defBody s_least_outs) (defScope s_least_outs) .none kV_least_outs dc_least_outs pm_least_outs an_least_outs cd_least_outs ct_least_outs), sl_least_outs⟩) (c_least_outs : PySem.W.codeIn K cd_least_outs "least_outs" = true) (k_least_outs : PySem.W.keepIn K (.ref f_least_outs) = true)
    {od_is_from an_is_from : Option Addr} {sl_is_from : Array (Option Value)} {oc_is_from kV_is_from dc_is_from pm_is_from cd_is_from ct_is_from : Value} (a_is_from : PySem.W.nsIn K mainGlobals "is_from" = some (some (.ref f_is_from))) (l_is_from : K.lookup f_is_from = some ⟨oc_is_from, od_is_from, .func (PySem.W.fnOf "is_from" "is_from" (defArgs s_is_from) (defBody s_is_from) (defScope s_is_from) .none kV_is_from dc_is_from pm_is_from an_is_from cd_is_from ct_is_from), sl_is_from⟩) (c_is_from : PySem.W.codeIn K cd_is_from "is_from" = true) (k_is_from : PySem.W.keepIn K (.ref f_is_from) = true)
    {od_is_name an_is_name : Option Addr} {sl_is_name : Array (Option Value)} {oc_is_name kV_is_name dc_is_name pm_is_name cd_is_name ct_is_name : Value} (a_is_name : PySem.W.nsIn K mainGlobals "is_name" = some (some (.ref f_is_name))) (l_is_name : K.lookup f_is_name = some ⟨oc_is_name, od_is_name, .func (PySem.W.fnOf "is_name" "is_name" (defArgs s_is_name) (defBody s_is_name) (defScope s_is_name) .none kV_is_name dc_is_name pm_is_name an_is_name cd_is_name ct_is_name), sl_is_name⟩) (c_is_name : PySem.W.codeIn K cd_is_name "is_name" = true) (k_is_name : PySem.W.keepIn K (.ref f_is_name) = true)
    {od_is_loaf an_is_loaf : Option Addr} {sl_is_loaf : Array (Option Value)} {oc_is_loaf kV_is_loaf dc_is_loaf pm_is_loaf cd_is_loaf ct_is_loaf : Value} (a_is_loaf : PySem.W.nsIn K mainGlobals "is_loaf" = some (some (.ref f_is_loaf))) (l_is_loaf : K.lookup f_is_loaf = some ⟨oc_is_loaf, od_is_loaf, .func (PySem.W.fnOf "is_loaf" "is_loaf" (defArgs s_is_loaf) (defBody s_is_loaf) (defScope s_is_loaf) .none kV_is_loaf dc_is_loaf pm_is_loaf an_is_loaf cd_is_loaf ct_is_loaf), sl_is_loaf⟩) (c_is_loaf : PySem.W.codeIn K cd_is_loaf "is_loaf" = true) (k_is_loaf : PySem.W.keepIn K (.ref f_is_loaf) = true)
    {od_is_batch an_is_batch : Option Addr} {sl_is_batch : Array (Option Value)} {oc_is_batch kV_is_batch dc_is_batch pm_is_batch cd_is_batch ct_is_batch : Value} (a_is_batch : PySem.W.nsIn K mainGlobals "is_batch" = some (some (.ref f_is_batch))) (l_is_batch : K.lookup f_is_batch = some ⟨oc_is_batch, od_is_batch, .func (PySem.W.fnOf "is_batch" "is_batch" (defArgs s_is_batch) (defBody s_is_batch) (defScope s_is_batch) .none kV_is_batch dc_is_batch pm_is_batch an_is_batch cd_is_batch ct_is_batch), sl_is_batch⟩) (c_is_batch : PySem.W.codeIn K cd_is_batch "is_batch" = true) (k_is_batch : PySem.W.keepIn K (.ref f_is_batch) = true)
    {od__law_baked_right an__law_baked_right : Option Addr} {sl__law_baked_right : Array (Option Value)} {oc__law_baked_right kV__law_baked_right dc__law_baked_right pm__law_baked_right cd__law_baked_right ct__law_baked_right : Value} (a__law_baked_right : PySem.W.nsIn K mainGlobals "_law_baked_right" = some (some (.ref f__law_baked_right))) (l__law_baked_right : K.lookup f__law_baked_right = some ⟨oc__law_baked_right, od__law_baked_right, .func (PySem.W.fnOf "_law_baked_right" "_law_baked_right" (defArgs s__law_baked_right) (defBody s__law_baked_right) (defScope s__law_baked_right) .none kV__law_baked_right dc__law_baked_right pm__law_baked_right an__law_baked_right cd__law_baked_right ct__law_baked_right), sl__law_baked_right⟩) (c__law_baked_right : PySem.W.codeIn K cd__law_baked_right "_law_baked_right" = true) (k__law_baked_right : PySem.W.keepIn K (.ref f__law_baked_right) = true)
    {od__law_kind an__law_kind : Option Addr} {sl__law_kind : Array (Option Value)} {oc__law_kind kV__law_kind dc__law_kind pm__law_kind cd__law_kind ct__law_kind : Value} (a__law_kind : PySem.W.nsIn K mainGlobals "_law_kind" = some (some (.ref f__law_kind))) (l__law_kind : K.lookup f__law_kind = some ⟨oc__law_kind, od__law_kind, .func (PySem.W.fnOf "_law_kind" "_law_kind" (defArgs s__law_kind) (defBody s__law_kind) (defScope s__law_kind) .none kV__law_kind dc__law_kind pm__law_kind an__law_kind cd__law_kind ct__law_kind), sl__law_kind⟩) (c__law_kind : PySem.W.codeIn K cd__law_kind "_law_kind" = true) (k__law_kind : PySem.W.keepIn K (.ref f__law_kind) = true)
    {od__law_did an__law_did : Option Addr} {sl__law_did : Array (Option Value)} {oc__law_did kV__law_did dc__law_did pm__law_did cd__law_did ct__law_did : Value} (a__law_did : PySem.W.nsIn K mainGlobals "_law_did" = some (some (.ref f__law_did))) (l__law_did : K.lookup f__law_did = some ⟨oc__law_did, od__law_did, .func (PySem.W.fnOf "_law_did" "_law_did" (defArgs s__law_did) (defBody s__law_did) (defScope s__law_did) .none kV__law_did dc__law_did pm__law_did an__law_did cd__law_did ct__law_did), sl__law_did⟩) (c__law_did : PySem.W.codeIn K cd__law_did "_law_did" = true) (k__law_did : PySem.W.keepIn K (.ref f__law_did) = true)
    {od__law_can_still an__law_can_still : Option Addr} {sl__law_can_still : Array (Option Value)} {oc__law_can_still kV__law_can_still dc__law_can_still pm__law_can_still cd__law_can_still ct__law_can_still : Value} (a__law_can_still : PySem.W.nsIn K mainGlobals "_law_can_still" = some (some (.ref f__law_can_still))) (l__law_can_still : K.lookup f__law_can_still = some ⟨oc__law_can_still, od__law_can_still, .func (PySem.W.fnOf "_law_can_still" "_law_can_still" (defArgs s__law_can_still) (defBody s__law_can_still) (defScope s__law_can_still) .none kV__law_can_still dc__law_can_still pm__law_can_still an__law_can_still cd__law_can_still ct__law_can_still), sl__law_can_still⟩) (c__law_can_still : PySem.W.codeIn K cd__law_can_still "_law_can_still" = true) (k__law_can_still : PySem.W.keepIn K (.ref f__law_can_still) = true)
    {od__law_stands_so an__law_stands_so : Option Addr} {sl__law_stands_so : Array (Option Value)} {oc__law_stands_so kV__law_stands_so dc__law_stands_so pm__law_stands_so cd__law_stands_so ct__law_stands_so : Value} (a__law_stands_so : PySem.W.nsIn K mainGlobals "_law_stands_so" = some (some (.ref f__law_stands_so))) (l__law_stands_so : K.lookup f__law_stands_so = some ⟨oc__law_stands_so, od__law_stands_so, .func (PySem.W.fnOf "_law_stands_so" "_law_stands_so" (defArgs s__law_stands_so) (defBody s__law_stands_so) (defScope s__law_stands_so) .none kV__law_stands_so dc__law_stands_so pm__law_stands_so an__law_stands_so cd__law_stands_so ct__law_stands_so), sl__law_stands_so⟩) (c__law_stands_so : PySem.W.codeIn K cd__law_stands_so "_law_stands_so" = true) (k__law_stands_so : PySem.W.keepIn K (.ref f__law_stands_so) = true)
    {od_law an_law : Option Addr} {sl_law : Array (Option Value)} {oc_law kV_law dc_law pm_law cd_law ct_law : Value} (a_law : PySem.W.nsIn K mainGlobals "law" = some (some (.ref f_law))) (l_law : K.lookup f_law = some ⟨oc_law, od_law, .func (PySem.W.fnOf "law" "law" (defArgs s_law) (defBody s_law) (defScope s_law) .none kV_law dc_law pm_law an_law cd_law ct_law), sl_law⟩) (c_law : PySem.W.codeIn K cd_law "law" = true) (k_law : PySem.W.keepIn K (.ref f_law) = true)
    {od_Oven___init__ an_Oven___init__ : Option Addr} {sl_Oven___init__ : Array (Option Value)} {oc_Oven___init__ kV_Oven___init__ dc_Oven___init__ pm_Oven___init__ cd_Oven___init__ ct_Oven___init__ : Value} (a_Oven___init__ : PySem.W.findIn K (.ref C) "__init__" = some (some (.ref f_Oven___init__))) (i_Oven___init__ : PySem.W.isFn K (.ref f_Oven___init__) = true) (l_Oven___init__ : K.lookup f_Oven___init__ = some ⟨oc_Oven___init__, od_Oven___init__, .func (PySem.W.fnOf "__init__" "Oven.__init__" (defArgs s_Oven___init__) (defBody s_Oven___init__) (defScope s_Oven___init__) .none kV_Oven___init__ dc_Oven___init__ pm_Oven___init__ an_Oven___init__ cd_Oven___init__ ct_Oven___init__), sl_Oven___init__⟩) (c_Oven___init__ : PySem.W.codeIn K cd_Oven___init__ "Oven.__init__" = true) (k_Oven___init__ : PySem.W.keepIn K (.ref f_Oven___init__) = true)
    {od_Oven_places_within an_Oven_places_within : Option Addr} {sl_Oven_places_within : Array (Option Value)} {oc_Oven_places_within kV_Oven_places_within dc_Oven_places_within pm_Oven_places_within cd_Oven_places_within ct_Oven_places_within : Value} (a_Oven_places_within : PySem.W.findIn K (.ref C) "places_within" = some (some (.ref f_Oven_places_within))) (i_Oven_places_within : PySem.W.isFn K (.ref f_Oven_places_within) = true) (l_Oven_places_within : K.lookup f_Oven_places_within = some ⟨oc_Oven_places_within, od_Oven_places_within, .func (PySem.W.fnOf "places_within" "Oven.places_within" (defArgs s_Oven_places_within) (defBody s_Oven_places_within) (defScope s_Oven_places_within) .none kV_Oven_places_within dc_Oven_places_within pm_Oven_places_within an_Oven_places_within cd_Oven_places_within ct_Oven_places_within), sl_Oven_places_within⟩) (c_Oven_places_within : PySem.W.codeIn K cd_Oven_places_within "Oven.places_within" = true) (k_Oven_places_within : PySem.W.keepIn K (.ref f_Oven_places_within) = true)
    {od_Oven_take an_Oven_take : Option Addr} {sl_Oven_take : Array (Option Value)} {oc_Oven_take kV_Oven_take dc_Oven_take pm_Oven_take cd_Oven_take ct_Oven_take : Value} (a_Oven_take : PySem.W.findIn K (.ref C) "take" = some (some (.ref f_Oven_take))) (i_Oven_take : PySem.W.isFn K (.ref f_Oven_take) = true) (l_Oven_take : K.lookup f_Oven_take = some ⟨oc_Oven_take, od_Oven_take, .func (PySem.W.fnOf "take" "Oven.take" (defArgs s_Oven_take) (defBody s_Oven_take) (defScope s_Oven_take) .none kV_Oven_take dc_Oven_take pm_Oven_take an_Oven_take cd_Oven_take ct_Oven_take), sl_Oven_take⟩) (c_Oven_take : PySem.W.codeIn K cd_Oven_take "Oven.take" = true) (k_Oven_take : PySem.W.keepIn K (.ref f_Oven_take) = true)
    {od_Oven_can_still an_Oven_can_still : Option Addr} {sl_Oven_can_still : Array (Option Value)} {oc_Oven_can_still kV_Oven_can_still dc_Oven_can_still pm_Oven_can_still cd_Oven_can_still ct_Oven_can_still : Value} (a_Oven_can_still : PySem.W.findIn K (.ref C) "can_still" = some (some (.ref f_Oven_can_still))) (i_Oven_can_still : PySem.W.isFn K (.ref f_Oven_can_still) = true) (l_Oven_can_still : K.lookup f_Oven_can_still = some ⟨oc_Oven_can_still, od_Oven_can_still, .func (PySem.W.fnOf "can_still" "Oven.can_still" (defArgs s_Oven_can_still) (defBody s_Oven_can_still) (defScope s_Oven_can_still) .none kV_Oven_can_still dc_Oven_can_still pm_Oven_can_still an_Oven_can_still cd_Oven_can_still ct_Oven_can_still), sl_Oven_can_still⟩) (c_Oven_can_still : PySem.W.codeIn K cd_Oven_can_still "Oven.can_still" = true) (k_Oven_can_still : PySem.W.keepIn K (.ref f_Oven_can_still) = true)
    {od_Oven_tick an_Oven_tick : Option Addr} {sl_Oven_tick : Array (Option Value)} {oc_Oven_tick kV_Oven_tick dc_Oven_tick pm_Oven_tick cd_Oven_tick ct_Oven_tick : Value} (a_Oven_tick : PySem.W.findIn K (.ref C) "tick" = some (some (.ref f_Oven_tick))) (i_Oven_tick : PySem.W.isFn K (.ref f_Oven_tick) = true) (l_Oven_tick : K.lookup f_Oven_tick = some ⟨oc_Oven_tick, od_Oven_tick, .func (PySem.W.fnOf "tick" "Oven.tick" (defArgs s_Oven_tick) (defBody s_Oven_tick) (defScope s_Oven_tick) .none kV_Oven_tick dc_Oven_tick pm_Oven_tick an_Oven_tick cd_Oven_tick ct_Oven_tick), sl_Oven_tick⟩) (c_Oven_tick : PySem.W.codeIn K cd_Oven_tick "Oven.tick" = true) (k_Oven_tick : PySem.W.keepIn K (.ref f_Oven_tick) = true)
    {od_Oven_wait an_Oven_wait : Option Addr} {sl_Oven_wait : Array (Option Value)} {oc_Oven_wait kV_Oven_wait dc_Oven_wait pm_Oven_wait cd_Oven_wait ct_Oven_wait : Value} (a_Oven_wait : PySem.W.findIn K (.ref C) "wait" = some (some (.ref f_Oven_wait))) (i_Oven_wait : PySem.W.isFn K (.ref f_Oven_wait) = true) (l_Oven_wait : K.lookup f_Oven_wait = some ⟨oc_Oven_wait, od_Oven_wait, .func (PySem.W.fnOf "wait" "Oven.wait" (defArgs s_Oven_wait) (defBody s_Oven_wait) (defScope s_Oven_wait) .none kV_Oven_wait dc_Oven_wait pm_Oven_wait an_Oven_wait cd_Oven_wait ct_Oven_wait), sl_Oven_wait⟩) (c_Oven_wait : PySem.W.codeIn K cd_Oven_wait "Oven.wait" = true) (k_Oven_wait : PySem.W.keepIn K (.ref f_Oven_wait) = true)
    {od_Oven_within an_Oven_within : Option Addr} {sl_Oven_within : Array (Option Value)} {oc_Oven_within kV_Oven_within dc_Oven_within pm_Oven_within cd_Oven_within ct_Oven_within : Value} (a_Oven_within : PySem.W.findIn K (.ref C) "within" = some (some (.ref f_Oven_within))) (i_Oven_within : PySem.W.isFn K (.ref f_Oven_within) = true) (l_Oven_within : K.lookup f_Oven_within = some ⟨oc_Oven_within, od_Oven_within, .func (PySem.W.fnOf "within" "Oven.within" (defArgs s_Oven_within) (defBody s_Oven_within) (defScope s_Oven_within) .none kV_Oven_within dc_Oven_within pm_Oven_within an_Oven_within cd_Oven_within ct_Oven_within), sl_Oven_within⟩) (c_Oven_within : PySem.W.codeIn K cd_Oven_within "Oven.within" = true) (k_Oven_within : PySem.W.keepIn K (.ref f_Oven_within) = true)
    {od_Oven___len__ an_Oven___len__ : Option Addr} {sl_Oven___len__ : Array (Option Value)} {oc_Oven___len__ kV_Oven___len__ dc_Oven___len__ pm_Oven___len__ cd_Oven___len__ ct_Oven___len__ : Value} (a_Oven___len__ : PySem.W.findIn K (.ref C) "__len__" = some (some (.ref f_Oven___len__))) (i_Oven___len__ : PySem.W.isFn K (.ref f_Oven___len__) = true) (l_Oven___len__ : K.lookup f_Oven___len__ = some ⟨oc_Oven___len__, od_Oven___len__, .func (PySem.W.fnOf "__len__" "Oven.__len__" (defArgs s_Oven___len__) (defBody s_Oven___len__) (defScope s_Oven___len__) .none kV_Oven___len__ dc_Oven___len__ pm_Oven___len__ an_Oven___len__ cd_Oven___len__ ct_Oven___len__), sl_Oven___len__⟩) (c_Oven___len__ : PySem.W.codeIn K cd_Oven___len__ "Oven.__len__" = true) (k_Oven___len__ : PySem.W.keepIn K (.ref f_Oven___len__) = true)
    {od_Oven_out an_Oven_out : Option Addr} {sl_Oven_out : Array (Option Value)} {oc_Oven_out kV_Oven_out dc_Oven_out pm_Oven_out cd_Oven_out ct_Oven_out : Value} (a_Oven_out : PySem.W.findIn K (.ref C) "out" = some (some (.ref f_Oven_out))) (i_Oven_out : PySem.W.isFn K (.ref f_Oven_out) = true) (l_Oven_out : K.lookup f_Oven_out = some ⟨oc_Oven_out, od_Oven_out, .func (PySem.W.fnOf "out" "Oven.out" (defArgs s_Oven_out) (defBody s_Oven_out) (defScope s_Oven_out) .none kV_Oven_out dc_Oven_out pm_Oven_out an_Oven_out cd_Oven_out ct_Oven_out), sl_Oven_out⟩) (c_Oven_out : PySem.W.codeIn K cd_Oven_out "Oven.out" = true) (k_Oven_out : PySem.W.keepIn K (.ref f_Oven_out) = true)
    {od_Oven_back an_Oven_back : Option Addr} {sl_Oven_back : Array (Option Value)} {oc_Oven_back kV_Oven_back dc_Oven_back pm_Oven_back cd_Oven_back ct_Oven_back : Value} (a_Oven_back : PySem.W.findIn K (.ref C) "back" = some (some (.ref f_Oven_back))) (i_Oven_back : PySem.W.isFn K (.ref f_Oven_back) = true) (l_Oven_back : K.lookup f_Oven_back = some ⟨oc_Oven_back, od_Oven_back, .func (PySem.W.fnOf "back" "Oven.back" (defArgs s_Oven_back) (defBody s_Oven_back) (defScope s_Oven_back) .none kV_Oven_back dc_Oven_back pm_Oven_back an_Oven_back cd_Oven_back ct_Oven_back), sl_Oven_back⟩) (c_Oven_back : PySem.W.codeIn K cd_Oven_back "Oven.back" = true) (k_Oven_back : PySem.W.keepIn K (.ref f_Oven_back) = true)
    {od_Oven___eq__ an_Oven___eq__ : Option Addr} {sl_Oven___eq__ : Array (Option Value)} {oc_Oven___eq__ kV_Oven___eq__ dc_Oven___eq__ pm_Oven___eq__ cd_Oven___eq__ ct_Oven___eq__ : Value} (a_Oven___eq__ : PySem.W.findIn K (.ref C) "__eq__" = some (some (.ref f_Oven___eq__))) (i_Oven___eq__ : PySem.W.isFn K (.ref f_Oven___eq__) = true) (l_Oven___eq__ : K.lookup f_Oven___eq__ = some ⟨oc_Oven___eq__, od_Oven___eq__, .func (PySem.W.fnOf "__eq__" "Oven.__eq__" (defArgs s_Oven___eq__) (defBody s_Oven___eq__) (defScope s_Oven___eq__) .none kV_Oven___eq__ dc_Oven___eq__ pm_Oven___eq__ an_Oven___eq__ cd_Oven___eq__ ct_Oven___eq__), sl_Oven___eq__⟩) (c_Oven___eq__ : PySem.W.codeIn K cd_Oven___eq__ "Oven.__eq__" = true) (k_Oven___eq__ : PySem.W.keepIn K (.ref f_Oven___eq__) = true)
    {od_Raw___init__ an_Raw___init__ : Option Addr} {sl_Raw___init__ : Array (Option Value)} {oc_Raw___init__ kV_Raw___init__ dc_Raw___init__ pm_Raw___init__ cd_Raw___init__ ct_Raw___init__ : Value} (a_Raw___init__ : PySem.W.findIn K (.ref cR) "__init__" = some (some (.ref f_Raw___init__))) (i_Raw___init__ : PySem.W.typeIn K (.ref f_Raw___init__) = some (.type "function")) (l_Raw___init__ : K.lookup f_Raw___init__ = some ⟨oc_Raw___init__, od_Raw___init__, .func (PySem.W.fnOf "__init__" "Raw.__init__" (defArgs s_Raw___init__) (defBody s_Raw___init__) (defScope s_Raw___init__) .none kV_Raw___init__ dc_Raw___init__ pm_Raw___init__ an_Raw___init__ cd_Raw___init__ ct_Raw___init__), sl_Raw___init__⟩) (c_Raw___init__ : PySem.W.codeIn K cd_Raw___init__ "Raw.__init__" = true) (k_Raw___init__ : PySem.W.keepIn K (.ref f_Raw___init__) = true)
    (g_cC : PySem.W.nsIn K mainGlobals "Oven" = some (some (.ref C)))
    (g_cC0 : PySem.W.nsIn K mainGlobals "OvenError" = some (some (.ref C0)))
    (g_cCN : PySem.W.nsIn K mainGlobals "NoBatch" = some (some (.ref CN)))
    (g_ccT : PySem.W.nsIn K mainGlobals "NoTicks" = some (some (.ref cT)))
    (g_ccE : PySem.W.nsIn K mainGlobals "Empty" = some (some (.ref cE)))
    (g_ccL : PySem.W.nsIn K mainGlobals "NothingLeft" = some (some (.ref cL)))
    (g_ccR : PySem.W.nsIn K mainGlobals "Raw" = some (some (.ref cR)))
    (o_pg : PySem.W.plainGet K C Str.empty = true)
    (o_hd : PySem.W.hasDictIn K C = true)
    (o_po : PySem.W.plainOver K C = true)
    (o_sa : PySem.W.findIn K (.ref C) "__setattr__" = some (some (.builtin "object.__setattr__")))
    (o_mk : PySem.W.makesIn K C = true)
    (o_kc : PySem.W.keepIn K (.ref C) = true)
    (o_nB : PySem.W.findIn K (.ref C) "batch" = some none)
    (o_nS : PySem.W.findIn K (.ref C) "stands" = some none)
    (z_ha : PySem.W.findIn K (.ref C) "__class__" = some (some (.builtin "object.__class__")))
    (z_hn : PySem.W.specialIn K (.builtin "object.__class__") "__get__" = some (some (.builtin "getset_descriptor.__get__")))
    (z_ht : PySem.W.takesIn K (.builtin "object.__class__") = some true)
    (z_hm : PySem.W.mroIn K C (.type "object") = some true)
    (z_ko : PySem.W.kitOne K (.ref C) (.ref C) = some true)
    (z_kt : PySem.W.kitOne K (.type "tuple") (.ref C) = some false)
    (z_no : PySem.W.notFirst K C (.ref C) = true)
    (z_nt : PySem.W.notFirst K C (.type "tuple") = true)
    (e_x_CN : PySem.W.excIn K CN [.type "ValueError", .type "Exception", .type "BaseException", .type "object"] "ValueError.__new__" = true)
    (e_k_CN : PySem.W.keepIn K (.ref CN) = true)
    (e_b_CN : PySem.W.subIn K (.ref CN) (.type "BaseException") = some true)
    (e_t_CN : PySem.W.typeIn K (.ref CN) = some (.type "type"))
    (e_x_cT : PySem.W.excIn K cT [.type "ValueError", .type "Exception", .type "BaseException", .type "object"] "ValueError.__new__" = true)
    (e_k_cT : PySem.W.keepIn K (.ref cT) = true)
    (e_b_cT : PySem.W.subIn K (.ref cT) (.type "BaseException") = some true)
    (e_t_cT : PySem.W.typeIn K (.ref cT) = some (.type "type"))
    (e_x_cE : PySem.W.excIn K cE [.type "ValueError", .type "Exception", .type "BaseException", .type "object"] "ValueError.__new__" = true)
    (e_k_cE : PySem.W.keepIn K (.ref cE) = true)
    (e_b_cE : PySem.W.subIn K (.ref cE) (.type "BaseException") = some true)
    (e_t_cE : PySem.W.typeIn K (.ref cE) = some (.type "type"))
    (e_x_cL : PySem.W.excIn K cL [.type "ValueError", .type "Exception", .type "BaseException", .type "object"] "ValueError.__new__" = true)
    (e_k_cL : PySem.W.keepIn K (.ref cL) = true)
    (e_b_cL : PySem.W.subIn K (.ref cL) (.type "BaseException") = some true)
    (e_t_cL : PySem.W.typeIn K (.ref cL) = some (.type "type"))
    (te_N : PySem.W.exmOne K (.ref CN) (.ref CN) = some true)
    (x_cl_cT : (PySem.W.clsIn K cT).isSome = true)
    (x_ga_cT : PySem.W.findIn K (.ref cT) "__getattribute__" = some (some (.builtin "BaseException.__getattribute__")))
    (x_gg_cT : PySem.W.findIn K (.ref cT) "__getattr__" = some none)
    (x_ex_cT : PySem.W.subIn K (.ref cT) (.type "BaseException") = some true)
    (x_hd_cT : PySem.W.hasDictIn K cT = true)
    (x_ca_cT : PySem.W.findIn K (.ref cT) "__class__" = some (some (.builtin "object.__class__")))
    (x_cm_cT : PySem.W.mroIn K cT (.type "object") = some true)
    (x_no_cT : PySem.W.findIn K (.ref cT) "name" = some none)
    (x_te_cT : PySem.W.exmOne K (.ref cT) (.ref C0) = some true)
    (x_k0_cT : PySem.W.kitOne K (.ref cT) (.ref cE) = some false)
    (x_k1_cT : PySem.W.kitOne K (.ref cT) (.ref CN) = some false)
    (x_k2_cT : PySem.W.kitOne K (.ref cT) (.ref cL) = some false)
    (x_k3_cT : PySem.W.kitOne K (.ref cT) (.ref cT) = some true)
    (x_k4_cT : PySem.W.kitOne K (.ref cT) (.ref cR) = some false)
    (x_cl_cE : (PySem.W.clsIn K cE).isSome = true)
    (x_ga_cE : PySem.W.findIn K (.ref cE) "__getattribute__" = some (some (.builtin "BaseException.__getattribute__")))
    (x_gg_cE : PySem.W.findIn K (.ref cE) "__getattr__" = some none)
    (x_ex_cE : PySem.W.subIn K (.ref cE) (.type "BaseException") = some true)
    (x_hd_cE : PySem.W.hasDictIn K cE = true)
    (x_ca_cE : PySem.W.findIn K (.ref cE) "__class__" = some (some (.builtin "object.__class__")))
    (x_cm_cE : PySem.W.mroIn K cE (.type "object") = some true)
    (x_no_cE : PySem.W.findIn K (.ref cE) "name" = some none)
    (x_te_cE : PySem.W.exmOne K (.ref cE) (.ref C0) = some true)
    (x_k0_cE : PySem.W.kitOne K (.ref cE) (.ref cE) = some true)
    (x_k1_cE : PySem.W.kitOne K (.ref cE) (.ref CN) = some false)
    (x_k2_cE : PySem.W.kitOne K (.ref cE) (.ref cL) = some false)
    (x_k3_cE : PySem.W.kitOne K (.ref cE) (.ref cT) = some false)
    (x_k4_cE : PySem.W.kitOne K (.ref cE) (.ref cR) = some false)
    (x_cl_cL : (PySem.W.clsIn K cL).isSome = true)
    (x_ga_cL : PySem.W.findIn K (.ref cL) "__getattribute__" = some (some (.builtin "BaseException.__getattribute__")))
    (x_gg_cL : PySem.W.findIn K (.ref cL) "__getattr__" = some none)
    (x_ex_cL : PySem.W.subIn K (.ref cL) (.type "BaseException") = some true)
    (x_hd_cL : PySem.W.hasDictIn K cL = true)
    (x_ca_cL : PySem.W.findIn K (.ref cL) "__class__" = some (some (.builtin "object.__class__")))
    (x_cm_cL : PySem.W.mroIn K cL (.type "object") = some true)
    (x_no_cL : PySem.W.findIn K (.ref cL) "name" = some none)
    (x_te_cL : PySem.W.exmOne K (.ref cL) (.ref C0) = some true)
    (x_k0_cL : PySem.W.kitOne K (.ref cL) (.ref cE) = some false)
    (x_k1_cL : PySem.W.kitOne K (.ref cL) (.ref CN) = some false)
    (x_k2_cL : PySem.W.kitOne K (.ref cL) (.ref cL) = some true)
    (x_k3_cL : PySem.W.kitOne K (.ref cL) (.ref cT) = some false)
    (x_k4_cL : PySem.W.kitOne K (.ref cL) (.ref cR) = some false)
    (x_cl_cR : (PySem.W.clsIn K cR).isSome = true)
    (x_ga_cR : PySem.W.findIn K (.ref cR) "__getattribute__" = some (some (.builtin "BaseException.__getattribute__")))
    (x_gg_cR : PySem.W.findIn K (.ref cR) "__getattr__" = some none)
    (x_ex_cR : PySem.W.subIn K (.ref cR) (.type "BaseException") = some true)
    (x_hd_cR : PySem.W.hasDictIn K cR = true)
    (x_ca_cR : PySem.W.findIn K (.ref cR) "__class__" = some (some (.builtin "object.__class__")))
    (x_cm_cR : PySem.W.mroIn K cR (.type "object") = some true)
    (x_no_cR : PySem.W.findIn K (.ref cR) "name" = some none)
    (x_te_cR : PySem.W.exmOne K (.ref cR) (.ref C0) = some true)
    (x_k0_cR : PySem.W.kitOne K (.ref cR) (.ref cE) = some false)
    (x_k1_cR : PySem.W.kitOne K (.ref cR) (.ref CN) = some false)
    (x_k2_cR : PySem.W.kitOne K (.ref cR) (.ref cL) = some false)
    (x_k3_cR : PySem.W.kitOne K (.ref cR) (.ref cT) = some false)
    (x_k4_cR : PySem.W.kitOne K (.ref cR) (.ref cR) = some true)
    {nm qn : Str} {N : Addr} {bs : List Value} {sn : List Str} {sub : List Value} {ab : Bool} {col : Option Bool} {dd : Option Addr} {m0 m1 m2 m3 m5 : Option Value}
    (r_L : K.lookup cR = some (excClassObj nm qn cR N bs [.ref C0, .type "ValueError", .type "Exception", .type "BaseException", .type "object"] true sn sub ab col dd m0 m1 m2 m3 m5 "ValueError.__new__"))
    (r_sa : PySem.W.findIn K (.ref cR) "__setattr__" = some (some (.builtin "object.__setattr__")))
    (r_ty : PySem.W.typeIn K (.ref cR) = some (.type "type"))
    (r_kC : PySem.W.keepIn K (.ref cR) = true)
    (r_s0 : PySem.W.specialIn K (.ref C0) "__getattribute__" = some (some (.builtin "type.__getattribute__")))
    (r_r0 : PySem.W.readsIn K C0 (.type "type") = true)
    (r_v0 : PySem.W.findCls K (.ref C0) (.type "type") "__init__" = some (.val (.builtin "ValueError.__init__")))
    (r_te : PySem.W.exmOne K (.ref cR) (.ref cR) = some true)
    (r_ki : PySem.W.kitOne K (.ref cR) (.ref C0) = some true)
    (b_all : PySem.W.nsIn K mainGlobals "all" = some none)
    (b_any : PySem.W.nsIn K mainGlobals "any" = some none)
    (b_bool : PySem.W.nsIn K mainGlobals "bool" = some none)
    (b_enumerate : PySem.W.nsIn K mainGlobals "enumerate" = some none)
    (b_int : PySem.W.nsIn K mainGlobals "int" = some none)
    (b_isinstance : PySem.W.nsIn K mainGlobals "isinstance" = some none)
    (b_len : PySem.W.nsIn K mainGlobals "len" = some none)
    (b_list : PySem.W.nsIn K mainGlobals "list" = some none)
    (b_max : PySem.W.nsIn K mainGlobals "max" = some none)
    (b_min : PySem.W.nsIn K mainGlobals "min" = some none)
    (b_range : PySem.W.nsIn K mainGlobals "range" = some none)
    (b_reversed : PySem.W.nsIn K mainGlobals "reversed" = some none)
    (b_sorted : PySem.W.nsIn K mainGlobals "sorted" = some none)
    (b_str : PySem.W.nsIn K mainGlobals "str" = some none)
    (b_tuple : PySem.W.nsIn K mainGlobals "tuple" = some none)
    (b_zip : PySem.W.nsIn K mainGlobals "zip" = some none)
    {tk_LAST : Tok}
    (g_LAST : PySem.W.nsIn K mainGlobals "LAST" = some (some (.int 40 tk_LAST)))
    {tk_LEAST : Tok}
    (g_LEAST : PySem.W.nsIn K mainGlobals "LEAST" = some (some (.int 40 tk_LEAST)))
    {tk_LETTERS : Tok}
    (g_LETTERS : PySem.W.nsIn K mainGlobals "LETTERS" = some (some (.str "abcdefghijklmnopqrstuvwxyz" tk_LETTERS)))
    {tk_LOAVES : Tok}
    (g_LOAVES : PySem.W.nsIn K mainGlobals "LOAVES" = some (some (.int 8 tk_LOAVES)))
    {tk_MOST : Tok}
    (g_MOST : PySem.W.nsIn K mainGlobals "MOST" = some (some (.int 60 tk_MOST))) :
    ∃ fd : FuncData, (∀ (s : Shared) (v : Value), BindsTo s fd ⟨[v], []⟩ [("script", v)]) ∧ ∀ base : Heap, K.In base → base.Ns mainGlobals mg → FnOk l.prog w K mg base CX0 7 fa fd ["script"] (spF K F_law) := by
  have e := hfa.symm.trans (PySem.W.mg_of X G a_law)
  cases e
  have T : Txt mg := ⟨PySem.W.mg_none_of X G b_all, PySem.W.mg_none_of X G b_any, PySem.W.mg_none_of X G b_bool, PySem.W.mg_none_of X G b_enumerate, PySem.W.mg_none_of X G b_int, PySem.W.mg_none_of X G b_isinstance, PySem.W.mg_none_of X G b_len, PySem.W.mg_none_of X G b_list, PySem.W.mg_none_of X G b_max, PySem.W.mg_none_of X G b_min, PySem.W.mg_none_of X G b_range, PySem.W.mg_none_of X G b_reversed, PySem.W.mg_none_of X G b_sorted, PySem.W.mg_none_of X G b_str, PySem.W.mg_none_of X G b_tuple, PySem.W.mg_none_of X G b_zip, ⟨_, PySem.W.mg_of X G g_LAST⟩, ⟨_, PySem.W.mg_of X G g_LEAST⟩, ⟨_, PySem.W.mg_of X G g_LETTERS⟩, ⟨_, PySem.W.mg_of X G g_LOAVES⟩, ⟨_, PySem.W.mg_of X G g_MOST⟩⟩
  have D_Raw___init__ := fun_mk (st := s_Raw___init__) l_Raw___init__ c_Raw___init__ k_Raw___init__
  have D__law_take := fun_mk (st := s__law_take) l__law_take c__law_take k__law_take
  have D__law_batch := fun_mk (st := s__law_batch) l__law_batch c__law_batch k__law_batch
  have D__law_bag := fun_mk (st := s__law_bag) l__law_bag c__law_bag k__law_bag
  have D__law_of := fun_mk (st := s__law_of) l__law_of c__law_of k__law_of
  have D__law_a_deed := fun_mk (st := s__law_a_deed) l__law_a_deed c__law_a_deed k__law_a_deed
  have D__law_within := fun_mk (st := s__law_within) l__law_within c__law_within k__law_within
  have D__law_due := fun_mk (st := s__law_due) l__law_due c__law_due k__law_due
  have D_raised := fun_mk (st := s_raised) l_raised c_raised k_raised
  have D_first_bounds := fun_mk (st := s_first_bounds) l_first_bounds c_first_bounds k_first_bounds
  have D_least_outs := fun_mk (st := s_least_outs) l_least_outs c_least_outs k_least_outs
  have D_is_from := fun_mk (st := s_is_from) l_is_from c_is_from k_is_from
  have D_is_name := fun_mk (st := s_is_name) l_is_name c_is_name k_is_name
  have D_is_loaf := fun_mk (st := s_is_loaf) l_is_loaf c_is_loaf k_is_loaf
  have D_is_batch := fun_mk (st := s_is_batch) l_is_batch c_is_batch k_is_batch
  have D_Oven___init__ := fun_mk (st := s_Oven___init__) l_Oven___init__ c_Oven___init__ k_Oven___init__
  have D_Oven_places_within := fun_mk (st := s_Oven_places_within) l_Oven_places_within c_Oven_places_within k_Oven_places_within
  have D_Oven_take := fun_mk (st := s_Oven_take) l_Oven_take c_Oven_take k_Oven_take
  have D_Oven_can_still := fun_mk (st := s_Oven_can_still) l_Oven_can_still c_Oven_can_still k_Oven_can_still
  have D_Oven_tick := fun_mk (st := s_Oven_tick) l_Oven_tick c_Oven_tick k_Oven_tick
  have D_Oven_wait := fun_mk (st := s_Oven_wait) l_Oven_wait c_Oven_wait k_Oven_wait
  have D_Oven_within := fun_mk (st := s_Oven_within) l_Oven_within c_Oven_within k_Oven_within
  have D_Oven___len__ := fun_mk (st := s_Oven___len__) l_Oven___len__ c_Oven___len__ k_Oven___len__
  have D_Oven_out := fun_mk (st := s_Oven_out) l_Oven_out c_Oven_out k_Oven_out
  have D__law_baked_right := fun_mk (st := s__law_baked_right) l__law_baked_right c__law_baked_right k__law_baked_right
  have D__law_kind := fun_mk (st := s__law_kind) l__law_kind c__law_kind k__law_kind
  have D_Oven_back := fun_mk (st := s_Oven_back) l_Oven_back c_Oven_back k_Oven_back
  have D__law_did := fun_mk (st := s__law_did) l__law_did c__law_did k__law_did
  have D__law_can_still := fun_mk (st := s__law_can_still) l__law_can_still c__law_can_still k__law_can_still
  have D__law_stands_so := fun_mk (st := s__law_stands_so) l__law_stands_so c__law_stands_so k__law_stands_so
  have D_Oven___eq__ := fun_mk (st := s_Oven___eq__) l_Oven___eq__ c_Oven___eq__ k_Oven___eq__
  have D_law := fun_mk (st := s_law) l_law c_law k_law
  have O : OvnC K C := ⟨⟨o_pg, o_hd, o_po, o_sa⟩, o_nB, o_nS, g_cC⟩
  have Z : EqC K C := ⟨z_ha, z_hn, z_ht, z_hm, z_ko, z_kt, z_no, z_nt⟩
  have gO : mg "Oven" = some (.ref C) := PySem.W.mg_of X G g_cC
  have g0 : mg "OvenError" = some (.ref C0) := PySem.W.mg_of X G g_cC0
  have gN : mg "NoBatch" = some (.ref CN) := PySem.W.mg_of X G g_cCN
  have MK : Mk K C f_Oven___init__ := ⟨o_mk, a_Oven___init__, i_Oven___init__, o_kc⟩
  have EG : EkG mg ⟨cT, cE, cL, cR⟩ CN := ⟨PySem.W.mg_of X G g_ccE, gN, PySem.W.mg_of X G g_ccL, PySem.W.mg_of X G g_ccT, PySem.W.mg_of X G g_ccR⟩
  have EY : EkT K ⟨cT, cE, cL, cR⟩ CN C0 := ⟨fun k => by cases k <;> first | exact ⟨⟨x_cl_cT, x_ga_cT, x_gg_cT, x_ex_cT, x_hd_cT, x_ca_cT, z_hn, z_ht, x_cm_cT⟩, x_k0_cT, x_k1_cT, x_k2_cT, x_k3_cT, x_k4_cT⟩ | exact ⟨⟨x_cl_cE, x_ga_cE, x_gg_cE, x_ex_cE, x_hd_cE, x_ca_cE, z_hn, z_ht, x_cm_cE⟩, x_k0_cE, x_k1_cE, x_k2_cE, x_k3_cE, x_k4_cE⟩ | exact ⟨⟨x_cl_cL, x_ga_cL, x_gg_cL, x_ex_cL, x_hd_cL, x_ca_cL, z_hn, z_ht, x_cm_cL⟩, x_k0_cL, x_k1_cL, x_k2_cL, x_k3_cL, x_k4_cL⟩ | exact ⟨⟨x_cl_cR, x_ga_cR, x_gg_cR, x_ex_cR, x_hd_cR, x_ca_cR, z_hn, z_ht, x_cm_cR⟩, x_k0_cR, x_k1_cR, x_k2_cR, x_k3_cR, x_k4_cR⟩, fun k => by cases k <;> first | exact x_no_cT | exact x_no_cE | exact x_no_cL | exact x_no_cR, fun k => by cases k <;> first | exact x_te_cT | exact x_te_cE | exact x_te_cL | exact x_te_cR⟩
  have E_CN : TxtE K mg "NoBatch" CN := ⟨PySem.W.mg_of X G g_cCN, e_x_CN, e_k_CN, e_b_CN, e_t_CN⟩
  have E_cT : TxtE K mg "NoTicks" cT := ⟨PySem.W.mg_of X G g_ccT, e_x_cT, e_k_cT, e_b_cT, e_t_cT⟩
  have E_cE : TxtE K mg "Empty" cE := ⟨PySem.W.mg_of X G g_ccE, e_x_cE, e_k_cE, e_b_cE, e_t_cE⟩
  have E_cL : TxtE K mg "NothingLeft" cL := ⟨PySem.W.mg_of X G g_ccL, e_x_cL, e_k_cL, e_b_cL, e_t_cL⟩
  have TE : ErrC K mg "OvenError" "Raw" "name" C0 cR f_Raw___init__ := ⟨g0, PySem.W.mg_of X G g_ccR, ⟨⟨nm, qn, N, bs, _, sn, sub, ab, col, dd, m0, m1, m2, m3, m5, r_L, show PySem.HandSPX.refsVE [.type "ValueError", .type "Exception", .type "BaseException", .type "object"] = true from by decide +kernel⟩, r_sa, x_ex_cR, r_ty, r_kC⟩, x_no_cR, a_Raw___init__, i_Raw___init__, r_s0, r_r0, r_v0, ⟨x_ga_cR, x_gg_cR, x_ex_cR, x_hd_cR⟩, x_cl_cR, x_ca_cR, z_hn, z_ht, x_cm_cR, r_te, r_ki⟩
  refine ⟨PySem.W.fnOf "law" "law" (defArgs s_law) (defBody s_law) (defScope s_law) .none kV_law dc_law pm_law an_law cd_law ct_law, fun s v => .of_eq rfl, fun base _ _ => ?_⟩
  have C__law_take : Cal l.prog w K mg base 1 "_law_take" f__law_take _ ["bag", "count"] (spB K 0 F__law_take) := ⟨ok__law_take T D__law_take, PySem.W.mg_of X G a__law_take, k__law_take, D__law_take.binds (ps := ["bag", "count"]) fun _ _ _ _ _ _ us hl => match us, hl with | [_, _], _ => rfl⟩
  have C__law_batch : Cal l.prog w K mg base 2 "_law_batch" f__law_batch _ ["bag", "many", "wide", "spare"] (spB K 0 F__law_batch) := ⟨ok__law_batch T C__law_take D__law_batch, PySem.W.mg_of X G a__law_batch, k__law_batch, D__law_batch.binds (ps := ["bag", "many", "wide", "spare"]) fun _ _ _ _ _ _ us hl => match us, hl with | [_, _, _, _], _ => rfl⟩
  have C__law_bag : Cal l.prog w K mg base 1 "_law_bag" f__law_bag _ ["script", "k"] (spF K F__law_bag) := ⟨ok__law_bag T D__law_bag, PySem.W.mg_of X G a__law_bag, k__law_bag, D__law_bag.binds (ps := ["script", "k"]) fun _ _ _ _ _ _ us hl => match us, hl with | [_, _], _ => rfl⟩
  have C__law_of : Cal l.prog w K mg base 2 "_law_of" f__law_of _ ["bag", "some"] (spB K 0 F__law_of) := ⟨ok__law_of T C__law_take D__law_of, PySem.W.mg_of X G a__law_of, k__law_of, D__law_of.binds (ps := ["bag", "some"]) fun _ _ _ _ _ _ us hl => match us, hl with | [_, _], _ => rfl⟩
  have C__law_a_deed : Cal l.prog w K mg base 3 "_law_a_deed" f__law_a_deed _ ["bag"] (spB K 0 F__law_a_deed) := ⟨ok__law_a_deed T C__law_take C__law_of D__law_a_deed, PySem.W.mg_of X G a__law_a_deed, k__law_a_deed, D__law_a_deed.binds (ps := ["bag"]) fun _ _ _ _ _ _ us hl => match us, hl with | [_], _ => rfl⟩
  have C__law_within : Cal l.prog w K mg base 1 "_law_within" f__law_within _ ["batch", "now", "gone"] (spF K F__law_within) := ⟨ok__law_within T D__law_within, PySem.W.mg_of X G a__law_within, k__law_within, D__law_within.binds (ps := ["batch", "now", "gone"]) fun _ _ _ _ _ _ us hl => match us, hl with | [_, _, _], _ => rfl⟩
  have C__law_due : Cal l.prog w K mg base 2 "_law_due" f__law_due _ ["batch", "rows", "deed"] (spB K 1 F__law_due) := ⟨ok__law_due T C__law_within D__law_due, PySem.W.mg_of X G a__law_due, k__law_due, D__law_due.binds (ps := ["batch", "rows", "deed"]) fun _ _ _ _ _ _ us hl => match us, hl with | [_, _, _], _ => rfl⟩
  have C_raised : Cal l.prog w K mg base 1 "raised" f_raised _ ["batch", "bounds"] (spF K F_raised) := ⟨ok_raised T D_raised, PySem.W.mg_of X G a_raised, k_raised, D_raised.binds (ps := ["batch", "bounds"]) fun _ _ _ _ _ _ us hl => match us, hl with | [_, _], _ => rfl⟩
  have C_first_bounds : Cal l.prog w K mg base 1 "first_bounds" f_first_bounds _ ["batch"] (spF K F_first_bounds) := ⟨ok_first_bounds T D_first_bounds, PySem.W.mg_of X G a_first_bounds, k_first_bounds, D_first_bounds.binds (ps := ["batch"]) fun _ _ _ _ _ _ us hl => match us, hl with | [_], _ => rfl⟩
  have C_least_outs : Cal l.prog w K mg base 2 "least_outs" f_least_outs _ ["batch"] (spF K F_least_outs) := ⟨ok_least_outs T C_raised C_first_bounds D_least_outs, PySem.W.mg_of X G a_least_outs, k_least_outs, D_least_outs.binds (ps := ["batch"]) fun _ _ _ _ _ _ us hl => match us, hl with | [_], _ => rfl⟩
  have C_is_from : Cal l.prog w K mg base 1 "is_from" f_is_from _ ["thing", "low", "high"] (spF K F_is_from) := ⟨ok_is_from T D_is_from, PySem.W.mg_of X G a_is_from, k_is_from, D_is_from.binds (ps := ["thing", "low", "high"]) fun _ _ _ _ _ _ us hl => match us, hl with | [_, _, _], _ => rfl⟩
  have C_is_name : Cal l.prog w K mg base 1 "is_name" f_is_name _ ["thing"] (spF K F_is_name) := ⟨ok_is_name T D_is_name, PySem.W.mg_of X G a_is_name, k_is_name, D_is_name.binds (ps := ["thing"]) fun _ _ _ _ _ _ us hl => match us, hl with | [_], _ => rfl⟩
  have C_is_loaf : Cal l.prog w K mg base 2 "is_loaf" f_is_loaf _ ["thing"] (spF K F_is_loaf) := ⟨ok_is_loaf T C_is_from C_is_name D_is_loaf, PySem.W.mg_of X G a_is_loaf, k_is_loaf, D_is_loaf.binds (ps := ["thing"]) fun _ _ _ _ _ _ us hl => match us, hl with | [_], _ => rfl⟩
  have C_is_batch : Cal l.prog w K mg base 3 "is_batch" f_is_batch _ ["thing"] (spF K F_is_batch) := ⟨ok_is_batch T C_is_loaf D_is_batch, PySem.W.mg_of X G a_is_batch, k_is_batch, D_is_batch.binds (ps := ["thing"]) fun _ _ _ _ _ _ us hl => match us, hl with | [_], _ => rfl⟩
  have M_Oven___init__ : MetC l.prog w K mg base 4 C "__init__" f_Oven___init__ _ ["self", "batch"] (spInit K C F_is_batch) := ⟨ok___init__ T O C_is_batch D_Oven___init__, ⟨a_Oven___init__, i_Oven___init__, k_Oven___init__⟩, D_Oven___init__.binds (ps := ["self", "batch"]) fun _ _ _ _ _ _ us hl => match us, hl with | [_, _], _ => rfl⟩
  have M_Oven_places_within : MetC l.prog w K mg base 1 C "places_within" f_Oven_places_within _ ["self"] (spO K F_Oven_places_within) := ⟨ok_Oven_places_within T O D_Oven_places_within, ⟨a_Oven_places_within, i_Oven_places_within, k_Oven_places_within⟩, D_Oven_places_within.binds (ps := ["self"]) fun _ _ _ _ _ _ us hl => match us, hl with | [_], _ => rfl⟩
  have M_Oven_take : MetC l.prog w K mg base 2 C "take" f_Oven_take _ ["self"] (spO K F_Oven_take) := ⟨ok_Oven_take T O M_Oven_places_within D_Oven_take, ⟨a_Oven_take, i_Oven_take, k_Oven_take⟩, D_Oven_take.binds (ps := ["self"]) fun _ _ _ _ _ _ us hl => match us, hl with | [_], _ => rfl⟩
  have M_Oven_can_still : MetC l.prog w K mg base 2 C "can_still" f_Oven_can_still _ ["self"] (spO K F_Oven_can_still) := ⟨ok_Oven_can_still T O C_raised D_Oven_can_still, ⟨a_Oven_can_still, i_Oven_can_still, k_Oven_can_still⟩, D_Oven_can_still.binds (ps := ["self"]) fun _ _ _ _ _ _ us hl => match us, hl with | [_], _ => rfl⟩
  have M_Oven_tick : MetC l.prog w K mg base 1 C "tick" f_Oven_tick _ ["self"] (spO K F_Oven_tick) := ⟨ok_Oven_tick T O D_Oven_tick, ⟨a_Oven_tick, i_Oven_tick, k_Oven_tick⟩, D_Oven_tick.binds (ps := ["self"]) fun _ _ _ _ _ _ us hl => match us, hl with | [_], _ => rfl⟩
  have M_Oven_wait : MetC l.prog w K mg base 2 C "wait" f_Oven_wait _ ["self", "ticks"] (spO K F_Oven_wait) := ⟨ok_Oven_wait T O C_is_from D_Oven_wait, ⟨a_Oven_wait, i_Oven_wait, k_Oven_wait⟩, D_Oven_wait.binds (ps := ["self", "ticks"]) fun _ _ _ _ _ _ us hl => match us, hl with | [_, _], _ => rfl⟩
  have M_Oven_within : MetC l.prog w K mg base 2 C "within" f_Oven_within _ ["self"] (spO K F_Oven_within) := ⟨ok_Oven_within T O M_Oven_places_within D_Oven_within, ⟨a_Oven_within, i_Oven_within, k_Oven_within⟩, D_Oven_within.binds (ps := ["self"]) fun _ _ _ _ _ _ us hl => match us, hl with | [_], _ => rfl⟩
  have M_Oven___len__ : MetC l.prog w K mg base 3 C "__len__" f_Oven___len__ _ ["self"] (spO K F_Oven___len__) := ⟨ok_Oven___len__ T O M_Oven_within D_Oven___len__, ⟨a_Oven___len__, i_Oven___len__, k_Oven___len__⟩, D_Oven___len__.binds (ps := ["self"]) fun _ _ _ _ _ _ us hl => match us, hl with | [_], _ => rfl⟩
  have M_Oven_out : MetC l.prog w K mg base 1 C "out" f_Oven_out _ ["self"] (spO K F_Oven_out) := ⟨ok_Oven_out T O D_Oven_out, ⟨a_Oven_out, i_Oven_out, k_Oven_out⟩, D_Oven_out.binds (ps := ["self"]) fun _ _ _ _ _ _ us hl => match us, hl with | [_], _ => rfl⟩
  have C__law_baked_right : Cal l.prog w K mg base 6 "_law_baked_right" f__law_baked_right _ ["batch"] (spF K F__law_baked_right) := ⟨ok__law_baked_right T O C_least_outs M_Oven___init__ M_Oven_take M_Oven_can_still M_Oven_tick M_Oven_wait M_Oven___len__ M_Oven_out MK gO D__law_baked_right, PySem.W.mg_of X G a__law_baked_right, k__law_baked_right, D__law_baked_right.binds (ps := ["batch"]) fun _ _ _ _ _ _ us hl => match us, hl with | [_], _ => rfl⟩
  have M_Oven_back : MetC l.prog w K mg base 1 C "back" f_Oven_back _ ["self"] (spO K F_Oven_back) := ⟨ok_Oven_back T O D_Oven_back, ⟨a_Oven_back, i_Oven_back, k_Oven_back⟩, D_Oven_back.binds (ps := ["self"]) fun _ _ _ _ _ _ us hl => match us, hl with | [_], _ => rfl⟩
  have FW : FnOk l.prog w K mg base (L2N.CX l.prog w) 3 f_Oven_wait _ ["self", "ticks"] (spOr (spO K F_Oven_wait) (spE K ⟨cT, cE, cL, cR⟩ G_wait)) := fn_or (toN (M_Oven_wait.c.mono (by decide))) ((ok_waitX T O E_cT C_is_from D_Oven_wait).mono (by decide))
  have FT : FnOk l.prog w K mg base (L2N.CX l.prog w) 3 f_Oven_take _ ["self"] (spOr (spO K F_Oven_take) (spE K ⟨cT, cE, cL, cR⟩ (fun b st ds => altE (G_take1 b st ds) (G_take2 b st ds)))) := fn_or (toN (M_Oven_take.c.mono (by decide))) ((fn_or ((ok_take1X T O E_cE M_Oven_places_within D_Oven_take).mono (by decide)) (ok_take2X (c := ⟨cT, cE, cL, cR⟩) T O TE (ok_rawinit TE D_Raw___init__) (D_Raw___init__.binds (ps := ["self", "name"]) fun _ _ _ _ _ _ us hl => match us, hl with | [_, _], _ => rfl) M_Oven_places_within D_Oven_take)).imp spE_alt)
  have FB : FnOk l.prog w K mg base (L2N.CX l.prog w) 3 f_Oven_back _ ["self"] (spOr (spO K F_Oven_back) (spE K ⟨cT, cE, cL, cR⟩ G_back)) := fn_or (toN (M_Oven_back.c.mono (by decide))) ((ok_backX T O E_cL D_Oven_back).mono (by decide))
  have C__law_did : Cal l.prog w K mg base 4 "_law_did" f__law_did _ ["oven", "deed"] (spO K F__law_did) := ⟨ok__law_did T O EG EY g0 D__law_kind (PySem.W.mg_of X G a__law_kind) k__law_kind (D__law_kind.binds (ps := ["e"]) fun _ _ _ _ _ _ us hl => match us, hl with | [_], _ => rfl) M_Oven_wait.m FW M_Oven_wait.b M_Oven_take.m FT M_Oven_take.b M_Oven_back.m FB M_Oven_back.b D__law_did, PySem.W.mg_of X G a__law_did, k__law_did, D__law_did.binds (ps := ["oven", "deed"]) fun _ _ _ _ _ _ us hl => match us, hl with | [_, _], _ => rfl⟩
  have C__law_can_still : Cal l.prog w K mg base 1 "_law_can_still" f__law_can_still _ ["batch", "now", "gone"] (spF K F__law_can_still) := ⟨ok__law_can_still T D__law_can_still, PySem.W.mg_of X G a__law_can_still, k__law_can_still, D__law_can_still.binds (ps := ["batch", "now", "gone"]) fun _ _ _ _ _ _ us hl => match us, hl with | [_, _, _], _ => rfl⟩
  have C__law_stands_so : Cal l.prog w K mg base 5 "_law_stands_so" f__law_stands_so _ ["oven", "batch", "rows"] (spOB K F__law_stands_so) := ⟨ok__law_stands_so T O C__law_can_still C__law_within M_Oven_can_still M_Oven_tick M_Oven_within M_Oven___len__ M_Oven_out D__law_stands_so, PySem.W.mg_of X G a__law_stands_so, k__law_stands_so, D__law_stands_so.binds (ps := ["oven", "batch", "rows"]) fun _ _ _ _ _ _ us hl => match us, hl with | [_, _, _], _ => rfl⟩
  have M_Oven___eq__ : MetC l.prog w K mg base 1 C "__eq__" f_Oven___eq__ _ ["self", "other"] (spEq K) := ⟨ok___eq__ T O Z gO D_Oven___eq__, ⟨a_Oven___eq__, i_Oven___eq__, k_Oven___eq__⟩, D_Oven___eq__.binds (ps := ["self", "other"]) fun _ _ _ _ _ _ us hl => match us, hl with | [_, _], _ => rfl⟩
  exact ok_law T O Z C__law_batch C__law_bag C__law_a_deed C__law_due C__law_baked_right C__law_did C__law_stands_so C__law_of M_Oven___init__ M_Oven___eq__ M_Oven_back M_Oven_out MK gO (ok___init__X T O E_CN C_is_batch D_Oven___init__) gN te_N D_law
theorem walk {l : PySem.W.OpenLaw} {q : Program} {loose : List Str} {XP : (Str → Option Value) → Heap → Prop} {YP : World → Heap → Prop} {d : DefRec} {K : Params → PySem.W.Frag} (hl : ∀ ns : List Int, ns.length ≤ 63 → F_law [scr ns] = some (.da (.bool true))) (hn : l.most = some 63) (hdf : d.params.defaults = [])
    (hY : ∀ (w : World) (h : Heap), YP w h → (K w.params).In h)
    (F : ∀ (w : World) (mg : Str → Option Value) (fa : Addr) (h : Heap), (K w.params).In h → h.Ns mainGlobals mg → mg d.name = some (.ref fa) →
      ∃ fd : FuncData, (∀ (s : Shared) (u : Value), BindsTo s fd ⟨[u], []⟩ [("script", u)]) ∧ ∀ base : Heap, (K w.params).In base → base.Ns mainGlobals mg → FnOk l.prog w (K w.params) mg base CX0 7 fa fd ["script"] (spF (K w.params) F_law)) :
    PySem.W.WalkO q loose XP YP l.row.toRowW d [] (fun f vs => PySem.call f vs) :=
  L2.walk_of (n := 63) (k := 7) (x := "script") (CX := fun _ => CX0) (sp := fun w => spF (K w.params) F_law) hn (by decide) hdf ⟨rfl, by decide, by decide⟩ hY F (fun _ H a ns h63 _ hS => ⟨H, [scr ns], _, Same.refl _, .cons (.scr hS) .nil, hl ns h63, fun v H' S' N o => bl_of o⟩) fun _ _ _ _ _ z => z
end Gn
namespace Gn
open PySem L2 DL
@[simp] theorem startB_0 (n N : Nat) (ms ds : List PyData) : startB 0 n N ms ds = if ds.length + 1 = n ∧ 0 < n then some (.pa ms :: (ds.map Sl.da ++ List.replicate (N - n) .no)) else none := by
  simp [startB]
def Bag (ms : List PyData) : Prop := ∃ c s : Int, ms = [.int c, .int s] ∧ 0 ≤ c ∧ 0 ≤ s
theorem cm_r {i j : Int} (h1 : -18446744073709551616 < j) (h2 : j < 18446744073709551616) : CMulB i j = true := by
  unfold CMulB
  simp only [Bool.or_eq_true, Bool.and_eq_true, decide_eq_true_eq]
  right
  exact ⟨by simpa using h1, by simpa using h2⟩
theorem take_ok {ms : List PyData} {n : Int} (h : Bag ms) (h0 : 0 < n) (h1 : n < 1073741824) : ∃ v ms', F__law_take ms [.int n] = some (.da (.int v), ms') ∧ Bag ms' ∧ 0 ≤ v ∧ v < n := by
  obtain ⟨c, s, rfl, hc, hs⟩ := h
  by_cases hp : 0 < c
  · refine ⟨c % n, [.int (c / n), .int s], ?_, ⟨_, _, rfl, ?_, hs⟩, ?_, ?_⟩
    · simp [F__law_take, fnB, b__law_take, outB, paOf, hp, h0, h1, ixN]
    · exact Int.ediv_nonneg hc (by omega)
    · exact Int.emod_nonneg _ (by omega)
    · exact Int.emod_lt_of_pos _ h0
  · refine ⟨s * 48271 % 2147483647 / 13 * (s * 48271 % 2147483647 % 32749 + 17) % 2147483629 / 32 % n, [.int c, .int (s * 48271 % 2147483647)], ?_, ⟨_, _, rfl, hc, ?_⟩, ?_, ?_⟩
    · have e : CMulB s 48271 = true := cm_r (by omega) (by omega)
      have e2 : CMulB (s * 48271 % 2147483647 / 13) (s * 48271 % 2147483647 % 32749 + 17) = true := cm_r (by omega) (by omega)
      simp [F__law_take, fnB, b__law_take, outB, paOf, hp, h0, h1, ixN, e, e2]
    · omega
    · exact Int.emod_nonneg _ (by omega)
    · exact Int.emod_lt_of_pos _ h0
theorem of_ok {ms es : List PyData} (h : Bag ms) (h0 : 0 < es.length) (h1 : es.length < 1073741824) : ∃ v ms', F__law_of ms [.list es] = some (.da v, ms') ∧ Bag ms' ∧ v ∈ es := by
  obtain ⟨v, ms', e, hb, hv, hn⟩ := take_ok (ms := ms) (n := es.length) h (by omega) (by omega)
  obtain ⟨p, rfl⟩ : ∃ p : Nat, v = p := ⟨v.toNat, by omega⟩
  have hp : p < es.length := by omega
  refine ⟨es[p], ms', ?_, hb, List.getElem_mem hp⟩
  simp [F__law_of, fnB, b__law_of, outB, paOf, e, atI_cast, hp]
section
variable {ns : List Int} {K x z : Int} (e1 : CMulB 40009 K = true) (e2 : CMulB (40009 * K) K = true) (e3 : CMulB 7919 K = true) (e4 : ∀ i : Int, CMulB i 16807 = true)
include e1 e2 e3 e4
theorem bagC (hz1 : z < 1000000000000000000) (hz : z = 0) (h : ¬ K < ns.length) : Tot (F__law_bag [scr ns, .int K]) fun r => r = .fr [.int z, .int (1 + (z % 2147483629 * 16807 + 40009 * K * K + 7919 * K + 1009) % 2147483645)] := by
  unfold F__law_bag b__law_bag
  rw [← hz]
  simp [fnF, startE, outF, h, e1, e2, e3, e4, hz1]
theorem bagB (h : K < ns.length) (ha : atI (ns.map PyData.int) K = some (.int x)) (hx : x % 10 ^ 60 < 10 ^ 18) : Tot (F__law_bag [scr ns, .int K]) fun r => r = .fr [.int 0, .int (1 + (x % 10 ^ 60 % 2147483629 * 16807 + 40009 * K * K + 7919 * K + 1009) % 2147483645)] := by
  unfold F__law_bag b__law_bag
  simp at hx
  simp [fnF, startE, outF, h, ha, e1, e2, e3, e4, hx]
theorem bagA (h : K < ns.length) (ha : atI (ns.map PyData.int) K = some (.int x)) (hx : ¬ x % 10 ^ 60 < 10 ^ 18) : Tot (F__law_bag [scr ns, .int K]) fun r => r = .fr [.int (x % 10 ^ 60), .int (1 + (x % 10 ^ 60 % 2147483629 * 16807 + 40009 * K * K + 7919 * K + 1009) % 2147483645)] := by
  unfold F__law_bag b__law_bag
  simp at hx
  simp [fnF, startE, outF, h, ha, e1, e2, e3, e4, Int.not_lt.2 hx]
end
theorem bag_fin (c x : Int) (hc : 0 ≤ c) : Bag [.int c, .int (1 + x % 2147483645)] := ⟨_, _, rfl, hc, by omega⟩
theorem bag_ok (ns : List Int) (k : Nat) (hk : k ≤ 1000) : ∃ ms, F__law_bag [scr ns, .int k] = some (.fr ms) ∧ Bag ms := by
  have e1 : CMulB 40009 (k : Int) = true := cm_r (by omega) (by omega)
  have e2 : CMulB (40009 * (k : Int)) (k : Int) = true := cm_r (by omega) (by omega)
  have e3 : CMulB 7919 (k : Int) = true := cm_r (by omega) (by omega)
  have e4 : ∀ i : Int, CMulB i 16807 = true := fun i => cm_r (by omega) (by omega)
  by_cases h : k < ns.length
  · have ha : atI (ns.map PyData.int) (k : Int) = some (.int ns[k]) := by simp [atI_cast, h]
    have h' : (k : Int) < ns.length := by omega
    have hc : 0 ≤ ns[k] % 10 ^ 60 := Int.emod_nonneg _ (by decide)
    by_cases hs : ns[k] % 10 ^ 60 < 10 ^ 18
    · exact ⟨_, (bagB e1 e2 e3 e4 h' ha hs).eq, bag_fin _ _ (by decide)⟩
    · exact ⟨_, (bagA e1 e2 e3 e4 h' ha hs).eq, bag_fin _ _ hc⟩
  · have h' : ¬ (k : Int) < ns.length := by omega
    exact ⟨_, (bagC (z := 0) e1 e2 e3 e4 (by decide) rfl h').eq, bag_fin _ _ (by decide)⟩
end Gn
namespace Gn
open PySem L2 DL
theorem not_mem_eraseIdx {α : Type} : ∀ (l : List α) (p : Nat) (h : p < l.length), l.Nodup → l[p] ∉ l.eraseIdx p
  | [], p, h, _ => absurd h (by simp)
  | a :: l, 0, h, n => by simpa using (List.nodup_cons.1 n).1
  | a :: l, p + 1, h, n => by
    have n := List.nodup_cons.1 n
    have h' : p < l.length := by simpa using h
    simp only [List.getElem_cons_succ, List.eraseIdx_cons_succ, List.mem_cons, not_or]
    exact ⟨fun e => n.1 (e ▸ List.getElem_mem h'), not_mem_eraseIdx l p h' n.2⟩
theorem eraseIdx_map {α β : Type} (f : α → β) : ∀ (l : List α) (p : Nat), (l.map f).eraseIdx p = (l.eraseIdx p).map f
  | [], p => by simp
  | a :: l, 0 => by simp
  | a :: l, p + 1 => by simp [eraseIdx_map f l p]
structure Lf where
  nm : Str
  i : Int
  l : Int
  m : Int
def Lf.e (x : Lf) : PyData := .tuple [.str x.nm, .int x.i, .int x.l, .int x.m]
def eB (b : List Lf) : PyData := .tuple (b.map Lf.e)
def eight : List Str := ["ann", "bo", "cy", "dee", "eli", "fay", "gus", "hal"]
def nine : List Str := ["ann", "bo", "cy", "dee", "eli", "fay", "gus", "hal", "zoe"]
theorem nine_of {x : Str} (h : x ∈ eight) : x ∈ nine := by
  have e : nine = eight ++ (["zoe"] : List Str) := rfl
  rw [e]
  exact List.mem_append_left _ h
structure VB (b : List Lf) (n : Nat) (w s : Int) : Prop where
  ne : 1 ≤ b.length
  le : b.length ≤ n
  nd : (b.map Lf.nm).Nodup
  inc : b.Pairwise fun x y => x.i < y.i
  r : ∀ x ∈ b, 0 ≤ x.i ∧ x.i ≤ 40 ∧ 1 ≤ x.l ∧ x.l ≤ x.m ∧ x.m ≤ 60 ∧ x.m ≤ x.l + s ∧ x.l ≤ w ∧ x.nm ∈ nine
structure BI (ns : List Str) (b : List Lf) (tick w s : Int) (k : Nat) : Prop where
  ln : ns.length + k = 8
  nn : ns.Nodup
  sub : ∀ x ∈ ns, x ∈ eight
  dis : ∀ x ∈ b, x.nm ∉ ns
  nd : (b.map Lf.nm).Nodup
  le : b.length ≤ k
  ne : 0 < k → 1 ≤ b.length
  t0 : 0 ≤ tick
  t2 : k = 0 → tick ≤ 2
  inc : b.Pairwise fun x y => x.i < y.i
  lt : ∀ x ∈ b, x.i < tick
  r : ∀ x ∈ b, 0 ≤ x.i ∧ x.i ≤ 40 ∧ 1 ≤ x.l ∧ x.l ≤ x.m ∧ x.m ≤ 60 ∧ x.m ≤ x.l + s ∧ x.l ≤ w ∧ x.nm ∈ eight
theorem BI.step {ns : List Str} {b : List Lf} {tick w s v1 v3 v4 : Int} {k p : Nat} (B : BI ns b tick w s k) (hp : p < ns.length) (h1 : 0 ≤ v1 ∧ v1 < w) (h3 : 0 ≤ v3 ∧ v3 < s + 1) (h4 : 0 ≤ v4) (hw : w ≤ 60) (ht : tick ≤ 40) :
    BI (ns.eraseIdx p) (b ++ [⟨ns[p], tick, 1 + v1, if 1 + v1 + v3 < 60 then 1 + v1 + v3 else 60⟩]) (tick + 1 + v4) w s (k + 1) where
  ln := by have := B.ln; rw [List.length_eraseIdx_of_lt hp]; omega
  nn := B.nn.sublist (List.eraseIdx_sublist ..)
  sub := fun x hx => B.sub x ((List.eraseIdx_sublist ..).mem hx)
  dis := fun x hx hn => by
    rcases List.mem_append.1 hx with h | h
    · exact B.dis x h ((List.eraseIdx_sublist ..).mem hn)
    · simp at h
      subst h
      simp only at hn
      exact not_mem_eraseIdx _ _ hp B.nn hn
  nd := by
    rw [List.map_append, List.nodup_append]
    refine ⟨B.nd, by simp, ?_⟩
    intro a ha c hc
    simp at hc
    subst hc
    obtain ⟨x, hx, rfl⟩ := List.mem_map.1 ha
    intro e
    exact B.dis x hx (e ▸ List.getElem_mem hp)
  le := by have := B.le; simp; omega
  ne := fun _ => by simp
  t0 := by have := B.t0; omega
  t2 := fun h => by omega
  inc := by
    rw [List.pairwise_append]
    refine ⟨B.inc, by simp, fun x hx y hy => ?_⟩
    simp at hy
    subst hy
    exact B.lt x hx
  lt := fun x hx => by
    rcases List.mem_append.1 hx with h | h
    · have := B.lt x h; omega
    · simp at h; subst h; simp only; omega
  r := fun x hx => by
    rcases List.mem_append.1 hx with h | h
    · exact B.r x h
    · simp at h
      subst h
      have := B.t0
      refine ⟨this, ht, ?_, ?_, ?_, ?_, ?_, B.sub _ (List.getElem_mem hp)⟩ <;> simp only <;> (try split) <;> omega
theorem BI.skip {ns : List Str} {b : List Lf} {tick w s v4 : Int} {k p : Nat} (B : BI ns b tick w s k) (hp : p < ns.length) (h4 : 0 ≤ v4) (ht : ¬ tick ≤ 40) :
    BI (ns.eraseIdx p) b (tick + 1 + v4) w s (k + 1) where
  ln := by have := B.ln; rw [List.length_eraseIdx_of_lt hp]; omega
  nn := B.nn.sublist (List.eraseIdx_sublist ..)
  sub := fun x hx => B.sub x ((List.eraseIdx_sublist ..).mem hx)
  dis := fun x hx hn => B.dis x hx ((List.eraseIdx_sublist ..).mem hn)
  nd := B.nd
  le := by have := B.le; omega
  ne := fun _ => by
    by_cases h : k = 0
    · exact absurd (B.t2 h) (by omega)
    · exact B.ne (by omega)
  t0 := by have := B.t0; omega
  t2 := fun h => by omega
  inc := B.inc
  lt := fun x hx => by have := B.lt x hx; omega
  r := B.r
theorem batch_ok8 {ms : List PyData} {n : Nat} {w s : Int} (hb : Bag ms) (hn : 0 < n) (hn8 : n ≤ 8) (hw : 0 < w) (hw60 : w ≤ 60) (hs : 0 ≤ s) (hs60 : s ≤ 60) :
    ∃ b ms', F__law_batch ms [.int n, .int w, .int s] = some (.da (eB b), ms') ∧ Bag ms' ∧ VB b n w s ∧ ∀ x ∈ b, x.nm ∈ eight := by
  obtain ⟨t0, ms1, e1, hb1, ht0, ht3⟩ := take_ok hb (n := 3) (by omega) (by omega)
  obtain ⟨v, ms2, e2, hb2, hv0, hv⟩ := take_ok hb1 (n := n) (by omega) (by omega)
  have e8 : ([.str "ann", .str "bo", .str "cy", .str "dee", .str "eli", .str "fay", .str "gus", .str "hal"] : List PyData) = eight.map PyData.str := rfl
  have big : isBig (1 + v) = true := by simp [isBig]; omega
  have : Tot (F__law_batch ms [.int n, .int w, .int s]) fun r => ∃ b ms', r = (.da (eB b), ms') ∧ Bag ms' ∧ VB b n w s ∧ ∀ x ∈ b, x.nm ∈ eight := by
    simp [F__law_batch, fnB, b__law_batch, e1, e2, e8, big, (by decide : eight.length ≤ 16777216)]
    refine Tot.forL (Inv := fun k ρ => ∃ ns b tick ms, ρ = [.pa ms, .da (.int n), .da (.int w), .da (.int s), .ow (ns.map .str), .ow (b.map Lf.e), .da (.int tick), .no, .no, .no] ∧ Bag ms ∧ BI ns b tick w s k) ?_ ?_ ?_
    · exact ⟨eight, [], t0, ms2, rfl, hb2, rfl, by decide, fun x h => h, by simp, by simp, by simp, by simp, ht0, by omega, by simp, by simp, by simp⟩
    · rintro k hk ρ ⟨ns, b, tick, ms, rfl, hb, B⟩
      unfold B1__law_batch
      rw [rangeD_len] at hk
      have hln := B.ln
      have hnl : 0 < ns.length := by omega
      obtain ⟨v1, m1, e1, hb1, h1, h1'⟩ := take_ok hb (n := w) (by omega) (by omega)
      obtain ⟨v2, m2, e2, hb2, h2, h2'⟩ := take_ok hb1 (n := ns.length) (by omega) (by omega)
      obtain ⟨p, rfl⟩ : ∃ p : Nat, v2 = p := ⟨v2.toNat, by omega⟩
      have hp : p < ns.length := by omega
      have hple := B.le
      have r1 : -9223372036854775808 ≤ (p : Int) := by omega
      have r2 : (p : Int) < 9223372036854775808 := by omega
      by_cases ht : tick ≤ 40
      · obtain ⟨v3, m3, e3, hb3, h3, h3'⟩ := take_ok hb2 (n := s + 1) (by omega) (by omega)
        obtain ⟨v4, m4, e4, hb4, h4, h4'⟩ := take_ok hb3 (n := 1 + w / 2) (by omega) (by omega)
        have hl : b.length < 16777216 := by omega
        simp [rangeD_at, e1, e2, ixN_cast hp, hp, r1, r2, ht, e3, e4, hl, eraseIdx_map]
        refine ⟨ns.eraseIdx p, _, _, _, ⟨rfl, rfl, ?_, rfl⟩, hb4, B.step hp ⟨h1, h1'⟩ ⟨h3, h3'⟩ h4 hw60 ht⟩
        simp [Lf.e]
      · obtain ⟨v4, m4, e4, hb4, h4, h4'⟩ := take_ok hb2 (n := 1 + w / 2) (by omega) (by omega)
        simp [rangeD_at, e1, e2, ixN_cast hp, hp, r1, r2, ht, e4, eraseIdx_map]
        exact ⟨ns.eraseIdx p, _, _, _, ⟨rfl, rfl, rfl, rfl⟩, hb4, B.skip hp h4 ht⟩
    · rintro ρ ⟨ns, b, tick, ms, rfl, hb, B⟩
      rw [rangeD_len] at B
      simp [outB, paOf]
      exact ⟨b, ms, ⟨rfl, rfl⟩, hb, ⟨B.ne (by omega), by have := B.le; omega, B.nd, B.inc, fun x hx => by have z := B.r x hx; exact ⟨z.1, z.2.1, z.2.2.1, z.2.2.2.1, z.2.2.2.2.1, z.2.2.2.2.2.1, z.2.2.2.2.2.2.1, nine_of z.2.2.2.2.2.2.2⟩⟩, fun x hx => (B.r x hx).2.2.2.2.2.2.2⟩
  obtain ⟨r, e, b, ms', rfl, h⟩ := this
  exact ⟨b, ms', e, h⟩
theorem batch_ok {ms : List PyData} {n : Nat} {w s : Int} (hb : Bag ms) (hn : 0 < n) (hn8 : n ≤ 8) (hw : 0 < w) (hw60 : w ≤ 60) (hs : 0 ≤ s) (hs60 : s ≤ 60) :
    ∃ b ms', F__law_batch ms [.int n, .int w, .int s] = some (.da (eB b), ms') ∧ Bag ms' ∧ VB b n w s := by
  obtain ⟨b, ms', e, h, V, _⟩ := batch_ok8 hb hn hn8 hw hw60 hs hs60
  exact ⟨b, ms', e, h, V⟩
end Gn
namespace Gn
open PySem L2 DL
def bt (b : List Lf) (p : Nat) : Lf := b.getD p ⟨"", 0, 0, 0⟩
def ai (S : List Int) (p : Nat) : Int := S.getD p 0
theorem bt_mem {b : List Lf} {p : Nat} (h : p < b.length) : bt b p ∈ b := by simp [bt, h]
theorem bt_eq {b : List Lf} {p : Nat} (h : p < b.length) : b[p] = bt b p := by simp [bt, h]
theorem ai_eq {b : List Int} {p : Nat} (h : p < b.length) : b[p] = ai b p := by simp [ai, h]
theorem at_b {b : List Lf} {p : Nat} (h : p < b.length) : atI (b.map Lf.e) (p : Int) = some (bt b p).e := by rw [atI_map h, bt_eq h]
theorem at_i {S : List Int} {p : Nat} (h : p < S.length) : atI (S.map PyData.int) (p : Int) = some (.int (ai S p)) := by rw [atI_map h, ai_eq h]
theorem ai_set {S : List Int} {p q : Nat} {x : Int} (h : p < S.length) : ai (S.set p x) q = if p = q then x else ai S q := by
  unfold ai
  by_cases e : p = q
  · subst e; simp [h]
  · simp [e, List.getD, List.getElem?_set_ne]
theorem at_set {l : List PyData} {p : Nat} {x : PyData} (h : p < l.length) : atI (l.set p x) (p : Int) = some x := by rw [atI_cast]; simp [h]
theorem set_map {α : Type} (f : α → PyData) (l : List α) (p : Nat) (x : α) : (l.map f).set p (f x) = (l.set p x).map f := by rw [List.map_set]
@[simp] theorem ixD_e0 (x : Lf) : ixD x.e (.int 0) = some (.str x.nm) := by simp [Lf.e]
@[simp] theorem ixD_e1 (x : Lf) : ixD x.e (.int 1) = some (.int x.i) := by simp [Lf.e]
@[simp] theorem ixD_e2 (x : Lf) : ixD x.e (.int 2) = some (.int x.l) := by simp [Lf.e]
@[simp] theorem ixD_e3 (x : Lf) : ixD x.e (.int 3) = some (.int x.m) := by simp [Lf.e]
structure Sol (b : List Lf) (S : List Int) : Prop where
  len : S.length = b.length
  rg : ∀ p, p < b.length → (bt b p).i + (bt b p).l ≤ ai S p ∧ ai S p ≤ (bt b p).i + (bt b p).m
  ok : ∀ p q, p < q → q < b.length → ¬ ((bt b q).i < ai S p ∧ ai S p < ai S q)
def low (b : List Lf) : List Int := b.map fun x => x.i + x.l
theorem ai_low {b : List Lf} {p : Nat} (h : p < b.length) : ai (low b) p = (bt b p).i + (bt b p).l := by simp [ai, low, bt, h]
/-- what raises come to -/
inductive Rz (b : List Lf) : List Int → List (Nat × Nat) → Prop
  | nil : Rz b (low b) []
  | snoc {bs : List Int} {ws : List (Nat × Nat)} {p q : Nat} : Rz b bs ws → p < q → q < b.length → (bt b q).i < ai bs p → ai bs p < ai bs q → Rz b (bs.set p (ai bs q)) (ws ++ [(p, q)])
structure Least (b : List Lf) (L : List Int) : Prop where
  s : Sol b L
  le : ∀ S, Sol b S → ∀ p, p < b.length → ai L p ≤ ai S p
theorem Rz.len {b : List Lf} {bs : List Int} {ws : List (Nat × Nat)} (h : Rz b bs ws) : bs.length = b.length := by
  induction h with
  | nil => simp [low]
  | snoc _ _ _ _ _ ih => simpa using ih
theorem Rz.low {b : List Lf} {bs : List Int} {ws : List (Nat × Nat)} (h : Rz b bs ws) : ∀ p, p < b.length → (bt b p).i + (bt b p).l ≤ ai bs p := by
  induction h with
  | nil => intro p hp; rw [ai_low hp]; omega
  | @snoc bs ws p0 q h hpq hq h1 h2 ih =>
    intro p hp
    rw [ai_set (by have := h.len; omega)]
    split
    · rename_i e; subst e
      have := ih p0 hp; omega
    · exact ih p hp
theorem Rz.leS {b : List Lf} {bs : List Int} {ws : List (Nat × Nat)} (h : Rz b bs ws) {S : List Int} (hS : Sol b S) : ∀ p, p < b.length → ai bs p ≤ ai S p := by
  induction h with
  | nil => intro p hp; rw [ai_low hp]; exact (hS.rg p hp).1
  | @snoc bs ws p0 q h hpq hq h1 h2 ih =>
    intro p hp
    rw [ai_set (by have := h.len; omega)]
    split
    · rename_i e; subst e
      have a1 := ih p0 hp
      have a2 := ih q hq
      have a3 := hS.ok p0 q hpq hq
      omega
    · exact ih p hp
def Stb (b : List Lf) (bs : List Int) (p0 : Nat) : Prop := ∀ p q, p0 ≤ p → p < q → q < b.length → ¬ ((bt b q).i < ai bs p ∧ ai bs p < ai bs q)
def Cap (b : List Lf) (bs : List Int) : Prop := ∀ p, p < b.length → ai bs p ≤ (bt b p).i + (bt b p).m
theorem Rz.least {b : List Lf} {bs : List Int} {ws : List (Nat × Nat)} (h : Rz b bs ws) (s : Stb b bs 0) (c : Cap b bs) : Least b bs :=
  ⟨⟨h.len, fun p hp => ⟨h.low p hp, c p hp⟩, fun p q hpq hq => s p q (Nat.zero_le _) hpq hq⟩, fun S hS => h.leS hS⟩
theorem Rz.over {b : List Lf} {bs : List Int} {ws : List (Nat × Nat)} (h : Rz b bs ws) {p : Nat} (hp : p < b.length) (c : (bt b p).i + (bt b p).m < ai bs p) : ∀ S, ¬ Sol b S := fun S hS => by
  have := h.leS hS p hp
  have := (hS.rg p hp).2
  omega
theorem ext_ai {S T : List Int} {n : Nat} (h1 : S.length = n) (h2 : T.length = n) (h : ∀ p, p < n → ai S p = ai T p) : S = T := by
  apply List.ext_getElem (by omega)
  intro p hp hp'
  rw [ai_eq hp, ai_eq hp']
  exact h p (by omega)
theorem Least.uniq {b : List Lf} {L M : List Int} (h : Least b L) (k : Least b M) : L = M :=
  ext_ai h.s.len k.s.len fun p hp => by have := h.le M k.s p hp; have := k.le L h.s p hp; omega
open Classical in
noncomputable def lo (b : List Lf) : Option (List Int) := if h : ∃ L, Least b L then some h.choose else none
theorem lo_some {b : List Lf} {L : List Int} (h : Least b L) : lo b = some L := by
  unfold lo
  have e : ∃ L, Least b L := ⟨L, h⟩
  rw [dif_pos e, e.choose_spec.uniq h]
theorem lo_none {b : List Lf} (h : ∀ S, ¬ Sol b S) : lo b = none := by
  unfold lo
  rw [dif_neg fun ⟨L, k⟩ => h L k.s]
def eO : Option (List Int) → PyData
  | none => .none
  | some L => .tuple (L.map .int)
/-- the batch's ins rise -/
theorem VB.lt {b : List Lf} {n : Nat} {w s : Int} (V : VB b n w s) {p q : Nat} (h : p < q) (hq : q < b.length) : (bt b p).i < (bt b q).i := by
  have := List.pairwise_iff_getElem.1 V.inc p q (by omega) hq h
  rwa [bt_eq, bt_eq] at this
theorem VB.rr {b : List Lf} {n : Nat} {w s : Int} (V : VB b n w s) {p : Nat} (h : p < b.length) : 0 ≤ (bt b p).i ∧ (bt b p).i ≤ 40 ∧ 1 ≤ (bt b p).l ∧ (bt b p).l ≤ (bt b p).m ∧ (bt b p).m ≤ 60 ∧ (bt b p).m ≤ (bt b p).l + s ∧ (bt b p).l ≤ w ∧ (bt b p).nm ∈ nine := V.r _ (bt_mem h)
theorem VB.cap {b : List Lf} {n : Nat} {w s : Int} (V : VB b n w s) : Cap b (low b) := fun p hp => by
  rw [ai_low hp]
  have := V.rr hp
  omega
/-- one place raised to another -/
theorem stb_one {b : List Lf} {n : Nat} {w s : Int} (V : VB b n w s) {bs : List Int} (hl : bs.length = b.length) {p q : Nat} (hpq : p < q) (hq : q < b.length) (St : Stb b bs (p + 1))
    (In : ∀ r, p < r → r < q → ¬ ((bt b r).i < ai bs p ∧ ai bs p < ai bs r)) (h1 : (bt b q).i < ai bs p) (h2 : ai bs p < ai bs q) :
    Stb b (bs.set p (ai bs q)) (p + 1) ∧ ∀ r, p < r → r < q + 1 → ¬ ((bt b r).i < ai (bs.set p (ai bs q)) p ∧ ai (bs.set p (ai bs q)) p < ai (bs.set p (ai bs q)) r) := by
  refine ⟨fun p' q' a1 a2 a3 => ?_, fun r a1 a2 => ?_⟩
  · rw [ai_set (by omega), ai_set (by omega), if_neg (by omega), if_neg (by omega)]
    exact St p' q' a1 a2 a3
  · rw [ai_set (by omega), ai_set (by omega), if_pos rfl, if_neg (by omega)]
    rcases Nat.lt_or_ge r q with h | h
    · have := In r a1 h
      have := V.lt h hq
      omega
    · have : r = q := by omega
      subst this
      omega
theorem stb_in {b : List Lf} {bs : List Int} {p : Nat} (St : Stb b bs (p + 1)) (In : ∀ r, p < r → r < b.length → ¬ ((bt b r).i < ai bs p ∧ ai bs p < ai bs r)) : Stb b bs p := fun p' q a1 a2 a3 => by
  rcases Nat.lt_or_ge p p' with h | h
  · exact St p' q h a2 a3
  · have : p' = p := by omega
    subst this
    exact In q a2 a3
/-- one place raised to the highest that draws it -/
theorem stb_max {b : List Lf} {bs : List Int} (hl : bs.length = b.length) {p q : Nat} (hpq : p < q) (hq : q < b.length) (St : Stb b bs (p + 1)) (h1 : (bt b q).i < ai bs p) (h2 : ai bs p < ai bs q)
    (mx : ∀ r, p < r → r < b.length → (bt b r).i < ai bs p → ai bs p < ai bs r → ai bs r ≤ ai bs q) {n : Nat} {w s : Int} (V : VB b n w s) : Stb b (bs.set p (ai bs q)) p := by
  refine stb_in (fun p' q' a1 a2 a3 => ?_) fun r a1 a2 => ?_
  · rw [ai_set (by omega), ai_set (by omega), if_neg (by omega), if_neg (by omega)]
    exact St p' q' a1 a2 a3
  · rw [ai_set (by omega), ai_set (by omega), if_pos rfl, if_neg (by omega)]
    rintro ⟨c1, c2⟩
    by_cases h : (bt b r).i < ai bs p
    · have := mx r a1 a2 h (by omega)
      omega
    · have hqr : q < r := by
        rcases Nat.lt_trichotomy q r with h' | h' | h'
        · exact h'
        · subst h'; omega
        · have := V.lt h' hq; omega
      exact St q r (by omega) hqr a2 ⟨by omega, by omega⟩
end Gn
namespace Gn
open PySem L2 DL
def eW (x : Nat × Nat) : PyData := .tuple [.int x.1, .int x.2]
theorem first_bounds_ok (b : List Lf) (h : b.length ≤ 8) : F_first_bounds [eB b] = some (.fr ((low b).map .int)) := by
  have h' : b.length ≤ 16777216 := by omega
  simp [F_first_bounds, fnF, startE, b_first_bounds, eB, h']
  rw [lcL_map (F := fun d => match d with | .tuple [_, .int i, .int l, _] => .int (i + l) | _ => .none)]
  · simp [outF, low, Lf.e]
  · intro d hd
    obtain ⟨x, hx, rfl⟩ := List.mem_map.1 hd
    simp [Lf.e]
/-- what `raised` hands back -/
inductive Raised (b : List Lf) : PyData → Prop
  | out {L : List Int} {ws : List (Nat × Nat)} : Least b L → Rz b L ws → Raised b (.tuple [.tuple (L.map .int), .list (ws.map eW)])
  | no {bs : List Int} {ws : List (Nat × Nat)} {p q : Nat} : Rz b bs (ws ++ [(p, q)]) → (bt b p).i + (bt b p).m < ai bs p → p < b.length → ws.length < 60 → Raised b (.tuple [.none, .list ((ws ++ [(p, q)]).map eW)])
def RI (b : List Lf) (bs0 : List Int) (ws0 : List (Nat × Nat)) (g0 : Bool) (bs : List Int) (ws : List (Nat × Nat)) (g : Bool) (m p : Nat) : Prop :=
  Rz b bs ws ∧ Cap b bs ∧ Stb b bs p ∧ ws.length ≤ ws0.length + m ∧ (Stb b bs0 0 → bs = bs0 ∧ ws = ws0 ∧ g = g0)
abbrev rho (b : List Lf) (bs : List Int) (ws : List (Nat × Nat)) (g : Bool) (x : Sl) : En := [.da (eB b), .ow (bs.map .int), .ow (ws.map eW), .da (.bool g), x, .no]
def RIn (b : List Lf) (bs0 : List Int) (ws0 : List (Nat × Nat)) (m p j : Nat) (ρ : En) : Prop := ∃ bs ws g, ρ = rho b bs ws g (.da (.int p)) ∧ RI b bs0 ws0 false bs ws g (m + j) (p + 1) ∧ ∀ r, p < r → r < p + 1 + j → ¬ ((bt b r).i < ai bs p ∧ ai bs p < ai bs r)
def ROut (b : List Lf) (bs0 : List Int) (ws0 : List (Nat × Nat)) (g0 : Bool) (m p : Nat) (x : Sl) : Out → Prop
  | .nx ρ => ∃ bs ws g, ρ = rho b bs ws g x ∧ RI b bs0 ws0 g0 bs ws g m p
  | .rt r _ => ∃ d, r = .da d ∧ Raised b d
  | _ => False
theorem raised_in {b : List Lf} {n : Nat} {w s : Int} (V : VB b n w s) (hn : n ≤ 8) {bs0 bs : List Int} {ws0 ws : List (Nat × Nat)} {g : Bool} {m p : Nat} (hp : p < b.length) (hm : m ≤ 49) (hz : ws0.length = 0 ∨ Stb b bs0 0) (h : RI b bs0 ws0 false bs ws g m (p + 1)) :
    Tot (forL (gNm 5) B1_raised (rangeD (p + 1) (b.length - (p + 1))) (rho b bs ws g (.da (.int p)))) (ROut b bs0 ws0 false (m + 7) p (.da (.int p))) := by
  have hbl := V.le
  refine Tot.forL (Inv := RIn b bs0 ws0 m p) ?_ ?_ ?_
  · exact ⟨bs, ws, g, rfl, h, fun r a1 a2 => by omega⟩
  · rintro j hj ρ ⟨bs, ws, g, rfl, ⟨R, C, St, hw, cl⟩, In⟩
    rw [rangeD_len] at hj
    unfold B1_raised
    obtain ⟨q, hq⟩ : ∃ q, q = p + 1 + j := ⟨_, rfl⟩
    have hqi : (p : Int) + 1 + (j : Int) = (q : Int) := by omega
    have hqb : q < b.length := by omega
    have hl := R.len
    rw [rangeD_at, hqi]
    have a1 : atI (bs.map PyData.int) (p : Int) = some (.int (ai bs p)) := at_i (by omega)
    have a2 : atI (bs.map PyData.int) (q : Int) = some (.int (ai bs q)) := at_i (by omega)
    have a3 : ixN bs.length (p : Int) = some p := ixN_cast (by omega)
    have a4 : atI ((bs.map PyData.int).set p (.int (ai bs q))) (p : Int) = some (.int (ai bs q)) := at_set (by simp; omega)
    have same : ¬ ((bt b q).i < ai bs p ∧ ai bs p < ai bs q) → RIn b bs0 ws0 m p (j + 1) (rho b bs ws g (.da (.int p))) := fun h => by
      refine ⟨bs, ws, g, rfl, ⟨R, C, St, by omega, cl⟩, fun r r1 r2 => ?_⟩
      rcases Nat.lt_or_ge r q with h' | h'
      · exact In r r1 (by omega)
      · have : r = q := by omega
        exact this ▸ h
    by_cases h1 : (bt b q).i < ai bs p
    · by_cases h2 : ai bs p < ai bs q
      · have nst : ¬ Stb b bs0 0 := fun st => by
          have e := (cl st).1
          subst e
          exact st p q (Nat.zero_le _) (by omega) hqb ⟨h1, h2⟩
        have hz0 : ws0.length = 0 := hz.resolve_right nst
        have a5 : ws.length < 16777216 := by omega
        by_cases h3 : (bt b p).i + (bt b p).m < ai bs q
        · simp [rho, eB, at_b hqb, at_b hp, a1, a2, a3, a4, a5, h1, h2, h3]
          have R' := R.snoc (p := p) (q := q) (by omega) hqb h1 h2
          have := Raised.no R' (by rw [ai_set (by omega), if_pos rfl]; exact h3) hp (by omega)
          exact ⟨_, rfl, by simpa [eW] using this⟩
        · simp [rho, eB, at_b hqb, at_b hp, a1, a2, a3, a4, a5, h1, h2, h3]
          have so := stb_one V hl (p := p) (q := q) (by omega) hqb St (fun r r1 r2 => In r r1 (by omega)) h1 h2
          refine ⟨bs.set p (ai bs q), ws ++ [(p, q)], true, by rw [set_map]; simp [rho, eW, eB], ⟨R.snoc (by omega) hqb h1 h2, fun r hr => ?_, so.1, by simp; omega, fun st => (nst st).elim⟩, fun r r1 r2 => so.2 r r1 (by omega)⟩
          rw [ai_set (by omega)]
          split
          · rename_i e; subst e; omega
          · exact C r hr
      · simp [rho, eB, at_b hqb, at_b hp, a1, a2, a3, a4, h1, h2]
        exact same fun h => h2 h.2
    · simp [rho, eB, at_b hqb, at_b hp, a1, a2, a3, a4, h1]
      exact same fun h => h1 h.1
  · rintro ρ ⟨bs, ws, g, rfl, ⟨R, C, St, hw, cl⟩, In⟩
    rw [rangeD_len] at hw In
    exact ⟨bs, ws, g, rfl, R, C, stb_in St fun r r1 r2 => In r r1 (by omega), by omega, cl⟩
def RPl (b : List Lf) (bs0 : List Int) (ws0 : List (Nat × Nat)) (k : Nat) (ρ : En) : Prop := ∃ bs ws g, ρ = rho b bs ws g .no ∧ RI b bs0 ws0 false bs ws g (7 * k) (b.length - k)
theorem raised_pass {b : List Lf} {n : Nat} {w s : Int} (V : VB b n w s) (hn : n ≤ 8) {bs0 : List Int} {ws0 : List (Nat × Nat)} (R : Rz b bs0 ws0) (C : Cap b bs0) (hm : ws0.length = 0 ∨ Stb b bs0 0) :
    Tot (forL (gNm 4) B2_raised (downD (b.length - 1) b.length) (rho b bs0 ws0 false .no)) (ROut b bs0 ws0 false 56 0 .no) := by
  have hbl := V.le
  refine Tot.forL (Inv := RPl b bs0 ws0) ?_ ?_ ?_
  · exact ⟨bs0, ws0, false, rfl, R, C, fun p q a1 a2 a3 => by omega, by omega, fun _ => ⟨rfl, rfl, rfl⟩⟩
  · rintro j hj ρ ⟨bs, ws, g, rfl, h⟩
    rw [downD_len] at hj
    obtain ⟨p, hp⟩ : ∃ p, p + 1 + j = b.length := ⟨b.length - 1 - j, by omega⟩
    have hpi : (b.length : Int) - 1 - (j : Int) = (p : Int) := by omega
    rw [downD_at, hpi]
    rw [show b.length - j = p + 1 by omega] at h
    have hb1 : isBig ((p : Int) + 1) = true := by simp [isBig]; omega
    have hb2 : isBig (b.length : Int) = true := by simp [isBig]; omega
    have hr : ((b.length : Int) - ((p : Int) + 1)).toNat = b.length - (p + 1) := by omega
    have in_ := raised_in V hn (by omega) (by omega) hm h
    unfold B2_raised
    simp [rho, eB, hb1, hb2, hr] at in_ ⊢
    refine in_.mono fun o q => ?_
    cases o with
    | nx ρ =>
      obtain ⟨bs, ws, g, rfl, h⟩ := q
      simp [rho]
      refine ⟨bs, ws, g, rfl, ?_⟩
      rw [show b.length - (j + 1) = p by omega]
      exact h
    | rt r ρ => exact q
    | ct ρ => exact q.elim
    | bk ρ => exact q.elim
  · rintro ρ ⟨bs, ws, g, rfl, h⟩
    rw [downD_len] at h
    rw [Nat.sub_self] at h
    refine ⟨bs, ws, g, rfl, h.1, h.2.1, h.2.2.1, ?_, h.2.2.2.2⟩
    have := h.2.2.2.1
    omega
theorem RI.ok {b : List Lf} {bs0 bs : List Int} {ws0 ws : List (Nat × Nat)} {g0 g : Bool} {m : Nat} (h : RI b bs0 ws0 g0 bs ws g m 0) : Raised b (.tuple [.tuple (bs.map .int), .list (ws.map eW)]) := .out (h.1.least h.2.2.1 h.2.1) h.1
theorem raised_ok {b : List Lf} {n : Nat} {w s : Int} (V : VB b n w s) (hn : n ≤ 8) : ∃ d, F_raised [eB b, .list ((low b).map .int)] = some (.da d) ∧ Raised b d := by
  have hbl := V.le
  have big : isBig (b.length : Int) = true := by simp [isBig]; omega
  have p1 := raised_pass V hn (bs0 := low b) (ws0 := []) .nil V.cap (.inl rfl)
  have : Tot (F_raised [eB b, .list ((low b).map .int)]) fun r => ∃ d, r = .da d ∧ Raised b d := by
    simp [F_raised, fnF, startE, b_raised]
    rw [show (2000 : Nat) = 1998 + 1 + 1 from rfl, whileL_succ]
    simp
    unfold B3_raised
    simp [eB, big]
    simp [rho, eB] at p1
    refine p1.mono fun o q => ?_
    cases o with
    | nx ρ =>
      obtain ⟨bs, ws, g, rfl, h⟩ := q
      simp [rho]
      rw [whileL_succ]
      cases g with
      | false => 
        simp [outF]
        exact h.ok
      | true =>
        have p2 := raised_pass V hn h.1 h.2.1 (.inr h.2.2.1)
        simp [eB, big]
        simp [rho, eB] at p2
        refine p2.mono fun o q => ?_
        cases o with
        | nx ρ =>
          obtain ⟨bs', ws', g', rfl, h'⟩ := q
          obtain ⟨rfl, rfl, rfl⟩ := h'.2.2.2.2 h.2.2.1
          simp [rho]
          rw [show (1998 : Nat) = 1997 + 1 from rfl, whileL_succ]
          simp [outF]
          exact h'.ok
        | rt r ρ =>
          obtain ⟨d, rfl, h⟩ := q
          simp [outF]
          exact h
        | ct ρ => exact q.elim
        | bk ρ => exact q.elim
    | rt r ρ =>
      obtain ⟨d, rfl, h⟩ := q
      simp [outF]
      exact h
    | ct ρ => exact q.elim
    | bk ρ => exact q.elim
  obtain ⟨r, e, d, rfl, h⟩ := this
  exact ⟨d, e, h⟩
end Gn
namespace Gn
open PySem L2 DL
theorem Raised.lo {b : List Lf} {d : PyData} (h : Raised b d) : ∃ ws, d = .tuple [eO (lo b), ws] := by
  cases h with
  | out h _ => rw [lo_some h]; exact ⟨_, rfl⟩
  | no R c hp _ => rw [lo_none (R.over hp c)]; exact ⟨_, rfl⟩
theorem least_outs_ok {b : List Lf} {n : Nat} {w s : Int} (V : VB b n w s) (hn : n ≤ 8) : F_least_outs [eB b] = some (.da (eO (lo b))) := by
  obtain ⟨d, e, h⟩ := raised_ok V hn
  obtain ⟨ws, rfl⟩ := h.lo
  have := V.le
  simp [F_least_outs, fnF, startE, b_least_outs, first_bounds_ok b (by omega), e, outF]
theorem foldl_max (x : Int) : ∀ (l : List Int), (∀ y ∈ l, y ≤ l.foldl max x) ∧ x ≤ l.foldl max x ∧ (l.foldl max x = x ∨ l.foldl max x ∈ l)
  | [] => by simp
  | y :: l => by
    obtain ⟨h1, h2, h3⟩ := foldl_max (max x y) l
    simp only [List.foldl_cons, List.mem_cons]
    refine ⟨fun z hz => ?_, by omega, ?_⟩
    · rcases hz with rfl | hz
      · omega
      · exact h1 z hz
    · rcases h3 with h3 | h3
      · rw [h3]; omega
      · exact .inr (.inr h3)
theorem foldl_min (x : Int) : ∀ (l : List Int), (∀ y ∈ l, l.foldl min x ≤ y) ∧ l.foldl min x ≤ x ∧ (l.foldl min x = x ∨ l.foldl min x ∈ l)
  | [] => by simp
  | y :: l => by
    obtain ⟨h1, h2, h3⟩ := foldl_min (min x y) l
    simp only [List.foldl_cons, List.mem_cons]
    refine ⟨fun z hz => ?_, by omega, ?_⟩
    · rcases hz with rfl | hz
      · omega
      · exact h1 z hz
    · rcases h3 with h3 | h3
      · rw [h3]; omega
      · exact .inr (.inr h3)
theorem maxI_ok {l : List Int} {m : Int} (h : maxI l = some m) : m ∈ l ∧ ∀ y ∈ l, y ≤ m := by
  cases l with
  | nil => cases h
  | cons x l =>
    cases h
    have := foldl_max x l
    refine ⟨?_, fun y hy => ?_⟩
    · rcases this.2.2 with e | e
      · rw [e]; simp
      · simp [e]
    · rcases List.mem_cons.1 hy with rfl | hy
      · exact this.2.1
      · exact this.1 y hy
theorem minI_ok {l : List Int} {m : Int} (h : minI l = some m) : m ∈ l ∧ ∀ y ∈ l, m ≤ y := by
  cases l with
  | nil => cases h
  | cons x l =>
    cases h
    have := foldl_min x l
    refine ⟨?_, fun y hy => ?_⟩
    · rcases this.2.2 with e | e
      · rw [e]; simp
      · simp [e]
    · rcases List.mem_cons.1 hy with rfl | hy
      · exact this.2.1
      · exact this.1 y hy
theorem maxI_ex {l : List Int} (h : l ≠ []) : ∃ m, maxI l = some m := by
  cases l with
  | nil => exact absurd rfl h
  | cons x l => exact ⟨_, rfl⟩
theorem minI_ex {l : List Int} (h : l ≠ []) : ∃ m, minI l = some m := by
  cases l with
  | nil => exact absurd rfl h
  | cons x l => exact ⟨_, rfl⟩
@[simp] theorem intsD_map (l : List Int) : intsD (l.map .int) = some l := by
  induction l with
  | nil => rfl
  | cons x l ih => simp [intsD, ih]
end Gn
namespace Gn
open PySem L2 DL
@[simp] theorem ovn_ob (b : PyData) (st : List PyData) : (Sl.ob b st).ovn = some (b, st) := rfl
@[simp] theorem daD_da (d : PyData) : (Sl.da d).daD = some d := rfl
@[simp] theorem daR_da (d : PyData) : daR (.da d) = some d := rfl
@[simp] theorem frR_fr (d : List PyData) : frR (.fr d) = some d := rfl
@[simp] theorem isTupR_t (d : List PyData) : isTupR (.da (.tuple d)) = true := rfl
@[simp] theorem nxO_nx (ρ : En) : nxO (.nx ρ) = some ρ := rfl
@[simp] theorem strD_s (z : Str) : strD (.str z) = some z := rfl
section
variable (ρ : En)
@[simp] theorem x_eBat (i : Nat) : eBat i ρ = ol ρ[i]? fun s => ob s.ovn fun b _ => some (.da b, ρ) := rfl
@[simp] theorem x_eLast (i : Nat) : eLast i ρ = ol ρ[i]? fun s => ob s.ovn fun _ st => ol (atI st (-1)) fun d => some (.da d, ρ) := rfl
@[simp] theorem x_eStN (i : Nat) : eStN i ρ = ol ρ[i]? fun s => ob s.ovn fun _ st => some (.da (.int st.length), ρ) := rfl
@[simp] theorem x_eStApp (i : Nat) (e : EF) : eStApp i e ρ = ol ρ[i]? fun s0 => ob s0.ovn fun _ _ => ob (e ρ) fun x ρ1 => ob (sto ρ1 x) fun d ρ2 => ol ρ2[i]? fun s => ob s.ovn fun b st =>
  if st.length < 16777216 then some (.da .none, ρ2.set i (.ob b (st ++ [d]))) else none := rfl
@[simp] theorem x_eStPop (i : Nat) : eStPop i ρ = ol ρ[i]? fun s => ob s.ovn fun b st => ol st[st.length - 1]? fun d => some (.da d, ρ.set i (.ob b st.dropLast)) := rfl
@[simp] theorem x_eMeth (i : Nat) (F : PyData → List PyData → List PyData → Option (Rv × List PyData)) (as : AF) : eMeth i F as ρ = ol ρ[i]? fun s0 => ob s0.ovn fun _ _ => ob (as ρ) fun rs ρ1 => ob (stos ρ1 rs) fun ds ρ2 => ol ρ2[i]? fun s => ob s.ovn fun b st =>
  ob (F b st ds) fun r st' => some (r, ρ2.set i (.ob b st')) := rfl
@[simp] theorem x_eLenO (i : Nat) (F : PyData → List PyData → List PyData → Option (Rv × List PyData)) : eLenO i F ρ = ol ρ[i]? fun s => ob s.ovn fun b st => ob (F b st []) fun r st' => ol (intR r) fun n => if 0 ≤ n ∧ n < 2 ^ 62 then some (.da (.int n), ρ.set i (.ob b st')) else none := rfl
@[simp] theorem x_eEqOO (i j : Nat) : eEqOO i j ρ = ol ρ[i]? fun s => ob s.ovn fun b st => ol ρ[j]? fun s' => ob s'.ovn fun b' st' => ol (atI st (-1)) fun d => ol (atI st' (-1)) fun d' => ol (eqD (.tuple [b, d]) (.tuple [b', d'])) fun r => ol (toB r) fun x => some (.da (.bool x), ρ) := rfl
@[simp] theorem x_eEqOD (i : Nat) (f : EF) : eEqOD i f ρ = ol ρ[i]? fun s => ob s.ovn fun _ _ => ob (f ρ) fun r ρ1 => ol ρ1[i]? fun s' => ob s'.ovn fun _ _ => if isTupR r = true then some (.da (.bool false), ρ1) else none := rfl
@[simp] theorem x_eFrApp (m : EF) : eFrApp m ρ = ob (m ρ) fun r ρ1 => ol (frR r) fun ds => if ds.length < 16777216 then some (.da .none, ρ1) else none := rfl
@[simp] theorem x_eCallOB (i kk j : Nat) (F : PyData → List PyData → PyData → List PyData → Option (Rv × List PyData × List PyData)) : eCallOB i kk j F ρ = ol ρ[i]? fun s => ob s.ovn fun b st => ol ρ[kk]? fun s1 => ol s1.daD fun d => ol ρ[j]? fun s2 => ol s2.ls fun ms => ob (F b st d ms) fun r z => ol (daR r) fun e => some (.da e, (ρ.set j (s2.put z.2)).set i (.ob b z.1)) := rfl
@[simp] theorem x_tLst (f : EF) : tLst f ρ = ob (f ρ) fun r ρ1 => ol (vw ρ1 r) fun d => ol (lsD d) fun xs => some (!xs.isEmpty, ρ1) := rfl
end
@[simp] theorem atI_last {α : Type} (l : List α) (a : α) : atI (l ++ [a]) (-1) = some a := by
  have h : ixN (l ++ [a]).length (-1) = some l.length := by
    unfold ixN
    rw [if_neg (by omega), if_pos (by simp; omega)]
    simp
    omega
  unfold atI
  rw [h]
  simp
@[simp] theorem stOf_ob (b : PyData) (st : List PyData) (ρ : En) : stOf (.ob b st :: ρ) = some st := rfl
@[simp] theorem outO_da (d : PyData) (ρ : En) : outO (.rt (.da d) ρ) = ol (stOf ρ) fun st => some (.da d, st) := rfl
@[simp] theorem outO_fr (d : List PyData) (ρ : En) : outO (.rt (.fr d) ρ) = ol (stOf ρ) fun st => some (.fr d, st) := rfl
@[simp] theorem outO_nx (ρ : En) : outO (.nx ρ) = ol (stOf ρ) fun st => some (.da .none, st) := rfl
structure Go where
  nm : Str
  t : Int
  g : Bool
def eGo (x : Go) : PyData := .tuple [.str x.nm, .int x.t, .bool x.g]
structure Sd where
  now : Int
  gone : List Go
def eS (s : Sd) : PyData := .tuple [.int s.now, .tuple (s.gone.map eGo)]
theorem st0_eq : st0 = eS ⟨0, []⟩ := rfl
/-- the comprehensions, by their items -/
theorem lcL_g {α : Type} {g : GF} {ts : TF} {e : EF} {vs : List Nat} {ρ : En} {h : α → PyData} {F : α → Bool} {G : α → PyData} : ∀ (xs : List α) (acc : List PyData), (∀ x ∈ xs, Tot (g (.da (h x)) ρ) fun ρ1 => Tot (ts ρ1) fun b => b.1 = F x ∧ (F x = false → wipeE b.2 vs = ρ) ∧ (F x = true → Tot (e b.2) fun z => Tot (sto z.2 z.1) fun y => y.1 = G x ∧ wipeE y.2 vs = ρ)) →
    lcL g ts e vs (xs.map h) ρ acc = some (acc ++ (xs.filter F).map G, ρ)
  | [], acc, _ => by simp [lcL]
  | d :: ds, acc, hh => by
    obtain ⟨ρ1, e1, ⟨b, ρ2⟩, e2, h1, h2, h3⟩ := hh d (by simp)
    simp only at h1 h2 h3
    have ih := fun acc => lcL_g (h := h) (F := F) (G := G) ds acc fun d hd => hh d (by simp [hd])
    show ol (g (.da (h d)) ρ) (fun ρ1 => ob (ts ρ1) fun b ρ2 => if b = true then ob (e ρ2) fun x ρ3 => ob (sto ρ3 x) fun y ρ4 => lcL g ts e vs (ds.map h) (wipeE ρ4 vs) (acc ++ [y]) else lcL g ts e vs (ds.map h) (wipeE ρ2 vs) acc) = _
    rw [e1]
    simp only [ol_mk, e2, ob_mk]
    cases hF : F d with
    | true =>
      rw [hF] at h1
      subst h1
      obtain ⟨⟨x, ρ3⟩, e3, ⟨y, ρ4⟩, e4, h4, h5⟩ := h3 hF
      simp only at e3 e4 h4 h5
      subst h4
      simp only [if_true, e3, ob_mk, e4, h5]
      rw [ih, List.filter_cons, hF]
      simp
    | false =>
      rw [hF] at h1
      subst h1
      simp only [Bool.false_eq_true, if_false, h2 hF]
      rw [ih, List.filter_cons, hF]
      simp
theorem lcL_a {α : Type} {g : GF} {e : EF} {vs : List Nat} {ρ : En} {h : α → PyData} {G : α → PyData} (xs : List α) (acc : List PyData) (hh : ∀ x ∈ xs, Tot (g (.da (h x)) ρ) fun ρ1 => Tot (e ρ1) fun z => Tot (sto z.2 z.1) fun y => y.1 = G x ∧ wipeE y.2 vs = ρ) :
    lcL g tYesF e vs (xs.map h) ρ acc = some (acc ++ xs.map G, ρ) := by
  rw [lcL_g (F := fun _ => true) (G := G) xs acc fun x hx => ?_]
  · rw [List.filter_eq_self.2 fun _ _ => rfl]
  · refine (hh x hx).mono fun ρ1 z => ?_
    simp only [x_tYesF, Tot_some]
    exact ⟨by first | rfl | trivial, by simp, fun _ => z⟩
theorem b_range (b : List Lf) : b.map Lf.e = (List.range b.length).map fun p => (bt b p).e := by
  apply List.ext_getElem (by simp)
  intro p h1 h2
  simp at h1
  simp [bt_eq h1]
theorem enum_range (b : List Lf) : enumD 0 (b.map Lf.e) = (List.range b.length).map fun p => .tuple [.int (p : Int), (bt b p).e] := by
  apply List.ext_getElem (by rw [enumD_len]; simp)
  intro p h1 h2
  have h3 : p < b.length := by simpa using h2
  rw [enumD_at 0 _ p h1 (by simpa using h3)]
  simp [bt_eq h3]
theorem nine_ok2 {x : Str} (h : x ∈ nine) : PyData.strOk x = true := by
  have : ∀ x ∈ nine, PyData.strOk x = true := by decide +kernel
  exact this x h
def gn (gs : List Go) (x : Str) : Bool := decide (x ∈ gs.map Go.nm)
theorem in_gone {gs : List Go} {x : Str} (hx : PyData.strOk x = true) (hg : ∀ g ∈ gs, PyData.strOk g.nm = true) : inD (.str x) (.list (gs.map fun g => .str g.nm)) = some (gn gs x) := by
  have h1 : nb 9 (.str x) = true := by simp [nb, hx]
  have h2 : ∀ e ∈ gs.map (fun g => PyData.str g.nm), nb 9 e = true := fun e he => by
    obtain ⟨y, hy, rfl⟩ := List.mem_map.1 he
    simp [nb, hg y hy]
  have h3 : nb 9 (.list (gs.map fun g => PyData.str g.nm)) = true := by
    simp only [nb, List.all_eq_true]
    intro e he
    obtain ⟨y, hy, rfl⟩ := List.mem_map.1 he
    simp [nb, hg y hy]
  have hb : inB (.str x) (gs.map fun g => .str g.nm) = gn gs x := by
    unfold gn
    by_cases h : x ∈ gs.map Go.nm
    · obtain ⟨y, hy, rfl⟩ := List.mem_map.1 h
      rw [(inB_iff h1 h2).2 (List.mem_map.2 ⟨y, hy, rfl⟩)]
      simp only [h, decide_true]
    · have : inB (.str x) (gs.map fun g => .str g.nm) = false := by
        cases q : inB (.str x) (gs.map fun g => .str g.nm) with
        | false => rfl
        | true =>
          obtain ⟨y, hy, e⟩ := List.mem_map.1 ((inB_iff h1 h2).1 q)
          injection e with e
          exact absurd (e ▸ List.mem_map.2 ⟨y, hy, rfl⟩) h
      rw [this]
      simp only [h, decide_false]
  unfold inD
  simp only [nb_shaped (by omega : 9 ≤ 64) h1, nb_shaped (by omega : 9 ≤ 64) h3, Bool.and_self, if_true, hb]
end Gn
namespace Gn
open PySem L2 DL
/-- what a stand must be -/
structure SdOk (s : Sd) : Prop where
  le : s.gone.length ≤ 1000
  nm : ∀ g ∈ s.gone, PyData.strOk g.nm = true
/-- a batch for an oven: at most eight, names from nine -/
structure B8 (b : List Lf) : Prop where
  le : b.length ≤ 8
  nm : ∀ x ∈ b, x.nm ∈ nine
theorem VB.b8 {b : List Lf} {n : Nat} {w s : Int} (V : VB b n w s) (hn : n ≤ 8) : B8 b := ⟨by have := V.le; omega, fun x hx => (V.r x hx).2.2.2.2.2.2.2⟩
def wq (b : List Lf) (s : Sd) (p : Nat) : Bool := decide ((bt b p).i < s.now) && !gn s.gone (bt b p).nm
/-- places within, last first -/
def W (b : List Lf) (s : Sd) : List Nat := ((List.range b.length).filter (wq b s)).reverse
theorem W_len (b : List Lf) (s : Sd) : (W b s).length ≤ b.length := by
  unfold W
  rw [List.length_reverse]
  exact Nat.le_trans (List.length_filter_le ..) (by simp)
theorem W_lt {b : List Lf} {s : Sd} {p : Nat} (h : p ∈ W b s) : p < b.length := by
  unfold W at h
  rw [List.mem_reverse, List.mem_filter, List.mem_range] at h
  exact h.1
section
variable {b : List Lf} {s : Sd} {A : List PyData}
theorem tick_ok : F_Oven_tick (eB b) (A ++ [eS s]) [] = some (.da (.int s.now), A ++ [eS s]) := by
  simp [F_Oven_tick, fnO, startO, b_Oven_tick, eS]
theorem out_ok : F_Oven_out (eB b) (A ++ [eS s]) [] = some (.fr (s.gone.map eGo), A ++ [eS s]) := by
  simp [F_Oven_out, fnO, startO, b_Oven_out, eS]
theorem places_ok (B : B8 b) (G : SdOk s) : F_Oven_places_within (eB b) (A ++ [eS s]) [] = some (.fr ((W b s).map fun p : Nat => .int (p : Int)), A ++ [eS s]) := by
  have g1 : s.gone.length ≤ 16777216 := by have := G.le; omega
  have b1 : b.length ≤ 16777216 := by have := B.le; omega
  have : Tot (F_Oven_places_within (eB b) (A ++ [eS s]) []) fun r => r = (.fr ((W b s).map fun p : Nat => .int (p : Int)), A ++ [eS s]) := by
    simp [F_Oven_places_within, fnO, startO, b_Oven_places_within, eS, g1]
    rw [lcL_a (G := fun g => .str g.nm)]
    rotate_left
    · intro g hg
      simp [eGo]
    simp [eB, enumD_len, b1]
    rw [enum_range, lcL_g (F := wq b s) (G := fun p : Nat => .int (p : Int))]
    rotate_left
    · intro p hp
      have hp : p < b.length := by simpa using hp
      have e1 := in_gone (gs := s.gone) (x := (bt b p).nm) (nine_ok2 (B.nm _ (bt_mem hp))) G.nm
      by_cases c : (bt b p).i < s.now
      · simp [wq, c, e1]
      · simp [wq, c]
    simp [W]
  exact this.eq
theorem within_ok (B : B8 b) (G : SdOk s) : F_Oven_within (eB b) (A ++ [eS s]) [] = some (.da (.tuple ((W b s).map fun p => .str (bt b p).nm)), A ++ [eS s]) := by
  have h := W_len b s
  have h1 : (W b s).length ≤ 16777216 := by have := B.le; omega
  have : Tot (F_Oven_within (eB b) (A ++ [eS s]) []) fun r => r = (.da (.tuple ((W b s).map fun p => .str (bt b p).nm)), A ++ [eS s]) := by
    simp [F_Oven_within, fnO, startO, b_Oven_within, places_ok B G, h1]
    rw [lcL_a (G := fun p => .str (bt b p).nm)]
    rotate_left
    · intro p hp
      have hb := at_b (W_lt hp)
      simp [eB, hb]
    simp
  exact this.eq
theorem len_ok (B : B8 b) (G : SdOk s) : F_Oven___len__ (eB b) (A ++ [eS s]) [] = some (.da (.int (W b s).length), A ++ [eS s]) := by
  simp [F_Oven___len__, fnO, startO, b_Oven___len__, within_ok B G]
theorem lwithin_ok (B : B8 b) (G : SdOk s) : F__law_within [eB b, .int s.now, .tuple (s.gone.map eGo)] = some (.fr ((W b s).map fun p => (bt b p).e)) := by
  have g1 : s.gone.length ≤ 16777216 := by have := G.le; omega
  have b1 : b.length ≤ 16777216 := by have := B.le; omega
  have : Tot (F__law_within [eB b, .int s.now, .tuple (s.gone.map eGo)]) fun r => r = .fr ((W b s).map fun p => (bt b p).e) := by
    simp [F__law_within, fnF, startE, b__law_within, g1, eB, b1]
    rw [lcL_a (G := fun g => .str g.nm)]
    rotate_left
    · intro g hg
      simp [eGo]
    simp [eB, b1]
    rw [b_range, lcL_g (F := wq b s) (G := fun p => (bt b p).e)]
    rotate_left
    · intro p hp
      have hp : p < b.length := by simpa using hp
      have e1 := in_gone (gs := s.gone) (x := (bt b p).nm) (nine_ok2 (B.nm _ (bt_mem hp))) G.nm
      by_cases c : (bt b p).i < s.now
      · simp [wq, c, e1]
      · simp [wq, c]
    simp [W, outF]
  exact this.eq
end
end Gn
namespace Gn
open PySem L2 DL
/-! ### raised, from any bounds -/
def Inc (b : List Lf) : Prop := b.Pairwise fun x y => x.i < y.i
theorem Inc.lt {b : List Lf} (V : Inc b) {p q : Nat} (h : p < q) (hq : q < b.length) : (bt b p).i < (bt b q).i := by
  have := List.pairwise_iff_getElem.1 V p q (by omega) hq h
  rwa [bt_eq, bt_eq] at this
inductive Rq (b : List Lf) (B : List Int) : List Int → List (Nat × Nat) → Prop
  | nil : B.length = b.length → Rq b B B []
  | snoc {bs : List Int} {ws : List (Nat × Nat)} {p q : Nat} : Rq b B bs ws → p < q → q < b.length → (bt b q).i < ai bs p → ai bs p < ai bs q → Rq b B (bs.set p (ai bs q)) (ws ++ [(p, q)])
theorem Rq.len {b : List Lf} {B bs : List Int} {ws : List (Nat × Nat)} (h : Rq b B bs ws) : bs.length = b.length := by
  induction h with
  | nil h => exact h
  | snoc _ _ _ _ _ ih => simpa using ih
theorem Rq.low {b : List Lf} {B bs : List Int} {ws : List (Nat × Nat)} (h : Rq b B bs ws) : ∀ p, p < b.length → ai B p ≤ ai bs p := by
  induction h with
  | nil => intro p hp; omega
  | @snoc bs ws p0 q h hpq hq h1 h2 ih =>
    intro p hp
    rw [ai_set (by have := h.len; omega)]
    split
    · rename_i e; subst e
      have := ih p0 hp; omega
    · exact ih p hp
theorem Rq.leS {b : List Lf} {B bs : List Int} {ws : List (Nat × Nat)} (h : Rq b B bs ws) {S : List Int} (s0 : ∀ p, p < b.length → ai B p ≤ ai S p) (s1 : Stb b S 0) : ∀ p, p < b.length → ai bs p ≤ ai S p := by
  induction h with
  | nil => exact s0
  | @snoc bs ws p0 q h hpq hq h1 h2 ih =>
    intro p hp
    rw [ai_set (by have := h.len; omega)]
    split
    · rename_i e; subst e
      have a1 := ih p0 hp
      have a2 := ih q hq
      have a3 := s1 p0 q (Nat.zero_le _) hpq hq
      omega
    · exact ih p hp
theorem stbI_one {b : List Lf} (V : Inc b) {bs : List Int} (hl : bs.length = b.length) {p q : Nat} (hpq : p < q) (hq : q < b.length) (St : Stb b bs (p + 1))
    (In : ∀ r, p < r → r < q → ¬ ((bt b r).i < ai bs p ∧ ai bs p < ai bs r)) (h1 : (bt b q).i < ai bs p) (h2 : ai bs p < ai bs q) :
    Stb b (bs.set p (ai bs q)) (p + 1) ∧ ∀ r, p < r → r < q + 1 → ¬ ((bt b r).i < ai (bs.set p (ai bs q)) p ∧ ai (bs.set p (ai bs q)) p < ai (bs.set p (ai bs q)) r) := by
  refine ⟨fun p' q' a1 a2 a3 => ?_, fun r a1 a2 => ?_⟩
  · rw [ai_set (by omega), ai_set (by omega), if_neg (by omega), if_neg (by omega)]
    exact St p' q' a1 a2 a3
  · rw [ai_set (by omega), ai_set (by omega), if_pos rfl, if_neg (by omega)]
    rcases Nat.lt_or_ge r q with h | h
    · have := In r a1 h
      have := V.lt h hq
      omega
    · have : r = q := by omega
      subst this
      omega
theorem stbI_max {b : List Lf} {bs : List Int} (hl : bs.length = b.length) {p q : Nat} (hpq : p < q) (hq : q < b.length) (St : Stb b bs (p + 1)) (h1 : (bt b q).i < ai bs p) (h2 : ai bs p < ai bs q)
    (mx : ∀ r, p < r → r < b.length → (bt b r).i < ai bs p → ai bs p < ai bs r → ai bs r ≤ ai bs q) (V : Inc b) : Stb b (bs.set p (ai bs q)) p := by
  refine stb_in (fun p' q' a1 a2 a3 => ?_) fun r a1 a2 => ?_
  · rw [ai_set (by omega), ai_set (by omega), if_neg (by omega), if_neg (by omega)]
    exact St p' q' a1 a2 a3
  · rw [ai_set (by omega), ai_set (by omega), if_pos rfl, if_neg (by omega)]
    rintro ⟨c1, c2⟩
    by_cases h : (bt b r).i < ai bs p
    · have := mx r a1 a2 h (by omega)
      omega
    · have hqr : q < r := by
        rcases Nat.lt_trichotomy q r with h' | h' | h'
        · exact h'
        · subst h'; omega
        · have := V.lt h' hq; omega
      exact St q r (by omega) hqr a2 ⟨by omega, by omega⟩
/-- what `raised` hands back -/
inductive RaisedQ (b : List Lf) (B : List Int) : PyData → Prop
  | out {L : List Int} {ws : List (Nat × Nat)} : Stb b L 0 → Cap b L → Rq b B L ws → RaisedQ b B (.tuple [.tuple (L.map .int), .list (ws.map eW)])
  | no {bs : List Int} {ws : List (Nat × Nat)} {p q : Nat} : Rq b B bs (ws ++ [(p, q)]) → (bt b p).i + (bt b p).m < ai bs p → p < b.length → ws.length < 60 → RaisedQ b B (.tuple [.none, .list ((ws ++ [(p, q)]).map eW)])
def RQI (b : List Lf) (B : List Int) (bs0 : List Int) (ws0 : List (Nat × Nat)) (g0 : Bool) (bs : List Int) (ws : List (Nat × Nat)) (g : Bool) (m p : Nat) : Prop :=
  Rq b B bs ws ∧ Cap b bs ∧ Stb b bs p ∧ ws.length ≤ ws0.length + m ∧ (Stb b bs0 0 → bs = bs0 ∧ ws = ws0 ∧ g = g0)
abbrev rhoQ (b : List Lf) (bs : List Int) (ws : List (Nat × Nat)) (g : Bool) (x : Sl) : En := [.da (eB b), .ow (bs.map .int), .ow (ws.map eW), .da (.bool g), x, .no]
def RQIn (b : List Lf) (B : List Int) (bs0 : List Int) (ws0 : List (Nat × Nat)) (m p j : Nat) (ρ : En) : Prop := ∃ bs ws g, ρ = rhoQ b bs ws g (.da (.int p)) ∧ RQI b B bs0 ws0 false bs ws g (m + j) (p + 1) ∧ ∀ r, p < r → r < p + 1 + j → ¬ ((bt b r).i < ai bs p ∧ ai bs p < ai bs r)
def RQOut (b : List Lf) (B : List Int) (bs0 : List Int) (ws0 : List (Nat × Nat)) (g0 : Bool) (m p : Nat) (x : Sl) : Out → Prop
  | .nx ρ => ∃ bs ws g, ρ = rhoQ b bs ws g x ∧ RQI b B bs0 ws0 g0 bs ws g m p
  | .rt r _ => ∃ d, r = .da d ∧ RaisedQ b B d
  | _ => False
theorem raisedQ_in {b : List Lf} {B : List Int} (V : Inc b) (hn : b.length ≤ 8) {bs0 bs : List Int} {ws0 ws : List (Nat × Nat)} {g : Bool} {m p : Nat} (hp : p < b.length) (hm : m ≤ 49) (hz : ws0.length = 0 ∨ Stb b bs0 0) (h : RQI b B bs0 ws0 false bs ws g m (p + 1)) :
    Tot (forL (gNm 5) B1_raised (rangeD (p + 1) (b.length - (p + 1))) (rhoQ b bs ws g (.da (.int p)))) (RQOut b B bs0 ws0 false (m + 7) p (.da (.int p))) := by
  have hbl := hn
  refine Tot.forL (Inv := RQIn b B bs0 ws0 m p) ?_ ?_ ?_
  · exact ⟨bs, ws, g, rfl, h, fun r a1 a2 => by omega⟩
  · rintro j hj ρ ⟨bs, ws, g, rfl, ⟨R, C, St, hw, cl⟩, In⟩
    rw [rangeD_len] at hj
    unfold B1_raised
    obtain ⟨q, hq⟩ : ∃ q, q = p + 1 + j := ⟨_, rfl⟩
    have hqi : (p : Int) + 1 + (j : Int) = (q : Int) := by omega
    have hqb : q < b.length := by omega
    have hl := R.len
    rw [rangeD_at, hqi]
    have a1 : atI (bs.map PyData.int) (p : Int) = some (.int (ai bs p)) := at_i (by omega)
    have a2 : atI (bs.map PyData.int) (q : Int) = some (.int (ai bs q)) := at_i (by omega)
    have a3 : ixN bs.length (p : Int) = some p := ixN_cast (by omega)
    have a4 : atI ((bs.map PyData.int).set p (.int (ai bs q))) (p : Int) = some (.int (ai bs q)) := at_set (by simp; omega)
    have same : ¬ ((bt b q).i < ai bs p ∧ ai bs p < ai bs q) → RQIn b B bs0 ws0 m p (j + 1) (rhoQ b bs ws g (.da (.int p))) := fun h => by
      refine ⟨bs, ws, g, rfl, ⟨R, C, St, by omega, cl⟩, fun r r1 r2 => ?_⟩
      rcases Nat.lt_or_ge r q with h' | h'
      · exact In r r1 (by omega)
      · have : r = q := by omega
        exact this ▸ h
    by_cases h1 : (bt b q).i < ai bs p
    · by_cases h2 : ai bs p < ai bs q
      · have nst : ¬ Stb b bs0 0 := fun st => by
          have e := (cl st).1
          subst e
          exact st p q (Nat.zero_le _) (by omega) hqb ⟨h1, h2⟩
        have hz0 : ws0.length = 0 := hz.resolve_right nst
        have a5 : ws.length < 16777216 := by omega
        by_cases h3 : (bt b p).i + (bt b p).m < ai bs q
        · simp [rhoQ, eB, at_b hqb, at_b hp, a1, a2, a3, a4, a5, h1, h2, h3]
          have R' := R.snoc (p := p) (q := q) (by omega) hqb h1 h2
          have := RaisedQ.no R' (by rw [ai_set (by omega), if_pos rfl]; exact h3) hp (by omega)
          exact ⟨_, rfl, by simpa [eW] using this⟩
        · simp [rhoQ, eB, at_b hqb, at_b hp, a1, a2, a3, a4, a5, h1, h2, h3]
          have so := stbI_one V hl (p := p) (q := q) (by omega) hqb St (fun r r1 r2 => In r r1 (by omega)) h1 h2
          refine ⟨bs.set p (ai bs q), ws ++ [(p, q)], true, by rw [set_map]; simp [rhoQ, eW, eB], ⟨R.snoc (by omega) hqb h1 h2, fun r hr => ?_, so.1, by simp; omega, fun st => (nst st).elim⟩, fun r r1 r2 => so.2 r r1 (by omega)⟩
          rw [ai_set (by omega)]
          split
          · rename_i e; subst e; omega
          · exact C r hr
      · simp [rhoQ, eB, at_b hqb, at_b hp, a1, a2, a3, a4, h1, h2]
        exact same fun h => h2 h.2
    · simp [rhoQ, eB, at_b hqb, at_b hp, a1, a2, a3, a4, h1]
      exact same fun h => h1 h.1
  · rintro ρ ⟨bs, ws, g, rfl, ⟨R, C, St, hw, cl⟩, In⟩
    rw [rangeD_len] at hw In
    exact ⟨bs, ws, g, rfl, R, C, stb_in St fun r r1 r2 => In r r1 (by omega), by omega, cl⟩
def RQPl (b : List Lf) (B : List Int) (bs0 : List Int) (ws0 : List (Nat × Nat)) (k : Nat) (ρ : En) : Prop := ∃ bs ws g, ρ = rhoQ b bs ws g .no ∧ RQI b B bs0 ws0 false bs ws g (7 * k) (b.length - k)
theorem raisedQ_pass {b : List Lf} {B : List Int} (V : Inc b) (hn : b.length ≤ 8) {bs0 : List Int} {ws0 : List (Nat × Nat)} (R : Rq b B bs0 ws0) (C : Cap b bs0) (hm : ws0.length = 0 ∨ Stb b bs0 0) :
    Tot (forL (gNm 4) B2_raised (downD (b.length - 1) b.length) (rhoQ b bs0 ws0 false .no)) (RQOut b B bs0 ws0 false 56 0 .no) := by
  have hbl := hn
  refine Tot.forL (Inv := RQPl b B bs0 ws0) ?_ ?_ ?_
  · exact ⟨bs0, ws0, false, rfl, R, C, fun p q a1 a2 a3 => by omega, by omega, fun _ => ⟨rfl, rfl, rfl⟩⟩
  · rintro j hj ρ ⟨bs, ws, g, rfl, h⟩
    rw [downD_len] at hj
    obtain ⟨p, hp⟩ : ∃ p, p + 1 + j = b.length := ⟨b.length - 1 - j, by omega⟩
    have hpi : (b.length : Int) - 1 - (j : Int) = (p : Int) := by omega
    rw [downD_at, hpi]
    rw [show b.length - j = p + 1 by omega] at h
    have hb1 : isBig ((p : Int) + 1) = true := by simp [isBig]; omega
    have hb2 : isBig (b.length : Int) = true := by simp [isBig]; omega
    have hr : ((b.length : Int) - ((p : Int) + 1)).toNat = b.length - (p + 1) := by omega
    have in_ := raisedQ_in V hn (by omega) (by omega) hm h
    unfold B2_raised
    simp [rhoQ, eB, hb1, hb2, hr] at in_ ⊢
    refine in_.mono fun o q => ?_
    cases o with
    | nx ρ =>
      obtain ⟨bs, ws, g, rfl, h⟩ := q
      simp [rhoQ]
      refine ⟨bs, ws, g, rfl, ?_⟩
      rw [show b.length - (j + 1) = p by omega]
      exact h
    | rt r ρ => exact q
    | ct ρ => exact q.elim
    | bk ρ => exact q.elim
  · rintro ρ ⟨bs, ws, g, rfl, h⟩
    rw [downD_len] at h
    rw [Nat.sub_self] at h
    refine ⟨bs, ws, g, rfl, h.1, h.2.1, h.2.2.1, ?_, h.2.2.2.2⟩
    have := h.2.2.2.1
    omega
theorem RQI.ok {b : List Lf} {B bs0 bs : List Int} {ws0 ws : List (Nat × Nat)} {g0 g : Bool} {m : Nat} (h : RQI b B bs0 ws0 g0 bs ws g m 0) : RaisedQ b B (.tuple [.tuple (bs.map .int), .list (ws.map eW)]) := .out h.2.2.1 h.2.1 h.1
theorem raisedQ_ok {b : List Lf} {B : List Int} (V : Inc b) (hn : b.length ≤ 8) (hB : B.length = b.length) (hC : Cap b B) : ∃ d, F_raised [eB b, .list (B.map .int)] = some (.da d) ∧ RaisedQ b B d := by
  have hbl := hn
  have big : isBig (b.length : Int) = true := by simp [isBig]; omega
  have p1 := raisedQ_pass V hn (bs0 := B) (ws0 := []) (.nil hB) hC (.inl rfl)
  have : Tot (F_raised [eB b, .list (B.map .int)]) fun r => ∃ d, r = .da d ∧ RaisedQ b B d := by
    simp [F_raised, fnF, startE, b_raised]
    rw [show (2000 : Nat) = 1998 + 1 + 1 from rfl, whileL_succ]
    simp
    unfold B3_raised
    simp [eB, big]
    simp [rhoQ, eB] at p1
    refine p1.mono fun o q => ?_
    cases o with
    | nx ρ =>
      obtain ⟨bs, ws, g, rfl, h⟩ := q
      simp [rhoQ]
      rw [whileL_succ]
      cases g with
      | false => 
        simp [outF]
        exact h.ok
      | true =>
        have p2 := raisedQ_pass V hn h.1 h.2.1 (.inr h.2.2.1)
        simp [eB, big]
        simp [rhoQ, eB] at p2
        refine p2.mono fun o q => ?_
        cases o with
        | nx ρ =>
          obtain ⟨bs', ws', g', rfl, h'⟩ := q
          obtain ⟨rfl, rfl, rfl⟩ := h'.2.2.2.2 h.2.2.1
          simp [rhoQ]
          rw [show (1998 : Nat) = 1997 + 1 from rfl, whileL_succ]
          simp [outF]
          exact h'.ok
        | rt r ρ =>
          obtain ⟨d, rfl, h⟩ := q
          simp [outF]
          exact h
        | ct ρ => exact q.elim
        | bk ρ => exact q.elim
    | rt r ρ =>
      obtain ⟨d, rfl, h⟩ := q
      simp [outF]
      exact h
    | ct ρ => exact q.elim
    | bk ρ => exact q.elim
  obtain ⟨r, e, d, rfl, h⟩ := this
  exact ⟨d, e, h⟩
end Gn
namespace Gn
open PySem L2 DL
/-! ### equality with truth values in it -/
def nr : Nat → PyData → Bool
  | _, .none => true
  | _, .bool _ => true
  | _, .int _ => true
  | _, .str x => PyData.strOk x
  | k + 1, .tuple ds => ds.all (nr k)
  | k + 1, .list ds => ds.all (nr k)
  | _, _ => false
theorem nr_shape : ∀ (k : Nat) (d : PyData), nr k d = true → PyData.canLay0 d = true ∧ PyData.depth d ≤ k := by
  intro k
  induction k with
  | zero => intro d hd; cases d <;> simp [nr] at hd <;> simp [PyData.canLay0, PyData.depth, hd]
  | succ k ih =>
    intro d hd
    cases d <;> simp only [nr, List.all_eq_true] at hd <;> first | exact absurd hd Bool.false_ne_true | skip
    · simp [PyData.canLay0, PyData.depth]
    · simp [PyData.canLay0, PyData.depth]
    · simp [PyData.canLay0, PyData.depth]
    · simp [PyData.canLay0, PyData.depth, hd]
    · simp only [PyData.canLay0, PyData.depth]
      exact ⟨canLayAll_of _ fun x hx => (ih x (hd x hx)).1, Nat.succ_le_succ (depthAll_of _ fun x hx => (ih x (hd x hx)).2)⟩
    · simp only [PyData.canLay0, PyData.depth]
      exact ⟨canLayAll_of _ fun x hx => (ih x (hd x hx)).1, Nat.succ_le_succ (depthAll_of _ fun x hx => (ih x (hd x hx)).2)⟩
theorem nr_sh {k : Nat} {d : PyData} (h : nr k d = true) (hk : k ≤ 64) : SeqAt.shaped d = true := by
  have := nr_shape k d h
  unfold SeqAt.shaped
  rw [this.1]
  simp; omega
theorem eqvAll_refl {p : PyData → Prop} (h : ∀ d, p d → PyData.eqv d d = true) : ∀ xs : List PyData, (∀ x ∈ xs, p x) → PyData.eqvAll xs xs = true
  | [], _ => by simp [PyData.eqvAll]
  | x :: xs, hx => by simp [PyData.eqvAll, h x (hx x (by simp)), eqvAll_refl h xs fun y hy => hx y (by simp [hy])]
theorem nr_refl : ∀ (k : Nat) (d : PyData), nr k d = true → PyData.eqv d d = true := by
  intro k
  induction k with
  | zero => intro d hd; cases d <;> simp [nr] at hd <;> simp [PyData.eqv]
  | succ k ih =>
    intro d hd
    cases d <;> simp only [nr, List.all_eq_true] at hd <;> first | exact absurd hd Bool.false_ne_true | skip
    · simp [PyData.eqv]
    · simp [PyData.eqv]
    · simp [PyData.eqv]
    · simp [PyData.eqv]
    · simp only [PyData.eqv]
      exact eqvAll_refl (p := fun d => nr k d = true) ih _ hd
    · simp only [PyData.eqv]
      exact eqvAll_refl (p := fun d => nr k d = true) ih _ hd
theorem eqR {d : PyData} (h : nr 9 d = true) : eqD d d = some (.da (.bool true)) := by
  unfold eqD
  rw [nr_sh h (by omega), nr_refl 9 d h]
  rfl
theorem neR {d : PyData} (h : nr 9 d = true) : neD d d = some (.da (.bool false)) := by
  unfold neD
  rw [nr_sh h (by omega), nr_refl 9 d h]
  rfl
theorem ne_nil {xs : List PyData} (h : nr 9 (.list xs) = true) : neD (.list xs) (.list []) = some (.da (.bool (!xs.isEmpty))) := by
  unfold neD
  rw [nr_sh h (by omega), nr_sh (k := 9) (d := .list []) (by simp [nr]) (by omega)]
  cases xs with
  | nil => simp [PyData.eqv, PyData.eqvAll]
  | cons x xs => simp [PyData.eqv, PyData.eqvAll]
theorem eq_nil {xs : List PyData} (h : nr 9 (.list xs) = true) : eqD (.list xs) (.list []) = some (.da (.bool xs.isEmpty)) := by
  unfold eqD
  rw [nr_sh h (by omega), nr_sh (k := 9) (d := .list []) (by simp [nr]) (by omega)]
  cases xs with
  | nil => simp [PyData.eqv, PyData.eqvAll]
  | cons x xs => simp [PyData.eqv, PyData.eqvAll]
theorem nr_map {α : Type} {k : Nat} {f : α → PyData} {xs : List α} (h : ∀ x ∈ xs, nr k (f x) = true) : nr (k + 1) (.list (xs.map f)) = true := by
  simp only [nr, List.all_eq_true]
  intro d hd
  obtain ⟨x, hx, rfl⟩ := List.mem_map.1 hd
  exact h x hx
theorem nr_mapT {α : Type} {k : Nat} {f : α → PyData} {xs : List α} (h : ∀ x ∈ xs, nr k (f x) = true) : nr (k + 1) (.tuple (xs.map f)) = true := by
  simp only [nr, List.all_eq_true]
  intro d hd
  obtain ⟨x, hx, rfl⟩ := List.mem_map.1 hd
  exact h x hx
theorem nr_eGo {g : Go} (k : Nat) (h : PyData.strOk g.nm = true) : nr (k + 1) (eGo g) = true := by
  cases k <;> simp [eGo, nr, h]
theorem is_from_ok (x lo hi : Int) : F_is_from [.int x, .int lo, .int hi] = some (.da (.bool (decide (lo ≤ x) && decide (x ≤ hi)))) := by
  by_cases h : lo ≤ x
  · simp [F_is_from, fnF, startE, b_is_from, h, outF]
  · simp [F_is_from, fnF, startE, b_is_from, h, outF]
end Gn
namespace Gn
open PySem L2 DL
theorem scL_map {g : GF} {e : EF} {vs : List Nat} {ρ : En} {F : PyData → Key} : ∀ (ds : List PyData) (acc : List Key), (∀ d ∈ ds, Tot (g (.da d) ρ) fun ρ1 => Tot (e ρ1) fun x => keyR x.1 = some (F d) ∧ wipeE x.2 vs = ρ) →
    scL g tYesF e vs ds ρ acc = some ((ds.map F).foldl insK acc, ρ)
  | [], acc, _ => rfl
  | d :: ds, acc, h => by
    obtain ⟨ρ1, e1, ⟨r, ρ2⟩, e2, e3, e4⟩ := h d (by simp)
    simp only at e3 e4
    show ol (g (.da d) ρ) (fun ρ1 => ob (tYesF ρ1) fun b ρ2 => if b = true then ob (e ρ2) fun x ρ3 => ol (keyR x) fun k => scL g tYesF e vs ds (wipeE ρ3 vs) (insK acc k) else scL g tYesF e vs ds (wipeE ρ2 vs) acc) = _
    rw [e1]
    simp only [ol_mk, x_tYesF, ob_mk, if_true, e2, e3, e4]
    rw [scL_map ds _ fun d hd => h d (by simp [hd])]
    rfl
theorem memK_iff {acc : List Key} {k : Key} : memK acc k = true ↔ k ∈ acc := by
  unfold memK
  rw [List.any_eq_true]
  constructor
  · rintro ⟨x, hx, e⟩
    have : k = x := by simpa using e
    exact this ▸ hx
  · exact fun h => ⟨k, h, by simp⟩
theorem fold_le : ∀ (ks acc : List Key), (ks.foldl insK acc).length ≤ acc.length + ks.length
  | [], acc => by simp
  | k :: ks, acc => by
    have h1 := fold_le ks (insK acc k)
    have h2 := insK_len acc k
    simp only [List.foldl_cons, List.length_cons]
    omega
theorem fold_eq : ∀ (ks acc : List Key), (ks.foldl insK acc).length = acc.length + ks.length ↔ ks.Nodup ∧ ∀ k ∈ ks, k ∉ acc
  | [], acc => by simp
  | k :: ks, acc => by
    simp only [List.foldl_cons, List.length_cons]
    by_cases hk : memK acc k = true
    · have e : insK acc k = acc := by unfold insK; rw [if_pos hk]
      rw [e]
      have := fold_le ks acc
      constructor
      · intro h; omega
      · rintro ⟨_, h⟩
        exact absurd (memK_iff.1 hk) (h k (by simp))
    · have e : insK acc k = acc ++ [k] := by unfold insK; rw [if_neg hk]
      have hk' : k ∉ acc := fun h => hk (memK_iff.2 h)
      rw [e]
      have ih := fold_eq ks (acc ++ [k])
      rw [List.length_append, List.length_singleton] at ih
      rw [show acc.length + (ks.length + 1) = acc.length + 1 + ks.length by omega, ih, List.nodup_cons]
      constructor
      · rintro ⟨h1, h2⟩
        refine ⟨⟨fun h => ?_, h1⟩, fun x hx => ?_⟩
        · exact h2 k h (by simp)
        · rcases List.mem_cons.1 hx with rfl | hx
          · exact hk'
          · exact fun h => h2 x hx (by simp [h])
      · rintro ⟨⟨h1, h2⟩, h3⟩
        refine ⟨h2, fun x hx h => ?_⟩
        rcases List.mem_append.1 h with h | h
        · exact h3 x (by simp [hx]) h
        · simp at h
          subst h
          exact h1 hx
theorem is_name_ok {x : Str} (h : x ∈ nine) : F_is_name [.str x] = some (.da (.bool true)) := by
  unfold nine at h
  simp only [List.mem_cons, List.not_mem_nil, or_false] at h
  rcases h with rfl | rfl | rfl | rfl | rfl | rfl | rfl | rfl | rfl <;> rfl
def lok (x : Lf) : Bool := decide (0 ≤ x.i) && decide (x.i ≤ 40) && (decide (1 ≤ x.l) && decide (x.l ≤ 40) && (decide (x.l ≤ x.m) && decide (x.m ≤ 60)))
theorem is_loaf_ok {x : Lf} (h : x.nm ∈ nine) : F_is_loaf [x.e] = some (.da (.bool (lok x))) := by
  have n4 : neD (.int 4) (.int 4) = some (.da (.bool false)) := neD_same (by simp [nb])
  have e1 := is_name_ok h
  have : Tot (F_is_loaf [x.e]) fun r => r = .da (.bool (lok x)) := by
    simp [F_is_loaf, fnF, startE, b_is_loaf, Lf.e, n4, e1, is_from_ok]
    unfold lok
    by_cases c1 : 0 ≤ x.i <;> by_cases c2 : x.i ≤ 40 <;> by_cases c3 : 1 ≤ x.l <;> by_cases c4 : x.l ≤ 40 <;> simp [c1, c2, c3, c4, is_from_ok, outF]
  exact this.eq
end Gn
namespace Gn
open PySem L2 DL
structure BOK (b : List Lf) : Prop where
  ne : 1 ≤ b.length
  le : b.length ≤ 8
  r : ∀ x ∈ b, lok x = true
  nd : (b.map Lf.nm).Nodup
  inc : b.Pairwise fun x y => x.i < y.i
theorem blsD_map (l : List Bool) : blsD (l.map .bool) = some l := by
  induction l with
  | nil => rfl
  | cons x l ih => simp [blsD, ih]
/-- each next greater -/
def adj (b : List Lf) : List Bool := (b.zip b.tail).map fun p => decide (p.1.i < p.2.i)
theorem zipD_e : ∀ (b c : List Lf), zipD (b.map Lf.e) (c.map Lf.e) = (b.zip c).map fun p => .tuple [p.1.e, p.2.e]
  | [], _ => by simp [zipD]
  | _ :: _, [] => by simp [zipD]
  | x :: b, y :: c => by simp [zipD, zipD_e b c]
theorem adj_inc : ∀ (b : List Lf), (adj b).all id = true ↔ b.Pairwise fun x y => x.i < y.i
  | [] => by simp [adj]
  | [x] => by simp [adj]
  | x :: y :: b => by
    have ih := adj_inc (y :: b)
    have e : adj (x :: y :: b) = decide (x.i < y.i) :: adj (y :: b) := by simp [adj]
    rw [e, List.all_cons, Bool.and_eq_true, ih, List.pairwise_cons (a := x)]
    constructor
    · rintro ⟨h, p⟩
      have h : x.i < y.i := by simpa using h
      refine ⟨fun z hz => ?_, p⟩
      rcases List.mem_cons.1 hz with rfl | hz
      · exact h
      · have := (List.pairwise_cons.1 p).1 z hz
        omega
    · rintro ⟨h, p⟩
      exact ⟨by simpa using h y (by simp), p⟩
@[simp] theorem x_eLenSc (ρ : En) (it : IF) (g : GF) (ts : TF) (e : EF) (vs : List Nat) : eLenSc it g ts e vs ρ = ob (it ρ) fun ds ρ1 => if (decide (ds.length ≤ 60) && vs.all fun i => freeSl (ρ1.getD i .no)) = true then
  ob (scL g ts e vs ds (wipeE ρ1 vs) []) fun acc ρ2 => some (.da (.int acc.length), backE ρ1 vs ρ2) else none := rfl
def BV (b : List Lf) (r : Rv) : Prop := ∃ v, r = .da (.bool v) ∧ (v = true ↔ BOK b)
theorem BV.no {b : List Lf} (h : ¬ BOK b) : BV b (.da (.bool false)) := ⟨false, rfl, by simp [h]⟩
theorem is_batch_any {b : List Lf} (hb : b.length ≤ 8) (hn : ∀ x ∈ b, x.nm ∈ nine) : ∃ v, F_is_batch [eB b] = some (.da (.bool v)) ∧ (v = true ↔ BOK b) := by
  have h' : b.length ≤ 16777216 := by omega
  have e1 : (b.map fun x => PyData.bool (lok x)) = (b.map lok).map .bool := by simp
  have hz : zipD (b.map Lf.e) (b.map Lf.e).tail = (b.zip b.tail).map fun p => .tuple [p.1.e, p.2.e] := by rw [← List.map_tail]; exact zipD_e _ _
  have e2 : (zipD (b.map Lf.e) (b.map Lf.e).tail).length ≤ 16777216 := by rw [hz]; simp; omega
  have : Tot (F_is_batch [eB b]) (BV b) := by
    by_cases c0 : 1 ≤ b.length
    · have l1 : (1 : Int) ≤ (b.length : Int) := by omega
      have l2 : (b.length : Int) ≤ 8 := by omega
      have l3 : b.length ≤ 60 := by omega
      simp [F_is_batch, fnF, startE, b_is_batch, eB, h', l1, l2]
      rw [lcL_map (F := fun d => match d with | .tuple [.str n, .int i, .int l, .int m] => .bool (lok ⟨n, i, l, m⟩) | _ => .none)]
      rotate_left
      · intro d hd
        obtain ⟨x, hx, rfl⟩ := List.mem_map.1 hd
        simp [is_loaf_ok (hn x hx)]
        simp [Lf.e]
      have e3 : ((b.map Lf.e).map fun d => match d with | .tuple [.str n, .int i, .int l, .int m] => PyData.bool (lok ⟨n, i, l, m⟩) | _ => .none) = (b.map lok).map .bool := by simp [Lf.e]
      simp only [List.nil_append, e3, ob_mk, backE_cons, backE_nil, Tot_some, Tot_ol, Tot_ob, deg_fr, vws_cons, vws_nil, vw_da, vw_fr, ol_mk, allD_l, blsD_map]
      by_cases c1 : ∃ a, a ∈ b ∧ lok a = false
      · simp [c1, outF]
        refine .no fun B => ?_
        obtain ⟨a, ha, hf⟩ := c1
        rw [B.r a ha] at hf
        cases hf
      · simp [c1, l3]
        rw [scL_map (F := fun d => match d with | .tuple (.str n :: _) => .inr n | _ => .inl 0)]
        rotate_left
        · intro d hd
          obtain ⟨x, hx, rfl⟩ := List.mem_map.1 hd
          simp [Lf.e, keyR]
        have e4 : ((b.map Lf.e).map fun d => match d with | .tuple (.str n :: _) => (Sum.inr n : Key) | _ => .inl 0) = (b.map Lf.nm).map Sum.inr := by simp [Lf.e]
        rw [e4]
        have fe := fold_eq ((b.map Lf.nm).map (Sum.inr : Str → Key)) []
        have nd : ((b.map Lf.nm).map (Sum.inr : Str → Key)).Nodup ↔ (b.map Lf.nm).Nodup := by
          constructor
          · intro h
            exact List.Pairwise.of_map _ (fun a b h e => h (by rw [e])) h
          · intro h
            exact List.Pairwise.map _ (fun a b h e => h (by injection e)) h
        simp only [List.length_map, List.length_nil, Nat.zero_add, List.not_mem_nil, not_false_eq_true, implies_true, and_true] at fe
        rw [nd] at fe
        generalize ((b.map Lf.nm).map (Sum.inr : Str → Key)).foldl insK [] = ks at fe ⊢
        by_cases c2 : ks.length = b.length
        · have n0 : neD (.int ks.length) (.int b.length) = some (.da (.bool false)) := by rw [c2]; exact neD_same (by simp [nb])
          have e1' : (some (1 : Int)) = some ((1 : Nat) : Int) := rfl
          simp [n0]
          rw [e1', cutD_drop]
          simp [e2]
          rw [hz, lcL_map (F := fun d => match d with | .tuple [.tuple [_, .int i, _, _], .tuple [_, .int j, _, _]] => .bool (decide (i < j)) | _ => .none)]
          rotate_left
          · intro d hd
            obtain ⟨x, hx, rfl⟩ := List.mem_map.1 hd
            simp [Lf.e]
          have e5 : (((b.zip b.tail).map fun p => PyData.tuple [p.1.e, p.2.e]).map fun d => match d with | .tuple [.tuple [_, .int i, _, _], .tuple [_, .int j, _, _]] => PyData.bool (decide (i < j)) | _ => .none) = (adj b).map .bool := by simp [Lf.e, adj]
          simp only [List.nil_append, e5, ob_mk, Tot_some, Tot_ol, deg_fr, vw_fr, allD_l, blsD_map, ol_mk, retR_da, outF]
          refine ⟨(adj b).all id, rfl, ?_⟩
          rw [adj_inc]
          exact ⟨fun h => ⟨c0, hb, fun x hx => by
            cases hq : lok x with
            | true => rfl
            | false => exact (c1 ⟨x, hx, hq⟩).elim, fe.1 c2, h⟩, fun B => B.inc⟩
        · have n0 : neD (.int ks.length) (.int b.length) = some (.da (.bool true)) := neD_diff (by simp [nb]) (by simp [nb]) (by simp; omega)
          simp [n0, outF]
          exact .no fun B => c2 (fe.2 B.nd)
    · have : b = [] := by
        cases b with
        | nil => rfl
        | cons _ _ => simp at c0
      subst this
      simp [F_is_batch, fnF, startE, b_is_batch, eB, outF]
      exact .no fun B => by have := B.ne; simp at this
  obtain ⟨r, e, v, rfl, h⟩ := this
  exact ⟨v, e, h⟩
end Gn
namespace Gn
open PySem L2 DL
/-! ### can still -/
def bnd (now : Int) (x : Lf) : Int := if now < x.i + x.l then x.i + x.l else now
def restG (b : List Lf) (gs : List Go) : List Lf := b.filter fun x => !gn gs x.nm
structure Stay (c : List Lf) (now : Int) (S : List Int) : Prop where
  len : S.length = c.length
  lo : ∀ p, p < c.length → bnd now (bt c p) ≤ ai S p
  cap : Cap c S
  st : Stb c S 0
def CanS (b : List Lf) (s : Sd) : Prop := (∀ g ∈ s.gone, g.g = true) ∧ ∃ S, Stay (restG b s.gone) s.now S
theorem zip_same {α : Type} (f g : α → PyData) : ∀ l : List α, zipD (l.map f) (l.map g) = l.map fun x => .tuple [f x, g x]
  | [] => by simp [zipD]
  | x :: l => by simp [zipD, zip_same f g l]
theorem blsD_mapf {α : Type} (f : α → Bool) (l : List α) : blsD (l.map fun x => .bool (f x)) = some (l.map f) := by
  induction l with
  | nil => rfl
  | cons x l ih => simp [blsD, ih]
def bnds (now : Int) (c : List Lf) : List Int := c.map (bnd now)
theorem ai_bnds {now : Int} {c : List Lf} {p : Nat} (h : p < c.length) : ai (bnds now c) p = bnd now (bt c p) := by simp [ai, bnds, bt, h]
theorem bnds_data (now : Int) (c : List Lf) : (bnds now c).map PyData.int = c.map fun x => PyData.int (bnd now x) := by simp [bnds]
theorem capb {c : List Lf} {now : Int} : true ∈ c.map (fun x => decide (x.i + x.m < bnd now x)) ↔ ¬ Cap c (bnds now c) := by
  simp only [List.mem_map, Cap]
  constructor
  · rintro ⟨x, hx, h⟩ C
    obtain ⟨p, hp, rfl⟩ := List.getElem_of_mem hx
    have := C p hp
    rw [ai_bnds hp, ← bt_eq hp] at this
    have h : c[p].i + c[p].m < bnd now c[p] := by simpa using h
    omega
  · intro C
    refine Classical.byContradiction fun h => C fun p hp => ?_
    rw [ai_bnds hp]
    refine Classical.byContradiction fun h' => h ⟨bt c p, bt_mem hp, ?_⟩
    simp; omega
theorem goodb {gs : List Go} : ¬ false ∈ gs.map Go.g ↔ ∀ g ∈ gs, g.g = true := by
  simp only [List.mem_map]
  constructor
  · intro h g hg
    cases q : g.g with
    | true => rfl
    | false => exact (h ⟨g, hg, q⟩).elim
  · rintro h ⟨g, hg, q⟩
    rw [h g hg] at q
    cases q
/-- what raised says of a batch and a tick -/
theorem raised_stay {c : List Lf} {now : Int} (V : Inc c) (hn : c.length ≤ 8) (C : Cap c (bnds now c)) : ∃ d w, F_raised [eB c, .list ((bnds now c).map .int)] = some (.da (.tuple [d, w])) ∧ (isNone d = false ↔ ∃ S, Stay c now S) := by
  obtain ⟨d, e, R⟩ := raisedQ_ok V hn (by simp [bnds]) C
  cases R with
  | @out L ws s1 c1 r1 =>
    refine ⟨_, _, e, ⟨fun _ => ⟨L, r1.len, fun p hp => ?_, c1, s1⟩, fun _ => rfl⟩⟩
    have := r1.low p hp
    rwa [ai_bnds hp] at this
  | no r1 h1 hp _ =>
    refine ⟨_, _, e, ⟨fun h => (by cases h), fun ⟨S, T⟩ => ?_⟩⟩
    have h2 := r1.leS (S := S) (fun p hp => by rw [ai_bnds hp]; exact T.lo p hp) T.st _ hp
    have h3 := T.cap _ hp
    omega
theorem Stay.capb {c : List Lf} {now : Int} {S : List Int} (T : Stay c now S) : Cap c (bnds now c) := fun p hp => by
  rw [ai_bnds hp]
  exact Int.le_trans (T.lo p hp) (T.cap p hp)
theorem Inc.filter {b : List Lf} (V : Inc b) (q : Lf → Bool) : Inc (b.filter q) := List.Pairwise.sublist List.filter_sublist V
section
variable {b : List Lf} {s : Sd} {A : List PyData}
theorem can_ok (B : B8 b) (V : Inc b) (G : SdOk s) : ∃ v, F_Oven_can_still (eB b) (A ++ [eS s]) [] = some (.da (.bool v), A ++ [eS s]) ∧ (v = true ↔ CanS b s) := by
  have g1 : s.gone.length ≤ 16777216 := by have := G.le; omega
  have b1 : b.length ≤ 16777216 := by have := B.le; omega
  have c8 : (restG b s.gone).length ≤ 8 := Nat.le_trans (List.length_filter_le ..) B.le
  have c1 : (restG b s.gone).length ≤ 16777216 := by omega
  have : Tot (F_Oven_can_still (eB b) (A ++ [eS s]) []) fun r => ∃ v, r = (.da (.bool v), A ++ [eS s]) ∧ (v = true ↔ CanS b s) := by
    simp [F_Oven_can_still, fnO, startO, b_Oven_can_still, eS, g1]
    rw [lcL_a (G := fun g => .bool g.g)]
    rotate_left
    · intro g hg
      simp [eGo]
    simp only [List.nil_append, ob_mk, backE_cons, backE_nil, Tot_some, Tot_ol, Tot_ob, deg_fr, vws_cons, vws_nil, vw_da, vw_fr, ol_mk, allD_l, blsD_mapf]
    by_cases h1 : false ∈ s.gone.map Go.g
    · rw [if_pos h1]
      simp
      exact fun h => goodb.2 h.1 h1
    rw [if_neg h1]
    simp [g1]
    rw [lcL_a (G := fun g => .str g.nm)]
    rotate_left
    · intro g hg
      simp [eGo]
    simp [eB, b1]
    rw [lcL_g (F := fun x => !gn s.gone x.nm) (G := Lf.e)]
    rotate_left
    · intro x hx
      have e1 := in_gone (gs := s.gone) (x := x.nm) (nine_ok2 (B.nm _ hx)) G.nm
      simp [e1]
    have hc : b.filter (fun x => !gn s.gone x.nm) = restG b s.gone := rfl
    rw [hc]
    have hV : Inc (restG b s.gone) := V.filter _
    simp [c1]
    unfold CanS
    generalize restG b s.gone = c at c8 c1 hV ⊢
    rw [lcL_a (G := fun x => .int (bnd s.now x))]
    rotate_left
    · intro x hx
      simp [bnd]
    simp [zip_same, c1]
    rw [lcL_a (G := fun x => .bool (decide (x.i + x.m < bnd s.now x)))]
    rotate_left
    · intro x hx
      simp
    simp only [List.nil_append, ob_mk, backE_cons, backE_nil, Tot_some, Tot_ol, Tot_ob, deg_fr, vws_cons, vws_nil, vw_da, vw_fr, ol_mk, anyD_l, blsD_mapf]
    by_cases h2 : true ∈ c.map fun x => decide (x.i + x.m < bnd s.now x)
    · rw [if_pos h2]
      simp
      exact fun _ S T => capb.1 h2 T.capb
    · have C : Cap c (bnds s.now c) := Classical.byContradiction fun C => h2 (capb.2 C)
      rw [if_neg h2]
      obtain ⟨d, w, e, hd⟩ := raised_stay hV c8 C
      rw [bnds_data] at e
      simp only [eB] at e
      simp [e]
      cases q : isNone d with
      | true => exact .inl ⟨rfl, fun _ S T => by have := hd.2 ⟨S, T⟩; rw [q] at this; cases this⟩
      | false => exact .inr ⟨rfl, goodb.1 h1, hd.1 q⟩
  obtain ⟨r, e, v, rfl, h⟩ := this
  exact ⟨v, e, h⟩
end
end Gn
namespace Gn
open PySem L2 DL
/-! ### the law's can still -/
/-- lists between the first bounds and every stable list above them -/
structure Rc (c : List Lf) (B bs : List Int) : Prop where
  len : bs.length = c.length
  low : ∀ p, p < c.length → ai B p ≤ ai bs p
  leS : ∀ S, (∀ p, p < c.length → ai B p ≤ ai S p) → Stb c S 0 → ∀ p, p < c.length → ai bs p ≤ ai S p
abbrev rhoC (c : List Lf) (bs : List Int) (x y : Sl) : En := [.no, .no, .no, .no, .no, .no, .da (.list (c.map Lf.e)), .ow (bs.map .int), x, y, .no, .no, .no]
def CIn (c : List Lf) (bs : List Int) (p : Nat) (ρ0 : En) (j : Nat) (acc : List PyData) (ρ : En) : Prop := ρ = ρ0 ∧ ∃ l : List Int, acc = l.map .int ∧ l.length ≤ j ∧
  (∀ x ∈ l, ∃ r, p < r ∧ r < c.length ∧ (bt c r).i < ai bs p ∧ ai bs p < ai bs r ∧ x = ai bs r) ∧ ∀ r, p < r → r < p + 1 + j → (bt c r).i < ai bs p → ai bs p < ai bs r → ai bs r ∈ l
def CPl (c : List Lf) (B : List Int) (k : Nat) (ρ : En) : Prop := ∃ bs, ρ = rhoC c bs .no .no ∧ Rc c B bs ∧ Stb c bs (c.length - k)
theorem set_self {S : List Int} {p : Nat} (h : p < S.length) : S.set p (ai S p) = S := by
  apply List.ext_getElem (by simp)
  intro q h1 h2
  rw [List.getElem_set]
  split
  · rename_i e; subst e; rw [ai_eq h]
  · rfl
theorem can_pass {c : List Lf} (V : Inc c) (hn : c.length ≤ 8) {B bs0 : List Int} (R0 : Rc c B bs0) :
    Tot (forL (gNm 9) B1__law_can_still (downD (c.length - 1) c.length) (rhoC c bs0 .no .no)) fun o => ∃ bs, o = .nx (rhoC c bs .no .no) ∧ Rc c B bs ∧ Stb c bs 0 := by
  refine Tot.forL (Inv := CPl c B) ?_ ?_ ?_
  · exact ⟨bs0, rfl, R0, fun p q a1 a2 a3 => by omega⟩
  · rintro j hj ρ ⟨bs, rfl, R, St⟩
    rw [downD_len] at hj
    obtain ⟨p, hp⟩ : ∃ p, p + 1 + j = c.length := ⟨c.length - 1 - j, by omega⟩
    have hpi : (c.length : Int) - 1 - (j : Int) = (p : Int) := by omega
    rw [downD_at, hpi]
    rw [show c.length - j = p + 1 by omega] at St
    have hb1 : isBig ((p : Int) + 1) = true := by simp [isBig]; omega
    have hb2 : isBig (c.length : Int) = true := by simp [isBig]; omega
    have hr : ((c.length : Int) - ((p : Int) + 1)).toNat = c.length - (p + 1) := by omega
    have hl := R.len
    have hpb : p < c.length := by omega
    have a1 : atI (bs.map PyData.int) (p : Int) = some (.int (ai bs p)) := at_i (by omega)
    have a3 : ixN bs.length (p : Int) = some p := ixN_cast (by omega)
    have len : (rangeD ((p : Int) + 1) (c.length - (p + 1))).length ≤ 16777216 := by rw [rangeD_len]; omega
    unfold B1__law_can_still
    simp [rhoC, hb1, hb2, hr, len]
    refine Tot.lcL (Inv := CIn c bs p [.no, .no, .no, .no, .no, .no, .da (.list (c.map Lf.e)), .ow (bs.map .int), .no, .da (.int p), .no, .no, .no]) ?_ ?_ ?_
    · exact ⟨rfl, [], rfl, by simp, by simp, fun r r1 r2 => by omega⟩
    · rintro i hi acc ρ ⟨rfl, l, rfl, hll, h1, h2⟩
      rw [rangeD_len] at hi
      obtain ⟨q, hq⟩ : ∃ q, q = p + 1 + i := ⟨_, rfl⟩
      have hqi : (p : Int) + 1 + (i : Int) = (q : Int) := by omega
      have hqb : q < c.length := by omega
      have a2 : atI (bs.map PyData.int) (q : Int) = some (.int (ai bs q)) := at_i (by omega)
      rw [rangeD_at, hqi]
      have same : ¬ ((bt c q).i < ai bs p ∧ ai bs p < ai bs q) → CIn c bs p [.no, .no, .no, .no, .no, .no, .da (.list (c.map Lf.e)), .ow (bs.map .int), .no, .da (.int p), .no, .no, .no] (i + 1) (l.map .int) [.no, .no, .no, .no, .no, .no, .da (.list (c.map Lf.e)), .ow (bs.map .int), .no, .da (.int p), .no, .no, .no] := fun h =>
        ⟨rfl, l, rfl, by omega, h1, fun r r1 r2 r3 r4 => by
          rcases Nat.lt_or_ge r q with h' | h'
          · exact h2 r r1 (by omega) r3 r4
          · have : r = q := by omega
            subst this
            exact (h ⟨r3, r4⟩).elim⟩
      by_cases c1 : (bt c q).i < ai bs p
      · by_cases c2 : ai bs p < ai bs q
        · simp [at_b hqb, a1, a2, c1, c2]
          refine ⟨rfl, l ++ [ai bs q], by simp, by simp; omega, fun x hx => ?_, fun r r1 r2 r3 r4 => ?_⟩
          · rcases List.mem_append.1 hx with hx | hx
            · exact h1 x hx
            · simp at hx
              exact ⟨q, by omega, hqb, c1, c2, hx⟩
          · rcases Nat.lt_or_ge r q with h' | h'
            · exact List.mem_append.2 (.inl (h2 r r1 (by omega) r3 r4))
            · have : r = q := by omega
              subst this
              simp
        · simp [at_b hqb, a1, a2, c1, c2]
          exact same fun h => c2 h.2
      · simp [at_b hqb, a1, a2, c1]
        exact same fun h => c1 h.1
    · rintro acc ρ ⟨rfl, l, rfl, hll, h1, h2⟩
      rw [rangeD_len] at h2 hll
      obtain ⟨m, hm⟩ := maxI_ex (l := l ++ [ai bs p]) (by simp)
      obtain ⟨hm1, hm2⟩ := maxI_ok hm
      have hin : intsD (l.map .int ++ [.int (ai bs p)]) = some (l ++ [ai bs p]) := by
        have := intsD_map (l ++ [ai bs p])
        simpa using this
      have hlen : l.length + 1 ≤ 16777216 := by omega
      simp [a1, hin, hm, a3, hlen]
      refine ⟨bs.set p m, by rw [set_map], ?_⟩
      rw [show c.length - (j + 1) = p by omega]
      rcases List.mem_append.1 hm1 with hx | hx
      · obtain ⟨q, q1, q2, q3, q4, rfl⟩ := h1 m hx
        refine ⟨⟨by simpa using hl, fun r hr => ?_, fun S s0 s1 r hr => ?_⟩, stbI_max hl q1 q2 St q3 q4 (fun r r1 r2 r3 r4 => hm2 _ (List.mem_append.2 (.inl (h2 r r1 (by omega) r3 r4)))) V⟩
        · rw [ai_set (by omega)]
          split
          · rename_i e; subst e
            have := R.low p hr; omega
          · exact R.low r hr
        · rw [ai_set (by omega)]
          split
          · rename_i e; subst e
            have b1 := R.leS S s0 s1 p hr
            have b2 := R.leS S s0 s1 q q2
            have b3 := s1 p q (Nat.zero_le _) q1 q2
            omega
          · exact R.leS S s0 s1 r hr
      · have : m = ai bs p := by simpa using hx
        subst this
        rw [set_self (by omega)]
        refine ⟨R, stb_in St fun r r1 r2 ⟨r3, r4⟩ => ?_⟩
        have := hm2 _ (List.mem_append.2 (.inl (h2 r r1 (by omega) r3 r4)))
        omega
  · rintro ρ ⟨bs, rfl, R, St⟩
    rw [downD_len, Nat.sub_self] at St
    exact ⟨bs, rfl, R, St⟩
end Gn
namespace Gn
open PySem L2 DL
def C9 (c : List Lf) (B : List Int) (k : Nat) (ρ : En) : Prop := ∃ bs, ρ = rhoC c bs .no .no ∧ Rc c B bs ∧ (0 < k → Stb c bs 0)
theorem can_nine {c : List Lf} (V : Inc c) (hn : c.length ≤ 8) {B : List Int} (hB : B.length = c.length) :
    Tot (forL (gNm 8) B2__law_can_still (rangeD 0 9) (rhoC c B .no .no)) fun o => ∃ bs, o = .nx (rhoC c bs .no .no) ∧ Rc c B bs ∧ Stb c bs 0 := by
  refine Tot.forL (Inv := C9 c B) ?_ ?_ ?_
  · exact ⟨B, rfl, ⟨hB, fun _ _ => Int.le_refl _, fun S h _ => h⟩, fun h => by omega⟩
  · rintro j hj ρ ⟨bs, rfl, R, _⟩
    have hb1 : isBig ((c.length : Int) - 1) = true := by simp [isBig]; omega
    have hb2 : isBig (-1) = true := by decide
    have hr : ((c.length : Int) - 1 + 1).toNat = c.length := by omega
    have p1 := can_pass V hn R
    unfold B2__law_can_still
    simp [rhoC, hb1, hb2, hr] at p1 ⊢
    refine p1.mono fun o ⟨bs', ho, R', St'⟩ => ?_
    subst ho
    simp
    exact ⟨bs', rfl, R', fun _ => St'⟩
  · rintro ρ ⟨bs, rfl, R, St⟩
    exact ⟨bs, rfl, R, St (by rw [rangeD_len]; omega)⟩
theorem zip_range {c : List Lf} {bs : List Int} (h : bs.length = c.length) : zipD (bs.map .int) (c.map Lf.e) = (List.range c.length).map fun p => .tuple [.int (ai bs p), (bt c p).e] := by
  apply List.ext_getElem (by rw [zipD_len]; simp; omega)
  intro p h1 h2
  have h3 : p < c.length := by simpa using h2
  rw [zipD_at _ _ p h1 (by simp; omega) (by simpa using h3)]
  have h4 : p < bs.length := by omega
  simp [bt_eq h3, ai_eq h4]
section
variable {b : List Lf} {s : Sd}
theorem lcan_ok (B : B8 b) (V : Inc b) (G : SdOk s) : ∃ v, F__law_can_still [eB b, .int s.now, .tuple (s.gone.map eGo)] = some (.da (.bool v)) ∧ (v = true ↔ CanS b s) := by
  have g1 : s.gone.length ≤ 16777216 := by have := G.le; omega
  have b1 : b.length ≤ 16777216 := by have := B.le; omega
  have c8 : (restG b s.gone).length ≤ 8 := Nat.le_trans (List.length_filter_le ..) B.le
  have c1 : (restG b s.gone).length ≤ 16777216 := by omega
  have : Tot (F__law_can_still [eB b, .int s.now, .tuple (s.gone.map eGo)]) fun r => ∃ v, r = .da (.bool v) ∧ (v = true ↔ CanS b s) := by
    simp [F__law_can_still, fnF, startE, b__law_can_still, eB, g1]
    rw [lcL_g (F := fun g => !g.g) (G := eGo)]
    rotate_left
    · intro g hg
      cases q : g.g <;> simp [eGo, q]
    have n1 : neD (.list ((s.gone.filter fun g => !g.g).map eGo)) (.list []) = _ := ne_nil (nr_map (k := 8) fun g hg => nr_eGo 7 (G.nm g (List.mem_filter.1 hg).1))
    simp only [List.nil_append, ob_mk, Tot_some, Tot_ol, Tot_ob, deg_fr, vw_da, vw_fr, ol_mk, n1]
    by_cases h1 : ∀ g ∈ s.gone, g.g = true
    rotate_left
    · have h2 : s.gone.filter (fun g => !g.g) ≠ [] := fun h => h1 fun g hg => by
        have := List.filter_eq_nil_iff.1 h g hg
        simpa using this
      cases q : s.gone.filter (fun g => !g.g) with
      | nil => exact (h2 q).elim
      | cons x xs =>
        simp [outF]
        exact fun h => h1 h.1
    have h2 : s.gone.filter (fun g => !g.g) = [] := List.filter_eq_nil_iff.2 fun g hg => by simp [h1 g hg]
    rw [h2]
    simp [g1]
    rw [lcL_a (G := fun g => .str g.nm)]
    rotate_left
    · intro g hg
      simp [eGo]
    simp [eB, b1]
    rw [lcL_g (F := fun x => !gn s.gone x.nm) (G := Lf.e)]
    rotate_left
    · intro x hx
      have e1 := in_gone (gs := s.gone) (x := x.nm) (nine_ok2 (B.nm _ hx)) G.nm
      simp [e1]
    have hc : b.filter (fun x => !gn s.gone x.nm) = restG b s.gone := rfl
    rw [hc]
    have hV : Inc (restG b s.gone) := V.filter _
    simp [c1]
    unfold CanS
    generalize restG b s.gone = c at c8 c1 hV ⊢
    rw [lcL_a (G := fun x => .int (bnd s.now x))]
    rotate_left
    · intro x hx
      simp [bnd]
    have p9 := can_nine hV c8 (B := bnds s.now c) (by simp [bnds])
    rw [rhoC, bnds_data] at p9
    have big9 : isBig 9 = true := by decide
    simp [big9]
    refine p9.mono fun o ⟨bs, ho, R, St⟩ => ?_
    subst ho
    have hz := zip_range R.len
    have hzl : (zipD (bs.map .int) (c.map Lf.e)).length ≤ 16777216 := by rw [hz]; simp; omega
    simp [rhoC, hzl]
    rw [hz, lcL_g (F := fun p => decide ((bt c p).i + (bt c p).m < ai bs p)) (G := fun _ => .int 1)]
    rotate_left
    · intro p hp
      simp
    have n2 : eqD (.list (((List.range c.length).filter fun p => decide ((bt c p).i + (bt c p).m < ai bs p)).map fun _ => .int 1)) (.list []) = _ := eq_nil (nr_map (k := 8) fun g hg => by simp [nr])
    simp only [List.nil_append, ob_mk, Tot_some, Tot_ol, Tot_ob, deg_fr, vw_da, vw_fr, ol_mk, n2]
    have key : ((List.range c.length).filter fun p => decide ((bt c p).i + (bt c p).m < ai bs p)).isEmpty = true ↔ ((∀ g ∈ s.gone, g.g = true) ∧ ∃ S, Stay c s.now S) := by
      rw [List.isEmpty_iff, List.filter_eq_nil_iff]
      constructor
      · intro h
        refine ⟨h1, bs, R.len, fun p hp => ?_, fun p hp => ?_, St⟩
        · have := R.low p hp
          rwa [ai_bnds hp] at this
        · have := h p (by simpa using hp)
          simp at this
          omega
      · rintro ⟨_, S, T⟩ p hp
        have hp : p < c.length := by simpa using hp
        have h3 := R.leS S (fun p hp => by rw [ai_bnds hp]; exact T.lo p hp) T.st p hp
        have h4 := T.cap p hp
        simp; omega
    simp only [List.isEmpty_map]
    generalize ((List.range c.length).filter fun p => decide ((bt c p).i + (bt c p).m < ai bs p)).isEmpty = v at key ⊢
    cases v with
    | true =>
      simp [outF]
      exact key.1 rfl
    | false =>
      simp [outF]
      exact fun h S T => by
        have := key.2 ⟨h, S, T⟩
        cases this
  obtain ⟨r, e, v, rfl, h⟩ := this
  exact ⟨v, e, h⟩
end
end Gn
namespace Gn
open PySem L2 DL
/-! ### stands so -/
@[simp] theorem stPa_mk (b d : PyData) (st ms : List PyData) (ρ : En) : stPa (.ob b st :: .da d :: .pa ms :: ρ) = some (st, ms) := rfl
@[simp] theorem outOB_da (d : PyData) (ρ : En) : outOB (.rt (.da d) ρ) = ol (stPa ρ) fun z => some (.da d, z) := rfl
theorem strOk_bt {b : List Lf} (B : B8 b) {p : Nat} (h : p < b.length) : PyData.strOk (bt b p).nm = true := nine_ok2 (B.nm _ (bt_mem h))
section
variable {b : List Lf} {s : Sd} {A A' : List PyData}
theorem stands_ok (B : B8 b) (V : Inc b) (G : SdOk s) : F__law_stands_so (eB b) (A ++ [eS s]) (eB b) (A' ++ [eS s]) = some (.da (.bool true), A ++ [eS s], A' ++ [eS s]) := by
  obtain ⟨v, e1, h1⟩ := can_ok (A := A) B V G
  obtain ⟨v', e2, h2⟩ := lcan_ok B V G
  have hv : v' = v := by
    rw [← h2] at h1
    cases v <;> cases v' <;> simp at h1 <;> rfl
  subst hv
  have w1 := W_len b s
  have w2 : (W b s).length ≤ 16777216 := by have := B.le; omega
  have n1 : neD (.int s.now) (.int s.now) = _ := neR (by simp [nr])
  have n2 : neD (.tuple ((W b s).map fun p => .str (bt b p).nm)) (.tuple ((W b s).map fun p => .str (bt b p).nm)) = _ := neR (nr_mapT (k := 8) fun p hp => by simp [nr, strOk_bt B (W_lt hp)])
  have n3 : neD (.int (W b s).length) (.int (W b s).length) = _ := neR (by simp [nr])
  have n4 : neD (.list (s.gone.map eGo)) (.list (s.gone.map eGo)) = _ := neR (nr_map (k := 8) fun g hg => nr_eGo 7 (G.nm g hg))
  have n5 : eqD (.bool v') (.bool v') = _ := eqR (by simp [nr])
  have k1 := tick_ok (b := b) (s := s) (A := A)
  have k2 := within_ok (A := A) B G
  have k3 := len_ok (A := A) B G
  have k4 := out_ok (b := b) (s := s) (A := A)
  have k5 := lwithin_ok B G
  have i1 : ixD (eS s) (.int 0) = some (.int s.now) := by simp [eS]
  obtain ⟨n, hn⟩ : ∃ n : Int, ((W b s).length : Int) = n := ⟨_, rfl⟩
  have l1 : 0 ≤ n := by omega
  have l2 : n < 4611686018427387904 := by have := B.le; omega
  rw [hn] at k3 n3
  have es : eS s = .tuple [.int s.now, .tuple (s.gone.map eGo)] := rfl
  have : Tot (F__law_stands_so (eB b) (A ++ [eS s]) (eB b) (A' ++ [eS s])) fun r => r = (.da (.bool true), A ++ [eS s], A' ++ [eS s]) := by
    unfold F__law_stands_so b__law_stands_so
    simp [fnOB, startOB]
    rw [es]
    simp [k5, w2]
    rw [← es]
    rw [lcL_a (G := fun p => .str (bt b p).nm)]
    rotate_left
    · intro p hp
      simp
    simp [k1, k2, k3, k4, n1, n2, hn, n3, n4, l1, l2, e1, n5, e2]
  exact this.eq
end
end Gn
namespace Gn
open PySem L2 DL
/-! ### one deed -/
@[simp] theorem x_sNever (ρ : En) : sNever ρ = none := rfl
theorem eqI (i j : Int) : eqD (.int i) (.int j) = some (.da (.bool (decide (i = j)))) := by
  by_cases h : i = j
  · subst h; simp [eqD_same (d := .int i) (by simp [nb])]
  · rw [eqD_diff (by simp [nb]) (by simp [nb]) (by simpa using h)]; simp [h]
theorem neI (i j : Int) : neD (.int i) (.int j) = some (.da (.bool (!decide (i = j)))) := by
  by_cases h : i = j
  · subst h; simp [neD_same (d := .int i) (by simp [nb])]
  · rw [neD_diff (by simp [nb]) (by simp [nb]) (by simpa using h)]; simp [h]
theorem ok_s : PyData.strOk "wait" = true ∧ PyData.strOk "take" = true ∧ PyData.strOk "back" = true := by decide +kernel
theorem ok_r : PyData.strOk "NoTicks" = true ∧ PyData.strOk "NothingLeft" = true ∧ PyData.strOk "Empty" = true ∧ PyData.strOk "Raw" = true := by decide +kernel
@[simp] theorem ne_wb : (("wait" : Str) = "back") = False := eq_false (by decide +kernel)
@[simp] theorem ne_tb : (("take" : Str) = "back") = False := eq_false (by decide +kernel)
@[simp] theorem ne_tw : (("take" : Str) = "wait") = False := eq_false (by decide +kernel)
@[simp] theorem ne_bt : (("back" : Str) = "take") = False := eq_false (by decide +kernel)
theorem eq_ww : eqD (.str "wait") (.str "wait") = some (.da (.bool true)) := eqD_same (by simp [nb, ok_s])
theorem eq_wb : eqD (.str "wait") (.str "back") = some (.da (.bool false)) := eqD_diff (by simp [nb, ok_s]) (by simp [nb, ok_s]) (by simp)
theorem eq_tb : eqD (.str "take") (.str "back") = some (.da (.bool false)) := eqD_diff (by simp [nb, ok_s]) (by simp [nb, ok_s]) (by simp)
theorem eq_tw : eqD (.str "take") (.str "wait") = some (.da (.bool false)) := eqD_diff (by simp [nb, ok_s]) (by simp [nb, ok_s]) (by simp)
theorem eq_bb : eqD (.str "back") (.str "back") = some (.da (.bool true)) := eqD_same (by simp [nb, ok_s])
section
variable {b : List Lf} {s : Sd} {A : List PyData}
def dW (d : PyData) : PyData := .tuple [.str "wait", d]
def dT : PyData := .tuple [.str "take"]
def dB : PyData := .tuple [.str "back"]
/-- a wait that is refused -/
theorem wait_no {st : List PyData} {d : PyData} (h : F_is_from [d, .int 1, .int 100] = some (.da (.bool false))) : F__law_did (eB b) st [dW d] = some (.da (.str "NoTicks"), st) := by
  have h1 : F_Oven_wait (eB b) st [d] = none := by simp [F_Oven_wait, fnO, startO, b_Oven_wait, h]
  have h2 : G_wait (eB b) st [d] = some (.tick, st) := by simp [G_wait, startO, w_t, h]
  simp [F__law_did, dW, h1, h2, alt, kindD]
theorem due_no {d : PyData} (h : d = .bool true ∨ d = .none ∨ d = .str "1" ∨ ∃ k, d = .int k ∧ ¬ (1 ≤ k ∧ k ≤ 100)) : F__law_due (A ++ [eS s]) [eB b, dW d] = some (.da (.str "NoTicks"), A ++ [eS s]) := by
  have es : eS s = .tuple [.int s.now, .tuple (s.gone.map eGo)] := rfl
  have : Tot (F__law_due (A ++ [eS s]) [eB b, dW d]) fun r => r = (.da (.str "NoTicks"), A ++ [eS s]) := by
    unfold F__law_due b__law_due
    simp [fnB, startB, dW]
    rw [es]
    rcases h with rfl | rfl | rfl | ⟨k, rfl, h⟩
    · simp [eq_wb, eq_ww, outB, paOf]
    · simp [eq_wb, eq_ww, outB, paOf, isiD]
    · simp [eq_wb, eq_ww, outB, paOf, isiD]
    · by_cases c : 1 ≤ k
      · have c' : ¬ k ≤ 100 := fun h' => h ⟨c, h'⟩
        have c'' := Int.not_le.1 c'
        simp [eq_wb, eq_ww, outB, paOf, c, c', c'']
      · have c'' := Int.not_le.1 c
        simp [eq_wb, eq_ww, outB, paOf, c, c'']
  exact this.eq
theorem from_no {d : PyData} (h : d = .bool true ∨ d = .none ∨ d = .str "1" ∨ ∃ k, d = .int k ∧ ¬ (1 ≤ k ∧ k ≤ 100)) : F_is_from [d, .int 1, .int 100] = some (.da (.bool false)) := by
  rcases h with rfl | rfl | rfl | ⟨k, rfl, h⟩
  · simp [F_is_from, fnF, startE, b_is_from, outF]
  · simp [F_is_from, fnF, startE, b_is_from, outF, isiD]
  · simp [F_is_from, fnF, startE, b_is_from, outF, isiD]
  · rw [is_from_ok]
    by_cases c : 1 ≤ k
    · have c' : ¬ k ≤ 100 := fun h' => h ⟨c, h'⟩
      simp [c']
    · simp [c]
theorem wait_yes {k : Int} (h1 : 1 ≤ k) (h2 : k ≤ 100) (hA : A.length < 1000) : F_Oven_wait (eB b) (A ++ [eS s]) [.int k] = some (.da .none, A ++ [eS s] ++ [eS ⟨s.now + k, s.gone⟩]) := by
  have l : A.length + 1 < 16777216 := by omega
  have es : eS s = .tuple [.int s.now, .tuple (s.gone.map eGo)] := rfl
  have : Tot (F_Oven_wait (eB b) (A ++ [eS s]) [.int k]) fun r => r = (.da .none, A ++ [eS s] ++ [eS ⟨s.now + k, s.gone⟩]) := by
    unfold F_Oven_wait b_Oven_wait
    simp [fnO, startO, is_from_ok, h1, h2]
    rw [es]
    simp [l, eS]
  exact this.eq
theorem did_wait {k : Int} (h1 : 1 ≤ k) (h2 : k ≤ 100) (hA : A.length < 1000) : F__law_did (eB b) (A ++ [eS s]) [dW (.int k)] = some (.da .none, A ++ [eS s] ++ [eS ⟨s.now + k, s.gone⟩]) := by
  simp [F__law_did, dW, wait_yes h1 h2 hA, alt]
theorem due_wait {k : Int} (h1 : 1 ≤ k) (h2 : k ≤ 100) (hA : A.length < 1000) : F__law_due (A ++ [eS s]) [eB b, dW (.int k)] = some (.da .none, A ++ [eS s] ++ [eS ⟨s.now + k, s.gone⟩]) := by
  have l : A.length + 1 < 16777216 := by omega
  have es : eS s = .tuple [.int s.now, .tuple (s.gone.map eGo)] := rfl
  have c1 := Int.not_lt.2 h1
  have c2 := Int.not_lt.2 h2
  have : Tot (F__law_due (A ++ [eS s]) [eB b, dW (.int k)]) fun r => r = (.da .none, A ++ [eS s] ++ [eS ⟨s.now + k, s.gone⟩]) := by
    unfold F__law_due b__law_due
    simp [fnB, startB, dW]
    rw [es]
    simp [eq_wb, eq_ww, outB, paOf, h1, h2, c1, c2, l, eS]
  exact this.eq
theorem due_back : F__law_due (A ++ [eS s]) [eB b, dB] = some (if A = [] then (.da (.str "NothingLeft"), A ++ [eS s]) else (.da .none, A)) := by
  have es : eS s = .tuple [.int s.now, .tuple (s.gone.map eGo)] := rfl
  have : Tot (F__law_due (A ++ [eS s]) [eB b, dB]) fun r => r = if A = [] then (.da (.str "NothingLeft"), A ++ [eS s]) else (.da .none, A) := by
    unfold F__law_due b__law_due
    simp [fnB, startB, dB]
    rw [es]
    by_cases c : A = []
    · subst c
      simp [eq_bb, eqI, outB, paOf]
    · have c' : ¬ (A.length : Int) + 1 = 1 := by
        have : A.length ≠ 0 := fun h => c (List.length_eq_zero_iff.1 h)
        omega
      simp [eq_bb, eqI, outB, paOf, c, c']
  exact this.eq
theorem back_yes (c : A ≠ []) : F_Oven_back (eB b) (A ++ [eS s]) [] = some (.da .none, A) := by
  have c' : ¬ (A.length : Int) + 1 = 1 := by
    have : A.length ≠ 0 := fun h => c (List.length_eq_zero_iff.1 h)
    omega
  simp [F_Oven_back, fnO, startO, b_Oven_back, eqI, c']
theorem did_back : F__law_did (eB b) (A ++ [eS s]) [dB] = some (if A = [] then (.da (.str "NothingLeft"), A ++ [eS s]) else (.da .none, A)) := by
  by_cases c : A = []
  · subst c
    have h1 : F_Oven_back (eB b) ([] ++ [eS s]) [] = none := by simp [F_Oven_back, fnO, startO, b_Oven_back, eqI]
    have h2 : G_back (eB b) ([] ++ [eS s]) [] = some (.left, [] ++ [eS s]) := by simp [G_back, startO, k_t, eqI]
    simp [F__law_did, dB]
    simp at h1 h2
    simp [h1, h2, alt, kindD]
  · simp [F__law_did, dB, back_yes c, alt, c]
end
end Gn
namespace Gn
open PySem L2 DL
section
variable {b : List Lf} {s : Sd} {A : List PyData}
theorem ok_lf (x : Lf) (h : PyData.strOk x.nm = true) : nr 2 x.e = true := by simp [Lf.e, nr, h]
theorem W_ne_list {b : List Lf} {s : Sd} (B : B8 b) : eqD (.list ((W b s).map fun p => (bt b p).e)) (.list []) = some (.da (.bool (W b s).isEmpty)) := by
  have h : nr 9 (.list ((W b s).map fun p => (bt b p).e)) = true := nr_map (k := 8) fun p hp => by
    have := strOk_bt B (W_lt hp)
    simp [Lf.e, nr, this]
  rw [eq_nil h]
  simp
/-- nothing within -/
theorem due_empty (B : B8 b) (G : SdOk s) (h : W b s = []) : F__law_due (A ++ [eS s]) [eB b, dT] = some (.da (.str "Empty"), A ++ [eS s]) := by
  have es : eS s = .tuple [.int s.now, .tuple (s.gone.map eGo)] := rfl
  have k1 := lwithin_ok B G
  have k2 := W_ne_list (s := s) B
  rw [h] at k1 k2
  simp only [List.map_nil, List.isEmpty_nil] at k1 k2
  have : Tot (F__law_due (A ++ [eS s]) [eB b, dT]) fun r => r = (.da (.str "Empty"), A ++ [eS s]) := by
    unfold F__law_due b__law_due
    simp [fnB, startB, dT]
    rw [es]
    simp [eq_tb, eq_tw, k1, k2, outB, paOf]
  exact this.eq
theorem did_empty (B : B8 b) (G : SdOk s) (h : W b s = []) : F__law_did (eB b) (A ++ [eS s]) [dT] = some (.da (.str "Empty"), A ++ [eS s]) := by
  have es : eS s = .tuple [.int s.now, .tuple (s.gone.map eGo)] := rfl
  have k1 := places_ok (A := A) B G
  rw [h] at k1
  simp only [List.map_nil] at k1
  rw [es] at k1
  have h1 : F_Oven_take (eB b) (A ++ [eS s]) [] = none := by
    unfold F_Oven_take b_Oven_take
    rw [es]
    simp [fnO, startO, k1]
  have h2 : G_take1 (eB b) (A ++ [eS s]) [] = some (.empty, A ++ [eS s]) := by
    unfold G_take1 t_1 t_2 t_3
    rw [es]
    simp [startO, k1]
  simp [F__law_did, dT, h1, h2, alt, altE, kindD]
/-- one within -/
theorem due_take {p : Nat} {ps : List Nat} (B : B8 b) (G : SdOk s) (h : W b s = p :: ps) (hA : A.length < 1000) : F__law_due (A ++ [eS s]) [eB b, dT] = some (if s.now - (bt b p).i < (bt b p).l then (.da (.tuple [.str "Raw", .str (bt b p).nm]), A ++ [eS s])
    else (.da (.tuple [.str (bt b p).nm, .int (s.now - (bt b p).i), .bool (decide (s.now - (bt b p).i ≤ (bt b p).m))]), A ++ [eS s] ++ [eS ⟨s.now, s.gone ++ [⟨(bt b p).nm, s.now, decide (s.now - (bt b p).i ≤ (bt b p).m)⟩]⟩])) := by
  have l : A.length + 1 < 16777216 := by omega
  have l2 : s.gone.length + 1 ≤ 16777216 := by have := G.le; omega
  have es : eS s = .tuple [.int s.now, .tuple (s.gone.map eGo)] := rfl
  have k1 := lwithin_ok B G
  have k2 := W_ne_list (s := s) B
  rw [h] at k1 k2
  simp only [List.map_cons, List.isEmpty_cons] at k1 k2
  have : Tot (F__law_due (A ++ [eS s]) [eB b, dT]) fun r => r = if s.now - (bt b p).i < (bt b p).l then (.da (.tuple [.str "Raw", .str (bt b p).nm]), A ++ [eS s])
    else (.da (.tuple [.str (bt b p).nm, .int (s.now - (bt b p).i), .bool (decide (s.now - (bt b p).i ≤ (bt b p).m))]), A ++ [eS s] ++ [eS ⟨s.now, s.gone ++ [⟨(bt b p).nm, s.now, decide (s.now - (bt b p).i ≤ (bt b p).m)⟩]⟩]) := by
    unfold F__law_due b__law_due
    simp [fnB, startB, dT]
    rw [es]
    simp [eq_tb, eq_tw, k1, k2]
    by_cases c : s.now - (bt b p).i < (bt b p).l
    · simp [Lf.e, c, outB, paOf]
    · simp [Lf.e, c, outB, paOf, l, l2, eS, eGo]
  exact this.eq
theorem take_yes {p : Nat} {ps : List Nat} (B : B8 b) (G : SdOk s) (h : W b s = p :: ps) (hA : A.length < 1000) (c : ¬ s.now - (bt b p).i < (bt b p).l) : F_Oven_take (eB b) (A ++ [eS s]) [] = some (.da (.tuple [.str (bt b p).nm, .int (s.now - (bt b p).i), .bool (decide (s.now - (bt b p).i ≤ (bt b p).m))]), A ++ [eS s] ++ [eS ⟨s.now, s.gone ++ [⟨(bt b p).nm, s.now, decide (s.now - (bt b p).i ≤ (bt b p).m)⟩]⟩]) := by
  have l : A.length + 1 < 16777216 := by omega
  have l2 : s.gone.length + 1 ≤ 16777216 := by have := G.le; omega
  have es : eS s = .tuple [.int s.now, .tuple (s.gone.map eGo)] := rfl
  have hp : p < b.length := W_lt (s := s) (by rw [h]; simp)
  have k1 := places_ok (A := A) B G
  rw [h] at k1
  simp only [List.map_cons] at k1
  rw [es] at k1
  have a1 := at_b hp
  have : Tot (F_Oven_take (eB b) (A ++ [eS s]) []) fun r => r = (.da (.tuple [.str (bt b p).nm, .int (s.now - (bt b p).i), .bool (decide (s.now - (bt b p).i ≤ (bt b p).m))]), A ++ [eS s] ++ [eS ⟨s.now, s.gone ++ [⟨(bt b p).nm, s.now, decide (s.now - (bt b p).i ≤ (bt b p).m)⟩]⟩]) := by
    unfold F_Oven_take b_Oven_take
    rw [es]
    simp [fnO, startO, k1]
    simp [eB, a1]
    simp [Lf.e, c, l, l2, eS, eGo]
  exact this.eq
theorem did_take {p : Nat} {ps : List Nat} (B : B8 b) (G : SdOk s) (h : W b s = p :: ps) (hA : A.length < 1000) : F__law_did (eB b) (A ++ [eS s]) [dT] = some (if s.now - (bt b p).i < (bt b p).l then (.da (.tuple [.str "Raw", .str (bt b p).nm]), A ++ [eS s])
    else (.da (.tuple [.str (bt b p).nm, .int (s.now - (bt b p).i), .bool (decide (s.now - (bt b p).i ≤ (bt b p).m))]), A ++ [eS s] ++ [eS ⟨s.now, s.gone ++ [⟨(bt b p).nm, s.now, decide (s.now - (bt b p).i ≤ (bt b p).m)⟩]⟩])) := by
  by_cases c : s.now - (bt b p).i < (bt b p).l
  · have es : eS s = .tuple [.int s.now, .tuple (s.gone.map eGo)] := rfl
    have hp : p < b.length := W_lt (s := s) (by rw [h]; simp)
    have k1 := places_ok (A := A) B G
    rw [h] at k1
    simp only [List.map_cons] at k1
    rw [es] at k1
    have a1 := at_b hp
    have h1 : F_Oven_take (eB b) (A ++ [eS s]) [] = none := by
      unfold F_Oven_take b_Oven_take
      rw [es]
      simp [fnO, startO, k1]
      simp [eB, a1]
      simp [Lf.e, c]
    have h2 : G_take1 (eB b) (A ++ [eS s]) [] = none := by
      unfold G_take1 t_1 t_2 t_3
      rw [es]
      simp [startO, k1]
    have h3 : G_take2 (eB b) (A ++ [eS s]) [] = some (.raw (bt b p).nm, A ++ [eS s]) := by
      unfold G_take2 t_1 t_2 t_3 t_4 t_5
      rw [es]
      simp [startO, k1]
      simp [eB, a1]
      simp [Lf.e, c]
    simp [F__law_did, dT, h1, h2, h3, alt, altE, kindD, c]
  · simp [F__law_did, dT, take_yes B G h hA c, alt, c]
end
end Gn
namespace Gn
open PySem L2 DL
/-! ### a deed drawn, a deed done -/
def BadT (x : PyData) : Prop := x = .bool true ∨ x = .none ∨ x = .str "1" ∨ ∃ k, x = .int k ∧ ¬ (1 ≤ k ∧ k ≤ 100)
def DeedOk (d : PyData) : Prop := (∃ x, d = dW x ∧ ((∃ k, x = .int k ∧ 1 ≤ k ∧ k ≤ 100) ∨ BadT x)) ∨ d = dT ∨ d = dB
theorem a_deed_ok {ms : List PyData} (h : Bag ms) : ∃ d ms', F__law_a_deed ms [] = some (.da d, ms') ∧ Bag ms' ∧ DeedOk d := by
  obtain ⟨v, m1, e1, b1, v0, v1⟩ := take_ok h (n := 12) (by omega) (by omega)
  have : Tot (F__law_a_deed ms []) fun r => ∃ d ms', r = (.da d, ms') ∧ Bag ms' ∧ DeedOk d := by
    unfold F__law_a_deed b__law_a_deed
    simp [fnB, e1]
    by_cases c1 : v < 5
    · obtain ⟨u, m2, e2, b2, u0, u1⟩ := take_ok b1 (n := 2) (by omega) (by omega)
      obtain ⟨n, hn, hn'⟩ : ∃ n : Int, atI [PyData.int 3, .int 9] u = some (.int n) ∧ (n = 3 ∨ n = 9) := by
        have : u = 0 ∨ u = 1 := by omega
        rcases this with rfl | rfl
        · exact ⟨3, by simp, .inl rfl⟩
        · exact ⟨9, by simp, .inr rfl⟩
      obtain ⟨t, m3, e3, b3, t0, t1⟩ := take_ok b2 (n := n) (by omega) (by omega)
      simp [c1, e2, hn, e3, outB, paOf]
      exact ⟨_, _, ⟨rfl, rfl⟩, b3, .inl ⟨.int (1 + t), rfl, .inl ⟨_, rfl, by omega, by omega⟩⟩⟩
    · by_cases c2 : v < 10
      · simp [c1, c2, outB, paOf]
        exact ⟨_, _, ⟨rfl, rfl⟩, b1, .inr (.inl rfl)⟩
      · by_cases c3 : v = 10
        · simp [c1, c2, c3, eqI, outB, paOf]
          exact ⟨_, _, ⟨rfl, rfl⟩, b1, .inr (.inr rfl)⟩
        · obtain ⟨u, m2, e2, b2, hu⟩ := of_ok b1 (es := [.int 0, .int 101, .bool true, .none, .int (-1), .str "1", .int 100]) (by simp) (by simp)
          simp [c1, c2, c3, eqI, e2, outB, paOf]
          refine ⟨_, _, ⟨rfl, rfl⟩, b2, .inl ⟨u, rfl, ?_⟩⟩
          simp only [List.mem_cons, List.not_mem_nil, or_false] at hu
          rcases hu with rfl | rfl | rfl | rfl | rfl | rfl | rfl
          · exact .inr (.inr (.inr (.inr ⟨_, rfl, by omega⟩)))
          · exact .inr (.inr (.inr (.inr ⟨_, rfl, by omega⟩)))
          · exact .inr (.inl rfl)
          · exact .inr (.inr (.inl rfl))
          · exact .inr (.inr (.inr (.inr ⟨_, rfl, by omega⟩)))
          · exact .inr (.inr (.inr (.inl rfl)))
          · exact .inl ⟨_, rfl, by omega, by omega⟩
  obtain ⟨r, e, d, m, rfl, h⟩ := this
  exact ⟨d, m, e, h⟩
structure Rs (k : Nat) (L : List Sd) : Prop where
  hd : ∃ T, L = ⟨0, []⟩ :: T
  len : L.length ≤ k + 1
  ok : ∀ s ∈ L, s.gone.length ≤ k ∧ ∀ g ∈ s.gone, PyData.strOk g.nm = true
theorem Rs.snoc {k : Nat} {L : List Sd} {s : Sd} (R : Rs k L) (h : s.gone.length ≤ k + 1) (h' : ∀ g ∈ s.gone, PyData.strOk g.nm = true) : Rs (k + 1) (L ++ [s]) where
  hd := by obtain ⟨T, rfl⟩ := R.hd; exact ⟨T ++ [s], rfl⟩
  len := by have := R.len; simp; omega
  ok := fun x hx => by
    rcases List.mem_append.1 hx with hx | hx
    · have := R.ok x hx; exact ⟨by omega, this.2⟩
    · have : x = s := by simpa using hx
      subst this; exact ⟨h, h'⟩
theorem Rs.up {k : Nat} {L : List Sd} (R : Rs k L) : Rs (k + 1) L := ⟨R.hd, by have := R.len; omega, fun x hx => by have := R.ok x hx; exact ⟨by omega, this.2⟩⟩
theorem Rs.pop {k : Nat} {L : List Sd} {s : Sd} (R : Rs k (L ++ [s])) (h : L ≠ []) : Rs k L where
  hd := by
    obtain ⟨T, e⟩ := R.hd
    cases L with
    | nil => exact absurd rfl h
    | cons x L =>
      rw [List.cons_append] at e
      injection e with e1 e2
      exact ⟨L, by rw [e1]⟩
  len := by have := R.len; simp at this; omega
  ok := fun x hx => R.ok x (by simp [hx])
theorem Rs.last {k : Nat} {L : List Sd} (R : Rs k L) : ∃ L0 s, L = L0 ++ [s] := by
  obtain ⟨T, e⟩ := R.hd
  exact ⟨L.dropLast, L.getLast (by simp [e]), (List.dropLast_concat_getLast _).symm⟩
theorem Rs.sd {k : Nat} {L0 : List Sd} {s : Sd} (R : Rs k (L0 ++ [s])) (hk : k ≤ 999) : SdOk s := by
  have := R.ok s (by simp)
  exact ⟨by omega, this.2⟩
theorem nr_S {s : Sd} (G : SdOk s) : nr 8 (eS s) = true := by
  have : nr 7 (.tuple (s.gone.map eGo)) = true := nr_mapT (k := 6) fun g hg => nr_eGo 5 (G.nm g hg)
  have e : nr 8 (eS s) = (nr 7 (.int s.now) && (nr 7 (.tuple (s.gone.map eGo)) && true)) := by
    rw [eS]
    rfl
  rw [e, this]
  rfl
theorem step_ok {b : List Lf} {k : Nat} {L : List Sd} {d : PyData} (B : B8 b) (R : Rs k L) (hk : k ≤ 900) (hd : DeedOk d) :
    ∃ r L', F__law_due (L.map eS) [eB b, d] = some (.da r, L'.map eS) ∧ F__law_did (eB b) (L.map eS) [d] = some (.da r, L'.map eS) ∧ Rs (k + 1) L' ∧ neD r r = some (.da (.bool false)) := by
  obtain ⟨L0, s, rfl⟩ := R.last
  have G := R.sd (by omega)
  have hs := R.ok s (by simp)
  have hl := R.len
  rw [List.length_append, List.length_singleton] at hl
  have hA : (L0.map eS).length < 1000 := by rw [List.length_map]; omega
  rw [List.map_append, List.map_singleton]
  rcases hd with ⟨x, rfl, hx⟩ | rfl | rfl
  · rcases hx with ⟨n, rfl, h1, h2⟩ | hb
    · exact ⟨.none, L0 ++ [s] ++ [⟨s.now + n, s.gone⟩], by rw [due_wait h1 h2 hA]; simp, by rw [did_wait h1 h2 hA]; simp, R.snoc (by simp only; omega) hs.2, neR (by simp [nr])⟩
    · exact ⟨.str "NoTicks", L0 ++ [s], by rw [due_no hb]; simp, by rw [wait_no (from_no hb)]; simp, R.up, neR (by simp [nr, ok_r])⟩
  · cases hW : W b s with
    | nil => exact ⟨.str "Empty", L0 ++ [s], by rw [due_empty B G hW]; simp, by rw [did_empty B G hW]; simp, R.up, neR (by simp [nr, ok_r])⟩
    | cons p ps =>
      have hp : p < b.length := W_lt (s := s) (by rw [hW]; simp)
      have e1 := due_take (A := L0.map eS) B G hW hA
      have e2 := did_take (A := L0.map eS) B G hW hA
      by_cases c : s.now - (bt b p).i < (bt b p).l
      · rw [if_pos c] at e1 e2
        exact ⟨.tuple [.str "Raw", .str (bt b p).nm], L0 ++ [s], by rw [e1]; simp, by rw [e2]; simp, R.up, neR (by simp [nr, ok_r, strOk_bt B hp])⟩
      · rw [if_neg c] at e1 e2
        refine ⟨.tuple [.str (bt b p).nm, .int (s.now - (bt b p).i), .bool (decide (s.now - (bt b p).i ≤ (bt b p).m))], L0 ++ [s] ++ [⟨s.now, s.gone ++ [⟨(bt b p).nm, s.now, decide (s.now - (bt b p).i ≤ (bt b p).m)⟩]⟩], by rw [e1]; simp, by rw [e2]; simp, R.snoc ?_ ?_, neR (by simp [nr, strOk_bt B hp])⟩
        · simp; omega
        · intro g hg
          rcases List.mem_append.1 hg with hg | hg
          · exact hs.2 g hg
          · rw [List.mem_singleton.1 hg]
            exact strOk_bt B hp
  · have e1 := due_back (b := b) (s := s) (A := L0.map eS)
    have e2 := did_back (b := b) (s := s) (A := L0.map eS)
    by_cases c : L0 = []
    · subst c
      rw [List.map_nil, if_pos rfl] at e1 e2
      exact ⟨_, [s], e1, e2, R.up, neR (by simp [nr, ok_r])⟩
    · have c' : L0.map eS ≠ [] := by simpa using c
      rw [if_neg c'] at e1 e2
      exact ⟨_, L0, e1, e2, (R.pop c).up, neR (by simp [nr])⟩
end Gn
namespace Gn
open PySem L2 DL
open PySem.W in
theorem alike_strs : ∀ xs ys : List Str, alikeAll (xs.map .str) (ys.map .str) = true
  | [], _ => by simp [alikeAll]
  | _ :: _, [] => by simp [alikeAll]
  | x :: xs, y :: ys => by
    show alikeAll (.str x :: xs.map .str) (.str y :: ys.map .str) = true
    rw [alikeAll, alike_strs xs ys]
    simp [alike]
def eNs (l : List Str) : PyData := .tuple (l.map .str)
def eP2 (l : List Str) : PyData := .tuple [.int l.length, eNs l]
def leD0 (a b : PyData) : Bool := PySem.W.dataLe false id a b
theorem leD0_total (a b : PyData) : (leD0 a b || leD0 b a) = true := by
  show ((!PySem.W.dataLt b a) || (!PySem.W.dataLt a b)) = true
  cases h1 : PySem.W.dataLt b a with
  | false => rfl
  | true =>
    cases h2 : PySem.W.dataLt a b with
    | false => rfl
    | true =>
      have := PyProof.Rows.lex_trans _ _ _ h1 h2
      rw [PyProof.Rows.lex_irrefl] at this
      cases this
theorem leD0_trans (a b c : PyData) (h1 : leD0 a b = true) (h2 : leD0 b c = true) : leD0 a c = true := by
  have h1 : (!PySem.W.dataLt b a) = true := h1
  have h2 : (!PySem.W.dataLt c b) = true := h2
  show (!PySem.W.dataLt c a) = true
  cases h : PySem.W.dataLt c a with
  | false => rfl
  | true =>
    rcases PyProof.Rows.lex_negTrans _ (PySem.W.keyToks b) _ h with k | k
    · have k : PySem.W.dataLt c b = true := k
      rw [k] at h2
      cases h2
    · have k : PySem.W.dataLt b a = true := k
      rw [k] at h1
      cases h1
theorem sort_perm (xs : List PyData) : (xs.mergeSort (PySem.W.dataLe false id)).Perm xs := List.mergeSort_perm _ _
theorem sort_pw (xs : List PyData) : (xs.mergeSort (PySem.W.dataLe false id)).Pairwise fun a b => leD0 a b = true := List.pairwise_mergeSort (le := leD0) leD0_trans leD0_total xs
theorem leD0_len {l m : List Str} (h : leD0 (eP2 l) (eP2 m) = true) : l.length ≤ m.length := by
  have h : (!PySem.W.dataLt (eP2 m) (eP2 l)) = true := h
  rcases Nat.lt_or_ge m.length l.length with c | c
  · exfalso
    have e : PySem.W.dataLt (eP2 m) (eP2 l) = true := by
      unfold eP2
      rw [PySem.W.dataLt_tuple, PySem.W.dataLt_cons (by simp [PySem.W.alike])]
      have : PyData.eqv (.int m.length) (.int l.length) = false := by
        simp only [PyData.eqv, beq_eq_false_iff_ne]
        omega
      rw [if_neg (by rw [this]; exact Bool.false_ne_true), PySem.W.dataLt_int]
      exact decide_eq_true (by omega)
    rw [e] at h
    cases h
  · exact c
open Classical in
theorem map_perm_inv {α : Type} {f : α → PyData} (hf : ∀ a b, f a = f b → a = b) {ys : List PyData} {xs : List α} (h : ys.Perm (xs.map f)) : ∃ zs : List α, ys = zs.map f ∧ zs.Perm xs := by
  have hm : ∀ y ∈ ys, ∃ a, f a = y := fun y hy => by
    obtain ⟨a, _, e⟩ := List.mem_map.1 (h.mem_iff.1 hy)
    exact ⟨a, e⟩
  let g : PyData → Option α := fun y => if h : ∃ a, f a = y then some h.choose else none
  have gf : ∀ a, g (f a) = some a := fun a => by
    have e : ∃ c, f c = f a := ⟨a, rfl⟩
    show (if h : ∃ c, f c = f a then some h.choose else none) = some a
    rw [dif_pos e, hf _ _ e.choose_spec]
  have e1 : ∀ xs : List α, (xs.map f).filterMap g = xs := by
    intro xs
    induction xs with
    | nil => rfl
    | cons x xs ih => rw [List.map_cons, List.filterMap_cons, gf, ih]
  have e2 : ∀ ys : List PyData, (∀ y ∈ ys, ∃ a, f a = y) → ys = (ys.filterMap g).map f := by
    intro ys
    induction ys with
    | nil => intro _; rfl
    | cons y ys ih =>
      intro hm
      obtain ⟨a, e⟩ := hm y (by simp)
      rw [List.filterMap_cons, ← e, gf, List.map_cons, ← ih fun y hy => hm y (by simp [hy])]
  have hp := h.filterMap g
  rw [e1] at hp
  exact ⟨ys.filterMap g, e2 ys hm, hp⟩
theorem str_inj (a b : Str) (h : PyData.str a = PyData.str b) : a = b := by injection h
theorem eNs_inj {a b : List Str} (h : eNs a = eNs b) : a = b := by
  unfold eNs at h
  injection h with h
  exact (List.map_inj_right fun _ _ e => by injection e).1 h
theorem eP2_inj (a b : List Str) (h : eP2 a = eP2 b) : a = b := by
  unfold eP2 at h
  injection h with h
  injection h with _ h
  injection h with h _
  exact eNs_inj h
/-- names that can be laid -/
def Nice (ns : List Str) : Prop := ∀ x ∈ ns, PyData.strOk x = true
theorem sortOk_names {ns : List Str} (h : Nice ns) : sortOkD (ns.map .str) = true := by
  unfold sortOkD
  simp only [Bool.and_eq_true, Bool.or_eq_true, List.all_eq_true]
  refine ⟨⟨⟨canLayAll_of _ fun d hd => ?_, fun d hd e he => ?_⟩, .inr fun d hd => ?_⟩, fun d hd => ?_⟩
  · obtain ⟨x, hx, rfl⟩ := List.mem_map.1 hd
    simp [PyData.canLay0, h x hx]
  · obtain ⟨x, hx, rfl⟩ := List.mem_map.1 hd
    obtain ⟨y, hy, rfl⟩ := List.mem_map.1 he
    simp [PySem.W.alike]
  · obtain ⟨x, hx, rfl⟩ := List.mem_map.1 hd
    rfl
  · obtain ⟨x, hx, rfl⟩ := List.mem_map.1 hd
    simp [PyData.depth]
theorem depth_strs (l : List Str) : PyData.depthAll (l.map .str) = 0 := by
  induction l with
  | nil => simp [PyData.depthAll]
  | cons x l ih => simp [PyData.depthAll, PyData.depth, ih]
theorem sortOk_pairs {Ls : List (List Str)} (h : ∀ l ∈ Ls, Nice l) : sortOkD (Ls.map eP2) = true := by
  have hn : ∀ l ∈ Ls, PyData.canLay0 (eNs l) = true := fun l hl => by
    unfold eNs
    simp only [PyData.canLay0]
    exact canLayAll_of _ fun d hd => by
      obtain ⟨x, hx, rfl⟩ := List.mem_map.1 hd
      simp [PyData.canLay0, h l hl x hx]
  unfold sortOkD
  simp only [Bool.and_eq_true, Bool.or_eq_true, List.all_eq_true]
  refine ⟨⟨⟨canLayAll_of _ fun d hd => ?_, fun d hd e he => ?_⟩, .inl fun d hd => ?_⟩, fun d hd => ?_⟩
  · obtain ⟨l, hl, rfl⟩ := List.mem_map.1 hd
    simp [eP2, PyData.canLay0, PyData.canLayAll0, hn l hl]
  · obtain ⟨x, hx, rfl⟩ := List.mem_map.1 hd
    obtain ⟨y, hy, rfl⟩ := List.mem_map.1 he
    simp [eP2, eNs, PySem.W.alike, PySem.W.alikeAll, alike_strs]
  · obtain ⟨x, hx, rfl⟩ := List.mem_map.1 hd
    rfl
  · obtain ⟨x, hx, rfl⟩ := List.mem_map.1 hd
    simp [eP2, eNs, PyData.depth, PyData.depthAll, depth_strs]
end Gn
namespace Gn
open PySem L2 DL
theorem VB.nm {b : List Lf} {n : Nat} {w s : Int} (V : VB b n w s) {p q : Nat} (hp : p < b.length) (hq : q < b.length) (h : (bt b p).nm = (bt b q).nm) : p = q := by
  have P := List.pairwise_iff_getElem.1 V.nd
  rcases Nat.lt_trichotomy p q with g | g | g
  · exact (P p q (by simpa using hp) (by simpa using hq) g (by simp; rw [bt_eq hp, bt_eq hq]; exact h)).elim
  · exact g
  · exact (P q p (by simpa using hq) (by simpa using hp) g (by simp; rw [bt_eq hp, bt_eq hq]; exact h.symm)).elim
end Gn
namespace Gn
open PySem L2 DL
/-! ### baked right: the order of the takes -/
def pk (L : List Int) (p : Nat) : PyData := .tuple [.int (ai L p), .int (0 - (p : Int))]
theorem pk_inj (L : List Int) (p q : Nat) (h : pk L p = pk L q) : p = q := by
  unfold pk at h
  injection h with h
  injection h with _ h
  injection h with h _
  injection h with h
  omega
theorem leD0_pk {L : List Int} {p q : Nat} (h : leD0 (pk L p) (pk L q) = true) : ai L p < ai L q ∨ (ai L p = ai L q ∧ q ≤ p) := by
  have h : (!PySem.W.dataLt (pk L q) (pk L p)) = true := h
  unfold pk at h
  rw [PySem.W.dataLt_ii, Bool.not_eq_true', decide_eq_false_iff_not] at h
  omega
theorem sortOk_pk (L : List Int) (xs : List Nat) : sortOkD (xs.map (pk L)) = true := by
  unfold sortOkD
  simp only [Bool.and_eq_true, Bool.or_eq_true, List.all_eq_true]
  refine ⟨⟨⟨canLayAll_of _ fun d hd => ?_, fun d hd e he => ?_⟩, .inl fun d hd => ?_⟩, fun d hd => ?_⟩
  · obtain ⟨l, hl, rfl⟩ := List.mem_map.1 hd
    simp [pk, PyData.canLay0, PyData.canLayAll0]
  · obtain ⟨x, hx, rfl⟩ := List.mem_map.1 hd
    obtain ⟨y, hy, rfl⟩ := List.mem_map.1 he
    simp [pk, PySem.W.alike, PySem.W.alikeAll]
  · obtain ⟨x, hx, rfl⟩ := List.mem_map.1 hd
    rfl
  · obtain ⟨x, hx, rfl⟩ := List.mem_map.1 hd
    simp [pk, PyData.depth, PyData.depthAll]
/-- the places in the order of their outs -/
structure Ord (n : Nat) (L : List Int) (zs : List Nat) : Prop where
  nd : zs.Nodup
  mem : ∀ p, p ∈ zs ↔ p < n
  pw : zs.Pairwise fun p q => ai L p < ai L q ∨ (ai L p = ai L q ∧ q < p)
  len : zs.length = n
theorem ord_ex (n : Nat) (L : List Int) : ∃ zs, ((List.range n).map (pk L)).mergeSort (PySem.W.dataLe false id) = zs.map (pk L) ∧ Ord n L zs := by
  obtain ⟨zs, e, hp⟩ := map_perm_inv (pk_inj L) (sort_perm ((List.range n).map (pk L)))
  have pw := sort_pw ((List.range n).map (pk L))
  rw [e, List.pairwise_map] at pw
  have nd : zs.Nodup := hp.nodup_iff.2 List.nodup_range
  refine ⟨zs, e, nd, fun p => by rw [hp.mem_iff, List.mem_range], ?_, by rw [hp.length_eq, List.length_range]⟩
  have both := pw.and nd
  refine both.imp fun {p q} ⟨h1, h2⟩ => ?_
  rcases leD0_pk h1 with h | ⟨h, h'⟩
  · exact .inl h
  · exact .inr ⟨h, by omega⟩
/-- the highest place within comes first -/
theorem W_head {b : List Lf} {s : Sd} {p : Nat} (hp : p < b.length) (h : wq b s p = true) (hn : ∀ q, p < q → q < b.length → wq b s q = false) : ∃ ps, W b s = p :: ps := by
  obtain ⟨r, hr⟩ : ∃ r, b.length = p + 1 + r := ⟨b.length - (p + 1), by omega⟩
  unfold W
  rw [hr, List.range_add, List.filter_append, List.range_succ, List.filter_append]
  have e1 : ((List.range r).map fun x => p + 1 + x).filter (wq b s) = [] := List.filter_eq_nil_iff.2 fun q hq => by
    obtain ⟨x, hx, rfl⟩ := List.mem_map.1 hq
    have hx := List.mem_range.1 hx
    rw [hn _ (by omega) (by omega)]
    exact Bool.false_ne_true
  rw [e1]
  simp [h]
theorem stay_sub {c : List Lf} {L : List Int} (hS : Sol c L) (q : Lf → Bool) {now : Int} (hq : ∀ p, p < c.length → q (bt c p) = true → now ≤ ai L p) : ∃ S, Stay (c.filter q) now S := by
  have hl := hS.len
  obtain ⟨zz, hz⟩ : ∃ zz, zz = c.zip L := ⟨_, rfl⟩
  have zl : zz.length = c.length := by rw [hz, List.length_zip]; omega
  have z1 : zz.map Prod.fst = c := by rw [hz]; exact List.map_fst_zip (by omega)
  have at1 : ∀ p (h : p < zz.length), zz[p] = (bt c p, ai L p) := fun p h => by
    subst hz
    rw [List.getElem_zip, bt_eq (by omega), ai_eq (by omega)]
  have P : zz.Pairwise fun x y => ¬ (y.1.i < x.2 ∧ x.2 < y.2) := List.pairwise_iff_getElem.2 fun p r hp hr hpr => by
    rw [at1 p hp, at1 r hr]
    exact hS.ok p r hpr (by omega)
  have M : ∀ x ∈ zz, x.1.i + x.1.l ≤ x.2 ∧ x.2 ≤ x.1.i + x.1.m ∧ (q x.1 = true → now ≤ x.2) := fun x hx => by
    obtain ⟨p, hp, rfl⟩ := List.getElem_of_mem hx
    rw [at1 p hp]
    exact ⟨(hS.rg p (by omega)).1, (hS.rg p (by omega)).2, hq p (by omega)⟩
  obtain ⟨yy, hy⟩ : ∃ yy, yy = zz.filter (q ∘ Prod.fst) := ⟨_, rfl⟩
  have y1 : c.filter q = yy.map Prod.fst := by rw [hy, ← List.filter_map, z1]
  have PY : yy.Pairwise fun x y => ¬ (y.1.i < x.2 ∧ x.2 < y.2) := by rw [hy]; exact P.sublist List.filter_sublist
  have MY : ∀ x ∈ yy, x.1.i + x.1.l ≤ x.2 ∧ x.2 ≤ x.1.i + x.1.m ∧ now ≤ x.2 := fun x hx => by
    rw [hy] at hx
    obtain ⟨h1, h2⟩ := List.mem_filter.1 hx
    obtain ⟨a, b, k⟩ := M x h1
    exact ⟨a, b, k h2⟩
  have b1 : ∀ p (h : p < yy.length), bt (yy.map Prod.fst) p = yy[p].1 := fun p h => by rw [← bt_eq (by simpa using h)]; simp
  have b2 : ∀ p (h : p < yy.length), ai (yy.map Prod.snd) p = yy[p].2 := fun p h => by rw [← ai_eq (by simpa using h)]; simp
  rw [y1]
  refine ⟨yy.map Prod.snd, by simp, fun p hp => ?_, fun p hp => ?_, fun p r _ hpr hr => ?_⟩
  · have hp : p < yy.length := by simpa using hp
    rw [b1 p hp, b2 p hp]
    have := MY _ (List.getElem_mem hp)
    unfold bnd
    split <;> omega
  · have hp : p < yy.length := by simpa using hp
    rw [b1 p hp, b2 p hp]
    exact (MY _ (List.getElem_mem hp)).2.1
  · have hr : r < yy.length := by simpa using hr
    rw [b1 r hr, b2 r hr, b2 p (by omega)]
    exact List.pairwise_iff_getElem.1 PY p r (by omega) hr hpr
theorem lo_ex {b : List Lf} {n : Nat} {w s : Int} (V : VB b n w s) (hn : n ≤ 8) {S : List Int} (h : Sol b S) : ∃ L, lo b = some L ∧ Least b L := by
  obtain ⟨d, _, R⟩ := raised_ok V hn
  cases R with
  | out hL _ => exact ⟨_, lo_some hL, hL⟩
  | no R h1 hp _ =>
    have := R.leS h _ hp
    have := (h.rg _ hp).2
    omega
theorem lo_least {b : List Lf} {n : Nat} {w s : Int} (V : VB b n w s) (hn : n ≤ 8) {L : List Int} (h : lo b = some L) : Least b L := by
  obtain ⟨d, _, R⟩ := raised_ok V hn
  cases R with
  | out hL _ => rw [lo_some hL] at h; cases h; exact hL
  | no R h1 hp _ => rw [lo_none (R.over hp h1)] at h; cases h
theorem rest_nil (b : List Lf) : restG b [] = b := List.filter_eq_self.2 fun x _ => by simp [gn]
theorem can_first {b : List Lf} {n : Nat} {w s : Int} (V : VB b n w s) (h : CanS b ⟨0, []⟩) : ∃ S, Sol b S := by
  obtain ⟨_, S, T⟩ := h
  have T : Stay (restG b []) 0 S := T
  rw [rest_nil] at T
  refine ⟨S, T.len, fun p hp => ⟨?_, T.cap p hp⟩, fun p q h1 h2 => T.st p q (Nat.zero_le _) h1 h2⟩
  have h1 := T.lo p hp
  have h2 := V.rr hp
  unfold bnd at h1
  split at h1 <;> omega
theorem VB.inc' {b : List Lf} {n : Nat} {w s : Int} (V : VB b n w s) : Inc b := V.inc
theorem VB.bok {b : List Lf} {n : Nat} {w s : Int} (V : VB b n w s) (hn : n ≤ 8) (hw : w ≤ 40) : BOK b where
  ne := V.ne
  le := by have := V.le; omega
  r := fun x hx => by
    have := V.r x hx
    unfold lok
    simp; omega
  nd := V.nd
  inc := V.inc
theorem is_batch_ok {b : List Lf} {n : Nat} {w s : Int} (V : VB b n w s) (hn : n ≤ 8) (hw : w ≤ 40) : F_is_batch [eB b] = some (.da (.bool true)) := by
  obtain ⟨v, e, h⟩ := is_batch_any (b := b) (V.b8 hn).le (V.b8 hn).nm
  rw [e, h.2 (V.bok hn hw)]
end Gn
namespace Gn
open PySem L2 DL
/-! ### baked right: the walk -/
def goK (c : List Lf) (L : List Int) (xs : List Nat) : List Go := xs.map fun p => ⟨(bt c p).nm, ai L p, true⟩
theorem gn_goK {c : List Lf} {n : Nat} {w s : Int} (V : VB c n w s) {L : List Int} {xs : List Nat} (hx : ∀ p ∈ xs, p < c.length) {p : Nat} (hp : p < c.length) : gn (goK c L xs) (bt c p).nm = decide (p ∈ xs) := by
  unfold gn
  refine decide_eq_decide.2 ?_
  unfold goK
  rw [List.map_map]
  constructor
  · intro h
    obtain ⟨q, hq, e⟩ := List.mem_map.1 h
    have : q = p := V.nm (hx q hq) hp e
    exact this ▸ hq
  · intro h
    exact List.mem_map.2 ⟨p, h, rfl⟩
abbrev rhoB (c : List Lf) (st : List PyData) (ks : List PyData) : En := [.da (eB c), .ob (eB c) st, .no, .no, .no, .da (.list ks), .no, .no, .no, .no]
def BkI (c : List Lf) (L : List Int) (zs : List Nat) (k : Nat) (ρ : En) : Prop := ∃ A now, ρ = rhoB c (A ++ [eS ⟨now, goK c L (zs.take k)⟩]) (zs.map (pk L)) ∧ A.length ≤ 2 * k ∧ 0 ≤ now ∧ ∀ q ∈ zs.drop k, now ≤ ai L q
theorem mem_split {zs : List Nat} {k p : Nat} (h : p ∈ zs) (h' : p ∉ zs.take k) : p ∈ zs.drop k := by
  rw [← List.take_append_drop k zs] at h
  rcases List.mem_append.1 h with h | h
  · exact absurd h h'
  · exact h
theorem drop_at {zs : List Nat} {k : Nat} (h : k < zs.length) : zs.drop k = zs[k] :: zs.drop (k + 1) := List.drop_eq_getElem_cons h
section
variable {c : List Lf} {n : Nat} {w s : Int} {L : List Int} {zs : List Nat} {k : Nat}
theorem goK_ok (V : VB c n w s) (hn : n ≤ 8) (O : Ord c.length L zs) (now : Int) : SdOk ⟨now, goK c L (zs.take k)⟩ where
  le := by
    have h1 := O.len
    have h2 := V.le
    simp only [goK, List.length_map, List.length_take]
    omega
  nm := fun g hg => by
    obtain ⟨p, hp, rfl⟩ := List.mem_map.1 hg
    exact strOk_bt (V.b8 hn) ((O.mem p).1 (List.mem_of_mem_take hp))
theorem take_k (V : VB c n w s) (hn : n ≤ 8) (hS : Sol c L) (O : Ord c.length L zs) (hk : k < zs.length) : ∃ ps, W c ⟨ai L zs[k], goK c L (zs.take k)⟩ = zs[k] :: ps := by
  have hx : ∀ p ∈ zs.take k, p < c.length := fun p hp => (O.mem p).1 (List.mem_of_mem_take hp)
  have hpn : zs[k] < c.length := (O.mem _).1 (List.getElem_mem hk)
  have hd := drop_at hk
  have nd : (zs.take k ++ zs.drop k).Nodup := by rw [List.take_append_drop]; exact O.nd
  have pw : (zs.drop k).Pairwise fun p q => ai L p < ai L q ∨ (ai L p = ai L q ∧ q < p) := O.pw.sublist (List.drop_sublist ..)
  rw [hd] at nd pw
  have nt : zs[k] ∉ zs.take k := fun h => (List.nodup_append.1 nd).2.2 zs[k] h zs[k] List.mem_cons_self rfl
  refine W_head hpn ?_ fun q hq hqn => ?_
  · unfold wq
    simp only
    rw [gn_goK V hx hpn]
    have := (hS.rg _ hpn).1
    have := V.rr hpn
    simp [nt]
    omega
  · unfold wq
    simp only
    rw [gn_goK V hx hqn]
    by_cases h1 : q ∈ zs.take k
    · simp [h1]
    · have h2 := mem_split ((O.mem q).2 hqn) h1
      rw [hd] at h2
      have h3 : q ∈ zs.drop (k + 1) := by
        rcases List.mem_cons.1 h2 with h | h
        · omega
        · exact h
      have h4 := (List.pairwise_cons.1 pw).1 q h3
      have h5 := hS.ok _ _ hq hqn
      have h6 : ¬ (bt c q).i < ai L zs[k] := by omega
      simp [h6]
theorem can_k (V : VB c n w s) (hS : Sol c L) (O : Ord c.length L zs) {now : Int} (h : ∀ q ∈ zs.drop k, now ≤ ai L q) : CanS c ⟨now, goK c L (zs.take k)⟩ := by
  have hx : ∀ p ∈ zs.take k, p < c.length := fun p hp => (O.mem p).1 (List.mem_of_mem_take hp)
  refine ⟨fun g hg => ?_, stay_sub hS _ fun p hp hq => ?_⟩
  · obtain ⟨p, hp, rfl⟩ := List.mem_map.1 hg
    rfl
  · simp only at hq
    rw [gn_goK V hx hp] at hq
    have hq : p ∉ zs.take k := by simpa using hq
    exact h p (mem_split ((O.mem p).2 hp) hq)
theorem all_gone (V : VB c n w s) (O : Ord c.length L zs) {now : Int} : W c ⟨now, goK c L zs⟩ = [] := by
  unfold W
  rw [List.reverse_eq_nil_iff, List.filter_eq_nil_iff]
  intro p hp
  have hp := List.mem_range.1 hp
  have e := gn_goK V (L := L) (fun p h => (O.mem p).1 h) hp
  unfold wq
  simp only
  rw [e]
  simp [(O.mem p).2 hp]
end
end Gn
namespace Gn
open PySem L2 DL
def tailB : SF := sSeq (sAsg (eMeth 1 F_Oven_take aNil) (gTup 3 (gCons (gNm 7) (gCons (gNm 8) (gCons (gNm 9) (gNil)))))) (sIf (tOrF (tE (eBin neD (eVar 7) (eBin ixR (eBin ixR (eVar 0) (eBin subD (eC (.int 0)) (eVar 6))) (eC (.int 0))))) (tOrF (tE (eBin isnD (eVar 9) (eC (.bool true)))) (tE (eBin isnD (eMeth 1 F_Oven_can_still aNil) (eC (.bool true)))))) (sRet (eC (.bool false))) (sNil))
section
variable {c : List Lf} {n : Nat} {w s : Int} {L : List Int} {zs : List Nat} {k : Nat}
theorem pk_at (hk : k < zs.length) (h : k < (zs.map (pk L)).length) : (zs.map (pk L))[k] = .tuple [.int (ai L zs[k]), .int (0 - (zs[k] : Int))] := by
  rw [List.getElem_map]
  rfl
/-- behind the wait: the take, and what is asked -/
theorem bk_take (V : VB c n w s) (hn : n ≤ 8) (hS : Sol c L) (O : Ord c.length L zs) (hk : k < zs.length) {A : List PyData} (hA : A.length ≤ 2 * k + 1) {ks : List PyData} :
    Tot (tailB
      [.da (eB c), .ob (eB c) (A ++ [eS ⟨ai L zs[k], goK c L (zs.take k)⟩]), .no, .no, .da (.int (ai L zs[k])), .da (.list ks), .da (.int (0 - (zs[k] : Int))), .no, .no, .no])
      fun o => ∃ x y z, o = .nx [.da (eB c), .ob (eB c) (A ++ [eS ⟨ai L zs[k], goK c L (zs.take k)⟩] ++ [eS ⟨ai L zs[k], goK c L (zs.take (k + 1))⟩]), .no, .no, .da (.int (ai L zs[k])), .da (.list ks), .da (.int (0 - (zs[k] : Int))), .da x, .da y, .da z] := by
  have B := V.b8 hn
  have hp : zs[k] < c.length := (O.mem _).1 (List.getElem_mem hk)
  have hl : A.length < 1000 := by have := O.len; have := B.le; omega
  obtain ⟨ps, hW⟩ := take_k V hn hS O hk
  have rg := hS.rg _ hp
  have nr' : ¬ (Sd.mk (ai L zs[k]) (goK c L (zs.take k))).now - (bt c zs[k]).i < (bt c zs[k]).l := by simp only; omega
  have gd : decide (ai L zs[k] - (bt c zs[k]).i ≤ (bt c zs[k]).m) = true := by simp; omega
  have tk := take_yes (A := A) B (goK_ok V hn O _) hW hl nr'
  simp only [gd] at tk
  have hg : goK c L (zs.take k) ++ [⟨(bt c zs[k]).nm, ai L zs[k], true⟩] = goK c L (zs.take (k + 1)) := by
    rw [List.take_succ_eq_append_getElem hk]
    unfold goK
    rw [List.map_append]
    rfl
  rw [hg] at tk
  have tail : ∀ q ∈ zs.drop (k + 1), ai L zs[k] ≤ ai L q := fun q hq => by
    have pw : (zs.drop k).Pairwise fun p q => ai L p < ai L q ∨ (ai L p = ai L q ∧ q < p) := O.pw.sublist (List.drop_sublist ..)
    rw [drop_at hk] at pw
    have := (List.pairwise_cons.1 pw).1 q hq
    omega
  obtain ⟨v, cs, hv⟩ := can_ok (A := A ++ [eS ⟨ai L zs[k], goK c L (zs.take k)⟩]) B V.inc' (goK_ok (k := k + 1) V hn O (ai L zs[k]))
  have hv := hv.2 (can_k V hS O tail)
  subst hv
  have n1 : neD (.str (bt c zs[k]).nm) (.str (bt c zs[k]).nm) = _ := neR (by simp [nr, strOk_bt B hp])
  have a0 := at_b hp
  have hi : (0 : Int) - (0 - (zs[k] : Int)) = (zs[k] : Int) := by omega
  generalize (zs[k] : Int) = z at hi a0 ⊢
  generalize eS ⟨ai L zs[k], goK c L (zs.take k)⟩ = S1 at tk cs ⊢
  generalize eS ⟨ai L zs[k], goK c L (zs.take (k + 1))⟩ = S2 at tk cs ⊢
  rw [List.append_assoc] at tk cs
  unfold tailB
  simp only [x_sSeq, x_sAsg, x_eMeth, x_aNil]
  simp [tk]
  simp [eB] at tk cs n1 a0 ⊢
  simp [a0, n1, cs]
end
end Gn
namespace Gn
open PySem L2 DL
section
variable {c : List Lf} {n : Nat} {w s : Int} {L : List Int} {zs : List Nat} {k : Nat}
def headB : SF := sIf (tE (eBin ltD (eMeth 1 F_Oven_tick aNil) (eVar 4))) (sDrop (eMeth 1 F_Oven_wait (aCons (eBin subD (eVar 4) (eMeth 1 F_Oven_tick aNil)) (aNil)))) (sNil)
theorem B1_eq : B1__law_baked_right = sFg [4, 6, 7, 8, 9] (sSeq headB tailB) := rfl
theorem bk_head {c : List Lf} {A : List PyData} {now out z : Int} {gs : List Go} {ks : List PyData} (h0 : 0 ≤ now) (h1 : now ≤ out) (h2 : out ≤ 100) (hA : A.length < 1000) : ∃ A', A'.length ≤ A.length + 1 ∧
    headB [.da (eB c), .ob (eB c) (A ++ [eS ⟨now, gs⟩]), .no, .no, .da (.int out), .da (.list ks), .da (.int z), .no, .no, .no] = some (.nx [.da (eB c), .ob (eB c) (A' ++ [eS ⟨out, gs⟩]), .no, .no, .da (.int out), .da (.list ks), .da (.int z), .no, .no, .no]) := by
  have tk := tick_ok (b := c) (s := ⟨now, gs⟩) (A := A)
  by_cases h : now < out
  · refine ⟨A ++ [eS ⟨now, gs⟩], by simp, ?_⟩
    have wt := wait_yes (b := c) (s := ⟨now, gs⟩) (A := A) (k := out - now) (by omega) (by omega) hA
    have e : now + (out - now) = out := by omega
    simp only [e] at wt tk
    unfold headB
    simp [tk, h]
    simp at wt
    simp [wt]
  · have : now = out := by omega
    subst this
    refine ⟨A, by omega, ?_⟩
    unfold headB
    simp [tk]
theorem bk_loop (V : VB c n w s) (hn : n ≤ 8) (hS : Sol c L) (O : Ord c.length L zs) :
    Tot (forL (gTup 2 (gCons (gNm 4) (gCons (gNm 6) (gNil)))) B1__law_baked_right (zs.map (pk L)) (rhoB c [st0] (zs.map (pk L)))) fun o => ∃ A now, o = .nx (rhoB c (A ++ [eS ⟨now, goK c L zs⟩]) (zs.map (pk L))) := by
  refine Tot.forL (Inv := BkI c L zs) ?_ ?_ ?_
  · refine ⟨[], 0, rfl, by simp, by omega, fun q hq => ?_⟩
    have hq : q < c.length := (O.mem q).1 (by simpa using hq)
    have h1 := hS.rg q hq
    have h2 := V.rr hq
    omega
  · rintro k hk ρ ⟨A, now, rfl, hA, h0, hq⟩
    have hk' : k < zs.length := by simpa using hk
    rw [pk_at hk' hk]
    have hp : zs[k] < c.length := (O.mem _).1 (List.getElem_mem hk')
    have h1 : now ≤ ai L zs[k] := hq _ (by rw [drop_at hk']; exact List.mem_cons_self)
    have h2 := hS.rg _ hp
    have h3 := V.rr hp
    have hl : A.length < 1000 := by have := O.len; have := (V.b8 hn).le; omega
    obtain ⟨A', hA', e1⟩ := bk_head (c := c) (A := A) (now := now) (out := ai L zs[k]) (z := 0 - (zs[k] : Int)) (gs := goK c L (zs.take k)) (ks := zs.map (pk L)) h0 h1 (by omega) hl
    have e2 := bk_take V hn hS O hk' (A := A') (ks := zs.map (pk L)) (by omega)
    rw [B1_eq]
    have g : gTup 2 (gCons (gNm 4) (gCons (gNm 6) (gNil))) (.da (.tuple [.int (ai L zs[k]), .int (0 - (zs[k] : Int))])) (rhoB c (A ++ [eS ⟨now, goK c L (zs.take k)⟩]) (zs.map (pk L))) = some [.da (eB c), .ob (eB c) (A ++ [eS ⟨now, goK c L (zs.take k)⟩]), .no, .no, .da (.int (ai L zs[k])), .da (.list (zs.map (pk L))), .da (.int (0 - (zs[k] : Int))), .no, .no, .no] := by
      simp [rhoB]
    rw [g]
    simp only [Tot_some, x_sFg, x_sSeq, Tot_ol, e1]
    refine e2.mono fun o ⟨x, y, z, ho⟩ => ?_
    subst ho
    simp
    refine ⟨A' ++ [eS ⟨ai L zs[k], goK c L (zs.take k)⟩], ai L zs[k], by simp [rhoB], by simp; omega, by omega, fun q hq => ?_⟩
    have pw : (zs.drop k).Pairwise fun p q => ai L p < ai L q ∨ (ai L p = ai L q ∧ q < p) := O.pw.sublist (List.drop_sublist ..)
    rw [drop_at hk'] at pw
    have := (List.pairwise_cons.1 pw).1 q hq
    omega
  · rintro ρ ⟨A, now, rfl, _⟩
    refine ⟨A, now, ?_⟩
    rw [List.take_of_length_le (by simp)]
theorem mk1_eq {b : PyData} {d : PyData} {ρ : En} {i j bi : Nat} {FB FL : List PyData → Option Rv} (h0 : ρ[bi]? = some (.da b)) (h1 : FB [b] = some (.da (.bool true))) (h2 : FL [b] = some (.da d)) : sMk1 FB FL bi i j ρ = some (.nx ((ρ.set i (.ob b [st0])).set j (.da d))) := by
  unfold sMk1
  rw [h0]
  simp only [ol_mk, daD_da, h1, h2]
theorem enum_ints (L : List Int) : enumD 0 (L.map .int) = (List.range L.length).map fun p => .tuple [.int (p : Int), .int (ai L p)] := by
  apply List.ext_getElem (by rw [enumD_len]; simp)
  intro p h1 h2
  have h3 : p < L.length := by simpa using h2
  rw [enumD_at 0 _ p h1 (by simpa using h3)]
  simp [ai_eq h3]
theorem baked_ok (V : VB c n w s) (hn : n ≤ 8) (hw : w ≤ 40) : F__law_baked_right [eB c] = some (.da (.bool true)) := by
  have B := V.b8 hn
  have hb := is_batch_ok V hn hw
  have hlo := least_outs_ok V hn
  have : Tot (F__law_baked_right [eB c]) fun r => r = .da (.bool true) := by
    unfold F__law_baked_right b__law_baked_right b0__law_baked_right
    have mk := mk1_eq (ρ := [.da (eB c), .no, .no, .no, .no, .no, .no, .no, .no, .no]) (i := 1) (j := 2) (bi := 0) rfl hb hlo
    simp [fnM, fnF, startE, mk]
    unfold b1__law_baked_right
    cases hL : lo c with
    | none =>
      obtain ⟨v, cs, hv⟩ := can_ok (A := []) B V.inc' (s := ⟨0, []⟩) ⟨by simp, by simp⟩
      rw [← st0_eq] at cs
      simp only [List.nil_append] at cs
      have : v = false := by
        cases v with
        | false => rfl
        | true =>
          obtain ⟨S, hS⟩ := can_first V (hv.1 rfl)
          obtain ⟨M, e, _⟩ := lo_ex V hn hS
          rw [hL] at e
          cases e
      subst this
      simp [eO, cs, outF]
    | some L =>
      have Le := lo_least V hn hL
      have hS := Le.s
      obtain ⟨zs, ez, O⟩ := ord_ex c.length L
      have hl := hS.len
      have l8 : L.length ≤ 16777216 := by have := B.le; omega
      have hrl : c.length ≤ 16777216 := by have := B.le; omega
      have lp := bk_loop V hn hS O
      simp only [eO]
      simp [enumD_len, l8]
      rw [enum_ints, hl, lcL_a (G := pk L)]
      rotate_left
      · intro p hp
        simp [pk]
      simp [sortOk_pk, ez]
      rw [rhoB] at lp
      refine lp.mono fun o ⟨A, now, ho⟩ => ?_
      subst ho
      have gk : SdOk ⟨now, goK c L zs⟩ := by
        have := goK_ok (k := zs.length) V hn O now
        rwa [List.take_of_length_le (Nat.le_refl _)] at this
      have ln := len_ok (A := A) B gk
      rw [all_gone V O] at ln
      have ou := out_ok (b := c) (s := ⟨now, goK c L zs⟩) (A := A)
      have gl : (goK c L zs).length = c.length := by rw [goK, List.length_map, O.len]
      have gl' : ((goK c L zs).length : Int) = (c.length : Int) := by rw [gl]
      obtain ⟨m, hm⟩ : ∃ m : Int, (c.length : Int) = m := ⟨_, rfl⟩
      rw [hm] at gl'
      simp only [List.length_nil] at ln
      simp [rhoB]
      simp [eB] at ln ou ⊢
      simp [ln, ou, eqI, gl', hm, outF]
  exact this.eq
end
end Gn
namespace Gn
open PySem L2 DL
/-! ### the law -/
abbrev rhoL (ns : List Int) (b : List Lf) (L : List Sd) (x6 x7 : Sl) : En := [.da (scr ns), .da (eB b), .ob (eB b) (L.map eS), .ob (eB b) [st0], .ow (L.map eS), .no, x6, x7, .no, .no, .no]
theorem Rs.stands {b : List Lf} {k : Nat} {L : List Sd} (R : Rs k L) (hk : k ≤ 900) (B : B8 b) (V : Inc b) : F__law_stands_so (eB b) (L.map eS) (eB b) (L.map eS) = some (.da (.bool true), L.map eS, L.map eS) := by
  obtain ⟨L0, s, rfl⟩ := R.last
  have := stands_ok (A := L0.map eS) (A' := L0.map eS) B V (R.sd (by omega))
  rw [List.map_append, List.map_singleton]
  exact this
theorem Rs.out {b : List Lf} {k : Nat} {L : List Sd} (R : Rs k L) (hk : k ≤ 900) : ∃ ds, F_Oven_out (eB b) (L.map eS) [] = some (.fr ds, L.map eS) ∧ ds.length < 16777216 := by
  obtain ⟨L0, s, rfl⟩ := R.last
  have := out_ok (b := b) (s := s) (A := L0.map eS)
  rw [List.map_append, List.map_singleton]
  refine ⟨_, this, ?_⟩
  have := (R.ok s (by simp)).1
  rw [List.length_map]
  omega
theorem turn_ok {ns : List Int} {b : List Lf} {k : Nat} {L : List Sd} {ms : List PyData} {j : Int} (B : B8 b) (V : Inc b) (R : Rs k L) (hk : k ≤ 800) (hm : Bag ms) :
    Tot (B1_law (rhoL ns b L (.ow ms) (.da (.int j)))) fun o => ∃ L' ms', o = .nx (rhoL ns b L' (.ow ms') .no) ∧ Bag ms' ∧ Rs (k + 1) L' := by
  obtain ⟨d, ms', e1, hm', hd⟩ := a_deed_ok hm
  obtain ⟨r, L', e2, e3, R', e4⟩ := step_ok B R (by omega) hd
  have e5 := R'.stands (by omega) B V
  obtain ⟨ds, e6, e7⟩ := R'.out (b := b) (by omega)
  unfold B1_law rhoL
  generalize L.map eS = X1 at e2 e3 ⊢
  obtain ⟨X2, hX⟩ : ∃ X2, X2 = L'.map eS := ⟨_, rfl⟩
  rw [← hX] at e2 e3 e5 e6
  simp [e1, e2, e3, e4, e5, e6, e7]
  exact ⟨L', ms', by rw [hX]; simp, hm', R'⟩
def I3 (ns : List Int) (b : List Lf) (k j : Nat) (ρ : En) : Prop := ∃ L ms, ρ = rhoL ns b L (.ow ms) .no ∧ Bag ms ∧ Rs (k + j) L
theorem three_ok {ns : List Int} {b : List Lf} {k : Nat} {L : List Sd} {ms : List PyData} (B : B8 b) (V : Inc b) (R : Rs k L) (hk : k ≤ 700) (hm : Bag ms) :
    Tot (forL (gNm 7) B1_law (rangeD 0 3) (rhoL ns b L (.ow ms) .no)) fun o => ∃ L' ms', o = .nx (rhoL ns b L' (.ow ms') .no) ∧ Bag ms' ∧ Rs (k + 3) L' := by
  refine Tot.forL (Inv := I3 ns b k) ⟨L, ms, rfl, hm, R⟩ ?_ ?_
  · rintro j hj ρ ⟨L, ms, rfl, hm, R⟩
    rw [rangeD_len] at hj
    have t := turn_ok (ns := ns) (j := 0 + j) B V R (by omega) hm
    rw [rangeD_at]
    simp [rhoL] at t ⊢
    refine t.mono fun o ⟨L', ms', ho, hm', R'⟩ => ?_
    subst ho
    exact ⟨L', ms', rfl, hm', R'⟩
  · rintro ρ ⟨L, ms, rfl, hm, R⟩
    exact ⟨L, ms, rfl, hm, by rwa [rangeD_len] at R⟩
theorem round_ok {ns : List Int} {b : List Lf} {k m : Nat} {L : List Sd} (B : B8 b) (V : Inc b) (R : Rs k L) (hk : k ≤ 700) (hm : m ≤ 100) :
    Tot (B2_law [.da (scr ns), .da (eB b), .ob (eB b) (L.map eS), .ob (eB b) [st0], .ow (L.map eS), .da (.int m), .no, .no, .no, .no, .no]) fun o => ∃ L', o = .nx (rhoL ns b L' .no .no) ∧ Rs (k + 3) L' := by
  obtain ⟨ms, e1, h1⟩ := bag_ok ns (m + 1) (by omega)
  have em : (m : Int) + 1 = ((m + 1 : Nat) : Int) := by omega
  have t3 := three_ok (ns := ns) B V R hk h1
  have big3 : isBig 3 = true := by decide
  unfold B2_law
  rw [← em] at e1
  simp [e1, big3]
  rw [rhoL] at t3
  refine t3.mono fun o ⟨L', ms1, ho, h2, R'⟩ => ?_
  subst ho
  obtain ⟨v, ms2, e3, h3, hv⟩ := of_ok h2 (es := [.int 9, .int 30]) (by simp) (by simp)
  obtain ⟨s, rfl, hs⟩ : ∃ s : Int, v = .int s ∧ (s = 9 ∨ s = 30) := by
    simp only [List.mem_cons, List.not_mem_nil, or_false] at hv
    rcases hv with rfl | rfl
    · exact ⟨9, rfl, .inl rfl⟩
    · exact ⟨30, rfl, .inr rfl⟩
  obtain ⟨c, ms3, e4, h4, V4⟩ := batch_ok h3 (n := 8) (w := 7) (s := s) (by omega) (by omega) (by omega) (by omega) (by omega) (by omega)
  have e4 : F__law_batch ms2 [.int 8, .int 7, .int s] = some (.da (eB c), ms3) := e4
  have e5 := baked_ok V4 (by omega) (by omega)
  simp [rhoL, e3, e4, e5]
  exact ⟨L', by simp, R'⟩
end Gn
namespace Gn
open PySem L2 DL
theorem is_batch_long {c : List Lf} (h : 8 < c.length) : F_is_batch [eB c] = some (.da (.bool false)) := by
  obtain ⟨n, hn⟩ : ∃ n : Int, (c.length : Int) = n := ⟨_, rfl⟩
  have h1 : 1 ≤ n := by omega
  have h2 : ¬ n ≤ 8 := by omega
  simp [F_is_batch, fnF, startE, b_is_batch, eB, hn, h1, h2, outF]
theorem is_batch_twice {b : List Lf} (B : B8 b) (h : 1 ≤ b.length) : F_is_batch [eB (b ++ b)] = some (.da (.bool false)) := by
  by_cases c : 8 < (b ++ b).length
  · exact is_batch_long c
  · obtain ⟨v, e, hv⟩ := is_batch_any (b := b ++ b) (by omega) (fun x hx => by
      rcases List.mem_append.1 hx with hx | hx <;> exact B.nm x hx)
    rw [e]
    cases v with
    | false => rfl
    | true =>
      have nd := (hv.1 rfl).nd
      rw [List.map_append] at nd
      cases b with
      | nil => simp at h
      | cons x b => exact ((List.nodup_append.1 nd).2.2 x.nm (by simp) x.nm (by simp) rfl).elim
theorem tryNB_eq {b : List Lf} {ρ : En} (B : B8 b) (h : 1 ≤ b.length) (h0 : ρ[1]? = some (.da (eB b))) : sTryNB F_is_batch 1 ρ = some (.rt (.da (.bool true)) ρ) := by
  have e : addD (eB b) (eB b) = some (.da (eB (b ++ b))) := by
    have hl : b.length + b.length ≤ 16777216 := by have := B.le; omega
    simp [eB, hl]
  unfold sTryNB
  rw [h0]
  simp only [ol_mk, daD_da, e, is_batch_twice B h]
theorem mk3_eq {b : PyData} {ρ : En} {i j l bi : Nat} {FB : List PyData → Option Rv} (h0 : ρ[bi]? = some (.da b)) (h1 : FB [b] = some (.da (.bool true))) : sMk3 FB bi i j l ρ = some (.nx (((ρ.set i (.ob b [st0])).set j (.ob b [st0])).set l (.ow [st0]))) := by
  unfold sMk3
  rw [h0]
  simp only [ol_mk, daD_da, h1]
def LI (ns : List Int) (b : List Lf) (k : Nat) (ρ : En) : Prop := ∃ L, ρ = rhoL ns b L .no .no ∧ Rs (3 * k) L
theorem rounds_ok {ns : List Int} {b : List Lf} (B : B8 b) (V : Inc b) {n : Nat} (hn : n ≤ 60) :
    Tot (forL (gNm 5) B2_law (rangeD 0 n) (rhoL ns b [⟨0, []⟩] .no .no)) fun o => ∃ L, o = .nx (rhoL ns b L .no .no) ∧ Rs 300 L := by
  refine Tot.forL (Inv := LI ns b) ⟨_, rfl, ⟨[], rfl⟩, by simp, fun s hs => ?_⟩ ?_ ?_
  · rw [List.mem_singleton.1 hs]
    simp
  · rintro k hk ρ ⟨L, rfl, R⟩
    rw [rangeD_len] at hk
    have t := round_ok (ns := ns) (m := k) B V R (by omega) (by omega)
    rw [rangeD_at]
    rw [show (0 : Int) + (k : Int) = (k : Int) by omega]
    simp [rhoL] at t ⊢
    refine t.mono fun o ⟨L', ho, R'⟩ => ?_
    subst ho
    exact ⟨L', rfl, R'⟩
  · rintro ρ ⟨L, rfl, R⟩
    rw [rangeD_len] at R
    exact ⟨L, rfl, R.hd, by have := R.len; omega, fun s hs => by have := R.ok s hs; exact ⟨by omega, this.2⟩⟩
theorem cut1 (xs : List PyData) : cutD xs (some 1) none = xs.drop 1 := cutD_drop xs 1
def BI9 (b : List Lf) (T : List Sd) (r1 r3 r4 : Sl) (j : Nat) (ρ : En) : Prop := ρ = [.no, r1, .ob (eB b) ((⟨0, []⟩ :: T.take (T.length - j)).map eS), r3, r4, .no, .no, .no, .no, .no, .no]
theorem backs_ok {b : List Lf} {T : List Sd} {r1 r3 r4 : Sl} :
    Tot (forL (gNm 10) B3_law (T.map eS) [.no, r1, .ob (eB b) ((⟨0, []⟩ :: T).map eS), r3, r4, .no, .no, .no, .no, .no, .no]) fun o => o = .nx [.no, r1, .ob (eB b) [st0], r3, r4, .no, .no, .no, .no, .no, .no] := by
  refine Tot.forL (Inv := BI9 b T r1 r3 r4) ?_ ?_ ?_
  · unfold BI9
    rw [Nat.sub_zero, List.take_length]
  · rintro j hj ρ rfl
    have hj : j < T.length := by simpa using hj
    obtain ⟨m, hm⟩ : ∃ m, T.length - j = m + 1 := ⟨T.length - j - 1, by omega⟩
    have hm' : T.length - (j + 1) = m := by omega
    have hml : m < T.length := by omega
    have e := back_yes (b := b) (s := T[m]) (A := (⟨0, []⟩ :: T.take m).map eS) (by simp)
    have e0 : (Sd.mk 0 [] :: T.take (m + 1)).map eS = (Sd.mk 0 [] :: T.take m).map eS ++ [eS T[m]] := by
      rw [List.take_succ_eq_append_getElem hml, ← List.cons_append, List.map_append]
      rfl
    unfold BI9 B3_law
    rw [hm, hm', e0]
    generalize ((Sd.mk 0 [] :: T.take m).map eS) = X at e ⊢
    generalize (T.map eS)[j]'(by simpa using hj) = d
    simp [e]
  · rintro ρ rfl
    rw [List.length_map, Nat.sub_self]
    rfl
theorem nr_pair {b : List Lf} {s : Sd} (B : B8 b) (G : SdOk s) : nr 9 (.tuple [eB b, eS s]) = true := by
  have h1 : nr 8 (eB b) = true := by
    unfold eB
    exact nr_mapT (k := 7) fun x hx => by simp [Lf.e, nr, nine_ok2 (B.nm x hx)]
  have h2 := nr_S G
  have e : nr 9 (.tuple [eB b, eS s]) = (nr 8 (eB b) && (nr 8 (eS s) && true)) := rfl
  rw [e, h1, h2]
  rfl
theorem g0 : SdOk ⟨0, []⟩ := ⟨by simp, by simp⟩
theorem eq_pair {b : List Lf} {s : Sd} (B : B8 b) (G : SdOk s) : ∃ v, eqD (.tuple [eB b, eS s]) (.tuple [eB b, st0]) = some (.da (.bool v)) ∧ eqD (eS s) (.tuple [.int 0, .tuple []]) = some (.da (.bool v)) := by
  have s0 : st0 = eS ⟨0, []⟩ := st0_eq
  have p1 := nr_sh (nr_pair B G) (by omega)
  have p2 := nr_sh (nr_pair B g0) (by omega)
  have p3 := nr_sh (nr_S G) (by omega)
  have p4 := nr_sh (nr_S g0) (by omega)
  have s1 : PyData.tuple [.int 0, .tuple []] = eS ⟨0, []⟩ := rfl
  have h1 : nr 9 (eB b) = true := by
    unfold eB
    exact nr_mapT (k := 8) fun x hx => by simp [Lf.e, nr, nine_ok2 (B.nm x hx)]
  have rb := nr_refl 9 _ h1
  rw [s0, s1]
  unfold eqD
  rw [p1, p2, p3, p4]
  refine ⟨PyData.eqv (eS s) (eS ⟨0, []⟩), ?_, by simp⟩
  simp only [Bool.and_self, if_true, PyData.eqv, PyData.eqvAll, rb, Bool.true_and, Bool.and_true]
end Gn
namespace Gn
open PySem L2 DL
def endS : SF := sSeq (sIf (tOrF (tE (eBin neD (eEqOO 2 3) (eBin eqD (eBin ixR (eVar 4) (eC (.int (-1)))) (eTup (aCons (eC (.int 0)) (aCons (eTup (aNil)) (aNil))))))) (tE (eEqOD 2 (eVar 1)))) (sRet (eC (.bool false))) (sNil)) (sSeq (sFa [0, 5, 6, 7, 8, 9, 10] (sFor (iSeq (eSlice (eVar 4) (oE (eC (.int 1))) (oNo))) (gNm 10) B3_law)) (sSeq (sIf (tOrF (tNotF (tE (eEqOO 2 3))) (tE (eBin neD (eMeth 2 F__law_did (aCons (eTup (aCons (eC (.str "back")) (aNil))) (aNil))) (eC (.str "NothingLeft"))))) (sRet (eC (.bool false))) (sNil)) (sTryNB F_is_batch 1)))
theorem b1_law_eq : b1_law = sSeq (sFa [5, 6, 7, 8, 9, 10] (sFor (iRange1 (eBin addD (eCb minD (aCons (eCb lenD (aCons (eVar 0) (aNil))) (aCons (eC (.int 14)) (aNil)))) (eC (.int 1)))) (gNm 5) B2_law)) endS := rfl
theorem end_ok {ns : List Int} {b : List Lf} {L : List Sd} (B : B8 b) (hb : 1 ≤ b.length) (R : Rs 300 L) : Tot (endS (rhoL ns b L .no .no)) fun o => ∃ ρ', o = .rt (.da (.bool true)) ρ' := by
  have st9 : nr 9 (.tuple [eB b, st0]) = true := nr_pair B g0
  have e3 := eqR st9
  have e4 := did_back (b := b) (s := ⟨0, []⟩) (A := [])
  rw [if_pos rfl, ← st0_eq] at e4
  simp only [List.nil_append] at e4
  have e5 : neD (.str "NothingLeft") (.str "NothingLeft") = _ := neR (by simp [nr, ok_r])
  obtain ⟨T, hT⟩ := R.hd
  have hd : (L.map eS).drop 1 = T.map eS := by rw [hT]; rfl
  obtain ⟨L0, s, hL⟩ := R.last
  have G : SdOk s := (hL ▸ R).sd (by omega)
  obtain ⟨v, e1, e2⟩ := eq_pair B G
  have ev : neD (.bool v) (.bool v) = _ := neR (by simp [nr])
  have la : atI (L.map eS) (-1) = some (eS s) := by
    rw [hL, List.map_append]
    exact atI_last _ _
  have s0 : atI [st0] (-1) = some st0 := atI_last [] st0
  have bk := backs_ok (b := b) (T := T) (r1 := .da (eB b)) (r3 := .ob (eB b) [st0]) (r4 := .ow (L.map eS))
  rw [← hT] at bk
  have itup : isTupR (.da (eB b)) = true := rfl
  unfold endS rhoL
  generalize L.map eS = X at la hd bk ⊢
  simp [la, s0, e1, e2, ev, itup, cut1, hd]
  refine bk.mono fun o ho => ?_
  subst ho
  have tn := tryNB_eq (ρ := [.no, .da (eB b), .ob (eB b) [st0], .ob (eB b) [st0], .ow X, .no, .no, .no, .no, .no, .no]) B hb rfl
  have e4 : F__law_did (eB b) [st0] [.tuple [.str "back"]] = some (.da (.str "NothingLeft"), [st0]) := e4
  simp [s0, e3, e4, e5, tn]
theorem law_true (ns : List Int) (hns : ns.length ≤ 63) : F_law [scr ns] = some (.da (.bool true)) := by
  obtain ⟨ms, e1, h1⟩ := bag_ok ns 0 (by omega)
  obtain ⟨b, ms', e2, h2, V⟩ := batch_ok h1 (n := 8) (w := 7) (s := 15) (by omega) (by omega) (by omega) (by omega) (by omega) (by omega)
  have e1 : F__law_bag [scr ns, .int 0] = some (.fr ms) := e1
  have e2 : F__law_batch ms [.int 8, .int 7, .int 15] = some (.da (eB b), ms') := e2
  have B := V.b8 (by omega)
  have hb := is_batch_ok V (by omega) (by omega)
  have this : Tot (F_law [scr ns]) fun r => r = .da (.bool true) := by
    unfold F_law b_law b0_law
    have mk := mk3_eq (ρ := [.da (scr ns), .da (eB b), .no, .no, .no, .no, .no, .no, .no, .no, .no]) (i := 2) (j := 3) (l := 4) (bi := 1) (FB := F_is_batch) rfl hb
    simp [fnM, fnF, startE, e1, e2, mk]
    rw [b1_law_eq]
    obtain ⟨n, hn⟩ : ∃ n : Int, (ns.length : Int) = n := ⟨_, rfl⟩
    obtain ⟨m, hm⟩ : ∃ m : Int, (if 14 < n then 14 else n) = m := ⟨_, rfl⟩
    have hm1 : 0 ≤ m ∧ m ≤ 14 := by
      split at hm <;> omega
    have big : isBig (m + 1) = true := by simp [isBig]; omega
    have rd := rounds_ok (ns := ns) B V.inc' (n := (m + 1).toNat) (by omega)
    have en := fun L (R : Rs 300 L) => end_ok (ns := ns) (L := L) B V.ne R
    rw [rhoL] at rd
    simp [hn, hm, big, st0_eq]
    refine rd.mono fun o ⟨L, ho, R⟩ => ?_
    subst ho
    refine (en L R).mono fun o ⟨ρ', ho⟩ => ?_
    subst ho
    simp [outF]
  exact this.eq
end Gn
open PySem PySem.W PyProof.Rows
set_option maxRecDepth 100000 in
set_option maxHeartbeats 0 in
theorem PySem.Challenge.cw_deepoven_k07_whole_an_oven_tick_by_tick_holds : PySem.Challenge.rw_deepoven_k07_whole_an_oven_tick_by_tick.Holds := by
  w_on; o_law; k_head; (case hw => w_witness2)
  k_fill
  refine Gn.walk (l := PySem.Challenge.rw_deepoven_k07_whole_an_oven_tick_by_tick) Gn.law_true rfl rfl (fun w h Y => PySem.W.kIn_of Y) ?F
  case F =>
    intro w mg fa h KX G hmg
    refine' Gn.all_mk KX G hmg ?a__law_take ?l__law_take ?c__law_take ?k__law_take ?a__law_batch ?l__law_batch ?c__law_batch ?k__law_batch ?a__law_bag ?l__law_bag ?c__law_bag ?k__law_bag ?a__law_of ?l__law_of ?c__law_of ?k__law_of ?a__law_a_deed ?l__law_a_deed ?c__law_a_deed ?k__law_a_deed ?a__law_within ?l__law_within ?c__law_within ?k__law_within ?a__law_due ?l__law_due ?c__law_due ?k__law_due ?a_raised ?l_raised ?c_raised ?k_raised ?a_first_bounds ?l_first_bounds ?c_first_bounds ?k_first_bounds ?a_least_outs ?l_least_outs ?c_least_outs ?k_least_outs ?a_is_from ?l_is_from ?c_is_from ?k_is_from ?a_is_name ?l_is_name ?c_is_name ?k_is_name ?a_is_loaf ?l_is_loaf ?c_is_loaf ?k_is_loaf ?a_is_batch ?l_is_batch ?c_is_batch ?k_is_batch ?a__law_baked_right ?l__law_baked_right ?c__law_baked_right ?k__law_baked_right ?a__law_kind ?l__law_kind ?c__law_kind ?k__law_kind ?a__law_did ?l__law_did ?c__law_did ?k__law_did ?a__law_can_still ?l__law_can_still ?c__law_can_still ?k__law_can_still ?a__law_stands_so ?l__law_stands_so ?c__law_stands_so ?k__law_stands_so ?a_law ?l_law ?c_law ?k_law ?a_Oven___init__ ?i_Oven___init__ ?l_Oven___init__ ?c_Oven___init__ ?k_Oven___init__ ?a_Oven_places_within ?i_Oven_places_within ?l_Oven_places_within ?c_Oven_places_within ?k_Oven_places_within ?a_Oven_take ?i_Oven_take ?l_Oven_take ?c_Oven_take ?k_Oven_take ?a_Oven_can_still ?i_Oven_can_still ?l_Oven_can_still ?c_Oven_can_still ?k_Oven_can_still ?a_Oven_tick ?i_Oven_tick ?l_Oven_tick ?c_Oven_tick ?k_Oven_tick ?a_Oven_wait ?i_Oven_wait ?l_Oven_wait ?c_Oven_wait ?k_Oven_wait ?a_Oven_within ?i_Oven_within ?l_Oven_within ?c_Oven_within ?k_Oven_within ?a_Oven___len__ ?i_Oven___len__ ?l_Oven___len__ ?c_Oven___len__ ?k_Oven___len__ ?a_Oven_out ?i_Oven_out ?l_Oven_out ?c_Oven_out ?k_Oven_out ?a_Oven_back ?i_Oven_back ?l_Oven_back ?c_Oven_back ?k_Oven_back ?a_Oven___eq__ ?i_Oven___eq__ ?l_Oven___eq__ ?c_Oven___eq__ ?k_Oven___eq__ ?a_Raw___init__ ?i_Raw___init__ ?l_Raw___init__ ?c_Raw___init__ ?k_Raw___init__ ?g_cC ?g_cC0 ?g_cCN ?g_ccT ?g_ccE ?g_ccL ?g_ccR ?o_pg ?o_hd ?o_po ?o_sa ?o_mk ?o_kc ?o_nB ?o_nS ?z_ha ?z_hn ?z_ht ?z_hm ?z_ko ?z_kt ?z_no ?z_nt ?e_x_CN ?e_k_CN ?e_b_CN ?e_t_CN ?e_x_cT ?e_k_cT ?e_b_cT ?e_t_cT ?e_x_cE ?e_k_cE ?e_b_cE ?e_t_cE ?e_x_cL ?e_k_cL ?e_b_cL ?e_t_cL ?te_N ?x_cl_cT ?x_ga_cT ?x_gg_cT ?x_ex_cT ?x_hd_cT ?x_ca_cT ?x_cm_cT ?x_no_cT ?x_te_cT ?x_k0_cT ?x_k1_cT ?x_k2_cT ?x_k3_cT ?x_k4_cT ?x_cl_cE ?x_ga_cE ?x_gg_cE ?x_ex_cE ?x_hd_cE ?x_ca_cE ?x_cm_cE ?x_no_cE ?x_te_cE ?x_k0_cE ?x_k1_cE ?x_k2_cE ?x_k3_cE ?x_k4_cE ?x_cl_cL ?x_ga_cL ?x_gg_cL ?x_ex_cL ?x_hd_cL ?x_ca_cL ?x_cm_cL ?x_no_cL ?x_te_cL ?x_k0_cL ?x_k1_cL ?x_k2_cL ?x_k3_cL ?x_k4_cL ?x_cl_cR ?x_ga_cR ?x_gg_cR ?x_ex_cR ?x_hd_cR ?x_ca_cR ?x_cm_cR ?x_no_cR ?x_te_cR ?x_k0_cR ?x_k1_cR ?x_k2_cR ?x_k3_cR ?x_k4_cR ?r_L ?r_sa ?r_ty ?r_kC ?r_s0 ?r_r0 ?r_v0 ?r_te ?r_ki ?b_all ?b_any ?b_bool ?b_enumerate ?b_int ?b_isinstance ?b_len ?b_list ?b_max ?b_min ?b_range ?b_reversed ?b_sorted ?b_str ?b_tuple ?b_zip ?g_LAST ?g_LEAST ?g_LETTERS ?g_LOAVES ?g_MOST
    (case g_cC => k_is)
    (case g_cC0 => k_is)
    (case g_cCN => k_is)
    (case g_ccT => k_is)
    (case g_ccE => k_is)
    (case g_ccL => k_is)
    (case g_ccR => k_is)
    (case a__law_take => k_is)
    (case l__law_take => k_is)
    (case c__law_take => k_is)
    (case k__law_take => k_is)
    (case a__law_batch => k_is)
    (case l__law_batch => k_is)
    (case c__law_batch => k_is)
    (case k__law_batch => k_is)
    (case a__law_bag => k_is)
    (case l__law_bag => k_is)
    (case c__law_bag => k_is)
    (case k__law_bag => k_is)
    (case a__law_of => k_is)
    (case l__law_of => k_is)
    (case c__law_of => k_is)
    (case k__law_of => k_is)
    (case a__law_a_deed => k_is)
    (case l__law_a_deed => k_is)
    (case c__law_a_deed => k_is)
    (case k__law_a_deed => k_is)
    (case a__law_within => k_is)
    (case l__law_within => k_is)
    (case c__law_within => k_is)
    (case k__law_within => k_is)
    (case a__law_due => k_is)
    (case l__law_due => k_is)
    (case c__law_due => k_is)
    (case k__law_due => k_is)
    (case a_raised => k_is)
    (case l_raised => k_is)
    (case c_raised => k_is)
    (case k_raised => k_is)
    (case a_first_bounds => k_is)
    (case l_first_bounds => k_is)
    (case c_first_bounds => k_is)
    (case k_first_bounds => k_is)
    (case a_least_outs => k_is)
    (case l_least_outs => k_is)
    (case c_least_outs => k_is)
    (case k_least_outs => k_is)
    (case a_is_from => k_is)
    (case l_is_from => k_is)
    (case c_is_from => k_is)
    (case k_is_from => k_is)
    (case a_is_name => k_is)
    (case l_is_name => k_is)
    (case c_is_name => k_is)
    (case k_is_name => k_is)
    (case a_is_loaf => k_is)
    (case l_is_loaf => k_is)
    (case c_is_loaf => k_is)
    (case k_is_loaf => k_is)
    (case a_is_batch => k_is)
    (case l_is_batch => k_is)
    (case c_is_batch => k_is)
    (case k_is_batch => k_is)
    (case a__law_baked_right => k_is)
    (case l__law_baked_right => k_is)
    (case c__law_baked_right => k_is)
    (case k__law_baked_right => k_is)
    (case a__law_kind => k_is)
    (case l__law_kind => k_is)
    (case c__law_kind => k_is)
    (case k__law_kind => k_is)
    (case a__law_did => k_is)
    (case l__law_did => k_is)
    (case c__law_did => k_is)
    (case k__law_did => k_is)
    (case a__law_can_still => k_is)
    (case l__law_can_still => k_is)
    (case c__law_can_still => k_is)
    (case k__law_can_still => k_is)
    (case a__law_stands_so => k_is)
    (case l__law_stands_so => k_is)
    (case c__law_stands_so => k_is)
    (case k__law_stands_so => k_is)
    (case a_law => k_is)
    (case l_law => k_is)
    (case c_law => k_is)
    (case k_law => k_is)
    (case a_Oven___init__ => k_is)
    (case i_Oven___init__ => k_is)
    (case l_Oven___init__ => k_is)
    (case c_Oven___init__ => k_is)
    (case k_Oven___init__ => k_is)
    (case a_Oven_places_within => k_is)
    (case i_Oven_places_within => k_is)
    (case l_Oven_places_within => k_is)
    (case c_Oven_places_within => k_is)
    (case k_Oven_places_within => k_is)
    (case a_Oven_take => k_is)
    (case i_Oven_take => k_is)
    (case l_Oven_take => k_is)
    (case c_Oven_take => k_is)
    (case k_Oven_take => k_is)
    (case a_Oven_can_still => k_is)
    (case i_Oven_can_still => k_is)
    (case l_Oven_can_still => k_is)
    (case c_Oven_can_still => k_is)
    (case k_Oven_can_still => k_is)
    (case a_Oven_tick => k_is)
    (case i_Oven_tick => k_is)
    (case l_Oven_tick => k_is)
    (case c_Oven_tick => k_is)
    (case k_Oven_tick => k_is)
    (case a_Oven_wait => k_is)
    (case i_Oven_wait => k_is)
    (case l_Oven_wait => k_is)
    (case c_Oven_wait => k_is)
    (case k_Oven_wait => k_is)
    (case a_Oven_within => k_is)
    (case i_Oven_within => k_is)
    (case l_Oven_within => k_is)
    (case c_Oven_within => k_is)
    (case k_Oven_within => k_is)
    (case a_Oven___len__ => k_is)
    (case i_Oven___len__ => k_is)
    (case l_Oven___len__ => k_is)
    (case c_Oven___len__ => k_is)
    (case k_Oven___len__ => k_is)
    (case a_Oven_out => k_is)
    (case i_Oven_out => k_is)
    (case l_Oven_out => k_is)
    (case c_Oven_out => k_is)
    (case k_Oven_out => k_is)
    (case a_Oven_back => k_is)
    (case i_Oven_back => k_is)
    (case l_Oven_back => k_is)
    (case c_Oven_back => k_is)
    (case k_Oven_back => k_is)
    (case a_Oven___eq__ => k_is)
    (case i_Oven___eq__ => k_is)
    (case l_Oven___eq__ => k_is)
    (case c_Oven___eq__ => k_is)
    (case k_Oven___eq__ => k_is)
    (case a_Raw___init__ => k_is)
    (case i_Raw___init__ => k_is)
    (case l_Raw___init__ => k_is)
    (case c_Raw___init__ => k_is)
    (case k_Raw___init__ => k_is)
    (case o_pg => k_is)
    (case o_hd => k_is)
    (case o_po => k_is)
    (case o_sa => k_is)
    (case o_mk => k_is)
    (case o_kc => k_is)
    (case o_nB => k_is)
    (case o_nS => k_is)
    (case z_ha => k_is)
    (case z_hn => k_is)
    (case z_ht => k_is)
    (case z_hm => k_is)
    (case z_ko => first | rfl | k_is)
    (case z_kt => first | rfl | k_is)
    (case z_no => k_is)
    (case z_nt => k_is)
    (case e_x_CN => k_exc)
    (case e_k_CN => k_is)
    (case e_b_CN => k_is)
    (case e_t_CN => k_is)
    (case e_x_cT => k_exc)
    (case e_k_cT => k_is)
    (case e_b_cT => k_is)
    (case e_t_cT => k_is)
    (case e_x_cE => k_exc)
    (case e_k_cE => k_is)
    (case e_b_cE => k_is)
    (case e_t_cE => k_is)
    (case e_x_cL => k_exc)
    (case e_k_cL => k_is)
    (case e_b_cL => k_is)
    (case e_t_cL => k_is)
    (case te_N => first | rfl | k_is)
    (case x_cl_cT => first | rfl | k_is)
    (case x_ga_cT => first | rfl | k_is)
    (case x_gg_cT => first | rfl | k_is)
    (case x_ex_cT => first | rfl | k_is)
    (case x_hd_cT => first | rfl | k_is)
    (case x_ca_cT => first | rfl | k_is)
    (case x_cm_cT => first | rfl | k_is)
    (case x_no_cT => first | rfl | k_is)
    (case x_te_cT => first | rfl | k_is)
    (case x_k0_cT => first | rfl | k_is)
    (case x_k1_cT => first | rfl | k_is)
    (case x_k2_cT => first | rfl | k_is)
    (case x_k3_cT => first | rfl | k_is)
    (case x_k4_cT => first | rfl | k_is)
    (case x_cl_cE => first | rfl | k_is)
    (case x_ga_cE => first | rfl | k_is)
    (case x_gg_cE => first | rfl | k_is)
    (case x_ex_cE => first | rfl | k_is)
    (case x_hd_cE => first | rfl | k_is)
    (case x_ca_cE => first | rfl | k_is)
    (case x_cm_cE => first | rfl | k_is)
    (case x_no_cE => first | rfl | k_is)
    (case x_te_cE => first | rfl | k_is)
    (case x_k0_cE => first | rfl | k_is)
    (case x_k1_cE => first | rfl | k_is)
    (case x_k2_cE => first | rfl | k_is)
    (case x_k3_cE => first | rfl | k_is)
    (case x_k4_cE => first | rfl | k_is)
    (case x_cl_cL => first | rfl | k_is)
    (case x_ga_cL => first | rfl | k_is)
    (case x_gg_cL => first | rfl | k_is)
    (case x_ex_cL => first | rfl | k_is)
    (case x_hd_cL => first | rfl | k_is)
    (case x_ca_cL => first | rfl | k_is)
    (case x_cm_cL => first | rfl | k_is)
    (case x_no_cL => first | rfl | k_is)
    (case x_te_cL => first | rfl | k_is)
    (case x_k0_cL => first | rfl | k_is)
    (case x_k1_cL => first | rfl | k_is)
    (case x_k2_cL => first | rfl | k_is)
    (case x_k3_cL => first | rfl | k_is)
    (case x_k4_cL => first | rfl | k_is)
    (case x_cl_cR => first | rfl | k_is)
    (case x_ga_cR => first | rfl | k_is)
    (case x_gg_cR => first | rfl | k_is)
    (case x_ex_cR => first | rfl | k_is)
    (case x_hd_cR => first | rfl | k_is)
    (case x_ca_cR => first | rfl | k_is)
    (case x_cm_cR => first | rfl | k_is)
    (case x_no_cR => first | rfl | k_is)
    (case x_te_cR => first | rfl | k_is)
    (case x_k0_cR => first | rfl | k_is)
    (case x_k1_cR => first | rfl | k_is)
    (case x_k2_cR => first | rfl | k_is)
    (case x_k3_cR => first | rfl | k_is)
    (case x_k4_cR => first | rfl | k_is)
    (case r_L => first | rfl | k_is)
    (case r_sa => first | rfl | k_is)
    (case r_ty => first | rfl | k_is)
    (case r_kC => first | rfl | k_is)
    (case r_s0 => first | rfl | k_is)
    (case r_r0 => first | rfl | k_is)
    (case r_v0 => first | rfl | k_is)
    (case r_te => first | rfl | k_is)
    (case r_ki => first | rfl | k_is)
    (case b_all => k_is)
    (case b_any => k_is)
    (case b_bool => k_is)
    (case b_enumerate => k_is)
    (case b_int => k_is)
    (case b_isinstance => k_is)
    (case b_len => k_is)
    (case b_list => k_is)
    (case b_max => k_is)
    (case b_min => k_is)
    (case b_range => k_is)
    (case b_reversed => k_is)
    (case b_sorted => k_is)
    (case b_str => k_is)
    (case b_tuple => k_is)
    (case b_zip => k_is)
    (case g_LAST => k_is)
    (case g_LEAST => k_is)
    (case g_LETTERS => k_is)
    (case g_LOAVES => k_is)
    (case g_MOST => k_is)
