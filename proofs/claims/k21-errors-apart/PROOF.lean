import PyProof.Rows.All
import Wide.All
import OpenK.AllK
import Wide.FinOn
import PyProof.EqAt
import PyProof.EqKinds
import PyProof.TupleCall
import HandS.ForMost
import HandS.ForExc
import HandS.Wide
import HandS.TupAny
import HandS.Conv
import HandS.IsInst
import HandS.Walk
import HandS.Rev
import HandS.RevRange
import HandS.Lambda
import HandS.ExcCtx
import HandS.ExcValue
import HandS.Strs
import PyProof.Draws
import HandS.HotCalls
import HandS.ExcIs
import HandS.EndTab
import HandS.Deep
import PyProof.SumWalk
import PySem.Challenge.RW_drillgrids_k21_errors_apart
import PyProof.Rows.TupDisplay
import HandS.TupLen
import HandS.Style
import PyProof.StrLawsIn
import KE.GoesMore
import PyProof.EnumMake
import HandS.Replace
import PyProof.StrLawsFirst
import KE.SortData
import KE.DataMinMax
import OpenK.KOps
import KE.KNestM
import KE.KLam
set_option Elab.async false
set_option linter.all false
set_option maxRecDepth 100000
set_option maxHeartbeats 2000000
namespace G
open PySem PySem.Spec PyProof.Rows L2

/-! ### data -/
inductive Dat where
  | non : Dat
  | bl (b : Bool) : Dat
  | int (i : Int) : Dat
  | str (l : List Nat) : Dat
  | tup (xs : List Dat) : Dat
  | lst (xs : List Dat) : Dat
  | dic (kvs : List (List Key × V)) : Dat
  | scr (ns : List Int) : Dat
  | exc (C : Addr) : Dat

inductive Res where
  | ok (d : Dat) : Res
  | err (c : Value) : Res

/-- an exception of the class at C, kept as a value -/
abbrev ExT (C a : Addr) : HO := .ext fun h => ∃ (oe : Obj) (vs : Array Value), h.get? a = some oe ∧ Zc (.ref C) none oe ∧ oe.data = .fields vs
abbrev mkS (l : List Nat) : Str := ⟨l.toArray⟩
mutual
inductive Rp (K : PySem.W.Frag) (H : Hp) : V → Dat → Prop
  | non : Rp K H .non .non
  | bl (b : Bool) : Rp K H (.bl b) (.bl b)
  | int (i : Int) : Rp K H (.int i) (.int i)
  | str (l : List Nat) : Rp K H (.str ⟨l.toArray⟩) (.str l)
  | tup {a : Addr} {xs : List V} {ds : List Dat} : H a = some (.tup xs) → RpA K H xs ds → Rp K H (.ref a) (.tup ds)
  | lst {a : Addr} {xs : List V} {ds : List Dat} : H a = some (.lst xs) → RpA K H xs ds → Rp K H (.ref a) (.lst ds)
  | scr {a : Addr} {ns : List Int} : SqL K H a (ns.map V.int) → Rp K H (.ref a) (.scr ns)
  | dic {a : Addr} {kvs : List (List Key × V)} {od : Obj} : H a = some (.frz od (.dT kvs)) → Rp K H (.ref a) (.dic kvs)
  | exc {a C : Addr} : H a = some (ExT C a) → Rp K H (.ref a) (.exc C)
inductive RpA (K : PySem.W.Frag) (H : Hp) : List V → List Dat → Prop
  | nil : RpA K H [] []
  | cons {v : V} {vs : List V} {d : Dat} {ds : List Dat} : Rp K H v d → RpA K H vs ds → RpA K H (v :: vs) (d :: ds)
end
theorem sqt_mono {K : PySem.W.Frag} {H H' : Hp} {a : Addr} {xs : List V} (e : Same H H') (h : SqT K H a xs) : SqT K H' a xs := by
  rcases h with (h | ⟨o, h⟩) | h
  · exact .inl (.inl (e _ _ h))
  · exact .inl (.inr ⟨o, e _ _ h⟩)
  · exact .inr h
mutual
theorem Rp.mono {K : PySem.W.Frag} {H H' : Hp} (e : Same H H') : ∀ {v : V} {d : Dat}, Rp K H v d → Rp K H' v d
  | _, _, .non => .non
  | _, _, .bl b => .bl b
  | _, _, .int i => .int i
  | _, _, .str l => .str l
  | _, _, .tup h a => .tup (e _ _ h) (RpA.mono e a)
  | _, _, .lst h a => .lst (e _ _ h) (RpA.mono e a)
  | _, _, .scr h => .scr (e.seq h)
  | _, _, .dic h => .dic (e _ _ h)
  | _, _, .exc h => .exc (e _ _ h)
theorem RpA.mono {K : PySem.W.Frag} {H H' : Hp} (e : Same H H') : ∀ {vs : List V} {ds : List Dat}, RpA K H vs ds → RpA K H' vs ds
  | _, _, .nil => .nil
  | _, _, .cons h a => .cons (Rp.mono e h) (RpA.mono e a)
end
/-- all but the tables of code objects stay -/
abbrev Sm : Hp → Hp → Prop := LamX.ExtN
theorem Sm.of {H H' : Hp} (e : Same H H') : Sm H H' := fun b o h _ => e b o h
theorem sqt_monoN {K : PySem.W.Frag} {H H' : Hp} {a : Addr} {xs : List V} (e : Sm H H') (h : SqT K H a xs) : SqT K H' a xs := by
  rcases h with (h | ⟨o, h⟩) | h
  · exact .inl (.inl (e _ _ h fun _ z => by cases z))
  · exact .inl (.inr ⟨o, e _ _ h fun _ z => by cases z⟩)
  · exact .inr h
theorem sql_monoN {K : PySem.W.Frag} {H H' : Hp} {a : Addr} {xs : List V} (e : Sm H H') (h : SqL K H a xs) : SqL K H' a xs := by
  rcases h with (h | ⟨o, h⟩) | h
  · exact .inl (.inl (e _ _ h fun _ z => by cases z))
  · exact .inl (.inr ⟨o, e _ _ h fun _ z => by cases z⟩)
  · exact .inr h
mutual
theorem Rp.monoN {K : PySem.W.Frag} {H H' : Hp} (e : Sm H H') : ∀ {v : V} {d : Dat}, Rp K H v d → Rp K H' v d
  | _, _, .non => .non
  | _, _, .bl b => .bl b
  | _, _, .int i => .int i
  | _, _, .str l => .str l
  | _, _, .tup h a => .tup (e _ _ h fun _ z => by cases z) (RpA.monoN e a)
  | _, _, .lst h a => .lst (e _ _ h fun _ z => by cases z) (RpA.monoN e a)
  | _, _, .scr h => .scr (sql_monoN e h)
  | _, _, .dic h => .dic (e _ _ h fun _ z => by cases z)
  | _, _, .exc h => .exc (e _ _ h fun _ z => by cases z)
theorem RpA.monoN {K : PySem.W.Frag} {H H' : Hp} (e : Sm H H') : ∀ {vs : List V} {ds : List Dat}, RpA K H vs ds → RpA K H' vs ds
  | _, _, .nil => .nil
  | _, _, .cons h a => .cons (Rp.monoN e h) (RpA.monoN e a)
end
theorem RpA.length {K : PySem.W.Frag} {H : Hp} : ∀ {vs : List V} {ds : List Dat}, RpA K H vs ds → vs.length = ds.length
  | _, _, .nil => rfl
  | _, _, .cons _ a => by rw [List.length_cons, List.length_cons, RpA.length a]
theorem RpA.get {K : PySem.W.Frag} {H : Hp} : ∀ {vs : List V} {ds : List Dat} {i : Nat} {d : Dat}, RpA K H vs ds → ds[i]? = some d → ∃ v, vs[i]? = some v ∧ Rp K H v d
  | _, _, _, _, .nil, e => by simp at e
  | _, _, 0, _, .cons h _, e => by
    have e' := Option.some.inj e
    subst e'
    exact ⟨_, rfl, h⟩
  | _, _, i + 1, d, .cons _ a, e => RpA.get (i := i) (d := d) a e
theorem RpA.getV {K : PySem.W.Frag} {H : Hp} : ∀ {vs : List V} {ds : List Dat} {i : Nat} {v : V}, RpA K H vs ds → vs[i]? = some v → ∃ d, ds[i]? = some d ∧ Rp K H v d
  | _, _, _, _, .nil, e => by simp at e
  | _, _, 0, _, .cons h _, e => by
    have e' := Option.some.inj e
    subst e'
    exact ⟨_, rfl, h⟩
  | _, _, i + 1, d, .cons _ a, e => RpA.getV (i := i) (v := d) a e
theorem RpA.append {K : PySem.W.Frag} {H : Hp} : ∀ {vs ws : List V} {ds es : List Dat}, RpA K H vs ds → RpA K H ws es → RpA K H (vs ++ ws) (ds ++ es)
  | _, _, _, _, .nil, b => b
  | _, _, _, _, .cons h a, b => .cons h (RpA.append a b)
theorem RpA.take {K : PySem.W.Frag} {H : Hp} : ∀ {vs : List V} {ds : List Dat} (n : Nat), RpA K H vs ds → RpA K H (vs.take n) (ds.take n)
  | _, _, 0, _ => .nil
  | _, _, _ + 1, .nil => .nil
  | _, _, n + 1, .cons h a => .cons h (RpA.take n a)
theorem RpA.drop {K : PySem.W.Frag} {H : Hp} : ∀ {vs : List V} {ds : List Dat} (n : Nat), RpA K H vs ds → RpA K H (vs.drop n) (ds.drop n)
  | _, _, 0, a => a
  | _, _, _ + 1, .nil => .nil
  | _, _, n + 1, .cons _ a => RpA.drop n a

/-! ### masks -/
def mask (B : Addr → Bool) (H : Hp) : Hp := fun a => if B a = true then none else H a
theorem mask_out {B : Addr → Bool} {H : Hp} {a : Addr} (h : B a = false) : mask B H a = H a := by
  unfold mask
  rw [h, if_neg Bool.false_ne_true]
theorem mask_in {B : Addr → Bool} {H : Hp} {a : Addr} (h : B a = true) : mask B H a = none := by
  unfold mask
  rw [if_pos h]
theorem mask_some {B : Addr → Bool} {H : Hp} {a : Addr} {o : HO} (h : mask B H a = some o) : B a = false ∧ H a = some o := by
  cases e : B a with
  | true =>
    rw [mask_in e] at h
    cases h
  | false =>
    rw [mask_out e] at h
    exact ⟨rfl, h⟩
theorem mask_sub (B : Addr → Bool) (H : Hp) : Same (mask B H) H := fun _ _ h => (mask_some h).2
theorem mask_same {B : Addr → Bool} {H H' : Hp} (e : Same H H') : Same (mask B H) (mask B H') := fun b o h => by
  obtain ⟨h1, h2⟩ := mask_some h
  rw [mask_out h1]
  exact e _ _ h2
theorem mask_le {B B' : Addr → Bool} {H : Hp} (h : ∀ a, B a = true → B' a = true) : Same (mask B' H) (mask B H) := fun b o e => by
  obtain ⟨h1, h2⟩ := mask_some e
  rw [mask_out]
  · exact h2
  · cases q : B b with
    | true =>
      rw [h b q] at h1
      cases h1
    | false => rfl
/-- what is owned is there, and no tuple -/
def Bad (o : Option HO) : Prop := o = none ∨ ∃ xs, o = some (.tup xs)
def Cov (B : Addr → Bool) (H : Hp) : Prop := ∀ a, B a = true → ¬ Bad (H a)
theorem Cov.same {B : Addr → Bool} {H H' : Hp} (c : Cov B H) (e : Same H H') : Cov B H' := fun a h n => by
  cases q : H a with
  | none => exact c a h (.inl q)
  | some o =>
    rw [e _ _ q] at n
    rcases n with n | ⟨xs, n⟩
    · cases n
    · exact c a h (.inr ⟨xs, by rw [q]; exact n⟩)
theorem Cov.new {B : Addr → Bool} {H : Hp} {p : Addr} (c : Cov B H) (h : H p = none) : B p = false := by
  cases q : B p with
  | true => exact absurd (Or.inl h) (c p q)
  | false => rfl
theorem Cov.tup {B : Addr → Bool} {H : Hp} {p : Addr} {xs : List V} (c : Cov B H) (h : H p = some (.tup xs)) : B p = false := by
  cases q : B p with
  | true => exact absurd (Or.inr ⟨xs, h⟩) (c p q)
  | false => rfl
theorem same_upd {H : Hp} {p : Addr} {o : HO} (h : H p = none) : Same H (upd H p o) := fun b x e => by
  rw [upd_ne (ne_of_none e h)]
  exact e

theorem mask_sm {B : Addr → Bool} {H H' : Hp} (e : Sm H H') : Sm (mask B H) (mask B H') := fun b o h n => by
  obtain ⟨h1, h2⟩ := mask_some h
  rw [mask_out h1]
  exact e _ _ h2 n

/-! ### slots -/
inductive Sl where
  | un : Sl
  | dt (d : Dat) : Sl
  | rf (a : Addr) : Sl
  | ml (a : Addr) (ds : List Dat) : Sl
  | md (a : Addr) (kvs : List (List Key × V)) : Sl
  | di (a : Addr) : Sl
  | mg (a : Addr) (o : List V → HO) (ds : List Dat) : Sl
def Sl.own : Sl → Bool
  | .ml _ _ => true
  | .md _ _ => true
  | .di _ => true
  | .mg _ _ _ => true
  | _ => false
def SlOk (K : PySem.W.Frag) (B : Addr → Bool) (H : Hp) : Sl → Option V → Prop
  | .un, _ => True
  | .dt d, some v => Rp K (mask B H) v d
  | .rf a, some v => v = .ref a
  | .ml a ds, some v => v = .ref a ∧ B a = true ∧ ∃ vs, H a = some (.lst vs) ∧ RpA K (mask B H) vs ds
  | .md a kvs, some v => v = .ref a ∧ B a = true ∧ H a = some (.dT kvs)
  | .di a, some v => v = .ref a ∧ B a = true ∧ ∃ c n, H a = some (.lst [.int c, .int n])
  | .mg a o ds, some v => v = .ref a ∧ B a = true ∧ ∃ vs, H a = some (o vs) ∧ (∀ ps, o vs ≠ .tbl ps) ∧ RpA K (mask B H) vs ds
  | _, none => False
theorem SlOk.same {K : PySem.W.Frag} {B : Addr → Bool} {H H' : Hp} (e : Same H H') : ∀ {s : Sl} {o : Option V}, SlOk K B H s o → SlOk K B H' s o
  | .un, _, _ => True.intro
  | .dt d, some v, h => Rp.mono (mask_same e) h
  | .rf a, some v, h => h
  | .ml a ds, some v, ⟨h1, h2, vs, h3, h4⟩ => ⟨h1, h2, vs, e _ _ h3, RpA.mono (mask_same e) h4⟩
  | .md a kvs, some v, ⟨h1, h2, h3⟩ => ⟨h1, h2, e _ _ h3⟩
  | .di a, some v, ⟨h1, h2, c, n, h3⟩ => ⟨h1, h2, c, n, e _ _ h3⟩
  | .mg a o ds, some v, ⟨h1, h2, vs, h3, h4, h5⟩ => ⟨h1, h2, vs, e _ _ h3, h4, RpA.mono (mask_same e) h5⟩
  | .dt _, none, h => h.elim
  | .rf _, none, h => h.elim
  | .ml _ _, none, h => h.elim
  | .md _ _, none, h => h.elim
  | .di _, none, h => h.elim
  | .mg _ _ _, none, h => h.elim

structure EnvR (K : PySem.W.Frag) (B : Addr → Bool) (H : Hp) (σ : L2.St) (ρ : List Sl) : Prop where
  len : σ.length = ρ.length
  at_ : ∀ (i : Nat) (s : Sl), ρ[i]? = some s → ∃ o, σ[i]? = some o ∧ SlOk K B H s o
  sep : ∀ (i j : Nat) (si sj : Sl) (v : V), i ≠ j → ρ[i]? = some si → ρ[j]? = some sj → si.own = true → sj.own = true → σ[i]? = some (some v) → σ[j]? ≠ some (some v)
section
variable {K : PySem.W.Frag} {B : Addr → Bool} {H H' : Hp} {σ : L2.St} {ρ : List Sl}
theorem EnvR.same (e : EnvR K B H σ ρ) (s : Same H H') : EnvR K B H' σ ρ :=
  ⟨e.len, fun i x h => let ⟨o, h1, h2⟩ := e.at_ i x h; ⟨o, h1, h2.same s⟩, e.sep⟩
theorem EnvR.dt (e : EnvR K B H σ ρ) {i : Nat} {d : Dat} (h : ρ[i]? = some (.dt d)) : ∃ v, σ[i]? = some (some v) ∧ Rp K (mask B H) v d := by
  obtain ⟨o, h1, h2⟩ := e.at_ i _ h
  cases o with
  | none => exact h2.elim
  | some v => exact ⟨v, h1, h2⟩
theorem EnvR.rf (e : EnvR K B H σ ρ) {i : Nat} {a : Addr} (h : ρ[i]? = some (.rf a)) : σ[i]? = some (some (.ref a)) := by
  obtain ⟨o, h1, h2⟩ := e.at_ i _ h
  cases o with
  | none => exact h2.elim
  | some v =>
    have h2 : v = .ref a := h2
    rw [h2] at h1
    exact h1
/-- a slot gets a value that is not owned -/
theorem EnvR.setN (e : EnvR K B H σ ρ) (i : Nat) {v : V} {s : Sl} (hs : s.own = false) (h : SlOk K B H s (some v)) : EnvR K B H (σ.set i (some v)) (ρ.set i s) := by
  refine ⟨by rw [List.length_set, List.length_set, e.len], fun j x hj => ?_, fun j k sj sk w hjk hj hk oj ok vj => ?_⟩
  · by_cases hij : i = j
    · subst hij
      by_cases hl : i < ρ.length
      · rw [List.getElem?_set_self hl] at hj
        have hj := Option.some.inj hj
        subst hj
        exact ⟨some v, by rw [List.getElem?_set_self (by rw [e.len]; exact hl)], h⟩
      · rw [List.getElem?_eq_none (by rw [List.length_set]; omega)] at hj
        cases hj
    · rw [List.getElem?_set_ne hij] at hj
      obtain ⟨o, h1, h2⟩ := e.at_ j x hj
      exact ⟨o, by rw [List.getElem?_set_ne hij]; exact h1, h2⟩
  · have ne : ∀ (j : Nat) (sj : Sl), (ρ.set i s)[j]? = some sj → sj.own = true → i ≠ j := fun j sj hj oj z => by
      subst z
      by_cases hl : i < ρ.length
      · rw [List.getElem?_set_self hl] at hj
        have hj := Option.some.inj hj
        subst hj
        rw [hs] at oj
        cases oj
      · rw [List.getElem?_eq_none (by rw [List.length_set]; omega)] at hj
        cases hj
    have nj := ne j sj hj oj
    have nk := ne k sk hk ok
    rw [List.getElem?_set_ne nj] at hj vj
    rw [List.getElem?_set_ne nk] at hk ⊢
    exact e.sep j k sj sk w hjk hj hk oj ok vj
theorem EnvR.setD (e : EnvR K B H σ ρ) (i : Nat) {v : V} {d : Dat} (h : Rp K (mask B H) v d) : EnvR K B H (σ.set i (some v)) (ρ.set i (.dt d)) := e.setN i rfl h
end
/-- ρ' knows less -/
def Wk : List Sl → List Sl → Prop
  | [], [] => True
  | a :: r, b :: r' => (b = .un ∨ a = b) ∧ Wk r r'
  | _, _ => False
theorem Wk.refl : ∀ ρ : List Sl, Wk ρ ρ
  | [] => True.intro
  | _ :: r => ⟨.inr rfl, Wk.refl r⟩
theorem Wk.len : ∀ {ρ ρ' : List Sl}, Wk ρ ρ' → ρ.length = ρ'.length
  | [], [], _ => rfl
  | _ :: r, _ :: r', h => by rw [List.length_cons, List.length_cons, Wk.len h.2]
theorem Wk.get : ∀ {ρ ρ' : List Sl} {i : Nat} {s : Sl}, Wk ρ ρ' → ρ'[i]? = some s → s = .un ∨ ρ[i]? = some s
  | [], [], _, _, _, e => by simp at e
  | a :: r, b :: r', 0, s, h, e => by
    have e : b = s := Option.some.inj e
    subst e
    rcases h.1 with h | h
    · exact .inl h
    · exact .inr (by rw [h]; rfl)
  | a :: r, b :: r', i + 1, s, h, e => Wk.get (i := i) h.2 e
theorem EnvR.weak {K : PySem.W.Frag} {B : Addr → Bool} {H : Hp} {σ : L2.St} {ρ ρ' : List Sl} (e : EnvR K B H σ ρ) (w : Wk ρ ρ') : EnvR K B H σ ρ' := by
  refine ⟨e.len.trans w.len, fun i s h => ?_, fun i j si sj v hij hi hj oi oj vi => ?_⟩
  · rcases w.get h with h1 | h1
    · subst h1
      have hl : i < σ.length := by
        rw [e.len, w.len]
        exact (List.getElem?_eq_some_iff.mp h).1
      exact ⟨σ[i], List.getElem?_eq_getElem hl, True.intro⟩
    · exact e.at_ i s h1
  · rcases w.get hi with h1 | h1
    · subst h1
      cases oi
    · rcases w.get hj with h2 | h2
      · subst h2
        cases oj
      · exact e.sep i j si sj v hij h1 h2 oi oj vi
def wipeρ (ρ : List Sl) : List Nat → List Sl
  | [] => ρ
  | v :: vs => (wipeρ ρ vs).set v .un
theorem EnvR.unset {K : PySem.W.Frag} {B : Addr → Bool} {H : Hp} {σ : L2.St} {ρ : List Sl} (e : EnvR K B H σ ρ) (i : Nat) (o : Option V) : EnvR K B H (σ.set i o) (ρ.set i .un) := by
  refine ⟨by rw [List.length_set, List.length_set, e.len], fun j x hj => ?_, fun j k sj sk w hjk hj hk oj ok vj => ?_⟩
  · by_cases hij : i = j
    · subst hij
      by_cases hl : i < ρ.length
      · rw [List.getElem?_set_self hl] at hj
        have hj := Option.some.inj hj
        subst hj
        exact ⟨o, by rw [List.getElem?_set_self (by rw [e.len]; exact hl)], True.intro⟩
      · rw [List.getElem?_eq_none (by rw [List.length_set]; omega)] at hj
        cases hj
    · rw [List.getElem?_set_ne hij] at hj
      obtain ⟨o, h1, h2⟩ := e.at_ j x hj
      exact ⟨o, by rw [List.getElem?_set_ne hij]; exact h1, h2⟩
  · have ne : ∀ (j : Nat) (sj : Sl), (ρ.set i .un)[j]? = some sj → sj.own = true → i ≠ j := fun j sj hj oj z => by
      subst z
      by_cases hl : i < ρ.length
      · rw [List.getElem?_set_self hl] at hj
        have hj := Option.some.inj hj
        subst hj
        cases oj
      · rw [List.getElem?_eq_none (by rw [List.length_set]; omega)] at hj
        cases hj
    have nj := ne j sj hj oj
    have nk := ne k sk hk ok
    rw [List.getElem?_set_ne nj] at hj vj
    rw [List.getElem?_set_ne nk] at hk ⊢
    exact e.sep j k sj sk w hjk hj hk oj ok vj
theorem EnvR.wipe {K : PySem.W.Frag} {B : Addr → Bool} {H : Hp} {σ : L2.St} {ρ : List Sl} (e : EnvR K B H σ ρ) : ∀ vs : List Nat, EnvR K B H (L2.wipe σ vs) (wipeρ ρ vs)
  | [] => e
  | v :: vs => (EnvR.wipe e vs).unset v none
end G

set_option Elab.async false
set_option linter.all false
set_option maxRecDepth 100000
set_option maxHeartbeats 2000000
namespace G
open PySem PySem.Spec PyProof.Rows L2

/-! ### expressions that change nothing: D -/
def Post (K : PySem.W.Frag) (E : XK) (B : Addr → Bool) (H : Hp) (Q : VK) : Res → Prop
  | .ok d => ∀ v H', Same H H' → Rp K (mask B H') v d → Q v H'
  | .err c => ∀ H', Same H H' → E c none H'
def tD (K : PySem.W.Frag) (E : XK) (ρ : List Sl) (r : Res) : TE := fun σ H Q => ∃ B, Cov B H ∧ EnvR K B H σ ρ ∧ Post K E B H Q r
abbrev D (X : Cx) (E : XK) (e : Expr) (ρ : List Sl) (r : Res) : Prop := PE X e (tD X.K E ρ r)
def PostA (K : PySem.W.Frag) (E : XK) (B : Addr → Bool) (H : Hp) (Q : List V → Hp → Prop) : Except Value (List Dat) → Prop
  | .ok ds => ∀ vs H', Same H H' → RpA K (mask B H') vs ds → Q vs H'
  | .error c => ∀ H', Same H H' → E c none H'
def tDA (K : PySem.W.Frag) (E : XK) (ρ : List Sl) (r : Except Value (List Dat)) : TA := fun σ H Q => ∃ B, Cov B H ∧ EnvR K B H σ ρ ∧ PostA K E B H Q r
abbrev DA (X : Cx) (E : XK) (es : List Expr) (ρ : List Sl) (r : Except Value (List Dat)) : Prop := PA X es (tDA X.K E ρ r)
def tDT (K : PySem.W.Frag) (ρ : List Sl) (b : Bool) : TT := fun σ H Q => ∃ B, Cov B H ∧ EnvR K B H σ ρ ∧ ∀ H', Same H H' → Q b H'
abbrev T (X : Cx) (e : Expr) (ρ : List Sl) (b : Bool) : Prop := PT X e (tDT X.K ρ b)
abbrev TW (X : Cx) (e : Expr) (ρ : List Sl) (b : Bool) : Prop := PW X e (tDT X.K ρ b)
theorem pe_imp {X : Cx} {e : Expr} {t t' : TE} (h : PE X e t) (k : ∀ σ H Q, t' σ H Q → t σ H Q) : PE X e t' := ⟨fun pins s σ H Q I q => h.run pins s σ H Q I (k σ H Q q)⟩
theorem pt_imp {X : Cx} {e : Expr} {t t' : TT} (h : PT X e t) (k : ∀ σ H Q, t' σ H Q → t σ H Q) : PT X e t' := ⟨fun pins s σ H Q I q => h.run pins s σ H Q I (k σ H Q q)⟩
theorem pw_imp {X : Cx} {e : Expr} {t t' : TT} (h : PW X e t) (k : ∀ σ H Q, t' σ H Q → t σ H Q) : PW X e t' := ⟨fun wh pins s σ H Q I q => h.run wh pins s σ H Q I (k σ H Q q)⟩
theorem pa_imp {X : Cx} {es : List Expr} {t t' : TA} (h : PA X es t) (k : ∀ σ H Q, t' σ H Q → t σ H Q) : PA X es t' := ⟨fun pos pins s σ H Q I q => h.run pos pins s σ H Q I (k σ H Q q)⟩
theorem pe_ex {X : Cx} {e : Expr} {ι : Type} {t : ι → TE} (h : ∀ i, PE X e (t i)) : PE X e (fun σ H Q => ∃ i, t i σ H Q) := ⟨fun pins s σ H Q I ⟨i, q⟩ => (h i).run pins s σ H Q I q⟩
theorem pt_ex {X : Cx} {e : Expr} {ι : Type} {t : ι → TT} (h : ∀ i, PT X e (t i)) : PT X e (fun σ H Q => ∃ i, t i σ H Q) := ⟨fun pins s σ H Q I ⟨i, q⟩ => (h i).run pins s σ H Q I q⟩
theorem pe_no {X : Cx} {e : Expr} : PE X e (fun _ _ _ => False) := ⟨fun _ _ _ _ _ _ q => q.elim⟩
theorem pt_no {X : Cx} {e : Expr} : PT X e (fun _ _ _ => False) := ⟨fun _ _ _ _ _ _ q => q.elim⟩
theorem pw_no {X : Cx} {e : Expr} : PW X e (fun _ _ _ => False) := ⟨fun _ _ _ _ _ _ _ q => q.elim⟩
theorem pa_no {X : Cx} {es : List Expr} : PA X es (fun _ _ _ => False) := ⟨fun _ _ _ _ _ _ _ q => q.elim⟩

section
variable {X : Cx} {E : XK} {ρ : List Sl}
theorem D.of {e : Expr} {t : TE} {d : Dat} (h : PE X e t) (k : ∀ B σ H Q, Cov B H → EnvR X.K B H σ ρ → (∀ v H', Same H H' → Rp X.K (mask B H') v d → Q v H') → t σ H Q) : D X E e ρ (.ok d) :=
  pe_imp h fun σ H Q ⟨B, c, en, p⟩ => k B σ H Q c en p
theorem D.ofR {e : Expr} {t : TE} {r : Res} (h : PE X e t) (k : ∀ B σ H Q, Cov B H → EnvR X.K B H σ ρ → Post X.K E B H Q r → t σ H Q) : D X E e ρ r :=
  pe_imp h fun σ H Q ⟨B, c, en, p⟩ => k B σ H Q c en p
theorem D.is {e : Expr} {d d' : Dat} (h : D X E e ρ (.ok d)) (q : d = d') : D X E e ρ (.ok d') := q ▸ h
theorem T.is {e : Expr} {b b' : Bool} (h : T X e ρ b) (q : b = b') : T X e ρ b' := q ▸ h
theorem TW.is {e : Expr} {b b' : Bool} (h : TW X e ρ b) (q : b = b') : TW X e ρ b' := q ▸ h
theorem D.weak {e : Expr} {r : Res} {ρ' : List Sl} (h : D X E e ρ' r) (w : Wk ρ ρ') : D X E e ρ r :=
  pe_imp h fun σ H Q ⟨B, c, en, p⟩ => ⟨B, c, en.weak w, p⟩
theorem dv (i : Nat) {x : Str} {pos : Pos} {d : Dat} (h : ρ[i]? = some (.dt d)) (hN : X.N[i]? = some x := by rfl) (hv : Vis X.env.scope x := by first | exact Or.inl rfl | exact Or.inr (Or.inl rfl) | exact Or.inr (Or.inr rfl))
    (hd : (x == ("__debug__" : Str)) = false := by decide) (hcd : (x == ("__classdict__" : Str)) = false := by decide) : D X E (.Name x pos) ρ (.ok d) :=
  D.of (pe_var hN hv hd hcd) fun B σ H Q c en q => by
    obtain ⟨v, h1, h2⟩ := en.dt h
    exact ⟨v, h1, q v H (Same.refl H) h2⟩
theorem d_int {i : Int} {j : Nat} {pos : Pos} : D X E (.Constant (.int i) j pos) ρ (.ok (.int i)) := D.of pe_int fun B σ H Q c en q => q _ H (Same.refl H) (.int i)
theorem d_bl {b : Bool} {j : Nat} {pos : Pos} : D X E (.Constant (.bool b) j pos) ρ (.ok (.bl b)) := D.of pe_bl fun B σ H Q c en q => q _ H (Same.refl H) (.bl b)
theorem d_non {j : Nat} {pos : Pos} : D X E (.Constant .none j pos) ρ (.ok .non) := D.of pe_non fun B σ H Q c en q => q _ H (Same.refl H) .non
theorem d_str {x : Str} {l : List Nat} {j : Nat} {pos : Pos} (h : x = mkS l) : D X E (.Constant (.str x) j pos) ρ (.ok (.str l)) :=
  D.of pe_str fun B σ H Q c en q => by
    rw [h]
    exact q _ H (Same.refl H) (.str l)
/-- a module's constant text -/
theorem d_gstr {x : Str} {y : Str} {t : Tok} {l : List Nat} {pos : Pos} (hm : X.mg x = some (.str y t)) (h : y = mkS l) (hg : Gl X x := by rfl) (hd : (x == ("__debug__" : Str)) = false := by decide) : D X E (.Name x pos) ρ (.ok (.str l)) :=
  D.of (pe_glob (v := .str y) hg hm ⟨t, rfl⟩ hd) fun B σ H Q c en q => by
    rw [h]
    exact q _ H (Same.refl H) (.str l)
theorem da_nil : DA X E [] ρ (.ok []) := pa_imp pa_nil fun σ H Q ⟨B, c, en, p⟩ => p [] H (Same.refl H) .nil
theorem da_cons {e : Expr} {es : List Expr} {d : Dat} {ds : List Dat} (h : D X E e ρ (.ok d)) (hr : DA X E es ρ (.ok ds)) (hs : starEach (e :: es) X.env = (false, eval e X.env) :: starEach es X.env := by rfl) : DA X E (e :: es) ρ (.ok (d :: ds)) :=
  pa_imp (pa_cons h hr hs) fun σ H Q ⟨B, c, en, p⟩ => ⟨B, c, en, fun v H1 s1 rv => ⟨B, c.same s1, en.same s1, fun vs H2 s2 rs => p (v :: vs) H2 (s1.trans s2) (.cons (rv.mono (mask_same s2)) rs)⟩⟩
theorem da_one {e : Expr} {d : Dat} (h : D X E e ρ (.ok d)) (hs : starEach [e] X.env = (false, eval e X.env) :: starEach [] X.env := by rfl) : DA X E [e] ρ (.ok [d]) := da_cons h da_nil hs
theorem da_err {e : Expr} {es : List Expr} {c : Value} (h : D X E e ρ (.err c)) (hs : starEach (e :: es) X.env = (false, eval e X.env) :: starEach es X.env := by rfl) : DA X E (e :: es) ρ (.error c) :=
  pa_imp (pa_cons h pa_no hs) fun σ H Q ⟨B, c, en, p⟩ => ⟨B, c, en, p⟩
theorem da_err2 {e : Expr} {es : List Expr} {d : Dat} {c : Value} (h : D X E e ρ (.ok d)) (hr : DA X E es ρ (.error c)) (hs : starEach (e :: es) X.env = (false, eval e X.env) :: starEach es X.env := by rfl) : DA X E (e :: es) ρ (.error c) :=
  pa_imp (pa_cons h hr hs) fun σ H Q ⟨B, c, en, p⟩ => ⟨B, c, en, fun v H1 s1 rv => ⟨B, c.same s1, en.same s1, fun H2 s2 => p H2 (s1.trans s2)⟩⟩

/-! ### operators on data -/
def Op2 (K : PySem.W.Frag) (r : R2) (x y z : Dat) : Prop := ∀ B H vx vy Q, Cov B H → Rp K (mask B H) vx x → Rp K (mask B H) vy y → (∀ v H', Same H H' → Rp K (mask B H') v z → Q v H') → r vx vy H Q
def Op1 (K : PySem.W.Frag) (r : V → Hp → VK → Prop) (x z : Dat) : Prop := ∀ B H vx Q, Cov B H → Rp K (mask B H) vx x → (∀ v H', Same H H' → Rp K (mask B H') v z → Q v H') → r vx H Q
def OpN (K : PySem.W.Frag) (r : List V → Hp → VK → Prop) (xs : List Dat) (z : Dat) : Prop := ∀ B H vs Q, Cov B H → RpA K (mask B H) vs xs → (∀ v H', Same H H' → Rp K (mask B H') v z → Q v H') → r vs H Q
theorem op_run {a b : Expr} {r : R2} {x y z : Dat} {σ : L2.St} {H : Hp} {Q : VK} (ho : Op2 X.K r x y z) (h : tD X.K E ρ (.ok z) σ H Q) : tOp r (tD X.K E ρ (.ok x)) (tD X.K E ρ (.ok y)) σ H Q := by
  obtain ⟨B, c, en, p⟩ := h
  exact ⟨B, c, en, fun vx H1 s1 rx => ⟨B, c.same s1, en.same s1, fun vy H2 s2 ry => ho B H2 vx vy Q ((c.same s1).same s2) (rx.mono (mask_same s2)) ry fun v H3 s3 rv => p v H3 ((s1.trans s2).trans s3) rv⟩⟩
theorem d_op {a b : Expr} {op : Operator} {r : R2} {x y z : Dat} {pos : Pos} (hr : OpR X (binaryOp op) r) (ho : Op2 X.K r x y z) (ha : D X E a ρ (.ok x)) (hb : D X E b ρ (.ok y)) : D X E (.BinOp a op b pos) ρ (.ok z) :=
  pe_imp (pe_op hr ha hb) fun σ H Q h => op_run (a := a) (b := b) ho h
theorem d_cmp {a b : Expr} {op : CmpOp} {r : R2} {x y z : Dat} {pos : Pos} (hr : OpR X (compareOp op) r) (ho : Op2 X.K r x y z) (ha : D X E a ρ (.ok x)) (hb : D X E b ρ (.ok y)) (hm : behindInMarks op b = false := by first | exact nomark _ | rfl) : D X E (.Compare a [op] [b] pos) ρ (.ok z) :=
  pe_imp (pe_cmpR hr ha hb hm) fun σ H Q h => op_run (a := a) (b := b) ho h
theorem d_ix {a b : Expr} {r : R2} {x y z : Dat} {pos : Pos} (hr : IxR X r) (ho : Op2 X.K r x y z) (ha : D X E a ρ (.ok x)) (hb : D X E b ρ (.ok y)) (hs : PlainIx b := by exact fun _ _ => rfl) : D X E (.Subscript a b pos) ρ (.ok z) :=
  pe_imp (pe_ix hr ha hb hs) fun σ H Q h => op_run (a := a) (b := b) ho h
theorem d_un {a : Expr} {op : UnaryOp} {r : V → Hp → VK → Prop} {x z : Dat} {pos : Pos} (hr : UnR X (unaryOp op) r) (ho : Op1 X.K r x z) (ha : D X E a ρ (.ok x)) : D X E (.UnaryOp op a pos) ρ (.ok z) :=
  D.of (pe_un hr ha) fun B σ H Q c en q => ⟨B, c, en, fun vx H1 s1 rx => ho B H1 vx Q (c.same s1) rx fun v H2 s2 rv => q v H2 (s1.trans s2) rv⟩
theorem d_callB {x : Str} {id : String} {r : List V → Hp → VK → Prop} {e : Expr} {es : List Expr} {ds : List Dat} {z : Dat} {p pos : Pos} (hc : CallR X (.builtin id) r) (ho : OpN X.K r ds z) (hm : X.mg x = none) (ha : DA X E (e :: es) ρ (.ok ds))
    (hv : bootBuiltins x = some (.builtin id) := by decide +kernel) (hg : Gl X x := by rfl) (hn : x ≠ "__name__" := by decide) (hdb : (x == ("__debug__" : Str)) = false := by decide) (he : starEach (e :: es) X.env = (false, eval e X.env) :: starEach es X.env := by rfl)
    (hpl : (backTo pos (starEach es X.env)).any (·.1) = false := by rfl) : D X E (.Call (.Name x p) (e :: es) [] pos) ρ (.ok z) :=
  D.of (pe_callB hc hg hm hv ha hn hdb he hpl) fun B σ H Q c en q => ⟨B, c, en, fun vs H1 s1 rs => ho B H1 vs Q (c.same s1) rs fun v H2 s2 rv => q v H2 (s1.trans s2) rv⟩
theorem d_callTy {x : Str} {id : String} {r : List V → Hp → VK → Prop} {e : Expr} {es : List Expr} {ds : List Dat} {z : Dat} {p pos : Pos} (hc : CallR X (.type id) r) (ho : OpN X.K r ds z) (hm : X.mg x = none) (ha : DA X E (e :: es) ρ (.ok ds))
    (hv : bootBuiltins x = some (.type id) := by decide +kernel) (hg : Gl X x := by rfl) (hn : x ≠ "__name__" := by decide) (hdb : (x == ("__debug__" : Str)) = false := by decide) (he : starEach (e :: es) X.env = (false, eval e X.env) :: starEach es X.env := by rfl)
    (hpl : (backTo pos (starEach es X.env)).any (·.1) = false := by rfl) : D X E (.Call (.Name x p) (e :: es) [] pos) ρ (.ok z) :=
  D.of (pe_callTy hc hg hm hv ha hn hdb he hpl) fun B σ H Q c en q => ⟨B, c, en, fun vs H1 s1 rs => ho B H1 vs Q (c.same s1) rs fun v H2 s2 rv => q v H2 (s1.trans s2) rv⟩

/-! ### displays, conditionals, and, or, not -/
theorem rp_new_tup {K : PySem.W.Frag} {B : Addr → Bool} {H : Hp} {p : Addr} {vs : List V} {ds : List Dat} (c : Cov B H) (np : H p = none) (r : RpA K (mask B H) vs ds) : Rp K (mask B (upd H p (.tup vs))) (.ref p) (.tup ds) := by
  refine .tup ?_ (r.mono (mask_same (same_upd np)))
  rw [mask_out (c.new np), upd_same]
theorem rp_new_lst {K : PySem.W.Frag} {B : Addr → Bool} {H : Hp} {p : Addr} {vs : List V} {ds : List Dat} (c : Cov B H) (np : H p = none) (r : RpA K (mask B H) vs ds) : Rp K (mask B (upd H p (.lst vs))) (.ref p) (.lst ds) := by
  refine .lst ?_ (r.mono (mask_same (same_upd np)))
  rw [mask_out (c.new np), upd_same]
theorem d_tup {es : List Expr} {ds : List Dat} {k : Nat} {pos : Pos} (h : DA X E es ρ (.ok ds)) (hl : ds.length ≤ 1000) : D X E (.Tuple es k pos) ρ (.ok (.tup ds)) :=
  D.of (pe_tup h) fun B σ H Q c en q => ⟨B, c, en, fun vs H1 s1 rs => ⟨by rw [rs.length]; exact Nat.le_of_lt (small1000 hl), fun p np => q _ _ (s1.trans (same_upd np)) (rp_new_tup (c.same s1) np rs)⟩⟩
theorem d_lst {es : List Expr} {ds : List Dat} {pos : Pos} (h : DA X E es ρ (.ok ds)) (hl : ds.length ≤ 1000) : D X E (.List es pos) ρ (.ok (.lst ds)) :=
  D.of (pe_lst h) fun B σ H Q c en q => ⟨B, c, en, fun vs H1 s1 rs => ⟨by rw [rs.length]; exact Nat.le_of_lt (small1000 hl), fun p np => q _ _ (s1.trans (same_upd np)) (rp_new_lst (c.same s1) np rs)⟩⟩
theorem rp_bl {K : PySem.W.Frag} {H : Hp} {v : V} {b : Bool} (h : Rp K H v (.bl b)) : v = .bl b := by cases h; rfl
theorem rp_int {K : PySem.W.Frag} {H : Hp} {v : V} {i : Int} (h : Rp K H v (.int i)) : v = .int i := by cases h; rfl
theorem rp_str {K : PySem.W.Frag} {H : Hp} {v : V} {l : List Nat} (h : Rp K H v (.str l)) : v = .str ⟨l.toArray⟩ := by cases h; rfl
theorem rp_non {K : PySem.W.Frag} {H : Hp} {v : V} (h : Rp K H v .non) : v = .non := by cases h; rfl
theorem d_and {a b : Expr} {rest : List Expr} {x y : Bool} {pos : Pos} (ha : D X E a ρ (.ok (.bl x))) (hb : x = true → D X E (.BoolOp .And (b :: rest) pos) ρ (.ok (.bl y))) : D X E (.BoolOp .And (a :: b :: rest) pos) ρ (.ok (.bl (x && y))) := by
  cases x with
  | true =>
    exact D.of (pe_and ha (hb rfl)) fun B σ H Q c en q => ⟨B, c, en, fun v H1 s1 r => ⟨true, rp_bl r, by refine iteT ?_; exact ⟨B, c.same s1, en.same s1, fun v H2 s2 rv => q v H2 (s1.trans s2) rv⟩⟩⟩
  | false =>
    exact D.of (pe_and ha pe_no) fun B σ H Q c en q => ⟨B, c, en, fun v H1 s1 r => ⟨false, rp_bl r, by refine iteF ?_; exact q _ H1 s1 (.bl false)⟩⟩
theorem d_or {a b : Expr} {rest : List Expr} {x y : Bool} {pos : Pos} (ha : D X E a ρ (.ok (.bl x))) (hb : x = false → D X E (.BoolOp .Or (b :: rest) pos) ρ (.ok (.bl y))) : D X E (.BoolOp .Or (a :: b :: rest) pos) ρ (.ok (.bl (x || y))) := by
  cases x with
  | true =>
    exact D.of (pe_or ha pe_no) fun B σ H Q c en q => ⟨B, c, en, fun v H1 s1 r => ⟨true, rp_bl r, by refine iteT ?_; exact q _ H1 s1 (.bl true)⟩⟩
  | false =>
    exact D.of (pe_or ha (hb rfl)) fun B σ H Q c en q => ⟨B, c, en, fun v H1 s1 r => ⟨false, rp_bl r, by refine iteF ?_; exact ⟨B, c.same s1, en.same s1, fun v H2 s2 rv => q v H2 (s1.trans s2) rv⟩⟩⟩
theorem d_one {op : BoolOp} {a : Expr} {r : Res} {pos : Pos} (h : D X E a ρ r) : D X E (.BoolOp op [a] pos) ρ r := pe_one h
theorem d_not {a : Expr} {x : Bool} {pos : Pos} (ha : D X E a ρ (.ok (.bl x))) : D X E (.UnaryOp .Not a pos) ρ (.ok (.bl (!x))) :=
  D.of (pe_not ha) fun B σ H Q c en q => ⟨B, c, en, fun v H1 s1 r => ⟨x, rp_bl r, q _ H1 s1 (.bl _)⟩⟩
theorem d_if {t a b : Expr} {x : Bool} {r : Res} {pos : Pos} (ht : T X t ρ x) (ha : x = true → D X E a ρ r) (hb : x = false → D X E b ρ r) : D X E (.IfExp t a b pos) ρ r := by
  cases x with
  | true =>
    refine D.ofR (pe_ifExp ht (ha rfl) pe_no) fun B σ H Q c en q => ⟨B, c, en, fun H1 s1 => ?_⟩
    refine iteT ?_
    refine ⟨B, c.same s1, en.same s1, ?_⟩
    cases r with
    | ok d => exact fun v H2 s2 rv => q v H2 (s1.trans s2) rv
    | err c => exact fun H2 s2 => q H2 (s1.trans s2)
  | false =>
    refine D.ofR (pe_ifExp ht pe_no (hb rfl)) fun B σ H Q c en q => ⟨B, c, en, fun H1 s1 => ?_⟩
    refine iteF ?_
    refine ⟨B, c.same s1, en.same s1, ?_⟩
    cases r with
    | ok d => exact fun v H2 s2 rv => q v H2 (s1.trans s2) rv
    | err c => exact fun H2 s2 => q H2 (s1.trans s2)

/-! ### tests -/
theorem t_val {e : Expr} {b : Bool} (h : D X E0 e ρ (.ok (.bl b))) (he : ∀ whole, isTrue e X.env whole = (do let v ← whole; standAt e.pos; holding [v] (truthy v)) := by intro _; rfl) : T X e ρ b :=
  pt_imp (pt_val h he) fun σ H Q ⟨B, c, en, q⟩ => ⟨B, c, en, fun v H1 s1 r => ⟨b, rp_bl r, q H1 s1⟩⟩
theorem t_not {e : Expr} {b : Bool} {pos : Pos} (h : T X e ρ b) : T X (.UnaryOp .Not e pos) ρ (!b) :=
  pt_imp (pt_not h) fun σ H Q ⟨B, c, en, q⟩ => ⟨B, c, en, fun H1 s1 => q H1 s1⟩
theorem w_and1 {a : Expr} {x : Bool} {pos : Pos} (h : T X a ρ x) : TW X (.BoolOp .And [a] pos) ρ x := pw_and1 h
theorem w_or1 {a : Expr} {x : Bool} {pos : Pos} (h : T X a ρ x) : TW X (.BoolOp .Or [a] pos) ρ x := pw_or1 h
theorem w_and {a b : Expr} {rest : List Expr} {x y : Bool} {pos : Pos} (h : T X a ρ x) (h2 : x = true → TW X (.BoolOp .And (b :: rest) pos) ρ y) : TW X (.BoolOp .And (a :: b :: rest) pos) ρ (x && y) := by
  cases x with
  | true =>
    refine pw_imp (pw_and h (h2 rfl)) fun σ H Q ⟨B, c, en, q⟩ => ⟨B, c, en, fun H1 s1 => ?_⟩
    refine iteT ?_
    exact ⟨B, c.same s1, en.same s1, fun H2 s2 => q H2 (s1.trans s2)⟩
  | false =>
    refine pw_imp (pw_and h pw_no) fun σ H Q ⟨B, c, en, q⟩ => ⟨B, c, en, fun H1 s1 => ?_⟩
    refine iteF ?_
    exact q H1 s1
theorem w_or {a b : Expr} {rest : List Expr} {x y : Bool} {pos : Pos} (h : T X a ρ x) (h2 : x = false → TW X (.BoolOp .Or (b :: rest) pos) ρ y) : TW X (.BoolOp .Or (a :: b :: rest) pos) ρ (x || y) := by
  cases x with
  | true =>
    refine pw_imp (pw_or h pw_no) fun σ H Q ⟨B, c, en, q⟩ => ⟨B, c, en, fun H1 s1 => ?_⟩
    refine iteT ?_
    exact q H1 s1
  | false =>
    refine pw_imp (pw_or h (h2 rfl)) fun σ H Q ⟨B, c, en, q⟩ => ⟨B, c, en, fun H1 s1 => ?_⟩
    refine iteF ?_
    exact ⟨B, c.same s1, en.same s1, fun H2 s2 => q H2 (s1.trans s2)⟩
theorem t_w {e : Expr} {b : Bool} (h : TW X e ρ b) : T X e ρ b := h.pt
/-- a < b < c: ints -/
theorem op2_I0 {K : PySem.W.Frag} {g : Int → Int → V} {i j : Int} {z : Dat} (h : ∀ H, Rp K H (g i j) z) : Op2 K (rI0 g) (.int i) (.int j) z := fun B H vx vy Q c rx ry q => ⟨i, j, rp_int rx, rp_int ry, q _ H (Same.refl H) (h _)⟩
theorem op2_I {K : PySem.W.Frag} {C : Int → Int → Prop} {g : Int → Int → V} {i j : Int} {z : Dat} (hc : C i j) (h : ∀ H, Rp K H (g i j) z) : Op2 K (rI C g) (.int i) (.int j) z := fun B H vx vy Q c rx ry q => ⟨i, j, rp_int rx, rp_int ry, hc, q _ H (Same.refl H) (h _)⟩
theorem t_cmp {a b : Expr} {op : CmpOp} {r : R2} {x y : Dat} {z : Bool} {pos : Pos} (hr : OpR X (compareOp op) r) (ho : Op2 X.K r x y (.bl z)) (ha : D X E0 a ρ (.ok x)) (hb : D X E0 b ρ (.ok y)) (hm : behindInMarks op b = false := by first | exact nomark _ | rfl) : T X (.Compare a [op] [b] pos) ρ z :=
  pt_imp (pt_cmpR hr ha hb hm) fun σ H Q ⟨B, c, en, q⟩ => op_run (a := a) (b := b) (X := X) (E := E0) (ρ := ρ) ho ⟨B, c, en, fun v H' s r => ⟨z, rp_bl r, q H' s⟩⟩
theorem t_chain {a b c : Expr} {op op' : CmpOp} {r r' : R2} {x y z : Dat} {p q : Bool} {pos : Pos} (hr : OpR X (compareOp op) r) (hr' : OpR X (compareOp op') r') (ho : Op2 X.K r x y (.bl p)) (ho' : Op2 X.K r' y z (.bl q)) (ha : D X E0 a ρ (.ok x)) (hb : D X E0 b ρ (.ok y)) (hc : D X E0 c ρ (.ok z))
    (hm : lastMarks [op, op'] [b, c] = false := by with_unfolding_all rfl) : T X (.Compare a [op, op'] [b, c] pos) ρ (p && q) := by
  refine pt_imp (pt_chain hr hr' ha hb hc hm) fun σ H Q ⟨B, cv, en, qq⟩ => ⟨B, cv, en, fun vx H1 s1 rx => ⟨B, cv.same s1, en.same s1, fun vy H2 s2 ry => ho B H2 vx vy _ ((cv.same s1).same s2) (rx.mono (mask_same s2)) ry fun v H3 s3 rv => ⟨p, rp_bl rv, ?_⟩⟩⟩
  have c3 : Cov B H3 := ((cv.same s1).same s2).same s3
  have e3 : EnvR X.K B H3 σ ρ := ((en.same s1).same s2).same s3
  cases p with
  | true =>
    refine iteT ?_
    exact ⟨B, c3, e3, fun vz H4 s4 rz => ho' B H4 vy vz _ (c3.same s4) ((ry.mono (mask_same s3)).mono (mask_same s4)) rz fun v H5 s5 rv => ⟨q, rp_bl rv, qq H5 ((((s1.trans s2).trans s3).trans s4).trans s5)⟩⟩
  | false =>
    refine iteF ?_
    exact ⟨false, rfl, qq H3 ((s1.trans s2).trans s3)⟩
theorem d_chain {a b c : Expr} {op op' : CmpOp} {r r' : R2} {x y z : Dat} {p q : Bool} {pos : Pos} (hr : OpR X (compareOp op) r) (hr' : OpR X (compareOp op') r') (ho : Op2 X.K r x y (.bl p)) (ho' : Op2 X.K r' y z (.bl q)) (ha : D X E a ρ (.ok x)) (hb : D X E b ρ (.ok y)) (hc : D X E c ρ (.ok z))
    (hm : lastMarks [op, op'] [b, c] = false := by with_unfolding_all rfl) : D X E (.Compare a [op, op'] [b, c] pos) ρ (.ok (.bl (p && q))) := by
  refine D.of (pe_chain hr hr' ha hb hc hm) fun B σ H Q cv en qq => ⟨B, cv, en, fun vx H1 s1 rx => ⟨B, cv.same s1, en.same s1, fun vy H2 s2 ry => ho B H2 vx vy _ ((cv.same s1).same s2) (rx.mono (mask_same s2)) ry fun v H3 s3 rv => ⟨p, rp_bl rv, ?_⟩⟩⟩
  have c3 : Cov B H3 := ((cv.same s1).same s2).same s3
  have e3 : EnvR X.K B H3 σ ρ := ((en.same s1).same s2).same s3
  cases p with
  | true =>
    refine iteT ?_
    exact ⟨B, c3, e3, fun vz H4 s4 rz => ho' B H4 vy vz _ (c3.same s4) ((ry.mono (mask_same s3)).mono (mask_same s4)) rz fun v H5 s5 rv => qq v H5 ((((s1.trans s2).trans s3).trans s4).trans s5) rv⟩
  | false =>
    refine iteF ?_
    exact qq _ H3 ((s1.trans s2).trans s3) (.bl false)
theorem o_le {K : PySem.W.Frag} {i j : Int} : Op2 K (rI0 fun i j => .bl (decide (i ≤ j))) (.int i) (.int j) (.bl (decide (i ≤ j))) := op2_I0 fun _ => .bl _
theorem o_lt {K : PySem.W.Frag} {i j : Int} : Op2 K (rI0 fun i j => .bl (decide (i < j))) (.int i) (.int j) (.bl (decide (i < j))) := op2_I0 fun _ => .bl _
theorem o_gt {K : PySem.W.Frag} {i j : Int} : Op2 K (rI0 fun i j => .bl (decide (j < i))) (.int i) (.int j) (.bl (decide (j < i))) := op2_I0 fun _ => .bl _
theorem o_ge {K : PySem.W.Frag} {i j : Int} : Op2 K (rI0 fun i j => .bl (decide (j ≤ i))) (.int i) (.int j) (.bl (decide (j ≤ i))) := op2_I0 fun _ => .bl _
theorem o_add {K : PySem.W.Frag} {i j : Int} : Op2 K (rI0 fun i j => .int (i + j)) (.int i) (.int j) (.int (i + j)) := op2_I0 fun _ => .int _
theorem o_sub {K : PySem.W.Frag} {i j : Int} : Op2 K (rI0 fun i j => .int (i - j)) (.int i) (.int j) (.int (i - j)) := op2_I0 fun _ => .int _
theorem o_mul {K : PySem.W.Frag} {i j : Int} (h : CMul i j) : Op2 K (rI CMul fun i j => .int (i * j)) (.int i) (.int j) (.int (i * j)) := op2_I h fun _ => .int _
theorem o_mod {K : PySem.W.Frag} {i j : Int} (h : 0 < j) : Op2 K (rI (fun _ j => 0 < j) fun i j => .int (i % j)) (.int i) (.int j) (.int (i % j)) := op2_I h fun _ => .int _
theorem o_fdiv {K : PySem.W.Frag} {i j : Int} (h : CDiv i j) : Op2 K (rI CDiv fun i j => .int (i / j)) (.int i) (.int j) (.int (i / j)) := op2_I h fun _ => .int _
theorem d_add {a b : Expr} {i j : Int} {pos : Pos} (ha : D X E a ρ (.ok (.int i))) (hb : D X E b ρ (.ok (.int j))) : D X E (.BinOp a .Add b pos) ρ (.ok (.int (i + j))) := d_op op_add o_add ha hb
theorem d_sub {a b : Expr} {i j : Int} {pos : Pos} (ha : D X E a ρ (.ok (.int i))) (hb : D X E b ρ (.ok (.int j))) : D X E (.BinOp a .Sub b pos) ρ (.ok (.int (i - j))) := d_op op_sub o_sub ha hb
theorem d_mul {a b : Expr} {i j : Int} {pos : Pos} (h : CMul i j) (ha : D X E a ρ (.ok (.int i))) (hb : D X E b ρ (.ok (.int j))) : D X E (.BinOp a .Mult b pos) ρ (.ok (.int (i * j))) := d_op op_mul (o_mul h) ha hb
theorem d_mod {a b : Expr} {i j : Int} {pos : Pos} (h : 0 < j) (ha : D X E a ρ (.ok (.int i))) (hb : D X E b ρ (.ok (.int j))) : D X E (.BinOp a .Mod b pos) ρ (.ok (.int (i % j))) := d_op op_mod (o_mod h) ha hb
theorem d_fdiv {a b : Expr} {i j : Int} {pos : Pos} (h : CDiv i j) (ha : D X E a ρ (.ok (.int i))) (hb : D X E b ρ (.ok (.int j))) : D X E (.BinOp a .FloorDiv b pos) ρ (.ok (.int (i / j))) := d_op op_fdiv (o_fdiv h) ha hb
end
end G

set_option Elab.async false
set_option linter.all false
set_option maxRecDepth 100000
set_option maxHeartbeats 2000000
namespace G
open PySem PySem.Spec PyProof.Rows L2 TL

/-! ### == and != -/
mutual
def Dat.py : Dat → PyData
  | .non => .none
  | .bl b => .bool b
  | .int i => .int i
  | .str l => .str ⟨l.toArray⟩
  | .tup xs => .tuple (Dat.pyA xs)
  | .lst xs => .list (Dat.pyA xs)
  | .dic _ => .dict []
  | .scr _ => .dict []
  | .exc _ => .dict []
def Dat.pyA : List Dat → List PyData
  | [] => []
  | x :: xs => x.py :: Dat.pyA xs
end
mutual
def Dat.eq : Dat → Dat → Bool
  | .non, .non => true
  | .bl a, .bl b => a == b
  | .bl a, .int j => (if a then 1 else 0) == j
  | .int i, .bl b => i == (if b then 1 else 0)
  | .int i, .int j => i == j
  | .str l, .str m => decide (l = m)
  | .tup xs, .tup ys => Dat.eqA xs ys
  | .lst xs, .lst ys => Dat.eqA xs ys
  | _, _ => false
def Dat.eqA : List Dat → List Dat → Bool
  | [], [] => true
  | x :: xs, y :: ys => Dat.eq x y && Dat.eqA xs ys
  | _, _ => false
end
theorem str_beq (l m : List Nat) : ((⟨l.toArray⟩ : Str) == ⟨m.toArray⟩) = decide (l = m) := by
  by_cases h : l = m
  · subst h
    simp
  · rw [decide_eq_false h]
    refine beq_eq_false_iff_ne.mpr fun e => h ?_
    have e1 := congrArg (fun s : Str => s.cps.toList) e
    simpa using e1
mutual
theorem Dat.eqv : ∀ x y : Dat, PyData.eqv x.py y.py = Dat.eq x y
  | .non, .non => by simp [Dat.py, PyData.eqv, Dat.eq]
  | .non, .bl _ => by simp [Dat.py, PyData.eqv, Dat.eq]
  | .non, .int _ => by simp [Dat.py, PyData.eqv, Dat.eq]
  | .non, .str _ => by simp [Dat.py, PyData.eqv, Dat.eq]
  | .non, .tup _ => by simp [Dat.py, PyData.eqv, Dat.eq]
  | .non, .lst _ => by simp [Dat.py, PyData.eqv, Dat.eq]
  | .non, .dic _ => by simp [Dat.py, PyData.eqv, Dat.eq]
  | .bl _, .non => by simp [Dat.py, PyData.eqv, Dat.eq]
  | .bl a, .bl b => by simp only [Dat.py, PyData.eqv, Dat.eq]
  | .bl a, .int b => by simp only [Dat.py, PyData.eqv, Dat.eq]
  | .bl _, .str _ => by simp [Dat.py, PyData.eqv, Dat.eq]
  | .bl _, .tup _ => by simp [Dat.py, PyData.eqv, Dat.eq]
  | .bl _, .lst _ => by simp [Dat.py, PyData.eqv, Dat.eq]
  | .bl _, .dic _ => by simp [Dat.py, PyData.eqv, Dat.eq]
  | .int _, .non => by simp [Dat.py, PyData.eqv, Dat.eq]
  | .int a, .bl b => by simp only [Dat.py, PyData.eqv, Dat.eq]
  | .int a, .int b => by simp only [Dat.py, PyData.eqv, Dat.eq]
  | .int _, .str _ => by simp [Dat.py, PyData.eqv, Dat.eq]
  | .int _, .tup _ => by simp [Dat.py, PyData.eqv, Dat.eq]
  | .int _, .lst _ => by simp [Dat.py, PyData.eqv, Dat.eq]
  | .int _, .dic _ => by simp [Dat.py, PyData.eqv, Dat.eq]
  | .str _, .non => by simp [Dat.py, PyData.eqv, Dat.eq]
  | .str _, .bl _ => by simp [Dat.py, PyData.eqv, Dat.eq]
  | .str _, .int _ => by simp [Dat.py, PyData.eqv, Dat.eq]
  | .str l, .str m => by
    show ((⟨l.toArray⟩ : Str) == ⟨m.toArray⟩) = decide (l = m)
    exact str_beq l m
  | .str _, .tup _ => by simp [Dat.py, PyData.eqv, Dat.eq]
  | .str _, .lst _ => by simp [Dat.py, PyData.eqv, Dat.eq]
  | .str _, .dic _ => by simp [Dat.py, PyData.eqv, Dat.eq]
  | .tup _, .non => by simp [Dat.py, PyData.eqv, Dat.eq]
  | .tup _, .bl _ => by simp [Dat.py, PyData.eqv, Dat.eq]
  | .tup _, .int _ => by simp [Dat.py, PyData.eqv, Dat.eq]
  | .tup _, .str _ => by simp [Dat.py, PyData.eqv, Dat.eq]
  | .tup xs, .tup ys => by
    show PyData.eqvAll (Dat.pyA xs) (Dat.pyA ys) = Dat.eqA xs ys
    exact Dat.eqvA xs ys
  | .tup _, .lst _ => by simp [Dat.py, PyData.eqv, Dat.eq]
  | .tup _, .dic _ => by simp [Dat.py, PyData.eqv, Dat.eq]
  | .lst _, .non => by simp [Dat.py, PyData.eqv, Dat.eq]
  | .lst _, .bl _ => by simp [Dat.py, PyData.eqv, Dat.eq]
  | .lst _, .int _ => by simp [Dat.py, PyData.eqv, Dat.eq]
  | .lst _, .str _ => by simp [Dat.py, PyData.eqv, Dat.eq]
  | .lst _, .tup _ => by simp [Dat.py, PyData.eqv, Dat.eq]
  | .lst xs, .lst ys => by
    show PyData.eqvAll (Dat.pyA xs) (Dat.pyA ys) = Dat.eqA xs ys
    exact Dat.eqvA xs ys
  | .lst _, .dic _ => by simp [Dat.py, PyData.eqv, Dat.eq]
  | .dic _, .non => by simp [Dat.py, PyData.eqv, Dat.eq]
  | .dic _, .bl _ => by simp [Dat.py, PyData.eqv, Dat.eq]
  | .dic _, .int _ => by simp [Dat.py, PyData.eqv, Dat.eq]
  | .dic _, .str _ => by simp [Dat.py, PyData.eqv, Dat.eq]
  | .dic _, .tup _ => by simp [Dat.py, PyData.eqv, Dat.eq]
  | .dic _, .lst _ => by simp [Dat.py, PyData.eqv, Dat.eq]
  | .dic _, .dic _ => by simp [Dat.py, PyData.eqv, Dat.eq]
  | .non, .scr _ => by simp [Dat.py, PyData.eqv, Dat.eq]
  | .scr _, .non => by simp [Dat.py, PyData.eqv, Dat.eq]
  | .bl _, .scr _ => by simp [Dat.py, PyData.eqv, Dat.eq]
  | .scr _, .bl _ => by simp [Dat.py, PyData.eqv, Dat.eq]
  | .int _, .scr _ => by simp [Dat.py, PyData.eqv, Dat.eq]
  | .scr _, .int _ => by simp [Dat.py, PyData.eqv, Dat.eq]
  | .str _, .scr _ => by simp [Dat.py, PyData.eqv, Dat.eq]
  | .scr _, .str _ => by simp [Dat.py, PyData.eqv, Dat.eq]
  | .tup _, .scr _ => by simp [Dat.py, PyData.eqv, Dat.eq]
  | .scr _, .tup _ => by simp [Dat.py, PyData.eqv, Dat.eq]
  | .lst _, .scr _ => by simp [Dat.py, PyData.eqv, Dat.eq]
  | .scr _, .lst _ => by simp [Dat.py, PyData.eqv, Dat.eq]
  | .dic _, .scr _ => by simp [Dat.py, PyData.eqv, Dat.eq]
  | .scr _, .dic _ => by simp [Dat.py, PyData.eqv, Dat.eq]
  | .scr _, .scr _ => by simp [Dat.py, PyData.eqv, Dat.eq]
  | .non, .exc _ => by simp [Dat.py, PyData.eqv, Dat.eq]
  | .exc _, .non => by simp [Dat.py, PyData.eqv, Dat.eq]
  | .bl _, .exc _ => by simp [Dat.py, PyData.eqv, Dat.eq]
  | .exc _, .bl _ => by simp [Dat.py, PyData.eqv, Dat.eq]
  | .int _, .exc _ => by simp [Dat.py, PyData.eqv, Dat.eq]
  | .exc _, .int _ => by simp [Dat.py, PyData.eqv, Dat.eq]
  | .str _, .exc _ => by simp [Dat.py, PyData.eqv, Dat.eq]
  | .exc _, .str _ => by simp [Dat.py, PyData.eqv, Dat.eq]
  | .tup _, .exc _ => by simp [Dat.py, PyData.eqv, Dat.eq]
  | .exc _, .tup _ => by simp [Dat.py, PyData.eqv, Dat.eq]
  | .lst _, .exc _ => by simp [Dat.py, PyData.eqv, Dat.eq]
  | .exc _, .lst _ => by simp [Dat.py, PyData.eqv, Dat.eq]
  | .dic _, .exc _ => by simp [Dat.py, PyData.eqv, Dat.eq]
  | .exc _, .dic _ => by simp [Dat.py, PyData.eqv, Dat.eq]
  | .scr _, .exc _ => by simp [Dat.py, PyData.eqv, Dat.eq]
  | .exc _, .scr _ => by simp [Dat.py, PyData.eqv, Dat.eq]
  | .exc _, .exc _ => by simp [Dat.py, PyData.eqv, Dat.eq]
theorem Dat.eqvA : ∀ xs ys : List Dat, PyData.eqvAll (Dat.pyA xs) (Dat.pyA ys) = Dat.eqA xs ys
  | [], [] => by simp [Dat.pyA, PyData.eqvAll, Dat.eqA]
  | [], _ :: _ => by simp [Dat.pyA, PyData.eqvAll, Dat.eqA]
  | _ :: _, [] => by simp [Dat.pyA, PyData.eqvAll, Dat.eqA]
  | x :: xs, y :: ys => by
    show (PyData.eqv x.py y.py && PyData.eqvAll (Dat.pyA xs) (Dat.pyA ys)) = (Dat.eq x y && Dat.eqA xs ys)
    rw [Dat.eqv x y, Dat.eqvA xs ys]
end
/-- plain data of a depth -/
def okn : Nat → Dat → Bool
  | _, .non => true
  | _, .bl _ => true
  | _, .int _ => true
  | _, .str l => l.all fun c => Nat.blt c 1114112
  | 0, .tup _ => false
  | 0, .lst _ => false
  | n + 1, .tup xs => xs.all (okn n)
  | n + 1, .lst xs => xs.all (okn n)
  | _, .dic _ => false
  | _, .scr _ => false
  | _, .exc _ => false
theorem okn_list (n : Nat) (ih : ∀ d : Dat, okn n d = true → PyData.canLay0 d.py = true ∧ PyData.depth d.py ≤ n) : ∀ xs : List Dat, xs.all (okn n) = true → PyData.canLayAll0 (Dat.pyA xs) = true ∧ PyData.depthAll (Dat.pyA xs) ≤ n
  | [], _ => ⟨rfl, Nat.zero_le _⟩
  | x :: xs, h => by
    rw [List.all_cons, Bool.and_eq_true] at h
    obtain ⟨h1, h2⟩ := h
    obtain ⟨a1, a2⟩ := ih x h1
    obtain ⟨b1, b2⟩ := okn_list n ih xs h2
    refine ⟨?_, ?_⟩
    · show (PyData.canLay0 x.py && PyData.canLayAll0 (Dat.pyA xs)) = true
      rw [a1, b1] <;> rfl
    · show max (PyData.depth x.py) (PyData.depthAll (Dat.pyA xs)) ≤ n
      omega
theorem okn_str {l : List Nat} (h : (l.all fun c => Nat.blt c 1114112) = true) : PyData.canLay0 (.str ⟨l.toArray⟩) = true := by
  show (l.toArray.all fun c => decide (c < 0x110000)) = true
  rw [List.all_toArray]
  rw [List.all_eq_true] at h ⊢
  intro c hc
  have z := h c hc
  exact decide_eq_true (Nat.blt_eq.mp z)
theorem okn_py : ∀ (n : Nat) (d : Dat), okn n d = true → PyData.canLay0 d.py = true ∧ PyData.depth d.py ≤ n
  | n, .non, _ => ⟨rfl, Nat.zero_le _⟩
  | n, .bl _, _ => ⟨rfl, Nat.zero_le _⟩
  | n, .int _, _ => ⟨rfl, Nat.zero_le _⟩
  | 0, .str l, h => ⟨okn_str h, Nat.zero_le _⟩
  | n + 1, .str l, h => ⟨okn_str h, Nat.zero_le _⟩
  | 0, .tup _, h => by cases h
  | 0, .lst _, h => by cases h
  | 0, .dic _, h => by cases h
  | n + 1, .dic _, h => by cases h
  | 0, .scr _, h => by cases h
  | 0, .exc _, h => by cases h
  | n + 1, .scr _, h => by cases h
  | n + 1, .exc _, h => by cases h
  | n + 1, .tup xs, h => by
    obtain ⟨a, b⟩ := okn_list n (okn_py n) xs h
    exact ⟨a, Nat.succ_le_succ b⟩
  | n + 1, .lst xs, h => by
    obtain ⟨a, b⟩ := okn_list n (okn_py n) xs h
    exact ⟨a, Nat.succ_le_succ b⟩
theorem okn_shaped {d : Dat} (h : okn 9 d = true) : SeqAt.shaped d.py = true := by
  obtain ⟨a, b⟩ := okn_py 9 d h
  show (PyData.canLay0 d.py && decide (PyData.depth d.py ≤ 64)) = true
  rw [a, decide_eq_true (by omega)] <;> rfl
theorem okn_mono : ∀ {n m : Nat} {d : Dat}, n ≤ m → okn n d = true → okn m d = true
  | n, m, .non, _, _ => by cases m <;> rfl
  | n, m, .bl _, _, _ => by cases m <;> rfl
  | n, m, .int _, _, _ => by cases m <;> rfl
  | 0, m, .str l, _, h => by cases m <;> exact h
  | n + 1, 0, .str l, _, h => h
  | n + 1, m + 1, .str l, _, h => h
  | 0, _, .tup _, _, h => by cases h
  | 0, _, .lst _, _, h => by cases h
  | 0, _, .dic _, _, h => by cases h
  | n + 1, _, .dic _, _, h => by cases h
  | 0, _, .scr _, _, h => by cases h
  | 0, _, .exc _, _, h => by cases h
  | n + 1, _, .scr _, _, h => by cases h
  | n + 1, _, .exc _, _, h => by cases h
  | n + 1, 0, .tup _, e, h => by omega
  | n + 1, 0, .lst _, e, h => by omega
  | n + 1, m + 1, .tup xs, e, h => by
    show xs.all (okn m) = true
    have h : xs.all (okn n) = true := h
    rw [List.all_eq_true] at h ⊢
    exact fun x hx => okn_mono (Nat.le_of_succ_le_succ e) (h x hx)
  | n + 1, m + 1, .lst xs, e, h => by
    show xs.all (okn m) = true
    have h : xs.all (okn n) = true := h
    rw [List.all_eq_true] at h ⊢
    exact fun x hx => okn_mono (Nat.le_of_succ_le_succ e) (h x hx)
mutual
theorem Rp.dp {K : PySem.W.Frag} {H : Hp} : ∀ {n : Nat} {v : V} {d : Dat}, Rp K H v d → okn n d = true → Dp K H v d.py
  | _, _, _, .non, _ => .non
  | _, _, _, .bl b, _ => .bl b
  | _, _, _, .int i, _ => .int i
  | _, _, _, .str l, _ => .str _
  | n + 1, _, _, .tup h a, o => .tup (SqT.of h) (RpA.dp (n := n) a o)
  | n + 1, _, _, .lst h a, o => .lst (SqL.of h) (RpA.dp (n := n) a o)
  | 0, _, _, .tup h a, o => by cases o
  | 0, _, _, .lst h a, o => by cases o
  | 0, _, _, .dic h, o => by cases o
  | n + 1, _, _, .dic h, o => by cases o
  | 0, _, _, .scr h, o => by cases o
  | 0, _, _, .exc h, o => by cases o
  | n + 1, _, _, .scr h, o => by cases o
  | n + 1, _, _, .exc h, o => by cases o
theorem RpA.dp {K : PySem.W.Frag} {H : Hp} : ∀ {n : Nat} {vs : List V} {ds : List Dat}, RpA K H vs ds → ds.all (okn n) = true → DpAll K H vs (Dat.pyA ds)
  | _, _, _, .nil, _ => .nil
  | n, _, _, .cons h a, o => by
    rw [List.all_cons, Bool.and_eq_true] at o
    exact .cons (Rp.dp h o.1) (RpA.dp a o.2)
end
theorem o_eqD {K : PySem.W.Frag} {x y : Dat} (hx : okn 9 x = true) (hy : okn 9 y = true) : Op2 K (rEqD K) x y (.bl (Dat.eq x y)) := fun B H vx vy Q c rx ry q => by
  refine ⟨x.py, y.py, (rx.mono (mask_sub B H)).dp hx, (ry.mono (mask_sub B H)).dp hy, okn_shaped hx, okn_shaped hy, ?_⟩
  rw [Dat.eqv]
  exact q _ H (Same.refl H) (.bl _)
theorem o_neD {K : PySem.W.Frag} {x y : Dat} (hx : okn 9 x = true) (hy : okn 9 y = true) : Op2 K (rNeD K) x y (.bl (!Dat.eq x y)) := fun B H vx vy Q c rx ry q => by
  refine ⟨x.py, y.py, (rx.mono (mask_sub B H)).dp hx, (ry.mono (mask_sub B H)).dp hy, okn_shaped hx, okn_shaped hy, ?_⟩
  rw [Dat.eqv]
  exact q _ H (Same.refl H) (.bl _)
mutual
theorem Dat.eq_refl : ∀ {n : Nat} (x : Dat), okn n x = true → Dat.eq x x = true
  | _, .non, _ => rfl
  | _, .bl b, _ => by simp [Dat.eq]
  | _, .int i, _ => by simp [Dat.eq]
  | _, .str l, _ => by simp [Dat.eq]
  | 0, .tup _, h => by cases h
  | 0, .lst _, h => by cases h
  | 0, .dic _, h => by cases h
  | _ + 1, .dic _, h => by cases h
  | 0, .scr _, h => by cases h
  | 0, .exc _, h => by cases h
  | _ + 1, .scr _, h => by cases h
  | _ + 1, .exc _, h => by cases h
  | n + 1, .tup xs, h => by
    show Dat.eqA xs xs = true
    exact Dat.eqA_refl (n := n) xs h
  | n + 1, .lst xs, h => by
    show Dat.eqA xs xs = true
    exact Dat.eqA_refl (n := n) xs h
theorem Dat.eqA_refl : ∀ {n : Nat} (xs : List Dat), xs.all (okn n) = true → Dat.eqA xs xs = true
  | _, [], _ => rfl
  | n, x :: xs, h => by
    rw [List.all_cons, Bool.and_eq_true] at h
    show (Dat.eq x x && Dat.eqA xs xs) = true
    rw [Dat.eq_refl x h.1, Dat.eqA_refl xs h.2] <;> rfl
end
section
variable {X : Cx} {E : XK} {ρ : List Sl}
theorem d_eq {a b : Expr} {x y : Dat} {pos : Pos} (hu : X.A.units + 64 < cLine) (ha : D X E a ρ (.ok x)) (hb : D X E b ρ (.ok y)) (hx : okn 9 x = true) (hy : okn 9 y = true) : D X E (.Compare a [.Eq] [b] pos) ρ (.ok (.bl (Dat.eq x y))) := d_cmp (op_eqD hu) (o_eqD hx hy) ha hb
theorem d_ne {a b : Expr} {x y : Dat} {pos : Pos} (hu : X.A.units + 64 < cLine) (ha : D X E a ρ (.ok x)) (hb : D X E b ρ (.ok y)) (hx : okn 9 x = true) (hy : okn 9 y = true) : D X E (.Compare a [.NotEq] [b] pos) ρ (.ok (.bl (!Dat.eq x y))) := d_cmp (op_neD hu) (o_neD hx hy) ha hb
theorem t_eq {a b : Expr} {x y : Dat} {pos : Pos} (hu : X.A.units + 64 < cLine) (ha : D X E0 a ρ (.ok x)) (hb : D X E0 b ρ (.ok y)) (hx : okn 9 x = true) (hy : okn 9 y = true) : T X (.Compare a [.Eq] [b] pos) ρ (Dat.eq x y) := t_cmp (op_eqD hu) (o_eqD hx hy) ha hb
theorem t_ne {a b : Expr} {x y : Dat} {pos : Pos} (hu : X.A.units + 64 < cLine) (ha : D X E0 a ρ (.ok x)) (hb : D X E0 b ρ (.ok y)) (hx : okn 9 x = true) (hy : okn 9 y = true) : T X (.Compare a [.NotEq] [b] pos) ρ (!Dat.eq x y) := t_cmp (op_neD hu) (o_neD hx hy) ha hb
/-- is None -/
def Dat.isN : Dat → Bool
  | .non => true
  | _ => false
theorem rp_isN {K : PySem.W.Frag} {H : Hp} {v : V} {d : Dat} (h : Rp K H v d) : decide (v = .non) = d.isN := by cases h <;> rfl
theorem o_isN {K : PySem.W.Frag} {x : Dat} : Op2 K (fun x y H Q => y = .non ∧ Q (.bl (decide (x = .non))) H) x .non (.bl x.isN) := fun B H vx vy Q c rx ry q => ⟨rp_non ry, by rw [rp_isN rx]; exact q _ H (Same.refl H) (.bl _)⟩
theorem o_notN {K : PySem.W.Frag} {x : Dat} : Op2 K (fun x y H Q => y = .non ∧ Q (.bl (!decide (x = .non))) H) x .non (.bl (!x.isN)) := fun B H vx vy Q c rx ry q => ⟨rp_non ry, by rw [rp_isN rx]; exact q _ H (Same.refl H) (.bl _)⟩
theorem d_isN {a : Expr} {x : Dat} {j : Nat} {p pos : Pos} (ha : D X E a ρ (.ok x)) : D X E (.Compare a [.Is] [.Constant .none j p] pos) ρ (.ok (.bl x.isN)) := d_cmp op_isN o_isN ha d_non
theorem d_notN {a : Expr} {x : Dat} {j : Nat} {p pos : Pos} (ha : D X E a ρ (.ok x)) : D X E (.Compare a [.IsNot] [.Constant .none j p] pos) ρ (.ok (.bl (!x.isN))) := d_cmp op_notN o_notN ha d_non
theorem t_isN {a : Expr} {x : Dat} {j : Nat} {p pos : Pos} (ha : D X E0 a ρ (.ok x)) : T X (.Compare a [.Is] [.Constant .none j p] pos) ρ x.isN := t_cmp op_isN o_isN ha (d_non (E := E0))
theorem t_notN {a : Expr} {x : Dat} {j : Nat} {p pos : Pos} (ha : D X E0 a ρ (.ok x)) : T X (.Compare a [.IsNot] [.Constant .none j p] pos) ρ (!x.isN) := t_cmp op_notN o_notN ha (d_non (E := E0))

/-! ### len -/
theorem len_mk (l : List Nat) : (⟨l.toArray⟩ : Str).length = l.length := by simp [Str.length]
theorem rpA_one {K : PySem.W.Frag} {H : Hp} {vs : List V} {d : Dat} (h : RpA K H vs [d]) : ∃ v, vs = [v] ∧ Rp K H v d := by
  cases h with
  | cons h t =>
    cases t
    exact ⟨_, rfl, h⟩
theorem rpA_two {K : PySem.W.Frag} {H : Hp} {vs : List V} {d e : Dat} (h : RpA K H vs [d, e]) : ∃ v w, vs = [v, w] ∧ Rp K H v d ∧ Rp K H w e := by
  cases h with
  | cons h t =>
    obtain ⟨w, rfl, hw⟩ := rpA_one t
    exact ⟨_, _, rfl, h, hw⟩
abbrev rLen0 (K : PySem.W.Frag) : List V → Hp → VK → Prop := fun xs H Q => ∃ x n, xs = [x] ∧ LenV K x H n ∧ Q (.int n) H
theorem on_lenS {K : PySem.W.Frag} {l : List Nat} (h : l.length ≤ 100000) : OpN K (rLen0 K) [.str l] (.int l.length) := fun B H vs Q c r q => by
  obtain ⟨v, rfl, rv⟩ := rpA_one r
  refine ⟨v, l.length, rfl, ?_, q _ H (Same.refl H) (.int _)⟩
  rw [rp_str rv]
  exact ⟨by rw [len_mk]; exact Nat.le_trans h (by decide), (len_mk l).symm⟩
theorem on_lenT {K : PySem.W.Frag} {xs : List Dat} : OpN K (rLen0 K) [.tup xs] (.int xs.length) := fun B H vs Q c r q => by
  obtain ⟨v, rfl, rv⟩ := rpA_one r
  cases rv with
  | tup h a =>
    refine ⟨_, xs.length, rfl, .inr ⟨_, sqt_mono (mask_sub B H) (SqT.of h), a.length.symm⟩, q _ H (Same.refl H) (.int _)⟩
theorem on_lenL {K : PySem.W.Frag} {xs : List Dat} : OpN K (rLen0 K) [.lst xs] (.int xs.length) := fun B H vs Q c r q => by
  obtain ⟨v, rfl, rv⟩ := rpA_one r
  cases rv with
  | lst h a =>
    refine ⟨_, xs.length, rfl, .inl ⟨_, SqL.of (mask_sub B H _ _ h), a.length.symm⟩, q _ H (Same.refl H) (.int _)⟩
theorem d_lenS {a : Expr} {l : List Nat} {p pos : Pos} (hm : X.mg "len" = none) (ha : D X E a ρ (.ok (.str l))) (h : l.length ≤ 100000) (hg : Gl X "len" := by rfl) (he : starEach [a] X.env = (false, eval a X.env) :: starEach [] X.env := by rfl) : D X E (.Call (.Name "len" p) [a] [] pos) ρ (.ok (.int l.length)) :=
  d_callB call_len (on_lenS h) hm (da_one ha he) PySem.boot_len hg (he := he)
theorem d_lenT {a : Expr} {xs : List Dat} {p pos : Pos} (hm : X.mg "len" = none) (ha : D X E a ρ (.ok (.tup xs))) (hg : Gl X "len" := by rfl) (he : starEach [a] X.env = (false, eval a X.env) :: starEach [] X.env := by rfl) : D X E (.Call (.Name "len" p) [a] [] pos) ρ (.ok (.int xs.length)) :=
  d_callB call_len on_lenT hm (da_one ha he) PySem.boot_len hg (he := he)
theorem d_lenL {a : Expr} {xs : List Dat} {p pos : Pos} (hm : X.mg "len" = none) (ha : D X E a ρ (.ok (.lst xs))) (hg : Gl X "len" := by rfl) (he : starEach [a] X.env = (false, eval a X.env) :: starEach [] X.env := by rfl) : D X E (.Call (.Name "len" p) [a] [] pos) ρ (.ok (.int xs.length)) :=
  d_callB call_len on_lenL hm (da_one ha he) PySem.boot_len hg (he := he)

theorem on_lenR {K : PySem.W.Frag} {ns : List Int} : OpN K (rLen0 K) [.scr ns] (.int ns.length) := fun B H vs Q c r q => by
  obtain ⟨v, rfl, rv⟩ := rpA_one r
  cases rv with
  | scr h => exact ⟨_, ns.length, rfl, .inl ⟨_, (mask_sub B H).seq h, by rw [List.length_map]⟩, q _ H (Same.refl H) (.int _)⟩
theorem d_lenR {a : Expr} {ns : List Int} {p pos : Pos} (hm : X.mg "len" = none) (ha : D X E a ρ (.ok (.scr ns))) (hg : Gl X "len" := by rfl) (he : starEach [a] X.env = (false, eval a X.env) :: starEach [] X.env := by rfl) : D X E (.Call (.Name "len" p) [a] [] pos) ρ (.ok (.int ns.length)) :=
  d_callB call_len on_lenR hm (da_one ha he) PySem.boot_len hg (he := he)
/-! ### items -/
theorem d_ixR {a b : Expr} {ns : List Int} {i z : Int} {pos : Pos} (ha : D X E a ρ (.ok (.scr ns))) (hb : D X E b ρ (.ok (.int i))) (h : atI ns i = some z) (hs : PlainIx b := by exact fun _ _ => rfl) : D X E (.Subscript a b pos) ρ (.ok (.int z)) :=
  d_ix ix_list (fun B H vx vy Q c rx ry q => by
    cases rx with
    | scr hs =>
      refine ⟨_, _, i, .int z, rfl, rp_int ry, (mask_sub B H).seq hs, ?_, q _ H (Same.refl H) (.int z)⟩
      unfold atI at h ⊢
      rw [List.length_map]
      cases e : ixN ns.length i with
      | none => rw [e] at h; cases h
      | some j =>
        rw [e] at h
        have h : ns[j]? = some z := h
        show (ns.map V.int)[j]? = some (.int z)
        rw [List.getElem?_map, h]
        rfl) ha hb hs
theorem atI_rp {K : PySem.W.Frag} {H : Hp} {vs : List V} {ds : List Dat} {i : Int} {d : Dat} (r : RpA K H vs ds) (h : atI ds i = some d) : ∃ v, atI vs i = some v ∧ Rp K H v d := by
  unfold atI at h ⊢
  rw [r.length]
  cases e : ixN ds.length i with
  | none => rw [e] at h; cases h
  | some j =>
    rw [e] at h
    exact r.get h
theorem o_ixL {K : PySem.W.Frag} {xs : List Dat} {i : Int} {d : Dat} (h : atI xs i = some d) : Op2 K (rIxL K) (.lst xs) (.int i) d := fun B H vx vy Q c rx ry q => by
  cases rx with
  | lst hs a =>
    obtain ⟨v, h1, h2⟩ := atI_rp a h
    exact ⟨_, _, i, v, rfl, rp_int ry, SqL.of (mask_sub B H _ _ hs), h1, q v H (Same.refl H) h2⟩
theorem o_ixT {K : PySem.W.Frag} {xs : List Dat} {i : Int} {d : Dat} (h : atI xs i = some d) : Op2 K (rIxT K) (.tup xs) (.int i) d := fun B H vx vy Q c rx ry q => by
  cases rx with
  | tup hs a =>
    obtain ⟨v, h1, h2⟩ := atI_rp a h
    exact ⟨_, _, i, v, rfl, rp_int ry, sqt_mono (mask_sub B H) (SqT.of hs), h1, q v H (Same.refl H) h2⟩
theorem o_ixS {K : PySem.W.Frag} {l : List Nat} {i : Int} {c : Nat} (hl : l.length ≤ 100000) (h : atI l i = some c) : Op2 K rIxS (.str l) (.int i) (.str [c]) := fun B H vx vy Q cv rx ry q =>
  ⟨_, i, c, rp_str rx, rp_int ry, by rw [len_mk]; exact Nat.le_trans hl (by decide), h, q _ H (Same.refl H) (.str [c])⟩
theorem d_ixL {a b : Expr} {xs : List Dat} {i : Int} {d : Dat} {pos : Pos} (ha : D X E a ρ (.ok (.lst xs))) (hb : D X E b ρ (.ok (.int i))) (h : atI xs i = some d) (hs : PlainIx b := by exact fun _ _ => rfl) : D X E (.Subscript a b pos) ρ (.ok d) := d_ix ix_list (o_ixL h) ha hb hs
theorem d_ixT {a b : Expr} {xs : List Dat} {i : Int} {d : Dat} {pos : Pos} (ha : D X E a ρ (.ok (.tup xs))) (hb : D X E b ρ (.ok (.int i))) (h : atI xs i = some d) (hs : PlainIx b := by exact fun _ _ => rfl) : D X E (.Subscript a b pos) ρ (.ok d) := d_ix ix_tup (o_ixT h) ha hb hs
theorem d_ixS {a b : Expr} {l : List Nat} {i : Int} {c : Nat} {pos : Pos} (ha : D X E a ρ (.ok (.str l))) (hb : D X E b ρ (.ok (.int i))) (hl : l.length ≤ 100000) (h : atI l i = some c) (hs : PlainIx b := by exact fun _ _ => rfl) : D X E (.Subscript a b pos) ρ (.ok (.str [c])) := d_ix ix_str (o_ixS hl h) ha hb hs

/-! ### texts -/
theorem mk_app (l m : List Nat) : (⟨l.toArray⟩ : Str) ++ ⟨m.toArray⟩ = ⟨(l ++ m).toArray⟩ := by
  refine ext_tl ?_
  rw [tl_append]
theorem d_addS {a b : Expr} {l m : List Nat} {pos : Pos} (ha : D X E a ρ (.ok (.str l))) (hb : D X E b ρ (.ok (.str m))) (h : l.length + m.length ≤ 100000) : D X E (.BinOp a .Add b pos) ρ (.ok (.str (l ++ m))) :=
  d_op op_add_str (fun B H vx vy Q c rx ry q => ⟨_, _, rp_str rx, rp_str ry, by rw [len_mk, len_mk]; exact Nat.le_trans h (by decide), by rw [mk_app]; exact q _ H (Same.refl H) (.str _)⟩) ha hb
theorem rpA_strs {K : PySem.W.Frag} {H : Hp} : ∀ {ls : List (List Nat)} {vs : List V}, RpA K H vs (ls.map Dat.str) → vs = (ls.map fun l => (⟨l.toArray⟩ : Str)).map V.str
  | [], vs, h => by cases h; rfl
  | l :: ls, vs, h => by
    cases h with
    | cons h1 h2 =>
      rw [rp_str h1, rpA_strs h2]
      rfl
theorem join_mk (S : List Nat) (ls : List (List Nat)) : Txt.join ⟨S.toArray⟩ (ls.map fun l => (⟨l.toArray⟩ : Str)) = ⟨(joinL S ls).toArray⟩ := by
  refine ext_tl ?_
  rw [join_eq, tl_join, List.map_map]
  show joinL S (ls.map fun l => l) = joinL S ls
  rw [List.map_id']
theorem join_len (S : List Nat) (ls : List (List Nat)) : ((ls.map fun l => (⟨l.toArray⟩ : Str)).map (·.length)).sum = (ls.map List.length).sum := by
  rw [List.map_map]
  congr 1
theorem d_join {a b : Expr} {S : List Nat} {ls : List (List Nat)} {x : Dat} {apos pos : Pos} (ha : D X E a ρ (.ok (.str S))) (hb : D X E b ρ (.ok x)) (hx : x = .tup (ls.map Dat.str) ∨ x = .lst (ls.map Dat.str)) (hl : (ls.map List.length).sum + ls.length * S.length ≤ 100000)
    (hs : starEach [b] X.env = [(false, eval b X.env)] := by rfl) (hbase : attributeBase a "join" X.env (eval a X.env) = eval a X.env := by rfl) (hline : (apos.endLine == pos.line) = true := by rfl) : D X E (.Call (.Attribute a "join" apos) [b] [] pos) ρ (.ok (.str (joinL S ls))) := by
  refine D.of (pe_join ha hb hs hbase hline) fun B σ H Q c en q => ⟨B, c, en, fun va H1 s1 ra => ⟨⟨_, rp_str ra⟩, B, c.same s1, en.same s1, fun vb H2 s2 rb => ?_⟩⟩
  have hz : ((ls.map fun l => (⟨l.toArray⟩ : Str)).map (·.length)).sum + (ls.map fun l => (⟨l.toArray⟩ : Str)).length * (⟨S.toArray⟩ : Str).length ≤ 16777216 := by
    rw [join_len S, List.length_map, len_mk]
    omega
  have hq : Q (.str (Txt.join ⟨S.toArray⟩ (ls.map fun l => (⟨l.toArray⟩ : Str)))) H2 := by
    rw [join_mk]
    exact q _ H2 (s1.trans s2) (.str _)
  rcases hx with rfl | rfl
  · cases rb with
    | tup h r =>
      rw [rpA_strs r] at h
      exact ⟨_, _, _, rp_str ra, rfl, .inr (sqt_mono (mask_sub B H2) (SqT.of h)), hz, hq⟩
  · cases rb with
    | lst h r =>
      rw [rpA_strs r] at h
      exact ⟨_, _, _, rp_str ra, rfl, .inl (SqL.of (mask_sub B H2 _ _ h)), hz, hq⟩
/-- one sign in a text -/
theorem d_inSign {a b : Expr} {c : Nat} {l : List Nat} {pos : Pos} (ha : D X E a ρ (.ok (.str [c]))) (hb : D X E b ρ (.ok (.str l))) (hm : behindInMarks .In b = false := by rfl) : D X E (.Compare a [.In] [b] pos) ρ (.ok (.bl (decide (c ∈ l)))) :=
  d_cmp op_in_sign (fun B H vx vy Q cv rx ry q => ⟨c, _, rp_str rx, rp_str ry, q _ H (Same.refl H) (.bl _)⟩) ha hb hm
end
end G

set_option Elab.async false
set_option linter.all false
set_option maxRecDepth 100000
set_option maxHeartbeats 2000000
namespace G
open PySem PySem.Spec PyProof.Rows L2 TL

theorem EnvR.grow {K : PySem.W.Frag} {B B' : Addr → Bool} {H H' : Hp} {σ : L2.St} {ρ : List Sl} (e : EnvR K B H σ ρ) (hb : ∀ a, B a = true → B' a = true) (hs : Same H H') (hm : Same (mask B H) (mask B' H')) : EnvR K B' H' σ ρ := by
  refine ⟨e.len, fun i s h => ?_, e.sep⟩
  obtain ⟨o, h1, h2⟩ := e.at_ i s h
  refine ⟨o, h1, ?_⟩
  cases s with
  | un => exact True.intro
  | dt d =>
    cases o with
    | none => exact h2.elim
    | some v => exact Rp.mono hm h2
  | rf a =>
    cases o with
    | none => exact h2.elim
    | some v => exact h2
  | ml a ds =>
    cases o with
    | none => exact h2.elim
    | some v =>
      obtain ⟨e1, e2, vs, e3, e4⟩ := h2
      exact ⟨e1, hb _ e2, vs, hs _ _ e3, e4.mono hm⟩
  | md a kvs =>
    cases o with
    | none => exact h2.elim
    | some v =>
      obtain ⟨e1, e2, e3⟩ := h2
      exact ⟨e1, hb _ e2, hs _ _ e3⟩
  | di a =>
    cases o with
    | none => exact h2.elim
    | some v =>
      obtain ⟨e1, e2, c, n, e3⟩ := h2
      exact ⟨e1, hb _ e2, c, n, hs _ _ e3⟩
  | mg a oo ds =>
    cases o with
    | none => exact h2.elim
    | some v =>
      obtain ⟨e1, e2, vs, e3, e5, e4⟩ := h2
      exact ⟨e1, hb _ e2, vs, hs _ _ e3, e5, e4.mono hm⟩

/-! ### what is walked -/
def Yields (K : PySem.W.Frag) (B : Addr → Bool) (J : It) (H1 : Hp) (xs : List Dat) : Prop := ∀ (i : Nat) (H : Hp) (B' : Addr → Bool), Cov B' H → Sm (mask B H1) (mask B' H) →
  (i < xs.length → J.go i H ∧ ∀ v H', J.yld i H v H' → Same H H' ∧ ∃ d, xs[i]? = some d ∧ Rp K (mask B' H') v d) ∧ (i = xs.length → J.stop i H)
def tI (K : PySem.W.Frag) (ρ : List Sl) (xs : List Dat) : TI := fun σ H R => ∃ B, Cov B H ∧ EnvR K B H σ ρ ∧ ∀ J H1, Same H H1 → Yields K B J H1 xs → R J H1
abbrev I (X : Cx) (tg iter : Expr) (ρ : List Sl) (xs : List Dat) : Prop := PI X tg iter (tI X.K ρ xs)
theorem pi_imp {X : Cx} {tg iter : Expr} {t t' : TI} (h : PI X tg iter t) (k : ∀ σ H Q, t' σ H Q → t σ H Q) : PI X tg iter t' := ⟨fun pins s σ H R J q => h.run pins s σ H R J (k σ H R q)⟩
section
variable {X : Cx} {E : XK} {ρ : List Sl} {tg : Expr}
theorem i_list {e : Expr} {xs : List Dat} (h : D X E0 e ρ (.ok (.lst xs))) : I X tg e ρ xs :=
  pi_imp (pi_list h) fun σ H R ⟨B, c, en, q⟩ => ⟨B, c, en, fun v H1 s1 rv => by
    cases rv with
    | @lst a vs _ hs r =>
      refine ⟨a, rfl, ⟨vs, SqL.of (mask_sub B H1 _ _ hs)⟩, q _ H1 s1 fun i H2 B' cv sm => ?_⟩
      have hq : SqL X.K H2 a vs := SqL.of (mask_sub B' H2 _ _ (sm _ _ hs fun _ z => by cases z))
      refine ⟨fun hi => ⟨⟨vs, vs[i]'(by rw [r.length]; exact hi), hq, List.getElem?_eq_getElem _⟩, fun v H' y => ?_⟩, fun hi => ⟨vs, hq, by rw [r.length, hi]; exact Nat.le_refl _⟩⟩
      obtain ⟨e1, y⟩ := y
      subst e1
      obtain ⟨d, h1, h2⟩ := r.getV (y vs hq)
      exact ⟨Same.refl _, d, h1, h2.monoN sm⟩⟩
theorem i_tup {e : Expr} {xs : List Dat} (h : D X E0 e ρ (.ok (.tup xs))) : I X tg e ρ xs :=
  pi_imp (pi_tup h) fun σ H R ⟨B, c, en, q⟩ => ⟨B, c, en, fun v H1 s1 rv => by
    cases rv with
    | @tup a vs _ hs r =>
      refine ⟨a, rfl, ⟨vs, sqt_mono (mask_sub B H1) (SqT.of hs)⟩, q _ H1 s1 fun i H2 B' cv sm => ?_⟩
      have hq : SqT X.K H2 a vs := sqt_mono (mask_sub B' H2) (sqt_monoN sm (SqT.of hs))
      refine ⟨fun hi => ⟨⟨vs, vs[i]'(by rw [r.length]; exact hi), hq, List.getElem?_eq_getElem _⟩, fun v H' y => ?_⟩, fun hi => ⟨vs, hq, by rw [r.length, hi]; exact Nat.le_refl _⟩⟩
      obtain ⟨e1, y⟩ := y
      subst e1
      obtain ⟨d, h1, h2⟩ := r.getV (y vs hq)
      exact ⟨Same.refl _, d, h1, h2.monoN sm⟩⟩
theorem i_str {e : Expr} {l : List Nat} (h : D X E0 e ρ (.ok (.str l))) : I X tg e ρ (l.map fun c => .str [c]) :=
  pi_imp (pi_str h) fun σ H R ⟨B, c, en, q⟩ => ⟨B, c, en, fun v H1 s1 rv => by
    refine ⟨_, rp_str rv, q _ H1 s1 fun i H2 B' cv sm => ?_⟩
    refine ⟨fun hi => ⟨by rw [List.length_map] at hi; exact (show i < l.toArray.size by simpa using hi), fun v H' y => ?_⟩, fun hi => by rw [List.length_map] at hi; exact (show l.toArray.size ≤ i by simp [hi])⟩
    obtain ⟨e1, c, hc, e2⟩ := y
    subst e1 e2
    have hc' : l[i]? = some c := by simpa using hc
    exact ⟨Same.refl _, .str [c], by rw [List.getElem?_map, hc']; rfl, .str [c]⟩⟩
def rangeD (lo n : Int) : List Dat := (List.range (n - lo).toNat).map fun k => .int (lo + (k : Nat))
theorem yields_range {K : PySem.W.Frag} {B : Addr → Bool} {H1 : Hp} {lo : Int} {n : Nat} : Yields K B (Itr lo n) H1 ((List.range n).map fun k => .int (lo + (k : Nat))) := fun i H2 B' cv sm => by
  rw [List.length_map, List.length_range]
  refine ⟨fun hi => ⟨hi, fun v H' y => ?_⟩, fun hi => Nat.le_of_eq hi.symm⟩
  obtain ⟨e1, e2⟩ := y
  subst e1 e2
  exact ⟨Same.refl _, _, by rw [List.getElem?_map, List.getElem?_range hi]; rfl, .int _⟩
theorem i_range1 {a : Expr} {n : Int} {p pos : Pos} (hm : X.mg "range" = none) (ha : D X E0 a ρ (.ok (.int n))) (h : -(2 ^ 62) ≤ n ∧ n < 2 ^ 62) (hg : Gl X "range" := by rfl) (hs : starEach [a] X.env = [(false, eval a X.env)] := by rfl) :
    I X tg (.Call (.Name "range" p) [a] [] pos) ρ (rangeD 0 n) :=
  pi_imp (pi_range1 hg hm (da_one ha hs) hs) fun σ H R ⟨B, c, en, q⟩ => ⟨B, c, en, fun vs H1 s1 rs => by
    obtain ⟨v, rfl, rv⟩ := rpA_one rs
    refine ⟨n, by rw [rp_int rv], h.1, h.2, q _ H1 s1 ?_⟩
    have z := yields_range (K := X.K) (B := B) (H1 := H1) (lo := 0) (n := n.toNat)
    unfold rangeD
    rw [Int.sub_zero]
    exact z⟩
theorem i_range2 {a b : Expr} {m n : Int} {p pos : Pos} (hm : X.mg "range" = none) (ha : D X E0 a ρ (.ok (.int m))) (hb : D X E0 b ρ (.ok (.int n))) (h : -(2 ^ 62) ≤ m ∧ m < 2 ^ 62 ∧ -(2 ^ 62) ≤ n ∧ n < 2 ^ 62) (hg : Gl X "range" := by rfl)
    (hs : starEach [a, b] X.env = [(false, eval a X.env), (false, eval b X.env)] := by rfl) (hs2 : starEach [b] X.env = [(false, eval b X.env)] := by rfl) :
    I X tg (.Call (.Name "range" p) [a, b] [] pos) ρ (rangeD m n) :=
  pi_imp (pi_range2 hg hm (da_cons ha (da_one hb hs2) (by rw [hs, hs2])) hs hs2) fun σ H R ⟨B, c, en, q⟩ => ⟨B, c, en, fun vs H1 s1 rs => by
    obtain ⟨v, w, rfl, rv, rw'⟩ := rpA_two rs
    exact ⟨m, n, by rw [rp_int rv, rp_int rw'], h, q _ H1 s1 yields_range⟩⟩
theorem yields_rangeC {K : PySem.W.Frag} {B : Addr → Bool} {H1 : Hp} {lo c : Int} {n : Nat} : Yields K B (Itc lo c n) H1 ((List.range n).map fun k => .int (lo + (k : Nat) * c)) := fun i H2 B' cv sm => by
  rw [List.length_map, List.length_range]
  refine ⟨fun hi => ⟨hi, fun v H' y => ?_⟩, fun hi => Nat.le_of_eq hi.symm⟩
  obtain ⟨e1, e2⟩ := y
  subst e1 e2
  exact ⟨Same.refl _, _, by rw [List.getElem?_map, List.getElem?_range hi]; rfl, .int _⟩
/-- range(m, n, 2) -/
theorem i_range3 {a b c : Expr} {m n k : Int} {N : Nat} {p pos : Pos} (hm : X.mg "range" = none) (ha : D X E0 a ρ (.ok (.int m))) (hb : D X E0 b ρ (.ok (.int n))) (hc : D X E0 c ρ (.ok (.int k))) (h : RgC m n k N) (hg : Gl X "range" := by rfl)
    (h3 : PA X [a, b, c] (tDA X.K E0 ρ (.ok [.int m, .int n, .int k])) → PI X tg (.Call (.Name "range" p) [a, b, c] [] pos) (iRng3 (tDA X.K E0 ρ (.ok [.int m, .int n, .int k]))))
    (hs : starEach [a, b, c] X.env = (false, eval a X.env) :: starEach [b, c] X.env := by rfl) (hs1 : starEach [b, c] X.env = (false, eval b X.env) :: starEach [c] X.env := by rfl) (hs2 : starEach [c] X.env = (false, eval c X.env) :: starEach [] X.env := by rfl) :
    I X tg (.Call (.Name "range" p) [a, b, c] [] pos) ρ ((List.range N).map fun j => .int (m + (j : Nat) * k)) :=
  pi_imp (h3 (da_cons ha (da_cons hb (da_one hc hs2) hs1) hs)) fun σ H R ⟨B, c, en, q⟩ => ⟨B, c, en, fun vs H1 s1 rs => by
    cases rs with
    | cons r1 rs =>
      obtain ⟨v, w, rfl, rv, rw'⟩ := rpA_two rs
      exact ⟨m, n, k, N, by rw [rp_int r1, rp_int rv, rp_int rw'], h, q _ H1 s1 yields_rangeC⟩⟩
/-- reversed(range(n)) -/
theorem i_revR {a : Expr} {n : Int} {p p2 pos pos2 : Pos} (hm : X.mg "reversed" = none) (hm2 : X.mg "range" = none) (ha : D X E0 a ρ (.ok (.int n))) (h : 0 ≤ n ∧ n < 1000) (hg : Gl X "reversed" := by rfl) (hg2 : Gl X "range" := by rfl)
    (na : starEach [a] X.env = (false, eval a X.env) :: starEach [] X.env := by rfl) (hs : starEach [.Call (.Name "range" p2) [a] [] pos2] X.env = (false, eval (.Call (.Name "range" p2) [a] [] pos2) X.env) :: starEach [] X.env := by rfl) :
    I X tg (.Call (.Name "reversed" p) [.Call (.Name "range" p2) [a] [] pos2] [] pos) ρ ((List.range n.toNat).map fun k => .int (n - 1 - (k : Nat))) :=
  pi_imp (pi_revR hg hm (prg_1 hg2 hm2 ha na) hs) fun σ H R ⟨B, c, en, q⟩ => ⟨B, c, en, fun v H1 s1 rv => by
    refine ⟨n, rp_int rv, by omega, by omega, by omega, by omega, q _ H1 s1 ?_⟩
    have z := yields_rangeC (K := X.K) (B := B) (H1 := H1) (lo := 0 + (((n - 0).toNat : Nat) : Int) - 1) (c := -1) (n := (n - 0).toNat)
    have e : ((List.range (n - 0).toNat).map fun k => Dat.int (0 + (((n - 0).toNat : Nat) : Int) - 1 + (k : Nat) * -1)) = (List.range n.toNat).map fun k => Dat.int (n - 1 - (k : Nat)) := by
      rw [Int.sub_zero]
      refine List.map_congr_left fun k hk => ?_
      congr 1
      omega
    rw [e] at z
    exact z⟩
/-- reversed(tuple) -/
theorem i_revT {a : Expr} {xs : List Dat} {p pos : Pos} (hm : X.mg "reversed" = none) (ha : D X E0 a ρ (.ok (.tup xs))) (hg : Gl X "reversed" := by rfl) (hs : starEach [a] X.env = (false, eval a X.env) :: starEach [] X.env := by rfl) :
    I X tg (.Call (.Name "reversed" p) [a] [] pos) ρ xs.reverse :=
  pi_imp (RT.pi_revA hg hm ha hs) fun σ H R ⟨B, c, en, q⟩ => ⟨B, c, en, fun v H1 s1 rv => by
    cases rv with
    | @tup a vs _ hs r =>
      refine ⟨a, vs, rfl, .inr ⟨sqt_mono (mask_sub B H1) (SqT.of hs), q _ H1 s1 fun i H2 B' cv sm => ?_⟩⟩
      have hq : SqT X.K H2 a vs := sqt_mono (mask_sub B' H2) (sqt_monoN sm (SqT.of hs))
      have hl := r.length
      rw [List.length_reverse, ← hl]
      refine ⟨fun hi => ⟨⟨hi, vs, vs[vs.length - 1 - i]'(by omega), hq, List.getElem?_eq_getElem _⟩, fun v H' y => ?_⟩, fun hi => Nat.le_of_eq hi.symm⟩
      obtain ⟨e1, y⟩ := y
      subst e1
      obtain ⟨d, h1, h2⟩ := r.getV (y vs hq)
      refine ⟨Same.refl _, d, ?_, h2.monoN sm⟩
      rw [List.getElem?_reverse (by omega), ← hl]
      exact h1⟩

/-! ### targets -/
theorem wipe_set {σ : L2.St} {i : Nat} {o : Option V} : ∀ {vs : List Nat}, i ∈ vs → L2.wipe (σ.set i o) vs = L2.wipe σ vs
  | [], h => by cases h
  | v :: vs, h => by
    show (L2.wipe (σ.set i o) vs).set v none = (L2.wipe σ vs).set v none
    by_cases hv : i ∈ vs
    · rw [wipe_set hv]
    · have e : i = v := by
        rcases List.mem_cons.mp h with z | z
        · exact z
        · exact absurd z hv
      subst e
      have q : ∀ (vs : List Nat) (σ : L2.St), i ∉ vs → (L2.wipe (σ.set i o) vs).set i none = (L2.wipe σ vs).set i none := by
        intro vs
        induction vs with
        | nil =>
          intro σ _
          show (σ.set i o).set i none = σ.set i none
          rw [List.set_set]
        | cons u vs ih =>
          intro σ hn
          have h1 : i ≠ u := fun z => hn (by rw [z]; exact List.mem_cons_self)
          have h2 : i ∉ vs := fun z => hn (List.mem_cons_of_mem _ z)
          show ((L2.wipe (σ.set i o) vs).set u none).set i none = ((L2.wipe σ vs).set u none).set i none
          rw [List.set_comm _ _ (Ne.symm h1), ih σ h2, List.set_comm _ _ h1]
      exact q vs σ hv
def tG (K : PySem.W.Frag) (is : List Nat) (pr : Dat → Prop) (bd : Dat → List Sl → List Sl) : TG := fun v σ H Q => ∃ B x ρ, Cov B H ∧ EnvR K B H σ ρ ∧ Rp K (mask B H) v x ∧ pr x ∧
  ∀ σ', EnvR K B H σ' (bd x ρ) → (∀ vs : List Nat, (∀ i ∈ is, i ∈ vs) → L2.wipe σ' vs = L2.wipe σ vs) → Q σ' H
abbrev GT (X : Cx) (tg : Expr) (is : List Nat) (pr : Dat → Prop) (bd : Dat → List Sl → List Sl) : Prop := PG X tg (tG X.K is pr bd)
theorem pg_imp {X : Cx} {tg : Expr} {t t' : TG} (h : PG X tg t) (k : ∀ v σ H Q, t' v σ H Q → t v σ H Q) : PG X tg t' := ⟨fun pins s σ H x v Q J r q => h.run pins s σ H x v Q J r (k x σ H Q q)⟩
abbrev bd1 (i : Nat) : Dat → List Sl → List Sl := fun x ρ => ρ.set i (.dt x)
theorem gt_name {i : Nat} {x : Str} {pos : Pos} (hN : X.N.Nodup) (hi : X.N[i]? = some x := by rfl) (hx : Loc X.env.scope x := by first | exact Or.inl rfl | exact Or.inr rfl) (hf : X.fn x = true ∨ X.env.scope.names.lookup x = some .local := by first | exact .inl rfl | exact .inr rfl | assumption) :
    GT X (.Name x pos) [i] (fun _ => True) (bd1 i) :=
  pg_imp (pg_name hN hi hx hf) fun v σ H Q ⟨B, x, ρ, c, en, rv, _, q⟩ => q _ (en.setD i rv) fun vs h => wipe_set (h i (List.mem_singleton.mpr rfl))
def prPair : Dat → Prop := fun x => ∃ a b, x = .tup [a, b]
def bd2 (i j : Nat) : Dat → List Sl → List Sl := fun x ρ => match x with
  | .tup [a, b] => (ρ.set i (.dt a)).set j (.dt b)
  | _ => ρ
theorem gt_pair {i j : Nat} {x y : Str} {p1 p2 pos : Pos} {kk : Nat} (hc : X.calm = true) (hN : X.N.Nodup) (h2 : PGs X [.Name x p1, .Name y p2] (gCons (gName i) (gCons (gName j) gNil)) → PG X (.Tuple [.Name x p1, .Name y p2] kk pos) (gTup X.K 2 (gCons (gName i) (gCons (gName j) gNil)))) (hg : PGs X [.Name x p1, .Name y p2] (gCons (gName i) (gCons (gName j) gNil))) :
    GT X (.Tuple [.Name x p1, .Name y p2] kk pos) [i, j] prPair (bd2 i j) :=
  pg_imp (h2 hg) fun v σ H Q ⟨B, x, ρ, c, en, rv, ⟨a, b, e⟩, q⟩ => by
    subst e
    cases rv with
    | @tup ad vs _ hs r =>
      obtain ⟨va, vb, rfl, ra, rb⟩ := rpA_two r
      exact ⟨ad, [va, vb], rfl, sqt_mono (mask_sub B H) (SqT.of hs), rfl, va, [vb], rfl, vb, [], rfl, rfl, q _ ((en.setD i ra).setD j rb) fun vs h => by rw [wipe_set (h j (by simp)), wipe_set (h i (by simp))]⟩

/-! ### list comprehensions -/
theorem lc_core2 {J : It} {B : Addr → Bool} {H1 : Hp} {xs : List Dat} {pr : Dat → Prop} {is vs : List Nat} {bd : Dat → List Sl → List Sl} {p : Dat → Bool} {f : Dat → Dat} {K : PySem.W.Frag} {σ : L2.St} {Q : VK} {Dl : Addr} {tt : TT} {te : TE}
    (cv : Cov B H1) (en : EnvR K B H1 σ ρ) (hy : Yields K B J H1 xs) (hpr : ∀ x ∈ xs, pr x) (his : ∀ i ∈ is, i ∈ vs) (hl : xs.length ≤ 100000)
    (ht : ∀ x ∈ xs, ∀ B σ' H Q, Cov B H → EnvR K B H σ' (bd x (wipeρ ρ vs)) → (∀ H', Same H H' → Q (p x) H') → tt σ' H Q)
    (he : ∀ x ∈ xs, p x = true → ∀ B σ' H Q, Cov B H → EnvR K B H σ' (bd x (wipeρ ρ vs)) → (∀ v H', Same H H' → Rp K (mask B H') v (f x) → Q v H') → te σ' H Q)
    (nD : H1 Dl = none) (q : ∀ H', Same H1 H' → Rp K (mask B H') (.ref Dl) (.lst ((xs.filter p).map f)) → Q (.ref Dl) H') :
    ∃ W : Nat → Nat → Hp → Prop, (∃ m, W 0 m (upd H1 Dl (.lst []))) ∧ ∀ i m H, W i m H →
      (J.stop i H ∧ Q (.ref Dl) H) ∨ (J.go i H ∧ ∃ Nx : Hp → Prop, (∀ H', Nx H' → ∃ m', m' < m ∧ W (i + 1) m' H') ∧ ∀ x H', J.yld i H x H' → tG K is pr bd x (L2.wipe σ vs) H' fun σ2 H2 => L2.wipe σ2 vs = L2.wipe σ vs ∧ tt σ2 H2 fun b H3 =>
        if b = true then te σ2 H3 fun y H4 => ∃ acc, H4 Dl = some (.lst acc) ∧ acc.length < sizeLine ∧ Nx (upd H4 Dl (.lst (acc ++ [y]))) else Nx H3) := by
  have nB : B Dl = false := cv.new nD
  let B' : Addr → Bool := fun a => B a || decide (a = Dl)
  have hB' : ∀ a, B a = true → B' a = true := fun a h => by show (B a || _) = true; rw [h]; rfl
  have hBD : B' Dl = true := by show (B Dl || decide (Dl = Dl)) = true; simp
  have outB : ∀ a, B' a = false → B a = false ∧ a ≠ Dl := fun a h => by
    have h : (B a || decide (a = Dl)) = false := h
    rw [Bool.or_eq_false_iff] at h
    exact ⟨h.1, of_decide_eq_false h.2⟩
  let Pv : Nat → Hp → Prop := fun i H => Same H1 H ∧ ∃ us, H Dl = some (.lst us) ∧ us.length ≤ i ∧ RpA K (mask B' H) us ((((xs.take i).filter p)).map f)
  have covP : ∀ {i H}, Pv i H → Cov B' H := fun {i H} ⟨s, us, h, _⟩ a ha n => by
    by_cases e : a = Dl
    · rw [e, h] at n
      rcases n with n | ⟨_, n⟩ <;> cases n
    · have hb : B a = true := by
        have ha : (B a || decide (a = Dl)) = true := ha
        rw [decide_eq_false e, Bool.or_false] at ha
        exact ha
      exact (cv.same s) a hb n
  have maskP : ∀ {i H}, Pv i H → Same (mask B H1) (mask B' H) := fun {i H} ⟨s, _⟩ a o h => by
    obtain ⟨h1, h2⟩ := mask_some h
    have e : a ≠ Dl := ne_of_none h2 nD
    rw [mask_out (by show (B a || decide (a = Dl)) = false; rw [h1, decide_eq_false e]; rfl)]
    exact s _ _ h2
  refine ⟨fun i m H => m = xs.length - i ∧ i ≤ xs.length ∧ Pv i H, ⟨xs.length, by simp, Nat.zero_le _, same_upd nD, [], upd_same, Nat.le_refl _, .nil⟩, ?_⟩
  rintro i m H ⟨rfl, hi, pv⟩
  have cvH := covP pv
  have yy := hy i H B' cvH (Sm.of (maskP pv))
  obtain ⟨s, us, hD, hu, ru⟩ := id pv
  by_cases hlt : i < xs.length
  · obtain ⟨go, y⟩ := yy.1 hlt
    refine .inr ⟨go, Pv (i + 1), fun H' p' => ⟨xs.length - (i + 1), by omega, rfl, hlt, p'⟩, fun v H' yv => ?_⟩
    obtain ⟨s', d, hd, rd⟩ := y v H' yv
    have hmem : d ∈ xs := List.mem_of_getElem? hd
    have cv' : Cov B' H' := cvH.same s'
    have en' : EnvR K B' H' (L2.wipe σ vs) (wipeρ ρ vs) := (en.wipe vs).grow hB' (s.trans s') fun a o h => mask_same s' _ _ (maskP pv a o h)
    refine ⟨B', d, wipeρ ρ vs, cv', en', rd, hpr d hmem, fun σ2 en2 hw => ⟨by rw [hw vs his]; exact wipe_wipe σ vs, ?_⟩⟩
    refine ht d hmem B' σ2 H' _ cv' en2 fun H3 s3 => ?_
    have pvn : ∀ {H4 : Hp}, Same H' H4 → H4 Dl = some (.lst us) ∧ RpA K (mask B' H4) us (((xs.take i).filter p).map f) := fun {H4} s4 => ⟨s4 _ _ (s' _ _ hD), ru.mono (mask_same (s'.trans s4))⟩
    have tk : xs.take (i + 1) = xs.take i ++ [d] := by rw [List.take_add_one, hd]; rfl
    cases hp : p d with
    | false =>
      refine iteF ?_
      obtain ⟨z1, z2⟩ := pvn s3
      refine ⟨(s.trans s').trans s3, us, z1, Nat.le_succ_of_le hu, ?_⟩
      rw [tk, List.filter_append, show [d].filter p = [] by simp [hp], List.append_nil]
      exact z2
    | true =>
      refine iteT ?_
      refine he d hmem hp B' σ2 H3 _ (cv'.same s3) (en2.same s3) fun y H4 s4 ry => ?_
      obtain ⟨z1, z2⟩ := pvn (s3.trans s4)
      have hmask : mask B' (upd H4 Dl (.lst (us ++ [y]))) = mask B' H4 := by
        funext a
        by_cases e : a = Dl
        · rw [e, mask_in hBD, mask_in hBD]
        · unfold mask
          rw [upd_ne e]
      refine ⟨us, z1, Nat.lt_of_le_of_lt (Nat.le_trans hu (Nat.le_trans hi hl)) (by decide), fun a o h => ?_, us ++ [y], upd_same, by rw [List.length_append]; exact Nat.add_le_add hu (Nat.le_refl 1), ?_⟩
      · rw [upd_ne (ne_of_none h nD)]
        exact ((s.trans s').trans (s3.trans s4)) _ _ h
      · rw [hmask, tk, List.filter_append, show [d].filter p = [d] by simp [hp], List.map_append]
        exact z2.append (.cons ry .nil)
  · have e : i = xs.length := by omega
    subst e
    refine .inl ⟨yy.2 rfl, q H s ?_⟩
    rw [List.take_length] at ru
    refine .lst ?_ (ru.mono (mask_le hB'))
    rw [mask_out nB]
    exact hD
where
  wipe_wipe (σ : L2.St) (vs : List Nat) : L2.wipe (L2.wipe σ vs) vs = L2.wipe σ vs := by
    have q : ∀ (us vs : List Nat) (σ : L2.St), (∀ u ∈ us, u ∈ vs) → L2.wipe (L2.wipe σ us) vs = L2.wipe σ vs := by
      intro us
      induction us with
      | nil => intro vs σ _; rfl
      | cons u us ih =>
        intro vs σ h
        show L2.wipe ((L2.wipe σ us).set u none) vs = L2.wipe σ vs
        rw [wipe_set (h u List.mem_cons_self), ih vs σ fun z hz => h z (List.mem_cons_of_mem _ hz)]
    exact q vs vs σ fun _ h => h
abbrev Bk (X : Cx) (scope : Scope) (P : Cx → Prop) : Prop := ∀ (s : Shared) (H : Hp) (C : Addr) (cl : List (Str × Addr)) (fp : List Addr), P (X.blk s H scope (compEnvC scope cl C X.env) fp)
theorem d_lc0 {elt iter : Expr} {scope : Scope} {own : List (Str × Nat)} {pos : Pos} {xs : List Dat} {is : List Nat} {pr : Dat → Prop} {bd : Dat → List Sl → List Sl} {f : Dat → Dat} (hc : X.calm = true) (hN : X.N.Nodup) (hi : I X tg iter ρ xs) (ok : BlkOk X.N X.env.scope scope own)
    (hg : Bk X scope fun Y => GT Y tg is pr bd) (he : ∀ x ∈ xs, Bk X scope fun Y => D Y E0 elt (bd x (wipeρ ρ (own.map (·.2)))) (.ok (f x))) (hpr : ∀ x ∈ xs, pr x) (his : ∀ i ∈ is, i ∈ own.map (·.2)) (hl : xs.length ≤ 100000)
    (hs : ∀ x, foldedSetIterable iter X.env x = pure x := by intro _; rfl) : D X E (.ListComp elt [⟨tg, iter, [], 0⟩] scope pos) ρ (.ok (.lst (xs.map f))) := by
  refine D.of (pe_lc (g := tG X.K is pr bd) (te := fun σ H Q => ∃ x : { x // x ∈ xs }, tD X.K E0 (bd x.1 (wipeρ ρ (own.map (·.2)))) (.ok (f x.1)) σ H Q) hc hN hi ok hg (fun _ _ _ _ _ => pts_nil) (fun s H C cl fp => pe_ex fun x => he x.1 x.2 s H C cl fp) hs) fun B σ H Q c en q => ⟨B, c, en, fun J H1 s1 hy Dl nD => ?_⟩
  refine lc_core2 (bd := bd) (tt := tYes) (te := fun σ H Q => ∃ x : { x // x ∈ xs }, tD X.K E0 (bd x.1 (wipeρ ρ (own.map (·.2)))) (.ok (f x.1)) σ H Q) (Q := Q) (p := fun _ => true) (f := f) (c.same s1) (en.same s1) hy hpr his hl (fun x _ B σ' H Q _ _ k => k H (Same.refl H)) (fun x hx _ B σ' H Q cv en k => ⟨⟨x, hx⟩, B, cv, en, k⟩) nD fun H' s' r => ?_
  rw [List.filter_eq_self.mpr fun _ _ => rfl] at r
  exact q _ H' (s1.trans s') r
theorem d_lc1 {elt iter cond : Expr} {scope : Scope} {own : List (Str × Nat)} {pos : Pos} {xs : List Dat} {is : List Nat} {pr : Dat → Prop} {bd : Dat → List Sl → List Sl} {p : Dat → Bool} {f : Dat → Dat} (hc : X.calm = true) (hN : X.N.Nodup) (hi : I X tg iter ρ xs) (ok : BlkOk X.N X.env.scope scope own)
    (hg : Bk X scope fun Y => GT Y tg is pr bd) (ht : ∀ x ∈ xs, Bk X scope fun Y => T Y cond (bd x (wipeρ ρ (own.map (·.2)))) (p x)) (he : ∀ x ∈ xs, p x = true → Bk X scope fun Y => D Y E0 elt (bd x (wipeρ ρ (own.map (·.2)))) (.ok (f x))) (hpr : ∀ x ∈ xs, pr x) (his : ∀ i ∈ is, i ∈ own.map (·.2)) (hl : xs.length ≤ 100000)
    (hs : ∀ x, foldedSetIterable iter X.env x = pure x := by intro _; rfl) : D X E (.ListComp elt [⟨tg, iter, [cond], 0⟩] scope pos) ρ (.ok (.lst ((xs.filter p).map f))) := by
  refine D.of (pe_lc (g := tG X.K is pr bd) (tt := fun σ H Q => ∃ x : { x // x ∈ xs }, tDT X.K (bd x.1 (wipeρ ρ (own.map (·.2)))) (p x.1) σ H Q) (te := fun σ H Q => ∃ x : { x // x ∈ xs ∧ p x = true }, tD X.K E0 (bd x.1 (wipeρ ρ (own.map (·.2)))) (.ok (f x.1)) σ H Q) hc hN hi ok hg (fun s H C cl fp => pts_one (pt_ex fun x => ht x.1 x.2 s H C cl fp)) (fun s H C cl fp => pe_ex fun x => he x.1 x.2.1 x.2.2 s H C cl fp) hs) fun B σ H Q c en q => ⟨B, c, en, fun J H1 s1 hy Dl nD => ?_⟩
  exact lc_core2 (bd := bd) (tt := fun σ H Q => ∃ x : { x // x ∈ xs }, tDT X.K (bd x.1 (wipeρ ρ (own.map (·.2)))) (p x.1) σ H Q) (te := fun σ H Q => ∃ x : { x // x ∈ xs ∧ p x = true }, tD X.K E0 (bd x.1 (wipeρ ρ (own.map (·.2)))) (.ok (f x.1)) σ H Q) (Q := Q) (p := p) (f := f) (c.same s1) (en.same s1) hy hpr his hl (fun x hx B σ' H Q cv en k => ⟨⟨x, hx⟩, B, cv, en, k⟩) (fun x hx hp B σ' H Q cv en k => ⟨⟨x, hx, hp⟩, B, cv, en, k⟩) nD fun H' s' r => q _ H' (s1.trans s') r
end
end G

set_option Elab.async false
set_option linter.all false
set_option maxRecDepth 100000
set_option maxHeartbeats 2000000
namespace G
open PySem PySem.Spec PyProof.Rows L2 TL

/-! ### the world of a body: the caller's heap H0 (masked B0), what of it may change (M), what must stay (fr), what else holds (Iv) -/
def teO : HO → Bool
  | .tbl _ => true
  | .ext _ => true
  | .tup _ => true
  | _ => false
structure Wl where
  H0 : Hp
  B0 : Addr → Bool
  M : Addr → Bool
  fr : Hp
  Iv : Hp → Prop
  st : ∀ H H' : Hp, (∀ a o, H a = some o → teO o = true → H' a = some o) → Iv H → Iv H'
  cov0 : Cov B0 H0
  dc : Addr → Bool
  tT : Addr → Bool
def Wl.fram (W : Wl) (fr : Hp) : Wl := { W with fr := fr }
structure Wd (W : Wl) (B : Addr → Bool) (H : Hp) : Prop where
  old : ∀ a o, W.M a = false → W.H0 a = some o → H a = some o
  b0 : ∀ a, W.B0 a = true → B a = true
  cov : Cov B H
  fr : Sm W.fr (mask B H)
  iv : W.Iv H
  di : ∀ a, W.dc a = true → B a = true ∧ ∃ c n, H a = some (.lst [.int c, .int n])
  tb : ∀ a ps, B a = true → H a = some (.tbl ps) → W.tT a = true
/-- a place that may be written -/
def Wr (W : Wl) (a : Addr) : Prop := (W.M a = false → W.H0 a = none) ∧ W.dc a = false
theorem Wd.same {W : Wl} {B : Addr → Bool} {H H' : Hp} (w : Wd W B H) (s : Same H H') : Wd W B H' :=
  ⟨fun a o m h => s _ _ (w.old a o m h), w.b0, w.cov.same s, w.fr.trans (Sm.of (mask_same s)), W.st H H' (fun a o h _ => s _ _ h) w.iv, (fun a h => let ⟨h1, c, n, h2⟩ := w.di a h; ⟨h1, c, n, s _ _ h2⟩), fun a ps hb h => by
    cases q : H a with
    | none => exact absurd (Or.inl q) (w.cov a hb)
    | some o =>
      rw [s _ _ q] at h
      have h := Option.some.inj h
      rw [h] at q
      exact w.tb a ps hb q⟩
theorem Wd.new {W : Wl} {B : Addr → Bool} {H : Hp} {p : Addr} (w : Wd W B H) (h : H p = none) : Wr W p := by
  refine ⟨fun m => ?_, ?_⟩
  · cases q : W.H0 p with
    | none => rfl
    | some o =>
      rw [w.old p o m q] at h
      cases h
  · cases q : W.dc p with
    | false => rfl
    | true =>
      obtain ⟨_, c, n, h2⟩ := w.di p q
      rw [h] at h2
      cases h2
inductive Out where
  | nx (ρ : List Sl) : Out
  | rt (d : Dat) : Out
  | er (c : Value) : Out
  | bk (ρ : List Sl) : Out
  | ct (ρ : List Sl) : Out
  | re (ρ : List Sl) (d : Dat) : Out
  | ee (ρ : List Sl) (c : Value) : Out
structure PostS (K : PySem.W.Frag) (E : XK) (W : Wl) (P : Out → Prop) (D : Ends) : Prop where
  nx : ∀ ρ σ H B, P (.nx ρ) → Wd W B H → EnvR K B H σ ρ → D.nx σ H
  rt : ∀ d v H B, P (.rt d) → Wd W B H → Rp K (mask B H) v d → D.rt v H
  er : ∀ c H B, P (.er c) → Wd W B H → E c none H
  bk : ∀ ρ σ H B, P (.bk ρ) → Wd W B H → EnvR K B H σ ρ → D.bk σ H
  ct : ∀ ρ σ H B, P (.ct ρ) → Wd W B H → EnvR K B H σ ρ → D.ct σ H
  re : ∀ ρ σ d v H B, P (.re ρ d) → Wd W B H → EnvR K B H σ ρ → Rp K (mask B H) v d → D.rt v H
  ee : ∀ ρ σ c H B, P (.ee ρ c) → Wd W B H → EnvR K B H σ ρ → E c none H
def tS (K : PySem.W.Frag) (E : XK) (W : Wl) (ρ : List Sl) (P : Out → Prop) : TS := fun D σ H => ∃ B, Wd W B H ∧ EnvR K B H σ ρ ∧ PostS K E W P D
abbrev S1 (X : Cx) (E : XK) (W : Wl) (s : Stmt) (ρ : List Sl) (P : Out → Prop) : Prop := PS X s (tS X.K E W ρ P)
abbrev SS (X : Cx) (E : XK) (W : Wl) (s : List Stmt) (ρ : List Sl) (P : Out → Prop) : Prop := PSs X s (tS X.K E W ρ P)
theorem ps_imp {X : Cx} {s : Stmt} {t t' : TS} (h : PS X s t) (k : ∀ D σ H, t' D σ H → t D σ H) : PS X s t' := ⟨fun pins s σ H D J q => h.run pins s σ H D J (k D σ H q)⟩
theorem pss_imp {X : Cx} {s : List Stmt} {t t' : TS} (h : PSs X s t) (k : ∀ D σ H, t' D σ H → t D σ H) : PSs X s t' := ⟨fun pins s σ H D J q => h.run pins s σ H D J (k D σ H q)⟩
theorem pss_ex {X : Cx} {s : List Stmt} {ι : Type} {t : ι → TS} (h : ∀ i, PSs X s (t i)) : PSs X s (fun D σ H => ∃ i, t i D σ H) := ⟨fun pins s σ H D J ⟨i, q⟩ => (h i).run pins s σ H D J q⟩
theorem ps_ex {X : Cx} {s : Stmt} {ι : Type} {t : ι → TS} (h : ∀ i, PS X s (t i)) : PS X s (fun D σ H => ∃ i, t i D σ H) := ⟨fun pins s σ H D J ⟨i, q⟩ => (h i).run pins s σ H D J q⟩
def Th (X : Cx) (E : XK) (W : Wl) (rest : List Stmt) (P : Out → Prop) : Out → Prop
  | .nx ρ => SS X E W rest ρ P
  | o => P o
section
variable {X : Cx} {E : XK} {W : Wl} {ρ : List Sl} {P : Out → Prop}
theorem SS.mono {s : List Stmt} {P' : Out → Prop} (h : SS X E W s ρ P') (k : ∀ o, P' o → P o) : SS X E W s ρ P :=
  pss_imp h fun D σ H ⟨B, w, en, p⟩ => ⟨B, w, en, fun ρ σ H B q => p.nx ρ σ H B (k _ q), fun d v H B q => p.rt d v H B (k _ q), fun c H B q => p.er c H B (k _ q), fun ρ σ H B q => p.bk ρ σ H B (k _ q), fun ρ σ H B q => p.ct ρ σ H B (k _ q), fun ρ σ d v H B q => p.re ρ σ d v H B (k _ q), fun ρ σ c H B q => p.ee ρ σ c H B (k _ q)⟩
theorem S1.mono {s : Stmt} {P' : Out → Prop} (h : S1 X E W s ρ P') (k : ∀ o, P' o → P o) : S1 X E W s ρ P :=
  ps_imp h fun D σ H ⟨B, w, en, p⟩ => ⟨B, w, en, fun ρ σ H B q => p.nx ρ σ H B (k _ q), fun d v H B q => p.rt d v H B (k _ q), fun c H B q => p.er c H B (k _ q), fun ρ σ H B q => p.bk ρ σ H B (k _ q), fun ρ σ H B q => p.ct ρ σ H B (k _ q), fun ρ σ d v H B q => p.re ρ σ d v H B (k _ q), fun ρ σ c H B q => p.ee ρ σ c H B (k _ q)⟩
theorem SS.weak {s : List Stmt} {ρ' : List Sl} (h : SS X E W s ρ' P) (w : Wk ρ ρ') : SS X E W s ρ P := pss_imp h fun D σ H ⟨B, wd, en, p⟩ => ⟨B, wd, en.weak w, p⟩
theorem ss_nil (h : P (.nx ρ)) : SS X E W [] ρ P := pss_imp pss_nil fun D σ H ⟨B, w, en, p⟩ => p.nx ρ σ H B h w en
theorem ss_cons {s : Stmt} {rest : List Stmt} (h : S1 X E W s ρ (Th X E W rest P)) : SS X E W (s :: rest) ρ P := by
  refine pss_imp (pss_cons h (pss_ex (ι := { ρ' // SS X E W rest ρ' P }) (t := fun r => tS X.K E W r.1 P) fun r => r.2)) fun D σ H ⟨B, w, en, p⟩ => ?_
  exact ⟨B, w, en, fun ρ' σ' H' B' q w' en' => ⟨⟨ρ', q⟩, B', w', en', p⟩, p.rt, p.er, p.bk, p.ct, p.re, p.ee⟩
theorem ss_one {s : Stmt} (h : S1 X E W s ρ P) : SS X E W [s] ρ P := ss_cons (h.mono fun o q => by
  cases o with
  | nx ρ => exact ss_nil q
  | rt d => exact q
  | er c => exact q
  | bk ρ => exact q
  | ct ρ => exact q
  | re ρ d => exact q
  | ee ρ c => exact q)
theorem s_ret {e : Expr} {d : Dat} {pos : Pos} (h : D X E e ρ (.ok d)) (q : P (.rt d)) : S1 X E W (.Return (some e) pos) ρ P :=
  ps_imp (ps_ret h) fun D σ H ⟨B, w, en, p⟩ => ⟨B, w.cov, en, fun v H' s r => p.rt d v H' B q (w.same s) r⟩
theorem s_retE {e : Expr} {c : Value} {pos : Pos} (h : D X E e ρ (.err c)) (q : P (.er c)) : S1 X E W (.Return (some e) pos) ρ P :=
  ps_imp (ps_ret h) fun D σ H ⟨B, w, en, p⟩ => ⟨B, w.cov, en, fun H' s => p.er c H' B q (w.same s)⟩
theorem s_expr {e : Expr} {d : Dat} {pos : Pos} (h : D X E e ρ (.ok d)) (q : P (.nx ρ)) (hs : swapsWith e none pos.line X.env = pure false := by rfl) : S1 X E W (.Expr e pos) ρ P :=
  ps_imp (ps_expr h hs) fun D σ H ⟨B, w, en, p⟩ => ⟨B, w.cov, en, fun v H' s r => p.nx ρ σ H' B q (w.same s) (en.same s)⟩
theorem s_exprE {e : Expr} {c : Value} {pos : Pos} (h : D X E e ρ (.err c)) (q : P (.er c)) (hs : swapsWith e none pos.line X.env = pure false := by rfl) : S1 X E W (.Expr e pos) ρ P :=
  ps_imp (ps_expr h hs) fun D σ H ⟨B, w, en, p⟩ => ⟨B, w.cov, en, fun H' s => p.er c H' B q (w.same s)⟩
theorem s_set (i : Nat) {x : Str} {e : Expr} {d : Dat} {pos pos' : Pos} (hN : X.N.Nodup) (h : D X E e ρ (.ok d)) (q : P (.nx (ρ.set i (.dt d)))) (hi : X.N[i]? = some x := by rfl) (hx : Loc X.env.scope x := by first | exact Or.inl rfl | exact Or.inr rfl)
    (hs : swapsWith e (some (.Name x pos')) pos.line X.env = pure false := by rfl) (hf : X.fn x = true ∨ X.env.scope.names.lookup x = some .local := by first | exact .inl rfl | exact .inr rfl | assumption) : S1 X E W (.Assign [.Name x pos'] e pos) ρ P :=
  ps_imp (ps_set hN hi hx h hs hf) fun D σ H ⟨B, w, en, p⟩ => ⟨B, w.cov, en, fun v H' s r => p.nx _ _ H' B q (w.same s) ((en.same s).setD i r)⟩
theorem s_setE {x : Str} {i : Nat} {e : Expr} {c : Value} {pos pos' : Pos} (hN : X.N.Nodup) (h : D X E e ρ (.err c)) (q : P (.er c)) (hi : X.N[i]? = some x := by rfl) (hx : Loc X.env.scope x := by first | exact Or.inl rfl | exact Or.inr rfl)
    (hs : swapsWith e (some (.Name x pos')) pos.line X.env = pure false := by rfl) (hf : X.fn x = true ∨ X.env.scope.names.lookup x = some .local := by first | exact .inl rfl | exact .inr rfl | assumption) : S1 X E W (.Assign [.Name x pos'] e pos) ρ P :=
  ps_imp (ps_set hN hi hx h hs hf) fun D σ H ⟨B, w, en, p⟩ => ⟨B, w.cov, en, fun H' s => p.er c H' B q (w.same s)⟩
theorem s_if {c : Expr} {th el : List Stmt} {b : Bool} {pos : Pos} (t : T X c ρ b) (h1 : b = true → SS X E W th ρ P) (h2 : b = false → SS X E W el ρ P) : S1 X E W (.If c th el pos) ρ P := by
  cases b with
  | true =>
    refine ps_imp (ps_if t (h1 rfl) pss_never) fun D σ H ⟨B, w, en, p⟩ => ⟨B, w.cov, en, fun H' s => ?_⟩
    exact iteT ⟨B, w.same s, en.same s, p⟩
  | false =>
    refine ps_imp (ps_if t pss_never (h2 rfl)) fun D σ H ⟨B, w, en, p⟩ => ⟨B, w.cov, en, fun H' s => ?_⟩
    exact iteF ⟨B, w.same s, en.same s, p⟩
/-- a, b = e, e a pair -/
theorem s_asg2 {i j : Nat} {e tg : Expr} {a b : Dat} {pos : Pos} (hg : GT X tg [i, j] prPair (bd2 i j)) (h : D X E e ρ (.ok (.tup [a, b]))) (q : P (.nx ((ρ.set i (.dt a)).set j (.dt b))))
    (h2 : PE X e (tD X.K E ρ (.ok (.tup [a, b]))) → PG X tg (tG X.K [i, j] prPair (bd2 i j)) → PS X (.Assign [tg] e pos) (tAsg (tD X.K E ρ (.ok (.tup [a, b]))) (tG X.K [i, j] prPair (bd2 i j)))) : S1 X E W (.Assign [tg] e pos) ρ P :=
  ps_imp (h2 h hg) fun D σ H ⟨B, w, en, p⟩ => ⟨B, w.cov, en, fun v H' s r => ⟨B, _, ρ, w.cov.same s, en.same s, r, ⟨a, b, rfl⟩, fun σ' en' _ => p.nx _ _ H' B q (w.same s) en'⟩⟩
/-- a, b = e1, e2: two locals -/
theorem s_par {i j : Nat} {x y : Str} {a b : Expr} {u v : Dat} {px py pt : Pos} {kt k2 : Nat} {pt2 pos : Pos} (h2 : PA X [a, b] (tDA X.K E ρ (.ok [u, v])) → PS X (.Assign [.Tuple [.Name x px, .Name y py] kt pt] (.Tuple [a, b] k2 pt2) pos) (tPar i j (tDA X.K E ρ (.ok [u, v]))))
    (h : DA X E [a, b] ρ (.ok [u, v])) (q : P (.nx ((ρ.set i (.dt u)).set j (.dt v)))) : S1 X E W (.Assign [.Tuple [.Name x px, .Name y py] kt pt] (.Tuple [a, b] k2 pt2) pos) ρ P :=
  ps_imp (h2 h) fun D σ H ⟨B, w, en, p⟩ => ⟨B, w.cov, en, fun vs H' s r => by
    obtain ⟨va, vb, rfl, ra, rb⟩ := rpA_two r
    exact ⟨va, vb, rfl, p.nx _ _ H' B q (w.same s) (((en.same s).setD i ra).setD j rb)⟩⟩
theorem s_parE {i j : Nat} {x y : Str} {a b : Expr} {c : Value} {px py pt : Pos} {kt k2 : Nat} {pt2 pos : Pos} (h2 : PA X [a, b] (tDA X.K E ρ (.error c)) → PS X (.Assign [.Tuple [.Name x px, .Name y py] kt pt] (.Tuple [a, b] k2 pt2) pos) (tPar i j (tDA X.K E ρ (.error c))))
    (h : DA X E [a, b] ρ (.error c)) (q : P (.er c)) : S1 X E W (.Assign [.Tuple [.Name x px, .Name y py] kt pt] (.Tuple [a, b] k2 pt2) pos) ρ P :=
  ps_imp (h2 h) fun D σ H ⟨B, w, en, p⟩ => ⟨B, w.cov, en, fun H' s => p.er c H' B q (w.same s)⟩
/-! ### loops -/
def Lp (R : List Sl → Prop) (P : Out → Prop) : Out → Prop
  | .nx ρ => R ρ
  | .ct ρ => R ρ
  | .bk ρ => P (.nx ρ)
  | .rt d => P (.rt d)
  | .er c => P (.er c)
  | .re ρ d => P (.re ρ d)
  | .ee ρ c => P (.ee ρ c)
theorem s_for {tg iter : Expr} {body : List Stmt} {xs : List Dat} {is : List Nat} {pr : Dat → Prop} {bd : Dat → List Sl → List Sl} {pos : Pos} (R : Nat → List Sl → Prop) (hp : PassesOwn (model X.prog X.w) X.A X.env X.xe) (hi : I X tg iter ρ xs) (hg : GT X tg is pr bd) (hpr : ∀ x ∈ xs, pr x) (h0 : R 0 ρ)
    (hs : ∀ (fr : Hp) (i : Nat) (x : Dat) (ρ' : List Sl), xs[i]? = some x → R i ρ' → SS X E (W.fram fr) body (bd x ρ') (Lp (R (i + 1)) P)) (hd : ∀ ρ', R xs.length ρ' → P (.nx ρ')) (hc : X.calm = true := by rfl) (hf : ∀ x, foldedSetIterable iter X.env x = pure x := by intro _; rfl) :
    S1 X E W (.For tg iter body [] pos) ρ P := by
  refine ps_imp (ps_for (g := tG X.K is pr bd) hp hc hi hg (pss_ex (ι := { q : Hp × Nat × Dat × List Sl // xs[q.2.1]? = some q.2.2.1 ∧ R q.2.1 q.2.2.2 }) (t := fun q => tS X.K E (W.fram q.1.1) (bd q.1.2.2.1 q.1.2.2.2) (Lp (R (q.1.2.1 + 1)) P)) fun q => hs q.1.1 q.1.2.1 q.1.2.2.1 q.1.2.2.2 q.2.1 q.2.2) hf) fun D σ H ⟨B, w, en, p⟩ => ?_
  refine ⟨B, w.cov, en, fun J H1 s1 hy => ⟨fun i m σ H => m = xs.length - i ∧ i ≤ xs.length ∧ ∃ ρ' B', R i ρ' ∧ Wd (W.fram (mask B H1)) B' H ∧ EnvR X.K B' H σ ρ', ⟨xs.length, by simp, Nat.zero_le _, ρ, B, h0, ?_, en.same s1⟩, ?_⟩⟩
  · have w1 := w.same s1
    exact ⟨w1.old, w1.b0, w1.cov, LamX.ExtN.refl _, w1.iv, w1.di, w1.tb⟩
  · rintro i m σ H ⟨rfl, hi', ρ', B', hR, wd, en'⟩
    have back : ∀ {B' : Addr → Bool} {H : Hp}, Wd (W.fram (mask B H1)) B' H → Wd W B' H := fun {B' H} z => ⟨z.old, z.b0, z.cov, (w.same s1).fr.trans z.fr, z.iv, z.di, z.tb⟩
    have yy := hy i H B' wd.cov wd.fr
    by_cases hlt : i < xs.length
    · obtain ⟨go, y⟩ := yy.1 hlt
      refine .inr ⟨go, fun σ' H' => ∃ ρ2 B2, R (i + 1) ρ2 ∧ Wd (W.fram (mask B H1)) B2 H' ∧ EnvR X.K B2 H' σ' ρ2, fun σ' H' z => ⟨xs.length - (i + 1), by omega, rfl, hlt, z⟩, fun v H' yv => ?_⟩
      obtain ⟨s', d, hd', rd⟩ := y v H' yv
      refine ⟨B', d, ρ', wd.cov.same s', en'.same s', rd, hpr d (List.mem_of_getElem? hd'), fun σ2 en2 _ => ⟨⟨(mask B H1, i, d, ρ'), hd', hR⟩, B', wd.same s', en2, ?_⟩⟩
      exact ⟨fun ρ2 σ2 H2 B2 q w2 e2 => ⟨ρ2, B2, q, w2, e2⟩, fun dd v H2 B2 q w2 r2 => p.rt dd v H2 B2 q (back w2) r2, fun c H2 B2 q w2 => p.er c H2 B2 q (back w2), fun ρ2 σ2 H2 B2 q w2 e2 => p.nx ρ2 σ2 H2 B2 q (back w2) e2, fun ρ2 σ2 H2 B2 q w2 e2 => ⟨ρ2, B2, q, w2, e2⟩, fun ρ2 σ2 d v H2 B2 q w2 e2 r2 => p.re ρ2 σ2 d v H2 B2 q (back w2) e2 r2, fun ρ2 σ2 c H2 B2 q w2 e2 => p.ee ρ2 σ2 c H2 B2 q (back w2) e2⟩
    · have e : i = xs.length := by omega
      subst e
      exact .inl ⟨yy.2 rfl, p.nx ρ' σ H B' (hd ρ' hR) (back wd) en'⟩
theorem s_while {c : Expr} {body : List Stmt} {pos : Pos} (R : Nat → List Sl → Prop) (m0 : Nat) (hp : PassesOwn (model X.prog X.w) X.A X.env X.xe) (h0 : R m0 ρ)
    (hs : ∀ (m : Nat) (ρ' : List Sl), R m ρ' → ∃ b, T X c ρ' b ∧ (b = true → SS X E W body ρ' (Lp (fun ρ2 => ∃ m', m' < m ∧ R m' ρ2) P)) ∧ (b = false → P (.nx ρ'))) : S1 X E W (.While c body [] pos) ρ P := by
  refine ps_imp (ps_while hp (pt_ex (ι := { q : Nat × List Sl × Bool // R q.1 q.2.1 ∧ T X c q.2.1 q.2.2 ∧ (q.2.2 = true → SS X E W body q.2.1 (Lp (fun ρ2 => ∃ m', m' < q.1 ∧ R m' ρ2) P)) ∧ (q.2.2 = false → P (.nx q.2.1)) }) (t := fun q => tDT X.K q.1.2.1 q.1.2.2) fun q => q.2.2.1)
    (pss_ex (ι := { q : Nat × List Sl // SS X E W body q.2 (Lp (fun ρ2 => ∃ m', m' < q.1 ∧ R m' ρ2) P) }) (t := fun q => tS X.K E W q.1.2 (Lp (fun ρ2 => ∃ m', m' < q.1.1 ∧ R m' ρ2) P)) fun q => q.2)) fun D σ H ⟨B, w, en, p⟩ => ?_
  refine ⟨fun m σ H => ∃ ρ' B', R m ρ' ∧ Wd W B' H ∧ EnvR X.K B' H σ ρ', ⟨m0, ρ, B, h0, w, en⟩, ?_⟩
  rintro m σ H ⟨ρ', B', hR, wd, en'⟩
  obtain ⟨b, ht, h1, h2⟩ := hs m ρ' hR
  refine ⟨⟨(m, ρ', b), hR, ht, h1, h2⟩, B', wd.cov, en', fun H' s' => ?_⟩
  show if b = true then _ else _
  cases b with
  | true =>
    refine iteT ⟨fun σ' H' => ∃ ρ2 B2, (∃ m', m' < m ∧ R m' ρ2) ∧ Wd W B2 H' ∧ EnvR X.K B2 H' σ' ρ2, fun σ2 H2 ⟨ρ2, B2, ⟨m', hm, hR2⟩, w2, e2⟩ => ⟨m', hm, ρ2, B2, hR2, w2, e2⟩, ⟨(m, ρ'), h1 rfl⟩, B', wd.same s', en'.same s', ?_⟩
    exact ⟨fun ρ2 σ2 H2 B2 q w2 e2 => ⟨ρ2, B2, q, w2, e2⟩, p.rt, p.er, fun ρ2 σ2 H2 B2 q w2 e2 => p.nx ρ2 σ2 H2 B2 q w2 e2, fun ρ2 σ2 H2 B2 q w2 e2 => ⟨ρ2, B2, q, w2, e2⟩, p.re, p.ee⟩
  | false => exact iteF (p.nx ρ' σ H' B' (h2 rfl) (wd.same s') (en'.same s'))

/-! ### a list of one's own that grows -/
theorem EnvR.setO {K : PySem.W.Frag} {B : Addr → Bool} {H : Hp} {σ : L2.St} {ρ : List Sl} (e : EnvR K B H σ ρ) (i : Nat) {a : Addr} {s : Sl} (h : SlOk K B H s (some (.ref a))) (hne : ∀ (j : Nat) (sj : Sl) (v : V), j ≠ i → ρ[j]? = some sj → sj.own = true → σ[j]? = some (some v) → v ≠ .ref a) : EnvR K B H (σ.set i (some (.ref a))) (ρ.set i s) := by
  refine ⟨by rw [List.length_set, List.length_set, e.len], fun j x hj => ?_, fun j k sj sk w hjk hj hk oj ok vj => ?_⟩
  · by_cases hij : i = j
    · subst hij
      by_cases hl : i < ρ.length
      · rw [List.getElem?_set_self hl] at hj
        have hj := Option.some.inj hj
        subst hj
        exact ⟨_, by rw [List.getElem?_set_self (by rw [e.len]; exact hl)], h⟩
      · rw [List.getElem?_eq_none (by rw [List.length_set]; omega)] at hj
        cases hj
    · rw [List.getElem?_set_ne hij] at hj
      obtain ⟨o, h1, h2⟩ := e.at_ j x hj
      exact ⟨o, by rw [List.getElem?_set_ne hij]; exact h1, h2⟩
  · have len : ∀ (j : Nat) (sj : Sl), (ρ.set i s)[j]? = some sj → j < ρ.length := fun j sj hj => by
      have z := (List.getElem?_eq_some_iff.mp hj).1
      rw [List.length_set] at z
      exact z
    by_cases hij : i = j
    · subst hij
      have hl := len i sj hj
      rw [List.getElem?_set_self (by rw [e.len]; exact hl)] at vj
      have vj := Option.some.inj (Option.some.inj vj)
      subst vj
      rw [List.getElem?_set_ne hjk] at hk ⊢
      exact fun z => hne k sk _ (Ne.symm hjk) hk ok z rfl
    · by_cases hik : i = k
      · subst hik
        have hl := len i sk hk
        rw [List.getElem?_set_self (by rw [e.len]; exact hl)]
        rw [List.getElem?_set_ne hij] at hj vj
        exact fun z => hne j sj w (fun q => hij q.symm) hj oj vj (Option.some.inj (Option.some.inj z)).symm
      · rw [List.getElem?_set_ne hij] at hj vj
        rw [List.getElem?_set_ne hik] at hk ⊢
        exact e.sep j k sj sk w hjk hj hk oj ok vj
/-- owned things are tracked -/
theorem SlOk.tracked {K : PySem.W.Frag} {B : Addr → Bool} {H : Hp} {s : Sl} {v : V} (h : SlOk K B H s (some v)) (o : s.own = true) : ∃ a, v = .ref a ∧ B a = true := by
  cases s with
  | un => cases o
  | dt d => cases o
  | rf a => cases o
  | ml a ds => exact ⟨a, h.1, h.2.1⟩
  | md a kvs => exact ⟨a, h.1, h.2.1⟩
  | di a => exact ⟨a, h.1, h.2.1⟩
  | mg a o ds => exact ⟨a, h.1, h.2.1⟩
/-- a new object p, owned from now on -/
theorem EnvR.own {K : PySem.W.Frag} {B : Addr → Bool} {H : Hp} {σ : L2.St} {ρ : List Sl} {p : Addr} {o : HO} {s : Sl} (e : EnvR K B H σ ρ) (c : Cov B H) (np : H p = none) (i : Nat) (h : SlOk K (fun a => B a || decide (a = p)) (upd H p o) s (some (.ref p))) :
    EnvR K (fun a => B a || decide (a = p)) (upd H p o) (σ.set i (some (.ref p))) (ρ.set i s) := by
  have e2 : EnvR K (fun a => B a || decide (a = p)) (upd H p o) σ ρ := e.grow (fun a h => by rw [h]; rfl) (same_upd np) fun a x hx => by
    obtain ⟨h1, h2⟩ := mask_some hx
    have ne : a ≠ p := ne_of_none h2 np
    rw [mask_out (by rw [h1, decide_eq_false ne]; rfl), upd_ne ne]
    exact h2
  refine e2.setO i h fun j sj v _ hj oj vj z => ?_
  obtain ⟨oo, h1, h2⟩ := e.at_ j sj hj
  rw [vj] at h1
  have h1 := Option.some.inj h1
  subst h1
  obtain ⟨a, ea, hb⟩ := h2.tracked oj
  rw [z] at ea
  have ea := V.ref.inj ea
  rw [← ea] at hb
  exact c p hb (.inl np)
theorem Wd.own {B : Addr → Bool} {H : Hp} {p : Addr} {o : HO} (w : Wd W B H) (np : H p = none) (ho : teO o = false) : Wd W (fun a => B a || decide (a = p)) (upd H p o) := by
  have s : Same H (upd H p o) := same_upd np
  refine ⟨fun a x m h => s _ _ (w.old a x m h), fun a h => by rw [w.b0 a h]; rfl, fun a ha n => ?_, w.fr.trans (Sm.of fun a x hx => ?_), W.st _ _ (fun a x h _ => s _ _ h) w.iv, (fun a h => let ⟨h1, c, n, h2⟩ := w.di a h; ⟨by rw [h1]; rfl, c, n, s _ _ h2⟩), fun a ps hb h => ?_⟩
  · by_cases e : a = p
    · rw [e, upd_same] at n
      rcases n with n | ⟨_, n⟩
      · cases n
      · rw [Option.some.inj n] at ho
        cases ho
    · rw [upd_ne e] at n
      rw [decide_eq_false e, Bool.or_false] at ha
      exact w.cov a ha n
  · obtain ⟨h1, h2⟩ := mask_some hx
    have ne : a ≠ p := ne_of_none h2 np
    rw [mask_out (by rw [h1, decide_eq_false ne]; rfl), upd_ne ne]
    exact h2
  · by_cases e : a = p
    · rw [e, upd_same] at h
      have h := Option.some.inj h
      rw [h] at ho
      cases ho
    · rw [upd_ne e] at h
      rw [decide_eq_false e, Bool.or_false] at hb
      exact w.tb a ps hb h
/-- x = [] , the list to grow -/
theorem s_newml (i : Nat) {x : Str} {pos pos' pl : Pos} (hN : X.N.Nodup) (q : ∀ a, Wr W a → P (.nx (ρ.set i (.ml a [])))) (hi : X.N[i]? = some x := by rfl) (hx : Loc X.env.scope x := by first | exact Or.inl rfl | exact Or.inr rfl)
    (hs : swapsWith (.List [] pl) (some (.Name x pos')) pos.line X.env = pure false := by rfl) (hf : X.fn x = true ∨ X.env.scope.names.lookup x = some .local := by first | exact .inl rfl | exact .inr rfl | assumption) : S1 X E W (.Assign [.Name x pos'] (.List [] pl) pos) ρ P :=
  ps_imp (ps_set hN hi hx (pe_lst pa_nil) hs hf) fun D σ H ⟨B, w, en, p⟩ => ⟨Nat.zero_le _, fun a na => p.nx _ _ _ _ (q a (w.new na)) (w.own na rfl) (en.own w.cov na i ⟨rfl, by simp, [], upd_same, .nil⟩)⟩
/-- a write to an owned place leaves the rest -/
theorem mask_upd {B : Addr → Bool} {H : Hp} {a : Addr} {o : HO} (h : B a = true) : mask B (upd H a o) = mask B H := by
  funext b
  by_cases e : b = a
  · rw [e, mask_in h, mask_in h]
  · unfold mask
    rw [upd_ne e]
theorem Wd.write {B : Addr → Bool} {H : Hp} {a : Addr} {o u : HO} (w : Wd W B H) (hr : Wr W a) (hb : B a = true) (h : H a = some u) (hu : teO u = false) (ho : teO o = false) : Wd W B (upd H a o) := by
  refine ⟨fun b x m hx => ?_, w.b0, fun b hbb n => ?_, by rw [mask_upd hb]; exact w.fr, W.st _ _ (fun b x hx ht => ?_) w.iv, fun b hbd => ?_, fun b ps hbb hx => ?_⟩
  · have ne : b ≠ a := fun z => by
      rw [z] at hx m
      rw [hr.1 m] at hx
      cases hx
    rw [upd_ne ne]
    exact w.old b x m hx
  · by_cases e : b = a
    · rw [e, upd_same] at n
      rcases n with n | ⟨_, n⟩
      · cases n
      · rw [Option.some.inj n] at ho
        cases ho
    · rw [upd_ne e] at n
      exact w.cov b hbb n
  · have ne : b ≠ a := fun z => by
      rw [z, h] at hx
      cases hx
      rw [hu] at ht
      cases ht
    rw [upd_ne ne]
    exact hx
  · have ne : b ≠ a := fun z => by
      rw [z, hr.2] at hbd
      cases hbd
    rw [upd_ne ne]
    exact w.di b hbd
  · by_cases e : b = a
    · rw [e, upd_same] at hx
      have hx := Option.some.inj hx
      rw [hx] at ho
      cases ho
    · rw [upd_ne e] at hx
      exact w.tb b ps hbb hx
theorem EnvR.write {K : PySem.W.Frag} {B : Addr → Bool} {H : Hp} {σ : L2.St} {ρ : List Sl} {a : Addr} {o : HO} {i : Nat} {s s' : Sl} (e : EnvR K B H σ ρ) (hi : ρ[i]? = some s) (ho : s.own = true) (hv : σ[i]? = some (some (.ref a))) (hb : B a = true) (hs : SlOk K B (upd H a o) s' (some (.ref a))) (ho' : s'.own = true) : EnvR K B (upd H a o) σ (ρ.set i s') := by
  have hl := (List.getElem?_eq_some_iff.mp hi).1
  refine ⟨by rw [List.length_set, e.len], fun j x hj => ?_, fun j k sj sk w hjk hj hk oj ok vj => ?_⟩
  · by_cases hij : i = j
    · subst hij
      rw [List.getElem?_set_self hl] at hj
      have hj := Option.some.inj hj
      subst hj
      exact ⟨_, hv, hs⟩
    · rw [List.getElem?_set_ne hij] at hj
      obtain ⟨oo, h1, h2⟩ := e.at_ j x hj
      refine ⟨oo, h1, ?_⟩
      have nea : ∀ b, oo = some (.ref b) → x.own = true → b ≠ a := fun b z ow q => by
        rw [z, q] at h1
        exact e.sep i j s x (.ref a) hij hi hj ho ow hv h1
      cases x with
      | un => exact True.intro
      | dt d =>
        cases oo with
        | none => exact h2.elim
        | some v =>
          have h2 : Rp K (mask B H) v d := h2
          show Rp K (mask B (upd H a o)) v d
          rw [mask_upd hb]
          exact h2
      | rf b =>
        cases oo with
        | none => exact h2.elim
        | some v => exact h2
      | ml b ds =>
        cases oo with
        | none => exact h2.elim
        | some v =>
          obtain ⟨e1, e2, vs, e3, e4⟩ := h2
          exact ⟨e1, e2, vs, by rw [upd_ne (nea b (by rw [e1]) rfl)]; exact e3, by rw [mask_upd hb]; exact e4⟩
      | md b kvs =>
        cases oo with
        | none => exact h2.elim
        | some v =>
          obtain ⟨e1, e2, e3⟩ := h2
          exact ⟨e1, e2, by rw [upd_ne (nea b (by rw [e1]) rfl)]; exact e3⟩
      | di b =>
        cases oo with
        | none => exact h2.elim
        | some v =>
          obtain ⟨e1, e2, c, n, e3⟩ := h2
          exact ⟨e1, e2, c, n, by rw [upd_ne (nea b (by rw [e1]) rfl)]; exact e3⟩
      | mg b o2 ds =>
        cases oo with
        | none => exact h2.elim
        | some v =>
          obtain ⟨e1, e2, vs, e3, e5, e4⟩ := h2
          exact ⟨e1, e2, vs, by rw [upd_ne (nea b (by rw [e1]) rfl)]; exact e3, e5, by rw [mask_upd hb]; exact e4⟩
  · have tr : ∀ (j : Nat) (sj : Sl), (ρ.set i s')[j]? = some sj → sj.own = true → ∃ sj', ρ[j]? = some sj' ∧ sj'.own = true := fun j sj hj oj => by
      by_cases hij : i = j
      · subst hij
        exact ⟨s, hi, ho⟩
      · rw [List.getElem?_set_ne hij] at hj
        exact ⟨sj, hj, oj⟩
    obtain ⟨sj', hj', oj'⟩ := tr j sj hj oj
    obtain ⟨sk', hk', ok'⟩ := tr k sk hk ok
    exact e.sep j k sj' sk' w hjk hj' hk' oj' ok' vj
theorem EnvR.ml {K : PySem.W.Frag} {B : Addr → Bool} {H : Hp} {σ : L2.St} {ρ : List Sl} {i : Nat} {a : Addr} {ds : List Dat} (e : EnvR K B H σ ρ) (h : ρ[i]? = some (.ml a ds)) : σ[i]? = some (some (.ref a)) ∧ B a = true ∧ ∃ vs, H a = some (.lst vs) ∧ RpA K (mask B H) vs ds := by
  obtain ⟨o, h1, h2⟩ := e.at_ i _ h
  cases o with
  | none => exact h2.elim
  | some v =>
    obtain ⟨e1, e2, e3⟩ := h2
    rw [e1] at h1
    exact ⟨h1, e2, e3⟩
/-- x.append(e) -/
theorem s_append (i : Nat) {x : Str} {e : Expr} {d : Dat} {a : Addr} {ds : List Dat} {px apos cpos pos : Pos} (hr : Wr W a) (h : D X E e ρ (.ok d)) (hi : ρ[i]? = some (.ml a ds)) (hl : ds.length ≤ 100000) (q : P (.nx (ρ.set i (.ml a (ds ++ [d])))))
    (hx : PE X (.Name x px) (tVar i)) (h2 : PE X (.Name x px) (tVar i) → PE X e (tD X.K E ρ (.ok d)) → PS X (.Expr (.Call (.Attribute (.Name x px) "append" apos) [e] [] cpos) pos) (tDrop (tBM X.K "list" rAppend (tVar i) (tCons (tD X.K E ρ (.ok d)) tNil)))) :
    S1 X E W (.Expr (.Call (.Attribute (.Name x px) "append" apos) [e] [] cpos) pos) ρ P := by
  refine ps_imp (h2 hx h) fun D σ H ⟨B, w, en, p⟩ => ?_
  obtain ⟨h1, hb, vs, h3, h4⟩ := en.ml hi
  refine ⟨.ref a, h1, .inl ⟨rfl, vs, SqL.of h3⟩, B, w.cov, en, fun v H' s r => ?_⟩
  have h3' := s _ _ h3
  refine ⟨a, vs, v, rfl, rfl, h3', Nat.lt_of_le_of_lt (by rw [h4.length]; exact hl) (by decide), ?_⟩
  refine p.nx _ σ _ B q ((w.same s).write hr hb h3' rfl rfl) ((en.same s).write hi rfl h1 hb ⟨rfl, hb, vs ++ [v], upd_same, ?_⟩ rfl)
  rw [mask_upd hb]
  exact (h4.mono (mask_same s)).append (.cons r .nil)
/-- the list grows no more -/
theorem EnvR.freeze {K : PySem.W.Frag} {B : Addr → Bool} {H : Hp} {σ : L2.St} {ρ : List Sl} {i : Nat} {a : Addr} {ds : List Dat} (e : EnvR K B H σ ρ) (h : ρ[i]? = some (.ml a ds)) : EnvR K (fun b => B b && !decide (b = a)) H σ (ρ.set i (.dt (.lst ds))) := by
  obtain ⟨h1, hb, vs, h3, h4⟩ := e.ml h
  have sm : Same (mask B H) (mask (fun b => B b && !decide (b = a)) H) := mask_le fun b hbb => (Bool.and_eq_true_iff.mp hbb).1
  have hl := (List.getElem?_eq_some_iff.mp h).1
  refine ⟨by rw [List.length_set, e.len], fun j x hj => ?_, fun j k sj sk w hjk hj hk oj ok vj => ?_⟩
  · by_cases hij : i = j
    · subst hij
      rw [List.getElem?_set_self hl] at hj
      have hj := Option.some.inj hj
      subst hj
      refine ⟨_, h1, Rp.lst ?_ (h4.mono sm)⟩
      rw [mask_out (by simp)]
      exact h3
    · rw [List.getElem?_set_ne hij] at hj
      obtain ⟨oo, q1, q2⟩ := e.at_ j x hj
      refine ⟨oo, q1, ?_⟩
      have nea : ∀ b, oo = some (.ref b) → x.own = true → b ≠ a := fun b z ow q => by
        rw [z, q] at q1
        exact e.sep i j _ x (.ref a) hij h hj rfl ow h1 q1
      have hb' : ∀ b, B b = true → b ≠ a → (B b && !decide (b = a)) = true := fun b z ne => by rw [z, decide_eq_false ne]; rfl
      cases x with
      | un => exact True.intro
      | dt d =>
        cases oo with
        | none => exact q2.elim
        | some v => exact Rp.mono sm q2
      | rf b =>
        cases oo with
        | none => exact q2.elim
        | some v => exact q2
      | ml b ds =>
        cases oo with
        | none => exact q2.elim
        | some v =>
          obtain ⟨e1, e2, vs, e3, e4⟩ := q2
          exact ⟨e1, hb' b e2 (nea b (by rw [e1]) rfl), vs, e3, e4.mono sm⟩
      | md b kvs =>
        cases oo with
        | none => exact q2.elim
        | some v =>
          obtain ⟨e1, e2, e3⟩ := q2
          exact ⟨e1, hb' b e2 (nea b (by rw [e1]) rfl), e3⟩
      | di b =>
        cases oo with
        | none => exact q2.elim
        | some v =>
          obtain ⟨e1, e2, c, n, e3⟩ := q2
          exact ⟨e1, hb' b e2 (nea b (by rw [e1]) rfl), c, n, e3⟩
      | mg b o2 ds =>
        cases oo with
        | none => exact q2.elim
        | some v =>
          obtain ⟨e1, e2, vs, e3, e5, e4⟩ := q2
          exact ⟨e1, hb' b e2 (nea b (by rw [e1]) rfl), vs, e3, e5, e4.mono sm⟩
  · have ne : ∀ (j : Nat) (sj : Sl), (ρ.set i (.dt (.lst ds)))[j]? = some sj → sj.own = true → i ≠ j := fun j sj hj oj z => by
      subst z
      rw [List.getElem?_set_self hl] at hj
      have hj := Option.some.inj hj
      subst hj
      cases oj
    have nj := ne j sj hj oj
    have nk := ne k sk hk ok
    rw [List.getElem?_set_ne nj] at hj
    rw [List.getElem?_set_ne nk] at hk
    exact e.sep j k sj sk w hjk hj hk oj ok vj
theorem Wd.freeze {B : Addr → Bool} {H : Hp} {a : Addr} (w : Wd W B H) (h0 : W.B0 a = false) (hd : W.dc a = false) : Wd W (fun b => B b && !decide (b = a)) H := by
  refine ⟨w.old, fun b hb => ?_, fun b hb => w.cov b (Bool.and_eq_true_iff.mp hb).1, w.fr.trans (Sm.of (mask_le fun b hb => (Bool.and_eq_true_iff.mp hb).1)), w.iv, (fun b hb => ?_), fun b ps hb h => w.tb b ps (Bool.and_eq_true_iff.mp hb).1 h⟩
  · have ne : b ≠ a := fun z => by
      rw [z, h0] at hb
      cases hb
    rw [w.b0 b hb, decide_eq_false ne]
    rfl
  · have ne : b ≠ a := fun z => by
      rw [z, hd] at hb
      cases hb
    obtain ⟨h1, h2⟩ := w.di b hb
    refine ⟨?_, h2⟩
    rw [h1, decide_eq_false ne]
    rfl
theorem SS.freeze {s : List Stmt} {a : Addr} {i : Nat} {ds : List Dat} (h : ρ[i]? = some (.ml a ds)) (h0 : W.B0 a = false) (hd : W.dc a = false) (k : SS X E W s (ρ.set i (.dt (.lst ds))) P) : SS X E W s ρ P :=
  pss_imp k fun D σ H ⟨B, w, en, p⟩ => ⟨_, w.freeze h0 hd, en.freeze h, p⟩
theorem Wr.b0 {a : Addr} (h : Wr W a) (hm : W.M a = false) : W.B0 a = false := W.cov0.new (h.1 hm)

/-! ### defs -/
def spC (K : PySem.W.Frag) (C : List Dat → Res → Prop) : Sp := fun vs H Q E => ∃ B as r, Cov B H ∧ RpA K (mask B H) vs as ∧ C as r ∧ Post K E B H Q r
structure FnC (P : Program) (w : World) (K : PySem.W.Frag) (mg : Str → Option Value) (base : Heap) (x : Str) (ps : List Str) (C : List Dat → Res → Prop) (k : Nat) : Prop where
  ex : ∃ f fd, FnOk P w K mg base (L2N.CX P w) k f fd ps (spC K C) ∧ mg x = some (.ref f) ∧ PySem.W.keepIn K (.ref f) = true ∧ Binds K fd ps []
theorem d_call {x : Str} {ps : List Str} {C : List Dat → Res → Prop} {k : Nat} {e : Expr} {es : List Expr} {as : List Dat} {r : Res} {p pos : Pos} (F : FnC X.prog X.w X.K X.mg X.base x ps C k) (hr : Room k X.A) (hp : Passes (L2N.CX X.prog X.w) X E) (ha : DA X E (e :: es) ρ (.ok as)) (hc : C as r)
    (hg : Gl X x := by rfl) (hdb : (x == ("__debug__" : Str)) = false := by decide) (he : starEach (e :: es) X.env = (false, eval e X.env) :: starEach es X.env := by rfl) (hpl : (backTo pos (starEach es X.env)).any (·.1) = false := by rfl) : D X E (.Call (.Name x p) (e :: es) [] pos) ρ r := by
  obtain ⟨f, fd, h1, h2, h3, h4⟩ := F.ex
  refine D.ofR (pe_callS h1 hr hg h2 h3 h4 (fun σ pins H s e s' I c => hp pins σ H s e s' I c) ha hdb he hpl) fun B σ H Q c en q => ⟨B, c, en, fun vs H1 s1 rs => ⟨B, as, r, c.same s1, rs, hc, ?_⟩⟩
  cases r with
  | ok d => exact fun v H2 s2 rv => q v H2 (s1.trans s2) rv
  | err c => exact fun H2 s2 => q H2 (s1.trans s2)
theorem d_callE {x : Str} {ps : List Str} {C : List Dat → Res → Prop} {k : Nat} {e : Expr} {es : List Expr} {c : Value} {p pos : Pos} (F : FnC X.prog X.w X.K X.mg X.base x ps C k) (hr : Room k X.A) (hp : Passes (L2N.CX X.prog X.w) X E) (ha : DA X E (e :: es) ρ (.error c))
    (hg : Gl X x := by rfl) (hdb : (x == ("__debug__" : Str)) = false := by decide) (he : starEach (e :: es) X.env = (false, eval e X.env) :: starEach es X.env := by rfl) (hpl : (backTo pos (starEach es X.env)).any (·.1) = false := by rfl) : D X E (.Call (.Name x p) (e :: es) [] pos) ρ (.err c) := by
  obtain ⟨f, fd, h1, h2, h3, h4⟩ := F.ex
  exact D.ofR (pe_callS h1 hr hg h2 h3 h4 (fun σ pins H s e s' I c => hp pins σ H s e s' I c) ha hdb he hpl) fun B σ H Q c en q => ⟨B, c, en, q⟩
end
def startρ (N : List Str) (as : List Dat) : List Sl := as.map Sl.dt ++ List.replicate (N.length - as.length) Sl.un
theorem envR_start {K : PySem.W.Frag} {B : Addr → Bool} {H : Hp} {N : List Str} {vs : List V} {as : List Dat} (r : RpA K (mask B H) vs as) : EnvR K B H (L2.start N vs) (startρ N as) := by
  have hl := r.length
  unfold L2.start startρ
  refine ⟨by rw [List.length_append, List.length_append, List.length_map, List.length_map, List.length_replicate, List.length_replicate, hl], fun i s h => ?_, fun i j si sj v hij hi hj oi oj vi => ?_⟩
  · by_cases hi : i < as.length
    · rw [List.getElem?_append_left (by rw [List.length_map]; exact hi), List.getElem?_map] at h
      rw [List.getElem?_append_left (by rw [List.length_map, hl]; exact hi), List.getElem?_map]
      cases e : as[i]? with
      | none =>
        rw [e] at h
        cases h
      | some d =>
        rw [e] at h
        have h := Option.some.inj h
        obtain ⟨v, h1, h2⟩ := r.get e
        rw [h1, ← h]
        exact ⟨some v, rfl, h2⟩
    · rw [List.getElem?_append_right (by rw [List.length_map]; omega), List.length_map] at h
      rw [List.getElem?_append_right (by rw [List.length_map, hl]; omega), List.length_map, hl]
      rw [List.getElem?_replicate] at h ⊢
      split at h
      · rename_i hh
        have h := Option.some.inj h
        rw [if_pos hh, ← h]
        exact ⟨none, rfl, True.intro⟩
      · cases h
  · exfalso
    by_cases h : i < as.length
    · rw [List.getElem?_append_left (by rw [List.length_map]; exact h), List.getElem?_map] at hi
      cases e : as[i]? with
      | none =>
        rw [e] at hi
        cases hi
      | some d =>
        rw [e] at hi
        have hi := Option.some.inj hi
        rw [← hi] at oi
        cases oi
    · rw [List.getElem?_append_right (by rw [List.length_map]; omega), List.length_map, List.getElem?_replicate] at hi
      split at hi
      · have hi := Option.some.inj hi
        rw [← hi] at oi
        cases oi
      · cases hi
def outR : Out → Option Res
  | .nx _ => some (.ok .non)
  | .rt d => some (.ok d)
  | .er c => some (.err c)
  | _ => none
section
variable {P : Program} {w : World} {K : PySem.W.Frag} {mg : Str → Option Value} {base : Heap}
theorem okN {x qual : Str} {st : Stmt} {f : Addr} {fd : FuncData} {N ps : List Str} {k : Nat} {sp : Sp} (F : Fun K x qual st f fd) (Sc : FnScope N ps (defScope st)) (len : ∀ vs H Q E, sp vs H Q E → vs.length = ps.length)
    (hbody : ∀ (cdv : Value) (A : Around) (outer : List Env) (s : Shared) (H : Hp) (vs : List V) (Q : VK) (E : XK), Room k (A.deeper (envOfC qual (defScope st) s.heap.objs.size f cdv)) → sp vs H Q E → ∃ t, PSs (cxOf (L2N.CX P w) P w K mg base N qual (defScope st) f cdv A outer s H E) (defBody st) t ∧ t { nx := fun _ H' => Q .non H', rt := Q } (L2.start N vs) H) : FnOk P w K mg base (L2N.CX P w) (k + 1) f fd ps sp := by
  obtain ⟨_, _, _, _, _, _, cd, _, _, rfl, h1, h2⟩ := F.ex
  exact fn_of h1 h2 Sc len fun A outer s H vs Q E r z => hbody cd A outer s H vs Q E r z
theorem fnC_ok {x qual : Str} {st : Stmt} {f : Addr} {fd : FuncData} {N ps : List Str} {k : Nat} {C : List Dat → Res → Prop} (F : Fun K x qual st f fd) (S : FnScope N ps (defScope st)) (len : ∀ as r, C as r → as.length = ps.length)
    (hbody : ∀ (cdv : Value) (A : Around) (outer : List Env) (s : Shared) (H : Hp) (E : XK) (as : List Dat) (r : Res) (W : Wl), (∀ a, W.M a = false) → Room k (A.deeper (envOfC qual (defScope st) s.heap.objs.size f cdv)) → C as r →
      SS (cxOf (L2N.CX P w) P w K mg base N qual (defScope st) f cdv A outer s H E) E W (defBody st) (startρ N as) (fun o => outR o = some r)) : FnOk P w K mg base (L2N.CX P w) (k + 1) f fd ps (spC K C) := by
  refine okN F S (fun vs H Q E h => ?_) (fun cdv A outer s H vs Q E hr h => ?_)
  · obtain ⟨B, as, r, _, ra, hc, _⟩ := h
    rw [ra.length, len as r hc]
  · obtain ⟨B, as, r, cv, ra, hc, q⟩ := h
    have hb := hbody cdv A outer s H E as r ⟨H, B, fun _ => false, fun _ => none, fun _ => True, fun _ _ _ _ => True.intro, cv, fun _ => false, fun _ => true⟩ (fun _ => rfl) hr hc
    refine ⟨_, hb, B, ⟨fun a o _ h => h, fun _ h => h, cv, fun a o h => (by cases h), True.intro, fun a h => (by cases h), fun _ _ _ _ => rfl⟩, envR_start ra, ?_⟩
    refine ⟨fun ρ σ H' B' e w en => ?_, fun d v H' B' e w r' => ?_, fun c H' B' e w => ?_, fun ρ σ H' B' e w en => (by cases e), fun ρ σ H' B' e w en => (by cases e), fun ρ σ d v H' B' e w en r' => (by cases e), fun ρ σ c H' B' e w en => (by cases e)⟩
    · have e : some (Res.ok .non) = some r := e
      have e := Option.some.inj e
      subst e
      exact q _ H' (fun a o h => w.old a o rfl h) .non
    · have e : some (Res.ok d) = some r := e
      have e := Option.some.inj e
      subst e
      exact q _ H' (fun a o h => w.old a o rfl h) (r'.mono (mask_le w.b0))
    · have e : some (Res.err c) = some r := e
      have e := Option.some.inj e
      subst e
      exact q H' (fun a o h => w.old a o rfl h)
end
end G

set_option Elab.async false
set_option linter.all false
set_option maxRecDepth 100000
set_option maxHeartbeats 2000000
namespace G
open PySem PySem.Spec PyProof.Rows L2 TL

/-! ### contexts -/
section
variable {P : Program} {w : World} {K : PySem.W.Frag} {mg : Str → Option Value} {base : Heap} {N : List Str} {qual : Str} {sc : Scope} {f : Addr} {cdv : Value} {A : Around} {outer : List Env} {s : Shared} {H : Hp} {E : XK}
theorem tk_cx : L2N.Takes (cxOf (L2N.CX P w) P w K mg base N qual sc f cdv A outer s H E) (fun cls d _ H => E cls d H) := L2N.takes_of rfl rfl rfl rfl
theorem pa_cx : Passes (L2N.CX P w) (cxOf (L2N.CX P w) P w K mg base N qual sc f cdv A outer s H E) E := L2N.passes_call tk_cx fun _ _ _ _ h => h
theorem passN {X : Cx} : Passes (L2N.CX X.prog X.w) X E0 := fun _ _ _ _ _ _ _ ⟨_, _, _, _, _, _, _, _, _, _, _, _, z⟩ => z.elim
theorem po_cx : PassesOwn (model P w) (cxOf (L2N.CX P w) P w K mg base N qual sc f cdv A outer s H E).A (cxOf (L2N.CX P w) P w K mg base N qual sc f cdv A outer s H E).env (cxOf (L2N.CX P w) P w K mg base N qual sc f cdv A outer s H E).xe := passes_of rfl
end
section
variable {X : Cx} {E : XK} {ρ : List Sl} {W : Wl} {P : Out → Prop}
/-! ### raise -/
structure ExcF (K : PySem.W.Frag) (mg : Str → Option Value) (x : Str) (C : Addr) : Prop where
  g : mg x = some (.ref C)
  x : PySem.W.excIn K C [.type "ValueError", .type "Exception", .type "BaseException", .type "object"] "ValueError.__new__" = true
  k : PySem.W.keepIn K (.ref C) = true
  b : PySem.W.subIn K (.ref C) (.type "BaseException") = some true
  t : PySem.W.typeIn K (.ref C) = some (.type "type")
theorem s_raise {x m : Str} {j : Nat} {C : Addr} {p p2 pos pos2 : Pos} (F : ExcF X.K X.mg x C) (tk : L2N.Takes X (fun cls d _ H => E cls d H)) (q : P (.er (.ref C))) (hc : X.calm = true := by rfl) (hg : Gl X x := by rfl) (hdb : (x == ("__debug__" : Str)) = false := by decide) :
    S1 X E W (.Raise (some (.Call (.Name x p) [.Constant (.str m) j p2] [] pos)) none pos2) ρ P :=
  ps_imp (L2N.ps_raise hc tk (L2N.pmk_own PySem.F.excBase_ValueError F.x F.g F.k (raises_own F.b F.t) hg hdb)) fun D σ H ⟨B, w, en, p⟩ => p.er _ H B q w
/-! ### isinstance -/
def Dat.ty : Dat → String
  | .non => "NoneType"
  | .bl _ => "bool"
  | .int _ => "int"
  | .str _ => "str"
  | .tup _ => "tuple"
  | .lst _ => "list"
  | .dic _ => "dict"
  | .scr _ => "list"
  | .exc _ => "object"
def Dat.isD : Dat → Bool
  | .dic _ => true
  | .exc _ => true
  | _ => false
theorem rp_ty {K : PySem.W.Frag} {H : Hp} {v : V} {d : Dat} (h : Rp K H v d) (hd : d.isD = false) : TyX K H v (.type d.ty) := by
  cases h with
  | non => exact .base .non
  | bl b => exact .base (.bl b)
  | int i => exact .base (.int i)
  | str l => exact .base (.str _)
  | tup h _ => exact .base (.tup h)
  | lst h _ => exact .base (.lst h)
  | scr h =>
    rcases h with (h | ⟨o, h⟩) | ⟨o, its, n, h1, h2, _⟩
    · exact .base (.lst h)
    · exact .base (.frz h)
    · exact .kList h1 h2
  | dic h => cases hd
  | exc h => cases hd
theorem d_isi {a : Expr} {d : Dat} {T : String} {c : Str} {b : Bool} {p p2 pos : Pos} (hm : X.mg "isinstance" = none) (hmc : X.mg c = none) (ha : D X E a ρ (.ok d)) (hk : kitB d.ty T = some b) (hdd : d.isD = false := by first | rfl | assumption) (hv : bootBuiltins c = some (.type T) := by decide +kernel) (hg : Gl X "isinstance" := by rfl) (hgc : Gl X c := by rfl)
    (hn : c ≠ "__name__" := by decide) (hd : (c == ("__debug__" : Str)) = false := by decide) (he : starEach [a, .Name c p2] X.env = (false, eval a X.env) :: starEach [.Name c p2] X.env := by rfl) (he2 : starEach [.Name c p2] X.env = (false, eval (.Name c p2) X.env) :: starEach [] X.env := by rfl)
    (hpl : (backTo pos (starEach [.Name c p2] X.env)).any (·.1) = false := by rfl) : D X E (.Call (.Name "isinstance" p) [a, .Name c p2] [] pos) ρ (.ok (.bl b)) :=
  D.of (pe_callB call_isi hg hm (by decide +kernel) (pa_cons ha (pa_cons (pe_bltn (v := .ty T) hgc hmc hv rfl hn hd) pa_nil he2) he) (by decide) (by decide) he hpl) fun B σ H Q c en q => ⟨B, c, en, fun v H1 s1 rv => ⟨v, .ty T, .type d.ty, .type T, b, rfl, .ty T, rp_ty (rv.mono (mask_sub B H1)) hdd, kit_ty hk, q _ H1 s1 (.bl b)⟩⟩
def Dat.isT : Dat → Bool
  | .tup _ => true
  | _ => false
def Dat.isS : Dat → Bool
  | .str _ => true
  | _ => false
def Dat.isB : Dat → Bool
  | .bl _ => true
  | _ => false
def Dat.isI : Dat → Bool
  | .bl _ => true
  | .int _ => true
  | _ => false
theorem kit_T (d : Dat) : kitB d.ty "tuple" = some d.isT := by cases d <;> (simp only [Dat.ty, Dat.isT]; decide +kernel)
theorem kit_S (d : Dat) : kitB d.ty "str" = some d.isS := by cases d <;> (simp only [Dat.ty, Dat.isS]; decide +kernel)
theorem kit_B (d : Dat) : kitB d.ty "bool" = some d.isB := by cases d <;> (simp only [Dat.ty, Dat.isB]; decide +kernel)
theorem kit_I (d : Dat) : kitB d.ty "int" = some d.isI := by cases d <;> (simp only [Dat.ty, Dat.isI]; decide +kernel)
/-! ### all, any -/
theorem rpA_bls {K : PySem.W.Frag} {H : Hp} : ∀ {bs : List Bool} {vs : List V}, RpA K H vs (bs.map Dat.bl) → vs = bs.map V.bl
  | [], vs, h => by cases h; rfl
  | b :: bs, vs, h => by
    cases h with
    | cons h1 h2 =>
      rw [rp_bl h1, rpA_bls h2]
      rfl
theorem d_all {a : Expr} {bs : List Bool} {p pos : Pos} (hm : X.mg "all" = none) (ha : D X E a ρ (.ok (.lst (bs.map Dat.bl)))) (hc : X.calm = true := by rfl) (hg : Gl X "all" := by rfl) (he : starEach [a] X.env = (false, eval a X.env) :: starEach [] X.env := by rfl) : D X E (.Call (.Name "all" p) [a] [] pos) ρ (.ok (.bl (bs.all id))) :=
  d_callB (cr_all hc) (fun B H vs Q c r q => by
    obtain ⟨v, rfl, rv⟩ := rpA_one r
    cases rv with
    | lst h r' =>
      rw [rpA_bls r'] at h
      exact ⟨_, bs, rfl, SqL.of (mask_sub B H _ _ h), q _ H (Same.refl H) (.bl _)⟩) hm (da_one ha he) (by decide +kernel) hg (he := he)
theorem d_any {a : Expr} {bs : List Bool} {p pos : Pos} (hm : X.mg "any" = none) (ha : D X E a ρ (.ok (.lst (bs.map Dat.bl)))) (hc : X.calm = true := by rfl) (hg : Gl X "any" := by rfl) (he : starEach [a] X.env = (false, eval a X.env) :: starEach [] X.env := by rfl) : D X E (.Call (.Name "any" p) [a] [] pos) ρ (.ok (.bl (bs.any id))) :=
  d_callB (cr_any hc) (fun B H vs Q c r q => by
    obtain ⟨v, rfl, rv⟩ := rpA_one r
    cases rv with
    | lst h r' =>
      rw [rpA_bls r'] at h
      exact ⟨_, bs, rfl, SqL.of (mask_sub B H _ _ h), q _ H (Same.refl H) (.bl _)⟩) hm (da_one ha he) (by decide +kernel) hg (he := he)
/-! ### tuple(list), list(tuple) -/
theorem d_tupleL {a : Expr} {xs : List Dat} {p pos : Pos} (hm : X.mg "tuple" = none) (ha : D X E a ρ (.ok (.lst xs))) (hg : Gl X "tuple" := by rfl) (he : starEach [a] X.env = (false, eval a X.env) :: starEach [] X.env := by rfl) : D X E (.Call (.Name "tuple" p) [a] [] pos) ρ (.ok (.tup xs)) :=
  d_callTy call_tuple_of (fun B H vs Q c r q => by
    obtain ⟨v, rfl, rv⟩ := rpA_one r
    cases rv with
    | lst h r' => exact ⟨_, _, rfl, .inl ⟨SqL.of (mask_sub B H _ _ h), fun l nl => q _ _ (same_upd nl) (rp_new_tup c nl r')⟩⟩) hm (da_one ha he) (by decide +kernel) hg (he := he)
theorem d_tupleT {a : Expr} {xs : List Dat} {p pos : Pos} (hm : X.mg "tuple" = none) (ha : D X E a ρ (.ok (.tup xs))) (hg : Gl X "tuple" := by rfl) (he : starEach [a] X.env = (false, eval a X.env) :: starEach [] X.env := by rfl) : D X E (.Call (.Name "tuple" p) [a] [] pos) ρ (.ok (.tup xs)) :=
  d_callTy call_tuple_of (fun B H vs Q c r q => by
    obtain ⟨v, rfl, rv⟩ := rpA_one r
    cases id rv with
    | tup h r' => exact ⟨_, _, rfl, .inr ⟨sqt_mono (mask_sub B H) (SqT.of h), q _ H (Same.refl H) rv⟩⟩) hm (da_one ha he) (by decide +kernel) hg (he := he)
theorem d_listT {a : Expr} {xs : List Dat} {p pos : Pos} (hm : X.mg "list" = none) (ha : D X E a ρ (.ok (.tup xs))) (hg : Gl X "list" := by rfl) (he : starEach [a] X.env = (false, eval a X.env) :: starEach [] X.env := by rfl) : D X E (.Call (.Name "list" p) [a] [] pos) ρ (.ok (.lst xs)) :=
  d_callTy call_list_of (fun B H vs Q c r q => by
    obtain ⟨v, rfl, rv⟩ := rpA_one r
    cases rv with
    | tup h r' => exact ⟨_, _, rfl, .inr (sqt_mono (mask_sub B H) (SqT.of h)), fun l nl => q _ _ (same_upd nl) (rp_new_lst c nl r')⟩) hm (da_one ha he) (by decide +kernel) hg (he := he)
/-! ### list(text), sorted(text) -/
def sig (l : List Nat) : List Dat := l.map fun c => .str [c]
theorem vals_signs {x : Str} {acc : Array Value} (h : ItemsOf (SignAt x) acc x.cps.size) : Vals (x.cps.toList.map fun c => V.str ⟨#[c]⟩) acc.toList := by
  refine vals_of_at (by rw [List.length_map, Array.length_toList, Array.length_toList, h.1]) fun j v u hv hu => ?_
  rw [List.getElem?_map] at hv
  rw [Array.getElem?_toList] at hv hu
  obtain ⟨c, t, h1, h2⟩ := h.2 j u hu
  rw [h1] at hv
  have hv := Option.some.inj hv
  subst hv h2
  exact ⟨t, rfl⟩
theorem rpA_signs {K : PySem.W.Frag} {H : Hp} : ∀ l : List Nat, RpA K H (l.map fun c => V.str ⟨#[c]⟩) (sig l)
  | [] => .nil
  | c :: l => .cons (.str [c]) (rpA_signs l)
theorem cr_listS (hc : X.calm = true) : CallR X (.type "list") (fun xs H Q => ∃ x : Str, xs = [.str x] ∧ x.cps.size ≤ 100000 ∧ ∀ p, H p = none → Q (.ref p) (upd H p (.lst (x.cps.toList.map fun c => V.str ⟨#[c]⟩)))) := by
  intro pins s σ H xs us Q I r h
  obtain ⟨x, rfl, hn, q⟩ := h
  obtain ⟨u, rfl, t, rfl⟩ := vals1 r
  have hn' : x.cps.size ≤ sizeLine := Nat.le_trans hn (by decide)
  refine PySem.call_list_str (I.ok.hd hc) x t (fun h' tk acc c' hk ho hi => ?_) hn'
  refine ⟨.ref s.heap.objs.size, _, I.laid (t' := tk) hk (Nat.le_refl _) (show ObjOk X.prog X.w _ h' _ (.lst (x.cps.toList.map fun c => V.str ⟨#[c]⟩)) from ⟨?_, acc.toList, c', vals_signs hi, ho⟩), rfl, q _ (I.hok.fresh (Nat.le_refl _))⟩
  rw [List.length_map, Array.length_toList]
  exact hn'
theorem d_listS {a : Expr} {l : List Nat} {p pos : Pos} (hm : X.mg "list" = none) (ha : D X E a ρ (.ok (.str l))) (hl : l.length ≤ 100000) (hc : X.calm = true := by rfl) (hg : Gl X "list" := by rfl) (he : starEach [a] X.env = (false, eval a X.env) :: starEach [] X.env := by rfl) : D X E (.Call (.Name "list" p) [a] [] pos) ρ (.ok (.lst (sig l))) :=
  d_callTy (cr_listS hc) (fun B H vs Q c r q => by
    obtain ⟨v, rfl, rv⟩ := rpA_one r
    refine ⟨_, by rw [rp_str rv], by simpa using hl, fun p np => q _ _ (same_upd np) ?_⟩
    exact rp_new_lst c np (rpA_signs l)) hm (da_one ha he) (by decide +kernel) hg (he := he)
def insN (c : Nat) : List Nat → List Nat
  | [] => [c]
  | d :: r => if c ≤ d then c :: d :: r else d :: insN c r
def sortN : List Nat → List Nat
  | [] => []
  | c :: r => insN c (sortN r)
theorem insN_perm (c : Nat) : ∀ l, (insN c l).Perm (c :: l)
  | [] => .refl _
  | d :: r => by
    show (if c ≤ d then c :: d :: r else d :: insN c r).Perm (c :: d :: r)
    split
    · exact .refl _
    · exact ((insN_perm c r).cons d).trans (.swap c d r)
theorem insN_sorted (c : Nat) : ∀ l : List Nat, l.Pairwise (· ≤ ·) → (insN c l).Pairwise (· ≤ ·)
  | [], _ => by simp [insN]
  | d :: r, h => by
    show (if c ≤ d then c :: d :: r else d :: insN c r).Pairwise (· ≤ ·)
    obtain ⟨h1, h2⟩ := List.pairwise_cons.mp h
    split
    · rename_i e
      refine List.pairwise_cons.mpr ⟨fun z hz => ?_, h⟩
      rcases List.mem_cons.mp hz with rfl | hz
      · exact e
      · exact Nat.le_trans e (h1 z hz)
    · rename_i e
      refine List.pairwise_cons.mpr ⟨fun z hz => ?_, insN_sorted c r h2⟩
      rcases List.mem_cons.mp ((insN_perm c r).mem_iff.mp hz) with rfl | hz
      · omega
      · exact h1 z hz
theorem sortN_perm : ∀ l, (sortN l).Perm l
  | [] => .refl _
  | c :: r => (insN_perm c (sortN r)).trans ((sortN_perm r).cons c)
theorem sortN_sorted : ∀ l, (sortN l).Pairwise (· ≤ ·)
  | [] => List.Pairwise.nil
  | c :: r => insN_sorted c _ (sortN_sorted r)
theorem sortN_uniq {l m : List Nat} (hp : m.Perm l) (hs : m.Pairwise (· ≤ ·)) : m = sortN l :=
  List.Perm.eq_of_pairwise (le := (· ≤ ·)) (fun a b _ _ h1 h2 => Nat.le_antisymm h1 h2) hs (sortN_sorted l) (hp.trans (sortN_perm l).symm)
def unS (x : Str) : Nat := x.cps.toList.headD 0
theorem perm_signs {l : List Nat} {ys : List Str} (h : ys.Perm (l.map fun c => (⟨#[c]⟩ : Str))) : ∃ m : List Nat, m.Perm l ∧ ys = m.map fun c => (⟨#[c]⟩ : Str) := by
  refine ⟨ys.map unS, ?_, ?_⟩
  · have h2 := h.map unS
    rw [List.map_map] at h2
    have e : (unS ∘ fun c => (⟨#[c]⟩ : Str)) = id := rfl
    rw [e, List.map_id] at h2
    exact h2
  · rw [List.map_map]
    symm
    conv => rhs; rw [← List.map_id ys]
    refine List.map_congr_left fun y hy => ?_
    obtain ⟨c, _, rfl⟩ := List.mem_map.mp (h.mem_iff.mp hy)
    rfl
theorem rising_signs : ∀ (c : Nat) (m : List Nat), risingS ⟨#[c]⟩ (m.map fun c => (⟨#[c]⟩ : Str)) = true → (c :: m).Pairwise (· ≤ ·)
  | c, [], _ => List.pairwise_singleton _ _
  | c, d :: r, h => by
    have h : (!ltCps [d] [c] && risingS ⟨#[d]⟩ (r.map fun c => (⟨#[c]⟩ : Str))) = true := h
    rw [Bool.and_eq_true] at h
    have h2 := rising_signs d r h.2
    have h1 : c ≤ d := by
      have z := h.1
      rw [ltCps_eq] at z
      have z : ¬ ([d] < [c]) := by simpa using z
      by_cases q : c ≤ d
      · exact q
      · exact absurd (List.cons_lt_cons_iff.mpr (.inl (by omega))) z
    refine List.pairwise_cons.mpr ⟨fun z hz => ?_, h2⟩
    rcases List.mem_cons.mp hz with rfl | hz
    · exact h1
    · exact Nat.le_trans h1 ((List.pairwise_cons.mp h2).1 z hz)
theorem cr_sortedTxt (hc : X.calm = true) : CallR X (.builtin "sorted") (fun xs H Q => ∃ x : Str, xs = [.str x] ∧ x.cps.size < 64 ∧ ∀ p, H p = none → Q (.ref p) (upd H p (.lst ((sortN x.cps.toList).map fun c => V.str ⟨#[c]⟩)))) := by
  intro pins s σ H xs us Q I r h
  obtain ⟨x, rfl, hn, q⟩ := h
  obtain ⟨u, rfl, t, rfl⟩ := vals1 r
  have hn' : x.cps.size ≤ sizeLine := Nat.le_trans (Nat.le_of_lt hn) (by decide)
  refine PySem.Calls.call_function_entry kind_sorted plain_sorted entry_sorted (args_sorted1 _) ?_
  unfold Builtin.«sorted»
  refine wpAny_bind (m := checkCount "sorted" 1 1 _) (wpAny_pure ?_)
  refine wpAny_bind (wpAny_collect_str (A := X.A.in1) (I.ok.hd hc) x t (fun s' acc hk g1 g2 g3 hi => ?_) hn')
  have hlen : acc.toList.length < 64 := by rw [Array.length_toList, hi.1]; exact hn
  refine wpAny_bind (wpAny_newList ?_ (Nat.le_trans (Nat.le_of_lt hlen) (by decide)))
  have hv := vals_signs hi
  have hv2 : Vals ((x.cps.toList.map fun c => (⟨#[c]⟩ : Str)).map V.str) acc.toList := by
    rw [List.map_map]
    exact hv
  have hS := strsAre_of hv2
  have hoL : (s'.heap.push (seqObj "list" acc.toList.toArray 0)).get? s'.heap.objs.size = some (seqObj "list" acc.toList.toArray 0) := Heap.get?_push_size _ rfl
  refine wpAny_bind (wpAny_holding (wpAny_call_entry slot_list_sort ⟨_, hoL, rfl⟩ entry_list_sort (list_sort_treeK strKind_oneLt hoL hS.keysOf (fun v₁ v₂ rest e => keyKind_strs (by rw [← e]; exact hS)) hlen fun st' hp hs => ⟨_, rfl, ?_⟩) (args_list_sort _)))
  obtain ⟨ys, h1, h2, h3⟩ := sorted_out_str hS hp hs
  obtain ⟨m, hm1, hm2⟩ := perm_signs h2
  have hms : m.Pairwise (· ≤ ·) := by
    rw [hm2] at h3
    cases m with
    | nil => exact .nil
    | cons c m => exact rising_signs c m h3
  have e := sortN_uniq hm1 hms
  obtain ⟨ep, he'⟩ := sortedHeap_at (out := (arrOf st').map (·.2)) hoL
  have kept : ∀ b o, s.heap.get? b = some o → (sortedHeap (s'.heap.push (seqObj "list" acc.toList.toArray 0)) s'.heap.objs.size acc.toList ((arrOf st').map (·.2))).get? b = some o := fun b o eo => by
    have hb := hk b o eo
    have hlt := Heap.lt_size hb
    rw [sortedHeap_old (Nat.ne_of_lt hlt) (by rw [size_push']; exact Nat.lt_succ_of_lt hlt), Heap.get?_push_of_some _ hb]
  have hno : s.heap.get? s'.heap.objs.size = none := by
    cases z : s.heap.get? s'.heap.objs.size with
    | none => rfl
    | some o => exact absurd (Heap.lt_size (hk _ _ z)) (Nat.lt_irrefl _)
  have hnH : H s'.heap.objs.size = none := I.hok.gone hno
  refine wpAny_pure ⟨_, rfl, ?_⟩
  obtain ⟨hp', g', d', t', o'⟩ := s'
  have g1 : g' = s.gens := g1
  have g2 : d' = s.drawn := g2
  have g3 : o' = s.os := g3
  subst g1 g2 g3
  refine ⟨.ref hp'.objs.size, _, I.laidN (t' := t') (o := .lst ((sortN x.cps.toList).map fun c => V.str ⟨#[c]⟩)) kept hno hnH ⟨?_, ((arrOf st').map (·.2)).toList, ep, ?_, he'⟩, rfl, q _ hnH⟩
  · rw [List.length_map, (sortN_perm _).length_eq, Array.length_toList]
    exact hn'
  · rw [← e]
    have z := vals_of_strs h1
    rw [hm2, List.map_map] at z
    exact z
theorem d_sortedS {a : Expr} {l : List Nat} {p pos : Pos} (hm : X.mg "sorted" = none) (ha : D X E a ρ (.ok (.str l))) (hl : l.length < 64) (hc : X.calm = true := by rfl) (hg : Gl X "sorted" := by rfl) (he : starEach [a] X.env = (false, eval a X.env) :: starEach [] X.env := by rfl) : D X E (.Call (.Name "sorted" p) [a] [] pos) ρ (.ok (.lst (sig (sortN l)))) :=
  d_callB (cr_sortedTxt hc) (fun B H vs Q c r q => by
    obtain ⟨v, rfl, rv⟩ := rpA_one r
    refine ⟨_, by rw [rp_str rv], by simpa using hl, fun p np => q _ _ (same_upd np) ?_⟩
    exact rp_new_lst c np (rpA_signs _)) hm (da_one ha he) (by decide +kernel) hg (he := he)
end
end G

set_option Elab.async false
set_option linter.all false
set_option maxRecDepth 100000
set_option maxHeartbeats 2000000
namespace G
open PySem PySem.Spec PyProof.Rows L2 TL
section
variable {X : Cx} {E : XK} {ρ : List Sl} {W : Wl} {P : Out → Prop}
/-! ### slices -/
def tDO (K : PySem.W.Frag) (ρ : List Sl) (o : Option Int) : TO := fun σ H Q => ∃ B, Cov B H ∧ EnvR K B H σ ρ ∧ ∀ H', Same H H' → Q o H'
abbrev DO (X : Cx) (e : Option Expr) (ρ : List Sl) (o : Option Int) : Prop := PO X e (tDO X.K ρ o)
theorem po_imp {X : Cx} {e : Option Expr} {t t' : TO} (h : PO X e t) (k : ∀ σ H Q, t' σ H Q → t σ H Q) : PO X e t' := ⟨fun pins s σ H Q I q => h.run pins s σ H Q I (k σ H Q q)⟩
theorem do_none : DO X none ρ none := po_imp po_none fun σ H Q ⟨B, c, en, q⟩ => q H (Same.refl H)
theorem do_some {e : Expr} {i : Int} (h : D X E0 e ρ (.ok (.int i))) : DO X (some e) ρ (some i) := po_imp (po_some h) fun σ H Q ⟨B, c, en, q⟩ => ⟨B, c, en, fun v H' s r => ⟨i, rp_int r, q H' s⟩⟩
def cutN {α : Type} (l : List α) (lo hi : Option Int) : List α := (l.drop (HT.sIx l.length 0 lo)).take (HT.sIx l.length l.length hi - HT.sIx l.length 0 lo)
theorem d_slS {a : Expr} {lo hi : Option Expr} {l : List Nat} {i j : Option Int} {p2 pos : Pos} (ha : D X E a ρ (.ok (.str l))) (hlo : DO X lo ρ i) (hhi : DO X hi ρ j) (hl : l.length ≤ 100000) : D X E (.Subscript a (.Slice lo hi none p2) pos) ρ (.ok (.str (cutN l i j))) :=
  D.of (pe_slice sl_str ha hlo hhi) fun B σ H Q c en q => ⟨B, c, en, fun v H1 s1 rv => ⟨B, c.same s1, en.same s1, fun H2 s2 => ⟨B, (c.same s1).same s2, (en.same s1).same s2, fun H3 s3 => ⟨_, rp_str rv, by rw [len_mk]; exact Nat.le_trans hl (by decide), by
    have e : cutS ⟨l.toArray⟩ i j = ⟨(cutN l i j).toArray⟩ := by
      unfold cutS cutN
      rw [len_mk]
    rw [e]
    exact q _ H3 ((s1.trans s2).trans s3) (.str _)⟩⟩⟩⟩
theorem rpA_cut {K : PySem.W.Frag} {H : Hp} {vs : List V} {ds : List Dat} {i j : Option Int} (r : RpA K H vs ds) : RpA K H (cutV vs i j) (cutN ds i j) := by
  unfold cutV cutN
  rw [r.length]
  exact (r.drop _).take _
theorem d_slL {a : Expr} {lo hi : Option Expr} {xs : List Dat} {i j : Option Int} {p2 pos : Pos} (ha : D X E a ρ (.ok (.lst xs))) (hlo : DO X lo ρ i) (hhi : DO X hi ρ j) : D X E (.Subscript a (.Slice lo hi none p2) pos) ρ (.ok (.lst (cutN xs i j))) :=
  D.of (pe_slice sl_list ha hlo hhi) fun B σ H Q c en q => ⟨B, c, en, fun v H1 s1 rv => ⟨B, c.same s1, en.same s1, fun H2 s2 => ⟨B, (c.same s1).same s2, (en.same s1).same s2, fun H3 s3 => by
    cases rv with
    | lst h r =>
      have sm : Same (mask B H1) (mask B H3) := mask_same (s2.trans s3)
      exact ⟨_, _, rfl, SqL.of (mask_sub B H3 _ _ (sm _ _ h)), fun p np => q _ _ (((s1.trans s2).trans s3).trans (same_upd np)) (rp_new_lst (((c.same s1).same s2).same s3) np (rpA_cut (r.mono sm)))⟩⟩⟩⟩
theorem d_slT {a : Expr} {lo hi : Option Expr} {xs : List Dat} {i j : Option Int} {p2 pos : Pos} (ha : D X E a ρ (.ok (.tup xs))) (hlo : DO X lo ρ i) (hhi : DO X hi ρ j) : D X E (.Subscript a (.Slice lo hi none p2) pos) ρ (.ok (.tup (cutN xs i j))) :=
  D.of (pe_slice sl_tupA ha hlo hhi) fun B σ H Q c en q => ⟨B, c, en, fun v H1 s1 rv => ⟨B, c.same s1, en.same s1, fun H2 s2 => ⟨B, (c.same s1).same s2, (en.same s1).same s2, fun H3 s3 => by
    cases id rv with
    | tup h r =>
      have sm : Same (mask B H1) (mask B H3) := mask_same (s2.trans s3)
      refine ⟨_, _, rfl, sqt_mono (mask_sub B H3) (sqt_mono sm (SqT.of h)), fun hw => q _ H3 ((s1.trans s2).trans s3) ?_, fun hw p np => q _ _ (((s1.trans s2).trans s3).trans (same_upd np)) (rp_new_tup (((c.same s1).same s2).same s3) np (rpA_cut (r.mono sm)))⟩
      have e : cutN xs i j = xs := by
        unfold cutN
        rw [← r.length, hw.1, hw.2, List.drop_zero, Nat.sub_zero, r.length, List.take_length]
      rw [e]
      exact rv.mono sm⟩⟩⟩
/-- a text by a step -/
def cut3 (l : List Nat) (lo hi : Option Int) (k : Int) : List Nat := (Builtin.Str.strSliceIndices lo hi k l.length).filterMap fun i => l[i]?
theorem pe_step {e : Expr} {lo hi : Option Expr} {st : Expr} {te : TE} {tl th ts : TO} {p2 pos : Pos} (he : PE X e te) (hl : PO X lo tl) (hu : PO X hi th) (hst : PO X (some st) ts) : PE X (.Subscript e (.Slice lo hi (some st) p2) pos)
    (fun σ H Q => te σ H fun x H1 => tl σ H1 fun l H2 => th σ H2 fun u H3 => ts σ H3 fun k H4 => ∃ (z : Str) (i : Int), x = .str z ∧ k = some i ∧ i ≠ 0 ∧ i ≠ 1 ∧ ((Builtin.Str.strSliceIndices l u i z.length).filterMap (z.cps[·]?)).length ≤ sizeLine ∧ Q (.str ⟨((Builtin.Str.strSliceIndices l u i z.length).filterMap (z.cps[·]?)).toArray⟩) H4) := by
  refine ⟨fun pins s σ H Q I h => ?_⟩
  refine Subscript_ (thn (he.run pins s σ H _ I h) fun v s1 ⟨x, H1, I1, r1, q1⟩ => ?_)
  refine wpAny_Slice (thn (hl.run pins s1 σ H1 _ I1 q1) fun vl s2 ⟨l, H2, I2, pl, q2⟩ => thn (hu.run pins s2 σ H2 _ I2 q2) fun vu s3 ⟨u, H3, I3, pu, q3⟩ => thn (hst.run pins s3 σ H3 _ I3 q3) fun vs s4 ⟨k, H4, I4, ps, q4⟩ => ?_)
  obtain ⟨z, i, rfl, rfl, h0, h1, hz, q⟩ := q4
  obtain ⟨t, rfl⟩ := r1
  have I5 : Inv X pins σ H4 { s4 with heap := s4.heap.push { cls := .type "slice", data := .fields #[vl, vu, vs] } } := I4.kept (t' := s4.toks) fun b ob q => Heap.get?_push_of_some _ q
  obtain ⟨l', rfl, rfl⟩ := IsPart.raw pl
  obtain ⟨u', rfl, rfl⟩ := IsPart.raw pu
  obtain ⟨k', rfl, hk'⟩ := IsPart.raw ps
  obtain ⟨⟨i', t'⟩, rfl⟩ : ∃ p, k' = some p := by
    cases k' with
    | none => cases hk'
    | some p => exact ⟨p, rfl⟩
  have hk' : i' = i := Option.some.inj hk'
  subst hk'
  show wpAny (model X.prog X.w) X.A (subscriptTail e (.Slice lo hi (some st) p2) (.str z t) (.ref s4.heap.objs.size)) (EP X pins σ Q) X.xe { s4 with heap := s4.heap.push { cls := .type "slice", data := .fields #[partValue l', partValue u', partValue (some (i', t'))] } }
  refine tail_any (ops := [.str z t, .ref s4.heap.objs.size]) (typeIs_str _ _ _) F.slot_str_getitem.lookup ?_ (by with_unfolding_all rfl)
  refine wpAny_getItem_str_slice (l := l') (u := u') (st := some (i', t')) ⟨_, Heap.get?_push_size _ rfl, rfl, rfl⟩ (by show (i' == 0) = false; exact beq_eq_false_iff_ne.mpr h0) ?_
  show Made.post (if (i' == 1 && (Builtin.Str.strSliceIndices (l'.map (·.1)) (u'.map (·.1)) i' z.length).length == z.length) = true then Made.val (.str z t)
    else Made.str ⟨((Builtin.Str.strSliceIndices (l'.map (·.1)) (u'.map (·.1)) i' z.length).filterMap (z.cps[·]?)).toArray⟩) (EP X pins σ Q) _
  rw [if_neg (by rw [beq_eq_false_iff_ne.mpr h1]; simp)]
  exact ⟨by simpa [Str.length] using hz, .str _, H4, I5.tok _, ⟨_, rfl⟩, q⟩
theorem d_step {a st : Expr} {lo hi : Option Expr} {l : List Nat} {i j : Option Int} {k : Int} {p2 pos : Pos} (ha : D X E a ρ (.ok (.str l))) (hlo : DO X lo ρ i) (hhi : DO X hi ρ j) (hst : D X E st ρ (.ok (.int k))) (h0 : k ≠ 0) (h1 : k ≠ 1) (hl : (cut3 l i j k).length ≤ 100000) :
    D X E (.Subscript a (.Slice lo hi (some st) p2) pos) ρ (.ok (.str (cut3 l i j k))) :=
  D.of (pe_step ha hlo hhi (do_some hst)) fun B σ H Q c en q => ⟨B, c, en, fun v H1 s1 rv => ⟨B, c.same s1, en.same s1, fun H2 s2 => ⟨B, (c.same s1).same s2, (en.same s1).same s2, fun H3 s3 => ⟨B, ((c.same s1).same s2).same s3, ((en.same s1).same s2).same s3, fun H4 s4 => by
    have e : (Builtin.Str.strSliceIndices i j k (⟨l.toArray⟩ : Str).length).filterMap ((⟨l.toArray⟩ : Str).cps[·]?) = cut3 l i j k := by
      unfold cut3
      rw [len_mk]
      congr 1
      funext n
      simp
    refine ⟨_, k, rp_str rv, rfl, h0, h1, ?_, ?_⟩
    · rw [e]
      exact Nat.le_trans hl (by decide)
    · rw [e]
      exact q _ H4 (((s1.trans s2).trans s3).trans s4) (.str _)⟩⟩⟩⟩
/-! ### a text in a text -/
def subL (m : List Nat) : List Nat → Bool
  | [] => m.isEmpty
  | c :: r => m.isPrefixOf (c :: r) || subL m r
/-! ### text * int -/
def repL (l : List Nat) (n : Nat) : List Nat := (List.replicate n l).flatten
theorem foldl_app (l : Array Nat) : ∀ (n : Nat) (a : Array Nat), ((List.replicate n l).foldl (· ++ ·) a).toList = a.toList ++ (List.replicate n l.toList).flatten
  | 0, a => by simp
  | n + 1, a => by
    rw [List.replicate_succ, List.foldl_cons, foldl_app l n, Array.toList_append, List.replicate_succ, List.flatten_cons, List.append_assoc]
theorem op_mulS : OpR X (binaryOp .Mult) (fun x y H Q => ∃ (z : Str) (n : Int), x = .str z ∧ y = .int n ∧ 0 ≤ n ∧ n ≤ 1000 ∧ z.length ≤ 1000 ∧ Q (.str ⟨(repL z.cps.toList n.toNat).toArray⟩) H) := by
  intro pins s σ H x y v u Q I rx ry h
  obtain ⟨z, n, rfl, rfl, h0, h1, hz, q⟩ := h
  obtain ⟨t, rfl⟩ := rx
  obtain ⟨t2, rfl⟩ := ry
  have hmul : z.length * n.toNat ≤ 1000 * 1000 := Nat.mul_le_mul hz (by omega)
  have hl0 : (repL z.cps.toList n.toNat).length = z.length * n.toNat := by
    unfold repL
    rw [List.length_flatten, List.map_replicate, List.sum_replicate_nat]
    simp [Str.length, Nat.mul_comm]
  refine PySem.P.mul_str (by simp; omega) (fun hn hb hc => ?_) (fun hn hb => ?_) ?_
  · have hn1 : 1 ≤ n := by omega
    have hd : (2 ^ 63 - 1) / n ≥ (2 ^ 63 - 1) / 1000 := by
      have z1 : (2 ^ 63 - 1 : Int) / 1000 * n ≤ 2 ^ 63 - 1 := by
        have := Int.mul_le_mul_of_nonneg_left h1 (show (0 : Int) ≤ (2 ^ 63 - 1) / 1000 by decide)
        have e : (2 ^ 63 - 1 : Int) / 1000 * 1000 ≤ 2 ^ 63 - 1 := by decide
        omega
      exact Int.le_ediv_of_mul_le (by omega) z1
    have e2 : (1000 : Int) ≤ (2 ^ 63 - 1) / 1000 := by decide
    omega
  · show Builtin.Str.tooLong (z.length * n.toNat) = false
    unfold Builtin.Str.tooLong
    rw [decide_eq_false]
    have : (1000000 : Nat) ≤ sizeLine := by decide
    omega
  · by_cases hn : n < 1
    · rw [if_pos hn]
      have e : n = 0 := by omega
      subst e
      exact ⟨by decide, .str _, H, I.tok _, ⟨_, rfl⟩, q⟩
    · rw [if_neg hn]
      by_cases hb : (n == 1 || z.length == 0) = true
      · rw [if_pos hb]
        have e : (⟨(repL z.cps.toList n.toNat).toArray⟩ : Str) = z := by
          refine ext_tl ?_
          show repL z.cps.toList n.toNat = z.cps.toList
          rw [Bool.or_eq_true] at hb
          rcases hb with hb | hb
          · have e : n = 1 := by simpa using hb
            subst e
            simp [repL]
          · have e : z.cps.toList = [] := by
              have : z.length = 0 := by simpa using hb
              exact List.eq_nil_of_length_eq_zero (by simpa [Str.length] using this)
            rw [e]
            unfold repL
            simp
        rw [e] at q
        exact ⟨.str z, H, I, ⟨t, rfl⟩, q⟩
      · rw [if_neg hb]
        have e : (List.replicate n.toNat z.cps).foldl (· ++ ·) #[] = (repL z.cps.toList n.toNat).toArray := by
          refine Array.toList_inj.mp ?_
          rw [foldl_app]
          simp [repL]
        rw [e]
        refine ⟨?_, .str _, H, I.tok _, ⟨_, rfl⟩, q⟩
        show (repL z.cps.toList n.toNat).toArray.size ≤ sizeLine
        rw [List.size_toArray, hl0]
        have : (1000000 : Nat) ≤ sizeLine := by decide
        omega
theorem d_mulS {a b : Expr} {l : List Nat} {n : Int} {pos : Pos} (ha : D X E a ρ (.ok (.str l))) (hb : D X E b ρ (.ok (.int n))) (h0 : 0 ≤ n) (h1 : n ≤ 1000) (hl : l.length ≤ 1000) : D X E (.BinOp a .Mult b pos) ρ (.ok (.str (repL l n.toNat))) :=
  d_op op_mulS (fun B H vx vy Q c rx ry q => ⟨_, n, rp_str rx, rp_int ry, h0, h1, by rw [len_mk]; exact hl, q _ H (Same.refl H) (.str _)⟩) ha hb
/-! ### list + list, tuple + tuple -/
theorem d_addT {a b : Expr} {xs ys : List Dat} {pos : Pos} (ha : D X E a ρ (.ok (.tup xs))) (hb : D X E b ρ (.ok (.tup ys))) (hl : xs.length + ys.length ≤ 100000) : D X E (.BinOp a .Add b pos) ρ (.ok (.tup (xs ++ ys))) :=
  d_op op_catA (fun B H vx vy Q c rx ry q => by
    cases id rx with
    | tup h1 r1 =>
      cases id ry with
      | tup h2 r2 =>
        refine ⟨_, _, _, _, rfl, rfl, sqt_mono (mask_sub B H) (SqT.of h1), sqt_mono (mask_sub B H) (SqT.of h2), by rw [r1.length, r2.length]; exact Nat.le_trans hl (by decide), fun e => ?_, fun _ e => ?_, fun _ _ p np => q _ _ (same_upd np) (rp_new_tup c np (r1.append r2))⟩
        · subst e
          cases r1
          exact q _ H (Same.refl H) ry
        · subst e
          cases r2
          rw [List.append_nil] at q
          exact q _ H (Same.refl H) rx) ha hb
theorem d_addL {a b : Expr} {xs ys : List Dat} {pos : Pos} (ha : D X E a ρ (.ok (.lst xs))) (hb : D X E b ρ (.ok (.lst ys))) (hl : xs.length + ys.length ≤ 100000) : D X E (.BinOp a .Add b pos) ρ (.ok (.lst (xs ++ ys))) :=
  d_op op_cat (fun B H vx vy Q c rx ry q => by
    cases rx with
    | lst h1 r1 =>
      cases ry with
      | lst h2 r2 => exact ⟨_, _, _, _, rfl, rfl, mask_sub B H _ _ h1, mask_sub B H _ _ h2, by rw [r1.length, r2.length]; exact Nat.le_trans hl (by decide), fun p np => q _ _ (same_upd np) (rp_new_lst c np (r1.append r2))⟩) ha hb
end
end G

set_option Elab.async false
set_option linter.all false
set_option maxRecDepth 100000
set_option maxHeartbeats 2000000
namespace G
open PySem PySem.Spec PyProof.Rows L2 TL
/-! ### enumerate(text) -/
def Ites (x : Str) : It := ⟨fun i _ => i < x.cps.size, fun i H v H' => ∃ T c, v = .ref T ∧ H T = none ∧ H' = upd H T (.tup [.int (i : Nat), .str ⟨#[c]⟩]) ∧ x.cps[i]? = some c, fun i _ => i = x.cps.size⟩
theorem turn_enumS {P : Program} {w : World} {K : PySem.W.Frag} {elts : List Expr} {kk : Nat} {tpos : Pos} (e it : Addr) (x : Str) (t : Tok) (ty : String) (hty : ty = "str_ascii_iterator" ∨ ty = "str_iterator") :
    Turn P w K (.Tuple elts kk tpos) (Ites x) [e, it] e (fun i h => (∃ old, IsEnum h e it ((i : Nat) : Int) old) ∧ h.IsStrIter it ty x t i ∧ e ≠ it) where
  mem := by simp
  obj := fun i h st b hb => by
    obtain ⟨⟨old, he⟩, ⟨o, ho, hc, hd⟩, _⟩ := st
    have e' : b = e ∨ b = it := by simpa using hb
    rcases e' with z | z
    · rw [z]; exact ⟨_, he, fun v q => nomatch q⟩
    · rw [z]; exact ⟨o, ho, fun v q => by rw [hd] at q; cases q⟩
  keep := fun i h h' st k => let ⟨⟨old, he⟩, ⟨o, ho, r⟩, hne⟩ := st; ⟨⟨old, k e (by simp) _ he⟩, ⟨o, k it (by simp) o ho, r⟩, hne⟩
  item := by
    intro X hP hw hK hc i pins s σ H E I hf st hg
    subst hP hw hK
    obtain ⟨⟨old, he⟩, hit, hne⟩ := st
    have hel : e < s.heap.objs.size := Heap.lt_size he
    have hil : it < s.heap.objs.size := by obtain ⟨_, q, _⟩ := hit; exact Heap.lt_size q
    have D : Draws X.prog X.w X.A.in1 it [it] x.cps.size (SignAt x) (fun i h => h.IsStrIter it ty x t i) := by
      rcases hty with z | z
      · rw [z]; exact Draws.strAscii (A := X.A.in1) (I.ok.hd hc) it x t
      · rw [z]; exact Draws.strWide (A := X.A.in1) (I.ok.hd hc) it x t
    refine wpAny_pyNext_enum_itemD D he hit hg hne (by simpa using hne) fun u h' tk hP ho hit' hT hsz hk => ?_
    obtain ⟨c, tc, hcx, rfl⟩ := hP
    refine ⟨_, rfl, wpAny_letOwnedTupleGo_enum (s := { s with heap := h', toks := tk + 1 }) ho fun h'' he' sb => ?_⟩
    have hT2 : h''.get? s.heap.objs.size = some { cls := .type "tuple", data := .seq #[.int i tk, .str ⟨#[c]⟩ tc] } := (sb.2 _ (Nat.ne_of_gt hel)).trans hT
    have new : ObjOk X.prog X.w (upd H s.heap.objs.size (.tup [.int (i : Nat), .str ⟨#[c]⟩])) h'' s.heap.objs.size (.tup [.int (i : Nat), .str ⟨#[c]⟩]) :=
      ⟨by show 2 ≤ sizeLine; decide, [.int i tk, .str ⟨#[c]⟩ tc], .cons ⟨_, rfl⟩ (.cons ⟨_, rfl⟩ .nil), ⟨_, hT2, rfl, _, rfl⟩⟩
    have I1 : Inv X pins σ (upd H s.heap.objs.size (.tup [.int (i : Nat), .str ⟨#[c]⟩])) { s with heap := h'', toks := tk + 1 } :=
      I.turnedNew (ch := [e, it]) (fun b ob hb q => (sb.2 b (fun z => hb (by simp [z]))).trans (hk b ob (fun z => hb (by simp [z])) (fun z => hb (by simp [z])) q)) hf (Nat.le_refl _) new
    refine ⟨.ref s.heap.objs.size, _, I1, rfl, ⟨_, c, rfl, I.hok.fresh (Nat.le_refl _), rfl, hcx⟩, ⟨⟨.str ⟨#[c]⟩ tc, ?_⟩, ?_, hne⟩, fun b hb => ?_⟩
    · have e1 : ((i + 1 : Nat) : Int) = (i : Int) + 1 := by omega
      rw [e1]; exact he'
    · obtain ⟨o, q1, q2⟩ := hit'
      exact ⟨o, (sb.2 it (Ne.symm hne)).trans q1, q2⟩
    · have hb' : b < s.heap.objs.size := by
        have e' : b = e ∨ b = it := by simpa using hb
        rcases e' with z | z
        · rw [z]; exact hel
        · rw [z]; exact hil
      rw [upd_ne (Nat.ne_of_lt hb')]
      exact (hf b hb).1
  done := by
    intro X hP hw hK hc i pins s σ H E I hf st hg
    subst hP hw hK
    obtain ⟨⟨old, he⟩, hit, hne⟩ := st
    have hg : i = x.cps.size := hg
    subst hg
    obtain ⟨f0, f1, f2, f3, f4, f5⟩ := hf it (by simp)
    have D : Draws X.prog X.w X.A.in1 it [it] x.cps.size (SignAt x) (fun i h => h.IsStrIter it ty x t i) := by
      rcases hty with z | z
      · rw [z]; exact Draws.strAscii (A := X.A.in1) (I.ok.hd hc) it x t
      · rw [z]; exact Draws.strWide (A := X.A.in1) (I.ok.hd hc) it x t
    exact wpAny_pyNext_enum_endD D he hit fun h' eb => ⟨rfl, I.turned (t' := s.toks) (fun b o hb q => eb b o hb q) f0 f1 f3 f4 f5⟩
  self := fun A i s Q E st h => let ⟨⟨_, he⟩, _⟩ := st; wpAny_pyIter_enum he h
def iEnumS (ta : TA) : TI := fun σ H R => ta σ H fun vs H1 => ∃ x : Str, vs = [.str x] ∧ R (Ites x) H1
theorem pi_enumS {X : Cx} {e : Expr} {ta : TA} {p pos tpos : Pos} {elts : List Expr} {kk : Nat} (hg : Gl X "enumerate") (hm : X.mg "enumerate" = none) (ha : PA X [e] ta) (hs : starEach [e] X.env = [(false, eval e X.env)] := by rfl) :
    PI X (.Tuple elts kk tpos) (.Call (.Name "enumerate" p) [e] [] pos) (iEnumS ta) := by
  refine ⟨fun pins s σ H R I h => ?_⟩
  refine Call_ (ld_blt I hg hm boot_enumerate (PyProof.Rows.callWith_type1 (thn (ha.run pos pins s σ H _ I h) fun us s1 ⟨vs, H1, I1, r1, q1⟩ => ?_) hs rfl))
  obtain ⟨x, ex, q⟩ := q1
  subst ex
  cases r1 with
  | cons r rr =>
    cases rr
    obtain ⟨t, rfl⟩ := r
    refine call_enumerate_str fun h' he hit hsz hk => wpAny_pyIter_enum he ?_
    have I2 : L2.Inv X pins σ H1 { s1 with heap := h' } := I1.kept (t' := s1.toks) hk
    have hty : strIterType x = "str_ascii_iterator" ∨ strIterType x = "str_iterator" := by
      unfold strIterType
      split
      · exact .inl rfl
      · exact .inr rfl
    refine ⟨s1.heap.objs.size + 1, [s1.heap.objs.size + 1, s1.heap.objs.size], _, _, H1, rfl, I2, turn_enumS (s1.heap.objs.size + 1) s1.heap.objs.size x t (strIterType x) hty, ⟨⟨.none, he⟩, hit, Nat.succ_ne_self _⟩, fun b hb => ?_, q⟩
    have e' : b = s1.heap.objs.size + 1 ∨ b = s1.heap.objs.size := by simpa using hb
    have hle : s1.heap.objs.size ≤ b := by
      rcases e' with z | z
      · rw [z]; exact Nat.le_add_right _ _
      · rw [z]; exact Nat.le_refl _
    exact I1.fpOk hle (I1.hok.fresh hle)
def enumD (xs : List Dat) : List Dat := xs.zipIdx.map fun p => .tup [.int (p.2 : Nat), p.1]
theorem enumD_len (xs : List Dat) : (enumD xs).length = xs.length := by
  unfold enumD
  rw [List.length_map, List.length_zipIdx]
theorem enumD_get {xs : List Dat} {i : Nat} {d : Dat} (h : xs[i]? = some d) : (enumD xs)[i]? = some (.tup [.int (i : Nat), d]) := by
  unfold enumD
  rw [List.getElem?_map, List.getElem?_zipIdx, h]
  simp
theorem enumD_pair {xs : List Dat} : ∀ x ∈ enumD xs, prPair x := fun x hx => by
  obtain ⟨p, _, rfl⟩ := List.mem_map.mp hx
  exact ⟨_, _, rfl⟩
section
variable {X : Cx} {E : XK} {ρ : List Sl}
theorem i_enumS {e : Expr} {l : List Nat} {p pos tpos : Pos} {elts : List Expr} {kk : Nat} (hm : X.mg "enumerate" = none) (he : D X E0 e ρ (.ok (.str l))) (hg : Gl X "enumerate" := by rfl) (hs : starEach [e] X.env = [(false, eval e X.env)] := by rfl) :
    I X (.Tuple elts kk tpos) (.Call (.Name "enumerate" p) [e] [] pos) ρ (enumD (l.map fun c => .str [c])) :=
  pi_imp (pi_enumS hg hm (da_one he hs) hs) fun σ H R ⟨B, c, en, q⟩ => ⟨B, c, en, fun vs H1 s1 rs => by
    obtain ⟨v, rfl, rv⟩ := rpA_one rs
    refine ⟨⟨l.toArray⟩, by rw [rp_str rv], q _ H1 s1 fun i H2 B' cv sm => ?_⟩
    rw [enumD_len, List.length_map]
    refine ⟨fun hi => ⟨by show i < l.toArray.size; simpa using hi, fun v H' y => ?_⟩, fun hi => by show i = l.toArray.size; simpa using hi⟩
    obtain ⟨T, c, rfl, nT, rfl, hc⟩ := y
    have hc' : l[i]? = some c := by simpa using hc
    refine ⟨same_upd nT, _, enumD_get (by rw [List.getElem?_map, hc']; rfl), ?_⟩
    exact rp_new_tup cv nT (.cons (.int _) (.cons (.str [c]) .nil))⟩
theorem i_enumL {e : Expr} {xs : List Dat} {p pos tpos : Pos} {elts : List Expr} {kk : Nat} (hm : X.mg "enumerate" = none) (he : D X E0 e ρ (.ok (.lst xs))) (hg : Gl X "enumerate" := by rfl) (hs : starEach [e] X.env = [(false, eval e X.env)] := by rfl) :
    I X (.Tuple elts kk tpos) (.Call (.Name "enumerate" p) [e] [] pos) ρ (enumD xs) :=
  pi_imp (pi_enum hg hm (da_one he hs) hs) fun σ H R ⟨B, c, en, q⟩ => ⟨B, c, en, fun vs H1 s1 rs => by
    obtain ⟨v, rfl, rv⟩ := rpA_one rs
    cases rv with
    | @lst a us _ hs r =>
      refine ⟨a, us, rfl, SqL.of (mask_sub B H1 _ _ hs), q _ H1 s1 fun i H2 B' cv sm => ?_⟩
      rw [enumD_len]
      have hq : SqL X.K H2 a us := SqL.of (mask_sub B' H2 _ _ (sm _ _ hs fun _ z => by cases z))
      refine ⟨fun hi => ⟨⟨us, us[i]'(by rw [r.length]; exact hi), hq, List.getElem?_eq_getElem _⟩, fun v H' y => ?_⟩, fun hi => ⟨us, hq, by rw [r.length, hi]; exact Nat.le_refl _⟩⟩
      obtain ⟨T, x, rfl, nT, rfl, hx⟩ := y
      obtain ⟨d, h1, h2⟩ := r.getV (hx us hq)
      exact ⟨same_upd nT, _, enumD_get h1, rp_new_tup cv nT (.cons (.int _) (.cons (h2.monoN sm) .nil))⟩⟩
end
end G

set_option Elab.async false
set_option linter.all false
set_option maxRecDepth 100000
set_option maxHeartbeats 2000000
namespace G
open PySem PySem.Spec PyProof.Rows L2 TL
/-! ### dice: a list of two ints that a call may change -/
def Dw (W : Wl) (a : Addr) : Prop := W.M a = false → W.H0 a = none
theorem Wd.writeD {W : Wl} {B : Addr → Bool} {H : Hp} {a : Addr} {u : HO} {c n : Int} (w : Wd W B H) (hr : Dw W a) (hb : B a = true) (h : H a = some u) (hu : teO u = false) : Wd W B (upd H a (.lst [.int c, .int n])) := by
  refine ⟨fun b x m hx => ?_, w.b0, fun b hbb n => ?_, by rw [mask_upd hb]; exact w.fr, W.st _ _ (fun b x hx ht => ?_) w.iv, fun b hbd => ?_, fun b ps hbb hx => ?_⟩
  · have ne : b ≠ a := fun z => by
      rw [z] at hx m
      rw [hr m] at hx
      cases hx
    rw [upd_ne ne]
    exact w.old b x m hx
  · by_cases e : b = a
    · rw [e, upd_same] at n
      rcases n with n | ⟨_, n⟩ <;> cases n
    · rw [upd_ne e] at n
      exact w.cov b hbb n
  · have ne : b ≠ a := fun z => by
      rw [z, h] at hx
      cases hx
      rw [hu] at ht
      cases ht
    rw [upd_ne ne]
    exact hx
  · by_cases e : b = a
    · rw [e]
      exact ⟨hb, c, n, upd_same⟩
    · rw [upd_ne e]
      exact w.di b hbd
  · by_cases e : b = a
    · rw [e, upd_same] at hx
      cases hx
    · rw [upd_ne e] at hx
      exact w.tb b ps hbb hx
theorem EnvR.di {K : PySem.W.Frag} {B : Addr → Bool} {H : Hp} {σ : L2.St} {ρ : List Sl} {i : Nat} {a : Addr} (e : EnvR K B H σ ρ) (h : ρ[i]? = some (.di a)) : σ[i]? = some (some (.ref a)) ∧ B a = true ∧ ∃ c n, H a = some (.lst [.int c, .int n]) := by
  obtain ⟨o, h1, h2⟩ := e.at_ i _ h
  cases o with
  | none => exact h2.elim
  | some v =>
    obtain ⟨e1, e2, e3⟩ := h2
    rw [e1] at h1
    exact ⟨h1, e2, e3⟩
theorem set_same_slot {ρ : List Sl} {i : Nat} {s : Sl} (h : ρ[i]? = some s) : ρ.set i s = ρ := by
  refine List.ext_getElem? fun j => ?_
  by_cases e : i = j
  · subst e
    rw [List.getElem?_set_self (List.getElem?_eq_some_iff.mp h).1, h]
  · rw [List.getElem?_set_ne e]
/-- the dice at a were thrown -/
theorem dice_step {K : PySem.W.Frag} {W : Wl} {B : Addr → Bool} {H H' : Hp} {σ : L2.St} {ρ : List Sl} {i : Nat} {a : Addr} (w : Wd W B H) (en : EnvR K B H σ ρ) (hi : ρ[i]? = some (.di a)) (hd : Dw W a) (hp : ∀ b o, b ≠ a → H b = some o → H' b = some o) (hc : ∃ c n, H' a = some (.lst [.int c, .int n])) :
    Wd W B H' ∧ EnvR K B H' σ ρ ∧ Same (mask B H) (mask B H') := by
  obtain ⟨h1, hb, c0, n0, h0⟩ := en.di hi
  obtain ⟨c, n, hc⟩ := hc
  have s : Same (upd H a (.lst [.int c, .int n])) H' := fun b o e => by
    by_cases z : b = a
    · rw [z, upd_same] at e
      rw [z, hc, e]
    · rw [upd_ne z] at e
      exact hp b o z e
  have w1 := (w.writeD (c := c) (n := n) hd hb h0 rfl).same s
  have e1 := (en.write (o := .lst [.int c, .int n]) (s' := .di a) hi rfl h1 hb ⟨rfl, hb, c, n, upd_same⟩ rfl).same s
  rw [set_same_slot hi] at e1
  refine ⟨w1, e1, ?_⟩
  have m := mask_same (B := B) s
  rw [mask_upd hb] at m
  exact m
/-! ### expressions that may throw the dice -/
def tE (K : PySem.W.Frag) (W : Wl) (ρ : List Sl) (S : Dat → Prop) : TE := fun σ H Q => ∃ B, Wd W B H ∧ EnvR K B H σ ρ ∧ ∀ v H' B' d, S d → Wd W B' H' → EnvR K B' H' σ ρ → Sm (mask B H) (mask B' H') → Rp K (mask B' H') v d → Q v H'
abbrev DE (X : Cx) (W : Wl) (e : Expr) (ρ : List Sl) (S : Dat → Prop) : Prop := PE X e (tE X.K W ρ S)
def tEA (K : PySem.W.Frag) (W : Wl) (ρ : List Sl) (S : List Dat → Prop) : TA := fun σ H Q => ∃ B, Wd W B H ∧ EnvR K B H σ ρ ∧ ∀ vs H' B' ds, S ds → Wd W B' H' → EnvR K B' H' σ ρ → Sm (mask B H) (mask B' H') → RpA K (mask B' H') vs ds → Q vs H'
abbrev DEA (X : Cx) (W : Wl) (es : List Expr) (ρ : List Sl) (S : List Dat → Prop) : Prop := PA X es (tEA X.K W ρ S)
section
variable {X : Cx} {E : XK} {W : Wl} {ρ : List Sl} {P : Out → Prop} {S : Dat → Prop}
theorem de_pure {e : Expr} {d : Dat} (h : D X E e ρ (.ok d)) (hs : S d) : DE X W e ρ S :=
  pe_imp h fun σ H Q ⟨B, w, en, q⟩ => ⟨B, w.cov, en, fun v H' s r => q v H' B d hs (w.same s) (en.same s) (Sm.of (mask_same s)) r⟩
theorem dea_nil {S : List Dat → Prop} (h : S []) : DEA X W [] ρ S := pa_imp pa_nil fun σ H Q ⟨B, w, en, q⟩ => q [] H B [] h w en (LamX.ExtN.refl _) .nil
theorem dea_cons {e : Expr} {es : List Expr} {S1 : Dat → Prop} {S2 S : List Dat → Prop} (h : DE X W e ρ S1) (hr : DEA X W es ρ S2) (hS : ∀ d ds, S1 d → S2 ds → S (d :: ds)) (hs : starEach (e :: es) X.env = (false, eval e X.env) :: starEach es X.env := by rfl) : DEA X W (e :: es) ρ S :=
  pa_imp (pa_cons h hr hs) fun σ H Q ⟨B, w, en, q⟩ => ⟨B, w, en, fun v H1 B1 d h1 w1 en1 m1 rv => ⟨B1, w1, en1, fun vs H2 B2 ds h2 w2 en2 m2 rs => q (v :: vs) H2 B2 (d :: ds) (hS d ds h1 h2) w2 en2 (m1.trans m2) (.cons (rv.monoN m2) rs)⟩⟩
/-- a binary operation -/
theorem de_op {a b : Expr} {op : Operator} {r : R2} {S1 S2 : Dat → Prop} {pos : Pos} (hr : OpR X (binaryOp op) r) (ho : ∀ x y, S1 x → S2 y → ∃ z, S z ∧ Op2 X.K r x y z) (ha : DE X W a ρ S1) (hb : DE X W b ρ S2) : DE X W (.BinOp a op b pos) ρ S :=
  pe_imp (pe_op hr ha hb) fun σ H Q ⟨B, w, en, q⟩ => ⟨B, w, en, fun vx H1 B1 x h1 w1 en1 m1 rx => ⟨B1, w1, en1, fun vy H2 B2 y h2 w2 en2 m2 ry => by
    obtain ⟨z, hz, oz⟩ := ho x y h1 h2
    exact oz B2 H2 vx vy Q w2.cov (rx.monoN m2) ry fun v H3 s3 rv => q v H3 B2 z hz (w2.same s3) (en2.same s3) ((m1.trans m2).trans (Sm.of (mask_same s3))) rv⟩⟩
theorem de_ix {a b : Expr} {r : R2} {S1 S2 : Dat → Prop} {pos : Pos} (hr : IxR X r) (ho : ∀ x y, S1 x → S2 y → ∃ z, S z ∧ Op2 X.K r x y z) (ha : DE X W a ρ S1) (hb : DE X W b ρ S2) (hs : PlainIx b := by exact fun _ _ => rfl) : DE X W (.Subscript a b pos) ρ S :=
  pe_imp (pe_ix hr ha hb hs) fun σ H Q ⟨B, w, en, q⟩ => ⟨B, w, en, fun vx H1 B1 x h1 w1 en1 m1 rx => ⟨B1, w1, en1, fun vy H2 B2 y h2 w2 en2 m2 ry => by
    obtain ⟨z, hz, oz⟩ := ho x y h1 h2
    exact oz B2 H2 vx vy Q w2.cov (rx.monoN m2) ry fun v H3 s3 rv => q v H3 B2 z hz (w2.same s3) (en2.same s3) ((m1.trans m2).trans (Sm.of (mask_same s3))) rv⟩⟩
/-- x = e -/
theorem s_setDE (i : Nat) {x : Str} {e : Expr} {pos pos' : Pos} (hN : X.N.Nodup) (h : DE X W e ρ S) (q : ∀ d, S d → P (.nx (ρ.set i (.dt d)))) (hi : X.N[i]? = some x := by rfl) (hx : Loc X.env.scope x := by first | exact Or.inl rfl | exact Or.inr rfl)
    (hs : swapsWith e (some (.Name x pos')) pos.line X.env = pure false := by rfl) (hf : X.fn x = true ∨ X.env.scope.names.lookup x = some .local := by first | exact .inl rfl | exact .inr rfl | assumption) : S1 X E W (.Assign [.Name x pos'] e pos) ρ P :=
  ps_imp (ps_set hN hi hx h hs hf) fun D σ H ⟨B, w, en, p⟩ => ⟨B, w, en, fun v H' B' d hd w' en' m' r => p.nx _ _ H' B' (q d hd) w' (en'.setD i r)⟩
/-- a, b = e, e a pair -/
theorem s_asg2DE {i j : Nat} {e tg : Expr} {pos : Pos} (hg : GT X tg [i, j] prPair (bd2 i j)) (h : DE X W e ρ S) (q : ∀ d, S d → ∃ a b, d = .tup [a, b] ∧ P (.nx ((ρ.set i (.dt a)).set j (.dt b))))
    (h2 : PE X e (tE X.K W ρ S) → PG X tg (tG X.K [i, j] prPair (bd2 i j)) → PS X (.Assign [tg] e pos) (tAsg (tE X.K W ρ S) (tG X.K [i, j] prPair (bd2 i j)))) : S1 X E W (.Assign [tg] e pos) ρ P :=
  ps_imp (h2 h hg) fun D σ H ⟨B, w, en, p⟩ => ⟨B, w, en, fun v H' B' d hd w' en' m' r => by
    obtain ⟨a, b, rfl, hq⟩ := q d hd
    exact ⟨B', _, ρ, w'.cov, en', r, ⟨a, b, rfl⟩, fun σ' en2 _ => p.nx _ _ H' B' hq w' en2⟩⟩
/-- a, b = e1, e2 -/
theorem s_parDE {i j : Nat} {x y : Str} {a b : Expr} {px py pt : Pos} {kt k2 : Nat} {pt2 pos : Pos} {S : List Dat → Prop} (h2 : PA X [a, b] (tEA X.K W ρ S) → PS X (.Assign [.Tuple [.Name x px, .Name y py] kt pt] (.Tuple [a, b] k2 pt2) pos) (tPar i j (tEA X.K W ρ S)))
    (h : DEA X W [a, b] ρ S) (q : ∀ ds, S ds → ∃ u v, ds = [u, v] ∧ P (.nx ((ρ.set i (.dt u)).set j (.dt v)))) : S1 X E W (.Assign [.Tuple [.Name x px, .Name y py] kt pt] (.Tuple [a, b] k2 pt2) pos) ρ P :=
  ps_imp (h2 h) fun D σ H ⟨B, w, en, p⟩ => ⟨B, w, en, fun vs H' B' ds hd w' en' m' r => by
    obtain ⟨u, v, rfl, hq⟩ := q ds hd
    obtain ⟨va, vb, rfl, ra, rb⟩ := rpA_two r
    exact ⟨va, vb, rfl, p.nx _ _ H' B' hq w' ((en'.setD i ra).setD j rb)⟩⟩
theorem s_retDE {e : Expr} {pos : Pos} (h : DE X W e ρ S) (q : ∀ d, S d → P (.rt d)) : S1 X E W (.Return (some e) pos) ρ P :=
  ps_imp (ps_ret h) fun D σ H ⟨B, w, en, p⟩ => ⟨B, w, en, fun v H' B' d hd w' en' m' r => p.rt d v H' B' (q d hd) w' r⟩
/-! ### defs that take dice -/
end
def spD (K : PySem.W.Frag) (C : List Dat → (Dat → Prop) → Prop) : Sp := fun vs H Q E => ∃ B a vs' as S, vs = V.ref a :: vs' ∧ Cov B H ∧ B a = true ∧ (∃ c n, H a = some (.lst [.int c, .int n])) ∧ RpA K (mask B H) vs' as ∧ C as S ∧
  ∀ v H' d, S d → (∀ b o, b ≠ a → H b = some o → H' b = some o) → (∃ c n, H' a = some (.lst [.int c, .int n])) → Rp K (mask B H') v d → Q v H'
structure FnD (P : Program) (w : World) (K : PySem.W.Frag) (mg : Str → Option Value) (base : Heap) (x : Str) (ps : List Str) (C : List Dat → (Dat → Prop) → Prop) (k : Nat) : Prop where
  ex : ∃ f fd, FnOk P w K mg base (L2N.CX P w) k f fd ps (spD K C) ∧ mg x = some (.ref f) ∧ PySem.W.keepIn K (.ref f) = true ∧ Binds K fd ps []
section
variable {X : Cx} {E : XK} {W : Wl} {ρ : List Sl} {P : Out → Prop} {S : Dat → Prop}
theorem de_call {x dn : Str} {ps : List Str} {C : List Dat → (Dat → Prop) → Prop} {k : Nat} {i : Nat} {a : Addr} {es : List Expr} {as : List Dat} {p pd pos : Pos} (F : FnD X.prog X.w X.K X.mg X.base x ps C k) (hr : Room k X.A) (hi : ρ[i]? = some (.di a)) (hd : Dw W a) (hx : PE X (.Name dn pd) (tVar i)) (ha : DA X E0 es ρ (.ok as)) (hc : C as S)
    (hg : Gl X x := by rfl) (hdb : (x == ("__debug__" : Str)) = false := by decide) (he : starEach (.Name dn pd :: es) X.env = (false, eval (.Name dn pd) X.env) :: starEach es X.env := by rfl) (hpl : (backTo pos (starEach es X.env)).any (·.1) = false := by rfl) : DE X W (.Call (.Name x p) (.Name dn pd :: es) [] pos) ρ S := by
  obtain ⟨f, fd, h1, h2, h3, h4⟩ := F.ex
  refine pe_imp (pe_callS (E := fun _ => E0) h1 hr hg h2 h3 h4 (fun σ pins H s e s' I c => passN pins σ H s e s' I c) (pa_cons hx ha he) hdb he hpl) fun σ H Q ⟨B, w, en, q⟩ => ?_
  obtain ⟨e1, hb, c0, n0, h0⟩ := en.di hi
  refine ⟨_, e1, B, w.cov, en, fun vs H1 s1 rs => ⟨B, a, vs, as, S, rfl, w.cov.same s1, hb, ⟨c0, n0, s1 _ _ h0⟩, rs, hc, fun v H' d hS hp hcn rv => ?_⟩⟩
  obtain ⟨w', en', m'⟩ := dice_step (w.same s1) (en.same s1) hi hd hp hcn
  exact q v H' B d hS w' en' (Sm.of ((mask_same s1).trans m')) rv
end
def startD (N : List Str) (a : Addr) (as : List Dat) : List Sl := .di a :: (as.map Sl.dt ++ List.replicate (N.length - 1 - as.length) Sl.un)
theorem EnvR.cons {K : PySem.W.Frag} {B : Addr → Bool} {H : Hp} {σ : L2.St} {ρ : List Sl} {s : Sl} {o : Option V} (e : EnvR K B H σ ρ) (h : SlOk K B H s o) (hno : ∀ x ∈ ρ, x.own = false) : EnvR K B H (o :: σ) (s :: ρ) := by
  refine ⟨by rw [List.length_cons, List.length_cons, e.len], fun i x hx => ?_, fun i j si sj v hij hi hj oi oj vi => ?_⟩
  · cases i with
    | zero =>
      have hx := Option.some.inj hx
      subst hx
      exact ⟨o, rfl, h⟩
    | succ i => exact e.at_ i x hx
  · cases i with
    | zero =>
      cases j with
      | zero => exact absurd rfl hij
      | succ j =>
        have hj : ρ[j]? = some sj := hj
        rw [hno sj (List.mem_of_getElem? hj)] at oj
        cases oj
    | succ i =>
      have hi : ρ[i]? = some si := hi
      rw [hno si (List.mem_of_getElem? hi)] at oi
      cases oi
theorem startρ_own {N : List Str} {as : List Dat} : ∀ x ∈ startρ N as, x.own = false := fun x hx => by
  rcases List.mem_append.mp hx with h | h
  · obtain ⟨d, _, rfl⟩ := List.mem_map.mp h
    rfl
  · rw [(List.mem_replicate.mp h).2]
    rfl
section
variable {P : Program} {w : World} {K : PySem.W.Frag} {mg : Str → Option Value} {base : Heap}
theorem fnD_ok {x qual : Str} {st : Stmt} {f : Addr} {fd : FuncData} {N ps : List Str} {k : Nat} {C : List Dat → (Dat → Prop) → Prop} (F : Fun K x qual st f fd) (Sc : FnScope N ps (defScope st)) (len : ∀ as S, C as S → as.length + 1 = ps.length) (hN : 1 ≤ N.length)
    (hbody : ∀ (cdv : Value) (A : Around) (outer : List Env) (s : Shared) (H : Hp) (E : XK) (as : List Dat) (S : Dat → Prop) (W : Wl) (a : Addr), (∀ b, b ≠ a → W.M b = false) → Dw W a → W.dc a = true → Room k (A.deeper (envOfC qual (defScope st) s.heap.objs.size f cdv)) → C as S →
      SS (cxOf (L2N.CX P w) P w K mg base N qual (defScope st) f cdv A outer s H E) E W (defBody st) (startD N a as) (fun o => ∃ d, o = .rt d ∧ S d)) : FnOk P w K mg base (L2N.CX P w) (k + 1) f fd ps (spD K C) := by
  refine okN F Sc (fun vs H Q E h => ?_) (fun cdv A outer s H vs Q E hr h => ?_)
  · obtain ⟨B, a, vs', as, S, rfl, _, _, _, ra, hc, _⟩ := h
    rw [List.length_cons, ra.length]
    exact len as S hc
  · obtain ⟨B, a, vs', as, S, rfl, cv, hb, hdi, ra, hc, q⟩ := h
    have hb' := hbody cdv A outer s H E as S ⟨H, B, fun b => decide (b = a), fun _ => none, fun _ => True, fun _ _ _ _ => True.intro, cv, fun b => decide (b = a), fun _ => true⟩ a (fun b hb => decide_eq_false hb) (fun m => by simp at m) (by simp) hr hc
    refine ⟨_, hb', B, ⟨fun a o _ h => h, fun _ h => h, cv, fun a o h => (by cases h), True.intro, fun b hbd => ?_, fun _ _ _ _ => rfl⟩, ?_, ?_⟩
    · have e := of_decide_eq_true hbd
      subst e
      exact ⟨hb, hdi⟩
    · have e := envR_start (N := N.drop 1) ra
      have e2 := e.cons (s := .di a) (o := some (.ref a)) ⟨rfl, hb, hdi⟩ startρ_own
      have z : L2.start N (.ref a :: vs') = some (V.ref a) :: L2.start (N.drop 1) vs' := by
        unfold L2.start
        rw [List.map_cons, List.cons_append, List.length_cons, List.length_drop, Nat.sub_sub, Nat.add_comm 1]
      have z2 : startD N a as = .di a :: startρ (N.drop 1) as := by
        unfold startD startρ
        rw [List.length_drop]
      rw [z, z2]
      exact e2
    · refine ⟨fun ρ σ H' B' e w en => ?_, fun d v H' B' e w r' => ?_, fun c H' B' e w => ?_, fun ρ σ H' B' e w en => ?_, fun ρ σ H' B' e w en => ?_, fun ρ σ d v H' B' e w en r' => (by obtain ⟨d, e, _⟩ := e; cases e), fun ρ σ c H' B' e w en => (by obtain ⟨d, e, _⟩ := e; cases e)⟩
      · obtain ⟨d, e, _⟩ := e
        cases e
      · obtain ⟨d', e, hS⟩ := e
        cases e
        exact q v H' d hS (fun b o hne h => w.old b o (decide_eq_false hne) h) (w.di a (by simp)).2 (r'.mono (mask_le w.b0))
      · obtain ⟨d, e, _⟩ := e
        cases e
      · obtain ⟨d, e, _⟩ := e
        cases e
      · obtain ⟨d, e, _⟩ := e
        cases e
end
/-! ### the loop over the dice of a law; T: the tables of code objects -/
abbrev tbs (T : List (Addr × Str)) : List Addr := T.map (·.1)
def WT (T : List (Addr × Str)) (fr : Hp) (dc : Addr → Bool) : Wl :=
  ⟨fun a => if a ∈ tbs T then some (.tbl #[]) else none, fun a => decide (a ∈ tbs T), fun a => decide (a ∈ tbs T), fr, LamX.Tabs T, fun H H' k h p hp => (by
    obtain ⟨ps, h1, h2, h3⟩ := h p hp
    exact ⟨ps, k _ _ h1 rfl, h2, fun pos cv hc => let ⟨c, e, h⟩ := h3 pos cv hc; ⟨c, e, k _ _ h rfl⟩⟩), fun a ha n => (by
    have n : Bad (if a ∈ tbs T then some (HO.tbl #[]) else none) := n
    rw [if_pos (of_decide_eq_true ha)] at n
    rcases n with n | ⟨_, n⟩ <;> cases n), dc, fun a => decide (a ∈ tbs T)⟩
theorem dwT {T : List (Addr × Str)} {fr : Hp} {dc : Addr → Bool} {a : Addr} : Dw (WT T fr dc) a := fun m => if_neg (of_decide_eq_false m)
abbrev W0 (T : List (Addr × Str)) : Wl := WT T (fun _ => none) fun _ => false
def unN (n : Nat) : List Sl := List.replicate n .un
theorem envR_un {K : PySem.W.Frag} {B : Addr → Bool} {H : Hp} {σ : L2.St} {n : Nat} (h : σ.length = n) : EnvR K B H σ (unN n) := by
  refine ⟨by unfold unN; rw [h, List.length_replicate], fun i s hs => ?_, fun i j si sj v _ hi _ oi _ _ => ?_⟩
  · unfold unN at hs
    rw [List.getElem?_replicate] at hs
    split at hs
    · have hs := Option.some.inj hs
      subst hs
      exact ⟨σ[i], List.getElem?_eq_getElem (by omega), True.intro⟩
    · cases hs
  · unfold unN at hi
    rw [List.getElem?_replicate] at hi
    split at hi
    · have hi := Option.some.inj hi
      subst hi
      cases oi
    · cases hi
theorem rpA_dice {K : PySem.W.Frag} {H : Hp} : ∀ {cs : List Int} {vs : List V}, RpA K H vs (cs.map fun c => .lst [.int c, .int 0]) → ∃ as : List Addr, vs = as.map V.ref ∧ ∀ a ∈ as, ∃ c, H a = some (.lst [.int c, .int 0])
  | [], _, h => by
    cases h
    exact ⟨[], rfl, fun a h => by cases h⟩
  | c :: cs, _, h => by
    cases h with
    | cons h1 h2 =>
      obtain ⟨as, rfl, h3⟩ := rpA_dice h2
      cases h1 with
      | @lst a xs _ ha hr =>
        obtain ⟨v, w, rfl, r1, r2⟩ := rpA_two hr
        rw [rp_int r1, rp_int r2] at ha
        refine ⟨a :: as, rfl, fun b hb => ?_⟩
        rcases List.mem_cons.mp hb with rfl | hb
        · exact ⟨c, ha⟩
        · exact h3 b hb
theorem s_forDice {X : Cx} {E : XK} {ρ : List Sl} {P : Out → Prop} {T : List (Addr × Str)} {x : Str} {iter : Expr} {body : List Stmt} {px pos : Pos} {cs : List Int} (i : Nat) (hp : PassesOwn (model X.prog X.w) X.A X.env X.xe) (hN : X.N.Nodup) (hl : ρ.length = X.N.length) (hit : D X E0 iter ρ (.ok (.lst (cs.map fun c => .lst [.int c, .int 0]))))
    (hs : ∀ (fr : Hp) (dc : Addr → Bool) (a : Addr), dc a = true → SS X E (WT T fr dc) body ((unN X.N.length).set i (.di a)) (Lp (fun ρ2 => ρ2.length = X.N.length) fun _ => False)) (hd : P (.nx (unN X.N.length))) (hi : X.N[i]? = some x := by rfl) (hx : Loc X.env.scope x := by first | exact Or.inl rfl | exact Or.inr rfl)
    (hf2 : X.fn x = true ∨ X.env.scope.names.lookup x = some .local := by first | exact .inl rfl | exact .inr rfl | assumption) (hc : X.calm = true := by rfl) (hf : ∀ x, foldedSetIterable iter X.env x = pure x := by intro _; rfl) : S1 X E (W0 T) (.For (.Name x px) iter body [] pos) ρ P := by
  refine ps_imp (ps_for hp hc (pi_list hit) (pg_name (i := i) hN hi hx hf2) (pss_ex (ι := { q : Hp × (Addr → Bool) × Addr // q.2.1 q.2.2 = true }) (t := fun q => tS X.K E (WT T q.1.1 q.1.2.1) ((unN X.N.length).set i (.di q.1.2.2)) (Lp (fun ρ2 => ρ2.length = X.N.length) fun _ => False)) fun q => hs q.1.1 q.1.2.1 q.1.2.2 q.2) hf) fun D σ H ⟨B, w, en, p⟩ => ?_
  refine ⟨B, w.cov, en, fun v H1 s1 rv => ?_⟩
  have hσ : σ.length = X.N.length := en.len.trans hl
  have hT : LamX.Tabs T H1 := (w.same s1).iv
  have tab : ∀ a, a ∈ tbs T → ∃ ps, H1 a = some (.tbl ps) := fun a ha => by
    obtain ⟨p, hp, rfl⟩ := List.mem_map.mp ha
    obtain ⟨ps, h, _⟩ := hT p hp
    exact ⟨ps, h⟩
  cases rv with
  | @lst l vs _ hq hr =>
    obtain ⟨as, rfl, has⟩ := rpA_dice hr
    have hq1 : H1 l = some (.lst (as.map V.ref)) := mask_sub B H1 _ _ hq
    have has1 : ∀ a ∈ as, ∃ c, H1 a = some (.lst [.int c, .int 0]) := fun a ha => let ⟨c, h⟩ := has a ha; ⟨c, mask_sub B H1 _ _ h⟩
    have hla : l ∉ as := fun h => by
      obtain ⟨c, hc⟩ := has1 l h
      rw [hq1] at hc
      cases as with
      | nil => cases h
      | cons a r =>
        have hc := Option.some.inj hc
        injection hc with hc
        rw [List.map_cons] at hc
        injection hc with hc _
        cases hc
    have hlt : l ∉ tbs T := fun h => by
      obtain ⟨ps, e⟩ := tab l h
      rw [hq1] at e
      cases e
    let dc : Addr → Bool := fun b => decide (b ∈ as)
    let Bd : Addr → Bool := fun b => decide (b ∈ as) || decide (b ∈ tbs T)
    refine ⟨l, rfl, ⟨_, SqL.of hq1⟩, fun i m σ H => m = as.length - i ∧ i ≤ as.length ∧ σ.length = X.N.length ∧ ∃ B', Wd (WT T (mask Bd H1) dc) B' H, ⟨as.length, by simp, Nat.zero_le _, hσ, Bd, ?_⟩, ?_⟩
    · refine ⟨fun a o m h => ?_, fun a h => ?_, fun a ha n => ?_, LamX.ExtN.refl _, hT, fun a ha => ⟨?_, ?_⟩, fun a ps ha h => ?_⟩
      · rw [show (WT T (mask Bd H1) dc).H0 a = none from dwT m] at h
        cases h
      · show (decide (a ∈ as) || decide (a ∈ tbs T)) = true
        rw [show decide (a ∈ tbs T) = true from h, Bool.or_true]
      · rcases Bool.or_eq_true_iff.mp ha with z | z
        · obtain ⟨c, hc⟩ := has1 a (of_decide_eq_true z)
          rw [hc] at n
          rcases n with n | ⟨_, n⟩ <;> cases n
        · obtain ⟨ps, h⟩ := tab a (of_decide_eq_true z)
          rw [h] at n
          rcases n with n | ⟨_, n⟩ <;> cases n
      · show (decide (a ∈ as) || decide (a ∈ tbs T)) = true
        rw [show decide (a ∈ as) = true from ha, Bool.true_or]
      · obtain ⟨c, hc⟩ := has1 a (of_decide_eq_true ha)
        exact ⟨c, 0, hc⟩
      · rcases Bool.or_eq_true_iff.mp ha with z | z
        · obtain ⟨c, hc⟩ := has1 a (of_decide_eq_true z)
          rw [hc] at h
          cases h
        · exact z
    · rintro j m σ H ⟨rfl, hj, hσ, B', wd⟩
      have hql : H l = some (.lst (as.map V.ref)) := by
        refine mask_sub B' H _ _ (wd.fr l _ ?_ fun _ z => by cases z)
        show mask Bd H1 l = _
        rw [mask_out (by show (decide (l ∈ as) || decide (l ∈ tbs T)) = false; rw [decide_eq_false hla, decide_eq_false hlt]; rfl)]
        exact hq1
      have hq2 : SqL X.K H l (as.map V.ref) := SqL.of hql
      by_cases hlt : j < as.length
      · refine .inr ⟨⟨_, (as.map V.ref)[j]'(by rw [List.length_map]; exact hlt), hq2, List.getElem?_eq_getElem _⟩, fun σ' H' => σ'.length = X.N.length ∧ ∃ B', Wd (WT T (mask Bd H1) dc) B' H', fun σ' H' z => ⟨as.length - (j + 1), by omega, rfl, hlt, z⟩, fun v H' yv => ?_⟩
        obtain ⟨e1, y⟩ := yv
        subst e1
        have hv := y _ hq2
        rw [List.getElem?_map] at hv
        obtain ⟨a, ha, rfl⟩ := Option.map_eq_some_iff.mp hv
        have hm : dc a = true := decide_eq_true (List.mem_of_getElem? ha)
        refine ⟨⟨(mask Bd H1, dc, a), hm⟩, B', wd, ?_, ?_⟩
        · exact (envR_un hσ).setO i ⟨rfl, wd.di a hm⟩ fun k sk v _ hk ok _ => by
            unfold unN at hk
            rw [List.getElem?_replicate] at hk
            split at hk
            · have hk := Option.some.inj hk
              subst hk
              cases ok
            · cases hk
        · exact ⟨fun ρ2 σ2 H2 B2 q w2 e2 => ⟨e2.len.trans q, B2, w2⟩, fun _ _ _ _ q => q.elim, fun _ _ _ q => q.elim, fun _ _ _ _ q => q.elim, fun ρ2 σ2 H2 B2 q w2 e2 => ⟨e2.len.trans q, B2, w2⟩, fun _ _ _ _ _ _ q => q.elim, fun _ _ _ _ _ q => q.elim⟩
      · exact .inl ⟨⟨_, hq2, by rw [List.length_map]; omega⟩, p.nx _ σ H B' hd ⟨wd.old, wd.b0, wd.cov, fun a o h => (by cases h), wd.iv, fun a h => (by cases h), wd.tb⟩ (envR_un hσ)⟩
end G

set_option Elab.async false
set_option linter.all false
set_option maxRecDepth 100000
set_option maxHeartbeats 2000000
namespace G
open PySem PySem.Spec PyProof.Rows L2 TL
section
variable {X : Cx} {E : XK} {W : Wl} {ρ : List Sl} {P : Out → Prop} {tg : Expr}
/-! ### y = [..] on one line, y a local -/
theorem s_setLc0 (i : Nat) {y : Str} {py spos : Pos} {elt iter : Expr} {scope : Scope} {own : List (Str × Nat)} {pos : Pos} {xs : List Dat} {is : List Nat} {pr : Dat → Prop} {bd : Dat → List Sl → List Sl} {f : Dat → Dat} (hc : X.calm = true) (hN : X.N.Nodup) (hi : I X tg iter ρ xs) (ok : BlkOk X.N X.env.scope scope own)
    (hg : Bk X scope fun Y => GT Y tg is pr bd) (he : ∀ x ∈ xs, Bk X scope fun Y => D Y E0 elt (bd x (wipeρ ρ (own.map (·.2)))) (.ok (f x))) (hpr : ∀ x ∈ xs, pr x) (his : ∀ i ∈ is, i ∈ own.map (·.2)) (hl : xs.length ≤ 100000) (q : P (.nx (ρ.set i (.dt (.lst (xs.map f))))))
    (hs : ∀ x, foldedSetIterable iter X.env x = pure x := by intro _; rfl) (hy : X.N[i]? = some y := by rfl) (hyl : X.env.scope.names.lookup y = some .local := by rfl) (hsw : swapsWith (.ListComp elt [⟨tg, iter, [], 0⟩] scope pos) (some (.Name y py)) spos.line X.env = pure true := by first | rfl | exact sw_true rfl rfl rfl rfl) :
    S1 X E W (.Assign [.Name y py] (.ListComp elt [⟨tg, iter, [], 0⟩] scope pos) spos) ρ P := by
  refine ps_imp (ps_setLc (g := tG X.K is pr bd) (te := fun σ H Q => ∃ x : { x // x ∈ xs }, tD X.K E0 (bd x.1 (wipeρ ρ (own.map (·.2)))) (.ok (f x.1)) σ H Q) hc hN hy hyl hsw hi ok hg (fun _ _ _ _ _ => pts_nil) (fun s H C cl fp => pe_ex fun x => he x.1 x.2 s H C cl fp) hs) fun D σ H ⟨B, w, en, p⟩ => ⟨B, w.cov, en, fun J H1 s1 hy Dl nD => ?_⟩
  refine lc_core2 (bd := bd) (tt := tYes) (te := fun σ H Q => ∃ x : { x // x ∈ xs }, tD X.K E0 (bd x.1 (wipeρ ρ (own.map (·.2)))) (.ok (f x.1)) σ H Q) (Q := fun x H1 => gName i x σ H1 D.nx) (p := fun _ => true) (f := f) (w.cov.same s1) (en.same s1) hy hpr his hl (fun x _ B σ' H Q _ _ k => k H (Same.refl H)) (fun x hx _ B σ' H Q cv en k => ⟨⟨x, hx⟩, B, cv, en, k⟩) nD fun H' s' r => ?_
  rw [List.filter_eq_self.mpr fun _ _ => rfl] at r
  have ss := s1.trans s'
  exact p.nx _ _ H' B q (w.same ss) ((en.same ss).setD i r)
theorem s_setLc1 (i : Nat) {y : Str} {py spos : Pos} {elt iter cond : Expr} {scope : Scope} {own : List (Str × Nat)} {pos : Pos} {xs : List Dat} {is : List Nat} {pr : Dat → Prop} {bd : Dat → List Sl → List Sl} {pp : Dat → Bool} {f : Dat → Dat} (hc : X.calm = true) (hN : X.N.Nodup) (hi : I X tg iter ρ xs) (ok : BlkOk X.N X.env.scope scope own)
    (hg : Bk X scope fun Y => GT Y tg is pr bd) (ht : ∀ x ∈ xs, Bk X scope fun Y => T Y cond (bd x (wipeρ ρ (own.map (·.2)))) (pp x)) (he : ∀ x ∈ xs, pp x = true → Bk X scope fun Y => D Y E0 elt (bd x (wipeρ ρ (own.map (·.2)))) (.ok (f x))) (hpr : ∀ x ∈ xs, pr x) (his : ∀ i ∈ is, i ∈ own.map (·.2)) (hl : xs.length ≤ 100000) (q : P (.nx (ρ.set i (.dt (.lst ((xs.filter pp).map f))))))
    (hs : ∀ x, foldedSetIterable iter X.env x = pure x := by intro _; rfl) (hy : X.N[i]? = some y := by rfl) (hyl : X.env.scope.names.lookup y = some .local := by rfl) (hsw : swapsWith (.ListComp elt [⟨tg, iter, [cond], 0⟩] scope pos) (some (.Name y py)) spos.line X.env = pure true := by first | rfl | exact sw_true rfl rfl rfl rfl) :
    S1 X E W (.Assign [.Name y py] (.ListComp elt [⟨tg, iter, [cond], 0⟩] scope pos) spos) ρ P := by
  refine ps_imp (ps_setLc (g := tG X.K is pr bd) (tt := fun σ H Q => ∃ x : { x // x ∈ xs }, tDT X.K (bd x.1 (wipeρ ρ (own.map (·.2)))) (pp x.1) σ H Q) (te := fun σ H Q => ∃ x : { x // x ∈ xs ∧ pp x = true }, tD X.K E0 (bd x.1 (wipeρ ρ (own.map (·.2)))) (.ok (f x.1)) σ H Q) hc hN hy hyl hsw hi ok hg (fun s H C cl fp => pts_one (pt_ex fun x => ht x.1 x.2 s H C cl fp)) (fun s H C cl fp => pe_ex fun x => he x.1 x.2.1 x.2.2 s H C cl fp) hs) fun D σ H ⟨B, w, en, p⟩ => ⟨B, w.cov, en, fun J H1 s1 hy Dl nD => ?_⟩
  refine lc_core2 (bd := bd) (tt := fun σ H Q => ∃ x : { x // x ∈ xs }, tDT X.K (bd x.1 (wipeρ ρ (own.map (·.2)))) (pp x.1) σ H Q) (te := fun σ H Q => ∃ x : { x // x ∈ xs ∧ pp x = true }, tD X.K E0 (bd x.1 (wipeρ ρ (own.map (·.2)))) (.ok (f x.1)) σ H Q) (Q := fun x H1 => gName i x σ H1 D.nx) (p := pp) (f := f) (w.cov.same s1) (en.same s1) hy hpr his hl (fun x hx B σ' H Q cv en k => ⟨⟨x, hx⟩, B, cv, en, k⟩) (fun x hx hp B σ' H Q cv en k => ⟨⟨x, hx, hp⟩, B, cv, en, k⟩) nD fun H' s' r => ?_
  have ss := s1.trans s'
  exact p.nx _ _ H' B q (w.same ss) ((en.same ss).setD i r)
end
end G

set_option linter.all false
namespace G
/-! plain: formations as lists of code lists, the orders on them -/
abbrev Fm := List (List Nat)
def lets : List Nat := [97, 98, 99, 100, 101, 102]
def signs : List Nat := [65, 67, 68, 76, 77, 82, 83, 88]
def fileOf (f : Fm) (n : Nat) : List Nat := f.filterMap fun r => r[n]?
def inter : List Nat → List Nat → List Nat
  | a :: r, b :: s => a :: b :: inter r s
  | _, _ => []
def dblF : Fm → Fm
  | a :: b :: r => inter a b :: dblF r
  | _ => []
def evens : List Nat → List Nat
  | a :: _ :: r => a :: evens r
  | [a] => [a]
  | [] => []
def odds : List Nat → List Nat
  | _ :: b :: r => b :: odds r
  | _ => []
def sglF : Fm → Fm
  | [] => []
  | a :: r => evens a :: odds a :: sglF r
def wid (f : Fm) : Nat := (f.headD []).length
def mvF (f : Fm) (o : Nat) : Option Fm :=
  if o = 82 then some ((List.range (wid f)).map fun k => fileOf f (wid f - 1 - k))
  else if o = 76 then some ((List.range (wid f)).map fun k => (fileOf f k).reverse)
  else if o = 65 then some (f.reverse.map List.reverse)
  else if o = 68 then (if f.length % 2 = 0 then some (dblF f) else none)
  else if o = 83 then (if wid f % 2 = 0 then some (sglF f) else none)
  else if o = 67 then some (f.drop 1 ++ f.take 1)
  else if o = 88 then some (f.map fun r => r.drop 1 ++ r.take 1)
  else some (f.map List.reverse)
def aftF : Fm → List Nat → Option Fm
  | f, [] => some f
  | f, o :: r => (mvF f o).bind fun g => aftF g r
/-! naturality: the orders do not look at the codes -/
def mapF (h : Nat → Nat) (f : Fm) : Fm := f.map fun r => r.map h
theorem fileOf_nat (h : Nat → Nat) (n : Nat) : ∀ f : Fm, fileOf (mapF h f) n = (fileOf f n).map h
  | [] => rfl
  | r :: f => by
    have ih := fileOf_nat h n f
    unfold fileOf mapF at ih ⊢
    rw [List.map_cons, List.filterMap_cons, List.filterMap_cons, List.getElem?_map]
    cases r[n]? with
    | none => exact ih
    | some c =>
      show h c :: _ = h c :: _
      rw [ih]
theorem inter_nat (h : Nat → Nat) : ∀ a b : List Nat, inter (a.map h) (b.map h) = (inter a b).map h
  | [], _ => rfl
  | _ :: _, [] => rfl
  | a :: r, b :: s => by
    show h a :: h b :: inter (r.map h) (s.map h) = h a :: h b :: (inter r s).map h
    rw [inter_nat h r s]
theorem dblF_nat (h : Nat → Nat) : ∀ f : Fm, dblF (mapF h f) = mapF h (dblF f)
  | [] => rfl
  | [_] => rfl
  | a :: b :: r => by
    show inter (a.map h) (b.map h) :: dblF (mapF h r) = (inter a b).map h :: mapF h (dblF r)
    rw [inter_nat, dblF_nat h r]
theorem evens_nat (h : Nat → Nat) : ∀ a : List Nat, evens (a.map h) = (evens a).map h
  | [] => rfl
  | [_] => rfl
  | a :: b :: r => by
    show h a :: evens (r.map h) = h a :: (evens r).map h
    rw [evens_nat h r]
theorem odds_nat (h : Nat → Nat) : ∀ a : List Nat, odds (a.map h) = (odds a).map h
  | [] => rfl
  | [_] => rfl
  | a :: b :: r => by
    show h b :: odds (r.map h) = h b :: (odds r).map h
    rw [odds_nat h r]
theorem sglF_nat (h : Nat → Nat) : ∀ f : Fm, sglF (mapF h f) = mapF h (sglF f)
  | [] => rfl
  | a :: r => by
    show evens (a.map h) :: odds (a.map h) :: sglF (mapF h r) = (evens a).map h :: (odds a).map h :: mapF h (sglF r)
    rw [evens_nat, odds_nat, sglF_nat h r]
theorem wid_nat (h : Nat → Nat) (f : Fm) : wid (mapF h f) = wid f := by
  cases f with
  | nil => rfl
  | cons a r => show (a.map h).length = a.length; rw [List.length_map]
theorem len_nat (h : Nat → Nat) (f : Fm) : (mapF h f).length = f.length := List.length_map ..
theorem mvF_nat (h : Nat → Nat) (f : Fm) (o : Nat) : mvF (mapF h f) o = (mvF f o).map (mapF h) := by
  unfold mvF
  rw [wid_nat, len_nat, dblF_nat, sglF_nat]
  by_cases h1 : o = 82
  · rw [if_pos h1, if_pos h1]
    show some _ = some (mapF h _)
    congr 1
    unfold mapF
    rw [List.map_map]
    exact List.map_congr_left fun k _ => fileOf_nat h _ f
  rw [if_neg h1, if_neg h1]
  by_cases h2 : o = 76
  · rw [if_pos h2, if_pos h2]
    show some _ = some (mapF h _)
    congr 1
    unfold mapF
    rw [List.map_map]
    refine List.map_congr_left fun k _ => ?_
    show (fileOf (mapF h f) k).reverse = (fileOf f k).reverse.map h
    rw [fileOf_nat, List.map_reverse]
  rw [if_neg h2, if_neg h2]
  by_cases h3 : o = 65
  · rw [if_pos h3, if_pos h3]
    show some _ = some (mapF h _)
    congr 1
    unfold mapF
    rw [← List.map_reverse, List.map_map, List.map_map]
    exact List.map_congr_left fun r _ => List.map_reverse.symm
  rw [if_neg h3, if_neg h3]
  by_cases h4 : o = 68
  · rw [if_pos h4, if_pos h4]
    split <;> rfl
  rw [if_neg h4, if_neg h4]
  by_cases h5 : o = 83
  · rw [if_pos h5, if_pos h5]
    split <;> rfl
  rw [if_neg h5, if_neg h5]
  by_cases h6 : o = 67
  · rw [if_pos h6, if_pos h6]
    show some _ = some (mapF h _)
    unfold mapF
    rw [List.map_append, List.map_drop, List.map_take]
  rw [if_neg h6, if_neg h6]
  by_cases h7 : o = 88
  · rw [if_pos h7, if_pos h7]
    show some _ = some (mapF h _)
    congr 1
    unfold mapF
    rw [List.map_map, List.map_map]
    refine List.map_congr_left fun r _ => ?_
    show (r.map h).drop 1 ++ (r.map h).take 1 = (r.drop 1 ++ r.take 1).map h
    rw [List.map_append, List.map_drop, List.map_take]
  rw [if_neg h7, if_neg h7]
  show some _ = some (mapF h _)
  congr 1
  unfold mapF
  rw [List.map_map, List.map_map]
  exact List.map_congr_left fun r _ => List.map_reverse.symm
theorem aftF_nat (h : Nat → Nat) : ∀ (l : List Nat) (f : Fm), aftF (mapF h f) l = (aftF f l).map (mapF h)
  | [], f => rfl
  | o :: r, f => by
    show (mvF (mapF h f) o).bind (fun g => aftF g r) = ((mvF f o).bind fun g => aftF g r).map (mapF h)
    rw [mvF_nat]
    cases mvF f o with
    | none => rfl
    | some g => exact aftF_nat h r g
end G

set_option Elab.async false
set_option linter.all false
set_option maxRecDepth 100000
set_option maxHeartbeats 2000000
/-! walking a list while an exception is handled -/
namespace PySem
open PySem.Spec PyProof.Rows HotX
section
variable {prog : Program} {w : World} {A : Around} {E : Value → Shared → Prop} {s : Shared}
theorem gh_list_end {it l x1 : Addr} {i : Nat} {items : Array Value} {Q : Option Value → Shared → Prop} (hot : HotAt A x1 s.heap) (hit : s.heap.IsListIter it l i) (hl : s.heap.IsList l items) (hx : items[i]? = none) (hne : x1 ≠ it)
    (hQ : ∀ h', Heap.ExtBut it s.heap h' → Q none { s with heap := h' }) : wpAny (model prog w) A (pyNext (.ref it)) Q E s := by
  obtain ⟨oi, gi, ci, di⟩ := id hit
  obtain ⟨ll, gl, _, nl, dl⟩ := hl
  obtain ⟨hh, o1, vs1, g1, d1, c1⟩ := hot
  unfold pyNext
  refine wpAny_bind (wpAny_attempt (wpAny_callSpecial?_slot (name := Str.ofString "__next__") hit.typeIs slot_listiter_next (wpAny_call_entry slot_listiter_next hit.typeIs entry_listiter_next ?_ (args_listiter_next _))))
  show wpAny _ _ (field (.ref it) 0 >>= _) _ _ s
  refine wpAny_bind (wpAny_field gi di (x := .ref l) rfl ?_)
  show wpAny _ _ (if (Value.ref l == Value.none) = true then _ else _) _ _ s
  rw [if_neg (show ¬ ((Value.ref l == Value.none) = true) from Bool.false_ne_true)]
  show wpAny _ _ (field (.ref it) 1 >>= _) _ _ s
  refine wpAny_bind (wpAny_field gi di (x := .int i 0) rfl (wpAny_bind (wpAny_seqItems gl dl ?_)))
  simp only [Int.toNat_natCast, hx]
  refine wpAny_bind (wpAny_rule (wpAny_bind (wpAny_setField gi di (by simp) (wpAny_bind ?_))))
  simp only [newExc, newTuple]
  refine wpAny_bind (wpAny_newObj_type (wpAny_bind (m := firstArgMember _ _) (wpAny_of_eq (a := Value.none) (by first | rfl | (simp only [firstArgMember]; rfl)) (wpAny_newObj_type ?_ (by size_fits)))) (by size_fits))
  refine raiseNew_hot ⟨hh, o1, vs1, (((Heap.SameBut.update ..).extBut.push _).push _) x1 o1 hne g1, d1, c1⟩ (Nat.ne_of_lt (Heap.lt_size (((Heap.SameBut.update ..).extBut.push _) x1 o1 hne g1))) (Heap.get?_push_size _ rfl) rfl (by first | (simp; done) | (simp; omega) | (simp only [Array.size_append]; simp; omega)) ?_
  exact wpAny_bind (wpAny_isInstance (T := "StopIteration") (b := true) ⟨_, Heap.get?_update_self _ (Heap.get?_push_size _ rfl) rfl, rfl⟩ isSubtype_stop (wpAny_pure (hQ _ fun b o hb e =>
    (Heap.get?_update_other _ _ (Nat.ne_of_gt (Heap.lt_size (((Heap.SameBut.update ..).extBut.push _) b o hb e)))).trans (Heap.get?_push_of_some _ (((Heap.SameBut.update ..).extBut.push _) b o hb e)))))
end
/-- a list walked, the handled exception kept in sight -/
theorem gh_walks {prog : Program} {w : World} {A : Around} {x1 : Addr} {o1 : Obj} {vs1 : Array Value} (hh : A.handled = some (.ref x1)) (d1 : o1.data = .fields vs1) (c1 : vs1[2]? = some .none) (I ax : Addr) (hne : ax ≠ I) (hx : x1 ≠ I) (items : Array Value) :
    Walks prog w A I [I, ax, x1] [I] items.size (fun i v => items[i]? = some v) (fun i h => (h.IsListIter I ax i ∧ h.IsList ax items) ∧ h.get? x1 = some o1) where
  sub := fun b hb => List.mem_cons.mpr (.inl (List.mem_singleton.mp hb))
  frame := fun _ _ _ st hk => ⟨⟨st.1.1.at fun o e => hk I (by simp) o e, st.1.2.at fun o e => hk ax (by simp) o e⟩, hk x1 (by simp) _ st.2⟩
  item := fun i s Q E hi st hQ => by
    refine wpAny_pyNext_list_item st.1.1 st.1.2 (x := items[i]) (by simp [hi]) fun h' hit' hs' => hQ _ h' s.toks (by simp [hi]) ⟨⟨hit', st.1.2.extBut hs'.extBut hne⟩, hs'.extBut x1 _ hx st.2⟩ fun b o hb e => ?_
    exact hs'.extBut b o (fun h => hb (by simp [h])) e
  done := fun s Q E st hQ => gh_list_end ⟨hh, o1, vs1, st.2, d1, c1⟩ st.1.1 st.1.2 (by simp) hx fun h' he' => hQ h' s.toks fun b o hb e => he' b o (fun h => hb (by simp [h])) e
  self := fun _ _ _ _ st hQ => wpAny_pyIter_listiter st.1.1 hQ
end PySem
namespace G
open PySem PySem.Spec PyProof.Rows L2 TL L2H HotX
theorem objok_get {P : Program} {w : World} {H : Hp} {h : Heap} {a : Addr} {o : HO} (x : ObjOk P w H h a o) : ∃ u, h.get? a = some u := by
  cases o with
  | lst xs => obtain ⟨_, _, _, _, e⟩ := x; exact ⟨_, e⟩
  | tup xs => obtain ⟨_, _, _, u, e, _⟩ := x; exact ⟨_, e⟩
  | dK kvs => obtain ⟨_, _, _, _, o, _, _, e, _⟩ := x; exact ⟨_, e⟩
  | dT kvs => obtain ⟨_, _, _, _, o, _, _, e, _⟩ := x; exact ⟨_, e⟩
  | set S n => obtain ⟨o, _, _, _, e, _⟩ := x; exact ⟨_, e⟩
  | ins C dx fs => obtain ⟨_, _, _, e, _⟩ := x; exact ⟨_, e⟩
  | own y => exact x
  | xd fs => obtain ⟨_, ⟨_, _, _, e, _⟩, _⟩ := x; exact ⟨_, e⟩
  | rng lo hi => obtain ⟨_, _, _, e⟩ := x; exact ⟨_, e⟩
  | frz ob u => obtain ⟨e, _⟩ := x; exact ⟨_, e⟩
  | tbl ps => exact ⟨_, show h.get? a = some _ from x⟩
  | met f y => exact ⟨_, show h.get? a = some _ from x⟩
  | ext φ => obtain ⟨_, ⟨u, e⟩, _⟩ := x; exact ⟨u, e⟩
theorem untracked {P : Program} {w : World} {H : Hp} {h : Heap} {a : Addr} (x : HOk P w H h) (e : h.get? a = none) : H a = none := by
  cases q : H a with
  | none => rfl
  | some o =>
    obtain ⟨u, hu⟩ := objok_get (x a o q)
    rw [e] at hu
    cases hu
section
variable {X : Cx}
/-- the handled exception as it stands -/
theorem hot_obj {pins : List (Addr × Obj)} {σ : L2.St} {H : Hp} {s : Shared} (hc : HotC X) (I : Inv X pins σ H s) : ∃ x1 o1 vs1, X.A.handled = some (.ref x1) ∧ s.heap.get? x1 = some o1 ∧ o1.data = .fields vs1 ∧ vs1[2]? = some .none := by
  obtain ⟨p, ⟨hh, v1, e1, c1⟩, hp⟩ := hc
  exact ⟨p.1, p.2, v1, hh, (I.pin p (List.mem_append_left _ hp)).1, e1, c1⟩
def sumL (ns : List Int) : Nat → Int := preSum fun i => ns.getD i 0
def rSumH (K : PySem.W.Frag) : List V → Hp → VK → Prop := fun xs H Q => ∃ (a : Addr) (ns : List Int), xs = [.ref a] ∧ SqL K H a (ns.map V.int) ∧ (∀ j, j < ns.length → InLong (ns.getD j 0) ∧ InLong (sumL ns (j + 1))) ∧ Q (.int (sumL ns ns.length)) H
theorem gh_sum (hc : HotC X) : CallR X (.builtin "sum") (rSumH X.K) := by
  intro pins s σ H xs us Q I r h
  obtain ⟨a, ns, rfl, hs, hb, q⟩ := h
  obtain ⟨its, rv, hl, _⟩ := I.list hs
  obtain ⟨x1, o1, vs1, hh, g1, d1, c1⟩ := hot_obj hc I
  rw [Vals.ref1 r]
  have hlen : its.toArray.size = ns.length := by
    have e := rv.length
    rw [List.length_map] at e
    rw [List.size_toArray, e]
  obtain ⟨ol, el, _⟩ := hl.isList
  have na : a ≠ s.heap.objs.size := Nat.ne_of_lt (Heap.lt_size el)
  have n1 : x1 ≠ s.heap.objs.size := Nat.ne_of_lt (Heap.lt_size g1)
  refine call_sum_walk (wpAny_pyIter_list hl.isList ?_)
  refine ⟨s.heap.objs.size, _, _, _, _, _, fun i => ns.getD i 0, rfl, gh_walks (A := X.A.in1) (o1 := o1) (vs1 := vs1) hh d1 c1 s.heap.objs.size a na n1 its.toArray, ⟨⟨⟨_, Heap.get?_push_size _ rfl, rfl, rfl⟩, hl.isList.at fun o e => Heap.get?_push_of_some _ e⟩, Heap.get?_push_of_some _ g1⟩, fun b hb => ?_, fun i v hv => ?_, fun j hj => ?_, fun h' tk t' hk => ?_⟩
  · rw [Heap.size_push]
    rcases List.mem_cons.mp hb with rfl | hb
    · exact Nat.lt_succ_self _
    · rcases List.mem_cons.mp hb with rfl | hb
      · exact Nat.lt_succ_of_lt (Heap.lt_size el)
      · rcases List.mem_cons.mp hb with rfl | hb
        · exact Nat.lt_succ_of_lt (Heap.lt_size g1)
        · cases hb
  · have hv' : its[i]? = some v := by simpa using hv
    have hi : i < its.length := (List.getElem?_eq_some_iff.mp hv').1
    have hin : i < ns.length := by rw [List.size_toArray] at hlen; omega
    obtain ⟨u, hu, t, ht⟩ := rv.get (i := i) (x := .int ns[i]) (by rw [List.getElem?_map, List.getElem?_eq_getElem hin]; rfl)
    rw [hv'] at hu
    have hu := Option.some.inj hu
    subst hu
    refine ⟨t, ?_⟩
    rw [ht]
    show _ = Value.int (ns.getD i 0) t
    rw [List.getD_eq_getElem?_getD, List.getElem?_eq_getElem hin]
    rfl
  · rw [hlen] at hj
    exact hb j hj
  · rw [hlen]
    refine ⟨.int (sumL ns ns.length), H, I.kept (t' := tk) fun b o e => ?_, ⟨t', rfl⟩, q⟩
    exact hk b o (fun z => Nat.lt_irrefl _ (by have z := List.mem_singleton.mp z; have e2 := Heap.lt_size e; rw [z] at e2; exact e2)) (Heap.get?_push_of_some _ e)
/-- a list of ones and noughts out of truths: [int(y) for y in x] -/
def b01 (b : Bool) : V := .int (if b then 1 else 0)
def tInts (K : PySem.W.Frag) (i : Nat) : TE := fun σ H Q => ∃ (a : Addr) (bs : List Bool), σ[i]? = some (some (.ref a)) ∧ SqL K H a (bs.map V.bl) ∧ bs.length ≤ 1000 ∧ ∀ D, H D = none → Q (.ref D) (upd H D (.lst (bs.map b01)))
theorem vals_b01 : ∀ {bs : List Bool} {vs ys : List Value}, Vals (bs.map V.bl) vs → Paired (fun v y => ∃ (b : Bool) (t : Tok), v = Value.bool b ∧ y = Value.int (if b then 1 else 0) t) vs ys → Vals (bs.map b01) ys
  | [], _, _, r, p => by
    cases r
    cases p
    exact .nil
  | b :: bs, _, _, r, p => by
    cases r with
    | cons r1 r2 =>
      cases p with
      | cons p1 p2 =>
        obtain ⟨b', t, e1, e2⟩ := p1
        cases r1
        cases e1
        exact .cons ⟨t, e2⟩ (vals_b01 r2 p2)
theorem gh_ints {i : Nat} {x y : Str} {px py p1 p2 p3 pos : Pos} {scope : Scope} (hc : HotC X) (hN : X.N[i]? = some x) (hv : Vis X.env.scope x) (hm : X.mg "int" = none) (hfree : ∀ z ∈ scope.names, z.2 ≠ .free) (hcell : ∀ z ∈ scope.names, z.2 ≠ .cell) (hkind : scope.kind = .function)
    (hnames : ∀ z ∈ scope.names, z.2 = .local → scope.names.lookup z.1 = some .local) (hy : scope.names.lookup y = some .local) (hint : scope.names.lookup ("int" : Str) = some .globalImplicit) (hdy : (y == ("__debug__" : Str)) = false) (hd : (x == ("__debug__" : Str)) = false := by decide) (hcd : (x == ("__classdict__" : Str)) = false := by decide)
    (hs : ∀ z, foldedSetIterable (.Name x px) X.env z = pure z := by intro _; rfl) :
    PE X (.ListComp (.Call (.Name "int" p1) [.Name y p2] [] p3) [⟨.Name y py, .Name x px, [], 0⟩] scope pos) (tInts X.K i) := by
  refine ⟨fun pins s σ H Q I ⟨a, bs, hσ, hl, hb, q⟩ => ?_⟩
  refine wpAny_ListComp_walk (fun _ => true) (fun v y => ∃ (b : Bool) (t : Tok), v = Value.bool b ∧ y = Value.int (if b then 1 else 0) t) hfree hcell hkind hnames hy ?_ hs
  refine thn ((pe_var (pos := px) (i := i) hN hv hd hcd).run pins s σ H (fun v H1 => v = .ref a ∧ H1 = H) I ⟨.ref a, hσ, rfl, rfl⟩) fun u s1 ⟨v, H1, I1, r1, q1, q2⟩ => ?_
  subst q1 q2
  obtain rfl : u = Value.ref a := r1
  obtain ⟨its, rv, hpl, _⟩ := I1.list hl
  obtain ⟨x1, o1, vs1, hh, g1, d1, c1⟩ := hot_obj hc I1
  have hlen : its.toArray.size = bs.length := by
    have e := rv.length
    rw [List.length_map] at e
    rw [List.size_toArray, e]
  obtain ⟨ol, el, _⟩ := hpl.isList
  have na : a ≠ s1.heap.objs.size := Nat.ne_of_lt (Heap.lt_size el)
  have n1 : x1 ≠ s1.heap.objs.size := Nat.ne_of_lt (Heap.lt_size g1)
  refine wpAny_pyIter_list hpl.isList ?_
  have low : ∀ b o, s1.heap.get? b = some o → b ∉ [s1.heap.objs.size] := fun b o e z => by
    have z := List.mem_singleton.mp z
    have e2 := Heap.lt_size e
    rw [z] at e2
    exact Nat.lt_irrefl _ e2
  refine ⟨s1.heap.objs.size, _, _, _, _, _, rfl, gh_walks (A := X.A) (o1 := o1) (vs1 := vs1) hh d1 c1 s1.heap.objs.size a na n1 its.toArray, ?_, ⟨⟨⟨_, Heap.get?_push_size _ rfl, rfl, rfl⟩, hpl.isList.at fun o e => Heap.get?_push_of_some _ e⟩, Heap.get?_push_of_some _ g1⟩, fun b hb => ?_, ⟨?_, ?_⟩, ?_⟩
  · rw [hlen]
    exact Nat.le_trans hb (by decide)
  · rw [Heap.size_push]
    rcases List.mem_cons.mp hb with rfl | hb
    · exact Nat.lt_succ_self _
    · rcases List.mem_cons.mp hb with rfl | hb
      · exact Nat.lt_succ_of_lt (Heap.lt_size el)
      · rcases List.mem_cons.mp hb with rfl | hb
        · exact Nat.lt_succ_of_lt (Heap.lt_size g1)
        · cases hb
  · intro C i v s₃ m₃ E' hP hns hmv hk htk
    exact wpAny_pure ⟨rfl, s₃.heap, s₃.toks, rfl, fun _ _ e => e⟩
  · intro C j v s₃ m₃ E' hP _ hns hmv hk htk
    have hj : j < bs.length := by
      have z := (Array.getElem?_eq_some_iff.mp hP).1
      omega
    obtain ⟨u, hu, ru⟩ := rv.get (i := j) (x := .bl bs[j]) (by rw [List.getElem?_map, List.getElem?_eq_getElem hj]; rfl)
    have hv2 : its[j]? = some v := by simpa using hP
    rw [hv2] at hu
    have hu := Option.some.inj hu
    subst hu
    have ru : v = Value.bool bs[j] := ru
    subst ru
    obtain ⟨mb, hb1, hb2⟩ := I1.mod.blt
    have up : ∀ b o, X.base.get? b = some o → s₃.heap.get? b = some o := fun b o e => hk b o (low b o (I1.bk b o e)) (Heap.get?_push_of_some _ (I1.bk b o e))
    refine Call_ (Calls.Name_function_global (env := compEnv scope C X.env) hkind hint (Calls.loadGlobal_builtin (by show s₃.heap.Ns X.env.globals X.mg; rw [I1.ok.glob]; exact I1.mod.glob.keeps up) hm (by show s₃.heap.Ns X.env.builtins mb; rw [I1.ok.blt]; exact hb1.keeps up) ((hb2 "int" (by decide)).trans (show bootBuiltins "int" = some (.type "int") by decide +kernel)) ?_))
    refine PyProof.Rows.callWith_type1 ?_
    refine Calls.spliced_cons (wpAny_Name (wpAny_loadName_local (env := compEnv scope C X.env) hkind hy hns hmv (Calls.spliced_nil ?_)) hdy)
    exact call_int_bool ⟨⟨_, _, rfl, rfl⟩, _, _, rfl, fun _ _ e => e⟩
  · intro D h' tk ys vs hD hl' hpl' hn hPv hF hk
    have hvs : Vals (bs.map V.bl) vs := by
      have e : vs = its := by
        refine List.ext_getElem? fun j => ?_
        by_cases hj : j < vs.length
        · have z := hPv j vs[j] (List.getElem?_eq_getElem hj)
          rw [List.getElem?_eq_getElem hj]
          have z2 : its[j]? = some vs[j] := by simpa using z
          exact z2.symm
        · rw [List.getElem?_eq_none (by omega), List.getElem?_eq_none]
          rw [List.size_toArray] at hn
          omega
      rw [e]
      exact rv
    rw [List.filter_eq_self.mpr fun _ _ => rfl] at hF
    have hD1 : s1.heap.get? D = none := by
      cases e : s1.heap.get? D with
      | none => rfl
      | some o =>
        rw [Heap.get?_push_of_some _ e] at hD
        cases hD
    have hHD := untracked I1.hok hD1
    have hz := vals_b01 hvs hF
    obtain ⟨c, eD⟩ := hpl'
    refine ⟨.ref D, _, I1.laidN (t' := tk) (o := .lst (bs.map b01)) (fun b o e => hk b o (low b o e) (Heap.get?_push_of_some _ e)) hD1 hHD ⟨by rw [List.length_map]; exact Nat.le_trans hb (by decide), ys.toList, c, hz, by simpa using eD⟩, rfl, q D hHD⟩
end
end G

set_option Elab.async false
set_option linter.all false
set_option maxRecDepth 100000
set_option maxHeartbeats 2000000
namespace G
open PySem PySem.Spec PyProof.Rows L2 TL L2H HotX LamX
/-! ### a lambda's body, its exceptions with their contexts -/
abbrev lamN (X : Cx) (A : Around) (outer : List Env) (s : Shared) (H : Hp) (E : XK) (scope : Scope) (f c' : Addr) : Cx :=
  (lamCx X A outer s H E scope f c').wish fun e s' => wpAny (model X.prog X.w) (A.deeper (lamEnv X scope s.heap.objs.size f c')) (leaving (lamEnv X scope s.heap.objs.size f c') e) (fun _ s'' => L2N.CX X.prog X.w outer H s E e s'') (fun e' s'' => L2N.CX X.prog X.w outer H s E e' s'') s'
theorem takesN0 {X : Cx} : L2N.Takes X (fun _ _ _ _ => False) := fun _ _ ⟨_, _, _, _, _, _, _, _, _, _, _, _, _, _, _, _, z⟩ => z.elim
theorem tk_lam {X : Cx} {A : Around} {outer : List Env} {s : Shared} {H : Hp} {E : XK} {scope : Scope} {f c' : Addr} : L2N.Takes (lamN X A outer s H E scope f c') (fun cls d _ H => E cls d H) := L2N.takes_of rfl rfl rfl rfl
theorem pa_lam {X : Cx} {A : Around} {outer : List Env} {s : Shared} {H : Hp} {E : XK} {scope : Scope} {f c' : Addr} : Passes (L2N.CX (lamN X A outer s H E scope f c').prog (lamN X A outer s H E scope f c').w) (lamN X A outer s H E scope f c') E := L2N.passes_call tk_lam fun _ _ _ _ h => h
/-- the call of what was handed over -/
theorem gh_act {X : Cx} {pins : List (Addr × Obj)} {σ : L2.St} {H : Hp} {s : Shared} {Ng : List Str} {qg : Str} {sg : Scope} {g f c' : Addr} {cdg pm ctv : Value} {params : Arguments} {body : Expr} {scope : Scope} {k : Nat} {a : Str} {pn : List (Addr × Obj)} {xe : Value → Shared → Prop} {W : WX} {E : XK} {tb : TE} {p1 p2 : Pos}
    (I : Inv X pins σ H s) (L : LamS X.env.scope scope) (hf : s.heap.get? f = some (PySem.W.kla_obj "<lambda>" (X.env.qual ++ "<lambda>") params body scope (cloFrom X.env.cells scope.names []) pm c' ctv)) (hfn : H f = none) (hfr : f ∉ frs X.stack)
    (hbind : bindArgs (PySem.W.kla_fn "<lambda>" (X.env.qual ++ "<lambda>") params body scope (cloFrom X.env.cells scope.names []) pm (.ref c') ctv) ⟨[], []⟩ = pure [])
    (tk : L2N.Takes ((cxOf C8.CX0 X.prog X.w X.K X.mg X.base Ng qg sg g cdg X.A X.stack s H C8.E0).tr pn xe) W) (hW : ∀ cls d σ' H', E cls d H' → W cls d σ' H') (hr : Room (k + 1) (X.A.deeper (envOfC qg sg s.heap.objs.size g cdg)))
    (hbody : ∀ (A : Around) (outer : List Env) (s : Shared) (H : Hp), Room k (A.deeper (lamEnv X scope s.heap.objs.size f c')) → PE (lamN X A outer s H E scope f c') body tb)
    (hN : Ng[0]? = some a) (hv : Vis sg a) (hd : (a == ("__debug__" : Str)) = false) (hcd : (a == ("__classdict__" : Str)) = false) :
    PE ((cxOf C8.CX0 X.prog X.w X.K X.mg X.base Ng qg sg g cdg X.A X.stack s H C8.E0).tr pn xe) (.Call (.Name a p1) [] [] p2) (fun σZ HZ Q => σZ[0]? = some (some (.ref f)) ∧ HZ c' = some (CodeO c' (X.env.qual ++ "<lambda>")) ∧ tb σ HZ Q) := by
  refine ⟨fun pz sz σz HZ Q J ⟨h1, h2, h3⟩ => ?_⟩
  refine wpAny_Call_Name_kw (thn ((pe_var (pos := p1) (i := 0) hN hv hd hcd).run pz sz σz HZ (fun v H1 => v = .ref f ∧ H1 = HZ) J ⟨.ref f, h1, rfl, rfl⟩) fun u s1 ⟨v, H1, I1, r1, q1, q2⟩ => ?_)
  subst q1
  rw [q2] at I1
  obtain rfl : u = Value.ref f := r1
  have f1 := I1.base.keep f _ hf hfn hfr (fun z => nomatch (show f ∈ ([] : List Addr) from z))
  refine PySem.W.callWith_F0 ⟨_, _, _, _, f1⟩ ?_
  obtain ⟨⟨oc, vs, t, g1, g2, g3⟩, _, _⟩ := I1.hok c' _ h2
  have run : codeAny (model X.prog X.w) (X.A.deeper (envOfC qg sg s.heap.objs.size g cdg)) (.call (.ref f) ⟨[], []⟩) (CR (L2N.CX X.prog X.w) (envOfC qg sg s.heap.objs.size g cdg :: X.stack) X.prog X.w HZ s1 Q E) s1 := by
    refine PySem.W.kla_callFunE hr.depth f1 rfl L.co L.gen rfl ⟨c', oc, vs, t, rfl, g1, g2, g3⟩ ?_
    rw [hbind]
    refine wpAny_pure (wpAny_newFunctionEnv (fun y hy => (L.own y hy).2) (fun y hy => absurd hy (by simp)) (fun h₁ hns hsb => ⟨I1.nolimit.fresh _ hsb, ?_⟩) L.kind)
    show codeAny _ _ (.expr body (lamEnv X scope s1.heap.objs.size f c')) _ _
    have J1 := lam_start2 (A := X.A.deeper (envOfC qg sg s.heap.objs.size g cdg)) (outer := envOfC qg sg s.heap.objs.size g cdg :: X.stack) (E := E) (f := f) (c' := c') (tk := s1.toks + ([] : List (Str × Value)).length) I L I1.env0 hr.hd I1.base hns fun b o e => hsb.extBut b o (Nat.ne_of_lt (Heap.lt_size e)) (Heap.get?_push_of_some _ e)
    refine PySem.W.kla_codeExpr (wpAny_mono ((hbody _ _ s1 HZ (hr.deeper _)).run [] _ _ HZ Q (J1.wish _) h3) (fun v s' hq => ?_) fun e s' hq => hq)
    obtain ⟨w', H', J', rv, q⟩ := hq
    exact ⟨w', H', J'.os, J'.bare, J'.base, J'.hok, rv, q⟩
  refine wpAny_call (codeAny_mono run fun r s' hq => ?_)
  cases r with
  | error e => exact L2N.passes_call tk hW pz σz HZ s1 e s' I1 hq
  | ok fl =>
    cases fl with
    | ret u => exact I1.after hq
    | next => exact False.elim hq
    | brk => exact False.elim hq
    | cont => exact False.elim hq
/-! ### what tells of an exception -/
def errC : List Nat := [101, 114, 114, 111, 114]
def errD (nm : List Nat) : Dat := .tup [.str errC, .str nm]
def Tell (K : PySem.W.Frag) (nm : List Nat) (H : Hp) (Q : VK) : Prop := ∃ B, Cov B H ∧ ∀ v H', Same H H' → Rp K (mask B H') v (errD nm) → Q v H'
def TermOk (P : Program) (w : World) (K : PySem.W.Frag) (mg : Str → Option Value) (base : Heap) (ft : Addr) (k : Nat) (Known : Addr → List Nat → Prop) : Prop :=
  ∀ (A : Around) (outer : List Env) (s : Shared) (H : Hp) (Q : VK) (p : Addr × Obj) (C : Addr) (nm : List Nat), Known C nm → Zc (.ref C) none p.2 → (∃ vs, p.2.data = .fields vs) → RoomH k A → Hot1 A p → PinOk outer H s p → Env0 P w K mg base A outer s H → Tell K nm H Q →
    codeAny (model P w) A (.call (.ref ft) ⟨[.ref p.1], []⟩) (CR (L2N.CX P w) outer P w H s Q E0) s
def Ech (K : PySem.W.Frag) (CS : Addr) (Known : Addr → List Nat → Prop) (Q : VK) : XK := fun cls d H => ∃ C nm, cls = .ref C ∧ d = none ∧ Known C nm ∧ PySem.W.exmOne K (.ref C) (.ref CS) = some true ∧ Tell K nm H Q
def stSet (σ : L2.St) (i : Nat) (a : Addr) : L2.St := List.set σ i (some (V.ref a))
/-- _law_term(e) in the suite -/
theorem gh_termcall {Z : Cx} {a : Addr} {oe : Obj} {cls : Value} {d : Option Addr} {pn : List (Addr × Obj)} {ft : Addr} {kt : Nat} {Known : Addr → List Nat → Prop} {tm n : Str} {i : Nat} {p q pos : Pos} (hz : L2N.Zn cls d oe) (hfl : ∃ vs, oe.data = .fields vs) (hT : TermOk Z.prog Z.w Z.K Z.mg Z.base ft kt Known) (hr : RoomH kt (Z.suite a ((a, oe) :: pn)).A)
    (hg : Gl Z tm) (hm : Z.mg tm = some (.ref ft)) (hk : PySem.W.keepIn Z.K (.ref ft) = true) (hN : Z.N[i]? = some n) (hv : Vis Z.env.scope n) (hdb : (tm == ("__debug__" : Str)) = false) (hdn : (n == ("__debug__" : Str)) = false) (hcn : (n == ("__classdict__" : Str)) = false) :
    PE (Z.suite a ((a, oe) :: pn)) (.Call (.Name tm p) [.Name n q] [] pos) (fun σ H Q => (∃ σ0, σ = stSet σ0 i a) ∧ ∃ C nm, cls = .ref C ∧ d = none ∧ Known C nm ∧ Tell Z.K nm H Q) := by
  refine ⟨fun pins s σ H Q I ⟨⟨σ0, h0⟩, C, nm, e1, e2, hK, hQ⟩ => ?_⟩
  subst e1 e2
  have hσ : σ[i]? = some (some (V.ref a)) := by
    have hl := I.len
    have hi : i < Z.N.length := (List.getElem?_eq_some_iff.mp hN).1
    have hl : σ.length = Z.N.length := hl
    rw [h0] at hl ⊢
    unfold stSet at hl ⊢
    rw [List.length_set] at hl
    rw [List.getElem?_set_self (by omega)]
  refine wpAny_Call_Name_kw (ld_glob (X := Z.suite a ((a, oe) :: pn)) I hg hm ?_ hdb)
  have hn : PE (Z.suite a ((a, oe) :: pn)) (.Name n q) (tVar i) := pe_var hN hv hdn hcn
  refine PySem.W.callWith_K (h₀ := Z.base) I.ok.mod.kin hk (thn ((pa_cons hn pa_nil).run pos pins s σ H (fun vs H1 => vs = [V.ref a] ∧ H1 = H) I ⟨.ref a, hσ, rfl, rfl⟩) fun us s1 ⟨vs, H1, I1, r, q1, q2⟩ => ⟨I1.kIn, ?_⟩) rfl rfl
  subst q1
  rw [q2] at I1
  rw [Vals.ref1 r]
  have P1 := I1.pin (a, oe) (List.mem_append_left _ List.mem_cons_self)
  obtain ⟨vs, hvs⟩ := hfl
  refine wpAny_call (codeAny_mono (hT (Z.suite a ((a, oe) :: pn)).A Z.stack s1 H Q (a, oe) C nm hK hz.zc ⟨vs, hvs⟩ hr ⟨rfl, vs, hvs, hz.2.2 vs hvs⟩ ⟨P1.1, P1.2.1, fun hm => (List.mem_cons.mp (I1.stkSub a hm)).elim P1.2.2.1 P1.2.2.2.1, P1.2.2.2.2⟩ I1.env0 hQ) fun r s' hq => ?_)
  cases r with
  | error e =>
    obtain ⟨_, _, _, _, _, _, _, _, _, _, _, _, z⟩ := hq
    exact z.elim
  | ok fl =>
    cases fl with
    | ret u => exact I1.after hq
    | next => exact False.elim hq
    | brk => exact False.elim hq
    | cont => exact False.elim hq
end G

set_option Elab.async false
set_option linter.all false
set_option maxRecDepth 100000
set_option maxHeartbeats 2000000
namespace G
open PySem PySem.Spec PyProof.Rows L2 TL L2H HotX LamX
/-- the def that asks and tells: try: return deed() / except DrillError as e: return _law_term(e) -/
structure ToldF (K : PySem.W.Frag) (mg : Str → Option Value) (g CS ft : Addr) : Prop where
  ex : ∃ (pg : Arguments) (bg : List Stmt) (sg : Scope) (dV kV doc pm cdv ct oc : Value) (an od : Option Addr) (osl : Array (Option Value)) (p1 p2 p3 p4 q1 q2 q3 p6 p7 p8 : Pos),
    K.lookup g = some ⟨oc, od, .func (PySem.W.fnOf "_law_told" "_law_told" pg bg sg dV kV doc pm an cdv ct), osl⟩ ∧ PySem.W.codeIn K cdv "_law_told" = true ∧ Binds K (PySem.W.fnOf "_law_told" "_law_told" pg bg sg dV kV doc pm an cdv ct) ["deed"] [] ∧ FnScope ["deed", "e"] ["deed"] sg ∧
    bg = [.Try [.Return (some (.Call (.Name "deed" p1) [] [] p2)) p3] [.ExceptHandler (some (.Name "DrillError" p4)) (some "e") [.Return (some (.Call (.Name "_law_term" q1) [.Name "e" q2] [] q3)) p6] p7] [] [] p8] ∧
    sg.names.lookup ("DrillError" : Str) = some .globalImplicit ∧ sg.names.lookup ("_law_term" : Str) = some .globalImplicit ∧ sg.names.lookup ("e" : Str) = some .local ∧ sg.names.lookup ("deed" : Str) = some .local
  gT : mg "_law_told" = some (.ref g)
  kT : PySem.W.keepIn K (.ref g) = true
  gD : mg "DrillError" = some (.ref CS)
  gM : mg "_law_term" = some (.ref ft)
  kM : PySem.W.keepIn K (.ref ft) = true
theorem gh_told {X : Cx} {T : List (Addr × Str)} {g CS ft c P : Addr} {k kt : Nat} {Known : Addr → List Nat → Prop} {params : Arguments} {body : Expr} {scope : Scope} {t : XK → TE} {p lpos pos : Pos} (F : ToldF X.K X.mg g CS ft) (hTm : TermOk X.prog X.w X.K X.mg X.base ft kt Known) (hg : Gl X "_law_told")
    (TB : TabB X.base X.mg c P) (hcode : X.env.code = .ref c) (hmT : (P, X.env.qual ++ "<lambda>") ∈ T) (hu : ∀ p ∈ T, p.1 = P → p.2 = X.env.qual ++ "<lambda>") (hr : Room (k + 2) X.A) (hkt : kt ≤ k + 1) (L : LamS X.env.scope scope) (hdef : defaultsOf params X.env = ([], []))
    (hbind : ∀ (q : Str) (cl : List (Str × Addr)) (pm cv ctv : Value), bindArgs (PySem.W.kla_fn "<lambda>" q params body scope cl pm cv ctv) ⟨[], []⟩ = pure [])
    (hbody : ∀ (A : Around) (outer : List Env) (s : Shared) (H : Hp) (E : XK) (f c' : Addr), Room k (A.deeper (lamEnv X scope s.heap.objs.size f c')) → PE (lamN X A outer s H E scope f c') body (t E)) :
    PE X (.Call (.Name "_law_told" p) [.Lambda params body scope lpos] [] pos) (fun σ H Q => Tabs T H ∧ ∀ H1, ExtN H H1 → Tabs T H1 → t (Ech X.K CS Known Q) σ H1 Q) := by
  obtain ⟨pg, bg, sg, dV, kV, doc, pm, cdv, ct, oc, an, od, osl, p1, p2, p3, p4, q1, q2, q3, p6, p7, p8, lk, hcg, hb, Sg, rfl, hsD, hsT, hse, hsd⟩ := F.ex
  refine ⟨fun pins s σ H Q I ⟨hT, h⟩ => ?_⟩
  refine wpAny_Call_Name_kw (ld_glob I hg F.gT ?_ (by decide))
  refine PySem.W.callWith_K (h₀ := X.base) I.ok.mod.kin F.kT ?_ (by rfl) (by rfl)
  show wpAny _ _ (spliced ((false, eval (.Lambda params body scope lpos) X.env) :: backTo pos (starEach [] X.env))) _ _ s
  refine Calls.spliced_cons (lam_make2 I TB hcode hmT hu hT hdef (L.has I.ok) fun f c' pm' ctv H1 s' I1 eN T1 hf hfn hfr hco => Calls.spliced_nil ⟨I1.kIn, ?_⟩)
  have run : codeAny (model X.prog X.w) X.A (.call (.ref g) ⟨[.ref f], []⟩) (CR C8.CX0 X.stack X.prog X.w H1 s' Q C8.E0) s' := by
    refine run_ofS (N := ["deed", "e"]) (ps := ["deed"]) (us := [.ref f]) (vs := [.ref f]) lk hcg Sg hr I1.env0 (hb s' [.ref f] I1.kIn rfl) (.cons rfl .nil) rfl fun hr' => ?_
    refine ⟨_, PSs.nox (pss_one (L2N.ps_try_as (X := (cxOf C8.CX0 X.prog X.w X.K X.mg X.base ["deed", "e"] "_law_told" sg g cdv X.A X.stack s' H1 C8.E0).nox) (c := .ref CS) (i := 1)
      (tb := fun W D σ' H' => ∃ E : XK, (∀ cls d σ2 H2, E cls d H2 → W cls d σ2 H2) ∧ σ'[0]? = some (some (.ref f)) ∧ H' c' = some (CodeO c' (X.env.qual ++ "<lambda>")) ∧ t E σ H' D.rt)
      (ts := fun a cls d D σ' H' => (∃ σ0, σ' = stSet σ0 1 a) ∧ ∃ C nm, cls = .ref C ∧ d = none ∧ Known C nm ∧ Tell X.K nm H' D.rt)
      rfl rfl Sg.nd rfl hse ⟨hsD, by decide, .inl F.gD⟩ takesN0 (fun W pn xe tk _ => ?_) (fun a oe cls d pn hz hfl => ?_))), ?_⟩
    · refine ⟨fun pins2 s2 σ2 H2 D I2 ⟨E, hW, h1, h2, h3⟩ => ?_⟩
      have hp := gh_act (p1 := p1) (p2 := p2) (pn := pn) (xe := xe) (W := W) (E := E) (tb := t E) I1 L hf hfn hfr (hbind _ _ _ _ _) tk hW hr' (fun A outer s H r2 => hbody A outer s H E f c' r2) rfl (.inl hsd) (by decide) (by decide)
      exact (pss_one (ps_ret (pos := p3) hp)).run pins2 s2 σ2 H2 D I2 ⟨h1, h2, h3⟩
    · refine pss_one (ps_ret (gh_termcall (Z := (cxOf C8.CX0 X.prog X.w X.K X.mg X.base ["deed", "e"] "_law_told" sg g cdv X.A X.stack s' H1 C8.E0).nox) (i := 1) hz hfl hTm ?_ hsT F.gM F.kM rfl (.inl hse) (by decide) (by decide) (by decide)))
      have r1 := roomH_of hr'
      exact ⟨(r1.mono hkt).dp, (r1.mono hkt).un⟩
    · refine ⟨Ech X.K CS Known Q, fun cls d σ2 H2 ⟨C, nm, e1, e2, hK, hx, hQ⟩ => ⟨true, by rw [e1]; exact hx, fun _ a ha => ⟨⟨σ2, rfl⟩, C, nm, e1, e2, hK, hQ⟩, fun z => (by cases z)⟩, rfl, hco, h H1 eN T1⟩
  refine wpAny_call (codeAny_mono run fun r s2 hq => ?_)
  cases r with
  | error e => exact (show False from hq).elim
  | ok fl =>
    cases fl with
    | ret u => exact I1.after hq
    | next => exact False.elim hq
    | brk => exact False.elim hq
    | cont => exact False.elim hq
end G

set_option Elab.async false
set_option linter.all false
set_option maxRecDepth 100000
set_option maxHeartbeats 2000000
namespace G
open PySem PySem.Spec PyProof.Rows L2 TL L2H HotX LamX
/-! ### a def called where an exception is handled, its body over the data -/
theorem gh_isE {X : Cx} {a D : Addr} {oe : Obj} (C : ExcC X.K D) (hz : Zc (.ref D) none oe) (hf : ∃ vs, oe.data = .fields vs) (hp : (a, oe) ∈ X.pn) : CallR X (.builtin "isinstance") (rIsE X.K D a) := by
  intro pins s σ H xs us Q I r ⟨c, cv, b, ex, hcv, e, q⟩
  subst ex
  obtain ⟨u, t, rfl, ru, rt⟩ := vals2 r
  have ru : u = Value.ref a := ru
  subst ru
  have rt := hcv t rt
  subst rt
  obtain ⟨vs, hv⟩ := hf
  have here := (I.pin (a, oe) (List.mem_append.mpr (.inl hp))).1
  have J : PySem.W.InstAt s.heap a oe D none := by
    obtain ⟨o1, o2, o3, o4⟩ := oe
    obtain ⟨z1, z2⟩ := hz
    dsimp only at z1 z2 hv
    subst z1 z2 hv
    exact ⟨here, rfl, rfl, trivial⟩
  exact PySem.W.kia_one (PySem.W.handS_kitx_exc C.hg C.hk C.hs C.hd C.ha C.hn C.ht C.hm) I.kIn J e (fun z => nomatch z) fun tk => ⟨.bl b, H, I.kept (t' := tk) fun _ _ z => z, rfl, q⟩
theorem gh_run {P : Program} {w : World} {K : PySem.W.Frag} {mg : Str → Option Value} {base : Heap} {k : Nat} {f : Addr} {x qual : Str} {st : Stmt} {fd : FuncData} {N ps : List Str} (F : Fun K x qual st f fd) (Sc : FnScope N ps (defScope st))
    {A : Around} {outer : List Env} {s : Shared} {H : Hp} {us : List Value} {vs : List V} {Q : VK} {E : XK} {p : Addr × Obj} (hr : RoomH (k + 1) A) (hot : Hot1 A p) (hpin : PinOk outer H s p) (e0 : Env0 P w K mg base A outer s H) (hb : Binds K fd ps []) (r : Vals vs us) (hl : vs.length = ps.length)
    (hbody : ∀ cdv : Value, RoomH k (A.deeper (envOfC qual (defScope st) s.heap.objs.size f cdv)) → ∃ t, PSs (cxH (L2N.CX P w) P w K mg base N qual (defScope st) f cdv A outer s H E p) (defBody st) t ∧ t { nx := fun _ H' => Q .non H', rt := Q } (L2.start N vs) H) :
    codeAny (model P w) A (.call (.ref f) ⟨us, []⟩) (CR (L2N.CX P w) outer P w H s Q E) s := by
  obtain ⟨_, _, _, _, _, _, cd, _, _, rfl, lk, hcd⟩ := F.ex
  have inH : K.In s.heap := e0.mod.kin.keeps fun b o z => (e0.bs b o z).1
  have noL : s.heap.NoLimit := e0.mod.nolimit.keeps fun b o z => (e0.bs b o z).1
  have hul : us.length = ps.length := by rw [← r.length]; exact hl
  have bnd := hb s us inH (by rw [List.append_nil]; exact hul)
  rw [List.append_nil] at bnd
  have kinds : ∀ y ∈ ps.zip us, (defScope st).names.lookup y.1 = some .local ∨ ((defScope st).names.lookup y.1 = some .cell ∧ ((cellsFrom (s.heap.objs.size + 1) (defScope st).names []).lookup y.1).isSome = true) := fun ⟨n, v⟩ hy => by
    rcases Sc.par n (List.of_mem_zip hy).1 with z | z
    · exact .inl z
    · exact .inr ⟨z, PySem.W.cellsFrom_some _ _ _ (.inl z)⟩
  refine codeAny_call_function hr.depth (inH _ _ lk) rfl Sc.co Sc.gen rfl (PySem.W.codeRec_of inH hcd) (bnd _ _ _ _ (wpAny_newFunctionEnv_cells Sc.kind kinds fun env he s1 ic => ?_))
  subst he
  obtain ⟨t, ht, hq⟩ := hbody cd (hr.deeper _)
  have J := inv_startH (CX := L2N.CX P w) (P := P) (w := w) (E := E) Sc hpin e0 hl r ic
  refine ⟨noL.keeps ic.toInCall.keep, codeAny_func (wpAny_mono (ht.run [] s1 (L2.start N vs) H _ J hq) (fun fl s' hs => ?_) fun e s' hs => hs)⟩
  cases fl with
  | ret u =>
    obtain ⟨v, σ', H', J2, rv, q⟩ := hs
    exact ⟨v, H', J2.os, J2.bare, J2.base, J2.hok, rv, q⟩
  | next =>
    obtain ⟨σ', H', J2, q⟩ := hs
    exact ⟨.non, H', J2.os, J2.bare, J2.base, J2.hok, rfl, q⟩
  | brk =>
    obtain ⟨_, _, _, q⟩ := hs
    exact False.elim q
  | cont =>
    obtain ⟨_, _, _, q⟩ := hs
    exact False.elim q
section
variable {X : Cx} {E : XK} {ρ : List Sl}
theorem d_isE {a De : Addr} {oe : Obj} {i : Nat} {e x : Str} {b : Bool} {v : V} {cv : Value} {p p2 p3 pos : Pos} (C : ExcC X.K De) (hz : Zc (.ref De) none oe) (hf : ∃ vs, oe.data = .fields vs) (hp : (a, oe) ∈ X.pn) (hi : ρ[i]? = some (.rf a)) (he1 : PE X (.Name e p2) (tVar i)) (hx : PE X (.Name x p3) (tC v)) (hu : ∀ u, RelV v u → u = cv) (hk : PySem.W.kitOne X.K (.ref De) cv = some b) (hm : X.mg "isinstance" = none)
    (hg : Gl X "isinstance" := by rfl) (he : starEach [.Name e p2, .Name x p3] X.env = (false, eval (.Name e p2) X.env) :: starEach [.Name x p3] X.env := by rfl) (he2 : starEach [.Name x p3] X.env = (false, eval (.Name x p3) X.env) :: starEach [] X.env := by rfl)
    (hpl : (backTo pos (starEach [.Name x p3] X.env)).any (·.1) = false := by rfl) : D X E (.Call (.Name "isinstance" p) [.Name e p2, .Name x p3] [] pos) ρ (.ok (.bl b)) :=
  D.of (pe_callB (gh_isE C hz hf hp) hg hm (by decide +kernel) (pa_cons he1 (pa_cons hx pa_nil he2) he) (by decide) (by decide) he hpl) fun B σ H Q c en q => ⟨.ref a, en.rf hi, v, cv, b, rfl, hu, hk, q _ H (Same.refl H) (.bl b)⟩
theorem d_sumB {bs : List Bool} {i : Nat} {x y : Str} {px py p1 p2 p3 p4 pos pos2 : Pos} {scope : Scope} (hc : HotC X) (hi : ρ[i]? = some (.dt (.lst (bs.map Dat.bl)))) (hl : bs.length ≤ 1000) (hb : ∀ j, j < (bs.map fun b => (if b then 1 else 0 : Int)).length → InLong ((bs.map fun b => (if b then 1 else 0 : Int)).getD j 0) ∧ InLong (sumL (bs.map fun b => (if b then 1 else 0 : Int)) (j + 1)))
    (hlc : PE X (.ListComp (.Call (.Name "int" p1) [.Name y p2] [] p3) [⟨.Name y py, .Name x px, [], 0⟩] scope pos) (tInts X.K i)) (hm : X.mg "sum" = none) (hg : Gl X "sum" := by rfl)
    (he : starEach [.ListComp (.Call (.Name "int" p1) [.Name y p2] [] p3) [⟨.Name y py, .Name x px, [], 0⟩] scope pos] X.env = (false, eval (.ListComp (.Call (.Name "int" p1) [.Name y p2] [] p3) [⟨.Name y py, .Name x px, [], 0⟩] scope pos) X.env) :: starEach [] X.env := by rfl) :
    D X E (.Call (.Name "sum" p4) [.ListComp (.Call (.Name "int" p1) [.Name y p2] [] p3) [⟨.Name y py, .Name x px, [], 0⟩] scope pos] [] pos2) ρ (.ok (.int (sumL (bs.map fun b => (if b then 1 else 0 : Int)) (bs.map fun b => (if b then 1 else 0 : Int)).length))) :=
  D.of (pe_callB (gh_sum hc) hg hm (by decide +kernel) (pa_cons hlc pa_nil he) (by decide) (by decide) he (by rfl)) fun B σ H Q c en q => by
    obtain ⟨v, h1, h2⟩ := en.dt hi
    cases h2 with
    | @lst a vs _ ha hr =>
      have e := rpA_bls hr
      subst e
      refine ⟨a, bs, h1, SqL.of (mask_sub B H _ _ ha), hl, fun D nD => ⟨D, _, rfl, SqL.of (by rw [upd_same]; simp only [List.map_map]; rfl), hb, q _ _ (same_upd nD) (.int _)⟩⟩
theorem pyA_bls : ∀ bs : List Bool, Dat.pyA (bs.map Dat.bl) = bs.map PyData.bool
  | [] => rfl
  | b :: bs => by
    show PyData.bool b :: Dat.pyA (bs.map Dat.bl) = PyData.bool b :: bs.map PyData.bool
    rw [pyA_bls bs]
theorem d_indexB {bs : List Bool} {i j : Nat} {x : Str} {k : Nat} {px apos pb cpos : Pos} (hu : X.A.units + 65 < cLine) (hi : ρ[i]? = some (.dt (.lst (bs.map Dat.bl)))) (hj : bs[j]? = some true) (hn : ∀ m, m < j → bs[m]? = some false) (hx : PE X (.Name x px) (tVar i))
    (h2 : PE X (.Name x px) (tVar i) → PE X (.Constant (.bool true) k pb) (tC (.bl true)) → PE X (.Call (.Attribute (.Name x px) "index" apos) [.Constant (.bool true) k pb] [] cpos) (tBM X.K "list" (rIndexD X.K) (tVar i) (tCons (tC (.bl true)) tNil))) :
    D X E (.Call (.Attribute (.Name x px) "index" apos) [.Constant (.bool true) k pb] [] cpos) ρ (.ok (.int (j : Nat))) :=
  D.of (h2 hx pe_bl) fun B σ H Q c en q => by
    obtain ⟨v, h1, hv⟩ := en.dt hi
    have ho : okn 9 (.lst (bs.map Dat.bl)) = true := by
      show (bs.map Dat.bl).all (okn 8) = true
      rw [List.all_map, List.all_eq_true]
      intro b _
      rfl
    have dp := (hv.mono (mask_sub B H)).dp ho
    have shp := okn_shaped ho
    have ep : (Dat.lst (bs.map Dat.bl)).py = .list (bs.map PyData.bool) := by
      show PyData.list (Dat.pyA (bs.map Dat.bl)) = _
      rw [pyA_bls]
    rw [ep] at dp shp
    cases hv with
    | @lst a vs _ ha hr =>
      refine ⟨.ref a, h1, .inl ⟨rfl, vs, SqL.of (mask_sub B H _ _ ha)⟩, a, .bl true, .bool true, bs.map PyData.bool, j, .bool true, rfl, rfl, dp, .bl true, shp, rfl, by rw [List.getElem?_map, hj]; rfl, rfl, fun m z hm hz => ?_, q _ H (Same.refl H) (.int _)⟩
      rw [List.getElem?_map, hn m hm] at hz
      have hz := Option.some.inj hz
      rw [← hz]
      rfl
end
end G

set_option Elab.async false
set_option linter.all false
set_option maxRecDepth 100000
set_option maxHeartbeats 2000000
namespace G
open PySem PySem.Spec PyProof.Rows L2 TL L2H HotX LamX
theorem SlOk.sm {K : PySem.W.Frag} {B : Addr → Bool} {H H' : Hp} (e : Sm H H') : ∀ {s : Sl} {o : Option V}, SlOk K B H s o → SlOk K B H' s o
  | .un, _, _ => True.intro
  | .dt d, some v, h => Rp.monoN (mask_sm e) h
  | .rf a, some v, h => h
  | .ml a ds, some v, ⟨h1, h2, vs, h3, h4⟩ => ⟨h1, h2, vs, e _ _ h3 (fun _ z => by cases z), RpA.monoN (mask_sm e) h4⟩
  | .md a kvs, some v, ⟨h1, h2, h3⟩ => ⟨h1, h2, e _ _ h3 fun _ z => by cases z⟩
  | .di a, some v, ⟨h1, h2, c, n, h3⟩ => ⟨h1, h2, c, n, e _ _ h3 fun _ z => by cases z⟩
  | .mg a o ds, some v, ⟨h1, h2, vs, h3, h4, h5⟩ => ⟨h1, h2, vs, e _ _ h3 (fun ps z => h4 ps z), h4, RpA.monoN (mask_sm e) h5⟩
  | .dt _, none, h => h.elim
  | .rf _, none, h => h.elim
  | .ml _ _, none, h => h.elim
  | .md _ _, none, h => h.elim
  | .di _, none, h => h.elim
  | .mg _ _ _, none, h => h.elim
theorem EnvR.sm {K : PySem.W.Frag} {B : Addr → Bool} {H H' : Hp} {σ : L2.St} {ρ : List Sl} (e : EnvR K B H σ ρ) (s : Sm H H') : EnvR K B H' σ ρ :=
  ⟨e.len, fun i x h => let ⟨o, h1, h2⟩ := e.at_ i x h; ⟨o, h1, h2.sm s⟩, e.sep⟩
theorem Wd.sm {T : List (Addr × Str)} {fr : Hp} {dc : Addr → Bool} {B : Addr → Bool} {H H1 : Hp} (w : Wd (WT T fr dc) B H) (e : Sm H H1) (hT : Tabs T H1) : Wd (WT T fr dc) B H1 := by
  have isT : ∀ o : HO, (∃ ps, o = .tbl ps) ∨ ∀ ps, o ≠ .tbl ps := fun o => by
    cases o with
    | tbl ps => exact .inl ⟨ps, rfl⟩
    | _ => exact .inr fun _ z => by cases z
  refine ⟨fun a o m h => ?_, w.b0, fun a hb n => ?_, w.fr.trans (mask_sm e), hT, fun a h => ?_, fun a ps hb h => ?_⟩
  · rw [show (WT T fr dc).H0 a = none from dwT m] at h
    cases h
  · cases q : H a with
    | none => exact w.cov a hb (.inl q)
    | some o =>
      rcases isT o with ⟨ps, rfl⟩ | z
      · have m := of_decide_eq_true (w.tb a ps hb q)
        obtain ⟨p, hp, rfl⟩ := List.mem_map.mp m
        obtain ⟨ps', h, _⟩ := hT p hp
        rw [h] at n
        rcases n with n | ⟨_, n⟩ <;> cases n
      · rw [e _ _ q z] at n
        exact w.cov a hb (by rw [q]; exact n)
  · obtain ⟨h1, c, n, h2⟩ := w.di a h
    exact ⟨h1, c, n, e _ _ h2 fun _ z => by cases z⟩
  · cases q : H a with
    | none => exact absurd (Or.inl q) (w.cov a hb)
    | some o =>
      rcases isT o with ⟨ps', rfl⟩ | z
      · exact w.tb a ps' hb q
      · rw [e _ _ q z] at h
        exact absurd (Option.some.inj h) (z ps)
def ToldS (K : PySem.W.Frag) (CS : Addr) (Kn : Addr → List Nat → Prop) (S : Dat → Prop) : Res → Prop
  | .ok d => S d
  | .err c => ∃ C nm, c = .ref C ∧ Kn C nm ∧ PySem.W.exmOne K (.ref C) (.ref CS) = some true ∧ S (errD nm)
theorem de_told {X : Cx} {T : List (Addr × Str)} {fr : Hp} {dc : Addr → Bool} {ρ : List Sl} {S : Dat → Prop} {r : Res} {g CS ft c P : Addr} {k kt : Nat} {Kn : Addr → List Nat → Prop} {params : Arguments} {body : Expr} {scope : Scope} {p lpos pos : Pos} (F : ToldF X.K X.mg g CS ft) (hTm : TermOk X.prog X.w X.K X.mg X.base ft kt Kn)
    (TB : TabB X.base X.mg c P) (hcode : X.env.code = .ref c) (hmT : (P, X.env.qual ++ "<lambda>") ∈ T) (hu : ∀ p ∈ T, p.1 = P → p.2 = X.env.qual ++ "<lambda>") (hr : Room (k + 2) X.A) (hkt : kt ≤ k + 1)
    (hbody : ∀ (A : Around) (outer : List Env) (s : Shared) (H : Hp) (E : XK) (f c' : Addr), Room k (A.deeper (lamEnv X scope s.heap.objs.size f c')) → D (lamN X A outer s H E scope f c') E body ρ r)
    (hS : ToldS X.K CS Kn S r)
    (L : LamS X.env.scope scope := by exact lamS_by (by decide +kernel)) (hdef : defaultsOf params X.env = ([], []) := by rfl) (hbind : ∀ (q : Str) (cl : List (Str × Addr)) (pm cv ctv : Value), bindArgs (PySem.W.kla_fn "<lambda>" q params body scope cl pm cv ctv) ⟨[], []⟩ = pure [] := by intros; rfl) (hg : Gl X "_law_told" := by rfl) :
    DE X (WT T fr dc) (.Call (.Name "_law_told" p) [.Lambda params body scope lpos] [] pos) ρ S := by
  refine pe_imp (gh_told (t := fun E => tD X.K E ρ r) F hTm hg TB hcode hmT hu hr hkt L hdef hbind hbody) fun σ H Q ⟨B, w, en, q⟩ => ⟨w.iv, fun H1 eN T1 => ?_⟩
  have w1 := w.sm eN T1
  have en1 := en.sm eN
  refine ⟨B, w1.cov, en1, ?_⟩
  cases r with
  | ok d => exact fun v H' s rv => q v H' B d hS (w1.same s) (en1.same s) ((mask_sm eN).trans (Sm.of (mask_same s))) rv
  | err c =>
    obtain ⟨C, nm, e1, hK, hx, hs⟩ := hS
    exact fun H' s => ⟨C, nm, e1, rfl, hK, hx, B, w1.cov.same s, fun v H'' s2 rv => q v H'' B (errD nm) hs (w1.same (s.trans s2)) (en1.same (s.trans s2)) ((mask_sm eN).trans (Sm.of (mask_same (s.trans s2)))) rv⟩
end G

set_option Elab.async false
set_option linter.all false
set_option maxRecDepth 100000
set_option maxHeartbeats 2000000
namespace G
open PySem PySem.Spec PyProof.Rows L2 TL
/-! ### tests that may throw the dice or make lambdas -/
def tET (K : PySem.W.Frag) (W : Wl) (ρ : List Sl) (b : Bool) : TT := fun σ H Q => ∃ B, Wd W B H ∧ EnvR K B H σ ρ ∧ ∀ H' B', Wd W B' H' → EnvR K B' H' σ ρ → Sm (mask B H) (mask B' H') → Q b H'
abbrev TE1 (X : Cx) (W : Wl) (e : Expr) (ρ : List Sl) (b : Bool) : Prop := PT X e (tET X.K W ρ b)
abbrev TEW (X : Cx) (W : Wl) (e : Expr) (ρ : List Sl) (b : Bool) : Prop := PW X e (tET X.K W ρ b)
section
variable {X : Cx} {E : XK} {W : Wl} {ρ : List Sl} {P : Out → Prop}
theorem te_cmp {a b : Expr} {op : CmpOp} {r : R2} {S1 S2 : Dat → Prop} {z : Bool} {pos : Pos} (hr : OpR X (compareOp op) r) (ho : ∀ x y, S1 x → S2 y → Op2 X.K r x y (.bl z)) (ha : DE X W a ρ S1) (hb : DE X W b ρ S2) (hm : behindInMarks op b = false := by first | exact nomark _ | rfl) : TE1 X W (.Compare a [op] [b] pos) ρ z :=
  pt_imp (pt_cmpR hr ha hb hm) fun σ H Q ⟨B, w, en, q⟩ => ⟨B, w, en, fun vx H1 B1 x h1 w1 en1 m1 rx => ⟨B1, w1, en1, fun vy H2 B2 y h2 w2 en2 m2 ry =>
    ho x y h1 h2 B2 H2 vx vy _ w2.cov (rx.monoN m2) ry fun v H3 s3 rv => ⟨z, rp_bl rv, q H3 B2 (w2.same s3) (en2.same s3) ((m1.trans m2).trans (Sm.of (mask_same s3)))⟩⟩⟩
theorem te_ne {a b : Expr} {x y : Dat} {pos : Pos} (hu : X.A.units + 64 < cLine) (ha : DE X W a ρ (fun d => d = x)) (hb : DE X W b ρ (fun d => d = y)) (hx : okn 9 x = true) (hy : okn 9 y = true) : TE1 X W (.Compare a [.NotEq] [b] pos) ρ (!Dat.eq x y) :=
  te_cmp (op_neD hu) (fun x' y' e1 e2 => by subst e1 e2; exact o_neD hx hy) ha hb
theorem TE1.is {e : Expr} {b b' : Bool} (h : TE1 X W e ρ b) (q : b = b') : TE1 X W e ρ b' := q ▸ h
theorem te_pure {e : Expr} {b : Bool} (h : T X e ρ b) : TE1 X W e ρ b := pt_imp h fun σ H Q ⟨B, w, en, q⟩ => ⟨B, w.cov, en, fun H' s => q H' B (w.same s) (en.same s) (Sm.of (mask_same s))⟩
theorem te_and1 {a : Expr} {x : Bool} {pos : Pos} (h : TE1 X W a ρ x) : TEW X W (.BoolOp .And [a] pos) ρ x := pw_and1 h
theorem te_or1 {a : Expr} {x : Bool} {pos : Pos} (h : TE1 X W a ρ x) : TEW X W (.BoolOp .Or [a] pos) ρ x := pw_or1 h
theorem te_and {a b : Expr} {rest : List Expr} {x y : Bool} {pos : Pos} (h : TE1 X W a ρ x) (h2 : x = true → TEW X W (.BoolOp .And (b :: rest) pos) ρ y) : TEW X W (.BoolOp .And (a :: b :: rest) pos) ρ (x && y) := by
  cases x with
  | true =>
    refine pw_imp (pw_and h (h2 rfl)) fun σ H Q ⟨B, w, en, q⟩ => ⟨B, w, en, fun H1 B1 w1 en1 m1 => ?_⟩
    refine iteT ?_
    exact ⟨B1, w1, en1, fun H2 B2 w2 en2 m2 => q H2 B2 w2 en2 (m1.trans m2)⟩
  | false =>
    refine pw_imp (pw_and h pw_no) fun σ H Q ⟨B, w, en, q⟩ => ⟨B, w, en, fun H1 B1 w1 en1 m1 => ?_⟩
    refine iteF ?_
    exact q H1 B1 w1 en1 m1
theorem te_w {e : Expr} {b : Bool} (h : TEW X W e ρ b) : TE1 X W e ρ b := h.pt
theorem s_ifDE {c : Expr} {th el : List Stmt} {b : Bool} {pos : Pos} (t : TE1 X W c ρ b) (h1 : b = true → SS X E W th ρ P) (h2 : b = false → SS X E W el ρ P) : S1 X E W (.If c th el pos) ρ P := by
  cases b with
  | true =>
    refine ps_imp (ps_if t (h1 rfl) pss_never) fun D σ H ⟨B, w, en, p⟩ => ⟨B, w, en, fun H1 B1 w1 en1 m1 => ?_⟩
    exact iteT ⟨B1, w1, en1, p⟩
  | false =>
    refine ps_imp (ps_if t pss_never (h2 rfl)) fun D σ H ⟨B, w, en, p⟩ => ⟨B, w, en, fun H1 B1 w1 en1 m1 => ?_⟩
    exact iteF ⟨B1, w1, en1, p⟩
theorem de_tup {es : List Expr} {S1 : List Dat → Prop} {S : Dat → Prop} {k : Nat} {pos : Pos} (h : DEA X W es ρ S1) (hS : ∀ ds, S1 ds → ds.length ≤ 1000 ∧ S (.tup ds)) : DE X W (.Tuple es k pos) ρ S :=
  pe_imp (pe_tup h) fun σ H Q ⟨B, w, en, q⟩ => ⟨B, w, en, fun vs H1 B1 ds hd w1 en1 m1 rs => ⟨by rw [rs.length]; exact Nat.le_of_lt (small1000 (hS ds hd).1), fun p np => q _ _ B1 _ (hS ds hd).2 (w1.same (same_upd np)) (en1.same (same_upd np)) (m1.trans (Sm.of (mask_same (same_upd np)))) (rp_new_tup w1.cov np rs)⟩⟩
end
end G

set_option linter.all false
set_option maxRecDepth 100000
namespace G
open PySem
def topS (i : Nat) : Stmt := PySem.Challenge.pw_drillgrids_k21_errors_apart.main.body.getD i (.Pass ⟨0, 0, 0, 0⟩)
abbrev s_is_formation : Stmt := topS 14
abbrev s_are_orders : Stmt := topS 15
abbrev s_need_formation : Stmt := topS 16
abbrev s_need_orders : Stmt := topS 17
abbrev s_need_both : Stmt := topS 18
abbrev s_need_person : Stmt := topS 19
abbrev s_need_shape : Stmt := topS 20
abbrev s_in_sequence : Stmt := topS 21
abbrev s_first : Stmt := topS 22
abbrev s_shape_of : Stmt := topS 23
abbrev s_shape : Stmt := topS 24
abbrev s_need_alike : Stmt := topS 25
abbrev s_file_of : Stmt := topS 27
abbrev s_doubled : Stmt := topS 28
abbrev s_singled : Stmt := topS 29
abbrev s_moved : Stmt := topS 30
abbrev s_after : Stmt := topS 31
abbrev s_can : Stmt := topS 32
abbrev s_performed : Stmt := topS 33
abbrev s_done : Stmt := topS 34
abbrev s_ways_from : Stmt := topS 35
abbrev s_is_odd : Stmt := topS 37
abbrev s_Drill : Stmt := topS 39
abbrev s_way : Stmt := topS 41
abbrev s_parse_formation : Stmt := topS 43
abbrev s_least : Stmt := topS 45
abbrev s_to_front : Stmt := topS 46
abbrev s__law_cell : Stmt := topS 48
abbrev s__law_drawn : Stmt := topS 49
abbrev s__law_roll : Stmt := topS 50
abbrev s__law_rounds : Stmt := topS 51
abbrev s__law_met : Stmt := topS 52
abbrev s__law_alone : Stmt := topS 53
abbrev s_law : Stmt := topS 54
end G

set_option Elab.async false
set_option linter.all false
set_option maxRecDepth 100000
set_option maxHeartbeats 4000000
namespace G
open PySem PySem.Spec PyProof.Rows L2 TL
theorem nt {b : Bool} (h : (!b) = true) : b = false := by cases b <;> first | rfl | cases h
theorem nf {b : Bool} (h : (!b) = false) : b = true := by cases b <;> first | rfl | cases h
/-- the built-in names that nobody binds -/
structure Bi (mg : Str → Option Value) : Prop where
  len : mg "len" = none
  isinstance : mg "isinstance" = none
  tuple : mg "tuple" = none
  str : mg "str" = none
  int : mg "int" = none
  bool : mg "bool" = none
  all : mg "all" = none
  any : mg "any" = none
  sorted : mg "sorted" = none
  list : mg "list" = none
  range : mg "range" = none
  reversed : mg "reversed" = none
  enumerate : mg "enumerate" = none
  max : mg "max" = none
  min : mg "min" = none
  set : mg "set" = none
  abs : mg "abs" = none
  sum : mg "sum" = none
/-! ### formations as lists of code lists -/
def strsOf : List Dat → Option Fm
  | [] => some []
  | .str l :: r => (strsOf r).map (l :: ·)
  | _ :: _ => none
def isFm (f : Fm) : Bool := decide (1 ≤ (f.length : Int) ∧ (f.length : Int) ≤ 6) && (f.all fun l => decide (l.length = (f.headD []).length)) && (decide (2 ≤ (f.flatten.length : Int) ∧ (f.flatten.length : Int) ≤ 6) && decide (sortN f.flatten = lets.take f.flatten.length))
def isForm : Dat → Bool
  | .tup xs => (match strsOf xs with
    | some f => isFm f
    | none => false)
  | _ => false
/-- a datum that may be asked about -/
def okT (l : List Nat) : Prop := l.length ≤ 1000 ∧ (l.all fun c => Nat.blt c 1114112) = true
def okV : Dat → Prop
  | .tup xs => (∀ l, Dat.str l ∈ xs → okT l) ∧ ∀ x ∈ xs, x.isD = false
  | .str l => okT l
  | .lst _ => True
  | .dic _ => False
  | .scr _ => False
  | .exc _ => False
  | _ => True
theorem okV_d {d : Dat} (h : okV d) : d.isD = false := by cases d <;> first | rfl | exact h.elim
abbrev F_ (f : Fm) : Dat := .tup (f.map Dat.str)
theorem strsOf_some : ∀ {xs : List Dat} {f : Fm}, strsOf xs = some f → xs = f.map Dat.str
  | [], f, h => by
    have h : some [] = some f := h
    cases h
    rfl
  | .str l :: r, f, h => by
    have h : (strsOf r).map (l :: ·) = some f := h
    cases e : strsOf r with
    | none => rw [e] at h; cases h
    | some g =>
      rw [e] at h
      have h := Option.some.inj h
      subst h
      rw [strsOf_some e]
      rfl
  | .non :: r, f, h => by cases h
  | .bl _ :: r, f, h => by cases h
  | .int _ :: r, f, h => by cases h
  | .tup _ :: r, f, h => by cases h
  | .lst _ :: r, f, h => by cases h
  | .dic _ :: r, f, h => by cases h
  | .scr _ :: r, f, h => by cases h
  | .exc _ :: r, f, h => by cases h
theorem strsOf_all : ∀ {xs : List Dat}, (strsOf xs).isSome = xs.all Dat.isS
  | [] => rfl
  | .str l :: r => by
    show ((strsOf r).map (l :: ·)).isSome = r.all Dat.isS
    rw [Option.isSome_map, strsOf_all]
  | .non :: r => rfl
  | .bl _ :: r => rfl
  | .int _ :: r => rfl
  | .tup _ :: r => rfl
  | .lst _ :: r => rfl
  | .dic _ :: r => rfl
  | .scr _ :: r => rfl
  | .exc _ :: r => rfl
theorem strsOf_F (f : Fm) : strsOf (f.map Dat.str) = some f := by
  induction f with
  | nil => rfl
  | cons l r ih =>
    show (strsOf (r.map Dat.str)).map (l :: ·) = some (l :: r)
    rw [ih]
    rfl
theorem isForm_F (f : Fm) : isForm (F_ f) = isFm f := by
  show (match strsOf (f.map Dat.str) with | some f => isFm f | none => false) = isFm f
  rw [strsOf_F]
theorem isT_of {d : Dat} (h : d.isT = true) : ∃ xs, d = .tup xs := by cases d <;> first | exact ⟨_, rfl⟩ | cases h
theorem isS_of {d : Dat} (h : d.isS = true) : ∃ l, d = .str l := by cases d <;> first | exact ⟨_, rfl⟩ | cases h
/-- all but the last two tests of is_formation, over strs -/
theorem joinL_nil : ∀ f : Fm, joinL [] f = f.flatten
  | [] => rfl
  | [p] => by simp [joinL]
  | p :: q :: r => by
    show p ++ ([] ++ joinL [] (q :: r)) = (p :: q :: r).flatten
    rw [joinL_nil (q :: r)]
    rfl
theorem flat_len (f : Fm) : (f.map List.length).sum = f.flatten.length := by rw [List.length_flatten]
theorem okn_sig {l : List Nat} (h : (l.all fun c => Nat.blt c 1114112) = true) : okn 9 (.lst (sig l)) = true := by
  show (sig l).all (okn 8) = true
  rw [List.all_eq_true] at h ⊢
  intro x hx
  obtain ⟨c, hc, rfl⟩ := List.mem_map.mp hx
  show ([c].all fun c => Nat.blt c 1114112) = true
  rw [List.all_cons, h c hc]
  rfl
theorem eq_sig : ∀ l m : List Nat, Dat.eqA (sig l) (sig m) = decide (l = m)
  | [], [] => rfl
  | [], _ :: _ => rfl
  | _ :: _, [] => rfl
  | a :: l, b :: m => by
    show (decide ([a] = [b]) && Dat.eqA (sig l) (sig m)) = decide (a :: l = b :: m)
    rw [eq_sig l m]
    by_cases h1 : a = b <;> by_cases h2 : l = m <;> simp [h1, h2]
section
variable {P : Program} {w : World} {K : PySem.W.Frag} {mg : Str → Option Value} {base : Heap}
/-! ### is_formation -/
def C_isform : List Dat → Res → Prop := fun as r => ∃ d, as = [d] ∧ okV d ∧ r = .ok (.bl (isForm d))
theorem sc_is_formation : FnScope ["value", "people", "one"] ["value"] (defScope s_is_formation) := ⟨rfl, rfl, rfl, by decide +kernel, rfl, by decide +kernel, by decide +kernel⟩
abbrev N_isf : List Str := ["value", "people", "one"]
theorem isf_first {xs : List Dat} : (!((decide ((1 : Int) ≤ (xs.length : Int)) && decide ((xs.length : Int) ≤ 6))) || !(xs.map Dat.isS).all id) = !(decide (1 ≤ (xs.length : Int) ∧ (xs.length : Int) ≤ 6) && (strsOf xs).isSome) := by
  rw [strsOf_all, List.all_map]
  have e : (xs.all (id ∘ Dat.isS)) = xs.all Dat.isS := rfl
  rw [e, ← Bool.decide_and]
  cases decide (1 ≤ (xs.length : Int) ∧ (xs.length : Int) ≤ 6) <;> cases xs.all Dat.isS <;> rfl
theorem ok_is_formation {f : Addr} {fd : FuncData} {t : Tok} (B : Bi mg) (hL : mg "LETTERS" = some (.str (mkS lets) t)) (F : Fun K "is_formation" "is_formation" s_is_formation f fd) : FnOk P w K mg base (L2N.CX P w) 1 f fd ["value"] (spC K C_isform) := by
  refine fnC_ok F sc_is_formation (fun as r ⟨d, e, _⟩ => by rw [e]; rfl) fun cdv A outer s H E as r W hM hr ⟨d, e, hok, er⟩ => ?_
  subst e er
  have nd := sc_is_formation.nd
  by_cases hT : d.isT = true
  · obtain ⟨xs, rfl⟩ := isT_of hT
    by_cases hl : xs.length ≤ 6
    · refine ss_cons (s_if (t_w (TW.is (w_or (t_not (t_val (d_isi B.isinstance B.tuple (dv 0 rfl) (kit_T _)))) fun _ => w_or (t_not (t_chain op_le op_le o_le o_le d_int (d_lenT B.len (dv 0 rfl)) d_int)) fun _ =>
        w_or1 (t_not (t_val (d_all (bs := xs.map Dat.isS) B.all ((d_lc0 (own := [("one", 2)]) (is := [2]) (pr := fun _ => True) (bd := bd1 2) (f := fun x => .bl x.isS) rfl nd (i_tup (dv 0 rfl)) (blkOk_by (N := N_isf) (sc := defScope s_is_formation) (by decide +kernel)) (fun _ _ _ _ _ => gt_name nd)
          (fun x hx _ _ _ _ _ => d_isi B.isinstance B.str (dv 2 rfl) (kit_S x) (hok.2 x hx)) (fun _ _ => True.intro) (by simp) (by omega)).is (by rw [List.map_map]; rfl)))))) (show _ = !(decide (1 ≤ (xs.length : Int) ∧ (xs.length : Int) ≤ 6) && (strsOf xs).isSome) from (Bool.false_or _).trans isf_first))) (fun hb => ss_one (s_ret d_bl ?_)) (fun hb => ss_nil ?_))
      · have hb : (decide (1 ≤ (xs.length : Int) ∧ (xs.length : Int) ≤ 6) && (strsOf xs).isSome) = false := nt hb
        have e : isForm (.tup xs) = false := by
          show (match strsOf xs with | some f => isFm f | none => false) = false
          cases h : strsOf xs with
          | none => rfl
          | some g =>
            rw [h] at hb
            have hb : (decide (1 ≤ (xs.length : Int) ∧ (xs.length : Int) ≤ 6) && true) = false := hb
            rw [Bool.and_true] at hb
            show isFm g = false
            unfold isFm
            rw [strsOf_some h, List.length_map] at hb
            rw [hb]
            rfl
        show some (Res.ok (.bl false)) = _
        rw [e]
      · have hb : (decide (1 ≤ (xs.length : Int) ∧ (xs.length : Int) ≤ 6) && (strsOf xs).isSome) = true := nf hb
        rw [Bool.and_eq_true] at hb
        obtain ⟨h1, h2⟩ := hb
        obtain ⟨g, hg⟩ := Option.isSome_iff_exists.mp h2
        have ex := strsOf_some hg
        subst ex
        rw [isForm_F]
        rw [List.length_map] at h1 hl
        have h1' := of_decide_eq_true h1
        obtain ⟨g0, gr, rfl⟩ : ∃ g0 gr, g = g0 :: gr := by
          cases g with
          | nil => simp at h1'
          | cons a b => exact ⟨a, b, rfl⟩
        have hok' : ∀ l ∈ g0 :: gr, okT l := fun l hm => hok.1 l (List.mem_map_of_mem hm)
        have tot : (g0 :: gr).flatten.length ≤ 6000 := by
          rw [← flat_len]
          exact sum_le 1000 6 (g0 :: gr) (fun l hm => (hok' l hm).1) hl
        have codes : ((g0 :: gr).flatten.all fun c => Nat.blt c 1114112) = true := by
          rw [List.all_flatten, List.all_eq_true]
          exact fun l hm => (hok' l hm).2
        -- any
        refine ss_cons (s_if (t_val (d_any (bs := (g0 :: gr).map fun l => !decide (l.length = g0.length)) B.any ((d_lc0 (own := [("one", 2)]) (is := [2]) (pr := fun x => ∃ l, x = .str l ∧ okT l) (bd := bd1 2) (f := fun x => match x with | .str l => .bl (!decide (l.length = g0.length)) | _ => .non) rfl nd (i_tup (dv 0 rfl)) (blkOk_by (N := N_isf) (sc := defScope s_is_formation) (by decide +kernel)) (fun _ _ _ _ _ => pg_imp (gt_name nd) fun v σ H Q ⟨B, x, ρ, c, en, rv, _, q⟩ => ⟨B, x, ρ, c, en, rv, True.intro, q⟩)
          (fun x hx _ _ _ _ _ => ?_) (fun x hx => ?_) (by simp) (by rw [List.length_map]; omega)).is (by rw [List.map_map, List.map_map]; rfl)))) (fun hb => ss_one (s_ret d_bl ?_)) (fun hb => ss_nil ?_))
        · obtain ⟨l, hm, rfl⟩ := List.mem_map.mp hx
          refine (d_cmp op_ne (fun B H vx vy Q c rx ry q => ⟨by rw [rp_int rx, rp_int ry]; rfl, by rw [rp_int rx, rp_int ry]; exact q _ H (Same.refl H) (.bl _)⟩) (d_lenS B.len (dv 2 rfl) (by have := (hok' l hm).1; omega)) (d_lenS B.len (d_ixT (dv 0 rfl) d_int (atI_nat (j := 0) rfl)) (by have := (hok' g0 List.mem_cons_self).1; omega))).is ?_
          show Dat.bl _ = Dat.bl _
          congr 2
          by_cases z : l.length = g0.length
          · simp [z]
          · simp [z]
            omega
        · obtain ⟨l, hm, rfl⟩ := List.mem_map.mp hx
          exact ⟨l, rfl, hok' l hm⟩
        · have e : isFm (g0 :: gr) = false := by
            unfold isFm
            have z : ((g0 :: gr).all fun l => decide (l.length = ((g0 :: gr).headD []).length)) = false := by
              rw [List.any_map] at hb
              rw [Bool.eq_false_iff]
              intro q
              rw [List.all_eq_true] at q
              obtain ⟨l, hm, hq⟩ := List.any_eq_true.mp hb
              have q := q l hm
              have hq : (!decide (l.length = g0.length)) = true := hq
              have q : decide (l.length = g0.length) = true := q
              rw [q] at hq
              cases hq
            rw [z, Bool.and_false, Bool.false_and]
          show some (Res.ok (.bl false)) = _
          rw [e]
        · have z : ((g0 :: gr).all fun l => decide (l.length = ((g0 :: gr).headD []).length)) = true := by
            rw [List.all_eq_true]
            intro l hm
            rw [List.any_map, Bool.eq_false_iff] at hb
            by_cases q : l.length = g0.length
            · exact decide_eq_true q
            · exact absurd (List.any_eq_true.mpr ⟨l, hm, by show (!decide (l.length = g0.length)) = true; rw [decide_eq_false q]; rfl⟩) hb
          -- people = ''.join(value)
          refine ss_cons (s_set 1 nd (d_join (S := []) (ls := g0 :: gr) (d_str rfl) (dv 0 rfl) (.inl rfl) (by rw [flat_len]; show _ + (gr.length + 1) * 0 ≤ _; omega)) ?_)
          rw [joinL_nil]
          refine ss_one (s_ret (d_and (y := decide (sortN (g0 :: gr).flatten = lets.take (g0 :: gr).flatten.length)) (d_chain op_le op_le o_le o_le d_int (d_lenS B.len (dv 1 rfl) (by omega)) d_int) (fun hx => d_one ?_)) ?_)
          · have hx := Bool.and_eq_true_iff.mp hx
            have h6 : (g0 :: gr).flatten.length ≤ 6 := by
              have z := of_decide_eq_true hx.2
              omega
            refine (d_eq hr.units (d_sortedS B.sorted (dv 1 rfl) (by omega)) (d_listS B.list (d_slS (d_gstr hL rfl) do_none (do_some (d_lenS B.len (dv 1 rfl) (by omega))) (by decide)) ?_) ?_ ?_).is ?_
            · rw [cut_take]
              exact Nat.le_trans (List.length_take_le' _ _) (by decide)
            · refine okn_sig ?_
              rw [List.all_eq_true] at codes ⊢
              exact fun c hc => codes c ((sortN_perm _).mem_iff.mp hc)
            · refine okn_sig ?_
              rw [cut_take, List.all_eq_true]
              intro c hc
              exact (by decide : ∀ c ∈ lets, Nat.blt c 1114112 = true) c (List.mem_of_mem_take hc)
            · show Dat.bl (Dat.eqA _ _) = _
              rw [eq_sig, cut_take]
          · show some (Res.ok (.bl _)) = some (Res.ok (.bl (isFm (g0 :: gr))))
            unfold isFm
            rw [h1, z, ← Bool.decide_and]
            rfl
    · refine ss_cons (s_if (b := true) (t_w (TW.is (w_or (t_not (t_val (d_isi B.isinstance B.tuple (dv 0 rfl) (kit_T _)))) fun _ => w_or (y := true) (t_not (t_chain op_le op_le o_le o_le d_int (d_lenT B.len (dv 0 rfl)) d_int)) fun h => ?_) (by rw [Bool.or_true, Bool.or_true]))) (fun hb => ss_one (s_ret d_bl ?_)) (fun hb => by cases hb))
      · exfalso
        have h := nf h
        have h := of_decide_eq_true (Bool.and_eq_true_iff.mp h).2
        omega
      · have e : isForm (.tup xs) = false := by
          show (match strsOf xs with | some f => isFm f | none => false) = false
          cases h : strsOf xs with
          | none => rfl
          | some g =>
            show isFm g = false
            unfold isFm
            have hg := congrArg List.length (strsOf_some h)
            rw [List.length_map] at hg
            rw [decide_eq_false (by omega)]
            rfl
        show some (Res.ok (.bl false)) = _
        rw [e]
  · have hT' : d.isT = false := Bool.eq_false_iff.mpr hT
    have hdd := okV_d hok
    refine ss_cons (s_if (b := true) (t_w (TW.is (w_or (y := true) (t_not (t_val (d_isi B.isinstance B.tuple (dv 0 rfl) (kit_T _)))) fun h => ?_) (by rw [Bool.or_true]))) (fun hb => ss_one (s_ret d_bl ?_)) (fun hb => by cases hb))
    · exfalso
      rw [hT'] at h
      cases h
    · have e : isForm d = false := by cases d <;> first | rfl | cases hT'
      show some (Res.ok (.bl false)) = _
      rw [e]
where
  cut_take (l : List Nat) (n : Nat) : cutN l none (some (n : Int)) = l.take n := by
    unfold cutN
    rw [HT.sIx_none, HT.sIx_nat, List.drop_zero, Nat.sub_zero]
    rcases Nat.le_total n l.length with h | h
    · rw [Nat.min_eq_left h]
    · rw [Nat.min_eq_right h, List.take_length, List.take_of_length_le h]
  sum_le (a n : Nat) (g : Fm) (h : ∀ l ∈ g, l.length ≤ a) (hn : g.length ≤ n) : (g.map List.length).sum ≤ n * a := by
    have z : (g.map List.length).sum ≤ g.length * a := by
      clear hn
      induction g with
      | nil => simp
      | cons l r ih =>
        have h1 := h l List.mem_cons_self
        have h2 := ih fun l hm => h l (List.mem_cons_of_mem _ hm)
        rw [List.map_cons, List.sum_cons, List.length_cons, Nat.add_mul]
        omega
    exact Nat.le_trans z (Nat.mul_le_mul_right a hn)
end
end G

set_option Elab.async false
set_option linter.all false
set_option maxRecDepth 100000
set_option maxHeartbeats 4000000
namespace G
open PySem PySem.Spec PyProof.Rows L2 TL
/-- the def x stands in the text -/
def At (K : PySem.W.Frag) (mg : Str → Option Value) (x : Str) (st : Stmt) : Prop := ∃ f fd, Fun K x x st f fd ∧ mg x = some (.ref f)
theorem At.c1 {P : Program} {w : World} {K : PySem.W.Frag} {mg : Str → Option Value} {base : Heap} {x : Str} {st : Stmt} {ps : List Str} {C : List Dat → Res → Prop} {k : Nat} (h : At K mg x st)
    (hb : ∀ (kV doc pm : Value) (an : Option Addr) (cdv ct : Value) (us : List Value), us.length = ps.length → bindArgs (PySem.W.fnOf x x (defArgs st) (defBody st) (defScope st) .none kV doc pm an cdv ct) ⟨us, []⟩ = pure (ps.zip us))
    (ok : ∀ f fd, Fun K x x st f fd → FnOk P w K mg base (L2N.CX P w) k f fd ps (spC K C)) : FnC P w K mg base x ps C k := by
  obtain ⟨f, fd, F, g⟩ := h
  exact ⟨f, fd, ok f fd F, g, F.kp, F.binds hb⟩
theorem memF {f : Fm} {l : List Nat} (h : Dat.str l ∈ f.map Dat.str) : l ∈ f := by
  obtain ⟨m, hm, e⟩ := List.mem_map.mp h
  cases e
  exact hm
theorem isFm_len {f : Fm} (h : isFm f = true) : 1 ≤ f.length ∧ f.length ≤ 6 ∧ (∀ l ∈ f, l.length = (f.headD []).length) ∧ 2 ≤ f.flatten.length ∧ f.flatten.length ≤ 6 ∧ sortN f.flatten = lets.take f.flatten.length := by
  unfold isFm at h
  simp only [Bool.and_eq_true, decide_eq_true_eq, List.all_eq_true] at h
  obtain ⟨⟨h1, h2⟩, h3, h4⟩ := h
  exact ⟨by omega, by omega, h2, by omega, by omega, h4⟩
theorem mem_flat {f : Fm} {l : List Nat} (h : l ∈ f) : l.length ≤ f.flatten.length := by
  rw [← flat_len]
  induction f with
  | nil => cases h
  | cons a r ih =>
    rw [List.map_cons, List.sum_cons]
    rcases List.mem_cons.mp h with rfl | h
    · omega
    · have := ih h
      omega
theorem isFm_codes {f : Fm} (h : isFm f = true) : ∀ l ∈ f, ∀ c ∈ l, c ∈ lets := fun l hl c hc => by
  obtain ⟨_, _, _, _, _, h6⟩ := isFm_len h
  have hm : c ∈ f.flatten := List.mem_flatten.mpr ⟨l, hl, hc⟩
  rw [← (sortN_perm _).mem_iff, h6] at hm
  exact List.mem_of_mem_take hm
theorem lets_ok : ∀ c ∈ lets, Nat.blt c 1114112 = true := by decide
theorem okT_F {f : Fm} (h : isFm f = true) : ∀ l ∈ f, okT l := fun l hl => by
  obtain ⟨_, _, _, _, h5, _⟩ := isFm_len h
  refine ⟨by have := mem_flat hl; omega, ?_⟩
  rw [List.all_eq_true]
  exact fun c hc => lets_ok c (isFm_codes h l hl c hc)
theorem okV_F {f : Fm} (h : isFm f = true) : okV (F_ f) := ⟨fun l hl => okT_F h l (memF hl), fun x hx => by
  obtain ⟨l, _, rfl⟩ := List.mem_map.mp hx
  rfl⟩
theorem okn_F {f : Fm} (h : isFm f = true) : okn 1 (F_ f) = true := by
  show (f.map Dat.str).all (okn 0) = true
  rw [List.all_map, List.all_eq_true]
  exact fun l hl => (okT_F h l hl).2
def isOrd : Dat → Bool
  | .str l => decide ((l.length : Int) ≤ 20) && l.all fun c => decide (c ∈ signs)
  | _ => false
section
variable {P : Program} {w : World} {K : PySem.W.Frag} {mg : Str → Option Value} {base : Heap} {IF IO : Addr}
theorem c_is_formation {t : Tok} (B : Bi mg) (hL : mg "LETTERS" = some (.str (mkS lets) t)) (h : At K mg "is_formation" s_is_formation) : FnC P w K mg base "is_formation" ["value"] C_isform 1 :=
  h.c1 (fun _ _ _ _ _ _ us hl => match us, hl with | [_], _ => rfl) fun f fd F => ok_is_formation B hL F
/-! ### are_orders -/
def C_areord : List Dat → Res → Prop := fun as r => ∃ d, as = [d] ∧ okV d ∧ r = .ok (.bl (isOrd d))
abbrev N_aro : List Str := ["value", "sign"]
theorem sc_are_orders : FnScope N_aro ["value"] (defScope s_are_orders) := ⟨rfl, rfl, rfl, by decide +kernel, rfl, by decide +kernel, by decide +kernel⟩
theorem c_are_orders {t : Tok} (B : Bi mg) (hS : mg "SIGNS" = some (.str (mkS signs) t)) (h : At K mg "are_orders" s_are_orders) : FnC P w K mg base "are_orders" ["value"] C_areord 1 := by
  refine h.c1 (fun _ _ _ _ _ _ us hl => match us, hl with | [_], _ => rfl) fun f fd F => fnC_ok F sc_are_orders (fun as r ⟨d, e, _⟩ => by rw [e]; rfl) fun cdv A outer s H E as r W hM hr ⟨d, e, hok, er⟩ => ?_
  subst e er
  have nd := sc_are_orders.nd
  have hdd := okV_d hok
  refine ss_one (s_ret (d_and (y := isOrd d) (d_isi B.isinstance B.str (dv 0 rfl) (kit_S d)) fun hs => ?_) ?_)
  · obtain ⟨l, rfl⟩ := isS_of hs
    refine d_and (d_cmp op_le o_le (d_lenS B.len (dv 0 rfl) (by have := hok.1; omega)) d_int) fun hl => d_one ?_
    refine (d_all (bs := l.map fun c => decide (c ∈ signs)) B.all ((d_lc0 (own := [("sign", 1)]) (is := [1]) (pr := fun _ => True) (bd := bd1 1) (f := fun x => match x with | .str [c] => .bl (decide (c ∈ signs)) | _ => .non) rfl nd (i_str (dv 0 rfl)) (blkOk_by (N := N_aro) (sc := defScope s_are_orders) (by decide +kernel)) (fun _ _ _ _ _ => gt_name nd)
      (fun x hx _ _ _ _ _ => ?_) (fun _ _ => True.intro) (by simp) (by rw [List.length_map]; have := hok.1; omega)).is (by rw [List.map_map, List.map_map]; rfl))).is (by rw [List.all_map]; rfl)
    obtain ⟨c, _, rfl⟩ := List.mem_map.mp hx
    exact d_inSign (dv 1 rfl) (d_gstr hS rfl)
  · show some (Res.ok (.bl _)) = _
    congr 3
    cases d <;> rfl
/-! ### need_formation, need_orders, need_both -/
def needR (b : Bool) (C : Addr) (r : Res) : Res := if b = true then r else .err (.ref C)
def C_needf (IF : Addr) : List Dat → Res → Prop := fun as r => ∃ d, as = [d] ∧ okV d ∧ r = needR (isForm d) IF (.ok .non)
def C_needo (IO : Addr) : List Dat → Res → Prop := fun as r => ∃ d, as = [d] ∧ okV d ∧ r = needR (isOrd d) IO (.ok .non)
def C_needb (IF IO : Addr) : List Dat → Res → Prop := fun as r => ∃ d e, as = [d, e] ∧ okV d ∧ okV e ∧ r = needR (isForm d) IF (needR (isOrd e) IO (.ok .non))
theorem sc_need_formation : FnScope ["formation"] ["formation"] (defScope s_need_formation) := ⟨rfl, rfl, rfl, by decide +kernel, rfl, by decide +kernel, by decide +kernel⟩
theorem sc_need_orders : FnScope ["orders"] ["orders"] (defScope s_need_orders) := ⟨rfl, rfl, rfl, by decide +kernel, rfl, by decide +kernel, by decide +kernel⟩
theorem sc_need_both : FnScope ["formation", "orders"] ["formation", "orders"] (defScope s_need_both) := ⟨rfl, rfl, rfl, by decide +kernel, rfl, by decide +kernel, by decide +kernel⟩
theorem c_need_formation (G1 : FnC P w K mg base "is_formation" ["value"] C_isform 1) (X1 : ExcF K mg "InvalidFormation" IF) (h : At K mg "need_formation" s_need_formation) : FnC P w K mg base "need_formation" ["formation"] (C_needf IF) 2 := by
  refine h.c1 (fun _ _ _ _ _ _ us hl => match us, hl with | [_], _ => rfl) fun f fd F => fnC_ok F sc_need_formation (fun as r ⟨d, e, _⟩ => by rw [e]; rfl) fun cdv A outer s H E as r W hM hr ⟨d, e, hok, er⟩ => ?_
  subst e er
  refine ss_one (s_if (t_not (t_val (d_call G1 (hr.mono (by decide)) passN (da_one (dv 0 rfl)) ⟨d, rfl, hok, rfl⟩))) (fun hb => ss_one (s_raise X1 tk_cx ?_)) (fun hb => ss_nil ?_))
  · show some (Res.err _) = some (needR (isForm d) IF (.ok .non))
    rw [nt hb]
    rfl
  · show some (Res.ok _) = some (needR (isForm d) IF (.ok .non))
    rw [nf hb]
    rfl
theorem c_need_orders (G1 : FnC P w K mg base "are_orders" ["value"] C_areord 1) (X1 : ExcF K mg "InvalidOrders" IO) (h : At K mg "need_orders" s_need_orders) : FnC P w K mg base "need_orders" ["orders"] (C_needo IO) 2 := by
  refine h.c1 (fun _ _ _ _ _ _ us hl => match us, hl with | [_], _ => rfl) fun f fd F => fnC_ok F sc_need_orders (fun as r ⟨d, e, _⟩ => by rw [e]; rfl) fun cdv A outer s H E as r W hM hr ⟨d, e, hok, er⟩ => ?_
  subst e er
  refine ss_one (s_if (t_not (t_val (d_call G1 (hr.mono (by decide)) passN (da_one (dv 0 rfl)) ⟨d, rfl, hok, rfl⟩))) (fun hb => ss_one (s_raise X1 tk_cx ?_)) (fun hb => ss_nil ?_))
  · show some (Res.err _) = some (needR (isOrd d) IO (.ok .non))
    rw [nt hb]
    rfl
  · show some (Res.ok _) = some (needR (isOrd d) IO (.ok .non))
    rw [nf hb]
    rfl
theorem c_need_both (G1 : FnC P w K mg base "need_formation" ["formation"] (C_needf IF) 2) (G2 : FnC P w K mg base "need_orders" ["orders"] (C_needo IO) 2) (h : At K mg "need_both" s_need_both) : FnC P w K mg base "need_both" ["formation", "orders"] (C_needb IF IO) 3 := by
  refine h.c1 (fun _ _ _ _ _ _ us hl => match us, hl with | [_, _], _ => rfl) fun f fd F => fnC_ok F sc_need_both (fun as r ⟨d, e, q, _⟩ => by rw [q]; rfl) fun cdv A outer s H E as r W hM hr ⟨d, e, q, hd, he, er⟩ => ?_
  subst q er
  cases h1 : isForm d with
  | false => exact ss_cons (s_exprE (d_call G1 (hr.mono (by decide)) pa_cx (da_one (dv 0 rfl)) ⟨d, rfl, hd, by rw [h1]; rfl⟩) rfl)
  | true =>
    refine ss_cons (s_expr (d := .non) (d_call G1 (hr.mono (by decide)) pa_cx (da_one (dv 0 rfl)) ⟨d, rfl, hd, by rw [h1]; rfl⟩) ?_)
    cases h2 : isOrd e with
    | false => exact ss_one (s_exprE (d_call G2 (hr.mono (by decide)) pa_cx (da_one (dv 1 rfl)) ⟨e, rfl, he, by rw [h2]; rfl⟩) rfl)
    | true => exact ss_one (s_expr (d := .non) (d_call G2 (hr.mono (by decide)) pa_cx (da_one (dv 1 rfl)) ⟨e, rfl, he, by rw [h2]; rfl⟩) rfl)
/-! ### shape_of, shape -/
def sh (f : Fm) : Dat := .tup [.int f.length, .int (f.headD []).length]
def C_shapeof : List Dat → Res → Prop := fun as r => ∃ f : Fm, as = [F_ f] ∧ 1 ≤ f.length ∧ (f.headD []).length ≤ 1000 ∧ r = .ok (sh f)
theorem sc_shape_of : FnScope ["formation"] ["formation"] (defScope s_shape_of) := ⟨rfl, rfl, rfl, by decide +kernel, rfl, by decide +kernel, by decide +kernel⟩
theorem c_shape_of (B : Bi mg) (h : At K mg "shape_of" s_shape_of) : FnC P w K mg base "shape_of" ["formation"] C_shapeof 1 := by
  refine h.c1 (fun _ _ _ _ _ _ us hl => match us, hl with | [_], _ => rfl) fun f fd F => fnC_ok F sc_shape_of (fun as r ⟨d, e, _⟩ => by rw [e]; rfl) fun cdv A outer s H E as r W hM hr ⟨g, e, h1, h2, er⟩ => ?_
  subst e er
  obtain ⟨g0, gr, rfl⟩ : ∃ g0 gr, g = g0 :: gr := by
    cases g with
    | nil => simp at h1
    | cons a b => exact ⟨a, b, rfl⟩
  refine ss_one (s_ret (d_tup (da_cons (d_lenT B.len (dv 0 rfl)) (da_one (d_lenS B.len (d_ixT (dv 0 rfl) d_int (atI_nat (j := 0) rfl)) (by have h2 : g0.length ≤ 1000 := h2; omega)))) (by simp)) ?_)
  show some (Res.ok (.tup [.int (((g0 :: gr).map Dat.str).length : Nat), _])) = _
  rw [List.length_map]
  rfl
end
end G

set_option Elab.async false
set_option linter.all false
set_option maxRecDepth 100000
set_option maxHeartbeats 4000000
namespace G
open PySem PySem.Spec PyProof.Rows L2 TL
theorem Wk.set : ∀ {ρ ρ' : List Sl} (i : Nat) (s : Sl), Wk ρ ρ' → Wk (ρ.set i s) (ρ'.set i s)
  | [], [], _, _, _ => True.intro
  | _ :: _, _ :: _, 0, s, h => ⟨.inr rfl, h.2⟩
  | _ :: _, _ :: _, i + 1, s, h => ⟨h.1, Wk.set i s h.2⟩
theorem Wk.bd2 {ρ ρ' : List Sl} (i j : Nat) (x : Dat) (h : Wk ρ ρ') : Wk (bd2 i j x ρ) (bd2 i j x ρ') := by
  unfold G.bd2
  split
  · exact (h.set i _).set j _
  · exact h
theorem s_forW {X : Cx} {E : XK} {W : Wl} {ρ : List Sl} {P : Out → Prop} {tg iter : Expr} {body : List Stmt} {xs : List Dat} {is : List Nat} {pr : Dat → Prop} {bd : Dat → List Sl → List Sl} {pos : Pos} (ρs : Nat → List Sl) (hp : PassesOwn (model X.prog X.w) X.A X.env X.xe) (hi : I X tg iter ρ xs) (hg : GT X tg is pr bd)
    (hbd : ∀ x ρ ρ', Wk ρ ρ' → Wk (bd x ρ) (bd x ρ')) (hpr : ∀ x ∈ xs, pr x) (h0 : Wk ρ (ρs 0))
    (hs : ∀ (fr : Hp) (i : Nat) (x : Dat), xs[i]? = some x → SS X E (W.fram fr) body (bd x (ρs i)) (Lp (fun ρ2 => Wk ρ2 (ρs (i + 1))) P)) (hd : ∀ ρ', Wk ρ' (ρs xs.length) → P (.nx ρ')) (hc : X.calm = true := by rfl) (hf : ∀ x, foldedSetIterable iter X.env x = pure x := by intro _; rfl) :
    S1 X E W (.For tg iter body [] pos) ρ P :=
  s_for (fun i ρ => Wk ρ (ρs i)) hp hi hg hpr h0 (fun fr i x ρ' hx hR => (hs fr i x hx).weak (hbd x _ _ hR)) hd hc hf
/-! ### slices by a step on short texts -/
theorem cut3_even : ∀ l : List Nat, l.length ≤ 6 → cut3 l none none 2 = evens l
  | [], _ => by
    have h : Builtin.Str.strSliceIndices none none 2 0 = [] := by decide +kernel
    unfold cut3
    show (Builtin.Str.strSliceIndices none none 2 0).filterMap _ = _
    rw [h]
    rfl
  | [a], _ => by
    have h : Builtin.Str.strSliceIndices none none 2 1 = [0] := by decide +kernel
    unfold cut3
    show (Builtin.Str.strSliceIndices none none 2 1).filterMap _ = _
    rw [h]
    rfl
  | [a, b], _ => by
    have h : Builtin.Str.strSliceIndices none none 2 2 = [0] := by decide +kernel
    unfold cut3
    show (Builtin.Str.strSliceIndices none none 2 2).filterMap _ = _
    rw [h]
    rfl
  | [a, b, c], _ => by
    have h : Builtin.Str.strSliceIndices none none 2 3 = [0, 2] := by decide +kernel
    unfold cut3
    show (Builtin.Str.strSliceIndices none none 2 3).filterMap _ = _
    rw [h]
    rfl
  | [a, b, c, d], _ => by
    have h : Builtin.Str.strSliceIndices none none 2 4 = [0, 2] := by decide +kernel
    unfold cut3
    show (Builtin.Str.strSliceIndices none none 2 4).filterMap _ = _
    rw [h]
    rfl
  | [a, b, c, d, e], _ => by
    have h : Builtin.Str.strSliceIndices none none 2 5 = [0, 2, 4] := by decide +kernel
    unfold cut3
    show (Builtin.Str.strSliceIndices none none 2 5).filterMap _ = _
    rw [h]
    rfl
  | [a, b, c, d, e, f], _ => by
    have h : Builtin.Str.strSliceIndices none none 2 6 = [0, 2, 4] := by decide +kernel
    unfold cut3
    show (Builtin.Str.strSliceIndices none none 2 6).filterMap _ = _
    rw [h]
    rfl
  | _ :: _ :: _ :: _ :: _ :: _ :: _ :: _, h => by simp at h
theorem cut3_odd : ∀ l : List Nat, l.length ≤ 6 → cut3 l (some 1) none 2 = odds l
  | [], _ => by
    have h : Builtin.Str.strSliceIndices (some 1) none 2 0 = [] := by decide +kernel
    unfold cut3
    show (Builtin.Str.strSliceIndices (some 1) none 2 0).filterMap _ = _
    rw [h]
    rfl
  | [a], _ => by
    have h : Builtin.Str.strSliceIndices (some 1) none 2 1 = [] := by decide +kernel
    unfold cut3
    show (Builtin.Str.strSliceIndices (some 1) none 2 1).filterMap _ = _
    rw [h]
    rfl
  | [a, b], _ => by
    have h : Builtin.Str.strSliceIndices (some 1) none 2 2 = [1] := by decide +kernel
    unfold cut3
    show (Builtin.Str.strSliceIndices (some 1) none 2 2).filterMap _ = _
    rw [h]
    rfl
  | [a, b, c], _ => by
    have h : Builtin.Str.strSliceIndices (some 1) none 2 3 = [1] := by decide +kernel
    unfold cut3
    show (Builtin.Str.strSliceIndices (some 1) none 2 3).filterMap _ = _
    rw [h]
    rfl
  | [a, b, c, d], _ => by
    have h : Builtin.Str.strSliceIndices (some 1) none 2 4 = [1, 3] := by decide +kernel
    unfold cut3
    show (Builtin.Str.strSliceIndices (some 1) none 2 4).filterMap _ = _
    rw [h]
    rfl
  | [a, b, c, d, e], _ => by
    have h : Builtin.Str.strSliceIndices (some 1) none 2 5 = [1, 3] := by decide +kernel
    unfold cut3
    show (Builtin.Str.strSliceIndices (some 1) none 2 5).filterMap _ = _
    rw [h]
    rfl
  | [a, b, c, d, e, f], _ => by
    have h : Builtin.Str.strSliceIndices (some 1) none 2 6 = [1, 3, 5] := by decide +kernel
    unfold cut3
    show (Builtin.Str.strSliceIndices (some 1) none 2 6).filterMap _ = _
    rw [h]
    rfl
  | _ :: _ :: _ :: _ :: _ :: _ :: _ :: _, h => by simp at h
theorem cut3_rev : ∀ l : List Nat, l.length ≤ 6 → cut3 l none none (-1) = l.reverse
  | [], _ => by
    have h : Builtin.Str.strSliceIndices none none (-1) 0 = [] := by decide +kernel
    unfold cut3
    show (Builtin.Str.strSliceIndices none none (-1) 0).filterMap _ = _
    rw [h]
    rfl
  | [a], _ => by
    have h : Builtin.Str.strSliceIndices none none (-1) 1 = [0] := by decide +kernel
    unfold cut3
    show (Builtin.Str.strSliceIndices none none (-1) 1).filterMap _ = _
    rw [h]
    rfl
  | [a, b], _ => by
    have h : Builtin.Str.strSliceIndices none none (-1) 2 = [1, 0] := by decide +kernel
    unfold cut3
    show (Builtin.Str.strSliceIndices none none (-1) 2).filterMap _ = _
    rw [h]
    rfl
  | [a, b, c], _ => by
    have h : Builtin.Str.strSliceIndices none none (-1) 3 = [2, 1, 0] := by decide +kernel
    unfold cut3
    show (Builtin.Str.strSliceIndices none none (-1) 3).filterMap _ = _
    rw [h]
    rfl
  | [a, b, c, d], _ => by
    have h : Builtin.Str.strSliceIndices none none (-1) 4 = [3, 2, 1, 0] := by decide +kernel
    unfold cut3
    show (Builtin.Str.strSliceIndices none none (-1) 4).filterMap _ = _
    rw [h]
    rfl
  | [a, b, c, d, e], _ => by
    have h : Builtin.Str.strSliceIndices none none (-1) 5 = [4, 3, 2, 1, 0] := by decide +kernel
    unfold cut3
    show (Builtin.Str.strSliceIndices none none (-1) 5).filterMap _ = _
    rw [h]
    rfl
  | [a, b, c, d, e, f], _ => by
    have h : Builtin.Str.strSliceIndices none none (-1) 6 = [5, 4, 3, 2, 1, 0] := by decide +kernel
    unfold cut3
    show (Builtin.Str.strSliceIndices none none (-1) 6).filterMap _ = _
    rw [h]
    rfl
  | _ :: _ :: _ :: _ :: _ :: _ :: _ :: _, h => by simp at h
theorem evens_len : ∀ l : List Nat, (evens l).length ≤ l.length
  | [] => Nat.le_refl _
  | [_] => Nat.le_refl _
  | _ :: _ :: r => by
    have := evens_len r
    show (evens r).length + 1 ≤ r.length + 1 + 1
    omega
theorem odds_len : ∀ l : List Nat, (odds l).length ≤ l.length
  | [] => Nat.le_refl _
  | [_] => Nat.zero_le _
  | _ :: _ :: r => by
    have := odds_len r
    show (odds r).length + 1 ≤ r.length + 1 + 1
    omega
theorem isFm_wid {f : Fm} (h : isFm f = true) : 1 ≤ wid f ∧ wid f ≤ 6 ∧ ∀ l ∈ f, l.length = wid f := by
  obtain ⟨h1, h2, h3, h4, h5, _⟩ := isFm_len h
  cases f with
  | nil => simp at h1
  | cons a r =>
    have z : a.length ≤ (a :: r).flatten.length := mem_flat List.mem_cons_self
    refine ⟨?_, by show a.length ≤ 6; omega, h3⟩
    show 1 ≤ a.length
    rcases Nat.eq_zero_or_pos a.length with q | q
    · exfalso
      have e : (a :: r).flatten.length = 0 := by
        rw [← flat_len]
        have : ∀ l ∈ a :: r, l.length = 0 := fun l hl => (h3 l hl).trans q
        exact sum_zero _ this
      omega
    · exact q
where
  sum_zero (g : Fm) (h : ∀ l ∈ g, l.length = 0) : (g.map List.length).sum = 0 := by
    induction g with
    | nil => rfl
    | cons l r ih =>
      rw [List.map_cons, List.sum_cons, h l List.mem_cons_self, ih fun l hl => h l (List.mem_cons_of_mem _ hl)]
section
variable {P : Program} {w : World} {K : PySem.W.Frag} {mg : Str → Option Value} {base : Heap}
/-! ### file_of -/
def C_file : List Dat → Res → Prop := fun as r => ∃ (f : Fm) (n : Nat), as = [F_ f, .int n] ∧ isFm f = true ∧ n < wid f ∧ r = .ok (.str (fileOf f n))
abbrev N_file : List Str := ["formation", "number", "rank"]
theorem sc_file_of : FnScope N_file ["formation", "number"] (defScope s_file_of) := ⟨rfl, rfl, rfl, by decide +kernel, rfl, by decide +kernel, by decide +kernel⟩
theorem fileOf_getD {n : Nat} : ∀ f : Fm, (∀ l ∈ f, n < l.length) → (f.map fun l => [l.getD n 0]).flatten = fileOf f n
  | [], _ => rfl
  | l :: r, h => by
    have hn := h l List.mem_cons_self
    have ih := fileOf_getD r fun l hl => h l (List.mem_cons_of_mem _ hl)
    unfold fileOf at ih ⊢
    rw [List.map_cons, List.flatten_cons, List.filterMap_cons, List.getElem?_eq_getElem hn, ih]
    show [l.getD n 0] ++ _ = l[n] :: _
    rw [List.getD_eq_getElem?_getD, List.getElem?_eq_getElem hn]
    rfl
theorem c_file_of (B : Bi mg) (h : At K mg "file_of" s_file_of) : FnC P w K mg base "file_of" ["formation", "number"] C_file 1 := by
  refine h.c1 (fun _ _ _ _ _ _ us hl => match us, hl with | [_, _], _ => rfl) fun f fd F => fnC_ok F sc_file_of (fun as r ⟨d, n, e, _⟩ => by rw [e]; rfl) fun cdv A outer s H E as r W hM hr ⟨g, n, e, hg, hn, er⟩ => ?_
  subst e er
  have nd := sc_file_of.nd
  obtain ⟨_, h6, hw⟩ := isFm_wid hg
  obtain ⟨_, h6', _⟩ := isFm_len hg
  refine ss_one (s_ret (d_join (S := []) (ls := g.map fun l => [l.getD n 0]) (d_str rfl) ((d_lc0 (own := [("rank", 2)]) (is := [2]) (pr := fun _ => True) (bd := bd1 2) (f := fun x => match x with | .str l => .str [l.getD n 0] | _ => .non) rfl nd (i_tup (dv 0 rfl)) (blkOk_by (N := N_file) (sc := defScope s_file_of) (by decide +kernel)) (fun _ _ _ _ _ => gt_name nd)
    (fun x hx _ _ _ _ _ => ?_) (fun _ _ => True.intro) (by simp) (by rw [List.length_map]; omega)).is (by rw [List.map_map])) (.inr (by rw [List.map_map]; rfl)) ?_) ?_)
  · obtain ⟨l, hl, rfl⟩ := List.mem_map.mp hx
    have z := hw l hl
    refine d_ixS (dv 2 rfl) (dv 1 rfl) (by omega) (atI_nat ?_)
    rw [List.getD_eq_getElem?_getD, List.getElem?_eq_getElem (show n < l.length by omega)]
    rfl
  · rw [flat_len, List.length_map]
    have e : ((g.map fun l => [l.getD n 0]).flatten).length ≤ 6 := by
      rw [fileOf_getD g fun l hl => by rw [hw l hl]; exact hn]
      exact Nat.le_trans (List.length_filterMap_le _ _) h6'
    show _ + g.length * 0 ≤ _
    omega
  · show some (Res.ok (.str _)) = _
    rw [joinL_nil, fileOf_getD g fun l hl => by rw [hw l hl]; exact hn]
/-! ### singled -/
def C_sgl : List Dat → Res → Prop := fun as r => ∃ f : Fm, as = [F_ f] ∧ isFm f = true ∧ r = .ok (F_ (sglF f))
abbrev N_sgl : List Str := ["formation", "found", "rank"]
theorem sc_singled : FnScope N_sgl ["formation"] (defScope s_singled) := ⟨rfl, rfl, rfl, by decide +kernel, rfl, by decide +kernel, by decide +kernel⟩
theorem sglF_snoc : ∀ (g : Fm) (l : List Nat), sglF (g ++ [l]) = sglF g ++ [evens l, odds l]
  | [], _ => rfl
  | a :: r, l => by
    show evens a :: odds a :: sglF (r ++ [l]) = evens a :: odds a :: (sglF r ++ [evens l, odds l])
    rw [sglF_snoc r l]
theorem sglF_len : ∀ g : Fm, (sglF g).length = 2 * g.length
  | [] => rfl
  | a :: r => by
    show (sglF r).length + 1 + 1 = 2 * (r.length + 1)
    rw [sglF_len r]
    omega
theorem c_singled (B : Bi mg) (h : At K mg "singled" s_singled) : FnC P w K mg base "singled" ["formation"] C_sgl 1 := by
  refine h.c1 (fun _ _ _ _ _ _ us hl => match us, hl with | [_], _ => rfl) fun f fd F => fnC_ok F sc_singled (fun as r ⟨d, e, _⟩ => by rw [e]; rfl) fun cdv A outer s H E as r W hM hr ⟨g, e, hg, er⟩ => ?_
  subst e er
  have nd := sc_singled.nd
  obtain ⟨_, h6, hw⟩ := isFm_wid hg
  obtain ⟨_, h6', _⟩ := isFm_len hg
  refine ss_cons (s_set 1 nd (d_lst da_nil (by simp)) ?_)
  refine ss_cons (s_forW (fun i => [.dt (F_ g), .dt (.lst ((sglF (g.take i)).map Dat.str)), .un]) po_cx (i_tup (dv 0 rfl)) (gt_name nd) (fun x ρ ρ' h => h.set 2 _) (fun _ _ => True.intro) ⟨.inr rfl, .inr rfl, .inr rfl, True.intro⟩ (fun fr i x hx => ?_) (fun ρ' hρ => ?_))
  · rw [List.getElem?_map] at hx
    obtain ⟨l, hl, rfl⟩ := Option.map_eq_some_iff.mp hx
    have hm := hw l (List.mem_of_getElem? hl)
    have e1 := cut3_even l (by omega)
    have e2 := cut3_odd l (by omega)
    refine ss_one (s_set 1 nd (d_addL (dv 1 rfl) (d_lst (da_cons (d_step (dv 2 rfl) do_none do_none d_int (by decide) (by decide) (by rw [e1]; have := evens_len l; omega)) (da_one (d_step (dv 2 rfl) (do_some d_int) do_none d_int (by decide) (by decide) (by rw [e2]; have := odds_len l; omega)))) (by simp)) ?_) ?_)
    · rw [List.length_map, sglF_len]
      have : (g.take i).length ≤ g.length := List.length_take_le' _ _
      simp
      omega
    · refine ⟨.inr rfl, .inr ?_, .inl rfl, True.intro⟩
      show Sl.dt (.lst _) = Sl.dt (.lst _)
      rw [e1, e2, List.take_add_one, hl, show (some l).toList = [l] from rfl, sglF_snoc, List.map_append]
      rfl
  · refine SS.weak ?_ hρ
    rw [List.length_map, List.take_length]
    exact ss_one (s_ret (d_tupleL B.tuple (dv 1 rfl)) rfl)
/-! ### doubled -/
def C_dbl : List Dat → Res → Prop := fun as r => ∃ f : Fm, as = [F_ f] ∧ isFm f = true ∧ f.length % 2 = 0 ∧ r = .ok (F_ (dblF f))
abbrev N_dbl : List Str := ["formation", "found", "number", "made", "place", "sign"]
theorem sc_doubled : FnScope N_dbl ["formation"] (defScope s_doubled) := ⟨rfl, rfl, rfl, by decide +kernel, rfl, by decide +kernel, by decide +kernel⟩
theorem dblF_get : ∀ (g : Fm) (i : Nat) (a b : List Nat), g[2 * i]? = some a → g[2 * i + 1]? = some b → (dblF g)[i]? = some (inter a b)
  | [], i, a, b, h, _ => by simp at h
  | [x], i, a, b, _, h => by simp at h
  | x :: y :: r, 0, a, b, h1, h2 => by
    have h1 : x = a := Option.some.inj h1
    have h2 : y = b := Option.some.inj h2
    subst h1 h2
    rfl
  | x :: y :: r, i + 1, a, b, h1, h2 => by
    have e1 : 2 * (i + 1) = 2 * i + 1 + 1 := by omega
    rw [e1] at h1 h2
    exact dblF_get r i a b h1 h2
theorem dblF_len : ∀ g : Fm, (dblF g).length = g.length / 2
  | [] => rfl
  | [_] => by
    show 0 = 1 / 2
    decide
  | x :: y :: r => by
    show (dblF r).length + 1 = (r.length + 1 + 1) / 2
    rw [dblF_len r]
    omega
theorem inter_take : ∀ (a b : List Nat) (j : Nat) (c d : Nat), a[j]? = some c → b[j]? = some d → (inter a b).take (2 * (j + 1)) = (inter a b).take (2 * j) ++ [c] ++ [d]
  | [], _, j, c, d, h, _ => by simp at h
  | _ :: _, [], j, c, d, _, h => by simp at h
  | x :: a, y :: b, 0, c, d, h1, h2 => by
    have h1 : x = c := Option.some.inj h1
    have h2 : y = d := Option.some.inj h2
    subst h1 h2
    rfl
  | x :: a, y :: b, j + 1, c, d, h1, h2 => by
    have ih := inter_take a b j c d h1 h2
    have e1 : 2 * (j + 1 + 1) = 2 * (j + 1) + 1 + 1 := by omega
    have e2 : 2 * (j + 1) = 2 * j + 1 + 1 := by omega
    rw [e1]
    show x :: y :: (inter a b).take (2 * (j + 1)) = (x :: y :: inter a b).take (2 * (j + 1)) ++ [c] ++ [d]
    rw [ih, e2]
    rfl
theorem inter_len : ∀ (a b : List Nat), a.length = b.length → (inter a b).length = 2 * a.length
  | [], [], _ => rfl
  | x :: a, y :: b, h => by
    show (inter a b).length + 1 + 1 = 2 * (a.length + 1)
    rw [inter_len a b (by simpa using h)]
    omega
theorem c_doubled (B : Bi mg) (h : At K mg "doubled" s_doubled) : FnC P w K mg base "doubled" ["formation"] C_dbl 1 := by
  refine h.c1 (fun _ _ _ _ _ _ us hl => match us, hl with | [_], _ => rfl) fun f fd F => fnC_ok F sc_doubled (fun as r ⟨d, e, _⟩ => by rw [e]; rfl) fun cdv A outer s H E as r W hM hr ⟨g, e, hg, he, er⟩ => ?_
  subst e er
  have nd := sc_doubled.nd
  obtain ⟨_, h6, hw⟩ := isFm_wid hg
  obtain ⟨h1, h6', _⟩ := isFm_len hg
  refine ss_cons (s_newml 1 nd fun a ha => ?_)
  have hR : RgC 0 ((g.map Dat.str).length : Nat) 2 (g.length / 2) := by
    rw [List.length_map]
    have : g.length = 2 ∨ g.length = 4 ∨ g.length = 6 := by omega
    rcases this with q | q | q <;> rw [q] <;> exact ⟨by decide, by decide, by decide, by decide⟩
  refine ss_cons (s_forW (fun i => [.dt (F_ g), .ml a (((dblF g).take i).map Dat.str), .un, .un, .un, .un]) po_cx (i_range3 B.range d_int (d_lenT B.len (dv 0 rfl)) d_int hR (h3 := fun h => pi_range3 (by rfl) B.range h)) (gt_name nd) (fun x ρ ρ' h => h.set 2 _) (fun _ _ => True.intro)
    ⟨.inr rfl, .inr rfl, .inr rfl, .inr rfl, .inr rfl, .inr rfl, True.intro⟩ (fun fr i x hx => ?_) (fun ρ' hρ => ?_))
  · rw [List.getElem?_map] at hx
    obtain ⟨i', hi', rfl⟩ := Option.map_eq_some_iff.mp hx
    have hlt : i < g.length / 2 := by
      have z := (List.getElem?_eq_some_iff.mp hi').1
      rw [List.length_range] at z
      exact z
    have : i' = i := by
      rw [List.getElem?_range hlt] at hi'
      exact (Option.some.inj hi').symm
    subst this
    have e0 : (0 : Int) + (i' : Nat) * 2 = ((2 * i' : Nat) : Int) := by omega
    rw [e0]
    have l1 : 2 * i' < g.length := by omega
    have l2 : 2 * i' + 1 < g.length := by omega
    have g1 : g[2 * i']? = some g[2 * i'] := List.getElem?_eq_getElem l1
    have g2 : g[2 * i' + 1]? = some g[2 * i' + 1] := List.getElem?_eq_getElem l2
    have w1 := hw _ (List.mem_of_getElem? g1)
    have w2 := hw _ (List.mem_of_getElem? g2)
    generalize g[2 * i'] = ra at g1 w1
    generalize g[2 * i' + 1] = rb at g2 w2
    refine ss_cons (s_set 3 nd (d_str (l := []) rfl) ?_)
    refine ss_cons (s_forW (fun j => [.dt (F_ g), .ml a (((dblF g).take i').map Dat.str), .dt (.int ((2 * i' : Nat) : Int)), .dt (.str ((inter ra rb).take (2 * j))), .un, .un]) po_cx
      (i_enumS (l := ra) B.enumerate (d_ixT (dv 0 rfl) (dv 2 rfl) (atI_nat (by rw [List.getElem?_map, g1]; rfl)))) (gt_pair (i := 4) (j := 5) rfl nd (fun h => pg_tup rfl h) (pgs_cons (pg_name (i := 4) nd rfl (.inl rfl)) (pgs_cons (pg_name (i := 5) nd rfl (.inl rfl)) pgs_nil))) (fun x ρ ρ' h => h.bd2 4 5 x) enumD_pair
      ⟨.inr rfl, .inr rfl, .inr rfl, .inr rfl, .inr rfl, .inr rfl, True.intro⟩ (fun fr j x hx => ?_) (fun ρ' hρ => ?_))
    · have hj : j < ra.length := by
        have z := (List.getElem?_eq_some_iff.mp hx).1
        rw [enumD_len, List.length_map] at z
        exact z
      have hc : ra[j]? = some ra[j] := List.getElem?_eq_getElem hj
      have hd : rb[j]? = some (rb[j]'(by omega)) := List.getElem?_eq_getElem (by omega)
      rw [enumD_get (d := .str [ra[j]]) (by rw [List.getElem?_map, hc]; rfl)] at hx
      have hx := Option.some.inj hx
      subst hx
      have hlen : (inter ra rb).length = 2 * ra.length := inter_len ra rb (by omega)
      have htk : ((inter ra rb).take (2 * j)).length ≤ 12 := by
        rw [List.length_take]
        omega
      refine ss_one (s_set 3 nd (d_addS (d_addS (dv 3 rfl) (dv 5 rfl) (by simp; omega)) (d_ixS (l := rb) (d_ixT (dv 0 rfl) (d_add (dv 2 rfl) d_int) ?_) (dv 4 rfl) (by omega) (atI_nat hd)) (by simp; omega)) ?_)
      · have e1 : (((2 * i' : Nat) : Int) + 1) = ((2 * i' + 1 : Nat) : Int) := by omega
        rw [e1]
        exact atI_nat (by rw [List.getElem?_map, g2]; rfl)
      · refine ⟨.inr rfl, .inr rfl, .inr rfl, .inr ?_, .inl rfl, .inl rfl, True.intro⟩
        show Sl.dt (.str _) = Sl.dt (.str _)
        rw [inter_take ra rb j _ _ hc hd]
    · refine SS.weak ?_ hρ
      rw [enumD_len, List.length_map]
      have hfull : (inter ra rb).take (2 * ra.length) = inter ra rb := List.take_of_length_le (by rw [inter_len ra rb (by omega)]; exact Nat.le_refl _)
      rw [hfull]
      refine ss_one (s_append 1 ha (dv 3 rfl) rfl ?_ ?_ (pv 1) fun a b => ps_expr (pe_bm PySem.F.plainAttrs_list PySem.F.slot_list_append PySem.F.type_list_append mt_append a (pa_cons b pa_nil)))
      · rw [List.length_map, List.length_take]
        omega
      · refine ⟨.inr rfl, .inr ?_, .inl rfl, .inl rfl, .inl rfl, .inl rfl, True.intro⟩
        show Sl.ml a _ = Sl.ml a _
        rw [List.take_add_one, dblF_get g i' ra rb g1 g2, List.map_append]
        rfl
  · refine SS.weak ?_ hρ
    rw [List.length_map, List.length_range, ← dblF_len, List.take_length]
    exact SS.freeze (i := 1) rfl (ha.b0 (hM a)) ha.2 (ss_one (s_ret (d_tupleL B.tuple (dv 1 rfl)) rfl))
end
end G

set_option Elab.async false
set_option linter.all false
set_option maxRecDepth 100000
set_option maxHeartbeats 4000000
namespace G
open PySem PySem.Spec PyProof.Rows L2 TL
def optF : Option Fm → Dat
  | none => .non
  | some g => F_ g
theorem F_isN (f : Fm) : (F_ f).isN = false := rfl
theorem F_eq (f g : Fm) : Dat.eq (F_ f) (F_ g) = decide (f = g) := by
  show Dat.eqA (f.map Dat.str) (g.map Dat.str) = _
  induction f generalizing g with
  | nil =>
    cases g with
    | nil => rfl
    | cons b m => rfl
  | cons a l ih =>
    cases g with
    | nil => rfl
    | cons b m =>
      show (decide (a = b) && Dat.eqA (l.map Dat.str) (m.map Dat.str)) = _
      rw [ih m]
      by_cases h1 : a = b <;> by_cases h2 : l = m <;> simp [h1, h2]
theorem okn_c {o : Nat} (h : Nat.blt o 1114112 = true) : okn 9 (.str [o]) = true := by
  show ([o].all fun c => Nat.blt c 1114112) = true
  rw [List.all_cons, h]
  rfl
theorem wid_h (f : Fm) : (f.headD []).length = wid f := rfl
theorem rev_map_str (f : Fm) : (f.map Dat.str).reverse = f.reverse.map Dat.str := by rw [List.map_reverse]
theorem d_neg {X : Cx} {E : XK} {ρ : List Sl} {a : Expr} {i : Int} {pos : Pos} (h : D X E a ρ (.ok (.int i))) : D X E (.UnaryOp .USub a pos) ρ (.ok (.int (-i))) :=
  d_un un_neg (fun B H vx Q c r q => ⟨i, rp_int r, q _ H (Same.refl H) (.int _)⟩) h
theorem cut_1n {α : Type} (l : List α) : cutN l (some 1) none = l.drop 1 := by
  unfold cutN
  have e : HT.sIx l.length 0 (some ((1 : Nat) : Int)) = min 1 l.length := HT.sIx_nat ..
  rw [show (1 : Int) = ((1 : Nat) : Int) from rfl, e, HT.sIx_none]
  cases l with
  | nil => rfl
  | cons a r =>
    have e2 : min 1 (a :: r).length = 1 := by simp
    rw [e2]
    exact List.take_of_length_le (by rw [List.length_drop]; exact Nat.le_refl _)
theorem cut_n1 {α : Type} (l : List α) : cutN l none (some 1) = l.take 1 := by
  unfold cutN
  have e : HT.sIx l.length l.length (some ((1 : Nat) : Int)) = min 1 l.length := HT.sIx_nat ..
  rw [show (1 : Int) = ((1 : Nat) : Int) from rfl, e, HT.sIx_none, List.drop_zero, Nat.sub_zero]
  cases l with
  | nil => rfl
  | cons a r =>
    have e2 : min 1 (a :: r).length = 1 := by simp
    rw [e2]
section
variable {P : Program} {w : World} {K : PySem.W.Frag} {mg : Str → Option Value} {base : Heap} {IF IO IM : Addr}
/-! ### shape -/
def C_shape (IF : Addr) : List Dat → Res → Prop := fun as r => (∃ d, as = [d] ∧ okV d ∧ isForm d = false ∧ r = .err (.ref IF)) ∨ ∃ f : Fm, as = [F_ f] ∧ isFm f = true ∧ r = .ok (sh f)
theorem sc_shape : FnScope ["formation"] ["formation"] (defScope s_shape) := ⟨rfl, rfl, rfl, by decide +kernel, rfl, by decide +kernel, by decide +kernel⟩
theorem c_shape (G1 : FnC P w K mg base "need_formation" ["formation"] (C_needf IF) 2) (G2 : FnC P w K mg base "shape_of" ["formation"] C_shapeof 1) (h : At K mg "shape" s_shape) : FnC P w K mg base "shape" ["formation"] (C_shape IF) 3 := by
  refine h.c1 (fun _ _ _ _ _ _ us hl => match us, hl with | [_], _ => rfl) fun f fd F => fnC_ok F sc_shape (fun as r z => by rcases z with ⟨d, e, _⟩ | ⟨d, e, _⟩ <;> rw [e] <;> rfl) fun cdv A outer s H E as r W hM hr z => ?_
  rcases z with ⟨d, e, hok, hf, er⟩ | ⟨g, e, hg, er⟩
  · subst e er
    exact ss_cons (s_exprE (d_call G1 (hr.mono (by decide)) pa_cx (da_one (dv 0 rfl)) ⟨d, rfl, hok, by rw [hf]; rfl⟩) rfl)
  · subst e er
    refine ss_cons (s_expr (d := .non) (d_call G1 (hr.mono (by decide)) pa_cx (da_one (dv 0 rfl)) ⟨_, rfl, okV_F hg, by rw [isForm_F, hg]; rfl⟩) ?_)
    obtain ⟨h1, _⟩ := isFm_len hg
    obtain ⟨_, h2, _⟩ := isFm_wid hg
    exact ss_one (s_ret (d_call G2 (hr.mono (by decide)) pa_cx (da_one (dv 0 rfl)) ⟨g, rfl, h1, by rw [wid_h]; omega, rfl⟩) rfl)
/-! ### moved -/
def C_moved : List Dat → Res → Prop := fun as r => ∃ (f : Fm) (o : Nat), as = [F_ f, .str [o]] ∧ isFm f = true ∧ Nat.blt o 1114112 = true ∧ r = .ok (optF (mvF f o))
abbrev N_mvd : List Str := ["formation", "order", "ranks", "files", "number", "rank"]
theorem sc_moved : FnScope N_mvd ["formation", "order"] (defScope s_moved) := ⟨rfl, rfl, rfl, by decide +kernel, rfl, by decide +kernel, by decide +kernel⟩
theorem eq_c (o k : Nat) : Dat.eq (.str [o]) (.str [k]) = decide (o = k) := by
  show decide ([o] = [k]) = decide (o = k)
  by_cases h : o = k <;> simp [h]
theorem c_moved (B : Bi mg) (G1 : FnC P w K mg base "shape_of" ["formation"] C_shapeof 1) (G2 : FnC P w K mg base "file_of" ["formation", "number"] C_file 1) (G3 : FnC P w K mg base "doubled" ["formation"] C_dbl 1) (G4 : FnC P w K mg base "singled" ["formation"] C_sgl 1)
    (h : At K mg "moved" s_moved) : FnC P w K mg base "moved" ["formation", "order"] C_moved 2 := by
  refine h.c1 (fun _ _ _ _ _ _ us hl => match us, hl with | [_, _], _ => rfl) fun f fd F => fnC_ok F sc_moved (fun as r ⟨d, n, e, _⟩ => by rw [e]; rfl) fun cdv A outer s H E as r W hM hr ⟨g, o, e, hg, ho, er⟩ => ?_
  subst e er
  have nd := sc_moved.nd
  obtain ⟨hw1, hw6, hw⟩ := isFm_wid hg
  obtain ⟨h1, h6, _⟩ := isFm_len hg
  refine ss_cons (s_asg2 (i := 2) (j := 3) (gt_pair rfl nd (fun h => pg_tup rfl h) (pgs_cons (pg_name (i := 2) nd rfl (.inl rfl)) (pgs_cons (pg_name (i := 3) nd rfl (.inl rfl)) pgs_nil)))
    (d_call G1 (hr.mono (by decide)) pa_cx (da_one (dv 0 rfl)) ⟨g, rfl, h1, by rw [wid_h]; omega, rfl⟩) ?_ ?_)
  · -- R
    refine ss_cons (s_if (T.is (t_eq hr.units (dv 1 rfl) (d_str (l := [82]) rfl) (okn_c ho) (by decide)) (eq_c o 82)) (fun hb => ?_) (fun hb => ss_nil ?_))
    · have hb := of_decide_eq_true hb
      subst hb
      refine ss_one (s_ret (d_tupleL B.tuple ((d_lc0 (own := [("number", 4)]) (is := [4]) (pr := fun _ => True) (bd := bd1 4) (f := fun x => match x with | .int i => .str (fileOf g i.toNat) | _ => .non) rfl nd (i_revR B.reversed B.range (dv 3 rfl) ⟨by omega, by rw [wid_h]; omega⟩) (blkOk_by (N := N_mvd) (sc := defScope s_moved) (by decide +kernel)) (fun _ _ _ _ _ => gt_name nd)
        (fun x hx _ _ _ _ _ => ?_) (fun _ _ => True.intro) (by simp) (by rw [List.length_map, List.length_range, wid_h]; omega)).is (by rw [List.map_map])) ) ?_)
      · obtain ⟨k, hk, rfl⟩ := List.mem_map.mp hx
        have hk := List.mem_range.mp hk
        rw [wid_h] at hk ⊢
        have e : ((wid g : Nat) : Int) - 1 - (k : Nat) = ((wid g - 1 - k : Nat) : Int) := by omega
        rw [e]
        exact d_call G2 (hr.mono (by decide)) passN (da_cons (dv 0 rfl) (da_one (dv 4 rfl))) ⟨g, _, rfl, hg, by omega, rfl⟩
      · show some (Res.ok (.tup _)) = some (Res.ok (F_ _))
        congr 3
        rw [List.map_map, wid_h, Int.toNat_natCast]
        refine List.map_congr_left fun k hk => ?_
        have hk := List.mem_range.mp hk
        show Dat.str (fileOf g (((wid g : Nat) : Int) - 1 - (k : Nat)).toNat) = Dat.str (fileOf g (wid g - 1 - k))
        congr 2
        omega
    have n1 := of_decide_eq_false hb
    -- L
    refine ss_cons (s_if (T.is (t_eq hr.units (dv 1 rfl) (d_str (l := [76]) rfl) (okn_c ho) (by decide)) (eq_c o 76)) (fun hb => ?_) (fun hb => ss_nil ?_))
    · have hb := of_decide_eq_true hb
      subst hb
      have er : ∀ k, cut3 (fileOf g k) none none (-1) = (fileOf g k).reverse := fun k => cut3_rev _ (Nat.le_trans (List.length_filterMap_le _ _) h6)
      refine ss_one (s_ret (d_tupleL B.tuple ((d_lc0 (own := [("number", 4)]) (is := [4]) (pr := fun _ => True) (bd := bd1 4) (f := fun x => match x with | .int i => .str (fileOf g i.toNat).reverse | _ => .non) rfl nd (i_range1 B.range (dv 3 rfl) ⟨by omega, by rw [wid_h]; omega⟩) (blkOk_by (N := N_mvd) (sc := defScope s_moved) (by decide +kernel)) (fun _ _ _ _ _ => gt_name nd) (fun x hx _ _ _ _ _ => ?_) (fun _ _ => True.intro) (by simp) (by unfold rangeD; rw [List.length_map, List.length_range, wid_h]; omega)).is (by unfold rangeD; rw [List.map_map]))) ?_)
      · obtain ⟨k, hk, rfl⟩ := List.mem_map.mp hx
        have hk := List.mem_range.mp hk
        rw [wid_h] at hk ⊢
        have e : (0 : Int) + (k : Nat) = ((k : Nat) : Int) := by omega
        rw [e]
        show D _ _ _ _ (.ok (.str (fileOf g k).reverse))
        rw [← er]
        exact d_step (d_call G2 (hr.mono (by decide)) passN (da_cons (dv 0 rfl) (da_one (dv 4 rfl))) ⟨g, k, rfl, hg, by omega, rfl⟩) do_none do_none (d_neg d_int) (by decide) (by decide) (by rw [er, List.length_reverse]; exact Nat.le_trans (List.length_filterMap_le _ _) (by omega))
      · show some (Res.ok (.tup _)) = some (Res.ok (F_ _))
        congr 3
        rw [List.map_map, wid_h, Int.sub_zero, Int.toNat_natCast]
        refine List.map_congr_left fun k hk => ?_
        show Dat.str (fileOf g ((0 : Int) + (k : Nat)).toNat).reverse = Dat.str (fileOf g k).reverse
        congr 3
        omega
    have n2 := of_decide_eq_false hb
    have er : ∀ l ∈ g, cut3 l none none (-1) = l.reverse := fun l hl => cut3_rev _ (by rw [hw l hl]; exact hw6)
    -- A
    refine ss_cons (s_if (T.is (t_eq hr.units (dv 1 rfl) (d_str (l := [65]) rfl) (okn_c ho) (by decide)) (eq_c o 65)) (fun hb => ?_) (fun hb => ss_nil ?_))
    · have hb := of_decide_eq_true hb
      subst hb
      refine ss_one (s_ret (d_tupleL B.tuple ((d_lc0 (own := [("rank", 5)]) (is := [5]) (pr := fun _ => True) (bd := bd1 5) (f := fun x => match x with | .str l => .str l.reverse | _ => .non) rfl nd ((i_revT B.reversed (dv 0 rfl))) (blkOk_by (N := N_mvd) (sc := defScope s_moved) (by decide +kernel)) (fun _ _ _ _ _ => gt_name nd) (fun x hx _ _ _ _ _ => ?_) (fun _ _ => True.intro) (by simp) (by rw [List.length_reverse, List.length_map]; omega)).is (by rw [rev_map_str, List.map_map]))) ?_)
      · obtain ⟨l, hl, rfl⟩ := List.mem_map.mp (List.mem_reverse.mp hx)
        show D _ _ _ _ (.ok (.str l.reverse))
        rw [← er l hl]
        exact d_step (dv 5 rfl) do_none do_none (d_neg d_int) (by decide) (by decide) (by rw [er l hl, List.length_reverse, hw l hl]; omega)
      · show some (Res.ok (.tup _)) = some (Res.ok (F_ _))
        congr 3
        rw [List.map_map]
        rfl
    have n3 := of_decide_eq_false hb
    -- D
    refine ss_cons (s_if (T.is (t_eq hr.units (dv 1 rfl) (d_str (l := [68]) rfl) (okn_c ho) (by decide)) (eq_c o 68)) (fun hb => ?_) (fun hb => ss_nil ?_))
    · have hb := of_decide_eq_true hb
      subst hb
      refine ss_one (s_ret (d_if (x := decide (g.length % 2 = 0)) (T.is (t_eq hr.units (d_mod (by decide) (dv 2 rfl) d_int) d_int rfl rfl) ?_) (fun hd => d_call (r := .ok (optF (mvF g 68))) G3 (hr.mono (by decide)) pa_cx (da_one (dv 0 rfl)) ⟨g, rfl, hg, of_decide_eq_true hd, ?_⟩) (fun hd => d_non.is ?_)) rfl)
      · show decide (((g.length : Nat) : Int) % 2 = 0) = decide (g.length % 2 = 0)
        exact decide_eq_decide.mpr (by omega)
      · show Res.ok (optF (if g.length % 2 = 0 then some (dblF g) else none)) = _
        rw [if_pos (of_decide_eq_true hd)]
        rfl
      · show _ = (optF (if g.length % 2 = 0 then some (dblF g) else none))
        rw [if_neg (of_decide_eq_false hd)]
        rfl
    have n4 := of_decide_eq_false hb
    -- S
    refine ss_cons (s_if (T.is (t_eq hr.units (dv 1 rfl) (d_str (l := [83]) rfl) (okn_c ho) (by decide)) (eq_c o 83)) (fun hb => ?_) (fun hb => ss_nil ?_))
    · have hb := of_decide_eq_true hb
      subst hb
      refine ss_one (s_ret (d_if (x := decide (wid g % 2 = 0)) (T.is (t_eq hr.units (d_mod (by decide) (dv 3 rfl) d_int) d_int rfl rfl) ?_) (fun hd => d_call (r := .ok (optF (mvF g 83))) G4 (hr.mono (by decide)) pa_cx (da_one (dv 0 rfl)) ⟨g, rfl, hg, ?_⟩) (fun hd => d_non.is ?_)) rfl)
      · show decide (((wid g : Nat) : Int) % 2 = 0) = decide (wid g % 2 = 0)
        exact decide_eq_decide.mpr (by omega)
      · show Res.ok (optF (if wid g % 2 = 0 then some (sglF g) else none)) = _
        rw [if_pos (of_decide_eq_true hd)]
        rfl
      · show _ = (optF (if wid g % 2 = 0 then some (sglF g) else none))
        rw [if_neg (of_decide_eq_false hd)]
        rfl
    have n5 := of_decide_eq_false hb
    -- C
    refine ss_cons (s_if (T.is (t_eq hr.units (dv 1 rfl) (d_str (l := [67]) rfl) (okn_c ho) (by decide)) (eq_c o 67)) (fun hb => ?_) (fun hb => ss_nil ?_))
    · have hb := of_decide_eq_true hb
      subst hb
      refine ss_one (s_ret (d_addT (d_slT (dv 0 rfl) (do_some d_int) do_none) (d_slT (dv 0 rfl) do_none (do_some d_int)) ?_) ?_)
      · rw [cut_1n, cut_n1, List.length_drop, List.length_take, List.length_map]
        omega
      · show some (Res.ok (.tup _)) = some (Res.ok (F_ (g.drop 1 ++ g.take 1)))
        rw [cut_1n, cut_n1]
        show _ = some (Res.ok (Dat.tup ((g.drop 1 ++ g.take 1).map Dat.str)))
        rw [List.map_append, List.map_drop, List.map_take]
    have n6 := of_decide_eq_false hb
    -- X
    refine ss_cons (s_if (T.is (t_eq hr.units (dv 1 rfl) (d_str (l := [88]) rfl) (okn_c ho) (by decide)) (eq_c o 88)) (fun hb => ?_) (fun hb => ss_nil ?_))
    · have hb := of_decide_eq_true hb
      subst hb
      refine ss_one (s_ret (d_tupleL B.tuple ((d_lc0 (own := [("rank", 5)]) (is := [5]) (pr := fun _ => True) (bd := bd1 5) (f := fun x => match x with | .str l => .str (l.drop 1 ++ l.take 1) | _ => .non) rfl nd ((i_tup (dv 0 rfl))) (blkOk_by (N := N_mvd) (sc := defScope s_moved) (by decide +kernel)) (fun _ _ _ _ _ => gt_name nd) (fun x hx _ _ _ _ _ => ?_) (fun _ _ => True.intro) (by simp) (by rw [List.length_map]; omega)).is (by rw [List.map_map]))) ?_)
      · obtain ⟨l, hl, rfl⟩ := List.mem_map.mp hx
        have z := hw l hl
        refine (d_addS (d_slS (dv 5 rfl) (do_some d_int) do_none (by omega)) (d_slS (dv 5 rfl) do_none (do_some d_int) (by omega)) ?_).is ?_
        · rw [cut_1n, cut_n1, List.length_drop, List.length_take]
          omega
        · rw [cut_1n, cut_n1]
      · show some (Res.ok (.tup _)) = some (Res.ok (F_ _))
        congr 3
        rw [List.map_map]
        rfl
    have n7 := of_decide_eq_false hb
    have em : mvF g o = some (g.map List.reverse) := by
      unfold mvF
      rw [if_neg n1, if_neg n2, if_neg n3, if_neg n4, if_neg n5, if_neg n6, if_neg n7]
    rw [em]
    refine ss_one (s_ret (d_tupleL B.tuple ((d_lc0 (own := [("rank", 5)]) (is := [5]) (pr := fun _ => True) (bd := bd1 5) (f := fun x => match x with | .str l => .str l.reverse | _ => .non) rfl nd ((i_tup (dv 0 rfl))) (blkOk_by (N := N_mvd) (sc := defScope s_moved) (by decide +kernel)) (fun _ _ _ _ _ => gt_name nd) (fun x hx _ _ _ _ _ => ?_) (fun _ _ => True.intro) (by simp) (by rw [List.length_map]; omega)).is (by rw [List.map_map]))) ?_)
    · obtain ⟨l, hl, rfl⟩ := List.mem_map.mp hx
      show D _ _ _ _ (.ok (.str l.reverse))
      rw [← er l hl]
      exact d_step (dv 5 rfl) do_none do_none (d_neg d_int) (by decide) (by decide) (by rw [er l hl, List.length_reverse, hw l hl]; omega)
    · show some (Res.ok (.tup _)) = some (Res.ok (F_ _))
      congr 3
      rw [List.map_map]
      rfl
  · exact fun a b => ps_asg a b
end
end G

set_option Elab.async false
set_option linter.all false
set_option maxRecDepth 100000
namespace G
/-! every formation is a relabelling of the plain one of its shape -/
def idF (r c : Nat) : Fm := (List.range r).map fun i => (List.range c).map fun j => i * c + j
def hF (f : Fm) : Nat → Nat := fun n => f.flatten.getD n 0
def shps : List (Nat × Nat) := [(1, 2), (2, 1), (1, 3), (3, 1), (2, 2), (1, 4), (4, 1), (1, 5), (5, 1), (2, 3), (3, 2), (1, 6), (6, 1)]
theorem flat_get (c : Nat) : ∀ (f : Fm) (i j : Nat), (∀ l ∈ f, l.length = c) → i < f.length → j < c → f.flatten.getD (i * c + j) 0 = (f.getD i []).getD j 0
  | [], i, j, _, h, _ => by simp at h
  | l :: f, 0, j, hl, _, hj => by
    have e := hl l List.mem_cons_self
    rw [Nat.zero_mul, Nat.zero_add, List.flatten_cons, List.getD_eq_getElem?_getD, List.getElem?_append_left (by omega)]
    rfl
  | l :: f, i + 1, j, hl, hi, hj => by
    have e := hl l List.mem_cons_self
    have ih := flat_get c f i j (fun l hm => hl l (List.mem_cons_of_mem _ hm)) (by simpa using hi) hj
    rw [List.flatten_cons, List.getD_eq_getElem?_getD, List.getElem?_append_right (by rw [e, Nat.add_mul]; omega), e]
    have e2 : (i + 1) * c + j - c = i * c + j := by rw [Nat.add_mul]; omega
    rw [e2, ← List.getD_eq_getElem?_getD, ih]
    rfl
theorem row_eq (l : List Nat) : l = (List.range l.length).map fun j => l.getD j 0 := by
  refine List.ext_getElem? fun i => ?_
  rw [List.getElem?_map]
  by_cases h : i < l.length
  · rw [List.getElem?_range h, List.getElem?_eq_getElem h]
    show some l[i] = some (l.getD i 0)
    rw [List.getD_eq_getElem?_getD, List.getElem?_eq_getElem h]
    rfl
  · rw [List.getElem?_eq_none (by omega), List.getElem?_eq_none (by rw [List.length_range]; omega)]
    rfl
theorem fm_eq {f : Fm} {c : Nat} (hl : ∀ l ∈ f, l.length = c) : f = mapF (hF f) (idF f.length c) := by
  refine List.ext_getElem? fun i => ?_
  unfold mapF idF
  rw [List.getElem?_map, List.getElem?_map]
  by_cases h : i < f.length
  · rw [List.getElem?_range h, List.getElem?_eq_getElem h]
    show some f[i] = some (((List.range c).map fun j => i * c + j).map (hF f))
    congr 1
    rw [List.map_map]
    have e1 : f[i].length = c := hl _ (List.getElem_mem h)
    have e2 := row_eq f[i]
    rw [e1] at e2
    rw [e2]
    refine List.map_congr_left fun j hj => ?_
    have hj := List.mem_range.mp hj
    show _ = f.flatten.getD (i * c + j) 0
    rw [flat_get c f i j hl h hj]
    congr 1
    rw [List.getD_eq_getElem?_getD, List.getElem?_eq_getElem h]
    rfl
  · rw [List.getElem?_eq_none (by omega), List.getElem?_eq_none (by rw [List.length_range]; omega)]
    rfl
theorem flat_n {c : Nat} : ∀ f : Fm, (∀ l ∈ f, l.length = c) → f.flatten.length = f.length * c
  | [], _ => by simp
  | l :: f, h => by
    rw [List.flatten_cons, List.length_append, flat_n f fun l hm => h l (List.mem_cons_of_mem _ hm), h l List.mem_cons_self, List.length_cons, Nat.add_mul]
    omega
theorem shp_mem {r c : Nat} (h1 : 1 ≤ r) (h2 : 1 ≤ c) (h3 : 2 ≤ r * c) (h4 : r * c ≤ 6) : (r, c) ∈ shps := by
  have a : r ≤ 6 := Nat.le_trans (Nat.le_mul_of_pos_right r h2) h4
  have b : c ≤ 6 := Nat.le_trans (Nat.le_mul_of_pos_left c h1) h4
  have z : ∀ r : Fin 7, ∀ c : Fin 7, 1 ≤ r.1 → 1 ≤ c.1 → 2 ≤ r.1 * c.1 → r.1 * c.1 ≤ 6 → (r.1, c.1) ∈ shps := by decide
  exact z ⟨r, by omega⟩ ⟨c, by omega⟩ h1 h2 h3 h4
structure Sh (f : Fm) (r c : Nat) : Prop where
  mem : (r, c) ∈ shps
  len : f.length = r
  wid : wid f = c
  eq : f = mapF (hF f) (idF r c)
  flat : f.flatten.length = r * c
  sort : sortN f.flatten = lets.take (r * c)
theorem isFm_sh {f : Fm} (h : isFm f = true) : Sh f f.length (wid f) := by
  obtain ⟨h1, h2, h3, h4, h5, h6⟩ := isFm_len h
  obtain ⟨w1, w2, w3⟩ := isFm_wid h
  have e := flat_n f w3
  exact ⟨shp_mem h1 w1 (by omega) (by omega), rfl, rfl, fm_eq w3, e, by rw [← e]; exact h6⟩
theorem sortN_perm_eq {l m : List Nat} (h : l.Perm m) : sortN l = sortN m := sortN_uniq ((sortN_perm l).trans h) (sortN_sorted l)
theorem map_range {l : List Nat} : (List.range l.length).map (fun n => l.getD n 0) = l := (row_eq l).symm
/-- a rearrangement of 0 .. n-1 in a good shape -/
def gdF (n : Nat) (g : Fm) : Bool := decide (1 ≤ g.length) && decide (g.length ≤ 6) && (g.all fun l => decide (l.length = (g.headD []).length)) && decide (sortN g.flatten = List.range n)
theorem mapF_flat (h : Nat → Nat) (g : Fm) : (mapF h g).flatten = g.flatten.map h := by
  unfold mapF
  rw [List.map_flatten]
theorem gd_len {n : Nat} {g : Fm} (h : sortN g.flatten = List.range n) : g.flatten.length = n := by
  rw [← (sortN_perm g.flatten).length_eq, h, List.length_range]
theorem isFm_map {f g : Fm} {r c : Nat} (hf : isFm f = true) (s : Sh f r c) (hg : gdF (r * c) g = true) : isFm (mapF (hF f) g) = true := by
  unfold gdF at hg
  simp only [Bool.and_eq_true, decide_eq_true_eq, List.all_eq_true] at hg
  obtain ⟨⟨⟨g1, g2⟩, g3⟩, g4⟩ := hg
  obtain ⟨h1, h2, h3, h4, h5, h6⟩ := isFm_len hf
  have el := gd_len g4
  have ep : ((mapF (hF f) g).flatten).Perm f.flatten := by
    rw [mapF_flat]
    have p : g.flatten.Perm (List.range f.flatten.length) := by
      rw [s.flat, ← g4]
      exact (sortN_perm _).symm
    have q := p.map (hF f)
    rw [show (List.range f.flatten.length).map (hF f) = f.flatten from map_range] at q
    exact q
  unfold isFm
  simp only [Bool.and_eq_true, decide_eq_true_eq, List.all_eq_true]
  have e1 : (mapF (hF f) g).length = g.length := by unfold mapF; rw [List.length_map]
  refine ⟨⟨by rw [e1]; omega, fun l hl => ?_⟩, by rw [ep.length_eq]; omega, by rw [sortN_perm_eq ep, ep.length_eq]; exact h6⟩
  obtain ⟨m, hm, rfl⟩ := List.mem_map.mp hl
  rw [List.length_map, g3 m hm]
  cases g with
  | nil => cases hm
  | cons a b =>
    show a.length = (a.map (hF f)).length
    rw [List.length_map]
theorem mv_other {f : Fm} {o : Nat} (h : o ∉ signs) : mvF f o = mvF f 77 := by
  unfold mvF
  have hh : ∀ k ∈ signs, o ≠ k := fun k hk e => h (e ▸ hk)
  rw [if_neg (hh 82 (by decide)), if_neg (hh 76 (by decide)), if_neg (hh 65 (by decide)), if_neg (hh 68 (by decide)), if_neg (hh 83 (by decide)), if_neg (hh 67 (by decide)), if_neg (hh 88 (by decide))]
  rfl
theorem gd_mv : ∀ s ∈ shps, ∀ o ∈ signs, ((mvF (idF s.1 s.2) o).all (gdF (s.1 * s.2))) = true := by decide +kernel
theorem mv_isFm {f g : Fm} {o : Nat} (hf : isFm f = true) (h : mvF f o = some g) : isFm g = true := by
  have main : ∀ o ∈ signs, mvF f o = some g → isFm g = true := fun o ho h => by
    have s := isFm_sh hf
    have z := gd_mv _ s.mem o ho
    rw [s.eq, mvF_nat] at h
    cases e : mvF (idF f.length (wid f)) o with
    | none =>
      rw [e] at h
      cases h
    | some g0 =>
      rw [e] at h z
      have h := Option.some.inj h
      rw [← h]
      exact isFm_map hf s z
  by_cases ho : o ∈ signs
  · exact main o ho h
  · rw [mv_other ho] at h
    exact main 77 (by decide) h
theorem aft_isFm : ∀ {os : List Nat} {f g : Fm}, isFm f = true → aftF f os = some g → isFm g = true
  | [], f, g, hf, h => by
    have h := Option.some.inj h
    rw [← h]
    exact hf
  | o :: r, f, g, hf, h => by
    have h : (mvF f o).bind (fun g => aftF g r) = some g := h
    cases e : mvF f o with
    | none =>
      rw [e] at h
      cases h
    | some g0 =>
      rw [e] at h
      exact aft_isFm (mv_isFm hf e) h
theorem aft_sh {f : Fm} {r c : Nat} (s : Sh f r c) (os : List Nat) : aftF f os = (aftF (idF r c) os).map (mapF (hF f)) := by
  have e := aftF_nat (hF f) os (idF r c)
  rw [← s.eq] at e
  exact e
/-- orders that bring the plain one to g0 bring f to the relabelled g0 -/
theorem aft_some {f g0 : Fm} {r c : Nat} (s : Sh f r c) {os : List Nat} (h : aftF (idF r c) os = some g0) : aftF f os = some (mapF (hF f) g0) := by
  rw [aft_sh s, h]
  rfl
theorem aft_id {f : Fm} {r c : Nat} (s : Sh f r c) {os : List Nat} (h : aftF (idF r c) os = some (idF r c)) : aftF f os = some f := by
  rw [aft_some s h, ← s.eq]
theorem aft_same {f : Fm} {r c : Nat} (s : Sh f r c) {os os' : List Nat} (h : aftF (idF r c) os = aftF (idF r c) os') : aftF f os = aftF f os' := by
  rw [aft_sh s, aft_sh s, h]
/-! labels differ -/
theorem hF_inj {f : Fm} {r c : Nat} (s : Sh f r c) {i j : Nat} (hi : i < r * c) (hj : j < r * c) (e : hF f i = hF f j) : i = j := by
  have nd : f.flatten.Nodup := by
    rw [← (sortN_perm _).nodup_iff, s.sort]
    exact List.Nodup.sublist (List.take_sublist _ _) (by decide)
  unfold hF at e
  rw [← s.flat] at hi hj
  rw [List.getD_eq_getElem?_getD, List.getD_eq_getElem?_getD, List.getElem?_eq_getElem hi, List.getElem?_eq_getElem hj] at e
  exact (List.getElem_inj nd).mp e
theorem map_inj {f : Fm} {r c : Nat} (s : Sh f r c) : ∀ {l m : List Nat}, (∀ x ∈ l, x < r * c) → (∀ x ∈ m, x < r * c) → l.map (hF f) = m.map (hF f) → l = m
  | [], [], _, _, _ => rfl
  | [], _ :: _, _, _, h => by cases h
  | _ :: _, [], _, _, h => by cases h
  | a :: l, b :: m, hl, hm, h => by
    rw [List.map_cons, List.map_cons] at h
    injection h with h1 h2
    rw [hF_inj s (hl a List.mem_cons_self) (hm b List.mem_cons_self) h1, map_inj s (fun x hx => hl x (List.mem_cons_of_mem _ hx)) (fun x hx => hm x (List.mem_cons_of_mem _ hx)) h2]
def ltF (n : Nat) (g : Fm) : Bool := g.all fun l => l.all fun x => decide (x < n)
theorem mapF_inj {f : Fm} {r c : Nat} (s : Sh f r c) : ∀ {g g' : Fm}, ltF (r * c) g = true → ltF (r * c) g' = true → mapF (hF f) g = mapF (hF f) g' → g = g'
  | [], [], _, _, _ => rfl
  | [], _ :: _, _, _, h => by cases h
  | _ :: _, [], _, _, h => by cases h
  | a :: l, b :: m, hl, hm, h => by
    have h : a.map (hF f) :: mapF (hF f) l = b.map (hF f) :: mapF (hF f) m := h
    injection h with h1 h2
    unfold ltF at hl hm
    rw [List.all_cons, Bool.and_eq_true] at hl hm
    have k : ∀ {a : List Nat}, (a.all fun x => decide (x < r * c)) = true → ∀ x ∈ a, x < r * c := fun h x hx => of_decide_eq_true (List.all_eq_true.mp h x hx)
    rw [map_inj s (k hl.1) (k hm.1) h1, mapF_inj s hl.2 hm.2 h2]
end G

set_option Elab.async false
set_option linter.all false
set_option maxRecDepth 100000
set_option maxHeartbeats 4000000
namespace G
open PySem PySem.Spec PyProof.Rows L2 TL
theorem aftF_app : ∀ (a b : List Nat) (f : Fm), aftF f (a ++ b) = (aftF f a).bind fun g => aftF g b
  | [], b, f => rfl
  | o :: r, b, f => by
    show (mvF f o).bind (fun g => aftF g (r ++ b)) = ((mvF f o).bind fun g => aftF g r).bind fun g => aftF g b
    cases mvF f o with
    | none => rfl
    | some g => exact aftF_app r b g
theorem isOrd_str {os : List Nat} (h : isOrd (.str os) = true) : os.length ≤ 20 ∧ (∀ c ∈ os, c ∈ signs) ∧ okT os := by
  have h : (decide ((os.length : Int) ≤ 20) && os.all fun c => decide (c ∈ signs)) = true := h
  rw [Bool.and_eq_true, List.all_eq_true] at h
  have h1 := of_decide_eq_true h.1
  have h2 : ∀ c ∈ os, c ∈ signs := fun c hc => of_decide_eq_true (h.2 c hc)
  refine ⟨by omega, h2, by omega, ?_⟩
  rw [List.all_eq_true]
  exact fun c hc => (by decide : ∀ c ∈ signs, Nat.blt c 1114112 = true) c (h2 c hc)
theorem isForm_of {d : Dat} (h : isForm d = true) : ∃ f, d = F_ f ∧ isFm f = true := by
  cases d with
  | tup xs =>
    have h : (match strsOf xs with | some f => isFm f | none => false) = true := h
    cases e : strsOf xs with
    | none => rw [e] at h; cases h
    | some f =>
      rw [e] at h
      exact ⟨f, by rw [strsOf_some e], h⟩
  | non => cases h
  | bl b => cases h
  | int i => cases h
  | str l => cases h
  | lst xs => cases h
  | dic k => cases h
  | scr n => cases h
  | exc n => cases h
theorem isOrd_of {d : Dat} (h : isOrd d = true) : ∃ os, d = .str os := by cases d <;> first | exact ⟨_, rfl⟩ | cases h
theorem T.weak {X : Cx} {e : Expr} {b : Bool} {ρ ρ' : List Sl} (h : T X e ρ' b) (w : Wk ρ ρ') : T X e ρ b := pt_imp h fun σ H Q ⟨B, c, en, q⟩ => ⟨B, c, en.weak w, q⟩
def Out.ofR : Res → Out
  | .ok d => .rt d
  | .err c => .er c
theorem outR_of (r : Res) : outR (Out.ofR r) = some r := by cases r <;> rfl
theorem s_retR {X : Cx} {E : XK} {W : Wl} {ρ : List Sl} {P : Out → Prop} {e : Expr} {r : Res} {pos : Pos} (h : D X E e ρ r) (q : P (Out.ofR r)) : S1 X E W (.Return (some e) pos) ρ P := by
  cases r with
  | ok d => exact s_ret h q
  | err c => exact s_retE h q
def perfR (IM : Addr) (f : Fm) (os : List Nat) : Res := match aftF f os with
  | none => .err (.ref IM)
  | some g => .ok (F_ g)
section
variable {P : Program} {w : World} {K : PySem.W.Frag} {mg : Str → Option Value} {base : Heap} {IF IO IM : Addr}
/-! ### after -/
def C_after : List Dat → Res → Prop := fun as r => ∃ (f : Fm) (os : List Nat), as = [F_ f, .str os] ∧ isFm f = true ∧ okT os ∧ r = .ok (optF (aftF f os))
abbrev N_aft : List Str := ["formation", "orders", "order"]
theorem sc_after : FnScope N_aft ["formation", "orders"] (defScope s_after) := ⟨rfl, rfl, rfl, by decide +kernel, rfl, by decide +kernel, by decide +kernel⟩
theorem c_after (G1 : FnC P w K mg base "moved" ["formation", "order"] C_moved 2) (h : At K mg "after" s_after) : FnC P w K mg base "after" ["formation", "orders"] C_after 3 := by
  refine h.c1 (fun _ _ _ _ _ _ us hl => match us, hl with | [_, _], _ => rfl) fun f fd F => fnC_ok F sc_after (fun as r ⟨d, n, e, _⟩ => by rw [e]; rfl) fun cdv A outer s H E as r W hM hr ⟨g, os, e, hg, ho, er⟩ => ?_
  subst e er
  have nd := sc_after.nd
  refine ss_cons (s_for (fun i ρ' => ∃ g', aftF g (os.take i) = some g' ∧ isFm g' = true ∧ Wk ρ' [.dt (F_ g'), .dt (.str os), .un]) po_cx (i_str (dv 1 rfl)) (gt_name (i := 2) nd) (fun _ _ => True.intro) ⟨g, rfl, hg, .inr rfl, .inr rfl, .inr rfl, True.intro⟩ (fun fr i x ρ' hx ⟨g', e1, e2, hw⟩ => ?_) (fun ρ' ⟨g', e1, e2, hw⟩ => ?_))
  · rw [List.getElem?_map] at hx
    obtain ⟨c, hc, rfl⟩ := Option.map_eq_some_iff.mp hx
    have hcc : Nat.blt c 1114112 = true := List.all_eq_true.mp ho.2 c (List.mem_of_getElem? hc)
    have et : aftF g (os.take (i + 1)) = mvF g' c := by
      rw [List.take_add_one, hc, show (some c).toList = [c] from rfl, aftF_app, e1]
      show (mvF g' c).bind (fun g => some g) = mvF g' c
      cases mvF g' c <;> rfl
    refine SS.weak (ρ' := [.dt (F_ g'), .dt (.str os), .dt (.str [c])]) ?_ (hw.set 2 _)
    refine ss_cons (s_set 0 nd (d_call G1 (hr.mono (by decide)) pa_cx (da_cons (dv 0 rfl) (da_one (dv 2 rfl))) ⟨g', c, rfl, e2, hcc, rfl⟩) ?_)
    cases hm : mvF g' c with
    | none =>
      refine ss_one (s_if (t_isN (dv 0 rfl)) (fun hb => ss_one (s_ret d_non ?_)) (fun hb => by cases hb))
      show some (Res.ok .non) = some (.ok (optF (aftF g os)))
      have : aftF g os = none := by
        rw [← List.take_append_drop (i + 1) os, aftF_app, et, hm]
        rfl
      rw [this]
      rfl
    | some g2 =>
      refine ss_one (s_if (t_isN (dv 0 rfl)) (fun hb => by cases hb) (fun hb => ss_nil ?_))
      exact ⟨g2, by rw [et, hm], mv_isFm e2 hm, .inr rfl, .inr rfl, .inl rfl, True.intro⟩
  · refine SS.weak ?_ hw
    rw [List.length_map, List.take_length] at e1
    refine ss_one (s_ret (dv 0 rfl) ?_)
    rw [e1]
    rfl
/-! ### performed -/
def C_perf (IM : Addr) : List Dat → Res → Prop := fun as r => ∃ (f : Fm) (os : List Nat), as = [F_ f, .str os] ∧ isFm f = true ∧ okT os ∧ r = perfR IM f os
abbrev N_prf : List Str := ["formation", "orders", "made"]
theorem sc_performed : FnScope N_prf ["formation", "orders"] (defScope s_performed) := ⟨rfl, rfl, rfl, by decide +kernel, rfl, by decide +kernel, by decide +kernel⟩
theorem c_performed (G1 : FnC P w K mg base "after" ["formation", "orders"] C_after 3) (X1 : ExcF K mg "Impossible" IM) (h : At K mg "performed" s_performed) : FnC P w K mg base "performed" ["formation", "orders"] (C_perf IM) 4 := by
  refine h.c1 (fun _ _ _ _ _ _ us hl => match us, hl with | [_, _], _ => rfl) fun f fd F => fnC_ok F sc_performed (fun as r ⟨d, n, e, _⟩ => by rw [e]; rfl) fun cdv A outer s H E as r W hM hr ⟨g, os, e, hg, ho, er⟩ => ?_
  subst e er
  have nd := sc_performed.nd
  refine ss_cons (s_set 2 nd (d_call G1 (hr.mono (by decide)) pa_cx (da_cons (dv 0 rfl) (da_one (dv 1 rfl))) ⟨g, os, rfl, hg, ho, rfl⟩) ?_)
  cases hm : aftF g os with
  | none =>
    refine ss_cons (s_if (t_isN (dv 2 rfl)) (fun hb => ss_one (s_raise X1 tk_cx ?_)) (fun hb => by cases hb))
    show some (Res.err _) = some (perfR IM g os)
    unfold perfR
    rw [hm]
  | some g2 =>
    refine ss_cons (s_if (t_isN (dv 2 rfl)) (fun hb => by cases hb) (fun hb => ss_nil ?_))
    refine ss_one (s_ret (dv 2 rfl) ?_)
    show some (Res.ok _) = some (perfR IM g os)
    unfold perfR
    rw [hm]
    rfl
/-! ### done -/
inductive C_both (IF IO : Addr) (C : Fm → List Nat → Res → Prop) : List Dat → Res → Prop
  | badF (d e : Dat) : okV d → okV e → isForm d = false → C_both IF IO C [d, e] (.err (.ref IF))
  | badO (d e : Dat) : okV d → okV e → isForm d = true → isOrd e = false → C_both IF IO C [d, e] (.err (.ref IO))
  | ok (f : Fm) (os : List Nat) (r : Res) : isFm f = true → isOrd (.str os) = true → C f os r → C_both IF IO C [F_ f, .str os] r
abbrev N_dn : List Str := ["formation", "orders"]
theorem C_both.len {IF IO : Addr} {C : Fm → List Nat → Res → Prop} {as : List Dat} {r : Res} (h : C_both IF IO C as r) : as.length = 2 := by cases h <;> rfl
abbrev C_done (IF IO IM : Addr) : List Dat → Res → Prop := C_both IF IO fun f os r => r = perfR IM f os
theorem sc_done : FnScope N_dn ["formation", "orders"] (defScope s_done) := ⟨rfl, rfl, rfl, by decide +kernel, rfl, by decide +kernel, by decide +kernel⟩
theorem c_done (G1 : FnC P w K mg base "need_both" ["formation", "orders"] (C_needb IF IO) 3) (G2 : FnC P w K mg base "performed" ["formation", "orders"] (C_perf IM) 4) (h : At K mg "done" s_done) : FnC P w K mg base "done" ["formation", "orders"] (C_done IF IO IM) 5 := by
  refine h.c1 (fun _ _ _ _ _ _ us hl => match us, hl with | [_, _], _ => rfl) fun f fd F => fnC_ok F sc_done (fun as r z => z.len) fun cdv A outer s H E as r W hM hr z => ?_
  cases z with
  | badF d e hd he h1 => exact ss_cons (s_exprE (d_call G1 (hr.mono (by decide)) pa_cx (da_cons (dv 0 rfl) (da_one (dv 1 rfl))) ⟨d, e, rfl, hd, he, by rw [h1]; rfl⟩) rfl)
  | badO d e hd he h1 h2 => exact ss_cons (s_exprE (d_call G1 (hr.mono (by decide)) pa_cx (da_cons (dv 0 rfl) (da_one (dv 1 rfl))) ⟨d, e, rfl, hd, he, by rw [h1, h2]; rfl⟩) rfl)
  | ok f os r hf ho hc =>
    subst hc
    refine ss_cons (s_expr (d := .non) (d_call G1 (hr.mono (by decide)) pa_cx (da_cons (dv 0 rfl) (da_one (dv 1 rfl))) ⟨_, _, rfl, okV_F hf, (isOrd_str ho).2.2, by rw [isForm_F, hf, ho]; rfl⟩) ?_)
    exact ss_one (s_retR (d_call G2 (hr.mono (by decide)) pa_cx (da_cons (dv 0 rfl) (da_one (dv 1 rfl))) ⟨f, os, rfl, hf, (isOrd_str ho).2.2, rfl⟩) (outR_of _))
end
end G

set_option Elab.async false
set_option linter.all false
set_option maxRecDepth 100000
set_option maxHeartbeats 4000000
namespace G
open PySem PySem.Spec PyProof.Rows L2 TL
section
variable {X : Cx} {E : XK} {W : Wl} {ρ : List Sl} {P : Out → Prop}
/-! ### the dice opened: a list of two known ints -/
theorem upd_self {H : Hp} {a : Addr} {o : HO} (h : H a = some o) : upd H a o = H := by
  funext b
  by_cases e : b = a
  · rw [e, upd_same, h]
  · rw [upd_ne e]
theorem rpA_ints2 {K : PySem.W.Frag} {H : Hp} (c n : Int) : RpA K H [.int c, .int n] [.int c, .int n] := .cons (.int c) (.cons (.int n) .nil)
theorem SS.openDie {s : List Stmt} {i : Nat} {a : Addr} (hi : ρ[i]? = some (.di a)) (k : ∀ c n : Int, SS X E W s (ρ.set i (.ml a [.int c, .int n])) P) : SS X E W s ρ P := by
  refine pss_imp (pss_ex (ι := Int × Int) fun q => k q.1 q.2) fun D σ H ⟨B, w, en, p⟩ => ?_
  obtain ⟨h1, hb, c, n, h0⟩ := en.di hi
  have e := en.write (o := .lst [.int c, .int n]) (s' := .ml a [.int c, .int n]) hi rfl h1 hb ⟨rfl, hb, _, upd_same, rpA_ints2 c n⟩ rfl
  rw [upd_self h0] at e
  exact ⟨(c, n), B, w, e, p⟩
theorem d_ixM {i : Nat} {a : Addr} {ds : List Dat} {x : Str} {b : Expr} {k : Int} {d : Dat} {px pos : Pos} (hi : ρ[i]? = some (.ml a ds)) (hx : PE X (.Name x px) (tVar i)) (hb : D X E b ρ (.ok (.int k))) (h : atI ds k = some d) (hs : PlainIx b := by exact fun _ _ => rfl) : D X E (.Subscript (.Name x px) b pos) ρ (.ok d) :=
  D.of (pe_ix ix_list hx hb hs) fun B σ H Q c en q => by
    obtain ⟨h1, hb, vs, h2, h3⟩ := en.ml hi
    refine ⟨_, h1, B, c, en, fun vy H1 s1 ry => ?_⟩
    obtain ⟨v, e1, e2⟩ := atI_rp (h3.mono (mask_same s1)) h
    exact ⟨a, vs, k, v, rfl, rp_int ry, SqL.of (s1 _ _ h2), e1, q v H1 s1 e2⟩
theorem rpA_int2 {K : PySem.W.Frag} {H : Hp} {vs : List V} {c n : Int} (h : RpA K H vs [.int c, .int n]) : vs = [.int c, .int n] := by
  obtain ⟨v, w, rfl, r1, r2⟩ := rpA_two h
  rw [rp_int r1, rp_int r2]
theorem s_setDie {i : Nat} {a : Addr} {c n z c' n' : Int} {x : Str} {b e : Expr} {k : Int} {j : Nat} {px ps pos : Pos} (hd : Dw W a) (hi : ρ[i]? = some (.ml a [.int c, .int n])) (hx : PE X (.Name x px) (tVar i)) (hb : D X E0 b ρ (.ok (.int k))) (he : D X E e ρ (.ok (.int z))) (hk : ixN 2 k = some j) (hj : ([V.int c, .int n]).set j (.int z) = [V.int c', .int n'])
    (q : P (.nx (ρ.set i (.ml a [.int c', .int n']))))
    (h2 : PE X e (tD X.K E ρ (.ok (.int z))) → PE X (.Name x px) (tVar i) → PE X b (tD X.K E0 ρ (.ok (.int k))) → PS X (.Assign [.Subscript (.Name x px) b ps] e pos) (tAsg (tD X.K E ρ (.ok (.int z))) (gSub (tVar i) (tD X.K E0 ρ (.ok (.int k))) rSetL))) : S1 X E W (.Assign [.Subscript (.Name x px) b ps] e pos) ρ P := by
  refine ps_imp (h2 he hx hb) fun D σ H ⟨B, w, en, p⟩ => ⟨B, w.cov, en, fun v H1 s1 rv => ?_⟩
  obtain ⟨h1, hb, vs, h3, h4⟩ := (en.same s1).ml hi
  have ev := rpA_int2 h4
  subst ev
  rw [rp_int rv]
  refine ⟨_, h1, B, w.cov.same s1, en.same s1, fun vy H2 s2 ry => ?_⟩
  have h3' := s2 _ _ h3
  refine ⟨a, _, k, j, rfl, rp_int ry, h3', hk, ?_⟩
  rw [hj]
  have s12 := s1.trans s2
  exact p.nx _ σ _ B q ((w.same s12).writeD hd hb h3' rfl) ((en.same s12).write hi rfl h1 hb ⟨rfl, hb, _, upd_same, rpA_ints2 c' n'⟩ rfl)
theorem d_pow {a b : Expr} {i j : Int} {pos : Pos} (h : CPow i j) (ha : D X E a ρ (.ok (.int i))) (hb : D X E b ρ (.ok (.int j))) : D X E (.BinOp a .Pow b pos) ρ (.ok (.int (i ^ j.toNat))) := d_op op_pow (op2_I h fun _ => .int _) ha hb
theorem d_mulW {a b : Expr} {i j : Int} {pos : Pos} (h : CMulW i j) (ha : D X E a ρ (.ok (.int i))) (hb : D X E b ρ (.ok (.int j))) : D X E (.BinOp a .Mult b pos) ρ (.ok (.int (i * j))) := d_op op_mulW (op2_I h fun _ => .int _) ha hb
theorem d_fdivW {a b : Expr} {i j : Int} {pos : Pos} (h : CDivW i j) (ha : D X E a ρ (.ok (.int i))) (hb : D X E b ρ (.ok (.int j))) : D X E (.BinOp a .FloorDiv b pos) ρ (.ok (.int (i / j))) := d_op op_fdivW (op2_I h fun _ => .int _) ha hb
theorem d_max2 {a b : Expr} {i j : Int} {p pos : Pos} (hm : X.mg "max" = none) (ha : D X E a ρ (.ok (.int i))) (hb : D X E b ρ (.ok (.int j))) (hc : X.calm = true := by rfl) (hg : Gl X "max" := by rfl) (h1 : starEach [b] X.env = (false, eval b X.env) :: starEach [] X.env := by rfl)
    (he : starEach [a, b] X.env = (false, eval a X.env) :: starEach [b] X.env := by rfl) (hpl : (backTo pos (starEach [b] X.env)).any (·.1) = false := by rfl) : D X E (.Call (.Name "max" p) [a, b] [] pos) ρ (.ok (.int (if j > i then j else i))) :=
  d_callB (call_max2 hc) (fun B H vs Q c r q => by
    obtain ⟨v, w, rfl, r1, r2⟩ := rpA_two r
    exact ⟨i, j, by rw [rp_int r1, rp_int r2], q _ H (Same.refl H) (.int _)⟩) hm (da_cons ha (da_one hb h1) he) (hg := hg) (he := he) (hpl := hpl)
theorem d_min2 {a b : Expr} {i j : Int} {p pos : Pos} (hm : X.mg "min" = none) (ha : D X E a ρ (.ok (.int i))) (hb : D X E b ρ (.ok (.int j))) (hc : X.calm = true := by rfl) (hg : Gl X "min" := by rfl) (h1 : starEach [b] X.env = (false, eval b X.env) :: starEach [] X.env := by rfl)
    (he : starEach [a, b] X.env = (false, eval a X.env) :: starEach [b] X.env := by rfl) (hpl : (backTo pos (starEach [b] X.env)).any (·.1) = false := by rfl) : D X E (.Call (.Name "min" p) [a, b] [] pos) ρ (.ok (.int (if j < i then j else i))) :=
  d_callB (call_min2 hc) (fun B H vs Q c r q => by
    obtain ⟨v, w, rfl, r1, r2⟩ := rpA_two r
    exact ⟨i, j, by rw [rp_int r1, rp_int r2], q _ H (Same.refl H) (.int _)⟩) hm (da_cons ha (da_one hb h1) he) (hg := hg) (he := he) (hpl := hpl)
/-! ### script == [] -/
def pyI (ns : List Int) : List PyData := ns.map PyData.int
theorem dpA_ints {K : PySem.W.Frag} {H : Hp} : ∀ ns : List Int, DpAll K H (ns.map V.int) (pyI ns)
  | [] => .nil
  | n :: ns => .cons (.int n) (dpA_ints ns)
theorem pyI_can : ∀ ns : List Int, PyData.canLayAll0 (pyI ns) = true ∧ PyData.depthAll (pyI ns) = 0
  | [] => ⟨rfl, rfl⟩
  | n :: ns => by
    obtain ⟨a, b⟩ := pyI_can ns
    refine ⟨?_, ?_⟩
    · show (PyData.canLay0 (.int n) && PyData.canLayAll0 (pyI ns)) = true
      rw [a]
      rfl
    · show max 0 (PyData.depthAll (pyI ns)) = 0
      rw [b]
      rfl
theorem t_scrNil {a : Expr} {ns : List Int} {p pos : Pos} (hu : X.A.units + 64 < cLine) (ha : D X E0 a ρ (.ok (.scr ns))) : T X (.Compare a [.Eq] [.List [] p] pos) ρ (decide (ns = [])) :=
  t_cmp (y := .lst []) (op_eqD hu) (fun B H vx vy Q c rx ry q => by
    cases rx with
    | scr h =>
      refine ⟨.list (pyI ns), .list [], .lst ((mask_sub B H).seq h) (dpA_ints ns), (ry.mono (mask_sub B H)).dp (n := 9) (d := .lst []) rfl, ?_, by decide, ?_⟩
      · obtain ⟨a, b⟩ := pyI_can ns
        show (PyData.canLayAll0 (pyI ns) && decide (PyData.depthAll (pyI ns) + 1 ≤ 64)) = true
        rw [a, b]
        rfl
      · have e : PyData.eqv (.list (pyI ns)) (.list []) = decide (ns = []) := by cases ns <;> rfl
        rw [e]
        exact q _ H (Same.refl H) (.bl _)) ha (d_lst da_nil (by simp))
end
section
variable {P : Program} {w : World} {K : PySem.W.Frag} {mg : Str → Option Value} {base : Heap}
/-! ### _law_cell -/
def cellF (ns : List Int) (k : Int) : Int := if ns = [] then k * 7919 else ns.getD (k % (ns.length : Int)).toNat 0 + k / (ns.length : Int) * 104729
def C_cell : List Dat → Res → Prop := fun as r => ∃ (ns : List Int) (k : Int), as = [.scr ns, .int k] ∧ ns.length ≤ 1000 ∧ 0 ≤ k ∧ k < 1000 ∧ r = .ok (.int (cellF ns k))
abbrev N_cell : List Str := ["script", "k"]
theorem sc_cell : FnScope N_cell ["script", "k"] (defScope s__law_cell) := ⟨rfl, rfl, rfl, by decide +kernel, rfl, by decide +kernel, by decide +kernel⟩
theorem c_cell (B : Bi mg) (h : At K mg "_law_cell" s__law_cell) : FnC P w K mg base "_law_cell" ["script", "k"] C_cell 1 := by
  refine h.c1 (fun _ _ _ _ _ _ us hl => match us, hl with | [_, _], _ => rfl) fun f fd F => fnC_ok F sc_cell (fun as r ⟨d, n, e, _⟩ => by rw [e]; rfl) fun cdv A outer s H E as r W hM hr ⟨ns, k, e, hl, h0, h1, er⟩ => ?_
  subst e er
  refine ss_cons (s_if (t_scrNil hr.units (dv 0 rfl)) (fun hb => ss_one (s_ret (d_mul (.inr ⟨by decide, by decide⟩) (dv 1 rfl) d_int) ?_)) (fun hb => ss_nil ?_))
  · show some (Res.ok (.int _)) = _
    unfold cellF
    rw [if_pos (of_decide_eq_true hb)]
  · have hne := of_decide_eq_false hb
    have hpos : 0 < ns.length := List.length_pos_iff.mpr hne
    have hlt : (k % (ns.length : Int)).toNat < ns.length := by
      have := Int.emod_lt_of_pos k (show (0 : Int) < ns.length by omega)
      have := Int.emod_nonneg k (show (ns.length : Int) ≠ 0 by omega)
      omega
    refine ss_one (s_ret (d_add (d_ixR (dv 0 rfl) (d_mod (by omega) (dv 1 rfl) (d_lenR B.len (dv 0 rfl))) (z := ns.getD (k % (ns.length : Int)).toNat 0) ?_) (d_mul (.inr ⟨by decide, by decide⟩) (d_fdiv ⟨by omega, by omega⟩ (dv 1 rfl) (d_lenR B.len (dv 0 rfl))) d_int)) ?_)
    · have e : (k % (ns.length : Int)) = (((k % (ns.length : Int)).toNat : Nat) : Int) := by
        have := Int.emod_nonneg k (show (ns.length : Int) ≠ 0 by omega)
        omega
      rw [e]
      refine atI_nat ?_
      rw [Int.toNat_natCast, List.getD_eq_getElem?_getD, List.getElem?_eq_getElem hlt]
      rfl
    · show some (Res.ok (.int _)) = _
      unfold cellF
      rw [if_neg hne]
/-! ### _law_drawn -/
def m1 (c k : Int) : Int := (c * 6364136223846793005 + (k + 1) * 1442695040888963407) % 340282366920938463463374607431768211507
def m2 (x : Int) : Int := x * x % 340282366920938463463374607431768211297
def m3 (x : Int) : Int := (x % 18446744073709551557 + 1) * (x / 18446744073709551557 + 1) * x
def drawF (c k : Int) : Int := m3 (m2 (m1 c k)) % 340282366920938463463374607431768211507
def C_drawn : List Dat → Res → Prop := fun as r => ∃ c k : Int, as = [.int c, .int k] ∧ r = .ok (.int (drawF c k))
abbrev N_drw : List Str := ["cell", "k", "more"]
theorem sc_drawn : FnScope N_drw ["cell", "k"] (defScope s__law_drawn) := ⟨rfl, rfl, rfl, by decide +kernel, rfl, by decide +kernel, by decide +kernel⟩
theorem emod_abs {x m : Int} {a : Nat} (hm : 0 < m) (ha : m ≤ 2 ^ a) : (x % m).natAbs < 2 ^ a := by
  have h1 := Int.emod_lt_of_pos x hm
  have h2 := Int.emod_nonneg x (show m ≠ 0 by omega)
  have h3 : ((2 ^ a : Nat) : Int) = 2 ^ a := by push_cast; rfl
  omega
theorem c_drawn (h : At K mg "_law_drawn" s__law_drawn) : FnC P w K mg base "_law_drawn" ["cell", "k"] C_drawn 1 := by
  refine h.c1 (fun _ _ _ _ _ _ us hl => match us, hl with | [_, _], _ => rfl) fun f fd F => fnC_ok F sc_drawn (fun as r ⟨d, n, e, _⟩ => by rw [e]; rfl) fun cdv A outer s H E as r W hM hr ⟨c, k, e, er⟩ => ?_
  subst e er
  have nd := sc_drawn.nd
  refine ss_cons (s_set 2 nd (d_mod (by decide) (d_add (d_mul (.inr ⟨by decide, by decide⟩) (dv 0 rfl) d_int) (d_mul (.inr ⟨by decide, by decide⟩) (d_add (dv 1 rfl) d_int) d_int)) d_int) ?_)
  have a1 : (m1 c k).natAbs < 2 ^ 129 := emod_abs (by decide) (by decide)
  refine ss_cons (s_set 2 nd (d_mod (by decide) (d_mulW (i := m1 c k) (j := m1 c k) (wide_mul (a := 129) (b := 129) a1 a1 (by decide) (by decide) (by decide)) (dv 2 rfl) (dv 2 rfl)) d_int) ?_)
  have a2 : (m2 (m1 c k)).natAbs < 2 ^ 128 := emod_abs (by decide) (by decide)
  have p2 : 0 ≤ m2 (m1 c k) := Int.emod_nonneg _ (by decide)
  generalize hx : m2 (m1 c k) = x at a2 p2
  have e0 : (m1 c k) * (m1 c k) % 340282366920938463463374607431768211297 = x := hx
  have b1 : (x % 18446744073709551557 + 1).natAbs < 2 ^ 65 := by
    have h1 := Int.emod_lt_of_pos x (show (0 : Int) < 18446744073709551557 by decide)
    have h2 := Int.emod_nonneg x (show (18446744073709551557 : Int) ≠ 0 by decide)
    have h3 : (2 ^ 65 : Nat) = 36893488147419103232 := by decide
    omega
  have b2 : (x / 18446744073709551557 + 1).natAbs < 2 ^ 129 := by
    have h1 : x / 18446744073709551557 ≤ x := Int.ediv_le_self _ p2
    have h2 : 0 ≤ x / 18446744073709551557 := Int.ediv_nonneg p2 (by decide)
    have h3 : (2 ^ 129 : Nat) = 680564733841876926926749214863536422912 := by decide
    have h4 : (2 ^ 128 : Nat) = 340282366920938463463374607431768211456 := by decide
    omega
  refine ss_cons (s_set 2 nd (d := .int (m3 x)) (d_mulW (wide_mul (a := 194) (b := 128) (wide_lt b1 b2) a2 (by decide) (by decide) (by decide)) (d_mulW (wide_mul b1 b2 (by decide) (by decide) (by decide)) (d_add (d_mod (by decide) ((dv 2 rfl).is (congrArg Dat.int e0)) d_int) d_int) (d_add (d_fdivW ⟨by decide, by decide⟩ ((dv 2 rfl).is (congrArg Dat.int e0)) d_int) d_int)) ((dv 2 rfl).is (congrArg Dat.int e0))) ?_)
  refine ss_one (s_ret (d_mod (by decide) (dv 2 rfl) d_int) ?_)
  show some (Res.ok (.int _)) = _
  unfold drawF
  rw [hx]
/-! ### _law_roll -/
def C_roll : List Dat → (Dat → Prop) → Prop := fun as S => ∃ m : Int, as = [.int m] ∧ 0 < m ∧ m ≤ 1000 ∧ S = fun d => ∃ k : Nat, d = .int k ∧ (k : Int) < m
abbrev N_rol : List Str := ["dice", "many", "told"]
theorem sc_roll : FnScope N_rol ["dice", "many"] (defScope s__law_roll) := ⟨rfl, rfl, rfl, by decide +kernel, rfl, by decide +kernel, by decide +kernel⟩
theorem mod_some {x m : Int} (h : 0 < m) : ∃ k : Nat, Dat.int (x % m) = .int k ∧ (k : Int) < m := by
  have h1 := Int.emod_lt_of_pos x h
  have h2 := Int.emod_nonneg x (show m ≠ 0 by omega)
  exact ⟨(x % m).toNat, by congr 1; omega, by omega⟩
theorem At.d1 {P : Program} {w : World} {K : PySem.W.Frag} {mg : Str → Option Value} {base : Heap} {x : Str} {st : Stmt} {ps : List Str} {C : List Dat → (Dat → Prop) → Prop} {k : Nat} (h : At K mg x st)
    (hb : ∀ (kV doc pm : Value) (an : Option Addr) (cdv ct : Value) (us : List Value), us.length = ps.length → bindArgs (PySem.W.fnOf x x (defArgs st) (defBody st) (defScope st) .none kV doc pm an cdv ct) ⟨us, []⟩ = pure (ps.zip us))
    (ok : ∀ f fd, Fun K x x st f fd → FnOk P w K mg base (L2N.CX P w) k f fd ps (spD K C)) : FnD P w K mg base x ps C k := by
  obtain ⟨f, fd, F, g⟩ := h
  exact ⟨f, fd, ok f fd F, g, F.kp, F.binds hb⟩
theorem c_roll (G1 : FnC P w K mg base "_law_drawn" ["cell", "k"] C_drawn 1) (h : At K mg "_law_roll" s__law_roll) : FnD P w K mg base "_law_roll" ["dice", "many"] C_roll 2 := by
  refine h.d1 (fun _ _ _ _ _ _ us hl => match us, hl with | [_, _], _ => rfl) fun f fd F => fnD_ok F sc_roll (fun as r ⟨m, e, _⟩ => by rw [e]; rfl) (by decide) fun cdv A outer s H E as S W a hM hd hdc hr ⟨m, e, h0, h1, er⟩ => ?_
  subst e er
  have nd := sc_roll.nd
  refine SS.openDie (i := 0) rfl fun c n => ?_
  refine ss_cons (s_if (t_cmp op_ge o_ge (d_ixM (i := 0) rfl (pv 0) d_int (atI_nat (j := 0) rfl)) (d_pow ⟨by decide, by decide, by decide⟩ d_int d_int)) (fun hb => ?_) (fun hb => ss_nil ?_))
  · refine ss_cons (s_set 2 nd (d_mod h0 (d_ixM (i := 0) rfl (pv 0) d_int (atI_nat (j := 0) rfl)) (dv 1 rfl)) ?_)
    refine ss_cons (s_setDie (i := 0) (j := 0) (c' := c / m) (n' := n) hd rfl (pv 0) d_int (d_fdiv ⟨h0, by omega⟩ (d_ixM (i := 0) rfl (pv 0) d_int (atI_nat (j := 0) rfl)) (dv 1 rfl)) rfl rfl ?_ fun a b c => ps_asg a (pg_sub b c set_list))
    exact ss_one (s_ret (dv 2 rfl) ⟨_, rfl, mod_some h0⟩)
  · refine ss_cons (s_setDie (i := 0) (j := 1) (c' := c) (n' := n + 1) hd rfl (pv 0) d_int (d_add (d_ixM (i := 0) rfl (pv 0) d_int (atI_nat (j := 1) rfl)) d_int) rfl rfl ?_ fun a b c => ps_asg a (pg_sub b c set_list))
    exact ss_one (s_ret (d_mod h0 (d_fdiv ⟨by decide, by decide⟩ (d_call G1 (hr.mono (by decide)) pa_cx (da_cons (d_ixM (i := 0) rfl (pv 0) d_int (atI_nat (j := 0) rfl)) (da_one (d_ixM (i := 0) rfl (pv 0) d_int (atI_nat (j := 1) rfl)))) ⟨c, n + 1, rfl, rfl⟩) d_int) (dv 1 rfl)) ⟨_, rfl, mod_some h0⟩)
/-! ### _law_rounds -/
def C_rounds : List Dat → Res → Prop := fun as r => ∃ (ns : List Int) (m : Int), as = [.scr ns, .int m] ∧ ns.length ≤ 1000 ∧ 1 ≤ m ∧ m ≤ 100 ∧ ∃ cs : List Int, cs = ((List.range (max 1 (min m (ns.length : Int))).toNat).map fun k : Nat => cellF ns k) ∧ r = .ok (.lst (cs.map fun c => .lst [.int c, .int 0]))
abbrev N_rnd : List Str := ["script", "most", "k"]
theorem sc_rounds : FnScope N_rnd ["script", "most"] (defScope s__law_rounds) := ⟨rfl, rfl, rfl, by decide +kernel, rfl, by decide +kernel, by decide +kernel⟩
theorem c_rounds (B : Bi mg) (G1 : FnC P w K mg base "_law_cell" ["script", "k"] C_cell 1) (h : At K mg "_law_rounds" s__law_rounds) : FnC P w K mg base "_law_rounds" ["script", "most"] C_rounds 2 := by
  refine h.c1 (fun _ _ _ _ _ _ us hl => match us, hl with | [_, _], _ => rfl) fun f fd F => fnC_ok F sc_rounds (fun as r ⟨d, n, e, _⟩ => by rw [e]; rfl) fun cdv A outer s H E as r W hM hr ⟨ns, m, e, hl, h0, h1, cs, ec, er⟩ => ?_
  subst e er ec
  have nd := sc_rounds.nd
  have e1 : (if (ns.length : Int) < m then (ns.length : Int) else m) = min m (ns.length : Int) := by split <;> omega
  have e2 : (if (if (ns.length : Int) < m then (ns.length : Int) else m) > 1 then (if (ns.length : Int) < m then (ns.length : Int) else m) else 1) = max 1 (min m (ns.length : Int)) := by
    rw [e1]
    split <;> omega
  refine ss_one (s_ret (d_lc0 (own := [("k", 2)]) (is := [2]) (pr := fun _ => True) (bd := bd1 2) (f := fun x => match x with | .int k => .lst [.int (cellF ns k), .int 0] | _ => .non) rfl nd (i_range1 (n := max 1 (min m (ns.length : Int))) B.range ((d_max2 B.max d_int (d_min2 B.min (dv 1 rfl) (d_lenR B.len (dv 0 rfl)))).is (congrArg Dat.int e2)) ⟨by omega, by omega⟩) (blkOk_by (N := N_rnd) (sc := defScope s__law_rounds) (by decide +kernel)) (fun _ _ _ _ _ => gt_name nd)
    (fun x hx _ _ _ _ _ => ?_) (fun _ _ => True.intro) (by simp) (by unfold rangeD; rw [List.length_map, List.length_range]; omega)) ?_)
  · unfold rangeD at hx
    obtain ⟨k, hk, rfl⟩ := List.mem_map.mp hx
    have hk := List.mem_range.mp hk
    exact d_lst (da_cons (d_call G1 (hr.mono (by decide)) passN (da_cons (dv 0 rfl) (da_one (dv 2 rfl))) ⟨ns, _, rfl, hl, by omega, by omega, rfl⟩) (da_one d_int)) (by simp)
  · show some (Res.ok (.lst _)) = some (Res.ok (.lst _))
    congr 3
    unfold rangeD
    rw [List.map_map, List.map_map, Int.sub_zero]
    refine List.map_congr_left fun k _ => ?_
    show Dat.lst [.int (cellF ns (0 + (k : Nat))), .int 0] = Dat.lst [.int (cellF ns (k : Nat)), .int 0]
    rw [Int.zero_add]
end
end G

set_option Elab.async false
set_option linter.all false
set_option maxRecDepth 100000
set_option maxHeartbeats 4000000
namespace G
open PySem PySem.Spec PyProof.Rows L2 TL
def prD (s : Nat × Nat) : Dat := .tup [.int s.1, .int s.2]
def shD : List Dat := shps.map prD
def leD (size : Int) : Dat → Bool
  | .tup [.int a, .int b] => decide (a * b ≤ size)
  | _ => false
theorem shD_pos {size : Int} (h : 2 ≤ size) : (shD.filter (leD size)).map id ≠ [] := by
  intro e
  rw [List.map_id] at e
  have : prD (1, 2) ∈ shD.filter (leD size) := List.mem_filter.mpr ⟨List.mem_map.mpr ⟨(1, 2), by decide, rfl⟩, by show decide ((1 : Int) * 2 ≤ size) = true; exact decide_eq_true (by omega)⟩
  rw [e] at this
  cases this
theorem shD_mem {size : Int} {x : Dat} (h : x ∈ (shD.filter (leD size)).map id) : ∃ s ∈ shps, x = prD s ∧ ((s.1 * s.2 : Nat) : Int) ≤ size := by
  rw [List.map_id] at h
  obtain ⟨h1, h2⟩ := List.mem_filter.mp h
  obtain ⟨s, hs, rfl⟩ := List.mem_map.mp h1
  refine ⟨s, hs, rfl, ?_⟩
  have h2 : decide (((s.1 : Nat) : Int) * (s.2 : Nat) ≤ size) = true := h2
  have h2 := of_decide_eq_true h2
  rw [Int.natCast_mul]
  exact h2
theorem shD_len {size : Int} : ((shD.filter (leD size)).map id).length ≤ 13 := by
  rw [List.length_map]
  exact Nat.le_trans (List.length_filter_le _ _) (by decide)
theorem shps_le : ∀ s ∈ shps, 1 ≤ s.1 ∧ 1 ≤ s.2 ∧ s.1 ≤ 6 ∧ s.2 ≤ 6 ∧ 2 ≤ s.1 * s.2 ∧ s.1 * s.2 ≤ 6 := by decide
theorem isFm_mk {f : Fm} (h1 : 1 ≤ f.length) (h2 : f.length ≤ 6) (h3 : ∀ l ∈ f, l.length = (f.headD []).length) (h4 : 2 ≤ f.flatten.length) (h5 : f.flatten.length ≤ 6) (h6 : sortN f.flatten = lets.take f.flatten.length) : isFm f = true := by
  unfold isFm
  simp only [Bool.and_eq_true, decide_eq_true_eq, List.all_eq_true]
  exact ⟨⟨⟨by omega, by omega⟩, h3⟩, ⟨by omega, by omega⟩, h6⟩
def chunk (p : List Nat) (c r : Nat) : Fm := (List.range r).map fun i => (p.drop (i * c)).take c
theorem chunk_flat (p : List Nat) (c : Nat) : ∀ r, (chunk p c r).flatten = p.take (r * c)
  | 0 => by rw [Nat.zero_mul]; rfl
  | r + 1 => by
    have ih := chunk_flat p c r
    unfold chunk at ih ⊢
    rw [List.range_succ, List.map_append, List.flatten_append, ih, Nat.add_mul, Nat.one_mul, List.take_add]
    simp
theorem lets_sorted (n : Nat) : (lets.take n).Pairwise (· ≤ ·) := List.Pairwise.sublist (List.take_sublist _ _) (by decide)
theorem chunk_isFm {p : List Nat} {r c : Nat} (hs : (r, c) ∈ shps) (hp : p.Perm (lets.take (r * c))) : isFm (chunk p c r) = true ∧ (chunk p c r).length = r ∧ wid (chunk p c r) = c := by
  obtain ⟨a1, a2, a3, a4, a5, a6⟩ := shps_le _ hs
  have hl : p.length = r * c := by
    rw [hp.length_eq, List.length_take]
    exact Nat.min_eq_left a6
  have el : (chunk p c r).length = r := by unfold chunk; rw [List.length_map, List.length_range]
  have rows : ∀ l ∈ chunk p c r, l.length = c := fun l hm => by
    obtain ⟨i, hi, rfl⟩ := List.mem_map.mp hm
    have hi := List.mem_range.mp hi
    rw [List.length_take, List.length_drop, hl]
    have : (i + 1) * c ≤ r * c := Nat.mul_le_mul_right c hi
    rw [Nat.add_mul] at this
    omega
  have hw : wid (chunk p c r) = c := by
    cases e : chunk p c r with
    | nil =>
      rw [e] at el
      simp at el
      omega
    | cons a b => exact rows a (by rw [e]; exact List.mem_cons_self)
  have ef : (chunk p c r).flatten = p := by
    rw [chunk_flat, ← hl, List.take_length]
  refine ⟨isFm_mk (by omega) (by omega) (fun l hm => (rows l hm).trans hw.symm) (by rw [ef, hl]; exact a5) (by rw [ef, hl]; exact a6) ?_, el, hw⟩
  rw [ef, hl]
  exact (sortN_uniq hp.symm (lets_sorted _)).symm
theorem cut_ab {l : List Nat} {a b : Nat} (h : a ≤ l.length) (hb : b ≤ l.length) : cutN l (some (a : Int)) (some (b : Int)) = (l.drop a).take (b - a) := by
  unfold cutN
  rw [HT.sIx_nat, HT.sIx_nat, Nat.min_eq_left h, Nat.min_eq_left hb]
theorem cut_0b {l : List Nat} {b : Nat} (hb : b ≤ l.length) : cutN l none (some (b : Int)) = l.take b := by
  unfold cutN
  rw [HT.sIx_none, HT.sIx_nat, Nat.min_eq_left hb, List.drop_zero, Nat.sub_zero]
theorem cut_an {l : List Nat} {a : Nat} (h : a ≤ l.length) : cutN l (some (a : Int)) none = l.drop a := by
  unfold cutN
  rw [HT.sIx_none, HT.sIx_nat, Nat.min_eq_left h]
  exact List.take_of_length_le (by rw [List.length_drop]; exact Nat.le_refl _)
theorem perm_step {p l : List Nat} {k : Nat} (h : k < l.length) : ((p ++ [l[k]]) ++ (l.take k ++ l.drop (k + 1))).Perm (p ++ l) := by
  have e : l = l.take k ++ l[k] :: l.drop (k + 1) := by
    rw [← List.drop_eq_getElem_cons h, List.take_append_drop]
  rw [List.append_assoc]
  refine List.Perm.append_left p ?_
  conv => rhs; rw [e]
  exact (List.perm_middle (a := l[k]) (l₁ := l.take k) (l₂ := l.drop (k + 1))).symm
theorem str_ne_nil (l : List Nat) : (!Dat.eq (.str l) (.str [])) = decide (l ≠ []) := by
  show (!decide (l = [])) = _
  by_cases h : l = [] <;> simp [h]
section
variable {P : Program} {w : World} {K : PySem.W.Frag} {mg : Str → Option Value} {base : Heap}
def C_anyf : List Dat → (Dat → Prop) → Prop := fun as S => ∃ m : Int, as = [.int m] ∧ 2 ≤ m ∧ m ≤ 6 ∧ S = fun d => ∃ f : Fm, d = F_ f ∧ isFm f = true
abbrev N_anf : List Str := ["dice", "size", "some", "ranks", "files", "people", "left", "at", "pair", "rank"]
theorem codes_ok {l : List Nat} {n : Nat} {p : List Nat} (h : (p ++ l).Perm (lets.take n)) : okn 9 (.str l) = true := by
  show (l.all fun c => Nat.blt c 1114112) = true
  rw [List.all_eq_true]
  exact fun c hc => lets_ok c (List.mem_of_mem_take (h.mem_iff.mp (List.mem_append_right p hc)))
end
end G

set_option Elab.async false
set_option linter.all false
set_option maxRecDepth 100000
set_option maxHeartbeats 4000000
namespace G
open PySem PySem.Spec PyProof.Rows L2 TL
theorem perf_ok {IM : Addr} {f g : Fm} {os : List Nat} (h : aftF f os = some g) : perfR IM f os = .ok (F_ g) := by
  unfold perfR
  rw [h]
/-! ### the law as a def -/
def spL (K : PySem.W.Frag) (T : List (Addr × Str)) : Sp := fun vs H Q E => ∃ B ns, Cov B H ∧ RpA K (mask B H) vs [.scr ns] ∧ ns.length ≤ 1000 ∧ LamX.Tabs T H ∧ (∀ a, a ∈ tbs T → B a = true) ∧ (∀ a ps, B a = true → H a = some (.tbl ps) → a ∈ tbs T) ∧ ∀ H', Q (.bl true) H'
theorem spL_len {K : PySem.W.Frag} {T : List (Addr × Str)} {vs : List V} {H : Hp} {Q : VK} {E : XK} (h : spL K T vs H Q E) : vs.length = 1 := by
  obtain ⟨B, ns, _, ra, _⟩ := h
  rw [ra.length]
  rfl
theorem bodyL {X : Cx} {E : XK} {T : List (Addr × Str)} {N : List Str} {bd : List Stmt} {vs : List V} {H : Hp} {Q : VK} (h : spL X.K T vs H Q E) (hb : ∀ ns : List Int, ns.length ≤ 1000 → SS X E (W0 T) bd (startρ N [.scr ns]) (fun o => o = .rt (.bl true))) : ∃ t, PSs X bd t ∧ t { nx := fun _ H' => Q .non H', rt := Q } (L2.start N vs) H := by
  obtain ⟨B, ns, cv, ra, hl, hT, h1, h2, q⟩ := h
  refine ⟨_, hb ns hl, B, ⟨fun a o m h => ?_, fun a h => h1 a (of_decide_eq_true h), cv, fun a o h => (by cases h), hT, fun a h => (by cases h), fun a ps hb h => decide_eq_true (h2 a ps hb h)⟩, envR_start ra, ?_⟩
  · rw [show (W0 T).H0 a = none from dwT m] at h
    cases h
  · refine ⟨fun ρ σ H' B' e w en => (by cases e), fun d v H' B' e w r' => ?_, fun c H' B' e w => (by cases e), fun ρ σ H' B' e w en => (by cases e), fun ρ σ H' B' e w en => (by cases e), fun ρ σ d v H' B' e w en r' => (by cases e), fun ρ σ c H' B' e w en => (by cases e)⟩
    have e := Out.rt.inj e
    subst e
    rw [rp_bl r']
    exact q H'
theorem fnL_ok {P : Program} {w : World} {K : PySem.W.Frag} {mg : Str → Option Value} {base : Heap} {x qual : Str} {st : Stmt} {f : Addr} {fd : FuncData} {N : List Str} {k : Nat} {T : List (Addr × Str)} (F : Fun K x qual st f fd) (Sc : FnScope N ["script"] (defScope st))
    (hbody : ∀ (cdv : Value) (A : Around) (outer : List Env) (s : Shared) (H : Hp) (E : XK) (ns : List Int), Room k (A.deeper (envOfC qual (defScope st) s.heap.objs.size f cdv)) → ns.length ≤ 1000 →
      SS (cxOf (L2N.CX P w) P w K mg base N qual (defScope st) f cdv A outer s H E) E (W0 T) (defBody st) (startρ N [.scr ns]) (fun o => o = .rt (.bl true))) : FnOk P w K mg base (L2N.CX P w) (k + 1) f fd ["script"] (spL K T) :=
  okN F Sc (fun vs H Q E h => spL_len h) fun cdv A outer s H vs Q E hr h => bodyL h fun ns hl => hbody cdv A outer s H E ns hr hl
/-- the same, the code object known -/
theorem fnL_okC {P : Program} {w : World} {K : PySem.W.Frag} {mg : Str → Option Value} {base : Heap} {x qual : Str} {st : Stmt} {f : Addr} {oc : Value} {od an : Option Addr} {osl : Array (Option Value)} {kV doc pm cdv ct : Value} {N : List Str} {k : Nat} {T : List (Addr × Str)} (l : K.lookup f = some ⟨oc, od, .func (PySem.W.fnOf x qual (defArgs st) (defBody st) (defScope st) .none kV doc pm an cdv ct), osl⟩)
    (c : PySem.W.codeIn K cdv qual = true) (Sc : FnScope N ["script"] (defScope st))
    (hbody : ∀ (A : Around) (outer : List Env) (s : Shared) (H : Hp) (E : XK) (ns : List Int), Room k (A.deeper (envOfC qual (defScope st) s.heap.objs.size f cdv)) → ns.length ≤ 1000 →
      SS (cxOf (L2N.CX P w) P w K mg base N qual (defScope st) f cdv A outer s H E) E (W0 T) (defBody st) (startρ N [.scr ns]) (fun o => o = .rt (.bl true))) : FnOk P w K mg base (L2N.CX P w) (k + 1) f (PySem.W.fnOf x qual (defArgs st) (defBody st) (defScope st) .none kV doc pm an cdv ct) ["script"] (spL K T) :=
  fn_of l c Sc (fun vs H Q E h => spL_len h) fun A outer s H vs Q E hr h => bodyL h fun ns hl => hbody A outer s H E ns hr hl
/-- a formation's two sizes -/
theorem F_ne {X : Cx} {ρ : List Sl} {a b : Expr} {f g : Fm} {pos : Pos} (hu : X.A.units + 64 < cLine) (ha : D X E0 a ρ (.ok (F_ f))) (hb : D X E0 b ρ (.ok (F_ g))) (hf : isFm f = true) (hg : isFm g = true) : T X (.Compare a [.NotEq] [b] pos) ρ (!decide (f = g)) :=
  T.is (t_ne hu ha hb (okn_mono (by decide) (okn_F hf)) (okn_mono (by decide) (okn_F hg))) (by rw [F_eq])
theorem F_same {X : Cx} {ρ : List Sl} {a b : Expr} {f : Fm} {pos : Pos} (hu : X.A.units + 64 < cLine) (ha : D X E0 a ρ (.ok (F_ f))) (hb : D X E0 b ρ (.ok (F_ f))) (hf : isFm f = true) : T X (.Compare a [.NotEq] [b] pos) ρ false :=
  (F_ne hu ha hb hf hf).is (by simp)
theorem int_ne {X : Cx} {ρ : List Sl} {a b : Expr} {i j : Int} {pos : Pos} (hu : X.A.units + 64 < cLine) (ha : D X E0 a ρ (.ok (.int i))) (hb : D X E0 b ρ (.ok (.int j))) : T X (.Compare a [.NotEq] [b] pos) ρ (!decide (i = j)) := t_ne hu ha hb rfl rfl
theorem int_eq {X : Cx} {ρ : List Sl} {a b : Expr} {i j : Int} {pos : Pos} (hu : X.A.units + 64 < cLine) (ha : D X E0 a ρ (.ok (.int i))) (hb : D X E0 b ρ (.ok (.int j))) : T X (.Compare a [.Eq] [b] pos) ρ (decide (i = j)) := t_eq hu ha hb rfl rfl
theorem sh_ne {X : Cx} {ρ : List Sl} {a b : Expr} {i j k l : Int} {pos : Pos} (hu : X.A.units + 64 < cLine) (ha : D X E0 a ρ (.ok (.tup [.int i, .int j]))) (hb : D X E0 b ρ (.ok (.tup [.int k, .int l]))) : T X (.Compare a [.NotEq] [b] pos) ρ (!(decide (i = k) && decide (j = l))) := (t_ne hu ha hb rfl rfl).is (by
    show (!(decide (i = k) && (decide (j = l) && true))) = _
    rw [Bool.and_true])
end G

set_option Elab.async false
set_option linter.all false
set_option maxRecDepth 100000
set_option maxHeartbeats 4000000
namespace G
open PySem PySem.Spec PyProof.Rows L2 TL L2H HotX LamX
/-! ### _law_term -/
def excB (K : PySem.W.Frag) (c CS : Addr) : Bool :=
  PySem.W.findIn K (.ref c) "__getattribute__" == some (some (.builtin "BaseException.__getattribute__")) && PySem.W.findIn K (.ref c) "__getattr__" == some none && PySem.W.subIn K (.ref c) (.type "BaseException") == some true && PySem.W.hasDictIn K c
  && PySem.W.findIn K (.ref c) "__class__" == some (some (.builtin "object.__class__")) && PySem.W.specialIn K (.builtin "object.__class__") "__get__" == some (some (.builtin "getset_descriptor.__get__")) && PySem.W.takesIn K (.builtin "object.__class__") == some true && PySem.W.mroIn K c (.type "object") == some true
  && PySem.W.kitOne K (.ref c) (.type "ValueError") == some true && PySem.W.exmOne K (.ref c) (.ref CS) == some true
def kitB9 (K : PySem.W.Frag) (cs : List Addr) : Bool := (List.range 9).all fun i => (List.range 9).all fun j => PySem.W.kitOne K (.ref (cs.getD i 0)) (.ref (cs.getD j 0)) == some (decide (i = j))
theorem excB_C {K : PySem.W.Frag} {c CS : Addr} (h : excB K c CS = true) : ExcC K c ∧ PySem.W.kitOne K (.ref c) (.type "ValueError") = some true ∧ PySem.W.exmOne K (.ref c) (.ref CS) = some true := by
  unfold excB at h
  simp only [Bool.and_eq_true, beq_iff_eq] at h
  obtain ⟨⟨⟨⟨⟨⟨⟨⟨⟨h1, h2⟩, h3⟩, h4⟩, h5⟩, h6⟩, h7⟩, h8⟩, h9⟩, h10⟩ := h
  exact ⟨⟨h1, h2, h3, h4, h5, h6, h7, h8⟩, h9, h10⟩
def kinds : List (List Nat) := [[73, 110, 118, 97, 108, 105, 100, 70, 111, 114, 109, 97, 116, 105, 111, 110], [73, 110, 118, 97, 108, 105, 100, 79, 114, 100, 101, 114, 115], [73, 110, 118, 97, 108, 105, 100, 80, 101, 114, 115, 111, 110], [73, 110, 118, 97, 108, 105, 100, 83, 104, 97, 112, 101], [73, 110, 118, 97, 108, 105, 100, 84, 101, 120, 116], [73, 109, 112, 111, 115, 115, 105, 98, 108, 101], [85, 110, 108, 105, 107, 101], [78, 101, 119, 83, 104, 97, 112, 101], [78, 111, 116, 104, 105, 110, 103, 84, 111, 85, 110, 100, 111]]
structure Errs (K : PySem.W.Frag) (mg : Str → Option Value) (cs : List Addr) (CS : Addr) : Prop where
  c0 : mg "InvalidFormation" = some (.ref (cs.getD 0 0))
  c1 : mg "InvalidOrders" = some (.ref (cs.getD 1 0))
  c2 : mg "InvalidPerson" = some (.ref (cs.getD 2 0))
  c3 : mg "InvalidShape" = some (.ref (cs.getD 3 0))
  c4 : mg "InvalidText" = some (.ref (cs.getD 4 0))
  c5 : mg "Impossible" = some (.ref (cs.getD 5 0))
  c6 : mg "Unlike" = some (.ref (cs.getD 6 0))
  c7 : mg "NewShape" = some (.ref (cs.getD 7 0))
  c8 : mg "NothingToUndo" = some (.ref (cs.getD 8 0))
  ve : mg "ValueError" = none
  kit : kitB9 K cs = true
  exc : (cs.all fun c => excB K c CS) = true
  len : cs.length = 9
def Known (cs : List Addr) (C : Addr) (nm : List Nat) : Prop := ∃ i, i < 9 ∧ C = cs.getD i 0 ∧ nm = kinds.getD i []
theorem Errs.k {K : PySem.W.Frag} {mg : Str → Option Value} {cs : List Addr} {CS : Addr} (h : Errs K mg cs CS) {i j : Nat} (hi : i < 9) (hj : j < 9) : PySem.W.kitOne K (.ref (cs.getD i 0)) (.ref (cs.getD j 0)) = some (decide (i = j)) := by
  have z := h.kit
  unfold kitB9 at z
  rw [List.all_eq_true] at z
  have z := z i (List.mem_range.mpr hi)
  rw [List.all_eq_true] at z
  exact beq_iff_eq.mp (z j (List.mem_range.mpr hj))
theorem Errs.x {K : PySem.W.Frag} {mg : Str → Option Value} {cs : List Addr} {CS : Addr} (h : Errs K mg cs CS) {i : Nat} (hi : i < 9) : ExcC K (cs.getD i 0) ∧ PySem.W.kitOne K (.ref (cs.getD i 0)) (.type "ValueError") = some true ∧ PySem.W.exmOne K (.ref (cs.getD i 0)) (.ref CS) = some true := by
  refine excB_C (List.all_eq_true.mp h.exc _ ?_)
  rw [List.getD_eq_getElem?_getD, List.getElem?_eq_getElem (by rw [h.len]; exact hi)]
  exact List.getElem_mem _
abbrev N_trm : List Str := ["e", "flags", "kinds", "flag"]
def flg (i : Nat) : List Bool := (List.range 9).map fun j => decide (i = j)
theorem flg_sum : ∀ i, i < 9 → sumL ((flg i).map fun b => (if b then 1 else 0 : Int)) ((flg i).map fun b => (if b then 1 else 0 : Int)).length = 1 := by decide +kernel
theorem flg_in : ∀ i, i < 9 → ∀ j, j < 9 → (-(2 ^ 63) ≤ ((flg i).map fun b => (if b then 1 else 0 : Int)).getD j 0 ∧ ((flg i).map fun b => (if b then 1 else 0 : Int)).getD j 0 < 2 ^ 63) ∧ (-(2 ^ 63) ≤ sumL ((flg i).map fun b => (if b then 1 else 0 : Int)) (j + 1) ∧ sumL ((flg i).map fun b => (if b then 1 else 0 : Int)) (j + 1) < 2 ^ 63) := by decide +kernel
theorem flg_at : ∀ i, i < 9 → (flg i)[i]? = some true ∧ ∀ m, m < i → (flg i)[m]? = some false := fun i hi => by
  unfold flg
  refine ⟨?_, fun m hm => ?_⟩
  · rw [List.getElem?_map, List.getElem?_range hi]
    simp
  · rw [List.getElem?_map, List.getElem?_range (by omega)]
    show some (decide (i = m)) = some false
    rw [decide_eq_false (by omega)]
theorem kinds_at : ∀ i, i < 9 → (kinds.map Dat.str)[i]? = some (.str (kinds.getD i [])) := fun i hi => by
  rw [List.getElem?_map, List.getD_eq_getElem?_getD, List.getElem?_eq_getElem (show i < kinds.length from hi)]
  rfl
section
variable {P : Program} {w : World} {K : PySem.W.Frag} {mg : Str → Option Value} {base : Heap} {cs : List Addr} {CS : Addr}
end
end G

set_option Elab.async false
set_option linter.all false
set_option maxRecDepth 100000
set_option maxHeartbeats 4000000
namespace G
open PySem PySem.Spec PyProof.Rows L2 TL
/-! ### ''.join of signs that the dice choose -/
/-- one sign: l[_law_roll(dice, n)] -/
def tSig (K : PySem.W.Frag) (l : List Nat) (i : Nat) : TE := fun σ H Q => ∃ a, σ[i]? = some (some (.ref a)) ∧ (∃ c n, H a = some (.lst [.int c, .int n])) ∧ ∀ H' x, (∀ b o, b ≠ a → H b = some o → H' b = some o) → (∃ c n, H' a = some (.lst [.int c, .int n])) → x ∈ l → Q (.str (mkS [x])) H'
section
variable {X : Cx} {E : XK} {W : Wl} {ρ : List Sl} {P : Out → Prop}
theorem pe_sig {x dn : Str} {ps : List Str} {k : Nat} {l : List Nat} {i : Nat} {y : Str} {n : Int} {j1 j2 : Nat} {p pd pc pl cpos pos : Pos} (F : FnD X.prog X.w X.K X.mg X.base x ps (fun as S => ∃ m : Int, as = [.int m] ∧ 0 < m ∧ m ≤ 1000 ∧ S = fun d => ∃ k : Nat, d = .int k ∧ (k : Int) < m) k) (hr : Room k X.A) (hx : PE X (.Name dn pd) (tVar i)) (hl : y = mkS l) (hn : (l.length : Int) = n) (h1 : 0 < l.length) (h2 : l.length ≤ 1000)
    (hg : Gl X x := by rfl) (hdb : (x == ("__debug__" : Str)) = false := by decide) (he : starEach [.Name dn pd, .Constant (.int n) j2 pc] X.env = (false, eval (.Name dn pd) X.env) :: starEach [.Constant (.int n) j2 pc] X.env := by rfl) (hpl : (backTo cpos (starEach [.Constant (.int n) j2 pc] X.env)).any (·.1) = false := by rfl) :
    PE X (.Subscript (.Constant (.str y) j1 pl) (.Call (.Name x p) [.Name dn pd, .Constant (.int n) j2 pc] [] cpos) pos) (tSig X.K l i) := by
  obtain ⟨f, fd, f1, f2, f3, f4⟩ := F.ex
  subst hl hn
  refine pe_imp (pe_ix ix_str pe_str (pe_callS (E := fun _ => E0) f1 hr hg f2 f3 f4 (fun σ pins H s e s' I c => passN pins σ H s e s' I c) (pa_cons hx (pa_cons pe_int pa_nil) he) hdb he hpl) (fun _ _ => rfl)) fun σ H Q ⟨a, hσ, hc, q⟩ => ?_
  obtain ⟨c0, n0, h0⟩ := hc
  refine ⟨_, hσ, fun b => decide (b = a), a, [.int (l.length : Nat)], [.int (l.length : Nat)], _, rfl, fun b hb nb => ?_, by simp, ⟨c0, n0, h0⟩, .cons (.int _) .nil, ⟨_, rfl, by omega, by omega, rfl⟩, fun v H' d ⟨k, e, hk⟩ hp hcn rv => ?_⟩
  · rw [of_decide_eq_true hb, h0] at nb
    rcases nb with nb | ⟨_, nb⟩ <;> cases nb
  · subst e
    have hk : k < l.length := by omega
    have ev := rp_int rv
    subst ev
    refine ⟨_, (k : Nat), l[k], rfl, rfl, ?_, atI_nat (by simp [List.getElem?_eq_getElem hk]), q H' l[k] hp hcn (List.getElem_mem hk)⟩
    rw [len_mk]
    exact Nat.le_trans h2 (by decide)
/-- [l[_law_roll(dice, n)] for t in range(e)] -/
theorem de_sigs {elt arg : Expr} {scope : Scope} {own : List (Str × Nat)} {l : List Nat} {i j m : Nat} {a : Addr} {t : Str} {pt p pos rpos : Pos} (hc : X.calm = true) (hN : X.N.Nodup) (hi : ρ[i]? = some (.di a)) (hd : Dw W a) (hij : j ≠ i) (ok : BlkOk X.N X.env.scope scope own) (hown : own.map (·.2) = [j]) (hm : X.mg "range" = none)
    (ha : DEA X W [arg] ρ (fun ds => ∃ k : Nat, ds = [.int k] ∧ k ≤ m)) (hm2 : m ≤ 1000) (hgt : Bk X scope fun Y => PG Y (.Name t pt) (gName j)) (he : Bk X scope fun Y => PE Y elt (tSig X.K l i))
    (hg : Gl X "range" := by rfl) (hs1 : starEach [arg] X.env = [(false, eval arg X.env)] := by rfl) (hs : ∀ x, foldedSetIterable (.Call (.Name "range" p) [arg] [] rpos) X.env x = pure x := by intro _; rfl) :
    DE X W (.ListComp elt [⟨.Name t pt, .Call (.Name "range" p) [arg] [] rpos, [], 0⟩] scope pos) ρ (fun d => ∃ cs : List Nat, d = .lst (cs.map fun c => .str [c]) ∧ cs.length ≤ m ∧ ∀ c ∈ cs, c ∈ l) := by
  refine pe_imp (pe_lc (tt := tYes) hc hN (pi_range1 hg hm ha hs1) ok hgt (fun _ _ _ _ _ => pts_nil) he hs) fun σ H Q ⟨B, w, en, q⟩ => ⟨B, w, en, fun vs H1 B1 ds ⟨k, e, hk⟩ w1 en1 m1 rs => ?_⟩
  subst e
  obtain ⟨v, rfl, rv⟩ := rpA_one rs
  rw [rp_int rv]
  refine ⟨k, rfl, by omega, by omega, fun D nD => ?_⟩
  obtain ⟨hσ, hb, c0, n0, h0⟩ := en1.di hi
  have hDa : D ≠ a := fun z => by
    rw [z, h0] at nD
    cases nD
  rw [hown, Int.toNat_natCast]
  have hsl : ∀ v : V, (((L2.wipe σ [j]).set j (some v)) : L2.St)[i]? = some (some (.ref a)) := fun v => by
    show ((List.set σ j none).set j (some v))[i]? = _
    rw [List.getElem?_set_ne hij, List.getElem?_set_ne hij]
    exact hσ
  refine ⟨fun n mm H => mm = k - n ∧ n ≤ k ∧ ∃ cs : List Nat, cs.length = n ∧ (∀ c ∈ cs, c ∈ l) ∧ H D = some (.lst (cs.map fun c => V.str (mkS [c]))) ∧ (∀ b o, b ≠ a → b ≠ D → H1 b = some o → H b = some o) ∧ ∃ c n, H a = some (.lst [.int c, .int n]),
    ⟨k, by simp, Nat.zero_le _, [], rfl, fun _ h => (by cases h), upd_same, fun b o _ hb e => by rw [upd_ne hb]; exact e, c0, n0, by rw [upd_ne (Ne.symm hDa)]; exact h0⟩, ?_⟩
  rintro n mm H2 ⟨rfl, hn, cs, hl, hcs, hD, hk2, hdi⟩
  by_cases hlt : n < k
  · refine .inr ⟨hlt, fun H' => ∃ cs : List Nat, cs.length = n + 1 ∧ (∀ c ∈ cs, c ∈ l) ∧ H' D = some (.lst (cs.map fun c => V.str (mkS [c]))) ∧ (∀ b o, b ≠ a → b ≠ D → H1 b = some o → H' b = some o) ∧ ∃ c n, H' a = some (.lst [.int c, .int n]), fun H' z => ⟨k - (n + 1), by omega, rfl, hlt, z⟩, fun x H3 y => ?_⟩
    obtain ⟨e1, e2⟩ := y
    subst e1
    refine ⟨by rw [wipe_set (List.mem_singleton.mpr rfl)]; show ((List.set σ j none).set j none) = List.set σ j none; rw [List.set_set], ?_⟩
    unfold tYes
    dsimp only
    rw [if_pos rfl]
    refine ⟨a, hsl _, hdi, fun H4 x4 hp hcn hx => ⟨_, hp D _ hDa hD, by rw [List.length_map, hl]; exact Nat.lt_of_le_of_lt (Nat.le_trans hn (Nat.le_trans hk hm2)) (by decide), cs ++ [x4], by rw [List.length_append, hl]; rfl, fun c hc => ?_, by rw [upd_same, List.map_append]; rfl, fun b o hba hbD e => ?_, ?_⟩⟩
    · rcases List.mem_append.mp hc with z | z
      · exact hcs c z
      · rw [List.mem_singleton.mp z]
        exact hx
    · rw [upd_ne hbD]
      exact hp b o hba (hk2 b o hba hbD e)
    · obtain ⟨c, n, e⟩ := hcn
      exact ⟨c, n, by rw [upd_ne (Ne.symm hDa)]; exact e⟩
  · have en : n = k := by omega
    subst en
    obtain ⟨w2, en2, m2⟩ := dice_step w1 en1 hi hd (fun b o hba e => hk2 b o hba (ne_of_none e nD) e) hdi
    refine .inl ⟨Nat.le_refl _, q _ H2 B1 _ ⟨cs, rfl, by omega, hcs⟩ w2 en2 (m1.trans (Sm.of m2)) (.lst (xs := cs.map fun c => V.str (mkS [c])) ?_ ?_)⟩
    · rw [mask_out (w1.cov.new nD)]
      exact hD
    · exact rp_signs cs
where
  rp_signs {K : PySem.W.Frag} {H : Hp} : ∀ cs : List Nat, RpA K H (cs.map fun c => V.str (mkS [c])) (cs.map fun c => .str [c])
    | [] => .nil
    | c :: r => .cons (.str [c]) (rp_signs r)
end
theorem joinL_one : ∀ cs : List Nat, joinL [] (cs.map fun c => [c]) = cs
  | [] => rfl
  | [c] => rfl
  | c :: d :: r => by
    have ih := joinL_one (d :: r)
    show [c] ++ ([] ++ joinL [] ((d :: r).map fun c => [c])) = c :: d :: r
    rw [ih]
    rfl
theorem de_join0 {X : Cx} {W : Wl} {ρ : List Sl} {S1 S : Dat → Prop} {b : Expr} {jj : Nat} {pl apos pos : Pos} (hb : DE X W b ρ S1) (hS : ∀ d, S1 d → ∃ cs : List Nat, d = .lst (cs.map fun c => .str [c]) ∧ cs.length ≤ 1000 ∧ S (.str cs))
    (hs : starEach [b] X.env = [(false, eval b X.env)] := by rfl) (hline : (apos.endLine == pos.line) = true := by rfl) : DE X W (.Call (.Attribute (.Constant (.str "") jj pl) "join" apos) [b] [] pos) ρ S := by
  refine pe_imp (pe_join pe_str hb hs rfl hline) fun σ H Q ⟨B, w, en, q⟩ => ⟨⟨_, rfl⟩, B, w, en, fun vb H2 B2 d hd w2 en2 m2 rb => ?_⟩
  obtain ⟨cs, e, hl, hs⟩ := hS d hd
  subst e
  have e2 : (cs.map fun c => Dat.str [c]) = (cs.map fun c => [c]).map Dat.str := by rw [List.map_map]; rfl
  rw [e2] at rb
  cases rb with
  | lst h r =>
    rw [rpA_strs r] at h
    refine ⟨mkS [], _, (cs.map fun c => [c]).map fun l => (⟨l.toArray⟩ : Str), rfl, rfl, .inl (SqL.of (mask_sub B2 H2 _ _ h)), ?_, ?_⟩
    · rw [join_len [], List.length_map, List.length_map, len_mk]
      have : ((cs.map fun c => [c]).map List.length).sum = cs.length := by
        clear hl hs h r e2 hd
        induction cs with
        | nil => rfl
        | cons c r ih =>
          show 1 + ((r.map fun c => [c]).map List.length).sum = r.length + 1
          rw [ih]
          omega
      show _ + _ * 0 ≤ _
      rw [this]
      omega
    · rw [join_mk [], joinL_one]
      exact q _ H2 B2 _ hs w2 en2 m2 (.str _)
/-! ### _law_any_orders -/
def C_anyo : List Dat → (Dat → Prop) → Prop := fun as S => ∃ m : Nat, as = [.int m] ∧ m ≤ 20 ∧ S = fun d => ∃ os : List Nat, d = .str os ∧ isOrd (.str os) = true ∧ os.length ≤ m
abbrev N_ano : List Str := ["dice", "many", "turn"]
theorem isOrd_mk {os : List Nat} (h1 : os.length ≤ 20) (h2 : ∀ c ∈ os, c ∈ signs) : isOrd (.str os) = true := by
  show (decide ((os.length : Int) ≤ 20) && os.all fun c => decide (c ∈ signs)) = true
  rw [Bool.and_eq_true, List.all_eq_true]
  exact ⟨decide_eq_true (by omega), fun c hc => decide_eq_true (h2 c hc)⟩
section
variable {P : Program} {w : World} {K : PySem.W.Frag} {mg : Str → Option Value} {base : Heap}
end
end G

set_option Elab.async false
set_option linter.all false
set_option maxRecDepth 100000
set_option maxHeartbeats 8000000
namespace G
open PySem PySem.Spec PyProof.Rows L2 TL
/-! ### the law's own moves: from which place each sign comes -/
def srcF (o r c row col : Nat) : Nat × Nat :=
  if o = 82 then (col, c - 1 - row) else if o = 76 then (r - 1 - col, row) else if o = 65 then (r - 1 - row, c - 1 - col) else if o = 68 then (2 * row + col % 2, col / 2) else if o = 83 then (row / 2, 2 * col + row % 2)
  else if o = 67 then ((row + 1) % r, col) else if o = 88 then (row, (col + 1) % c) else (row, c - 1 - col)
def highF (o r c : Nat) : Nat := if o = 82 ∨ o = 76 then c else if o = 68 then r / 2 else if o = 83 then 2 * r else r
def wideF (o r c : Nat) : Nat := if o = 82 ∨ o = 76 then r else if o = 68 then 2 * c else if o = 83 then c / 2 else c
def cellO (f : Fm) (o r c row col : Nat) : Nat := (f.getD (srcF o r c row col).1 []).getD (srcF o r c row col).2 0
def lmF (f : Fm) (o : Nat) : Fm := (List.range (highF o f.length (wid f))).map fun row => (List.range (wideF o f.length (wid f))).map fun col => cellO f o f.length (wid f) row col
def forBody0 : List Stmt → Nat → List Stmt
  | l, n => (match l[n]? with
    | some (.For _ _ b _ _) => b
    | _ => [])
abbrev forBody (l : List Stmt) (n : Nat) : List Stmt := forBody0 l n
def canO (o r c : Nat) : Bool := !(decide (o = 68 ∧ r % 2 = 1) || decide (o = 83 ∧ c % 2 = 1))
theorem src_ok : ∀ s ∈ shps, ∀ o ∈ signs, canO o s.1 s.2 = true → ∀ row, row < highF o s.1 s.2 → ∀ col, col < wideF o s.1 s.2 → (srcF o s.1 s.2 row col).1 < s.1 ∧ (srcF o s.1 s.2 row col).2 < s.2 := by decide +kernel
theorem lm_id : ∀ s ∈ shps, ∀ o ∈ signs, mvF (idF s.1 s.2) o = if canO o s.1 s.2 = true then some ((List.range (highF o s.1 s.2)).map fun row => (List.range (wideF o s.1 s.2)).map fun col => (srcF o s.1 s.2 row col).1 * s.2 + (srcF o s.1 s.2 row col).2) else none := by decide +kernel
theorem idF_get {r c i j : Nat} (hi : i < r) (hj : j < c) : ((idF r c).getD i []).getD j 0 = i * c + j := by
  unfold idF
  rw [List.getD_eq_getElem?_getD, List.getD_eq_getElem?_getD, List.getElem?_map, List.getElem?_range hi]
  show (((List.range c).map fun j => i * c + j)[j]?).getD 0 = _
  rw [List.getElem?_map, List.getElem?_range hj]
  rfl
theorem mapF_get {h : Nat → Nat} {g : Fm} {i j : Nat} (hi : i < g.length) (hj : j < (g.getD i []).length) : ((mapF h g).getD i []).getD j 0 = h ((g.getD i []).getD j 0) := by
  unfold mapF
  rw [List.getD_eq_getElem?_getD (l := g.map _), List.getElem?_map, List.getElem?_eq_getElem hi]
  rw [List.getD_eq_getElem?_getD (l := g), List.getElem?_eq_getElem hi] at hj ⊢
  have hj : j < g[i].length := hj
  show (g[i].map h).getD j 0 = h (g[i].getD j 0)
  rw [List.getD_eq_getElem?_getD, List.getD_eq_getElem?_getD, List.getElem?_map, List.getElem?_eq_getElem hj]
  rfl
theorem cell_h {f : Fm} {r c i j : Nat} (s : Sh f r c) (hi : i < r) (hj : j < c) : (f.getD i []).getD j 0 = hF f (i * c + j) := by
  have e := s.eq
  have l1 : i < (idF r c).length := by unfold idF; rw [List.length_map, List.length_range]; exact hi
  have l2 : j < ((idF r c).getD i []).length := by
    unfold idF
    rw [List.getD_eq_getElem?_getD, List.getElem?_map, List.getElem?_range hi]
    show j < ((List.range c).map fun j => i * c + j).length
    rw [List.length_map, List.length_range]
    exact hj
  have z := mapF_get (h := hF f) l1 l2
  rw [← e, idF_get hi hj] at z
  exact z
theorem lm_mv {f : Fm} {o : Nat} (hf : isFm f = true) (ho : o ∈ signs) : mvF f o = if canO o f.length (wid f) = true then some (lmF f o) else none := by
  have s := isFm_sh hf
  have z := lm_id _ s.mem o ho
  have e : mvF f o = (mvF (idF f.length (wid f)) o).map (mapF (hF f)) := by
    have e := mvF_nat (hF f) (idF f.length (wid f)) o
    rw [← s.eq] at e
    exact e
  rw [e, z]
  by_cases hc : canO o f.length (wid f) = true
  · rw [if_pos hc, if_pos hc]
    show some (mapF (hF f) _) = some (lmF f o)
    congr 1
    unfold mapF lmF
    rw [List.map_map]
    refine List.map_congr_left fun row hrow => ?_
    show ((List.range _).map _).map (hF f) = _
    rw [List.map_map]
    refine List.map_congr_left fun col hcol => ?_
    have k := src_ok _ s.mem o ho hc row (List.mem_range.mp hrow) col (List.mem_range.mp hcol)
    exact (cell_h s k.1 k.2).symm
  · rw [if_neg hc, if_neg hc]
    rfl
theorem hw_le : ∀ s ∈ shps, ∀ o ∈ signs, highF o s.1 s.2 ≤ 12 ∧ wideF o s.1 s.2 ≤ 12 := by decide +kernel
section
variable {P : Program} {w : World} {K : PySem.W.Frag} {mg : Str → Option Value} {base : Heap}
def C_lmoved : List Dat → Res → Prop := fun as r => ∃ (f : Fm) (o : Nat), as = [F_ f, .str [o]] ∧ isFm f = true ∧ o ∈ signs ∧ r = .ok (optF (mvF f o))
abbrev N_lmv : List Str := ["formation", "order", "ranks", "files", "wide", "high", "found", "row", "line", "column"]
theorem cell_at {f : Fm} {r c i j : Nat} (hf : isFm f = true) (hr : f.length = r) (hc : wid f = c) (hi : i < r) (hj : j < c) : ∃ l, f[i]? = some l ∧ l[j]? = some ((f.getD i []).getD j 0) ∧ l.length ≤ 6 := by
  obtain ⟨_, w6, hw⟩ := isFm_wid hf
  have hi' : i < f.length := by omega
  have hl := hw f[i] (List.getElem_mem hi')
  have hj' : j < f[i].length := by omega
  refine ⟨f[i], List.getElem?_eq_getElem hi', ?_, by omega⟩
  rw [List.getD_eq_getElem?_getD (l := f), List.getElem?_eq_getElem hi']
  show _ = some (f[i].getD j 0)
  rw [List.getD_eq_getElem?_getD, List.getElem?_eq_getElem hj']
  rfl

end
end G

set_option Elab.async false
set_option linter.all false
set_option maxRecDepth 100000
set_option maxHeartbeats 8000000
namespace G
open PySem PySem.Spec PyProof.Rows L2 TL
theorem t_inSign {X : Cx} {ρ : List Sl} {a b : Expr} {c : Nat} {l : List Nat} {pos : Pos} (ha : D X E0 a ρ (.ok (.str [c]))) (hb : D X E0 b ρ (.ok (.str l))) (hm : behindInMarks .In b = false := by rfl) : T X (.Compare a [.In] [b] pos) ρ (decide (c ∈ l)) :=
  t_cmp op_in_sign (fun B H vx vy Q cv rx ry q => ⟨c, _, rp_str rx, rp_str ry, by simpa using q _ H (Same.refl H) (.bl _)⟩) ha hb hm
theorem rangeD_get {n i : Nat} {x : Dat} (h : (rangeD 0 (n : Nat))[i]? = some x) : x = .int (i : Nat) ∧ i < n := by
  unfold rangeD at h
  rw [List.getElem?_map, Int.sub_zero, Int.toNat_natCast] at h
  obtain ⟨k, hk, e⟩ := Option.map_eq_some_iff.mp h
  have hl := (List.getElem?_eq_some_iff.mp hk).1
  rw [List.length_range] at hl
  rw [List.getElem?_range hl] at hk
  have hk := Option.some.inj hk
  subst hk
  exact ⟨by rw [← e, Int.zero_add], hl⟩
theorem rangeD_len {n : Nat} : (rangeD 0 (n : Nat)).length = n := by
  unfold rangeD
  rw [List.length_map, List.length_range, Int.sub_zero, Int.toNat_natCast]
theorem map_take_succ {α : Type} (f : Nat → α) {n j : Nat} (h : j < n) : ((List.range n).map f).take (j + 1) = ((List.range n).map f).take j ++ [f j] := by
  rw [List.take_add_one, List.getElem?_map, List.getElem?_range h]
  rfl
section
variable {P : Program} {w : World} {K : PySem.W.Frag} {mg : Str → Option Value} {base : Heap}
def C_lled : List Dat → Res → Prop := fun as r => ∃ (f : Fm) (os : List Nat), as = [F_ f, .str os] ∧ isFm f = true ∧ os.length ≤ 1000 ∧ (∀ c ∈ os, c ∈ signs) ∧ r = .ok (optF (aftF f os))
abbrev N_lld : List Str := ["formation", "orders", "order"]
theorem aft_snoc (f : Fm) (os : List Nat) (o : Nat) : aftF f (os ++ [o]) = (aftF f os).bind fun g => mvF g o := by
  rw [aftF_app]
  cases aftF f os with
  | none => rfl
  | some g =>
    show (mvF g o).bind (fun g => some g) = mvF g o
    cases mvF g o <;> rfl
end
end G

set_option Elab.async false
set_option linter.all false
set_option maxRecDepth 100000
set_option maxHeartbeats 4000000
namespace G
open PySem PySem.Spec PyProof.Rows L2 TL
/-! ### can -/
theorem optF_isN (o : Option Fm) : (!(optF o).isN) = o.isSome := by cases o <;> rfl
section
variable {P : Program} {w : World} {K : PySem.W.Frag} {mg : Str → Option Value} {base : Heap} {IF IO IM : Addr}
abbrev C_can (IF IO : Addr) : List Dat → Res → Prop := C_both IF IO fun f os r => r = .ok (.bl (aftF f os).isSome)
theorem sc_can : FnScope N_dn ["formation", "orders"] (defScope s_can) := ⟨rfl, rfl, rfl, by decide +kernel, rfl, by decide +kernel, by decide +kernel⟩
theorem c_can (G1 : FnC P w K mg base "need_both" ["formation", "orders"] (C_needb IF IO) 3) (G2 : FnC P w K mg base "after" ["formation", "orders"] C_after 3) (h : At K mg "can" s_can) : FnC P w K mg base "can" ["formation", "orders"] (C_can IF IO) 4 := by
  refine h.c1 (fun _ _ _ _ _ _ us hl => match us, hl with | [_, _], _ => rfl) fun f fd F => fnC_ok F sc_can (fun as r z => z.len) fun cdv A outer s H E as r W hM hr z => ?_
  cases z with
  | badF d e hd he h1 => exact ss_cons (s_exprE (d_call G1 (hr.mono (by decide)) pa_cx (da_cons (dv 0 rfl) (da_one (dv 1 rfl))) ⟨d, e, rfl, hd, he, by rw [h1]; rfl⟩) rfl)
  | badO d e hd he h1 h2 => exact ss_cons (s_exprE (d_call G1 (hr.mono (by decide)) pa_cx (da_cons (dv 0 rfl) (da_one (dv 1 rfl))) ⟨d, e, rfl, hd, he, by rw [h1, h2]; rfl⟩) rfl)
  | ok f os r hf ho hc =>
    subst hc
    refine ss_cons (s_expr (d := .non) (d_call G1 (hr.mono (by decide)) pa_cx (da_cons (dv 0 rfl) (da_one (dv 1 rfl))) ⟨_, _, rfl, okV_F hf, (isOrd_str ho).2.2, by rw [isForm_F, hf, ho]; rfl⟩) ?_)
    refine ss_one (s_ret (d_notN (d_call G2 (hr.mono (by decide)) pa_cx (da_cons (dv 0 rfl) (da_one (dv 1 rfl))) ⟨f, os, rfl, hf, (isOrd_str ho).2.2, rfl⟩)) ?_)
    show some (Res.ok (.bl _)) = _
    rw [optF_isN]
end
/-! people stay the same -/
theorem mv_perm {f g : Fm} {o : Nat} (hf : isFm f = true) (h : mvF f o = some g) : g.flatten.Perm f.flatten := by
  have main : ∀ o ∈ signs, mvF f o = some g → g.flatten.Perm f.flatten := fun o ho h => by
    have s := isFm_sh hf
    have z := gd_mv _ s.mem o ho
    rw [s.eq, mvF_nat] at h
    cases e : mvF (idF f.length (wid f)) o with
    | none =>
      rw [e] at h
      cases h
    | some g0 =>
      rw [e] at h z
      have h := Option.some.inj h
      have z : gdF (f.length * wid f) g0 = true := z
      unfold gdF at z
      simp only [Bool.and_eq_true, decide_eq_true_eq] at z
      rw [← h, mapF_flat]
      have p : g0.flatten.Perm (List.range f.flatten.length) := by
        rw [s.flat, ← z.2]
        exact (sortN_perm _).symm
      have q := p.map (hF f)
      rw [show (List.range f.flatten.length).map (hF f) = f.flatten from map_range] at q
      exact q
  by_cases ho : o ∈ signs
  · exact main o ho h
  · rw [mv_other ho] at h
    exact main 77 (by decide) h
theorem aft_perm : ∀ {os : List Nat} {f g : Fm}, isFm f = true → aftF f os = some g → g.flatten.Perm f.flatten
  | [], f, g, hf, h => by
    have h := Option.some.inj h
    rw [← h]
  | o :: r, f, g, hf, h => by
    have h : (mvF f o).bind (fun g => aftF g r) = some g := h
    cases e : mvF f o with
    | none =>
      rw [e] at h
      cases h
    | some g0 =>
      rw [e] at h
      exact (aft_perm (mv_isFm hf e) h).trans (mv_perm hf e)
end G

set_option Elab.async false
set_option linter.all false
set_option maxRecDepth 100000
set_option maxHeartbeats 4000000
namespace G
open PySem PySem.Spec PyProof.Rows L2 TL
/-! ### need_shape, in_sequence, first -/
def okI : Dat → Bool
  | .int i => decide (1 ≤ i) && decide (i ≤ 6)
  | _ => false
def isShp : Dat → Dat → Bool
  | .int r, .int c => okI (.int r) && okI (.int c) && (decide (2 ≤ r * c) && decide (r * c ≤ 6))
  | _, _ => false
def ifTest : List Stmt → Expr
  | .If c _ _ _ :: _ => c
  | _ => .Constant .none 0 ⟨0, 0, 0, 0⟩
section
variable {P : Program} {w : World} {K : PySem.W.Frag} {mg : Str → Option Value} {base : Heap} {IS IO IF : Addr}
def C_needsh (IS : Addr) : List Dat → Res → Prop := fun as r => ∃ d e, as = [d, e] ∧ (d.isD = false ∧ e.isD = false) ∧ r = needR (isShp d e) IS (.ok .non)
abbrev N_nsh : List Str := ["ranks", "files", "one"]
theorem sc_need_shape : FnScope N_nsh ["ranks", "files"] (defScope s_need_shape) := ⟨rfl, rfl, rfl, by decide +kernel, rfl, by decide +kernel, by decide +kernel⟩
theorem isI_or {d : Dat} (h : d.isI = true) : (∃ i, d = .int i) ∨ ∃ b, d = .bl b := by
  cases d <;> first | exact .inl ⟨_, rfl⟩ | exact .inr ⟨_, rfl⟩ | cases h
theorem isShp_ok {d e : Dat} (h : isShp d e = true) : okI d = true ∧ okI e = true := by
  cases d with
  | int r =>
    cases e with
    | int c =>
      have h : (okI (.int r) && okI (.int c) && (decide (2 ≤ r * c) && decide (r * c ≤ 6))) = true := h
      rw [Bool.and_eq_true, Bool.and_eq_true] at h
      exact h.1
    | _ => cases h
  | _ => cases h
theorem isShp_d {d e : Dat} (h : isShp d e = true) : d.isD = false ∧ e.isD = false := by
  have z := isShp_ok h
  exact ⟨by cases d <;> first | rfl | (exact (Bool.noConfusion z.1)), by cases e <;> first | rfl | (exact (Bool.noConfusion z.2))⟩
theorem okI_int {d : Dat} (h : okI d = true) : ∃ i : Int, d = .int i ∧ 1 ≤ i ∧ i ≤ 6 := by
  cases d with
  | int i =>
    have h : (decide (1 ≤ i) && decide (i ≤ 6)) = true := h
    rw [Bool.and_eq_true] at h
    exact ⟨i, rfl, of_decide_eq_true h.1, of_decide_eq_true h.2⟩
  | _ => cases h
theorem c_need_shape (B : Bi mg) (X1 : ExcF K mg "InvalidShape" IS) (h : At K mg "need_shape" s_need_shape) : FnC P w K mg base "need_shape" ["ranks", "files"] (C_needsh IS) 1 := by
  refine h.c1 (fun _ _ _ _ _ _ us hl => match us, hl with | [_, _], _ => rfl) fun f fd F => fnC_ok F sc_need_shape (fun as r ⟨d, n, e, _⟩ => by rw [e]; rfl) fun cdv A outer s H E as r W hM hr ⟨d, e, q, hdd, er⟩ => ?_
  subst q er
  have nd := sc_need_shape.nd
  refine ss_cons (s_for (fun i ρ' => (∀ x ∈ ([d, e].take i), okI x = true) ∧ Wk ρ' [.dt d, .dt e, .un]) po_cx (i_tup (d_tup (da_cons (dv 0 rfl) (da_one (dv 1 rfl))) (by simp))) (gt_name (i := 2) nd) (fun _ _ => True.intro) ⟨fun _ h => (by cases h), .inr rfl, .inr rfl, .inr rfl, True.intro⟩ (fun fr i x ρ' hx ⟨h1, hw⟩ => ?_) (fun ρ' ⟨h1, hw⟩ => ?_))
  · refine SS.weak (ρ' := [.dt d, .dt e, .dt x]) ?_ (hw.set 2 _)
    have hdx : x.isD = false := by
      match i, hx with
      | 0, hx =>
        have hx : d = x := Option.some.inj hx
        rw [← hx]
        exact hdd.1
      | 1, hx =>
        have hx : e = x := Option.some.inj hx
        rw [← hx]
        exact hdd.2
      | i + 2, hx => cases hx
    refine ss_one (s_if (b := !okI x) ?_ (fun hb => ss_one (s_raise X1 tk_cx ?_)) (fun hb => ss_nil ?_))
    · by_cases hI : x.isI = true
      · rcases isI_or hI with ⟨i, rfl⟩ | ⟨b, rfl⟩
        · exact t_w (TW.is (w_or (t_not (t_val (d_isi B.isinstance B.int (dv 2 rfl) (kit_I _)))) fun _ => w_or (t_val (d_isi B.isinstance B.bool (dv 2 rfl) (kit_B _))) fun _ => w_or1 (t_not (t_chain op_le op_le o_le o_le d_int (dv 2 rfl) d_int))) rfl)
        · exact t_w (TW.is (w_or (t_not (t_val (d_isi B.isinstance B.int (dv 2 rfl) (kit_I _)))) fun _ => w_or (y := true) (t_val (d_isi B.isinstance B.bool (dv 2 rfl) (kit_B _))) fun h => by cases h) rfl)
      · have hI' : x.isI = false := Bool.eq_false_iff.mpr hI
        refine t_w (TW.is (w_or (y := true) (t_not (t_val (d_isi B.isinstance B.int (dv 2 rfl) (kit_I _)))) fun h => by rw [hI'] at h; cases h) ?_)
        cases x <;> first | rfl | cases hI'
    · have hb := nt hb
      have hf : isShp d e = false := by
        refine Bool.eq_false_iff.mpr fun z => ?_
        obtain ⟨z1, z2⟩ := isShp_ok z
        match i, hx with
        | 0, hx =>
          have hx : d = x := Option.some.inj hx
          rw [hx, hb] at z1
          cases z1
        | 1, hx =>
          have hx : e = x := Option.some.inj hx
          rw [hx, hb] at z2
          cases z2
        | i + 2, hx => cases hx
      show some (Res.err _) = some (needR (isShp d e) IS (.ok .non))
      rw [hf]
      rfl
    · refine ⟨fun y hy => ?_, .inr rfl, .inr rfl, .inl rfl, True.intro⟩
      rw [List.take_add_one, hx] at hy
      rcases List.mem_append.mp hy with z | z
      · exact h1 y z
      · have z : y ∈ [x] := z
        rw [List.mem_singleton.mp z]
        exact nf hb
  · refine SS.weak ?_ hw
    obtain ⟨r, rfl, r1, r2⟩ := okI_int (h1 d List.mem_cons_self)
    obtain ⟨c, rfl, c1, c2⟩ := okI_int (h1 e (List.mem_cons_of_mem _ List.mem_cons_self))
    have hs : isShp (.int r) (.int c) = (decide (2 ≤ r * c) && decide (r * c ≤ 6)) := by
      show ((decide (1 ≤ r) && decide (r ≤ 6)) && (decide (1 ≤ c) && decide (c ≤ 6)) && _) = _
      rw [decide_eq_true r1, decide_eq_true r2, decide_eq_true c1, decide_eq_true c2]
      rfl
    refine ss_one (s_if (t_not (t_chain op_le op_le o_le o_le d_int (d_mul (.inl ⟨by omega, by omega⟩) (dv 0 rfl) (dv 1 rfl)) d_int)) (fun hb => ss_one (s_raise X1 tk_cx ?_)) (fun hb => ss_nil ?_))
    · show some (Res.err _) = some (needR (isShp (.int r) (.int c)) IS (.ok .non))
      rw [hs, nt hb]
      rfl
    · show some (Res.ok _) = some (needR (isShp (.int r) (.int c)) IS (.ok .non))
      rw [hs, nf hb]
      rfl
/-! ### in_sequence, first -/
def fstF (r c : Nat) : Fm := chunk lets c r
theorem fst_ok : ∀ s ∈ shps, isFm (fstF s.1 s.2) = true ∧ (fstF s.1 s.2).length = s.1 ∧ wid (fstF s.1 s.2) = s.2 := by decide +kernel
theorem isShp_nat {d e : Dat} (h : isShp d e = true) : ∃ r c : Nat, d = .int r ∧ e = .int c ∧ (r, c) ∈ shps := by
  obtain ⟨h1, h2⟩ := isShp_ok h
  obtain ⟨r, rfl, r1, r2⟩ := okI_int h1
  obtain ⟨c, rfl, c1, c2⟩ := okI_int h2
  have h : (okI (.int r) && okI (.int c) && (decide (2 ≤ r * c) && decide (r * c ≤ 6))) = true := h
  rw [h1, h2, Bool.true_and, Bool.true_and, Bool.and_eq_true] at h
  have p1 := of_decide_eq_true h.1
  have p2 := of_decide_eq_true h.2
  refine ⟨r.toNat, c.toNat, by congr 1; omega, by congr 1; omega, ?_⟩
  have e : ((r.toNat * c.toNat : Nat) : Int) = r * c := by
    rw [Int.natCast_mul, Int.toNat_of_nonneg (by omega), Int.toNat_of_nonneg (by omega)]
  exact shp_mem (by omega) (by omega) (by omega) (by omega)
theorem isShp_of {r c : Nat} (h : (r, c) ∈ shps) : isShp (.int r) (.int c) = true := by
  have z : ∀ s ∈ shps, isShp (.int s.1) (.int s.2) = true := by decide +kernel
  exact z _ h
def C_inseq : List Dat → Res → Prop := fun as x => ∃ r c : Nat, as = [.int r, .int c] ∧ (r, c) ∈ shps ∧ x = .ok (F_ (fstF r c))
abbrev N_isq : List Str := ["ranks", "files", "rank"]
theorem sc_in_sequence : FnScope N_isq ["ranks", "files"] (defScope s_in_sequence) := ⟨rfl, rfl, rfl, by decide +kernel, rfl, by decide +kernel, by decide +kernel⟩
theorem c_in_sequence {t : Tok} (B : Bi mg) (hL : mg "LETTERS" = some (.str (mkS lets) t)) (h : At K mg "in_sequence" s_in_sequence) : FnC P w K mg base "in_sequence" ["ranks", "files"] C_inseq 1 := by
  refine h.c1 (fun _ _ _ _ _ _ us hl => match us, hl with | [_, _], _ => rfl) fun f fd F => fnC_ok F sc_in_sequence (fun as r ⟨d, n, e, _⟩ => by rw [e]; rfl) fun cdv A outer s H E as x W hM hr ⟨r, c, q, hs, er⟩ => ?_
  subst q er
  have nd := sc_in_sequence.nd
  obtain ⟨a1, a2, a3, a4, a5, a6⟩ := shps_le _ hs
  have a3 : r ≤ 6 := a3
  have a4 : c ≤ 6 := a4
  have a6 : r * c ≤ 6 := a6
  refine ss_one (s_ret (d_tupleL B.tuple (d_lc0 (own := [("rank", 2)]) (is := [2]) (pr := fun _ => True) (bd := bd1 2) (f := fun x => match x with | .int i => .str ((lets.drop (i.toNat * c)).take c) | _ => .non) rfl nd (i_range1 B.range (dv 0 rfl) ⟨by omega, by omega⟩) (blkOk_by (N := N_isq) (sc := defScope s_in_sequence) (by decide +kernel)) (fun _ _ _ _ _ => gt_name nd)
      (fun x hx _ _ _ _ _ => ?_) (fun _ _ => True.intro) (by simp) (by unfold rangeD; rw [List.length_map, List.length_range]; omega))) ?_)
  · unfold rangeD at hx
    obtain ⟨i, hi, rfl⟩ := List.mem_map.mp hx
    have hi := List.mem_range.mp hi
    have hi : i < r := by omega
    have e0 : (0 : Int) + (i : Nat) = ((i : Nat) : Int) := by omega
    rw [e0]
    have hm : (i + 1) * c ≤ r * c := Nat.mul_le_mul_right c hi
    rw [Nat.add_mul] at hm
    have hl6 : lets.length = 6 := rfl
    have e1 : ((i : Nat) : Int) * ((c : Nat) : Int) = ((i * c : Nat) : Int) := (Int.natCast_mul i c).symm
    have e2 : ((i * c : Nat) : Int) + ((c : Nat) : Int) = ((i * c + c : Nat) : Int) := (Int.natCast_add _ _).symm
    refine (d_slS (l := lets) (d_gstr hL rfl) (do_some (d_mul (.inl ⟨by omega, by omega⟩) (dv 2 rfl) (dv 1 rfl))) (do_some (d_add (d_mul (.inl ⟨by omega, by omega⟩) (dv 2 rfl) (dv 1 rfl)) (dv 1 rfl))) (by decide)).is ?_
    rw [e1, e2, cut_ab (by omega) (by omega), Nat.add_sub_cancel_left]
    rfl
  · show some (Res.ok (.tup _)) = some (Res.ok (.tup _))
    congr 3
    unfold rangeD fstF chunk
    rw [List.map_map, List.map_map, Int.sub_zero, Int.toNat_natCast]
    refine List.map_congr_left fun i _ => ?_
    show Dat.str ((lets.drop (((0 : Int) + (i : Nat)).toNat * c)).take c) = Dat.str ((lets.drop (i * c)).take c)
    rw [Int.zero_add, Int.toNat_natCast]
def C_first (IS : Addr) : List Dat → Res → Prop := fun as x => (∃ d e, as = [d, e] ∧ (d.isD = false ∧ e.isD = false) ∧ isShp d e = false ∧ x = .err (.ref IS)) ∨ ∃ r c : Nat, as = [.int r, .int c] ∧ (r, c) ∈ shps ∧ x = .ok (F_ (fstF r c))
abbrev N_fst : List Str := ["ranks", "files"]
theorem sc_first : FnScope N_fst ["ranks", "files"] (defScope s_first) := ⟨rfl, rfl, rfl, by decide +kernel, rfl, by decide +kernel, by decide +kernel⟩
theorem c_first (G1 : FnC P w K mg base "need_shape" ["ranks", "files"] (C_needsh IS) 1) (G2 : FnC P w K mg base "in_sequence" ["ranks", "files"] C_inseq 1) (h : At K mg "first" s_first) : FnC P w K mg base "first" ["ranks", "files"] (C_first IS) 2 := by
  refine h.c1 (fun _ _ _ _ _ _ us hl => match us, hl with | [_, _], _ => rfl) fun f fd F => fnC_ok F sc_first (fun as r z => by rcases z with ⟨d, e, q, _⟩ | ⟨d, e, q, _⟩ <;> rw [q] <;> rfl) fun cdv A outer s H E as x W hM hr z => ?_
  rcases z with ⟨d, e, q, hdd, hf, er⟩ | ⟨r, c, q, hs, er⟩
  · subst q er
    exact ss_cons (s_exprE (d_call G1 (hr.mono (by decide)) pa_cx (da_cons (dv 0 rfl) (da_one (dv 1 rfl))) ⟨d, e, rfl, hdd, by rw [hf]; rfl⟩) rfl)
  · subst q er
    refine ss_cons (s_expr (d := .non) (d_call G1 (hr.mono (by decide)) pa_cx (da_cons (dv 0 rfl) (da_one (dv 1 rfl))) ⟨_, _, rfl, ⟨rfl, rfl⟩, by rw [isShp_of hs]; rfl⟩) ?_)
    exact ss_one (s_ret (d_call G2 (hr.mono (by decide)) pa_cx (da_cons (dv 0 rfl) (da_one (dv 1 rfl))) ⟨r, c, rfl, hs, rfl⟩) rfl)
/-! ### same_effect -/
def sameF (r c : Nat) (o1 o2 : List Nat) : Bool := (aftF (fstF r c) o1).isSome && decide (aftF (fstF r c) o1 = aftF (fstF r c) o2)
inductive C_same (IS IO : Addr) : List Dat → Res → Prop
  | badS (d e x y : Dat) : d.isD = false ∧ e.isD = false → isShp d e = false → C_same IS IO [d, e, x, y] (.err (.ref IS))
  | bad1 (d e x y : Dat) : isShp d e = true → okV x → isOrd x = false → C_same IS IO [d, e, x, y] (.err (.ref IO))
  | bad2 (d e x y : Dat) : isShp d e = true → okV x → okV y → isOrd x = true → isOrd y = false → C_same IS IO [d, e, x, y] (.err (.ref IO))
  | ok (r c : Nat) (o1 o2 : List Nat) : (r, c) ∈ shps → isOrd (.str o1) = true → isOrd (.str o2) = true → C_same IS IO [.int r, .int c, .str o1, .str o2] (.ok (.bl (sameF r c o1 o2)))
theorem C_same.len {IS IO : Addr} {as : List Dat} {r : Res} (h : C_same IS IO as r) : as.length = 4 := by cases h <;> rfl
abbrev N_sme : List Str := ["ranks", "files", "orders", "more", "made"]
theorem okn_opt {f : Fm} {os : List Nat} (hf : isFm f = true) : okn 9 (optF (aftF f os)) = true := by
  cases e : aftF f os with
  | none => rfl
  | some g => exact okn_mono (by decide) (okn_F (aft_isFm hf e))
theorem opt_eq (g : Fm) (b : Option Fm) : Dat.eq (F_ g) (optF b) = decide (some g = b) := by
  cases b with
  | none => rfl
  | some g2 =>
    show Dat.eq (F_ g) (F_ g2) = _
    rw [F_eq]
    exact decide_eq_decide.mpr ⟨fun h => by rw [h], fun h => Option.some.inj h⟩
end
end G

set_option Elab.async false
set_option linter.all false
set_option maxRecDepth 100000
namespace G
/-! what one formation shows holds for all of its shape -/
theorem fst_map : ∀ s ∈ shps, fstF s.1 s.2 = mapF (fun n => n + 97) (idF s.1 s.2) := by decide +kernel
theorem lets_lt : ∀ n, n < 7 → ∀ y ∈ lets.take n, y < 97 + n := by decide +kernel
theorem lt_aft {r c : Nat} {os : List Nat} {g0 : Fm} (hs : (r, c) ∈ shps) (h : aftF (idF r c) os = some g0) : ltF (r * c) g0 = true := by
  have hf := (fst_ok _ hs).1
  have hl := (fst_ok _ hs).2.1
  have hw := (fst_ok _ hs).2.2
  have e : aftF (fstF r c) os = some (mapF (fun n => n + 97) g0) := by
    rw [fst_map _ hs]
    show aftF (mapF _ (idF r c)) os = _
    rw [aftF_nat, h]
    rfl
  have hg := aft_isFm hf e
  have s := isFm_sh hf
  have fl : (fstF r c).flatten.length = r * c := by
    have z := s.flat
    rw [show (fstF r c).length = r from hl, show wid (fstF r c) = c from hw] at z
    exact z
  obtain ⟨_, _, _, a4, a5, a6⟩ := shps_le _ hs
  unfold ltF
  rw [List.all_eq_true]
  intro l hm
  rw [List.all_eq_true]
  intro x hx
  have m1 : x + 97 ∈ (mapF (fun n => n + 97) g0).flatten := by
    rw [mapF_flat]
    exact List.mem_map_of_mem (List.mem_flatten.mpr ⟨l, hm, hx⟩)
  have srt := (isFm_len hg).2.2.2.2.2
  rw [← (sortN_perm _).mem_iff, srt, (aft_perm hf e).length_eq, fl] at m1
  have a6 : r * c ≤ 6 := a6
  have := lets_lt (r * c) (by omega) _ m1
  exact decide_eq_true (by omega)
theorem aft_eq {f : Fm} {r c : Nat} (s : Sh f r c) (o1 o2 : List Nat) : (aftF f o1 = aftF f o2) ↔ (aftF (idF r c) o1 = aftF (idF r c) o2) := by
  rw [aft_sh s, aft_sh s]
  refine ⟨fun h => ?_, fun h => by rw [h]⟩
  cases e1 : aftF (idF r c) o1 with
  | none =>
    cases e2 : aftF (idF r c) o2 with
    | none => rfl
    | some g2 =>
      rw [e1, e2] at h
      cases h
  | some g1 =>
    cases e2 : aftF (idF r c) o2 with
    | none =>
      rw [e1, e2] at h
      cases h
    | some g2 =>
      rw [e1, e2] at h
      have h := Option.some.inj h
      rw [mapF_inj s (lt_aft s.mem e1) (lt_aft s.mem e2) h]
theorem aft_eq2 {f g : Fm} {r c : Nat} (s : Sh f r c) (s2 : Sh g r c) (o1 o2 : List Nat) : decide (aftF f o1 = aftF f o2) = decide (aftF g o1 = aftF g o2) := decide_eq_decide.mpr ((aft_eq s o1 o2).trans (aft_eq s2 o1 o2).symm)
theorem some_eq2 {f g : Fm} {r c : Nat} (s : Sh f r c) (s2 : Sh g r c) (os : List Nat) : (aftF f os).isSome = (aftF g os).isSome := by
  rw [aft_sh s, aft_sh s2]
  cases aftF (idF r c) os <;> rfl
end G

set_option Elab.async false
set_option linter.all false
set_option maxRecDepth 100000
set_option maxHeartbeats 2000000
namespace G
open PySem PySem.Spec PyProof.Rows L2 TL LamX
theorem okn_err {nm : List Nat} (h : (nm.all fun c => Nat.blt c 1114112) = true) : okn 9 (errD nm) = true := by
  show ((errC.all fun c => Nat.blt c 1114112) && ((nm.all fun c => Nat.blt c 1114112) && true)) = true
  rw [h]
  rfl
theorem kinds_ok : ∀ i, i < 9 → ((kinds.getD i []).all fun c => Nat.blt c 1114112) = true := by decide +kernel
theorem aft_one (f : Fm) (o : Nat) : aftF f [o] = mvF f o := by
  show (mvF f o).bind (fun g => some g) = mvF f o
  cases mvF f o <;> rfl
theorem some_sh {f : Fm} {r c : Nat} (s : Sh f r c) (os : List Nat) : (aftF f os).isSome = (aftF (idF r c) os).isSome := by
  rw [aft_sh s]
  cases aftF (idF r c) os <;> rfl
theorem bl_ne {a b : Bool} (h : a = b) : (!Dat.eq (.bl a) (.bl b)) = false := by
  subst h
  cases a <;> rfl
theorem no_ne {x y : Dat} (h : x = y) (ok : okn 9 x = true) : (!Dat.eq x y) = false := by
  subst h
  rw [Dat.eq_refl x ok]
  rfl
theorem okF {f : Fm} (h : isFm f = true) : okn 9 (F_ f) = true := okn_mono (by decide) (okn_F h)
/-! tests whose answer hangs on the dice -/
def tEX (K : PySem.W.Frag) (W : Wl) (ρ : List Sl) (S : Bool → Prop) : TT := fun σ H Q => ∃ B, Wd W B H ∧ EnvR K B H σ ρ ∧ ∀ b H' B', S b → Wd W B' H' → EnvR K B' H' σ ρ → Sm (mask B H) (mask B' H') → Q b H'
abbrev TX (X : Cx) (W : Wl) (e : Expr) (ρ : List Sl) (S : Bool → Prop) : Prop := PT X e (tEX X.K W ρ S)
section
variable {X : Cx} {E : XK} {W : Wl} {ρ : List Sl} {P : Out → Prop}
theorem tx_cmp {a b : Expr} {op : CmpOp} {r : R2} {S1 S2 : Dat → Prop} {S : Bool → Prop} {pos : Pos} (hr : OpR X (compareOp op) r) (ho : ∀ x y, S1 x → S2 y → ∃ z, S z ∧ Op2 X.K r x y (.bl z)) (ha : DE X W a ρ S1) (hb : DE X W b ρ S2) (hm : behindInMarks op b = false := by first | exact nomark _ | rfl) : TX X W (.Compare a [op] [b] pos) ρ S :=
  pt_imp (pt_cmpR hr ha hb hm) fun σ H Q ⟨B, w, en, q⟩ => ⟨B, w, en, fun vx H1 B1 x h1 w1 en1 m1 rx => ⟨B1, w1, en1, fun vy H2 B2 y h2 w2 en2 m2 ry => by
    obtain ⟨z, hz, oz⟩ := ho x y h1 h2
    exact oz B2 H2 vx vy _ w2.cov (rx.monoN m2) ry fun v H3 s3 rv => ⟨z, rp_bl rv, q z H3 B2 hz (w2.same s3) (en2.same s3) ((m1.trans m2).trans (Sm.of (mask_same s3)))⟩⟩⟩
theorem tx_eq {a b : Expr} {S1 S2 : Dat → Prop} {S : Bool → Prop} {pos : Pos} (hu : X.A.units + 64 < cLine) (ho : ∀ x y, S1 x → S2 y → okn 9 x = true ∧ okn 9 y = true ∧ S (Dat.eq x y)) (ha : DE X W a ρ S1) (hb : DE X W b ρ S2) : TX X W (.Compare a [.Eq] [b] pos) ρ S :=
  tx_cmp (op_eqD hu) (fun x y h1 h2 => let ⟨k1, k2, k3⟩ := ho x y h1 h2; ⟨_, k3, o_eqD k1 k2⟩) ha hb
theorem s_ifX {c : Expr} {th el : List Stmt} {S : Bool → Prop} {pos : Pos} (t : TX X W c ρ S) (h1 : S true → SS X E W th ρ P) (h2 : S false → SS X E W el ρ P) : S1 X E W (.If c th el pos) ρ P := by
  refine ps_imp (ps_if t (pss_ex (ι := PLift (S true)) (t := fun _ => tS X.K E W ρ P) fun q => h1 q.down) (pss_ex (ι := PLift (S false)) (t := fun _ => tS X.K E W ρ P) fun q => h2 q.down)) fun D σ H ⟨B, w, en, p⟩ => ⟨B, w, en, fun b H1 B1 hb w1 en1 m1 => ?_⟩
  cases b with
  | true => exact iteT ⟨⟨hb⟩, B1, w1, en1, p⟩
  | false => exact iteF ⟨⟨hb⟩, B1, w1, en1, p⟩
end
/-! a formation's sizes -/
section
variable {X : Cx} {E : XK} {W : Wl} {ρ : List Sl} {P : Out → Prop}
theorem d_ranks {a : Expr} {g : Fm} {p pos : Pos} (hm : X.mg "len" = none) (ha : D X E a ρ (.ok (F_ g))) (hg : Gl X "len" := by rfl) (he : starEach [a] X.env = (false, eval a X.env) :: starEach [] X.env := by rfl) : D X E (.Call (.Name "len" p) [a] [] pos) ρ (.ok (.int (g.length : Nat))) :=
  (d_lenT hm ha hg he).is (by rw [List.length_map])
theorem d_rank {a b : Expr} {g : Fm} {i : Nat} {l : List Nat} {pos : Pos} (h : g[i]? = some l) (ha : D X E a ρ (.ok (F_ g))) (hb : D X E b ρ (.ok (.int (i : Nat)))) (hs : PlainIx b := by exact fun _ _ => rfl) : D X E (.Subscript a b pos) ρ (.ok (.str l)) :=
  d_ixT (xs := g.map Dat.str) ha hb (atI_nat (j := i) (by rw [List.getElem?_map, h]; rfl)) hs
theorem d_files {a : Expr} {g : Fm} {j : Nat} {p p2 p3 pos : Pos} (hm : X.mg "len" = none) (hf : isFm g = true) (ha : D X E a ρ (.ok (F_ g))) (hg : Gl X "len" := by rfl) (he : starEach [.Subscript a (.Constant (.int 0) j p2) p3] X.env = (false, eval (.Subscript a (.Constant (.int 0) j p2) p3) X.env) :: starEach [] X.env := by rfl) : D X E (.Call (.Name "len" p) [.Subscript a (.Constant (.int 0) j p2) p3] [] pos) ρ (.ok (.int (wid g : Nat))) := by
  have h1 := (isFm_len hf).1
  have h2 := (isFm_wid hf)
  cases g with
  | nil => simp at h1
  | cons l r =>
    have e : wid (l :: r) = l.length := rfl
    have h3 := (isFm_len hf).2.2.2.2.1
    have h4 : l.length ≤ 6 := by
      have z := h3
      rw [List.flatten_cons, List.length_append] at z
      omega
    rw [e]
    exact d_lenS hm (d_rank (i := 0) rfl ha d_int) (by omega) hg he
/-- one of a written list, by the dice -/
theorem de_pick {a b : Expr} {xs : List Dat} {m : Int} {pos : Pos} (ha : DE X W a ρ (fun d => d = .lst xs)) (hb : DE X W b ρ (fun d => ∃ k : Nat, d = .int k ∧ (k : Int) < m)) (hm : m = xs.length) (hs : PlainIx b := by exact fun _ _ => rfl) : DE X W (.Subscript a b pos) ρ (fun d => d ∈ xs) :=
  de_ix ix_list (fun x y e1 ⟨k, e2, hk⟩ => by
    subst e1 e2
    have hl : k < xs.length := by omega
    exact ⟨xs[k], List.getElem_mem hl, o_ixL (atI_nat (List.getElem?_eq_getElem hl))⟩) ha hb hs
theorem de_pickS {a b : Expr} {l : List Nat} {m : Int} {pos : Pos} (ha : DE X W a ρ (fun d => d = .str l)) (hb : DE X W b ρ (fun d => ∃ k : Nat, d = .int k ∧ (k : Int) < m)) (hm : m = l.length) (hl : l.length ≤ 100000) (hs : PlainIx b := by exact fun _ _ => rfl) : DE X W (.Subscript a b pos) ρ (fun d => ∃ c ∈ l, d = .str [c]) :=
  de_ix ix_str (fun x y e1 ⟨k, e2, hk⟩ => by
    subst e1 e2
    have hk : k < l.length := by omega
    exact ⟨_, ⟨l[k], List.getElem_mem hk, rfl⟩, o_ixS hl (atI_nat (List.getElem?_eq_getElem hk))⟩) ha hb hs
theorem de_addS {a b : Expr} {S1 S2 : List Nat → Prop} {S : Dat → Prop} {pos : Pos} (ha : DE X W a ρ (fun d => ∃ l, d = .str l ∧ S1 l)) (hb : DE X W b ρ (fun d => ∃ l, d = .str l ∧ S2 l)) (h : ∀ l m, S1 l → S2 m → l.length + m.length ≤ 100000 ∧ S (.str (l ++ m))) : DE X W (.BinOp a .Add b pos) ρ S :=
  de_op op_add_str (fun x y ⟨l, e1, h1⟩ ⟨m, e2, h2⟩ => by
    subst e1 e2
    refine ⟨_, (h l m h1 h2).2, fun B H vx vy Q c rx ry q => ⟨_, _, rp_str rx, rp_str ry, ?_, ?_⟩⟩
    · rw [len_mk, len_mk]
      exact Nat.le_trans (h l m h1 h2).1 (by decide)
    · rw [mk_app]
      exact q _ H (Same.refl H) (.str _)) ha hb
end
theorem optF_eq (a b : Option Fm) : Dat.eq (optF a) (optF b) = decide (a = b) := by
  cases a with
  | none => cases b <;> rfl
  | some g =>
    cases b with
    | none => rfl
    | some g2 =>
      show Dat.eq (F_ g) (F_ g2) = _
      rw [F_eq]
      exact decide_eq_decide.mpr ⟨fun h => by rw [h], fun h => Option.some.inj h⟩
theorem de_mono {X : Cx} {W : Wl} {e : Expr} {ρ : List Sl} {S S' : Dat → Prop} (h : DE X W e ρ S') (k : ∀ d, S' d → S d) : DE X W e ρ S := pe_imp h fun σ H Q ⟨B, w, en, q⟩ => ⟨B, w, en, fun v H' B' d hd => q v H' B' d (k d hd)⟩
section
variable {X : Cx} {E : XK} {W : Wl} {ρ : List Sl} {P : Out → Prop}
theorem te_or {a b : Expr} {rest : List Expr} {x y : Bool} {pos : Pos} (h : TE1 X W a ρ x) (h2 : x = false → TEW X W (.BoolOp .Or (b :: rest) pos) ρ y) : TEW X W (.BoolOp .Or (a :: b :: rest) pos) ρ (x || y) := by
  cases x with
  | true =>
    refine pw_imp (pw_or h pw_no) fun σ H Q ⟨B, w, en, q⟩ => ⟨B, w, en, fun H1 B1 w1 en1 m1 => ?_⟩
    refine iteT ?_
    exact q H1 B1 w1 en1 m1
  | false =>
    refine pw_imp (pw_or h (h2 rfl)) fun σ H Q ⟨B, w, en, q⟩ => ⟨B, w, en, fun H1 B1 w1 en1 m1 => ?_⟩
    refine iteF ?_
    exact ⟨B1, w1, en1, fun H2 B2 w2 en2 m2 => q H2 B2 w2 en2 (m1.trans m2)⟩
end
/-! is True, is False -/
theorem op_isB2 {X : Cx} : OpR X (compareOp .Is) (fun x y H Q => ∃ b, y = .bl b ∧ ((∃ a, x = .bl a ∧ Q (.bl (decide (a = b))) H) ∨ ∃ r, x = .ref r ∧ Q (.bl false) H)) := by
  intro pins s σ H x y v u Q I rx ry h
  obtain ⟨b, rfl, h⟩ := h
  cases (show u = Value.bool b from ry)
  rcases h with ⟨a, rfl, q⟩ | ⟨r, rfl, q⟩
  · cases (show v = Value.bool a from rx)
    by_cases e : a = b
    · subst e
      exact wpAny_is_self rfl ⟨.bl true, H, I, rfl, by simpa using q⟩
    · exact wpAny_is_other rfl (fun z => e (Value.bool.inj z)) ⟨.bl false, H, I, rfl, by simpa [e] using q⟩
  · cases (show v = Value.ref r from rx)
    exact wpAny_is_other rfl (fun z => by cases z) ⟨.bl false, H, I, rfl, q⟩
theorem t_isB {X : Cx} {ρ : List Sl} {a : Expr} {x b : Bool} {j : Nat} {p pos : Pos} (ha : D X E0 a ρ (.ok (.bl x))) : T X (.Compare a [.Is] [.Constant (.bool b) j p] pos) ρ (decide (x = b)) :=
  t_cmp op_isB2 (fun B H vx vy Q c rx ry q => ⟨b, rp_bl ry, .inl ⟨x, rp_bl rx, q _ H (Same.refl H) (.bl _)⟩⟩) ha (d_bl (E := E0))
theorem t_isBT {X : Cx} {ρ : List Sl} {a : Expr} {xs : List Dat} {b : Bool} {j : Nat} {p pos : Pos} (ha : D X E0 a ρ (.ok (.tup xs))) : T X (.Compare a [.Is] [.Constant (.bool b) j p] pos) ρ false :=
  t_cmp op_isB2 (fun B H vx vy Q c rx ry q => by
    cases rx with
    | tup h r => exact ⟨b, rp_bl ry, .inr ⟨_, rfl, q _ H (Same.refl H) (.bl _)⟩⟩) ha (d_bl (E := E0))
end G

set_option Elab.async false
set_option linter.all false
set_option maxRecDepth 100000
set_option maxHeartbeats 4000000
namespace G
open PySem PySem.Spec PyProof.Rows L2 TL LamX
/-- the start of a law with one table -/
theorem end_lawT {K : PySem.W.Frag} {H : Hp} {a Pt : Addr} {q : Str} {ns : List Int} (hl : ns.length ≤ 63) (hT : H Pt = some (.tbl #[])) (hS : SqL K H a (ns.map V.int)) : spL K [(Pt, q)] [.ref a] H (fun v _ => v = .bl true) fun _ _ _ => False := by
  have out : ∀ (o : HO), H a = some o → (∀ ps, o ≠ .tbl ps) → mask (fun b => decide (b = Pt)) H a = some o := fun o h n => by
    rw [mask_out]
    · exact h
    · refine decide_eq_false fun z => ?_
      rw [z, hT] at h
      exact n _ (Option.some.inj h).symm
  refine ⟨fun b => decide (b = Pt), ns, fun b hb n => ?_, .cons (.scr ?_) .nil, by omega, fun p hp => ?_, fun b hb => ?_, fun b ps hb _ => ?_, fun _ => rfl⟩
  · rw [of_decide_eq_true hb, hT] at n
    rcases n with n | ⟨_, n⟩ <;> cases n
  · rcases hS with (h | ⟨o, h⟩) | h
    · exact .inl (.inl (out _ h fun _ z => by cases z))
    · exact .inl (.inr ⟨o, out _ h fun _ z => by cases z⟩)
    · exact .inr h
  · rw [List.mem_singleton.mp hp]
    exact TabS.nil hT
  · exact decide_eq_true (List.mem_singleton.mp hb)
  · exact List.mem_singleton.mpr (of_decide_eq_true hb)
end G

set_option Elab.async false
set_option linter.all false
set_option maxRecDepth 100000
set_option maxHeartbeats 4000000
namespace G
open PySem PySem.Spec PyProof.Rows L2 TL
/-! ### dicts whose keys are formations -/
def kF (g : Fm) : List Key := g.map fun l => Sum.inr (mkS l)
theorem kF_map (g : Fm) : (kF g).map kV = (g.map fun l => (⟨l.toArray⟩ : Str)).map V.str := by
  unfold kF
  rw [List.map_map, List.map_map]
  rfl
theorem mkS_inj {l m : List Nat} (h : mkS l = mkS m) : l = m := by
  have e1 := congrArg (fun s : Str => s.cps.toList) h
  simpa using e1
theorem kF_inj : ∀ {f g : Fm}, kF f = kF g → f = g
  | [], [], _ => rfl
  | [], _ :: _, h => by cases h
  | _ :: _, [], h => by cases h
  | a :: f, b :: g, h => by
    have h : (Sum.inr (mkS a) : Key) :: kF f = Sum.inr (mkS b) :: kF g := h
    injection h with h1 h2
    rw [mkS_inj (Sum.inr.inj h1), kF_inj h2]
theorem rp_F {K : PySem.W.Frag} {H : Hp} {v : V} {g : Fm} (h : Rp K H v (F_ g)) : ∃ b, v = .ref b ∧ H b = some (.tup ((kF g).map kV)) := by
  cases h with
  | @tup a vs _ h r =>
    rw [rpA_strs r, ← kF_map] at h
    exact ⟨a, rfl, h⟩
theorem rp_ofF {K : PySem.W.Frag} {H : Hp} {b : Addr} {g : Fm} (h : H b = some (.tup ((kF g).map kV))) : Rp K H (.ref b) (F_ g) := by
  rw [kF_map] at h
  refine .tup h ?_
  induction g with
  | nil => exact .nil
  | cons l g ih =>
    have z : ∀ g : Fm, RpA K H ((g.map fun l => (⟨l.toArray⟩ : Str)).map V.str) (g.map Dat.str) := fun g => by
      induction g with
      | nil => exact .nil
      | cons a r ih => exact .cons (.str a) ih
    exact z _
section
variable {X : Cx} {E : XK} {W : Wl} {ρ : List Sl} {P : Out → Prop}
/-! {k: v} -/
def tDispT (tk tv : TE) : TE := fun σ H Q => ∀ p, H p = none → tk σ (upd H p (.dT [])) fun x H1 => tv σ H1 fun y H2 => H2 p = some (.dT []) ∧ ∃ (k : List Key) (b : Addr), x = .ref b ∧ H2 b = some (.tup (k.map kV)) ∧ Q (.ref p) (upd H2 p (.dT [(k, y)]))
def onePair (R : V → V → Hp → Prop) : List (V × V) → Hp → Prop
  | [(x, y)], H => R x y H
  | _, _ => False
theorem onePair_of {R : V → V → Hp → Prop} : ∀ {ps : List (V × V)} {H : Hp}, onePair R ps H → ∃ x y, ps = [(x, y)] ∧ R x y H
  | [], _, h => h.elim
  | [(x, y)], _, h => ⟨x, y, rfl, h⟩
  | _ :: _ :: _, _, h => h.elim
theorem pe_dispT {k v : Expr} {tk tv : TE} {pos : Pos} (hu : X.A.units + 1 < cLine) (hk : PE X k tk) (hv : PE X v tv) : PE X (.Dict [some k] [v] pos) (tDispT tk tv) := by
  refine ⟨fun pins s σ H Q I q => ?_⟩
  have hn := I.hok.fresh (Nat.le_refl s.heap.objs.size)
  have I1 := I.laid (a := s.heap.objs.size) (o := .dT []) (h' := s.heap.push { cls := .type "dict", data := .dict #[] }) (t' := s.toks) (fun _ _ q => Heap.get?_push_of_some _ q) (Nat.le_refl _) (dt_empty s.heap I.big)
  refine wpAny_Dict_any rfl rfl (by simp) (by simp) (thn ((pps_cons (pos := pos) hk hv pps_nil).run pins _ σ _ (onePair fun x y H2 => H2 s.heap.objs.size = some (.dT []) ∧ ∃ (k : List Key) (b : Addr), x = .ref b ∧ H2 b = some (.tup (k.map kV)) ∧ Q (.ref s.heap.objs.size) (upd H2 s.heap.objs.size (.dT [(k, y)]))) I1 (q _ hn)) fun ws s2 ⟨ps, H2, I2, rel, z⟩ => ?_)
  obtain ⟨x, y, ep, e, kk, b, ex, eb, q2⟩ := onePair_of z
  subst ep ex
  cases rel with
  | @cons p q' ps qs hr t =>
    cases t
    obtain ⟨u, r⟩ := q'
    obtain ⟨ru, rv⟩ := hr
    obtain rfl : u = Value.ref b := ru
    obtain ⟨z, hd, xs, rl, dd⟩ := dt_of I2.hok e
    cases rl
    unfold storeAll
    rw [List.forIn_cons]
    refine wpAny_bind (wpAny_bind (wpAny_dictSet_heap (hsz := by show (0 : Nat) ≤ _; omega) (knd := tupleKind (mixKind X.prog X.w)) (Nat.lt_of_succ_lt hu) (key_of I2.hok eb) dd fun h' dd' hs => wpAny_pure ?_))
    show wpAny _ _ (forIn [] _ _) _ _ _
    rw [List.forIn_nil]
    refine wpAny_pure ?_
    obtain ⟨q, es, ep, hq, h2, h3, h4, _, h5⟩ := dd'
    refine ⟨.ref s.heap.objs.size, _, ?_, rfl, q2⟩
    refine d_write I2 (by rw [e]; exact True.intro) hs ⟨q, hq⟩ ⟨by show (1 : Nat) ≤ sizeLine; decide, hd, _, (KT.put (H := H2) (kvs := []) (xs := []) .nil kk eb rv).keeps fun c ys ec => ?_, q, es, ep, hq, h2, h3, h4, h5⟩
    rw [upd_ne (ne_of ec e (fun z => nomatch z))]
    exact ec
/-! a thing is written no more -/
def tFrz (t : TE) : TE := fun σ H Q => t σ H fun v H1 => ∃ d u, v = .ref d ∧ H1 d = some u ∧ Mut (some u) ∧ ∀ od, Q v (upd H1 d (.frz od u))
theorem pe_frz {e : Expr} {t : TE} (h : PE X e t) : PE X e (tFrz t) := ⟨fun pins s σ H Q I q => thn (h.run pins s σ H _ I q) fun u s1 ⟨x, H1, I1, r, d, ho, ex, hd, mu, q2⟩ => let ⟨od, I2⟩ := I1.lock hd mu; ⟨x, _, I2, r, q2 od⟩⟩
theorem EnvR.md {K : PySem.W.Frag} {B : Addr → Bool} {H : Hp} {σ : L2.St} {ρ : List Sl} {i : Nat} {a : Addr} {kvs : List (List Key × V)} (e : EnvR K B H σ ρ) (h : ρ[i]? = some (.md a kvs)) : σ[i]? = some (some (.ref a)) ∧ B a = true ∧ H a = some (.dT kvs) := by
  obtain ⟨o, h1, h2⟩ := e.at_ i _ h
  cases o with
  | none => exact h2.elim
  | some v =>
    obtain ⟨e1, e2, e3⟩ := h2
    rw [e1] at h1
    exact ⟨h1, e2, e3⟩
/-- return d, d a dict of one's own -/
theorem s_retMd {i : Nat} {x : Str} {a : Addr} {kvs : List (List Key × V)} {px pos : Pos} (hi : ρ[i]? = some (.md a kvs)) (hx : PE X (.Name x px) (tVar i)) (hr : Wr W a) (hM : W.M a = false) (q : P (.rt (.dic kvs))) : S1 X E W (.Return (some (.Name x px)) pos) ρ P :=
  ps_imp (ps_ret (pe_frz hx)) fun D σ H ⟨B, w, en, p⟩ => by
    obtain ⟨h1, hb, h3⟩ := en.md hi
    refine ⟨_, h1, a, .dT kvs, rfl, h3, True.intro, fun od => ?_⟩
    refine p.rt (.dic kvs) _ _ (fun b => B b && !decide (b = a)) q ((w.write hr hb h3 rfl rfl).freeze (hr.b0 hM) hr.2) (.dic (od := od) ?_)
    rw [mask_out (by simp), upd_same]
/-- d[k] -/
theorem d_getMd {i : Nat} {x : Str} {e : Expr} {g : Fm} {a : Addr} {kvs : List (List Key × V)} {v : V} {d : Dat} {px pos : Pos} (hu : X.A.units + 64 < cLine) (hi : ρ[i]? = some (.md a kvs)) (hx : PE X (.Name x px) (tVar i)) (he : D X E e ρ (.ok (F_ g))) (hv : valV kvs (kF g) = some v) (hd : ∀ H, Rp X.K H v d)
    (hs : NoSl e := by exact fun _ _ => rfl) : D X E (.Subscript (.Name x px) e pos) ρ (.ok d) :=
  D.of (pe_dget (by omega) hx he hs) fun B σ H Q c en q => by
    obtain ⟨h1, hb, h3⟩ := en.md hi
    refine ⟨_, h1, B, c, en, fun vy H2 s2 ry => ?_⟩
    obtain ⟨b, rfl, hk⟩ := rp_F ry
    exact ⟨a, v, rfl, by rw [← hv]; exact DGet.t (s2 _ _ h3) (mask_sub B H2 _ _ hk), q v H2 s2 (hd _)⟩
/-- k not in d -/
theorem t_notinMd {i : Nat} {x : Str} {e : Expr} {g : Fm} {a : Addr} {kvs : List (List Key × V)} {px pos : Pos} (hu : X.A.units + 64 < cLine) (hi : ρ[i]? = some (.md a kvs)) (hx : PE X (.Name x px) (tVar i)) (he : D X E0 e ρ (.ok (F_ g))) : T X (.Compare e [.NotIn] [.Name x px] pos) ρ (!(valV kvs (kF g)).isSome) :=
  pt_imp (pt_cmp (pc_dnotin (by omega) he hx) rfl) fun σ H Q ⟨B, c, en, q⟩ => ⟨B, c, en, fun vy H1 s1 ry => by
    obtain ⟨h1, hb, h3⟩ := en.md hi
    obtain ⟨b, rfl, hk⟩ := rp_F ry
    exact ⟨_, h1, a, _, rfl, DGet.t (s1 _ _ h3) (mask_sub B H1 _ _ hk), _, rfl, q H1 s1⟩⟩
/-- d[k] = e -/
theorem s_putMd (i : Nat) {x : Str} {k e : Expr} {g : Fm} {a : Addr} {kvs : List (List Key × V)} {u : V} {d : Dat} {px p2 pos : Pos} (hu : X.A.units + 64 < cLine) (hi : ρ[i]? = some (.md a kvs)) (hr : Wr W a) (hx : PE X (.Name x px) (tVar i)) (hk : D X E k ρ (.ok (F_ g))) (he : D X E e ρ (.ok d)) (hval : ∀ H w, Rp X.K H w d → w = u) (hl : kvs.length < 100000)
    (q : P (.nx (ρ.set i (.md a (putK kvs (kF g) u))))) (hs : swapsWith e (some (.Subscript (.Name x px) k p2)) pos.line X.env = pure false := by rfl) : S1 X E W (.Assign [.Subscript (.Name x px) k p2] e pos) ρ P :=
  ps_imp (ps_dput (by omega) hx hk he hs) fun D σ H ⟨B, w, en, p⟩ => ⟨B, w.cov, en, fun v H1 s1 rv => by
    obtain ⟨h1, hb, h3⟩ := (en.same s1).md hi
    refine ⟨_, h1, B, (w.same s1).cov, en.same s1, fun vy H2 s2 ry => ?_⟩
    obtain ⟨b, rfl, hkk⟩ := rp_F ry
    have ev := hval _ _ rv
    subst ev
    refine ⟨a, _, rfl, DPut.t (s2 _ _ h3) (mask_sub B H2 _ _ hkk) (Nat.lt_trans hl (by decide)), ?_⟩
    exact p.nx _ σ _ B q (((w.same s1).same s2).write hr hb (s2 _ _ h3) rfl rfl) (((en.same s1).same s2).write hi rfl h1 hb ⟨rfl, hb, upd_same⟩ rfl)⟩
/-! the start: x, y = {k: v}, e -/
theorem same_two {H H2 : Hp} {p : Addr} {o o2 : HO} (s : Same (upd H p o2) H2) (np : H p = none) : Same (upd H p o) (upd H2 p o) := fun b x e => by
  by_cases h : b = p
  · rw [h, upd_same] at e ⊢
    exact e
  · rw [upd_ne h] at e ⊢
    exact s _ _ (by rw [upd_ne h]; exact e)
theorem EnvR.fresh {K : PySem.W.Frag} {B : Addr → Bool} {H : Hp} {σ : L2.St} {ρ : List Sl} {p : Addr} {o : HO} (e : EnvR K B H σ ρ) (np : H p = none) : EnvR K (fun a => B a || decide (a = p)) (upd H p o) σ ρ := by
  refine e.grow (fun a h => by rw [h]; rfl) (same_upd np) fun a x h => ?_
  obtain ⟨h1, h2⟩ := mask_some h
  have ne : a ≠ p := ne_of_none h2 np
  rw [mask_out (by rw [h1, decide_eq_false ne]; rfl), upd_ne ne]
  exact h2
/-- the reading of {k: v}, then of what stands behind it -/
theorem disp_run {k v : Expr} {g : Fm} {dv : Dat} {u : V} {B : Addr → Bool} {σ : L2.St} {H : Hp} {Q : VK} (w : Wd W B H) (en : EnvR X.K B H σ ρ) (hval : ∀ H w, Rp X.K H w dv → w = u)
    (q : ∀ p H', H p = none → Wd W (fun a => B a || decide (a = p)) H' → EnvR X.K (fun a => B a || decide (a = p)) H' σ ρ → Wr W p → Same (upd H p (.dT [(kF g, u)])) H' → Q (.ref p) H') : tDispT (tD X.K E ρ (.ok (F_ g))) (tD X.K E ρ (.ok dv)) σ H Q := fun p np => by
  have w1 : Wd W (fun a => B a || decide (a = p)) (upd H p (.dT [])) := w.own np rfl
  have hr := w.new np
  have hbp : (B p || decide (p = p)) = true := by simp
  refine ⟨_, w1.cov, en.fresh np, fun vx H1 s1 rx => ⟨_, w1.cov.same s1, (en.fresh np).same s1, fun vy H2 s2 ry => ?_⟩⟩
  have hp : H2 p = some (.dT []) := s2 _ _ (s1 _ _ upd_same)
  obtain ⟨b, rfl, hk⟩ := rp_F rx
  have ev := hval _ _ ry
  subst ev
  have w2 := ((w1.same s1).same s2).write (o := .dT [(kF g, vy)]) hr hbp hp rfl rfl
  refine ⟨hp, kF g, b, rfl, s2 _ _ (mask_sub _ H1 _ _ hk), q p _ np w2 ?_ hr (same_two (s1.trans s2) np)⟩
  exact (en.fresh (o := .dT [(kF g, vy)]) np).same (same_two (s1.trans s2) np)
theorem s_parMd {i j : Nat} {x y : Str} {k v b : Expr} {g : Fm} {dv db : Dat} {u : V} {px py pt pd : Pos} {kt k2 : Nat} {pt2 pos : Pos} (hu : X.A.units + 64 < cLine) (h2 : ∀ ta, PA X [.Dict [some k] [v] pd, b] ta → PS X (.Assign [.Tuple [.Name x px, .Name y py] kt pt] (.Tuple [.Dict [some k] [v] pd, b] k2 pt2) pos) (tPar i j ta))
    (hk : D X E k ρ (.ok (F_ g))) (hv : D X E v ρ (.ok dv)) (hval : ∀ H w, Rp X.K H w dv → w = u) (hb : D X E b ρ (.ok db)) (q : ∀ a, Wr W a → P (.nx ((ρ.set i (.md a [(kF g, u)])).set j (.dt db))))
    (hs1 : starEach [.Dict [some k] [v] pd, b] X.env = (false, eval (.Dict [some k] [v] pd) X.env) :: starEach [b] X.env := by rfl) (hs2 : starEach [b] X.env = (false, eval b X.env) :: starEach [] X.env := by rfl) : S1 X E W (.Assign [.Tuple [.Name x px, .Name y py] kt pt] (.Tuple [.Dict [some k] [v] pd, b] k2 pt2) pos) ρ P :=
  ps_imp (h2 _ (pa_cons (pe_dispT (by omega) hk hv) (pa_cons hb pa_nil hs2) hs1)) fun D σ H ⟨B, w, en, p⟩ => by
  unfold tPar tCons
  show tDispT (tD X.K E ρ (.ok (F_ g))) (tD X.K E ρ (.ok dv)) σ H _
  refine disp_run (u := u) (k := k) (v := v) w en hval fun a H' na w' en' hr s' => ?_
  exact ⟨_, w'.cov, en', fun vb H4 s4 rb => ⟨_, _, rfl, p.nx _ _ H4 _ (q a hr) (w'.same s4) (EnvR.setD (EnvR.same (en.own w.cov na i (s := .md a [(kF g, u)]) (o := .dT [(kF g, u)]) ⟨rfl, by simp, upd_same⟩) (s'.trans s4)) j rb)⟩⟩
theorem s_par3Md {i j l : Nat} {x y z : Str} {k v b c : Expr} {g : Fm} {dv db dc : Dat} {u : V} {px py pz pt pd : Pos} {kt k2 : Nat} {pt2 pos : Pos} (hu : X.A.units + 64 < cLine) (h2 : ∀ ta, PA X [.Dict [some k] [v] pd, b, c] ta → PS X (.Assign [.Tuple [.Name x px, .Name y py, .Name z pz] kt pt] (.Tuple [.Dict [some k] [v] pd, b, c] k2 pt2) pos) (tPar3 i j l ta))
    (hk : D X E k ρ (.ok (F_ g))) (hv : D X E v ρ (.ok dv)) (hval : ∀ H w, Rp X.K H w dv → w = u) (hb : D X E b ρ (.ok db)) (hc : D X E c ρ (.ok dc)) (q : ∀ a, Wr W a → P (.nx (((ρ.set i (.md a [(kF g, u)])).set j (.dt db)).set l (.dt dc))))
    (hs1 : starEach [.Dict [some k] [v] pd, b, c] X.env = (false, eval (.Dict [some k] [v] pd) X.env) :: starEach [b, c] X.env := by rfl) (hs2 : starEach [b, c] X.env = (false, eval b X.env) :: starEach [c] X.env := by rfl) (hs3 : starEach [c] X.env = (false, eval c X.env) :: starEach [] X.env := by rfl) : S1 X E W (.Assign [.Tuple [.Name x px, .Name y py, .Name z pz] kt pt] (.Tuple [.Dict [some k] [v] pd, b, c] k2 pt2) pos) ρ P :=
  ps_imp (h2 _ (pa_cons (pe_dispT (by omega) hk hv) (pa_cons hb (pa_cons hc pa_nil hs3) hs2) hs1)) fun D σ H ⟨B, w, en, p⟩ => by
  unfold tPar3 tCons
  show tDispT (tD X.K E ρ (.ok (F_ g))) (tD X.K E ρ (.ok dv)) σ H _
  refine disp_run (u := u) (k := k) (v := v) w en hval fun a H' na w' en' hr s' => ?_
  exact ⟨_, w'.cov, en', fun vb H4 s4 rb => ⟨_, w'.cov.same s4, en'.same s4, fun vc H5 s5 rc => ⟨_, _, _, rfl, p.nx _ _ H5 _ (q a hr) ((w'.same s4).same s5) (EnvR.setD (EnvR.setD (EnvR.same (en.own w.cov na i (s := .md a [(kF g, u)]) (o := .dT [(kF g, u)]) ⟨rfl, by simp, upd_same⟩) ((s'.trans s4).trans s5)) j (rb.mono (mask_same s5))) l rc)⟩⟩⟩
/-- x, y = e, []: the list to grow -/
theorem s_parMl {i j : Nat} {x y : Str} {a : Expr} {da : Dat} {px py pt pl : Pos} {kt k2 : Nat} {pt2 pos : Pos} (h2 : ∀ ta, PA X [a, .List [] pl] ta → PS X (.Assign [.Tuple [.Name x px, .Name y py] kt pt] (.Tuple [a, .List [] pl] k2 pt2) pos) (tPar i j ta))
    (ha : D X E a ρ (.ok da)) (q : ∀ p, Wr W p → P (.nx ((ρ.set i (.dt da)).set j (.ml p []))))
    (hs1 : starEach [a, .List [] pl] X.env = (false, eval a X.env) :: starEach [.List [] pl] X.env := by rfl) (hs2 : starEach [.List [] pl] X.env = (false, eval (.List [] pl) X.env) :: starEach [] X.env := by rfl) : S1 X E W (.Assign [.Tuple [.Name x px, .Name y py] kt pt] (.Tuple [a, .List [] pl] k2 pt2) pos) ρ P :=
  ps_imp (h2 _ (pa_cons ha (pa_cons (pe_lst pa_nil) pa_nil hs2) hs1)) fun D σ H ⟨B, w, en, p⟩ => ⟨B, w.cov, en, fun va H1 s1 ra => ⟨Nat.zero_le _, fun d nd => ⟨_, _, rfl, p.nx _ _ _ _ (q d ((w.same s1).new nd)) ((w.same s1).own nd rfl) (((en.same s1).setD i ra).own (w.same s1).cov nd j ⟨rfl, by simp, [], upd_same, .nil⟩)⟩⟩⟩
/-! ### a dict that is read -/
theorem rp_dic {K : PySem.W.Frag} {H : Hp} {v : V} {kvs : List (List Key × V)} (h : Rp K H v (.dic kvs)) : ∃ a od, v = .ref a ∧ H a = some (.frz od (.dT kvs)) := by
  cases h with
  | dic h => exact ⟨_, _, rfl, h⟩
theorem dg_dic {H : Hp} {a b : Addr} {od : Obj} {kvs : List (List Key × V)} {g : Fm} (h : H a = some (.frz od (.dT kvs))) (hb : H b = some (.tup ((kF g).map kV))) : DGet H a (.ref b) (valV kvs (kF g)) := .inr ⟨kvs, kF g, b, .inr ⟨od, h⟩, rfl, hb, rfl⟩
theorem d_getDic {o e : Expr} {g : Fm} {kvs : List (List Key × V)} {v : V} {d : Dat} {pos : Pos} (hu : X.A.units + 64 < cLine) (ho : D X E o ρ (.ok (.dic kvs))) (he : D X E e ρ (.ok (F_ g))) (hv : valV kvs (kF g) = some v) (hd : ∀ H, Rp X.K H v d) (hs : NoSl e := by exact fun _ _ => rfl) : D X E (.Subscript o e pos) ρ (.ok d) :=
  D.of (pe_dget (by omega) ho he hs) fun B σ H Q c en q => ⟨B, c, en, fun vx H1 s1 rx => ⟨B, c.same s1, en.same s1, fun vy H2 s2 ry => by
    obtain ⟨a, od, rfl, ha⟩ := rp_dic rx
    obtain ⟨b, rfl, hk⟩ := rp_F ry
    exact ⟨a, v, rfl, by rw [← hv]; exact dg_dic (s2 _ _ (mask_sub B H1 _ _ ha)) (mask_sub B H2 _ _ hk), q v H2 (s1.trans s2) (hd _)⟩⟩⟩
theorem d_notinDic {o e : Expr} {g : Fm} {kvs : List (List Key × V)} {pos : Pos} (hu : X.A.units + 64 < cLine) (ho : D X E o ρ (.ok (.dic kvs))) (he : D X E e ρ (.ok (F_ g))) (hm : behindInMarks .NotIn o = false := by rfl) : D X E (.Compare e [.NotIn] [o] pos) ρ (.ok (.bl (!(valV kvs (kF g)).isSome))) :=
  D.of (pe_cmp (pc_dnotin (by omega) he ho) hm) fun B σ H Q c en q => ⟨B, c, en, fun vy H1 s1 ry => ⟨B, c.same s1, en.same s1, fun vx H2 s2 rx => by
    obtain ⟨a, od, rfl, ha⟩ := rp_dic rx
    obtain ⟨b, rfl, hk⟩ := rp_F ry
    exact ⟨a, _, rfl, dg_dic (mask_sub B H2 _ _ ha) (s2 _ _ (mask_sub B H1 _ _ hk)), q _ H2 (s1.trans s2) (.bl _)⟩⟩⟩
theorem t_notinDic {o e : Expr} {g : Fm} {kvs : List (List Key × V)} {pos : Pos} (hu : X.A.units + 64 < cLine) (ho : D X E0 o ρ (.ok (.dic kvs))) (he : D X E0 e ρ (.ok (F_ g))) (hm : behindInMarks .NotIn o = false := by rfl) : T X (.Compare e [.NotIn] [o] pos) ρ (!(valV kvs (kF g)).isSome) :=
  pt_imp (pt_cmp (pc_dnotin (by omega) he ho) hm) fun σ H Q ⟨B, c, en, q⟩ => ⟨B, c, en, fun vy H1 s1 ry => ⟨B, c.same s1, en.same s1, fun vx H2 s2 rx => by
    obtain ⟨a, od, rfl, ha⟩ := rp_dic rx
    obtain ⟨b, rfl, hk⟩ := rp_F ry
    exact ⟨a, _, rfl, dg_dic (mask_sub B H2 _ _ ha) (s2 _ _ (mask_sub B H1 _ _ hk)), _, rfl, q H2 (s1.trans s2)⟩⟩⟩
/-- d.get(k, x) -/
theorem d_getM {o e f : Expr} {g : Fm} {kvs : List (List Key × V)} {df d : Dat} {apos cpos : Pos} (hu : X.A.units + 64 < cLine) (ho : D X E o ρ (.ok (.dic kvs))) (he : D X E e ρ (.ok (F_ g))) (hf : D X E f ρ (.ok df)) (hd : ∀ H w, Rp X.K H w df → Rp X.K H ((valV kvs (kF g)).getD w) d) (m : M2 X o "get" apos e f cpos := by exact ⟨rfl, rfl, rfl, rfl⟩) : D X E (.Call (.Attribute o "get" apos) [e, f] [] cpos) ρ (.ok d) :=
  D.of (pe_dget2 (by omega) ho he hf m) fun B σ H Q c en q => ⟨B, c, en, fun vx H1 s1 rx => by
    obtain ⟨a, od, rfl, ha⟩ := rp_dic rx
    refine ⟨a, rfl, .inr ⟨kvs, .inr ⟨od, mask_sub B H1 _ _ ha⟩⟩, B, c.same s1, en.same s1, fun vy H2 s2 ry => ⟨B, (c.same s1).same s2, (en.same s1).same s2, fun vz H3 s3 rz => ?_⟩⟩
    obtain ⟨b, rfl, hk⟩ := rp_F ry
    exact ⟨_, dg_dic (s3 _ _ (s2 _ _ (mask_sub B H1 _ _ ha))) (s3 _ _ (mask_sub B H2 _ _ hk)), q _ H3 ((s1.trans s2).trans s3) (hd _ _ rz)⟩⟩
/-- len(d) -/
def rLenF : List V → Hp → VK → Prop := fun xs H Q => ∃ (p : Addr) (kvs : List (List Key × V)), xs = [.ref p] ∧ Rd H p (.dT kvs) ∧ Q (.int ((kvs.length : Nat) : Int)) H
theorem call_len_dF : CallR X (.builtin "len") rLenF := by
  intro pins s σ H xs us Q I r h
  obtain ⟨p, kvs, rfl, hp, q⟩ := h
  obtain ⟨u, rfl, rx⟩ := vals1 r
  obtain rfl : u = .ref p := rx
  obtain ⟨z, hd, ys, rel, dd⟩ := dt_rd I.hok hp
  have hl : kvs.length = ys.length := Paired.length rel
  refine call_len_dictH hd dd (by rw [← hl]; have := z; rw [sizeLine_eq] at this; omega) ⟨.int ((ys.length : Nat) : Int), H, I.kept (t' := _) fun b o q => q, ⟨_, rfl⟩, ?_⟩
  rw [← hl]
  exact q
theorem d_lenDic {a : Expr} {kvs : List (List Key × V)} {p pos : Pos} (hm : X.mg "len" = none) (ha : D X E a ρ (.ok (.dic kvs))) (hg : Gl X "len" := by rfl) (he : starEach [a] X.env = (false, eval a X.env) :: starEach [] X.env := by rfl) : D X E (.Call (.Name "len" p) [a] [] pos) ρ (.ok (.int kvs.length)) :=
  d_callB call_len_dF (fun B H vs Q c r q => by
    obtain ⟨v, rfl, rv⟩ := rpA_one r
    obtain ⟨a, od, rfl, h⟩ := rp_dic rv
    exact ⟨a, kvs, rfl, .inr ⟨od, mask_sub B H _ _ h⟩, q _ H (Same.refl H) (.int _)⟩) hm (da_one ha he) PySem.boot_len hg (he := he)
end
end G

set_option Elab.async false
set_option linter.all false
set_option maxRecDepth 100000
namespace G
/-! the ways from a formation, plain -/
noncomputable def eqN (l : List Nat) : List Nat → Bool :=
  List.rec (motive := fun _ => List Nat → Bool) (fun m => List.rec (motive := fun _ => Bool) true (fun _ _ _ => false) m) (fun a _ ih m => List.rec (motive := fun _ => Bool) false (fun b s _ => cond (Nat.beq a b) (ih s) false) m) l
noncomputable def eqF (l : Fm) : Fm → Bool :=
  List.rec (motive := fun _ => Fm → Bool) (fun m => List.rec (motive := fun _ => Bool) true (fun _ _ _ => false) m) (fun a _ ih m => List.rec (motive := fun _ => Bool) false (fun b s _ => cond (eqN a b) (ih s) false) m) l
theorem eqN_iff : ∀ a b : List Nat, eqN a b = true ↔ a = b
  | [], [] => ⟨fun _ => rfl, fun _ => rfl⟩
  | [], _ :: _ => ⟨fun h => Bool.noConfusion h, fun h => by cases h⟩
  | _ :: _, [] => ⟨fun h => Bool.noConfusion h, fun h => by cases h⟩
  | a :: r, b :: s => by
    have ih := eqN_iff r s
    show cond (Nat.beq a b) (eqN r s) false = true ↔ _
    rw [List.cons.injEq, ← ih, ← Nat.beq_eq]
    cases Nat.beq a b <;> simp
theorem eqF_iff : ∀ a b : Fm, eqF a b = true ↔ a = b
  | [], [] => ⟨fun _ => rfl, fun _ => rfl⟩
  | [], _ :: _ => ⟨fun h => Bool.noConfusion h, fun h => by cases h⟩
  | _ :: _, [] => ⟨fun h => Bool.noConfusion h, fun h => by cases h⟩
  | a :: r, b :: s => by
    have ih := eqF_iff r s
    show cond (eqN a b) (eqF r s) false = true ↔ _
    rw [List.cons.injEq, ← ih, ← eqN_iff]
    cases eqN a b <;> simp
abbrev Ws := List (Fm × List Nat)
noncomputable def look (w : Ws) : Fm → Option (List Nat) :=
  List.rec (motive := fun _ => Fm → Option (List Nat)) (fun _ => none) (fun p _ ih g => cond (eqF p.1 g) (some p.2) (ih g)) w
theorem look_cons (p : Fm × List Nat) (r : Ws) (g : Fm) : look (p :: r) g = cond (eqF p.1 g) (some p.2) (look r g) := rfl
theorem look_pos {p : Fm × List Nat} {r : Ws} {g : Fm} (h : p.1 = g) : look (p :: r) g = some p.2 := by rw [look_cons, (eqF_iff _ _).mpr h]; rfl
theorem look_neg {p : Fm × List Nat} {r : Ws} {g : Fm} (h : p.1 ≠ g) : look (p :: r) g = look r g := by
  rw [look_cons]
  cases e : eqF p.1 g with
  | true => exact absurd ((eqF_iff _ _).mp e) h
  | false => rfl
theorem look_app : ∀ (w v : Ws) (g : Fm), look (w ++ v) g = (look w g).or (look v g)
  | [], v, g => (Option.none_or (o := look v g)).symm
  | p :: w, v, g => by
    by_cases h : p.1 = g
    · rw [List.cons_append, look_pos h, look_pos h]; rfl
    · rw [List.cons_append, look_neg h, look_neg h, look_app w v g]
theorem look_mem : ∀ {w : Ws} {g : Fm} {p : List Nat}, look w g = some p → (g, p) ∈ w
  | [], g, p, h => by cases h
  | q :: w, g, p, h => by
    by_cases e : q.1 = g
    · rw [look_pos e] at h
      have h := Option.some.inj h
      rw [← e, ← h]
      exact List.mem_cons_self
    · rw [look_neg e] at h
      exact List.mem_cons_of_mem _ (look_mem h)
theorem look_none : ∀ {w : Ws} {g : Fm}, look w g = none → ∀ e ∈ w, e.1 ≠ g
  | [], g, h, e, he => by cases he
  | q :: w, g, h, e, he => by
    by_cases z : q.1 = g
    · rw [look_pos z] at h; cases h
    · rw [look_neg z] at h
      rcases List.mem_cons.mp he with y | y
      · rw [y]; exact z
      · exact look_none h e y
noncomputable def bs1 (one : Fm) (s : Ws × List Fm) (o : Nat) : Ws × List Fm :=
  match mvF one o with
  | none => s
  | some g => match look s.1 g with
    | some _ => s
    | none => (s.1 ++ [(g, (look s.1 one).getD [] ++ [o])], s.2 ++ [g])
noncomputable def bsE (s : Ws × List Fm) (one : Fm) : Ws × List Fm := signs.foldl (bs1 one) s
noncomputable def bsL (s : Ws × List Fm) : Ws × List Fm := s.2.foldl bsE (s.1, [])
noncomputable def bsN : Nat → Ws × List Fm → Ws × List Fm
  | 0, s => s
  | n + 1, s => bsN n (bsL s)
def st0 (f : Fm) : Ws × List Fm := ([(f, [])], [f])
/-! naturality -/
def mapW (h : Nat → Nat) (w : Ws) : Ws := w.map fun p => (mapF h p.1, p.2)
def mapS (h : Nat → Nat) (s : Ws × List Fm) : Ws × List Fm := (mapW h s.1, s.2.map (mapF h))
section
variable {h : Nat → Nat} (hi : ∀ a b, h a = h b → a = b)
include hi
theorem mapL_injA : ∀ {l m : List Nat}, l.map h = m.map h → l = m
  | [], [], _ => rfl
  | [], _ :: _, e => by cases e
  | _ :: _, [], e => by cases e
  | a :: l, b :: m, e => by
    rw [List.map_cons, List.map_cons] at e
    injection e with e1 e2
    rw [hi _ _ e1, mapL_injA e2]
theorem mapF_injA : ∀ {f g : Fm}, mapF h f = mapF h g → f = g
  | [], [], _ => rfl
  | [], _ :: _, e => by cases e
  | _ :: _, [], e => by cases e
  | a :: l, b :: m, e => by
    have e : a.map h :: mapF h l = b.map h :: mapF h m := e
    injection e with e1 e2
    rw [mapL_injA hi e1, mapF_injA e2]
theorem look_nat : ∀ (w : Ws) (g : Fm), look (mapW h w) (mapF h g) = look w g
  | [], g => rfl
  | p :: w, g => by
    by_cases e : p.1 = g
    · rw [look_pos e]
      show look ((mapF h p.1, p.2) :: mapW h w) (mapF h g) = _
      rw [look_pos (by rw [e])]
    · rw [look_neg e]
      show look ((mapF h p.1, p.2) :: mapW h w) (mapF h g) = _
      rw [look_neg fun z => e (mapF_injA hi z), look_nat w g]
theorem bs1_nat (one : Fm) (s : Ws × List Fm) (o : Nat) : bs1 (mapF h one) (mapS h s) o = mapS h (bs1 one s o) := by
  unfold bs1
  rw [mvF_nat]
  cases mvF one o with
  | none => rfl
  | some g =>
    show (match look (mapW h s.1) (mapF h g) with | some _ => mapS h s | none => _) = mapS h (match look s.1 g with | some _ => s | none => _)
    rw [look_nat hi]
    cases look s.1 g with
    | some _ => rfl
    | none =>
      show (mapW h s.1 ++ [(mapF h g, (look (mapW h s.1) (mapF h one)).getD [] ++ [o])], s.2.map (mapF h) ++ [mapF h g]) = mapS h (s.1 ++ [(g, (look s.1 one).getD [] ++ [o])], s.2 ++ [g])
      rw [look_nat hi]
      unfold mapS mapW
      rw [List.map_append, List.map_append]
      rfl
theorem bsF_nat (one : Fm) : ∀ (os : List Nat) (s : Ws × List Fm), os.foldl (bs1 (mapF h one)) (mapS h s) = mapS h (os.foldl (bs1 one) s)
  | [], s => rfl
  | o :: os, s => by
    rw [List.foldl_cons, List.foldl_cons, bs1_nat hi, bsF_nat one os]
theorem bsM_nat : ∀ (lv : List Fm) (s : Ws × List Fm), (lv.map (mapF h)).foldl bsE (mapS h s) = mapS h (lv.foldl bsE s)
  | [], s => rfl
  | one :: lv, s => by
    rw [List.map_cons, List.foldl_cons, List.foldl_cons]
    show (lv.map (mapF h)).foldl bsE (signs.foldl (bs1 (mapF h one)) (mapS h s)) = _
    rw [bsF_nat hi]
    exact bsM_nat lv _
theorem bsL_nat (s : Ws × List Fm) : bsL (mapS h s) = mapS h (bsL s) := bsM_nat hi s.2 (s.1, [])
theorem bsN_nat : ∀ (n : Nat) (s : Ws × List Fm), bsN n (mapS h s) = mapS h (bsN n s)
  | 0, s => rfl
  | n + 1, s => by
    show bsN n (bsL (mapS h s)) = mapS h (bsN n (bsL s))
    rw [bsL_nat hi, bsN_nat n]
end
/-- labels, told apart everywhere -/
def hJ (f : Fm) : Nat → Nat := fun n => if n < f.flatten.length then f.flatten.getD n 0 else n + 1000
theorem hJ_inj {f : Fm} (hf : isFm f = true) : ∀ a b, hJ f a = hJ f b → a = b := by
  have s := isFm_sh hf
  have nd : f.flatten.Nodup := by
    rw [← (sortN_perm _).nodup_iff, s.sort]
    exact List.Nodup.sublist (List.take_sublist _ _) (by decide)
  have lt : ∀ n, n < f.flatten.length → f.flatten.getD n 0 < 1000 := fun n hn => by
    rw [List.getD_eq_getElem?_getD, List.getElem?_eq_getElem hn]
    have m : f.flatten[n] ∈ lets.take (f.length * wid f) := by
      rw [← s.sort]
      exact (sortN_perm _).mem_iff.mpr (List.getElem_mem hn)
    have z : ∀ x ∈ lets, x < 1000 := by decide
    exact z _ ((List.take_sublist _ _).subset m)
  intro a b e
  unfold hJ at e
  by_cases ha : a < f.flatten.length
  · by_cases hb : b < f.flatten.length
    · rw [if_pos ha, if_pos hb, List.getD_eq_getElem?_getD, List.getD_eq_getElem?_getD, List.getElem?_eq_getElem ha, List.getElem?_eq_getElem hb] at e
      exact (List.getElem_inj nd).mp e
    · rw [if_pos ha, if_neg hb] at e
      have := lt a ha
      omega
  · by_cases hb : b < f.flatten.length
    · rw [if_neg ha, if_pos hb] at e
      have := lt b hb
      omega
    · rw [if_neg ha, if_neg hb] at e
      omega
theorem idF_lt {r c : Nat} : ∀ l ∈ idF r c, ∀ x ∈ l, x < r * c := fun l hl x hx => by
  unfold idF at hl
  obtain ⟨i, hi, rfl⟩ := List.mem_map.mp hl
  obtain ⟨j, hj, rfl⟩ := List.mem_map.mp hx
  have hi := List.mem_range.mp hi
  have hj := List.mem_range.mp hj
  have h1 : (i + 1) * c ≤ r * c := Nat.mul_le_mul_right c hi
  rw [Nat.add_mul] at h1
  omega
theorem fJ_eq {f : Fm} {r c : Nat} (s : Sh f r c) : mapF (hJ f) (idF r c) = f := by
  have e : mapF (hJ f) (idF r c) = mapF (hF f) (idF r c) := by
    unfold mapF
    refine List.map_congr_left fun l hl => List.map_congr_left fun x hx => ?_
    unfold hJ hF
    rw [if_pos (by rw [s.flat]; exact idF_lt l hl x hx)]
  rw [e, ← s.eq]
/-! the order of rows: by length, then by signs -/
def lexB : List Nat → List Nat → Bool
  | [], _ => true
  | _ :: _, [] => false
  | a :: r, b :: s => Nat.blt a b || (Nat.beq a b && lexB r s)
def slex (p q : List Nat) : Bool := Nat.blt p.length q.length || (Nat.beq p.length q.length && lexB p q)
theorem lexB_refl : ∀ p, lexB p p = true
  | [] => rfl
  | a :: r => by simp [lexB, lexB_refl r]
theorem lexB_trans : ∀ {p q r : List Nat}, lexB p q = true → lexB q r = true → lexB p r = true
  | [], _, _, _, _ => rfl
  | a :: p, [], _, h, _ => by cases h
  | a :: p, b :: q, [], _, h => by cases h
  | a :: p, b :: q, c :: r, h1, h2 => by
    simp only [lexB, Bool.or_eq_true, Bool.and_eq_true, Nat.blt_eq, Nat.beq_eq] at h1 h2 ⊢
    rcases h1 with h1 | ⟨e1, h1⟩
    · rcases h2 with h2 | ⟨e2, h2⟩
      · exact .inl (by omega)
      · exact .inl (by omega)
    · rcases h2 with h2 | ⟨e2, h2⟩
      · exact .inl (by omega)
      · exact .inr ⟨by omega, lexB_trans h1 h2⟩
theorem lexB_anti : ∀ {p q : List Nat}, p.length = q.length → lexB p q = true → lexB q p = true → p = q
  | [], [], _, _, _ => rfl
  | [], _ :: _, h, _, _ => by cases h
  | _ :: _, [], h, _, _ => by cases h
  | a :: p, b :: q, h, h1, h2 => by
    simp only [lexB, Bool.or_eq_true, Bool.and_eq_true, Nat.blt_eq, Nat.beq_eq] at h1 h2
    have hl : p.length = q.length := by simpa using h
    rcases h1 with h1 | ⟨e1, h1⟩
    · rcases h2 with h2 | ⟨e2, h2⟩ <;> omega
    · rcases h2 with h2 | ⟨e2, h2⟩
      · omega
      · rw [e1, lexB_anti hl h1 h2]
theorem lexB_app : ∀ {p q : List Nat} (u : List Nat), p.length = q.length → lexB p q = true → lexB (p ++ u) (q ++ u) = true
  | [], [], u, _, _ => lexB_refl u
  | [], _ :: _, _, h, _ => by cases h
  | _ :: _, [], _, h, _ => by cases h
  | a :: p, b :: q, u, h, h1 => by
    have hl : p.length = q.length := by simpa using h
    simp only [List.cons_append, lexB, Bool.or_eq_true, Bool.and_eq_true, Nat.blt_eq, Nat.beq_eq] at h1 ⊢
    rcases h1 with h1 | ⟨e1, h1⟩
    · exact .inl h1
    · exact .inr ⟨e1, lexB_app u hl h1⟩
theorem slex_iff {p q : List Nat} : slex p q = true ↔ p.length < q.length ∨ (p.length = q.length ∧ lexB p q = true) := by
  simp only [slex, Bool.or_eq_true, Bool.and_eq_true, Nat.blt_eq, Nat.beq_eq]
theorem slex_refl (p : List Nat) : slex p p = true := slex_iff.mpr (.inr ⟨rfl, lexB_refl p⟩)
theorem slex_len {p q : List Nat} (h : slex p q = true) : p.length ≤ q.length := by
  rcases slex_iff.mp h with h | h <;> omega
theorem slex_trans {p q r : List Nat} (h1 : slex p q = true) (h2 : slex q r = true) : slex p r = true := by
  rw [slex_iff] at h1 h2 ⊢
  rcases h1 with h1 | ⟨e1, h1⟩
  · rcases h2 with h2 | ⟨e2, h2⟩ <;> exact .inl (by omega)
  · rcases h2 with h2 | ⟨e2, h2⟩
    · exact .inl (by omega)
    · exact .inr ⟨by omega, lexB_trans h1 h2⟩
theorem slex_anti {p q : List Nat} (h1 : slex p q = true) (h2 : slex q p = true) : p = q := by
  rw [slex_iff] at h1 h2
  rcases h1 with h1 | ⟨e1, h1⟩
  · rcases h2 with h2 | ⟨e2, h2⟩ <;> omega
  · rcases h2 with h2 | ⟨e2, h2⟩
    · omega
    · exact lexB_anti e1 h1 h2
theorem slex_app {p q : List Nat} (u : List Nat) (h : slex p q = true) : slex (p ++ u) (q ++ u) = true := by
  rw [slex_iff] at h ⊢
  rw [List.length_append, List.length_append]
  rcases h with h | ⟨e, h⟩
  · exact .inl (by omega)
  · exact .inr ⟨by omega, lexB_app u e h⟩
def T12 : Ws := [([[0, 1]], []), ([[1, 0]], [65]), ([[0], [1]], [76]), ([[1], [0]], [82])]
def T21 : Ws := [([[0], [1]], []), ([[1], [0]], [65]), ([[0, 1]], [68]), ([[1, 0]], [76])]
def T13 : Ws := [([[0, 1, 2]], []), ([[2, 1, 0]], [65]), ([[0], [1], [2]], [76]), ([[2], [1], [0]], [82]),
  ([[1, 2, 0]], [88]), ([[1, 0, 2]], [65, 88]), ([[1], [2], [0]], [76, 67]), ([[1], [0], [2]], [82, 67]),
  ([[0, 2, 1]], [88, 65]), ([[0], [2], [1]], [88, 82]), ([[2, 0, 1]], [88, 88]), ([[2], [0], [1]], [65, 88, 82])]
def T31 : Ws := [([[0], [1], [2]], []), ([[2], [1], [0]], [65]), ([[1], [2], [0]], [67]), ([[2, 1, 0]], [76]),
  ([[0, 1, 2]], [82]), ([[1], [0], [2]], [65, 67]), ([[0], [2], [1]], [67, 65]), ([[2], [0], [1]], [67, 67]),
  ([[0, 2, 1]], [67, 76]), ([[1, 2, 0]], [67, 82]), ([[1, 0, 2]], [76, 88]), ([[2, 0, 1]], [65, 67, 76])]
def T22 : Ws := [([[0, 1], [2, 3]], []), ([[3, 2], [1, 0]], [65]), ([[2, 3], [0, 1]], [67]), ([[0, 2, 1, 3]], [68]),
  ([[2, 0], [3, 1]], [76]), ([[1, 0], [3, 2]], [77]), ([[1, 3], [0, 2]], [82]), ([[0], [1], [2], [3]], [83]),
  ([[3, 1, 2, 0]], [65, 68]), ([[3], [2], [1], [0]], [65, 83]), ([[2, 0, 3, 1]], [67, 68]), ([[0, 2], [1, 3]], [67, 76]),
  ([[3, 1], [2, 0]], [67, 82]), ([[2], [3], [0], [1]], [67, 83]), ([[0], [2], [1], [3]], [68, 76]), ([[3], [1], [2], [0]], [68, 82]),
  ([[2, 1, 3, 0]], [68, 88]), ([[2, 3, 0, 1]], [76, 68]), ([[2], [0], [3], [1]], [76, 83]), ([[1, 3, 0, 2]], [77, 68]),
  ([[1], [0], [3], [2]], [77, 83]), ([[1, 0, 3, 2]], [82, 68]), ([[1], [3], [0], [2]], [82, 83]), ([[1], [2], [3], [0]], [83, 67]),
  ([[3, 2, 1, 0]], [83, 76]), ([[0, 1, 2, 3]], [83, 82]), ([[1, 2, 0, 3]], [65, 68, 88]), ([[2], [1], [0], [3]], [65, 83, 67]),
  ([[0, 3, 1, 2]], [67, 68, 88]), ([[3], [0], [1], [2]], [67, 83, 67]), ([[2], [1], [3], [0]], [68, 76, 67]), ([[1], [2], [0], [3]], [68, 82, 67]),
  ([[0], [3], [1], [2]], [68, 88, 82]), ([[2, 3], [1, 0]], [68, 88, 83]), ([[3, 0, 1, 2]], [76, 68, 88]), ([[3, 0, 2, 1]], [77, 68, 88]),
  ([[0], [3], [2], [1]], [77, 83, 67]), ([[0, 3, 2, 1]], [82, 68, 88]), ([[3], [0], [2], [1]], [82, 83, 67]), ([[1, 2], [3, 0]], [83, 67, 68]),
  ([[1, 2, 3, 0]], [83, 67, 82]), ([[2, 1, 0, 3]], [83, 76, 88]), ([[1, 0], [2, 3]], [65, 68, 88, 83]), ([[2, 1], [0, 3]], [65, 83, 67, 68]),
  ([[0, 1], [3, 2]], [67, 68, 88, 83]), ([[3, 0], [1, 2]], [67, 83, 67, 68]), ([[2, 1], [3, 0]], [68, 76, 67, 68]), ([[1, 2], [0, 3]], [68, 82, 67, 68]),
  ([[0, 3], [1, 2]], [68, 88, 82, 68]), ([[3, 2], [0, 1]], [68, 88, 83, 77]), ([[3, 0], [2, 1]], [68, 88, 83, 82]), ([[2], [3], [1], [0]], [68, 88, 83, 83]),
  ([[3, 1], [0, 2]], [76, 68, 88, 83]), ([[0, 3], [2, 1]], [77, 83, 67, 68]), ([[0, 2], [3, 1]], [82, 68, 88, 83]), ([[1, 3, 2, 0]], [83, 67, 68, 68]),
  ([[2, 0], [1, 3]], [83, 67, 68, 82]), ([[1, 3], [2, 0]], [83, 67, 82, 83]), ([[1], [0], [2], [3]], [65, 68, 88, 83, 83]), ([[2, 0, 1, 3]], [65, 83, 67, 68, 68]),
  ([[0], [1], [3], [2]], [67, 68, 88, 83, 83]), ([[3, 1, 0, 2]], [67, 83, 67, 68, 68]), ([[2, 3, 1, 0]], [68, 76, 67, 68, 68]), ([[1, 0, 2, 3]], [68, 82, 67, 68, 68]),
  ([[0, 1, 3, 2]], [68, 88, 82, 68, 68]), ([[3], [2], [0], [1]], [68, 88, 83, 77, 83]), ([[3, 2, 0, 1]], [68, 88, 83, 82, 68]), ([[3], [1], [0], [2]], [68, 88, 83, 83, 67]),
  ([[0, 2, 3, 1]], [77, 83, 67, 68, 68]), ([[0], [2], [3], [1]], [82, 68, 88, 83, 83]), ([[1], [3], [2], [0]], [83, 67, 68, 68, 76]), ([[2], [0], [1], [3]], [83, 67, 68, 82, 83])]
def T14 : Ws := [([[0, 1, 2, 3]], []), ([[3, 2, 1, 0]], [65]), ([[0], [1], [2], [3]], [76]), ([[3], [2], [1], [0]], [82]),
  ([[0, 2], [1, 3]], [83]), ([[1, 2, 3, 0]], [88]), ([[3, 1], [2, 0]], [65, 83]), ([[2, 1, 0, 3]], [65, 88]),
  ([[1], [2], [3], [0]], [76, 67]), ([[0, 1], [2, 3]], [76, 68]), ([[2], [1], [0], [3]], [82, 67]), ([[3, 2], [1, 0]], [82, 68]),
  ([[1, 3], [0, 2]], [83, 67]), ([[1, 0], [3, 2]], [83, 76]), ([[2, 0], [3, 1]], [83, 77]), ([[2, 3], [0, 1]], [83, 82]),
  ([[0], [2], [1], [3]], [83, 83]), ([[0, 3, 2, 1]], [88, 65]), ([[0], [3], [2], [1]], [88, 82]), ([[1, 3], [2, 0]], [88, 83]),
  ([[2, 3, 0, 1]], [88, 88]), ([[3], [1], [2], [0]], [65, 83, 83]), ([[3, 0, 1, 2]], [65, 88, 65]), ([[3], [0], [1], [2]], [65, 88, 82]),
  ([[2, 0], [1, 3]], [65, 88, 83]), ([[1, 0, 3, 2]], [65, 88, 88]), ([[2], [3], [0], [1]], [76, 67, 67]), ([[1, 2], [3, 0]], [76, 67, 68]),
  ([[0, 2, 1, 3]], [76, 68, 68]), ([[1], [0], [3], [2]], [82, 67, 67]), ([[2, 1], [0, 3]], [82, 67, 68]), ([[3, 1, 2, 0]], [82, 68, 68]),
  ([[1], [3], [0], [2]], [83, 67, 83]), ([[1, 3, 0, 2]], [83, 76, 68]), ([[2], [0], [3], [1]], [83, 77, 83]), ([[2, 0, 3, 1]], [83, 82, 68]),
  ([[2], [1], [3], [0]], [83, 83, 67]), ([[0, 2], [3, 1]], [88, 65, 83]), ([[0, 3], [2, 1]], [88, 82, 68]), ([[3, 1], [0, 2]], [88, 83, 77]),
  ([[3, 0], [1, 2]], [88, 83, 82]), ([[1], [3], [2], [0]], [88, 83, 83]), ([[1], [2], [0], [3]], [65, 83, 83, 67]), ([[2], [0], [1], [3]], [65, 88, 83, 83]),
  ([[1, 3, 2, 0]], [76, 67, 68, 68]), ([[2, 1, 3, 0]], [76, 68, 68, 88]), ([[2, 0, 1, 3]], [82, 67, 68, 68]), ([[1, 2, 0, 3]], [82, 68, 68, 88]),
  ([[3], [0], [2], [1]], [83, 67, 83, 67]), ([[3, 0, 2, 1]], [83, 76, 68, 88]), ([[0], [3], [1], [2]], [83, 77, 83, 67]), ([[0, 3, 1, 2]], [83, 82, 68, 88]),
  ([[2, 1], [3, 0]], [83, 83, 67, 68]), ([[0], [2], [3], [1]], [88, 65, 83, 83]), ([[0, 2, 3, 1]], [88, 82, 68, 68]), ([[3], [1], [0], [2]], [88, 83, 77, 83]),
  ([[3, 1, 0, 2]], [88, 83, 82, 68]), ([[3], [2], [0], [1]], [88, 83, 83, 67]), ([[1, 2], [0, 3]], [65, 83, 83, 67, 68]), ([[0], [1], [3], [2]], [65, 88, 83, 83, 67]),
  ([[3, 2, 0, 1]], [76, 67, 68, 68, 88]), ([[2, 3], [1, 0]], [76, 68, 68, 88, 83]), ([[0, 1, 3, 2]], [82, 67, 68, 68, 88]), ([[1, 0], [2, 3]], [82, 68, 68, 88, 83]),
  ([[3, 0], [2, 1]], [83, 67, 83, 67, 68]), ([[3, 2], [0, 1]], [83, 76, 68, 88, 83]), ([[0, 3], [1, 2]], [83, 77, 83, 67, 68]), ([[0, 1], [3, 2]], [83, 82, 68, 88, 83]),
  ([[2, 3, 1, 0]], [83, 83, 67, 68, 68]), ([[2], [3], [1], [0]], [88, 65, 83, 83, 67]), ([[1], [0], [2], [3]], [88, 83, 77, 83, 67]), ([[1, 0, 2, 3]], [88, 83, 82, 68, 88])]
def T41 : Ws := [([[0], [1], [2], [3]], []), ([[3], [2], [1], [0]], [65]), ([[1], [2], [3], [0]], [67]), ([[0, 1], [2, 3]], [68]),
  ([[3, 2, 1, 0]], [76]), ([[0, 1, 2, 3]], [82]), ([[2], [1], [0], [3]], [65, 67]), ([[3, 2], [1, 0]], [65, 68]),
  ([[0], [3], [2], [1]], [67, 65]), ([[2], [3], [0], [1]], [67, 67]), ([[1, 2], [3, 0]], [67, 68]), ([[0, 3, 2, 1]], [67, 76]),
  ([[1, 2, 3, 0]], [67, 82]), ([[2, 3], [0, 1]], [68, 67]), ([[0, 2, 1, 3]], [68, 68]), ([[2, 0], [3, 1]], [68, 76]),
  ([[1, 0], [3, 2]], [68, 77]), ([[1, 3], [0, 2]], [68, 82]), ([[3, 1], [2, 0]], [76, 83]), ([[2, 1, 0, 3]], [76, 88]),
  ([[0, 2], [1, 3]], [82, 83]), ([[3], [0], [1], [2]], [65, 67, 65]), ([[1], [0], [3], [2]], [65, 67, 67]), ([[2, 1], [0, 3]], [65, 67, 68]),
  ([[3, 0, 1, 2]], [65, 67, 76]), ([[3, 1, 2, 0]], [65, 68, 68]), ([[0, 3], [2, 1]], [67, 65, 68]), ([[1, 0, 3, 2]], [67, 67, 76]),
  ([[2, 3, 0, 1]], [67, 67, 82]), ([[3, 0], [1, 2]], [67, 68, 67]), ([[1, 3, 2, 0]], [67, 68, 68]), ([[3, 1], [0, 2]], [67, 68, 76]),
  ([[2, 0], [1, 3]], [67, 68, 82]), ([[0, 2], [3, 1]], [67, 76, 83]), ([[1, 3], [2, 0]], [67, 82, 83]), ([[2, 0, 3, 1]], [68, 67, 68]),
  ([[0], [2], [1], [3]], [68, 68, 76]), ([[3], [1], [2], [0]], [68, 68, 82]), ([[2, 1, 3, 0]], [68, 68, 88]), ([[2], [0], [3], [1]], [68, 76, 83]),
  ([[1, 3, 0, 2]], [68, 77, 68]), ([[1], [3], [0], [2]], [68, 82, 83]), ([[2, 0, 1, 3]], [65, 67, 68, 68]), ([[1, 2, 0, 3]], [65, 68, 68, 88]),
  ([[0, 2, 3, 1]], [67, 65, 68, 68]), ([[3, 1, 0, 2]], [67, 68, 67, 68]), ([[1], [3], [2], [0]], [67, 68, 68, 76]), ([[0], [2], [3], [1]], [67, 68, 68, 82]),
  ([[3, 2, 0, 1]], [67, 68, 68, 88]), ([[3], [1], [0], [2]], [67, 68, 76, 83]), ([[2], [0], [1], [3]], [67, 68, 82, 83]), ([[0, 3, 1, 2]], [68, 67, 68, 88]),
  ([[2], [1], [3], [0]], [68, 68, 76, 67]), ([[1], [2], [0], [3]], [68, 68, 82, 67]), ([[0], [3], [1], [2]], [68, 68, 88, 82]), ([[2, 3], [1, 0]], [68, 68, 88, 83]),
  ([[3, 0, 2, 1]], [68, 77, 68, 88]), ([[3], [0], [2], [1]], [68, 82, 83, 67]), ([[0, 1, 3, 2]], [65, 67, 68, 68, 88]), ([[1, 0], [2, 3]], [65, 68, 68, 88, 83]),
  ([[2, 3, 1, 0]], [67, 65, 68, 68, 88]), ([[1, 0, 2, 3]], [67, 68, 67, 68, 88]), ([[3], [2], [0], [1]], [67, 68, 68, 76, 67]), ([[2], [3], [1], [0]], [67, 68, 68, 82, 67]),
  ([[1], [0], [2], [3]], [67, 68, 68, 88, 82]), ([[3, 0], [2, 1]], [67, 68, 68, 88, 83]), ([[0], [1], [3], [2]], [67, 68, 82, 83, 67]), ([[0, 1], [3, 2]], [68, 67, 68, 88, 83]),
  ([[2, 1], [3, 0]], [68, 68, 76, 67, 68]), ([[1, 2], [0, 3]], [68, 68, 82, 67, 68]), ([[0, 3], [1, 2]], [68, 68, 88, 82, 68]), ([[3, 2], [0, 1]], [68, 68, 88, 83, 77])]
def T15 : Ws := [([[0, 1, 2, 3, 4]], []), ([[4, 3, 2, 1, 0]], [65]), ([[0], [1], [2], [3], [4]], [76]), ([[4], [3], [2], [1], [0]], [82]),
  ([[1, 2, 3, 4, 0]], [88]), ([[3, 2, 1, 0, 4]], [65, 88]), ([[1], [2], [3], [4], [0]], [76, 67]), ([[3], [2], [1], [0], [4]], [82, 67]),
  ([[0, 4, 3, 2, 1]], [88, 65]), ([[0], [4], [3], [2], [1]], [88, 82]), ([[2, 3, 4, 0, 1]], [88, 88]), ([[4, 0, 1, 2, 3]], [65, 88, 65]),
  ([[4], [0], [1], [2], [3]], [65, 88, 82]), ([[2, 1, 0, 4, 3]], [65, 88, 88]), ([[2], [3], [4], [0], [1]], [76, 67, 67]), ([[2], [1], [0], [4], [3]], [82, 67, 67]),
  ([[1, 0, 4, 3, 2]], [88, 88, 65]), ([[1], [0], [4], [3], [2]], [88, 88, 82]), ([[3, 4, 0, 1, 2]], [88, 88, 88]), ([[3], [4], [0], [1], [2]], [65, 88, 88, 82])]
def T51 : Ws := [([[0], [1], [2], [3], [4]], []), ([[4], [3], [2], [1], [0]], [65]), ([[1], [2], [3], [4], [0]], [67]), ([[4, 3, 2, 1, 0]], [76]),
  ([[0, 1, 2, 3, 4]], [82]), ([[3], [2], [1], [0], [4]], [65, 67]), ([[0], [4], [3], [2], [1]], [67, 65]), ([[2], [3], [4], [0], [1]], [67, 67]),
  ([[0, 4, 3, 2, 1]], [67, 76]), ([[1, 2, 3, 4, 0]], [67, 82]), ([[3, 2, 1, 0, 4]], [76, 88]), ([[4], [0], [1], [2], [3]], [65, 67, 65]),
  ([[2], [1], [0], [4], [3]], [65, 67, 67]), ([[4, 0, 1, 2, 3]], [65, 67, 76]), ([[1], [0], [4], [3], [2]], [67, 67, 65]), ([[3], [4], [0], [1], [2]], [67, 67, 67]),
  ([[1, 0, 4, 3, 2]], [67, 67, 76]), ([[2, 3, 4, 0, 1]], [67, 67, 82]), ([[2, 1, 0, 4, 3]], [76, 88, 88]), ([[3, 4, 0, 1, 2]], [65, 67, 67, 76])]
def T23 : Ws := [([[0, 1, 2], [3, 4, 5]], []), ([[5, 4, 3], [2, 1, 0]], [65]), ([[3, 4, 5], [0, 1, 2]], [67]), ([[0, 3, 1, 4, 2, 5]], [68]),
  ([[3, 0], [4, 1], [5, 2]], [76]), ([[2, 1, 0], [5, 4, 3]], [77]), ([[2, 5], [1, 4], [0, 3]], [82]), ([[1, 2, 0], [4, 5, 3]], [88]),
  ([[5, 2, 4, 1, 3, 0]], [65, 68]), ([[4, 3, 5], [1, 0, 2]], [65, 88]), ([[3, 0, 4, 1, 5, 2]], [67, 68]), ([[0, 3], [1, 4], [2, 5]], [67, 76]),
  ([[5, 2], [4, 1], [3, 0]], [67, 82]), ([[4, 5, 3], [1, 2, 0]], [67, 88]), ([[0], [3], [1], [4], [2], [5]], [68, 76]), ([[5], [2], [4], [1], [3], [0]], [68, 82]),
  ([[3, 1, 4, 2, 5, 0]], [68, 88]), ([[4, 1], [5, 2], [3, 0]], [76, 67]), ([[3], [0], [4], [1], [5], [2]], [76, 83]), ([[2, 5, 1, 4, 0, 3]], [77, 68]),
  ([[1, 0, 2], [4, 3, 5]], [77, 88]), ([[1, 4], [0, 3], [2, 5]], [82, 67]), ([[2], [5], [1], [4], [0], [3]], [82, 83]), ([[3, 5, 4], [0, 2, 1]], [88, 65]),
  ([[1, 4, 2, 5, 0, 3]], [88, 68]), ([[0, 2, 1], [3, 5, 4]], [88, 77]), ([[0, 3], [2, 5], [1, 4]], [88, 82]), ([[2, 0, 1], [5, 3, 4]], [88, 88]),
  ([[2, 4, 1, 3, 0, 5]], [65, 68, 88]), ([[4, 1, 3, 0, 5, 2]], [65, 88, 68]), ([[5, 3, 4], [2, 0, 1]], [65, 88, 77]), ([[5, 2], [3, 0], [4, 1]], [65, 88, 82]),
  ([[0, 4, 1, 5, 2, 3]], [67, 68, 88]), ([[1, 4], [2, 5], [0, 3]], [67, 76, 67]), ([[4, 1], [3, 0], [5, 2]], [67, 82, 67]), ([[4, 1, 5, 2, 3, 0]], [67, 88, 68]),
  ([[3, 0], [5, 2], [4, 1]], [67, 88, 82]), ([[3], [1], [4], [2], [5], [0]], [68, 76, 67]), ([[2], [4], [1], [3], [0], [5]], [68, 82, 67]), ([[0, 5, 2, 4, 1, 3]], [68, 88, 65]),
  ([[0], [5], [2], [4], [1], [3]], [68, 88, 82]), ([[3, 4, 5], [1, 2, 0]], [68, 88, 83]), ([[4], [1], [5], [2], [3], [0]], [76, 67, 83]), ([[0], [4], [1], [5], [2], [3]], [76, 83, 67]),
  ([[5, 1, 4, 0, 3, 2]], [77, 68, 88]), ([[1, 4, 0, 3, 2, 5]], [77, 88, 68]), ([[2, 5], [0, 3], [1, 4]], [77, 88, 82]), ([[1], [4], [0], [3], [2], [5]], [82, 67, 83]),
  ([[5], [1], [4], [0], [3], [2]], [82, 83, 67]), ([[3, 0, 5, 2, 4, 1]], [88, 65, 68]), ([[1], [4], [2], [5], [0], [3]], [88, 68, 76]), ([[3], [0], [5], [2], [4], [1]], [88, 68, 82]),
  ([[4, 2, 5, 0, 3, 1]], [88, 68, 88]), ([[0, 3, 2, 5, 1, 4]], [88, 77, 68]), ([[0], [3], [2], [5], [1], [4]], [88, 82, 83]), ([[2, 5, 0, 3, 1, 4]], [88, 88, 68]),
  ([[5, 0, 3, 1, 4, 2]], [65, 68, 88, 65]), ([[5], [0], [3], [1], [4], [2]], [65, 68, 88, 82]), ([[2, 1, 0], [4, 3, 5]], [65, 68, 88, 83]), ([[4], [1], [3], [0], [5], [2]], [65, 88, 68, 76]),
  ([[2], [5], [0], [3], [1], [4]], [65, 88, 68, 82]), ([[1, 3, 0, 5, 2, 4]], [65, 88, 68, 88]), ([[5, 2, 3, 0, 4, 1]], [65, 88, 77, 68]), ([[5], [2], [3], [0], [4], [1]], [65, 88, 82, 83]),
  ([[3, 2, 5, 1, 4, 0]], [67, 68, 88, 65]), ([[3], [2], [5], [1], [4], [0]], [67, 68, 88, 82]), ([[0, 1, 2], [4, 5, 3]], [67, 68, 88, 83]), ([[1, 5, 2, 3, 0, 4]], [67, 88, 68, 88]),
  ([[3, 1], [4, 2], [5, 0]], [68, 76, 67, 68]), ([[2, 4], [1, 3], [0, 5]], [68, 82, 67, 68]), ([[0, 2, 1], [5, 4, 3]], [68, 88, 65, 83]), ([[0, 5], [2, 4], [1, 3]], [68, 88, 82, 68]),
  ([[1, 2, 0], [3, 4, 5]], [68, 88, 83, 67]), ([[1, 3], [2, 4], [0, 5]], [68, 88, 83, 76]), ([[5, 4, 3], [0, 2, 1]], [68, 88, 83, 77]), ([[5, 0], [4, 2], [3, 1]], [68, 88, 83, 82]),
  ([[4, 5, 3], [2, 0, 1]], [68, 88, 83, 88]), ([[1], [5], [2], [3], [0], [4]], [76, 67, 83, 67]), ([[0, 4], [1, 5], [2, 3]], [76, 83, 67, 68]), ([[2, 3, 0, 4, 1, 5]], [77, 68, 88, 65]),
  ([[2], [3], [0], [4], [1], [5]], [77, 68, 88, 82]), ([[5, 4, 3], [1, 0, 2]], [77, 68, 88, 83]), ([[4, 0, 3, 2, 5, 1]], [77, 88, 68, 88]), ([[4], [0], [3], [2], [5], [1]], [82, 67, 83, 67]),
  ([[5, 1], [4, 0], [3, 2]], [82, 83, 67, 68]), ([[4], [2], [5], [0], [3], [1]], [88, 68, 76, 67]), ([[1], [3], [0], [5], [2], [4]], [88, 68, 88, 82]), ([[5, 3, 4], [0, 1, 2]], [65, 68, 88, 65, 83]),
  ([[5, 0], [3, 1], [4, 2]], [65, 68, 88, 82, 68]), ([[4, 3, 5], [2, 1, 0]], [65, 68, 88, 83, 67]), ([[4, 2], [3, 1], [5, 0]], [65, 68, 88, 83, 76]), ([[0, 1, 2], [5, 3, 4]], [65, 68, 88, 83, 77]),
  ([[0, 5], [1, 3], [2, 4]], [65, 68, 88, 83, 82]), ([[1, 0, 2], [3, 5, 4]], [65, 68, 88, 83, 88]), ([[3, 5, 4], [2, 1, 0]], [67, 68, 88, 65, 83]), ([[3, 2], [5, 1], [4, 0]], [67, 68, 88, 82, 68]),
  ([[4, 5, 3], [0, 1, 2]], [67, 68, 88, 83, 67]), ([[4, 0], [5, 1], [3, 2]], [67, 68, 88, 83, 76]), ([[2, 1, 0], [3, 5, 4]], [67, 68, 88, 83, 77]), ([[2, 3], [1, 5], [0, 4]], [67, 68, 88, 83, 82]),
  ([[1, 2, 0], [5, 3, 4]], [67, 68, 88, 83, 88]), ([[4, 2], [5, 0], [3, 1]], [68, 76, 67, 68, 67]), ([[1, 3], [0, 5], [2, 4]], [68, 82, 67, 68, 67]), ([[1, 3, 2, 4, 0, 5]], [68, 88, 83, 67, 68]),
  ([[2, 0, 1], [4, 5, 3]], [68, 88, 83, 67, 88]), ([[2, 4], [0, 5], [1, 3]], [68, 88, 83, 76, 67]), ([[1], [3], [2], [4], [0], [5]], [68, 88, 83, 76, 83]), ([[5, 0, 4, 2, 3, 1]], [68, 88, 83, 77, 68]),
  ([[5], [0], [4], [2], [3], [1]], [68, 88, 83, 82, 83]), ([[3, 5, 4], [1, 0, 2]], [68, 88, 83, 88, 77]), ([[3, 1], [5, 0], [4, 2]], [68, 88, 83, 88, 82]), ([[1, 5], [2, 3], [0, 4]], [76, 67, 83, 67, 68]),
  ([[2, 0, 1], [3, 4, 5]], [77, 68, 88, 65, 83]), ([[2, 3], [0, 4], [1, 5]], [77, 68, 88, 82, 68]), ([[1, 0, 2], [5, 4, 3]], [77, 68, 88, 83, 67]), ([[1, 5], [0, 4], [2, 3]], [77, 68, 88, 83, 76]),
  ([[3, 4, 5], [2, 0, 1]], [77, 68, 88, 83, 77]), ([[3, 2], [4, 0], [5, 1]], [77, 68, 88, 83, 82]), ([[4, 3, 5], [0, 2, 1]], [77, 68, 88, 83, 88]), ([[4, 0], [3, 2], [5, 1]], [82, 67, 83, 67, 68]),
  ([[4, 2, 3, 1, 5, 0]], [65, 68, 88, 83, 67, 68]), ([[4], [2], [3], [1], [5], [0]], [65, 68, 88, 83, 76, 83]), ([[0, 5, 1, 3, 2, 4]], [65, 68, 88, 83, 77, 68]), ([[0], [5], [1], [3], [2], [4]], [65, 68, 88, 83, 82, 83]),
  ([[4, 0, 5, 1, 3, 2]], [67, 68, 88, 83, 67, 68]), ([[5, 3, 4], [1, 2, 0]], [67, 68, 88, 83, 67, 88]), ([[5, 1], [3, 2], [4, 0]], [67, 68, 88, 83, 76, 67]), ([[4], [0], [5], [1], [3], [2]], [67, 68, 88, 83, 76, 83]),
  ([[2, 3, 1, 5, 0, 4]], [67, 68, 88, 83, 77, 68]), ([[2], [3], [1], [5], [0], [4]], [67, 68, 88, 83, 82, 83]), ([[0, 2, 1], [4, 3, 5]], [67, 68, 88, 83, 88, 77]), ([[0, 4], [2, 3], [1, 5]], [67, 68, 88, 83, 88, 82]),
  ([[3, 2, 4, 0, 5, 1]], [68, 88, 83, 67, 68, 88]), ([[2, 4, 0, 5, 1, 3]], [68, 88, 83, 67, 88, 68]), ([[2], [4], [0], [5], [1], [3]], [68, 88, 83, 76, 67, 83]), ([[3], [2], [4], [0], [5], [1]], [68, 88, 83, 76, 83, 67]),
  ([[0, 4, 2, 3, 1, 5]], [68, 88, 83, 77, 68, 88]), ([[0], [4], [2], [3], [1], [5]], [68, 88, 83, 82, 83, 67]), ([[3, 1, 5, 0, 4, 2]], [68, 88, 83, 88, 77, 68]), ([[3], [1], [5], [0], [4], [2]], [68, 88, 83, 88, 82, 83]),
  ([[1, 5, 0, 4, 2, 3]], [77, 68, 88, 83, 67, 68]), ([[1], [5], [0], [4], [2], [3]], [77, 68, 88, 83, 76, 83]), ([[5, 1, 3, 2, 4, 0]], [65, 68, 88, 83, 77, 68, 88]), ([[5], [1], [3], [2], [4], [0]], [65, 68, 88, 83, 82, 83, 67])]
def T32 : Ws := [([[0, 1], [2, 3], [4, 5]], []), ([[5, 4], [3, 2], [1, 0]], [65]), ([[2, 3], [4, 5], [0, 1]], [67]), ([[4, 2, 0], [5, 3, 1]], [76]),
  ([[1, 0], [3, 2], [5, 4]], [77]), ([[1, 3, 5], [0, 2, 4]], [82]), ([[0], [1], [2], [3], [4], [5]], [83]), ([[3, 2], [1, 0], [5, 4]], [65, 67]),
  ([[4, 5], [2, 3], [0, 1]], [65, 77]), ([[5], [4], [3], [2], [1], [0]], [65, 83]), ([[1, 0], [5, 4], [3, 2]], [67, 65]), ([[4, 5], [0, 1], [2, 3]], [67, 67]),
  ([[0, 4, 2], [1, 5, 3]], [67, 76]), ([[3, 2], [5, 4], [1, 0]], [67, 77]), ([[3, 5, 1], [2, 4, 0]], [67, 82]), ([[2], [3], [4], [5], [0], [1]], [67, 83]),
  ([[5, 3, 1], [4, 2, 0]], [76, 67]), ([[4, 5, 2, 3, 0, 1]], [76, 68]), ([[0, 2, 4], [1, 3, 5]], [76, 77]), ([[2, 0, 4], [3, 1, 5]], [76, 88]),
  ([[1], [0], [3], [2], [5], [4]], [77, 83]), ([[1, 0, 3, 2, 5, 4]], [82, 68]), ([[1], [2], [3], [4], [5], [0]], [83, 67]), ([[5, 4, 3, 2, 1, 0]], [83, 76]),
  ([[0, 1, 2, 3, 4, 5]], [83, 82]), ([[5, 1, 3], [4, 0, 2]], [65, 67, 76]), ([[2, 3], [0, 1], [4, 5]], [65, 67, 77]), ([[3], [2], [1], [0], [5], [4]], [65, 67, 83]),
  ([[4], [5], [2], [3], [0], [1]], [65, 77, 83]), ([[4], [3], [2], [1], [0], [5]], [65, 83, 67]), ([[0, 1], [4, 5], [2, 3]], [67, 65, 77]), ([[1], [0], [5], [4], [3], [2]], [67, 65, 83]),
  ([[5, 4], [1, 0], [3, 2]], [67, 67, 77]), ([[4], [5], [0], [1], [2], [3]], [67, 67, 83]), ([[1, 5, 3], [0, 4, 2]], [67, 76, 67]), ([[0, 1, 4, 5, 2, 3]], [67, 76, 68]),
  ([[2, 4, 0], [3, 5, 1]], [67, 76, 77]), ([[3], [2], [5], [4], [1], [0]], [67, 77, 83]), ([[3, 2, 5, 4, 1, 0]], [67, 82, 68]), ([[3], [4], [5], [0], [1], [2]], [67, 83, 67]),
  ([[1, 0, 5, 4, 3, 2]], [67, 83, 76]), ([[2, 3, 4, 5, 0, 1]], [67, 83, 82]), ([[3, 1, 5], [2, 0, 4]], [76, 67, 88]), ([[5, 2, 3, 0, 1, 4]], [76, 68, 88]),
  ([[2, 3, 0, 1, 4, 5]], [76, 88, 68]), ([[4, 0, 2], [5, 1, 3]], [76, 88, 77]), ([[0], [3], [2], [5], [4], [1]], [77, 83, 67]), ([[0, 3, 2, 5, 4, 1]], [82, 68, 88]),
  ([[0], [5], [4], [3], [2], [1]], [83, 67, 65]), ([[1, 2], [3, 4], [5, 0]], [83, 67, 68]), ([[0, 5, 4, 3, 2, 1]], [83, 67, 76]), ([[1, 2, 3, 4, 5, 0]], [83, 67, 82]),
  ([[4, 3, 2, 1, 0, 5]], [83, 76, 88]), ([[5, 4, 1, 0, 3, 2]], [65, 67, 76, 68]), ([[2], [3], [0], [1], [4], [5]], [65, 67, 77, 83]), ([[2], [1], [0], [5], [4], [3]], [65, 67, 83, 67]),
  ([[4, 5, 0, 1, 2, 3]], [65, 67, 83, 76]), ([[3, 2, 1, 0, 5, 4]], [65, 67, 83, 82]), ([[5], [2], [3], [0], [1], [4]], [65, 77, 83, 67]), ([[5], [0], [1], [2], [3], [4]], [65, 83, 67, 65]),
  ([[4, 3], [2, 1], [0, 5]], [65, 83, 67, 68]), ([[5, 0, 1, 2, 3, 4]], [65, 83, 67, 76]), ([[0], [1], [4], [5], [2], [3]], [67, 65, 77, 83]), ([[5], [4], [1], [0], [3], [2]], [67, 67, 77, 83]),
  ([[1, 4, 5, 2, 3, 0]], [67, 76, 68, 88]), ([[2], [5], [4], [1], [0], [3]], [67, 77, 83, 67]), ([[2, 5, 4, 1, 0, 3]], [67, 82, 68, 88]), ([[3, 4], [5, 0], [1, 2]], [67, 83, 67, 68]),
  ([[2, 1, 0, 5, 4, 3]], [67, 83, 67, 76]), ([[3, 4, 5, 0, 1, 2]], [67, 83, 67, 82]), ([[4, 1, 0, 3, 2, 5]], [76, 68, 88, 65]), ([[4], [1], [0], [3], [2], [5]], [76, 68, 88, 82]),
  ([[5, 3, 1], [2, 0, 4]], [76, 68, 88, 83]), ([[3, 0, 1, 4, 5, 2]], [76, 88, 68, 88]), ([[1], [4], [5], [2], [3], [0]], [77, 83, 67, 65]), ([[0, 3], [2, 5], [4, 1]], [77, 83, 67, 68]),
  ([[0, 2, 4], [3, 5, 1]], [82, 68, 88, 83]), ([[0, 5], [4, 3], [2, 1]], [83, 67, 65, 68]), ([[5, 3, 1], [0, 4, 2]], [83, 67, 68, 76]), ([[2, 1], [4, 3], [0, 5]], [83, 67, 68, 77]),
  ([[2, 4, 0], [1, 3, 5]], [83, 67, 68, 82]), ([[0, 4, 2], [5, 3, 1]], [83, 67, 76, 83]), ([[1, 3, 5], [2, 4, 0]], [83, 67, 82, 83]), ([[4, 2, 0], [3, 1, 5]], [83, 76, 88, 83]),
  ([[3], [0], [1], [4], [5], [2]], [65, 67, 77, 83, 67]), ([[2, 1], [0, 5], [4, 3]], [65, 67, 83, 67, 68]), ([[5, 2], [3, 0], [1, 4]], [65, 77, 83, 67, 68]), ([[5, 0], [1, 2], [3, 4]], [65, 83, 67, 65, 68]),
  ([[0, 2, 4], [5, 1, 3]], [65, 83, 67, 68, 76]), ([[3, 4], [1, 2], [5, 0]], [65, 83, 67, 68, 77]), ([[3, 1, 5], [4, 2, 0]], [65, 83, 67, 68, 82]), ([[5, 1, 3], [0, 2, 4]], [65, 83, 67, 76, 83]),
  ([[1, 5, 3], [4, 2, 0]], [67, 76, 68, 88, 83]), ([[2, 5], [4, 1], [0, 3]], [67, 77, 83, 67, 68]), ([[2, 4, 0], [5, 1, 3]], [67, 82, 68, 88, 83]), ([[1, 5, 3], [2, 0, 4]], [67, 83, 67, 68, 76]),
  ([[4, 3], [0, 5], [2, 1]], [67, 83, 67, 68, 77]), ([[4, 0, 2], [3, 5, 1]], [67, 83, 67, 68, 82]), ([[2, 0, 4], [1, 5, 3]], [67, 83, 67, 76, 83]), ([[3, 5, 1], [4, 0, 2]], [67, 83, 67, 82, 83]),
  ([[4, 0, 2], [1, 3, 5]], [76, 68, 88, 65, 83]), ([[4, 1], [0, 3], [2, 5]], [76, 68, 88, 82, 68]), ([[2, 0, 4], [5, 3, 1]], [76, 68, 88, 83, 67]), ([[2, 5], [0, 3], [4, 1]], [76, 68, 88, 83, 76]),
  ([[1, 3, 5], [4, 0, 2]], [76, 68, 88, 83, 77]), ([[1, 4], [3, 0], [5, 2]], [76, 68, 88, 83, 82]), ([[3, 1, 5], [0, 4, 2]], [76, 68, 88, 83, 88]), ([[1, 4], [5, 2], [3, 0]], [77, 83, 67, 65, 68]),
  ([[4, 2, 0], [1, 5, 3]], [77, 83, 67, 68, 76]), ([[3, 0], [5, 2], [1, 4]], [77, 83, 67, 68, 77]), ([[3, 5, 1], [0, 2, 4]], [77, 83, 67, 68, 82]), ([[4, 1], [2, 5], [0, 3]], [82, 68, 88, 83, 82]),
  ([[5, 0], [3, 4], [1, 2]], [83, 67, 65, 68, 77]), ([[5, 0, 3, 4, 1, 2]], [83, 67, 68, 76, 68]), ([[2], [1], [4], [3], [0], [5]], [83, 67, 68, 77, 83]), ([[2, 1, 4, 3, 0, 5]], [83, 67, 68, 82, 68]),
  ([[0, 5], [2, 1], [4, 3]], [83, 76, 88, 83, 82]), ([[3, 0], [1, 4], [5, 2]], [65, 67, 77, 83, 67, 68]), ([[1, 2], [5, 0], [3, 4]], [65, 67, 83, 67, 68, 77]), ([[0, 5, 2, 1, 4, 3]], [65, 83, 67, 68, 76, 68]),
  ([[3], [4], [1], [2], [5], [0]], [65, 83, 67, 68, 77, 83]), ([[3, 4, 1, 2, 5, 0]], [65, 83, 67, 68, 82, 68]), ([[0, 4, 2], [3, 1, 5]], [67, 77, 83, 67, 68, 76]), ([[5, 2], [1, 4], [3, 0]], [67, 77, 83, 67, 68, 77]),
  ([[5, 1, 3], [2, 4, 0]], [67, 77, 83, 67, 68, 82]), ([[0, 3], [4, 1], [2, 5]], [67, 82, 68, 88, 83, 82]), ([[1, 2, 5, 0, 3, 4]], [67, 83, 67, 68, 76, 68]), ([[4], [3], [0], [5], [2], [1]], [67, 83, 67, 68, 77, 83]),
  ([[4, 3, 0, 5, 2, 1]], [67, 83, 67, 68, 82, 68]), ([[2, 5, 0, 3, 4, 1]], [76, 68, 88, 83, 67, 68]), ([[2], [5], [0], [3], [4], [1]], [76, 68, 88, 83, 76, 83]), ([[1, 4, 3, 0, 5, 2]], [76, 68, 88, 83, 77, 68]),
  ([[1], [4], [3], [0], [5], [2]], [76, 68, 88, 83, 82, 83]), ([[4, 1, 2, 5, 0, 3]], [77, 83, 67, 68, 76, 68]), ([[3], [0], [5], [2], [1], [4]], [77, 83, 67, 68, 77, 83]), ([[3, 0, 5, 2, 1, 4]], [77, 83, 67, 68, 82, 68]),
  ([[4], [1], [2], [5], [0], [3]], [82, 68, 88, 83, 82, 83]), ([[5], [0], [3], [4], [1], [2]], [83, 67, 65, 68, 77, 83]), ([[0, 3, 4, 1, 2, 5]], [83, 67, 68, 76, 68, 88]), ([[0], [5], [2], [1], [4], [3]], [83, 76, 88, 83, 82, 83]),
  ([[1], [2], [5], [0], [3], [4]], [65, 67, 83, 67, 68, 77, 83]), ([[5, 2, 1, 4, 3, 0]], [65, 83, 67, 68, 76, 68, 88]), ([[5], [2], [1], [4], [3], [0]], [67, 77, 83, 67, 68, 77, 83]), ([[0], [3], [4], [1], [2], [5]], [67, 82, 68, 88, 83, 82, 83])]
def T16 : Ws := [([[0, 1, 2, 3, 4, 5]], []), ([[5, 4, 3, 2, 1, 0]], [65]), ([[0], [1], [2], [3], [4], [5]], [76]), ([[5], [4], [3], [2], [1], [0]], [82]),
  ([[0, 2, 4], [1, 3, 5]], [83]), ([[1, 2, 3, 4, 5, 0]], [88]), ([[5, 3, 1], [4, 2, 0]], [65, 83]), ([[4, 3, 2, 1, 0, 5]], [65, 88]),
  ([[1], [2], [3], [4], [5], [0]], [76, 67]), ([[0, 1], [2, 3], [4, 5]], [76, 68]), ([[4], [3], [2], [1], [0], [5]], [82, 67]), ([[5, 4], [3, 2], [1, 0]], [82, 68]),
  ([[1, 3, 5], [0, 2, 4]], [83, 67]), ([[1, 0], [3, 2], [5, 4]], [83, 76]), ([[4, 2, 0], [5, 3, 1]], [83, 77]), ([[4, 5], [2, 3], [0, 1]], [83, 82]),
  ([[2, 4, 0], [3, 5, 1]], [83, 88]), ([[0, 5, 4, 3, 2, 1]], [88, 65]), ([[0], [5], [4], [3], [2], [1]], [88, 82]), ([[1, 3, 5], [2, 4, 0]], [88, 83]),
  ([[2, 3, 4, 5, 0, 1]], [88, 88]), ([[3, 1, 5], [2, 0, 4]], [65, 83, 88]), ([[5, 0, 1, 2, 3, 4]], [65, 88, 65]), ([[5], [0], [1], [2], [3], [4]], [65, 88, 82]),
  ([[4, 2, 0], [3, 1, 5]], [65, 88, 83]), ([[3, 2, 1, 0, 5, 4]], [65, 88, 88]), ([[2], [3], [4], [5], [0], [1]], [76, 67, 67]), ([[1, 2], [3, 4], [5, 0]], [76, 67, 68]),
  ([[2, 3], [4, 5], [0, 1]], [76, 68, 67]), ([[3], [2], [1], [0], [5], [4]], [82, 67, 67]), ([[4, 3], [2, 1], [0, 5]], [82, 67, 68]), ([[3, 2], [1, 0], [5, 4]], [82, 68, 67]),
  ([[1, 0, 3, 2, 5, 4]], [83, 67, 68]), ([[3, 5, 1], [2, 4, 0]], [83, 67, 88]), ([[3, 2], [5, 4], [1, 0]], [83, 76, 67]), ([[1], [0], [3], [2], [5], [4]], [83, 76, 83]),
  ([[4, 5, 2, 3, 0, 1]], [83, 77, 68]), ([[2, 0, 4], [3, 1, 5]], [83, 77, 88]), ([[2, 3], [0, 1], [4, 5]], [83, 82, 67]), ([[4], [5], [2], [3], [0], [1]], [83, 82, 83]),
  ([[1, 5, 3], [0, 4, 2]], [83, 88, 65]), ([[0, 4, 2], [1, 5, 3]], [83, 88, 77]), ([[0, 1], [4, 5], [2, 3]], [83, 88, 82]), ([[4, 0, 2], [5, 1, 3]], [83, 88, 88]),
  ([[0, 4, 2], [5, 3, 1]], [88, 65, 83]), ([[0, 5], [4, 3], [2, 1]], [88, 82, 68]), ([[2, 4, 0], [1, 3, 5]], [88, 83, 67]), ([[2, 1], [4, 3], [0, 5]], [88, 83, 76]),
  ([[5, 3, 1], [0, 4, 2]], [88, 83, 77]), ([[5, 0], [3, 4], [1, 2]], [88, 83, 82]), ([[3, 5, 1], [4, 0, 2]], [88, 83, 88]), ([[1, 0, 5, 4, 3, 2]], [88, 88, 65]),
  ([[1], [0], [5], [4], [3], [2]], [88, 88, 82]), ([[3, 4, 5, 0, 1, 2]], [88, 88, 88]), ([[5, 1, 3], [4, 0, 2]], [65, 83, 88, 77]), ([[5, 4], [1, 0], [3, 2]], [65, 83, 88, 82]),
  ([[5, 1, 3], [0, 2, 4]], [65, 88, 65, 83]), ([[5, 0], [1, 2], [3, 4]], [65, 88, 82, 68]), ([[3, 1, 5], [4, 2, 0]], [65, 88, 83, 67]), ([[3, 4], [1, 2], [5, 0]], [65, 88, 83, 76]),
  ([[0, 2, 4], [5, 1, 3]], [65, 88, 83, 77]), ([[0, 5], [2, 1], [4, 3]], [65, 88, 83, 82]), ([[2, 0, 4], [1, 5, 3]], [65, 88, 83, 88]), ([[4, 5, 0, 1, 2, 3]], [65, 88, 88, 65]),
  ([[4], [5], [0], [1], [2], [3]], [65, 88, 88, 82]), ([[2, 1, 0, 5, 4, 3]], [65, 88, 88, 88]), ([[3], [4], [5], [0], [1], [2]], [76, 67, 67, 67]), ([[3, 4], [5, 0], [1, 2]], [76, 67, 68, 67]),
  ([[1, 0], [5, 4], [3, 2]], [76, 68, 67, 65]), ([[4, 5], [0, 1], [2, 3]], [76, 68, 67, 67]), ([[2], [1], [0], [5], [4], [3]], [82, 67, 67, 67]), ([[2, 1], [0, 5], [4, 3]], [82, 67, 68, 67]),
  ([[0, 3, 2, 5, 4, 1]], [83, 67, 68, 88]), ([[3, 2, 5, 4, 1, 0]], [83, 67, 88, 68]), ([[3], [2], [5], [4], [1], [0]], [83, 76, 67, 83]), ([[0], [3], [2], [5], [4], [1]], [83, 76, 83, 67]),
  ([[5, 2, 3, 0, 1, 4]], [83, 77, 68, 88]), ([[2, 3, 0, 1, 4, 5]], [83, 77, 88, 68]), ([[2], [3], [0], [1], [4], [5]], [83, 82, 67, 83]), ([[5], [2], [3], [0], [1], [4]], [83, 82, 83, 67]),
  ([[0, 1, 4, 5, 2, 3]], [83, 88, 77, 68]), ([[0], [1], [4], [5], [2], [3]], [83, 88, 82, 83]), ([[2, 1, 4, 3, 0, 5]], [88, 83, 67, 68]), ([[4, 0, 2], [3, 5, 1]], [88, 83, 67, 88]),
  ([[4, 3], [0, 5], [2, 1]], [88, 83, 76, 67]), ([[2], [1], [4], [3], [0], [5]], [88, 83, 76, 83]), ([[5, 0, 3, 4, 1, 2]], [88, 83, 77, 68]), ([[5], [0], [3], [4], [1], [2]], [88, 83, 82, 83]),
  ([[1, 5, 3], [2, 0, 4]], [88, 83, 88, 77]), ([[1, 2], [5, 0], [3, 4]], [88, 83, 88, 82]), ([[5, 4, 1, 0, 3, 2]], [65, 83, 88, 77, 68]), ([[5], [4], [1], [0], [3], [2]], [65, 83, 88, 82, 83]),
  ([[3, 4, 1, 2, 5, 0]], [65, 88, 83, 67, 68]), ([[3], [4], [1], [2], [5], [0]], [65, 88, 83, 76, 83]), ([[0, 5, 2, 1, 4, 3]], [65, 88, 83, 77, 68]), ([[0], [5], [2], [1], [4], [3]], [65, 88, 83, 82, 83]),
  ([[1, 4, 5, 2, 3, 0]], [83, 67, 68, 88, 65]), ([[1], [4], [5], [2], [3], [0]], [83, 67, 68, 88, 82]), ([[0, 2, 4], [3, 5, 1]], [83, 67, 68, 88, 83]), ([[2, 5, 4, 1, 0, 3]], [83, 67, 88, 68, 88]),
  ([[2], [5], [4], [1], [0], [3]], [83, 76, 67, 83, 67]), ([[0, 3], [2, 5], [4, 1]], [83, 76, 83, 67, 68]), ([[4, 1, 0, 3, 2, 5]], [83, 77, 68, 88, 65]), ([[4], [1], [0], [3], [2], [5]], [83, 77, 68, 88, 82]),
  ([[5, 3, 1], [2, 0, 4]], [83, 77, 68, 88, 83]), ([[3, 0, 1, 4, 5, 2]], [83, 77, 88, 68, 88]), ([[3], [0], [1], [4], [5], [2]], [83, 82, 67, 83, 67]), ([[5, 2], [3, 0], [1, 4]], [83, 82, 83, 67, 68]),
  ([[1, 4, 3, 0, 5, 2]], [88, 83, 67, 68, 88]), ([[4, 3, 0, 5, 2, 1]], [88, 83, 67, 88, 68]), ([[4], [3], [0], [5], [2], [1]], [88, 83, 76, 67, 83]), ([[1], [4], [3], [0], [5], [2]], [88, 83, 76, 83, 67]),
  ([[0, 3, 4, 1, 2, 5]], [88, 83, 77, 68, 88]), ([[0], [3], [4], [1], [2], [5]], [88, 83, 82, 83, 67]), ([[1, 2, 5, 0, 3, 4]], [88, 83, 88, 77, 68]), ([[1], [2], [5], [0], [3], [4]], [88, 83, 88, 82, 83]),
  ([[4, 1, 2, 5, 0, 3]], [65, 88, 83, 67, 68, 88]), ([[4], [1], [2], [5], [0], [3]], [65, 88, 83, 76, 83, 67]), ([[5, 2, 1, 4, 3, 0]], [65, 88, 83, 77, 68, 88]), ([[5], [2], [1], [4], [3], [0]], [65, 88, 83, 82, 83, 67]),
  ([[1, 5, 3], [4, 2, 0]], [83, 67, 68, 88, 65, 83]), ([[1, 4], [5, 2], [3, 0]], [83, 67, 68, 88, 82, 68]), ([[3, 5, 1], [0, 2, 4]], [83, 67, 68, 88, 83, 67]), ([[3, 0], [5, 2], [1, 4]], [83, 67, 68, 88, 83, 76]),
  ([[4, 2, 0], [1, 5, 3]], [83, 67, 68, 88, 83, 77]), ([[4, 1], [2, 5], [0, 3]], [83, 67, 68, 88, 83, 82]), ([[2, 4, 0], [5, 1, 3]], [83, 67, 68, 88, 83, 88]), ([[2, 5], [4, 1], [0, 3]], [83, 76, 67, 83, 67, 68]),
  ([[4, 0, 2], [1, 3, 5]], [83, 77, 68, 88, 65, 83]), ([[4, 1], [0, 3], [2, 5]], [83, 77, 68, 88, 82, 68]), ([[2, 0, 4], [5, 3, 1]], [83, 77, 68, 88, 83, 67]), ([[2, 5], [0, 3], [4, 1]], [83, 77, 68, 88, 83, 76]),
  ([[1, 3, 5], [4, 0, 2]], [83, 77, 68, 88, 83, 77]), ([[1, 4], [3, 0], [5, 2]], [83, 77, 68, 88, 83, 82]), ([[3, 1, 5], [0, 4, 2]], [83, 77, 68, 88, 83, 88]), ([[3, 0], [1, 4], [5, 2]], [83, 82, 67, 83, 67, 68]),
  ([[2, 5, 0, 3, 4, 1]], [88, 83, 67, 68, 88, 65]), ([[2], [5], [0], [3], [4], [1]], [88, 83, 67, 68, 88, 82]), ([[3, 0, 5, 2, 1, 4]], [88, 83, 67, 88, 68, 88]), ([[3], [0], [5], [2], [1], [4]], [88, 83, 76, 67, 83, 67]),
  ([[0, 4, 2], [3, 1, 5]], [88, 83, 77, 68, 88, 83]), ([[0, 3], [4, 1], [2, 5]], [88, 83, 82, 83, 67, 68]), ([[5, 1, 3], [2, 4, 0]], [65, 88, 83, 77, 68, 88, 83]), ([[5, 2], [1, 4], [3, 0]], [65, 88, 83, 82, 83, 67, 68])]
def T61 : Ws := [([[0], [1], [2], [3], [4], [5]], []), ([[5], [4], [3], [2], [1], [0]], [65]), ([[1], [2], [3], [4], [5], [0]], [67]), ([[0, 1], [2, 3], [4, 5]], [68]),
  ([[5, 4, 3, 2, 1, 0]], [76]), ([[0, 1, 2, 3, 4, 5]], [82]), ([[4], [3], [2], [1], [0], [5]], [65, 67]), ([[5, 4], [3, 2], [1, 0]], [65, 68]),
  ([[0], [5], [4], [3], [2], [1]], [67, 65]), ([[2], [3], [4], [5], [0], [1]], [67, 67]), ([[1, 2], [3, 4], [5, 0]], [67, 68]), ([[0, 5, 4, 3, 2, 1]], [67, 76]),
  ([[1, 2, 3, 4, 5, 0]], [67, 82]), ([[2, 3], [4, 5], [0, 1]], [68, 67]), ([[4, 2, 0], [5, 3, 1]], [68, 76]), ([[1, 0], [3, 2], [5, 4]], [68, 77]),
  ([[1, 3, 5], [0, 2, 4]], [68, 82]), ([[5, 3, 1], [4, 2, 0]], [76, 83]), ([[4, 3, 2, 1, 0, 5]], [76, 88]), ([[0, 2, 4], [1, 3, 5]], [82, 83]),
  ([[5], [0], [1], [2], [3], [4]], [65, 67, 65]), ([[3], [2], [1], [0], [5], [4]], [65, 67, 67]), ([[4, 3], [2, 1], [0, 5]], [65, 67, 68]), ([[5, 0, 1, 2, 3, 4]], [65, 67, 76]),
  ([[3, 2], [1, 0], [5, 4]], [65, 68, 67]), ([[4, 5], [2, 3], [0, 1]], [65, 68, 77]), ([[0, 5], [4, 3], [2, 1]], [67, 65, 68]), ([[1], [0], [5], [4], [3], [2]], [67, 67, 65]),
  ([[3], [4], [5], [0], [1], [2]], [67, 67, 67]), ([[1, 0, 5, 4, 3, 2]], [67, 67, 76]), ([[2, 3, 4, 5, 0, 1]], [67, 67, 82]), ([[3, 4], [5, 0], [1, 2]], [67, 68, 67]),
  ([[5, 3, 1], [0, 4, 2]], [67, 68, 76]), ([[2, 1], [4, 3], [0, 5]], [67, 68, 77]), ([[2, 4, 0], [1, 3, 5]], [67, 68, 82]), ([[0, 4, 2], [5, 3, 1]], [67, 76, 83]),
  ([[1, 3, 5], [2, 4, 0]], [67, 82, 83]), ([[1, 0], [5, 4], [3, 2]], [68, 67, 65]), ([[4, 5], [0, 1], [2, 3]], [68, 67, 67]), ([[0, 4, 2], [1, 5, 3]], [68, 67, 76]),
  ([[3, 2], [5, 4], [1, 0]], [68, 67, 77]), ([[3, 5, 1], [2, 4, 0]], [68, 67, 82]), ([[4, 5, 2, 3, 0, 1]], [68, 76, 68]), ([[2, 0, 4], [3, 1, 5]], [68, 76, 88]),
  ([[1], [0], [3], [2], [5], [4]], [68, 77, 83]), ([[1, 0, 3, 2, 5, 4]], [68, 82, 68]), ([[3, 1, 5], [2, 0, 4]], [76, 83, 88]), ([[4, 2, 0], [3, 1, 5]], [76, 88, 83]),
  ([[3, 2, 1, 0, 5, 4]], [76, 88, 88]), ([[2, 4, 0], [3, 5, 1]], [82, 83, 88]), ([[5, 0], [1, 2], [3, 4]], [65, 67, 65, 68]), ([[4], [5], [0], [1], [2], [3]], [65, 67, 67, 65]),
  ([[2], [1], [0], [5], [4], [3]], [65, 67, 67, 67]), ([[4, 5, 0, 1, 2, 3]], [65, 67, 67, 76]), ([[2, 1], [0, 5], [4, 3]], [65, 67, 68, 67]), ([[0, 2, 4], [5, 1, 3]], [65, 67, 68, 76]),
  ([[3, 4], [1, 2], [5, 0]], [65, 67, 68, 77]), ([[3, 1, 5], [4, 2, 0]], [65, 67, 68, 82]), ([[5, 1, 3], [0, 2, 4]], [65, 67, 76, 83]), ([[5, 1, 3], [4, 0, 2]], [65, 68, 67, 76]),
  ([[2, 3], [0, 1], [4, 5]], [65, 68, 67, 77]), ([[4], [5], [2], [3], [0], [1]], [65, 68, 77, 83]), ([[5, 0], [3, 4], [1, 2]], [67, 65, 68, 77]), ([[2, 1, 0, 5, 4, 3]], [67, 67, 67, 76]),
  ([[3, 4, 5, 0, 1, 2]], [67, 67, 67, 82]), ([[1, 5, 3], [0, 4, 2]], [67, 67, 76, 83]), ([[1, 5, 3], [2, 0, 4]], [67, 68, 67, 76]), ([[4, 3], [0, 5], [2, 1]], [67, 68, 67, 77]),
  ([[4, 0, 2], [3, 5, 1]], [67, 68, 67, 82]), ([[5, 0, 3, 4, 1, 2]], [67, 68, 76, 68]), ([[2], [1], [4], [3], [0], [5]], [67, 68, 77, 83]), ([[2, 1, 4, 3, 0, 5]], [67, 68, 82, 68]),
  ([[3, 5, 1], [4, 0, 2]], [67, 82, 83, 88]), ([[0, 1], [4, 5], [2, 3]], [68, 67, 65, 77]), ([[5, 4], [1, 0], [3, 2]], [68, 67, 67, 77]), ([[0, 1, 4, 5, 2, 3]], [68, 67, 76, 68]),
  ([[3], [2], [5], [4], [1], [0]], [68, 67, 77, 83]), ([[3, 2, 5, 4, 1, 0]], [68, 67, 82, 68]), ([[5, 2, 3, 0, 1, 4]], [68, 76, 68, 88]), ([[2, 3, 0, 1, 4, 5]], [68, 76, 88, 68]),
  ([[4, 0, 2], [5, 1, 3]], [68, 76, 88, 77]), ([[0], [3], [2], [5], [4], [1]], [68, 77, 83, 67]), ([[0, 3, 2, 5, 4, 1]], [68, 82, 68, 88]), ([[0, 5], [2, 1], [4, 3]], [76, 88, 83, 82]),
  ([[2, 0, 4], [1, 5, 3]], [76, 88, 83, 88]), ([[1, 2], [5, 0], [3, 4]], [65, 67, 68, 67, 77]), ([[0, 5, 2, 1, 4, 3]], [65, 67, 68, 76, 68]), ([[3], [4], [1], [2], [5], [0]], [65, 67, 68, 77, 83]),
  ([[3, 4, 1, 2, 5, 0]], [65, 67, 68, 82, 68]), ([[5, 4, 1, 0, 3, 2]], [65, 68, 67, 76, 68]), ([[2], [3], [0], [1], [4], [5]], [65, 68, 67, 77, 83]), ([[5], [2], [3], [0], [1], [4]], [65, 68, 77, 83, 67]),
  ([[5], [0], [3], [4], [1], [2]], [67, 65, 68, 77, 83]), ([[1, 2, 5, 0, 3, 4]], [67, 68, 67, 76, 68]), ([[4], [3], [0], [5], [2], [1]], [67, 68, 67, 77, 83]), ([[4, 3, 0, 5, 2, 1]], [67, 68, 67, 82, 68]),
  ([[0, 3, 4, 1, 2, 5]], [67, 68, 76, 68, 88]), ([[1], [4], [3], [0], [5], [2]], [67, 68, 77, 83, 67]), ([[1, 4, 3, 0, 5, 2]], [67, 68, 82, 68, 88]), ([[0], [1], [4], [5], [2], [3]], [68, 67, 65, 77, 83]),
  ([[5], [4], [1], [0], [3], [2]], [68, 67, 67, 77, 83]), ([[1, 4, 5, 2, 3, 0]], [68, 67, 76, 68, 88]), ([[2], [5], [4], [1], [0], [3]], [68, 67, 77, 83, 67]), ([[2, 5, 4, 1, 0, 3]], [68, 67, 82, 68, 88]),
  ([[4, 1, 0, 3, 2, 5]], [68, 76, 68, 88, 65]), ([[4], [1], [0], [3], [2], [5]], [68, 76, 68, 88, 82]), ([[5, 3, 1], [2, 0, 4]], [68, 76, 68, 88, 83]), ([[3, 0, 1, 4, 5, 2]], [68, 76, 88, 68, 88]),
  ([[1], [4], [5], [2], [3], [0]], [68, 77, 83, 67, 65]), ([[0, 3], [2, 5], [4, 1]], [68, 77, 83, 67, 68]), ([[0, 2, 4], [3, 5, 1]], [68, 82, 68, 88, 83]), ([[0], [5], [2], [1], [4], [3]], [76, 88, 83, 82, 83]),
  ([[1], [2], [5], [0], [3], [4]], [65, 67, 68, 67, 77, 83]), ([[5, 2, 1, 4, 3, 0]], [65, 67, 68, 76, 68, 88]), ([[4], [1], [2], [5], [0], [3]], [65, 67, 68, 77, 83, 67]), ([[4, 1, 2, 5, 0, 3]], [65, 67, 68, 82, 68, 88]),
  ([[3], [0], [1], [4], [5], [2]], [65, 68, 67, 77, 83, 67]), ([[5, 2], [3, 0], [1, 4]], [65, 68, 77, 83, 67, 68]), ([[0], [3], [4], [1], [2], [5]], [67, 65, 68, 77, 83, 67]), ([[2, 5, 0, 3, 4, 1]], [67, 68, 67, 76, 68, 88]),
  ([[3], [0], [5], [2], [1], [4]], [67, 68, 67, 77, 83, 67]), ([[3, 0, 5, 2, 1, 4]], [67, 68, 67, 82, 68, 88]), ([[5], [2], [1], [4], [3], [0]], [67, 68, 76, 68, 88, 82]), ([[0, 4, 2], [3, 1, 5]], [67, 68, 76, 68, 88, 83]),
  ([[2], [5], [0], [3], [4], [1]], [67, 68, 77, 83, 67, 65]), ([[1, 4], [3, 0], [5, 2]], [67, 68, 77, 83, 67, 68]), ([[1, 3, 5], [4, 0, 2]], [67, 68, 82, 68, 88, 83]), ([[1, 5, 3], [4, 2, 0]], [68, 67, 76, 68, 88, 83]),
  ([[2, 5], [4, 1], [0, 3]], [68, 67, 77, 83, 67, 68]), ([[2, 4, 0], [5, 1, 3]], [68, 67, 82, 68, 88, 83]), ([[4, 0, 2], [1, 3, 5]], [68, 76, 68, 88, 65, 83]), ([[4, 1], [0, 3], [2, 5]], [68, 76, 68, 88, 82, 68]),
  ([[2, 0, 4], [5, 3, 1]], [68, 76, 68, 88, 83, 67]), ([[2, 5], [0, 3], [4, 1]], [68, 76, 68, 88, 83, 76]), ([[3, 1, 5], [0, 4, 2]], [68, 76, 68, 88, 83, 88]), ([[1, 4], [5, 2], [3, 0]], [68, 77, 83, 67, 65, 68]),
  ([[4, 2, 0], [1, 5, 3]], [68, 77, 83, 67, 68, 76]), ([[3, 0], [5, 2], [1, 4]], [68, 77, 83, 67, 68, 77]), ([[3, 5, 1], [0, 2, 4]], [68, 77, 83, 67, 68, 82]), ([[4, 1], [2, 5], [0, 3]], [68, 82, 68, 88, 83, 82]),
  ([[5, 1, 3], [2, 4, 0]], [65, 67, 68, 76, 68, 88, 83]), ([[3, 0], [1, 4], [5, 2]], [65, 68, 67, 77, 83, 67, 68]), ([[0, 3], [4, 1], [2, 5]], [67, 65, 68, 77, 83, 67, 68]), ([[5, 2], [1, 4], [3, 0]], [67, 68, 76, 68, 88, 82, 68])]
def tabF : Nat → Nat → Ws
  | 1, 2 => T12
  | 2, 1 => T21
  | 1, 3 => T13
  | 3, 1 => T31
  | 2, 2 => T22
  | 1, 4 => T14
  | 4, 1 => T41
  | 1, 5 => T15
  | 5, 1 => T51
  | 2, 3 => T23
  | 3, 2 => T32
  | 1, 6 => T16
  | 6, 1 => T61
  | _, _ => []
noncomputable def eqW : Ws → Ws → Bool
  | [], [] => true
  | a :: r, b :: s => eqF a.1 b.1 && eqN a.2 b.2 && eqW r s
  | _, _ => false
theorem eqW_of : ∀ {a b : Ws}, eqW a b = true → a = b
  | [], [], _ => rfl
  | [], _ :: _, h => by cases h
  | _ :: _, [], h => by cases h
  | a :: r, b :: s, h => by
    simp only [eqW, Bool.and_eq_true] at h
    rw [eqW_of h.2]
    congr 1
    exact Prod.ext ((eqF_iff _ _).mp h.1.1) ((eqN_iff _ _).mp h.1.2)
noncomputable def chk8 (s : Nat × Nat) : Bool := (fun t : Ws × List Fm => eqW t.1 (tabF s.1 s.2) && t.2.isEmpty) (bsN 8 (st0 (idF s.1 s.2)))
set_option maxHeartbeats 0 in
theorem ck_12 : chk8 (1, 2) = true := by decide +kernel
set_option maxHeartbeats 0 in
theorem ck_21 : chk8 (2, 1) = true := by decide +kernel
set_option maxHeartbeats 0 in
theorem ck_13 : chk8 (1, 3) = true := by decide +kernel
set_option maxHeartbeats 0 in
theorem ck_31 : chk8 (3, 1) = true := by decide +kernel
set_option maxHeartbeats 0 in
theorem ck_22 : chk8 (2, 2) = true := by decide +kernel
set_option maxHeartbeats 0 in
theorem ck_14 : chk8 (1, 4) = true := by decide +kernel
set_option maxHeartbeats 0 in
theorem ck_41 : chk8 (4, 1) = true := by decide +kernel
set_option maxHeartbeats 0 in
theorem ck_15 : chk8 (1, 5) = true := by decide +kernel
set_option maxHeartbeats 0 in
theorem ck_51 : chk8 (5, 1) = true := by decide +kernel
set_option maxHeartbeats 0 in
theorem ck_23 : chk8 (2, 3) = true := by decide +kernel
set_option maxHeartbeats 0 in
theorem ck_32 : chk8 (3, 2) = true := by decide +kernel
set_option maxHeartbeats 0 in
theorem ck_16 : chk8 (1, 6) = true := by decide +kernel
set_option maxHeartbeats 0 in
theorem ck_61 : chk8 (6, 1) = true := by decide +kernel
theorem tab_chk : (shps.all chk8) = true := by
  simp only [shps, List.all_cons, List.all_nil, Bool.and_true, ck_12, ck_21, ck_13, ck_31, ck_22, ck_14, ck_41, ck_15, ck_51, ck_23, ck_32, ck_16, ck_61]
theorem tab_ok : ∀ s ∈ shps, bsN 8 (st0 (idF s.1 s.2)) = (tabF s.1 s.2, []) := fun s hs => by
  have z := List.all_eq_true.mp tab_chk s hs
  have z : (eqW (bsN 8 (st0 (idF s.1 s.2))).1 (tabF s.1 s.2) && (bsN 8 (st0 (idF s.1 s.2))).2.isEmpty) = true := z
  rw [Bool.and_eq_true] at z
  exact Prod.ext (eqW_of z.1) (List.isEmpty_iff.mp z.2)
noncomputable def clB (T : Ws) (e : Fm × List Nat) (o : Nat) : Bool := match mvF e.1 o with
  | none => true
  | some g => match look T g with
    | none => false
    | some p => slex p (e.2 ++ [o])
noncomputable def clS (s : Nat × Nat) : Bool := (tabF s.1 s.2).all fun e => signs.all fun o => clB (tabF s.1 s.2) e o
set_option maxHeartbeats 0 in
theorem cl_12 : clS (1, 2) = true := by decide +kernel
set_option maxHeartbeats 0 in
theorem cl_21 : clS (2, 1) = true := by decide +kernel
set_option maxHeartbeats 0 in
theorem cl_13 : clS (1, 3) = true := by decide +kernel
set_option maxHeartbeats 0 in
theorem cl_31 : clS (3, 1) = true := by decide +kernel
set_option maxHeartbeats 0 in
theorem cl_22 : clS (2, 2) = true := by decide +kernel
set_option maxHeartbeats 0 in
theorem cl_14 : clS (1, 4) = true := by decide +kernel
set_option maxHeartbeats 0 in
theorem cl_41 : clS (4, 1) = true := by decide +kernel
set_option maxHeartbeats 0 in
theorem cl_15 : clS (1, 5) = true := by decide +kernel
set_option maxHeartbeats 0 in
theorem cl_51 : clS (5, 1) = true := by decide +kernel
set_option maxHeartbeats 0 in
theorem cl_23 : clS (2, 3) = true := by decide +kernel
set_option maxHeartbeats 0 in
theorem cl_32 : clS (3, 2) = true := by decide +kernel
set_option maxHeartbeats 0 in
theorem cl_16 : clS (1, 6) = true := by decide +kernel
set_option maxHeartbeats 0 in
theorem cl_61 : clS (6, 1) = true := by decide +kernel
theorem tab_cl0 : (shps.all clS) = true := by
  simp only [shps, List.all_cons, List.all_nil, Bool.and_true, cl_12, cl_21, cl_13, cl_31, cl_22, cl_14, cl_41, cl_15, cl_51, cl_23, cl_32, cl_16, cl_61]
theorem tab_cl : ∀ s ∈ shps, ((tabF s.1 s.2).all fun e => signs.all fun o => clB (tabF s.1 s.2) e o) = true := fun s hs => List.all_eq_true.mp tab_cl0 s hs
noncomputable def paB (r c : Nat) (e : Fm × List Nat) : Bool := (match aftF (idF r c) e.2 with | none => false | some g => eqF g e.1) && Nat.ble e.2.length 7 && e.2.all fun o => signs.contains o
set_option maxHeartbeats 0 in
theorem tab_pa : ∀ s ∈ shps, ((tabF s.1 s.2).all fun e => paB s.1 s.2 e) = true := by decide +kernel
noncomputable def ndB : Ws → Bool
  | [] => true
  | e :: r => (r.all fun x => !eqF e.1 x.1) && ndB r
set_option maxHeartbeats 0 in
theorem tab_nd : ∀ s ∈ shps, ndB (tabF s.1 s.2) = true := by decide +kernel
noncomputable def bfsF (f : Fm) : Ws := (bsN 8 (st0 f)).1
noncomputable def wayF (f g : Fm) : Option (List Nat) := look (bfsF f) g
theorem bsN_eq {f : Fm} {r c : Nat} (hf : isFm f = true) (s : Sh f r c) (n : Nat) : bsN n (st0 f) = mapS (hJ f) (bsN n (st0 (idF r c))) := by
  rw [← bsN_nat (hJ_inj hf)]
  congr 1
  show ([(f, [])], [f]) = ([(mapF (hJ f) (idF r c), [])], [mapF (hJ f) (idF r c)])
  rw [fJ_eq s]
theorem bfs_eq {f : Fm} {r c : Nat} (hf : isFm f = true) (s : Sh f r c) : bsN 8 (st0 f) = (mapW (hJ f) (tabF r c), []) := by
  rw [bsN_eq hf s, tab_ok _ s.mem]
  rfl
theorem bfs_tab {f : Fm} {r c : Nat} (hf : isFm f = true) (s : Sh f r c) : bfsF f = mapW (hJ f) (tabF r c) := by
  unfold bfsF
  rw [bfs_eq hf s]
theorem nd_map {h : Nat → Nat} (hi : ∀ a b, h a = h b → a = b) : ∀ {w : Ws}, ndB w = true → ((mapW h w).map (·.1)).Nodup
  | [], _ => List.nodup_nil
  | e :: w, hn => by
    simp only [ndB, Bool.and_eq_true, List.all_eq_true, Bool.not_eq_true'] at hn
    show (mapF h e.1 :: (mapW h w).map (·.1)).Nodup
    refine List.nodup_cons.mpr ⟨fun hm => ?_, nd_map hi hn.2⟩
    obtain ⟨x, hx, e1⟩ := List.mem_map.mp hm
    obtain ⟨y, hy, rfl⟩ := List.mem_map.mp hx
    have e2 := mapF_injA hi e1
    have e3 := hn.1 y hy
    rw [(eqF_iff _ _).mpr e2.symm] at e3
    cases e3
theorem bfs_nd {f : Fm} (hf : isFm f = true) : ((bfsF f).map (·.1)).Nodup := by
  have s := isFm_sh hf
  rw [bfs_tab hf s]
  exact nd_map (hJ_inj hf) (tab_nd _ s.mem)
theorem mem_look : ∀ {w : Ws} {g : Fm} {p : List Nat}, (w.map (·.1)).Nodup → (g, p) ∈ w → look w g = some p
  | [], g, p, _, h => by cases h
  | e :: w, g, p, hn, h => by
    have hn := List.nodup_cons.mp hn
    rcases List.mem_cons.mp h with z | z
    · rw [← z]; exact look_pos rfl
    · rw [look_neg, mem_look hn.2 z]
      intro q
      exact hn.1 (List.mem_map.mpr ⟨(g, p), z, q.symm⟩)
/-- what a way is -/
theorem way_mem {f g : Fm} {p : List Nat} (hf : isFm f = true) : (g, p) ∈ bfsF f ↔ wayF f g = some p := ⟨fun h => mem_look (bfs_nd hf) h, look_mem⟩
theorem way_some {f g : Fm} {p : List Nat} (hf : isFm f = true) (h : wayF f g = some p) : aftF f p = some g ∧ p.length ≤ 7 ∧ ∀ o ∈ p, o ∈ signs := by
  have s := isFm_sh hf
  have m := look_mem h
  rw [bfs_tab hf s] at m
  obtain ⟨e, he, ee⟩ := List.mem_map.mp m
  have z := List.all_eq_true.mp (tab_pa _ s.mem) e he
  unfold paB at z
  rw [Bool.and_eq_true, Bool.and_eq_true] at z
  obtain ⟨⟨z1, z2⟩, z3⟩ := z
  have e1 : mapF (hJ f) e.1 = g := congrArg Prod.fst ee
  have e2 : e.2 = p := congrArg Prod.snd ee
  rw [e2] at z1 z2 z3
  refine ⟨?_, Nat.ble_eq.mp z2, fun o ho => ?_⟩
  · have q := aftF_nat (hJ f) p (idF f.length (wid f))
    rw [fJ_eq s] at q
    have z1 : (match aftF (idF f.length (wid f)) p with | none => false | some g => eqF g e.1) = true := z1
    cases q2 : aftF (idF f.length (wid f)) p with
    | none => rw [q2] at z1; cases z1
    | some g0 =>
      rw [q2] at z1 q
      rw [q]
      show some (mapF (hJ f) g0) = some g
      rw [(eqF_iff _ _).mp z1, e1]
  · have y := List.all_eq_true.mp z3 o ho
    exact List.contains_iff_mem.mp y
theorem way_cl {f g g2 : Fm} {p : List Nat} {o : Nat} (hf : isFm f = true) (h : wayF f g = some p) (ho : o ∈ signs) (hm : mvF g o = some g2) : ∃ q, wayF f g2 = some q ∧ slex q (p ++ [o]) = true := by
  have s := isFm_sh hf
  have m := look_mem h
  rw [bfs_tab hf s] at m
  obtain ⟨e, he, ee⟩ := List.mem_map.mp m
  have z := List.all_eq_true.mp (List.all_eq_true.mp (tab_cl _ s.mem) e he) o ho
  have e1 : mapF (hJ f) e.1 = g := congrArg Prod.fst ee
  have e2 : e.2 = p := congrArg Prod.snd ee
  unfold clB at z
  rw [← e1, mvF_nat] at hm
  cases q1 : mvF e.1 o with
  | none => rw [q1] at hm; cases hm
  | some g0 =>
    rw [q1] at hm z
    have hm : mapF (hJ f) g0 = g2 := Option.some.inj hm
    have z : (match look (tabF f.length (wid f)) g0 with | none => false | some p => slex p (e.2 ++ [o])) = true := z
    cases q2 : look (tabF f.length (wid f)) g0 with
    | none => rw [q2] at z; cases z
    | some q =>
      rw [q2] at z
      refine ⟨q, ?_, by rw [← e2]; exact z⟩
      unfold wayF
      rw [bfs_tab hf s, ← hm, look_nat (hJ_inj hf), q2]
theorem way_self {f : Fm} (hf : isFm f = true) : wayF f f = some [] := by
  have s := isFm_sh hf
  have z : ∀ s ∈ shps, look (tabF s.1 s.2) (idF s.1 s.2) = some [] := by decide +kernel
  unfold wayF
  have e : look (mapW (hJ f) (tabF f.length (wid f))) (mapF (hJ f) (idF f.length (wid f))) = some [] := by
    rw [look_nat (hJ_inj hf)]
    exact z _ s.mem
  rw [bfs_tab hf s]
  rw [fJ_eq s] at e
  exact e
theorem way_minR {f : Fm} (hf : isFm f = true) : ∀ (n : Nat) (q : List Nat) (g : Fm), q.length = n → (∀ o ∈ q, o ∈ signs) → aftF f q = some g → ∃ p, wayF f g = some p ∧ slex p q = true
  | 0, q, g, hn, _, h => by
    have e : q = [] := List.length_eq_zero_iff.mp hn
    subst e
    have h := Option.some.inj h
    subst h
    exact ⟨[], way_self hf, slex_refl _⟩
  | n + 1, q, g, hn, hs, h => by
    have hne : q ≠ [] := fun z => by rw [z] at hn; cases hn
    have e := List.dropLast_concat_getLast hne
    rw [← e, aft_snoc] at h
    cases h1 : aftF f q.dropLast with
    | none => rw [h1] at h; cases h
    | some g1 =>
      rw [h1] at h
      have h : mvF g1 (q.getLast hne) = some g := h
      obtain ⟨p, hp, hl⟩ := way_minR hf n q.dropLast g1 (by rw [List.length_dropLast]; omega) (fun o ho => hs o (List.dropLast_subset _ ho)) h1
      obtain ⟨r, hr, hl2⟩ := way_cl hf hp (hs _ (List.getLast_mem hne)) h
      refine ⟨r, hr, slex_trans hl2 ?_⟩
      have z := slex_app [q.getLast hne] hl
      rw [e] at z
      exact z
/-- the first of the fewest -/
theorem way_min {f g : Fm} {q : List Nat} (hf : isFm f = true) (hs : ∀ o ∈ q, o ∈ signs) (h : aftF f q = some g) : ∃ p, wayF f g = some p ∧ slex p q = true := way_minR hf _ q g rfl hs h
theorem way_fm {f g : Fm} {p : List Nat} (hf : isFm f = true) (h : wayF f g = some p) : isFm g = true := aft_isFm hf (way_some hf h).1
end G

set_option Elab.async false
set_option linter.all false
set_option maxRecDepth 100000
namespace G
/-! how the ways grow -/
theorem bs1_cases (one : Fm) (s : Ws × List Fm) (o : Nat) : bs1 one s o = s ∨ ∃ g, mvF one o = some g ∧ look s.1 g = none ∧ bs1 one s o = (s.1 ++ [(g, (look s.1 one).getD [] ++ [o])], s.2 ++ [g]) := by
  unfold bs1
  cases h1 : mvF one o with
  | none => exact .inl rfl
  | some g =>
    cases h2 : look s.1 g with
    | some p => exact .inl (by show (match look s.1 g with | some _ => s | none => _) = s; rw [h2])
    | none => exact .inr ⟨g, rfl, h2, by show (match look s.1 g with | some _ => s | none => _) = _; rw [h2]⟩
structure Gs (n : Nat) (s : Ws × List Fm) (lv : List Fm) : Prop where
  nw : ∀ g ∈ s.2, isFm g = true ∧ ∃ p, look s.1 g = some p ∧ p.length = n + 1
  lv : ∀ g ∈ lv, isFm g = true ∧ ∃ p, look s.1 g = some p ∧ p.length = n
  le : s.2.length ≤ s.1.length
theorem look_grow {w v : Ws} {g : Fm} {p : List Nat} (h : look w g = some p) : look (w ++ v) g = some p := by
  rw [look_app, h]
  rfl
theorem Gs.step {n : Nat} {s : Ws × List Fm} {lv : List Fm} {one : Fm} (G : Gs n s lv) (h : one ∈ lv) (o : Nat) : Gs n (bs1 one s o) lv := by
  rcases bs1_cases one s o with e | ⟨g, h1, h2, e⟩
  · rw [e]
    exact G
  · rw [e]
    obtain ⟨hone, p0, hp0, hl0⟩ := G.lv one h
    refine ⟨fun x hx => ?_, fun x hx => ?_, ?_⟩
    · rcases List.mem_append.mp hx with z | z
      · obtain ⟨k1, p, k2, k3⟩ := G.nw x z
        exact ⟨k1, p, look_grow k2, k3⟩
      · rw [List.mem_singleton.mp z]
        refine ⟨mv_isFm hone h1, p0 ++ [o], ?_, by rw [List.length_append, hl0]; rfl⟩
        show look (s.1 ++ [(g, (look s.1 one).getD [] ++ [o])]) g = _
        rw [look_app, h2, hp0, Option.none_or]
        exact look_pos rfl
    · obtain ⟨k1, p, k2, k3⟩ := G.lv x hx
      exact ⟨k1, p, look_grow k2, k3⟩
    · show (s.2 ++ [g]).length ≤ (s.1 ++ _).length
      rw [List.length_append, List.length_append]
      have := G.le
      exact Nat.add_le_add this (Nat.le_refl 1)
theorem Gs.fold {n : Nat} {lv : List Fm} {one : Fm} (h : one ∈ lv) : ∀ (os : List Nat) {s : Ws × List Fm}, Gs n s lv → Gs n (os.foldl (bs1 one) s) lv
  | [], _, G => G
  | o :: os, _, G => Gs.fold h os (G.step h o)
theorem Gs.foldE {n : Nat} {lv : List Fm} : ∀ (l : List Fm) {s : Ws × List Fm}, (∀ g ∈ l, g ∈ lv) → Gs n s lv → Gs n (l.foldl bsE s) lv
  | [], _, _, G => G
  | one :: l, _, h, G => Gs.foldE l (fun g hg => h g (List.mem_cons_of_mem _ hg)) (Gs.fold (h one List.mem_cons_self) signs G)
theorem Gs.next {n : Nat} {s : Ws × List Fm} {lv : List Fm} (G : Gs n s lv) : Gs (n + 1) (s.1, []) s.2 := ⟨fun g hg => (by cases hg), G.nw, Nat.zero_le _⟩
theorem bsN_succ : ∀ (n : Nat) (s : Ws × List Fm), bsN (n + 1) s = bsL (bsN n s)
  | 0, s => rfl
  | n + 1, s => by
    show bsN (n + 1) (bsL s) = bsL (bsN n (bsL s))
    exact bsN_succ n (bsL s)
theorem lvOk {f : Fm} (hf : isFm f = true) : ∀ n : Nat, Gs n ((bsN n (st0 f)).1, []) (bsN n (st0 f)).2
  | 0 => ⟨fun g hg => (by cases hg), fun g hg => (by
      have hg : g ∈ [f] := hg
      rw [List.mem_singleton.mp hg]
      exact ⟨hf, [], look_pos rfl, rfl⟩), Nat.zero_le _⟩
  | n + 1 => by
    rw [bsN_succ]
    exact (Gs.foldE (bsN n (st0 f)).2 (fun g hg => hg) (lvOk hf n)).next
/-! sizes -/
theorem len1 (one : Fm) (s : Ws × List Fm) (o : Nat) : s.1.length ≤ (bs1 one s o).1.length := by
  rcases bs1_cases one s o with e | ⟨g, _, _, e⟩
  · rw [e]; exact Nat.le_refl _
  · rw [e]
    show s.1.length ≤ (s.1 ++ _).length
    rw [List.length_append]
    omega
theorem lenF (one : Fm) : ∀ (os : List Nat) (s : Ws × List Fm), s.1.length ≤ (os.foldl (bs1 one) s).1.length
  | [], _ => Nat.le_refl _
  | o :: os, s => Nat.le_trans (len1 one s o) (lenF one os _)
theorem lenE : ∀ (l : List Fm) (s : Ws × List Fm), s.1.length ≤ (l.foldl bsE s).1.length
  | [], _ => Nat.le_refl _
  | one :: l, s => Nat.le_trans (lenF one signs s) (lenE l _)
theorem lenN : ∀ (n : Nat) (s : Ws × List Fm), s.1.length ≤ (bsN n s).1.length
  | 0, _ => Nat.le_refl _
  | n + 1, s => Nat.le_trans (lenE s.2 (s.1, [])) (lenN n _)
theorem bsN_add : ∀ (m n : Nat) (s : Ws × List Fm), bsN (m + n) s = bsN n (bsN m s)
  | 0, n, s => by rw [Nat.zero_add]; rfl
  | m + 1, n, s => by
    rw [show m + 1 + n = (m + n) + 1 by omega]
    show bsN (m + n) (bsL s) = bsN n (bsN m (bsL s))
    exact bsN_add m n (bsL s)
theorem tab_len : ∀ s ∈ shps, (tabF s.1 s.2).length ≤ 144 := by decide +kernel
theorem bfs_len {f : Fm} (hf : isFm f = true) : (bfsF f).length ≤ 144 := by
  have s := isFm_sh hf
  rw [bfs_tab hf s]
  unfold mapW
  rw [List.length_map]
  exact tab_len _ s.mem
theorem lenN8 {f : Fm} (hf : isFm f = true) {n : Nat} (hn : n ≤ 8) : (bsN n (st0 f)).1.length ≤ 144 := by
  have e : bsN 8 (st0 f) = bsN (8 - n) (bsN n (st0 f)) := by rw [← bsN_add, show n + (8 - n) = 8 by omega]
  have z := bfs_len hf
  unfold bfsF at z
  rw [e] at z
  exact Nat.le_trans (lenN _ _) z
theorem take_fold {α β : Type} (f : β → α → β) (s : β) {l : List α} {i : Nat} {x : α} (h : l[i]? = some x) : (l.take (i + 1)).foldl f s = f ((l.take i).foldl f s) x := by
  rw [List.take_add_one, h, List.foldl_append]
  rfl
theorem lenT {f : Fm} (hf : isFm f = true) {n i j : Nat} {one : Fm} (hn : n < 8) (h : (bsN n (st0 f)).2[i]? = some one) :
    ((signs.take j).foldl (bs1 one) (((bsN n (st0 f)).2.take i).foldl bsE ((bsN n (st0 f)).1, []))).1.length ≤ 144 := by
  have z := lenN8 hf (n := n + 1) (by omega)
  rw [bsN_succ] at z
  have e : bsL (bsN n (st0 f)) = ((bsN n (st0 f)).2.drop (i + 1)).foldl bsE (bsE (((bsN n (st0 f)).2.take i).foldl bsE ((bsN n (st0 f)).1, [])) one) := by
    rw [← take_fold bsE ((bsN n (st0 f)).1, []) h, ← List.foldl_append, List.take_append_drop]
    rfl
  have e2 : ∀ s : Ws × List Fm, bsE s one = (signs.drop j).foldl (bs1 one) ((signs.take j).foldl (bs1 one) s) := fun s => by
    rw [← List.foldl_append, List.take_append_drop]
    rfl
  rw [e] at z
  have z2 := Nat.le_trans (lenE _ _) z
  rw [e2] at z2
  exact Nat.le_trans (lenF _ _ _) z2
theorem bsN_nil : ∀ (n : Nat) (s : Ws × List Fm), s.2 = [] → bsN n s = s
  | 0, _, _ => rfl
  | n + 1, s, h => by
    have e : bsL s = s := by
      unfold bsL
      rw [h]
      exact Prod.ext rfl h.symm
    show bsN n (bsL s) = s
    rw [e]
    exact bsN_nil n s h
theorem bfs_end {f : Fm} {n : Nat} (hn : n ≤ 8) (h : (bsN n (st0 f)).2 = []) : (bsN n (st0 f)).1 = bfsF f := by
  have e : bsN 8 (st0 f) = bsN (8 - n) (bsN n (st0 f)) := by rw [← bsN_add, show n + (8 - n) = 8 by omega]
  unfold bfsF
  rw [e, bsN_nil _ _ h]
theorem bfs_8 {f : Fm} (hf : isFm f = true) : (bsN 8 (st0 f)).2 = [] := by
  rw [bfs_eq hf (isFm_sh hf)]
end G

set_option Elab.async false
set_option linter.all false
set_option maxRecDepth 100000
set_option maxHeartbeats 4000000
namespace G
open PySem PySem.Spec PyProof.Rows L2 TL
/-! ### the dict of the ways -/
def wsV (val : List Nat → V) (w : Ws) : List (List Key × V) := w.map fun p => (kF p.1, val p.2)
theorem valV_ws (val : List Nat → V) : ∀ (w : Ws) (g : Fm), valV (wsV val w) (kF g) = (look w g).map val
  | [], g => rfl
  | p :: w, g => by
    by_cases h : p.1 = g
    · rw [look_pos h]
      show valV ((kF p.1, val p.2) :: wsV val w) (kF g) = _
      rw [valV_pos (by rw [h])]
      rfl
    · rw [look_neg h]
      show valV ((kF p.1, val p.2) :: wsV val w) (kF g) = _
      rw [valV_neg fun z => h (kF_inj z), valV_ws val w g]
theorem putK_ws {val : List Nat → V} {w : Ws} {g : Fm} {p : List Nat} (h : look w g = none) : putK (wsV val w) (kF g) (val p) = wsV val (w ++ [(g, p)]) := by
  unfold putK
  rw [valV_any, valV_ws, h]
  show wsV val w ++ [(kF g, val p)] = _
  unfold wsV
  rw [List.map_append]
  rfl
theorem wsV_len (val : List Nat → V) (w : Ws) : (wsV val w).length = w.length := by unfold wsV; rw [List.length_map]
abbrev sv (p : List Nat) : V := .str (mkS p)
abbrev iv (p : List Nat) : V := .int ((p.length : Nat) : Int)
theorem okn_lv {n : Nat} {lv : List Fm} (h : ∀ g ∈ lv, isFm g = true) : okn 9 (.lst (lv.map F_)) = true := by
  show (lv.map F_).all (okn 8) = true
  rw [List.all_eq_true]
  intro x hx
  obtain ⟨g, hg, rfl⟩ := List.mem_map.mp hx
  exact okn_mono (by decide) (okn_F (h g hg))
theorem ne_lv (lv : List Fm) : (!Dat.eq (.lst (lv.map F_)) (.lst [])) = !lv.isEmpty := by cases lv <;> rfl
theorem Wk.trans : ∀ {ρ ρ' ρ'' : List Sl}, Wk ρ ρ' → Wk ρ' ρ'' → Wk ρ ρ''
  | [], [], [], _, _ => True.intro
  | _ :: _, _ :: _, _ :: _, h, k => ⟨by
      rcases k.1 with z | z
      · exact .inl z
      · rcases h.1 with y | y
        · exact .inl (z ▸ y)
        · exact .inr (y.trans z), Wk.trans h.2 k.2⟩
theorem signs_ok : ∀ o ∈ signs, Nat.blt o 1114112 = true := by decide
section
variable {P : Program} {w : World} {K : PySem.W.Frag} {mg : Str → Option Value} {base : Heap}
/-! ### ways_from -/
def C_ways : List Dat → Res → Prop := fun as r => ∃ f : Fm, as = [F_ f] ∧ isFm f = true ∧ r = .ok (.dic (wsV sv (bfsF f)))
abbrev N_wf : List Str := ["formation", "found", "level", "later", "one", "order", "made"]
theorem sc_ways_from : FnScope N_wf ["formation"] (defScope s_ways_from) := ⟨rfl, rfl, rfl, by decide +kernel, rfl, by decide +kernel, by decide +kernel⟩
theorem c_ways_from {t : Tok} (G1 : FnC P w K mg base "moved" ["formation", "order"] C_moved 2) (hS : mg "SIGNS" = some (.str (mkS signs) t)) (h : At K mg "ways_from" s_ways_from) : FnC P w K mg base "ways_from" ["formation"] C_ways 3 := by
  refine h.c1 (fun _ _ _ _ _ _ us hl => match us, hl with | [_], _ => rfl) fun fa fd F => fnC_ok F sc_ways_from (fun as r ⟨d, e, _⟩ => by rw [e]; rfl) fun cdv A outer s H E as r W hM hr ⟨f, q, hf, er⟩ => ?_
  subst q er
  have nd := sc_ways_from.nd
  refine ss_cons (s_parMd (i := 1) (j := 2) (g := f) (dv := .str []) (u := sv []) (db := .lst [F_ f]) hr.units (fun _ h => ps_par rfl nd rfl rfl (by decide) rfl rfl h rfl) (dv 0 rfl) (d_str rfl) (fun H w r => rp_str r) (d_lst (da_one (dv 0 rfl)) (by simp)) fun a ha => ?_)
  refine ss_cons (s_while (fun m ρ' => ∃ n, m = 8 - n ∧ n ≤ 8 ∧ Wk ρ' [.dt (F_ f), .md a (wsV sv (bsN n (st0 f)).1), .dt (.lst ((bsN n (st0 f)).2.map F_)), .un, .un, .un, .un]) 8 po_cx ⟨0, rfl, by decide, .inr rfl, .inr rfl, .inr rfl, .inl rfl, .inl rfl, .inl rfl, .inl rfl, True.intro⟩ fun m ρ' ⟨n, em, hn, hw⟩ => ?_)
  have G0 := lvOk hf n
  have hlv : ∀ g ∈ (bsN n (st0 f)).2, isFm g = true := fun g hg => (G0.lv g hg).1
  refine ⟨!(bsN n (st0 f)).2.isEmpty, T.weak (T.is (t_ne hr.units (dv 2 rfl) (d_lst da_nil (by simp)) (okn_lv (n := n) hlv) rfl) (ne_lv _)) hw, fun hb => ?_, fun hb => ?_⟩
  · refine SS.weak ?_ hw
    have hn8 : n < 8 := by
      rcases Nat.lt_or_ge n 8 with z | z
      · exact z
      · have e : n = 8 := by omega
        rw [e, bfs_8 hf] at hb
        cases hb
    refine ss_cons (s_newml 3 nd fun b hbw => ?_)
    generalize hlvd : (bsN n (st0 f)).2 = lv at *
    generalize hfdd : (bsN n (st0 f)).1 = fd0 at *
    refine ss_cons (s_forW (fun i => [.dt (F_ f), .md a (wsV sv ((lv.take i).foldl bsE (fd0, [])).1), .dt (.lst (lv.map F_)), .ml b (((lv.take i).foldl bsE (fd0, [])).2.map F_), .un, .un, .un]) po_cx (i_list (dv 2 rfl)) (gt_name (i := 4) nd) (fun x ρ ρ' h => h.set 4 _) (fun _ _ => True.intro) ⟨.inr rfl, .inr rfl, .inr rfl, .inr rfl, .inl rfl, .inl rfl, .inl rfl, True.intro⟩ (fun fr i x hx => ?_) (fun ρ' hρ => ?_))
    · rw [List.getElem?_map] at hx
      cases ho : lv[i]? with
      | none => rw [ho] at hx; cases hx
      | some one =>
        rw [ho] at hx
        have hx : F_ one = x := Option.some.inj hx
        subst hx
        have hmem : one ∈ lv := List.mem_of_getElem? ho
        have Gi : Gs n ((lv.take i).foldl bsE (fd0, [])) lv := Gs.foldE _ (fun g hg => List.mem_of_mem_take hg) G0
        have hone := (G0.lv one hmem).1
        refine ss_one (s_forW (fun j => [.dt (F_ f), .md a (wsV sv ((signs.take j).foldl (bs1 one) ((lv.take i).foldl bsE (fd0, []))).1), .dt (.lst (lv.map F_)), .ml b (((signs.take j).foldl (bs1 one) ((lv.take i).foldl bsE (fd0, []))).2.map F_), .dt (F_ one), .un, .un]) po_cx (i_str (l := signs) (d_gstr hS rfl)) (gt_name (i := 5) nd) (fun x ρ ρ' h => h.set 5 _) (fun _ _ => True.intro) ⟨.inr rfl, .inr rfl, .inr rfl, .inr rfl, .inr rfl, .inl rfl, .inl rfl, True.intro⟩ (fun fr2 j x hx => ?_) (fun ρ' hρ => ?_))
        · rw [List.getElem?_map] at hx
          cases hj : signs[j]? with
          | none => rw [hj] at hx; cases hx
          | some o =>
            rw [hj] at hx
            have hx : Dat.str [o] = x := Option.some.inj hx
            subst hx
            have hos : o ∈ signs := List.mem_of_getElem? hj
            rw [take_fold (bs1 one) ((lv.take i).foldl bsE (fd0, [])) hj]
            have Gj : Gs n ((signs.take j).foldl (bs1 one) ((lv.take i).foldl bsE (fd0, []))) lv := Gs.fold hmem _ Gi
            have hlen := lenT hf (n := n) (i := i) (j := j) (one := one) hn8 (by rw [hlvd]; exact ho)
            rw [hlvd, hfdd] at hlen
            generalize (signs.take j).foldl (bs1 one) ((lv.take i).foldl bsE (fd0, [])) = t at Gj hlen
            obtain ⟨_, p0, hp0, hl0⟩ := Gj.lv one hmem
            refine ss_cons (s_set 6 nd (d_call G1 (hr.mono (by decide)) pa_cx (da_cons (dv 4 rfl) (da_one (dv 5 rfl))) ⟨one, o, rfl, hone, signs_ok o hos, rfl⟩) ?_)
            cases hm : mvF one o with
            | none =>
              have eb : bs1 one t o = t := by unfold bs1; rw [hm]
              rw [eb]
              refine ss_one (s_if (b := false) (t_w (w_and (x := false) (y := false) (T.is (t_notN (dv 6 rfl)) rfl) fun h => by cases h)) (fun h => by cases h) (fun _ => ss_nil ?_))
              exact ⟨.inr rfl, .inr rfl, .inr rfl, .inr rfl, .inr rfl, .inl rfl, .inl rfl, True.intro⟩
            | some g =>
              have hg := mv_isFm hone hm
              cases hlk : look t.1 g with
              | some p =>
                have eb : bs1 one t o = t := by unfold bs1; rw [hm]; show (match look t.1 g with | some _ => t | none => _) = t; rw [hlk]
                rw [eb]
                refine ss_one (s_if (b := false) (t_w (w_and (x := true) (y := false) (T.is (t_notN (dv 6 rfl)) rfl) fun _ => w_and1 (T.is (t_notinMd (i := 1) hr.units rfl (pv 1) (dv 6 rfl)) (by rw [valV_ws, hlk]; rfl)))) (fun h => by cases h) (fun _ => ss_nil ?_))
                exact ⟨.inr rfl, .inr rfl, .inr rfl, .inr rfl, .inr rfl, .inl rfl, .inl rfl, True.intro⟩
              | none =>
                have eb : bs1 one t o = (t.1 ++ [(g, p0 ++ [o])], t.2 ++ [g]) := by unfold bs1; rw [hm]; show (match look t.1 g with | some _ => t | none => _) = _; rw [hlk, hp0]; rfl
                rw [eb]
                refine ss_one (s_if (b := true) (t_w (w_and (x := true) (y := true) (T.is (t_notN (dv 6 rfl)) rfl) fun _ => w_and1 (T.is (t_notinMd (i := 1) hr.units rfl (pv 1) (dv 6 rfl)) (by rw [valV_ws, hlk]; rfl)))) (fun _ => ?_) (fun h => by cases h))
                refine ss_cons (s_putMd 1 (u := sv (p0 ++ [o])) hr.units rfl ha (pv 1) (dv 6 rfl) (d_addS (d_getMd (i := 1) (v := sv p0) (d := .str p0) hr.units rfl (pv 1) (dv 4 rfl) (by rw [valV_ws, hp0]; rfl) (fun H => .str _)) (dv 5 rfl) (by rw [hl0]; show n + 1 ≤ _; omega)) (fun H w r => rp_str r) (by rw [wsV_len]; omega) ?_)
                rw [putK_ws hlk]
                refine ss_one (s_append 3 (a := b) (d := F_ g) hbw (dv 6 rfl) rfl (by rw [List.length_map]; have := Gj.le; omega) ?_ (pv 3) fun h1 h2 => ps_expr (pe_bm PySem.F.plainAttrs_list PySem.F.slot_list_append PySem.F.type_list_append mt_append h1 (pa_cons h2 pa_nil)))
                refine ⟨.inr rfl, .inr rfl, .inr rfl, ?_, .inr rfl, .inl rfl, .inl rfl, True.intro⟩
                refine .inr ?_
                show Sl.ml b (t.2.map F_ ++ [F_ g]) = Sl.ml b ((t.2 ++ [g]).map F_)
                rw [List.map_append]
                rfl
        · rw [take_fold bsE (fd0, []) ho]
          exact Wk.trans hρ ⟨.inr rfl, .inr rfl, .inr rfl, .inr rfl, .inl rfl, .inl rfl, .inl rfl, True.intro⟩
    · rw [List.length_map, List.take_length] at hρ
      refine SS.weak ?_ hρ
      refine SS.freeze (i := 3) (a := b) rfl (hbw.b0 (hM b)) hbw.2 ?_
      refine ss_one (s_set 2 nd (dv 3 rfl) ?_)
      have e1 : bsN (n + 1) (st0 f) = lv.foldl bsE (fd0, []) := by
        rw [bsN_succ]
        unfold bsL
        rw [hlvd, hfdd]
      refine ⟨8 - (n + 1), by omega, n + 1, rfl, by omega, ?_⟩
      rw [e1]
      exact ⟨.inr rfl, .inr rfl, .inr rfl, .inl rfl, .inl rfl, .inl rfl, .inl rfl, True.intro⟩
  · refine SS.weak ?_ hw
    have he : (bsN n (st0 f)).2 = [] := List.isEmpty_iff.mp (nf hb)
    refine ss_one (s_retMd (i := 1) rfl (pv 1) ha (hM a) ?_)
    rw [bfs_end hn he]
    rfl
end
end G

set_option Elab.async false
set_option linter.all false
set_option maxRecDepth 100000
set_option maxHeartbeats 4000000
namespace G
open PySem PySem.Spec PyProof.Rows L2 TL
section
variable {X : Cx} {E : XK} {W : Wl} {ρ : List Sl} {P : Out → Prop} {tg : Expr}
/-- for k in d -/
theorem i_dic {e : Expr} {val : List Nat → V} {ws : Ws} (h : D X E0 e ρ (.ok (.dic (wsV val ws)))) : I X tg e ρ (ws.map fun p => F_ p.1) :=
  pi_imp (pi_keys h) fun σ H R ⟨B, c, en, q⟩ => ⟨B, c, en, fun v H1 s1 rv => by
    obtain ⟨a, od, rfl, ha⟩ := rp_dic rv
    refine ⟨a, od, rfl, .inr ⟨_, mask_sub B H1 _ _ ha, q _ H1 s1 fun i H2 B' cv sm => ?_⟩⟩
    have h2 : H2 a = some (.frz od (.dT (wsV val ws))) := mask_sub B' H2 _ _ (sm _ _ ha fun _ z => by cases z)
    refine ⟨fun hi => ⟨⟨h2, by rw [wsV_len]; rwa [List.length_map] at hi⟩, fun v H' y => ?_⟩, fun hi => ⟨h2, by rw [wsV_len]; rw [List.length_map] at hi; omega⟩⟩
    obtain ⟨e1, k, v', q, hk, ex, hq⟩ := y
    subst e1 ex
    unfold wsV at hk
    rw [List.getElem?_map] at hk
    cases hw : ws[i]? with
    | none => rw [hw] at hk; cases hk
    | some p =>
      rw [hw] at hk
      have hk : (kF p.1, val p.2) = (k, v') := Option.some.inj hk
      have hk1 := congrArg Prod.fst hk
      have hk1 : kF p.1 = k := hk1
      subst hk1
      refine ⟨Same.refl _, F_ p.1, by rw [List.getElem?_map, hw]; rfl, rp_ofF ?_⟩
      rw [mask_out (cv.tup hq)]
      exact hq⟩
theorem keys_rp {K : PySem.W.Frag} {B : Addr → Bool} {H : Hp} {val : List Nat → V} (c : Cov B H) : ∀ {ws : Ws} {bs : List Addr}, IsKeys H (wsV val ws) bs → RpA K (mask B H) (bs.map V.ref) (ws.map fun p => F_ p.1)
  | [], bs, h => by
    cases h
    exact .nil
  | p :: ws, bs, h => by
    have h : Paired (fun p b => H b = some (.tup (p.1.map kV))) ((kF p.1, val p.2) :: wsV val ws) bs := h
    cases h with
    | @cons _ b _ bs h1 h2 =>
      refine .cons (rp_ofF ?_) (keys_rp c h2)
      rw [mask_out (c.tup h1)]
      exact h1
/-- list(d) -/
theorem d_listDic {a : Expr} {val : List Nat → V} {ws : Ws} {p pos : Pos} (hm : X.mg "list" = none) (ha : D X E a ρ (.ok (.dic (wsV val ws)))) (hc : X.calm = true := by rfl) (hg : Gl X "list" := by rfl) (he : starEach [a] X.env = (false, eval a X.env) :: starEach [] X.env := by rfl) : D X E (.Call (.Name "list" p) [a] [] pos) ρ (.ok (.lst (ws.map fun p => F_ p.1))) :=
  d_callTy (call_list_dT hc) (fun B H vs Q c r q => by
    obtain ⟨v, rfl, rv⟩ := rpA_one r
    obtain ⟨a, od, rfl, h⟩ := rp_dic rv
    exact ⟨a, _, rfl, .inr ⟨od, mask_sub B H _ _ h⟩, fun p bs np hk => q _ _ (same_upd np) (rp_new_lst c np (keys_rp c hk))⟩) hm (da_one ha he) (by decide +kernel) hg (he := he)
/-- errors on the way to d[k] -/
theorem d_getErr1 {o e : Expr} {c : Value} {pos : Pos} (hu : X.A.units + 64 < cLine) (ho : D X E o ρ (.err c)) (hs : NoSl e := by exact fun _ _ => rfl) : D X E (.Subscript o e pos) ρ (.err c) :=
  D.ofR (pe_dget (by omega) ho pe_no hs) fun B σ H Q c en q => ⟨B, c, en, q⟩
theorem d_getErr2 {o e : Expr} {d : Dat} {c : Value} {pos : Pos} (hu : X.A.units + 64 < cLine) (ho : D X E o ρ (.ok d)) (he : D X E e ρ (.err c)) (hs : NoSl e := by exact fun _ _ => rfl) : D X E (.Subscript o e pos) ρ (.err c) :=
  D.ofR (pe_dget (by omega) ho he hs) fun B σ H Q c en q => ⟨B, c, en, fun v H1 s1 _ => ⟨B, c.same s1, en.same s1, fun H2 s2 => q H2 (s1.trans s2)⟩⟩
/-- max of a list of ints -/
theorem rpA_ints {K : PySem.W.Frag} {H : Hp} : ∀ {ns : List Int} {vs : List V}, RpA K H vs (ns.map Dat.int) → vs = ns.map V.int
  | [], vs, h => by cases h; rfl
  | n :: ns, vs, h => by
    cases h with
    | cons h1 h2 =>
      rw [rp_int h1, rpA_ints h2]
      rfl
theorem d_maxL {a : Expr} {ns : List Int} {m : Int} {p pos : Pos} (hm : X.mg "max" = none) (ha : D X E a ρ (.ok (.lst (ns.map Dat.int)))) (h1 : m ∈ ns) (h2 : ∀ y ∈ ns, y ≤ m) (hc : X.calm = true := by rfl) (hg : Gl X "max" := by rfl) (he : starEach [a] X.env = (false, eval a X.env) :: starEach [] X.env := by rfl) : D X E (.Call (.Name "max" p) [a] [] pos) ρ (.ok (.int m)) :=
  d_callB (cr_max hc) (fun B H vs Q c r q => by
    obtain ⟨v, rfl, rv⟩ := rpA_one r
    cases rv with
    | @lst b us _ h r' =>
      rw [rpA_ints r'] at h
      refine ⟨b, ns, rfl, SqL.of (mask_sub B H _ _ h), List.length_pos_of_mem h1, fun m' k1 k2 => ?_⟩
      have e : m' = m := Int.le_antisymm (h2 _ k1) (k2 _ h1)
      rw [e]
      exact q _ H (Same.refl H) (.int _)) hm (da_one ha he) (by decide +kernel) hg (he := he)
theorem d_minL {a : Expr} {ns : List Int} {m : Int} {p pos : Pos} (hm : X.mg "min" = none) (ha : D X E a ρ (.ok (.lst (ns.map Dat.int)))) (h1 : m ∈ ns) (h2 : ∀ y ∈ ns, m ≤ y) (hc : X.calm = true := by rfl) (hg : Gl X "min" := by rfl) (he : starEach [a] X.env = (false, eval a X.env) :: starEach [] X.env := by rfl) : D X E (.Call (.Name "min" p) [a] [] pos) ρ (.ok (.int m)) :=
  d_callB (cr_min hc) (fun B H vs Q c r q => by
    obtain ⟨v, rfl, rv⟩ := rpA_one r
    cases rv with
    | @lst b us _ h r' =>
      rw [rpA_ints r'] at h
      refine ⟨b, ns, rfl, SqL.of (mask_sub B H _ _ h), List.length_pos_of_mem h1, fun m' k1 k2 => ?_⟩
      have e : m' = m := Int.le_antisymm (k2 _ h1) (h2 _ k1)
      rw [e]
      exact q _ H (Same.refl H) (.int _)) hm (da_one ha he) (by decide +kernel) hg (he := he)
end
end G

set_option Elab.async false
set_option linter.all false
set_option maxRecDepth 100000
set_option maxHeartbeats 4000000
namespace G
open PySem PySem.Spec PyProof.Rows L2 TL
section
variable {P : Program} {w : World} {K : PySem.W.Frag} {mg : Str → Option Value} {base : Heap}
/-! ### _law_from -/
def C_lfrom : List Dat → Res → Prop := fun as r => ∃ f : Fm, as = [F_ f] ∧ isFm f = true ∧ r = .ok (.dic (wsV iv (bfsF f)))
abbrev N_lf : List Str := ["formation", "found", "level", "count", "later", "one", "order", "made"]
end
end G

set_option Elab.async false
set_option linter.all false
set_option maxRecDepth 100000
namespace G
/-! each order can be undone -/
def invP (r c o : Nat) : List Nat := if o = 82 then [76] else if o = 76 then [82] else if o = 68 then [83] else if o = 83 then [68] else if o = 67 then List.replicate (r - 1) 67 else if o = 88 then List.replicate (c - 1) 88 else [o]
theorem inv_ok : ∀ s ∈ shps, ∀ o ∈ signs, ((mvF (idF s.1 s.2) o).all fun g => decide (aftF g (invP s.1 s.2 o) = some (idF s.1 s.2))) = true := by decide +kernel
theorem inv_sg : ∀ s ∈ shps, ∀ o ∈ signs, ((invP s.1 s.2 o).all fun x => signs.contains x) = true := by decide +kernel
theorem mv_back {f g : Fm} {o : Nat} (hf : isFm f = true) (ho : o ∈ signs) (h : mvF f o = some g) : ∃ q, (∀ x ∈ q, x ∈ signs) ∧ aftF g q = some f := by
  have s := isFm_sh hf
  refine ⟨invP f.length (wid f) o, fun x hx => List.contains_iff_mem.mp (List.all_eq_true.mp (inv_sg _ s.mem o ho) x hx), ?_⟩
  have z := inv_ok _ s.mem o ho
  have e := fJ_eq s
  rw [← e, mvF_nat] at h
  cases h1 : mvF (idF f.length (wid f)) o with
  | none => rw [h1] at h; cases h
  | some g0 =>
    rw [h1] at h
    have h : mapF (hJ f) g0 = g := Option.some.inj h
    have z : ((mvF (idF f.length (wid f)) o).all fun g => decide (aftF g (invP f.length (wid f) o) = some (idF f.length (wid f)))) = true := z
    rw [h1] at z
    have z := of_decide_eq_true z
    rw [← h, aftF_nat, z]
    show some (mapF (hJ f) (idF f.length (wid f))) = some f
    rw [e]
theorem aft_app : ∀ (p q : List Nat) (f : Fm), aftF f (p ++ q) = (aftF f p).bind fun g => aftF g q
  | [], q, f => rfl
  | o :: p, q, f => by
    show (mvF f o).bind (fun g => aftF g (p ++ q)) = ((mvF f o).bind fun g => aftF g p).bind fun g => aftF g q
    cases mvF f o with
    | none => rfl
    | some g => exact aft_app p q g
theorem aft_two {p q : List Nat} {f g k : Fm} (h1 : aftF f p = some g) (h2 : aftF g q = some k) : aftF f (p ++ q) = some k := by
  rw [aft_app, h1]
  exact h2
theorem aft_back : ∀ {os : List Nat} {f g : Fm}, isFm f = true → (∀ o ∈ os, o ∈ signs) → aftF f os = some g → ∃ q, (∀ x ∈ q, x ∈ signs) ∧ aftF g q = some f
  | [], f, g, hf, _, h => by
    have h := Option.some.inj h
    subst h
    exact ⟨[], fun x hx => (by cases hx), rfl⟩
  | o :: os, f, g, hf, ho, h => by
    have h : (mvF f o).bind (fun g => aftF g os) = some g := h
    cases h1 : mvF f o with
    | none => rw [h1] at h; cases h
    | some f1 =>
      rw [h1] at h
      obtain ⟨q, hq, h2⟩ := aft_back (mv_isFm hf h1) (fun x hx => ho x (List.mem_cons_of_mem _ hx)) h
      obtain ⟨r, hr, h3⟩ := mv_back hf (ho o List.mem_cons_self) h1
      exact ⟨q ++ r, fun x hx => (List.mem_append.mp hx).elim (hq x) (hr x), aft_two h2 h3⟩
theorem back_way {f g : Fm} {os : List Nat} (hf : isFm f = true) (ho : ∀ o ∈ os, o ∈ signs) (h : aftF f os = some g) : ∃ p, wayF g f = some p := by
  obtain ⟨q, hq, h2⟩ := aft_back hf ho h
  obtain ⟨p, hp, _⟩ := way_min (aft_isFm hf h) hq h2
  exact ⟨p, hp⟩
/-- the way is told by being the first of the fewest -/
theorem way_uniq {f g : Fm} {p q : List Nat} (hf : isFm f = true) (h : wayF f g = some p) (hq : ∀ o ∈ q, o ∈ signs) (h1 : aftF f q = some g) (h2 : slex q p = true) : q = p := by
  obtain ⟨r, hr, h3⟩ := way_min hf hq h1
  have e := Option.some.inj (h.symm.trans hr)
  subst e
  exact slex_anti h2 h3
theorem way_one {f g : Fm} {o : Nat} (hf : isFm f = true) (ho : o ∈ signs) (h : mvF f o = some g) : ∃ p, wayF f g = some p ∧ p.length ≤ 1 := by
  obtain ⟨p, hp, hl⟩ := way_min (q := [o]) hf (fun x hx => by rw [List.mem_singleton.mp hx]; exact ho) (by show (mvF f o).bind _ = _; rw [h]; rfl)
  exact ⟨p, hp, slex_len hl⟩
/-- ways do not look at the names -/
theorem look_mapW {h : Nat → Nat} {w : Ws} : ∀ {g : Fm} {p : List Nat}, look w g = some p → (∀ a b, h a = h b → a = b) → look (mapW h w) (mapF h g) = some p := fun {g p} e hi => by rw [look_nat hi, e]
theorem bfs_nat {h : Nat → Nat} (hi : ∀ a b, h a = h b → a = b) (f : Fm) : bfsF (mapF h f) = mapW h (bfsF f) := by
  unfold bfsF
  have e := bsN_nat hi 8 (st0 f)
  have e2 : mapS h (st0 f) = st0 (mapF h f) := rfl
  rw [e2] at e
  rw [e]
  rfl
theorem way_nat {h : Nat → Nat} (hi : ∀ a b, h a = h b → a = b) (f g : Fm) : wayF (mapF h f) (mapF h g) = wayF f g := by
  unfold wayF
  rw [bfs_nat hi, look_nat hi]
end G

set_option Elab.async false
set_option linter.all false
set_option maxRecDepth 100000
set_option maxHeartbeats 4000000
namespace G
open PySem PySem.Spec PyProof.Rows L2 TL
def optS : Option (List Nat) → Dat
  | none => .non
  | some p => .str p
section
variable {X : Cx} {E : XK} {ρ : List Sl}
/-- the people of a formation -/
theorem d_people {b : Expr} {g : Fm} {x : Str} {j : Nat} {p2 apos pos : Pos} (hg : isFm g = true) (hb : D X E b ρ (.ok (F_ g))) (hx : x = mkS [] := by rfl) (hs : starEach [b] X.env = [(false, eval b X.env)] := by rfl) (hbase : attributeBase (.Constant (.str x) j p2) "join" X.env (eval (.Constant (.str x) j p2) X.env) = eval (.Constant (.str x) j p2) X.env := by rfl) (hline : (apos.endLine == pos.line) = true := by rfl) : D X E (.Call (.Attribute (.Constant (.str x) j p2) "join" apos) [b] [] pos) ρ (.ok (.str g.flatten)) :=
  (d_join (S := []) (ls := g) (d_str hx) hb (.inl rfl) (by have := (isFm_len hg).2.2.2.2.1; rw [flat_len]; show _ + _ * 0 ≤ _; omega) hs hbase hline).is (by rw [joinL_nil])
end
section
variable {P : Program} {w : World} {K : PySem.W.Frag} {mg : Str → Option Value} {base : Heap} {IF IO IM UN IS : Addr}
/-! ### two formations -/
inductive C_two (IF : Addr) (C : Fm → Fm → Res → Prop) : List Dat → Res → Prop
  | bad1 (d e : Dat) : okV d → isForm d = false → C_two IF C [d, e] (.err (.ref IF))
  | bad2 (d e : Dat) : okV d → okV e → isForm d = true → isForm e = false → C_two IF C [d, e] (.err (.ref IF))
  | ok (f g : Fm) (r : Res) : isFm f = true → isFm g = true → C f g r → C_two IF C [F_ f, F_ g] r
theorem C_two.len {IF : Addr} {C : Fm → Fm → Res → Prop} {as : List Dat} {r : Res} (h : C_two IF C as r) : as.length = 2 := by cases h <;> rfl
def unlR (UN : Addr) (f g : Fm) (r : Res) : Res := if f.flatten.length = g.flatten.length then r else .err (.ref UN)
abbrev C_alike (IF UN : Addr) : List Dat → Res → Prop := C_two IF fun f g r => r = unlR UN f g (.ok .non)
abbrev N_alk : List Str := ["formation", "other"]
theorem sc_need_alike : FnScope N_alk ["formation", "other"] (defScope s_need_alike) := ⟨rfl, rfl, rfl, by decide +kernel, rfl, by decide +kernel, by decide +kernel⟩
theorem c_need_alike (B : Bi mg) (G1 : FnC P w K mg base "need_formation" ["formation"] (C_needf IF) 2) (X1 : ExcF K mg "Unlike" UN) (h : At K mg "need_alike" s_need_alike) : FnC P w K mg base "need_alike" ["formation", "other"] (C_alike IF UN) 3 := by
  refine h.c1 (fun _ _ _ _ _ _ us hl => match us, hl with | [_, _], _ => rfl) fun fa fd F => fnC_ok F sc_need_alike (fun as r z => z.len) fun cdv A outer s H E as r W hM hr z => ?_
  cases z with
  | bad1 d e hd h1 => exact ss_cons (s_exprE (d_call G1 (hr.mono (by decide)) pa_cx (da_one (dv 0 rfl)) ⟨d, rfl, hd, by rw [h1]; rfl⟩) rfl)
  | bad2 d e hd he h1 h2 =>
    refine ss_cons (s_expr (d := .non) (d_call G1 (hr.mono (by decide)) pa_cx (da_one (dv 0 rfl)) ⟨d, rfl, hd, by rw [h1]; rfl⟩) ?_)
    exact ss_cons (s_exprE (d_call G1 (hr.mono (by decide)) pa_cx (da_one (dv 1 rfl)) ⟨e, rfl, he, by rw [h2]; rfl⟩) rfl)
  | ok f g r hf hg hc =>
    subst hc
    refine ss_cons (s_expr (d := .non) (d_call G1 (hr.mono (by decide)) pa_cx (da_one (dv 0 rfl)) ⟨_, rfl, okV_F hf, by rw [isForm_F, hf]; rfl⟩) ?_)
    refine ss_cons (s_expr (d := .non) (d_call G1 (hr.mono (by decide)) pa_cx (da_one (dv 1 rfl)) ⟨_, rfl, okV_F hg, by rw [isForm_F, hg]; rfl⟩) ?_)
    have l1 := (isFm_len hf).2.2.2.2.1
    have l2 := (isFm_len hg).2.2.2.2.1
    refine ss_one (s_if (int_ne hr.units (d_lenS B.len (d_people hf (dv 0 rfl)) (by omega)) (d_lenS B.len (d_people hg (dv 1 rfl)) (by omega))) (fun hb => ss_one (s_raise X1 tk_cx ?_)) (fun hb => ss_nil ?_))
    · have hb := of_decide_eq_false (nt hb)
      show some (Res.err _) = some (unlR UN f g _)
      unfold unlR
      rw [if_neg (by omega)]
    · have hb := of_decide_eq_true (nf hb)
      show some (Res.ok _) = some (unlR UN f g _)
      unfold unlR
      rw [if_pos (by omega)]
/-! ### way -/
abbrev C_way (IF UN : Addr) : List Dat → Res → Prop := C_two IF fun f g r => r = unlR UN f g (.ok (optS (wayF f g)))
theorem sc_way : FnScope N_alk ["formation", "other"] (defScope s_way) := ⟨rfl, rfl, rfl, by decide +kernel, rfl, by decide +kernel, by decide +kernel⟩
theorem c_way (G1 : FnC P w K mg base "need_alike" ["formation", "other"] (C_alike IF UN) 3) (G2 : FnC P w K mg base "ways_from" ["formation"] C_ways 3) (h : At K mg "way" s_way) : FnC P w K mg base "way" ["formation", "other"] (C_way IF UN) 4 := by
  refine h.c1 (fun _ _ _ _ _ _ us hl => match us, hl with | [_, _], _ => rfl) fun fa fd F => fnC_ok F sc_way (fun as r z => z.len) fun cdv A outer s H E as r W hM hr z => ?_
  cases z with
  | bad1 d e hd h1 => exact ss_cons (s_exprE (d_call G1 (hr.mono (by decide)) pa_cx (da_cons (dv 0 rfl) (da_one (dv 1 rfl))) (.bad1 d e hd h1)) rfl)
  | bad2 d e hd he h1 h2 => exact ss_cons (s_exprE (d_call G1 (hr.mono (by decide)) pa_cx (da_cons (dv 0 rfl) (da_one (dv 1 rfl))) (.bad2 d e hd he h1 h2)) rfl)
  | ok f g r hf hg hc =>
    subst hc
    by_cases hl : f.flatten.length = g.flatten.length
    · refine ss_cons (s_expr (d := .non) (d_call G1 (hr.mono (by decide)) pa_cx (da_cons (dv 0 rfl) (da_one (dv 1 rfl))) (.ok f g _ hf hg (by unfold unlR; rw [if_pos hl]))) ?_)
      refine ss_one (s_ret (d := optS (wayF f g)) (d_getM (g := g) hr.units (d_call G2 (hr.mono (by decide)) pa_cx (da_one (dv 0 rfl)) ⟨f, rfl, hf, rfl⟩) (dv 1 rfl) d_non (fun H u hu => ?_)) ?_)
      · rw [valV_ws]
        show Rp _ H (((wayF f g).map sv).getD u) (optS (wayF f g))
        cases wayF f g with
        | none => exact hu
        | some p => exact .str p
      · show some (Res.ok _) = some (unlR UN f g _)
        unfold unlR
        rw [if_pos hl]
    · have e : unlR UN f g (.ok (optS (wayF f g))) = .err (.ref UN) := by unfold unlR; rw [if_neg hl]
      rw [e]
      exact ss_cons (s_exprE (d_call G1 (hr.mono (by decide)) pa_cx (da_cons (dv 0 rfl) (da_one (dv 1 rfl))) (.ok f g _ hf hg (by unfold unlR; rw [if_neg hl]))) rfl)
/-! ### one formation -/
def C_one (IF : Addr) (C : Fm → Res → Prop) : List Dat → Res → Prop := fun as r => (∃ d, as = [d] ∧ okV d ∧ isForm d = false ∧ r = .err (.ref IF)) ∨ ∃ f : Fm, as = [F_ f] ∧ isFm f = true ∧ C f r
theorem C_one.len {IF : Addr} {C : Fm → Res → Prop} {as : List Dat} {r : Res} (h : C_one IF C as r) : as.length = 1 := by
  rcases h with ⟨d, e, _⟩ | ⟨f, e, _⟩ <;> rw [e] <;> rfl
/-! ### count_reachable -/
abbrev C_count (IF : Addr) : List Dat → Res → Prop := C_one IF fun f r => r = .ok (.int ((bfsF f).length : Nat))
noncomputable def farF (f : Fm) : Nat := ((bfsF f).map fun p => p.2.length).foldl max 0
theorem max_le : ∀ (l : List Nat) (a : Nat), a ≤ l.foldl max a ∧ (∀ x ∈ l, x ≤ l.foldl max a) ∧ (l.foldl max a = a ∨ l.foldl max a ∈ l)
  | [], a => ⟨Nat.le_refl _, fun x hx => (by cases hx), .inl rfl⟩
  | b :: l, a => by
    obtain ⟨h1, h2, h3⟩ := max_le l (max a b)
    refine ⟨Nat.le_trans (Nat.le_max_left _ _) h1, fun x hx => ?_, ?_⟩
    · rcases List.mem_cons.mp hx with z | z
      · rw [z]; exact Nat.le_trans (Nat.le_max_right _ _) h1
      · exact h2 x z
    · show (l.foldl max (max a b)) = a ∨ l.foldl max (max a b) ∈ b :: l
      rcases h3 with z | z
      · rw [z]
        by_cases q : a ≤ b
        · rw [Nat.max_eq_right q]; exact .inr List.mem_cons_self
        · rw [Nat.max_eq_left (by omega)]; exact .inl rfl
      · exact .inr (List.mem_cons_of_mem _ z)
theorem far_ge {f g : Fm} {p : List Nat} (h : (g, p) ∈ bfsF f) : p.length ≤ farF f := (max_le _ 0).2.1 _ (List.mem_map.mpr ⟨(g, p), h, rfl⟩)
theorem far_mem {f : Fm} (hf : isFm f = true) : farF f ∈ (bfsF f).map fun p => p.2.length := by
  have m : (f, []) ∈ bfsF f := (way_mem hf).mpr (way_self hf)
  rcases (max_le ((bfsF f).map fun p => p.2.length) 0).2.2 with z | z
  · unfold farF
    rw [z]
    exact List.mem_map.mpr ⟨(f, []), m, rfl⟩
  · exact z
abbrev C_far (IF : Addr) : List Dat → Res → Prop := C_one IF fun f r => r = .ok (.int (farF f : Nat))
abbrev N_far : List Str := ["formation", "some", "one"]
def undR (IM : Addr) (f : Fm) (os : List Nat) (r : Res) : Prop := (aftF f os = none ∧ r = .err (.ref IM)) ∨ ∃ g p, aftF f os = some g ∧ wayF g f = some p ∧ r = .ok (.str p)
abbrev C_undo (IF IO IM : Addr) : List Dat → Res → Prop := C_both IF IO (undR IM)
end
end G

set_option Elab.async false
set_option linter.all false
set_option maxRecDepth 100000
set_option maxHeartbeats 4000000
namespace G
open PySem PySem.Spec PyProof.Rows L2 TL
/-! ### two signs next to each other in a text -/
def adj (a b : Nat) : List Nat → Bool
  | x :: y :: r => (decide (x = a) && decide (y = b)) || adj a b (y :: r)
  | _ => false
theorem adj_iff (a b : Nat) : ∀ l : List Nat, adj a b l = true ↔ ∃ i, (l.drop i).take 2 = [a, b]
  | [] => ⟨fun h => (by cases h), fun ⟨i, h⟩ => by simp at h⟩
  | [x] => ⟨fun h => (by cases h), fun ⟨i, h⟩ => by cases i <;> simp at h⟩
  | x :: y :: r => by
    have ih := adj_iff a b (y :: r)
    show ((decide (x = a) && decide (y = b)) || adj a b (y :: r)) = true ↔ _
    rw [Bool.or_eq_true, Bool.and_eq_true, decide_eq_true_eq, decide_eq_true_eq, ih]
    constructor
    · rintro (⟨rfl, rfl⟩ | ⟨i, h⟩)
      · exact ⟨0, rfl⟩
      · exact ⟨i + 1, h⟩
    · rintro ⟨i, h⟩
      cases i with
      | zero =>
        have h : [x, y] = [a, b] := h
        injection h with h1 h2
        injection h2 with h2 _
        exact .inl ⟨h1, h2⟩
      | succ i => exact .inr ⟨i, h⟩
theorem in2 (l : List Nat) (a b : Nat) : (!(Builtin.Str.occurrences (⟨l.toArray⟩ : Str) (⟨[a, b].toArray⟩ : Str) 0 (⟨l.toArray⟩ : Str).length 1).isEmpty) = adj a b l := by
  have z := StrLaws.found_iff (⟨l.toArray⟩ : Str) (⟨[a, b].toArray⟩ : Str)
  have q : (∃ i, i + (⟨[a, b].toArray⟩ : Str).length ≤ (⟨l.toArray⟩ : Str).length ∧ Builtin.Str.subAt (⟨l.toArray⟩ : Str) (⟨[a, b].toArray⟩ : Str) i = true) ↔ ∃ i, (l.drop i).take 2 = [a, b] := by
    refine exists_congr fun i => ?_
    rw [StrLaws.subAt_eq, len_mk, len_mk]
    show i + 2 ≤ l.length ∧ ((l.drop i).take 2 == [a, b]) = true ↔ _
    rw [beq_iff_eq]
    refine ⟨fun h => h.2, fun h => ⟨?_, h⟩⟩
    have e := congrArg List.length h
    rw [List.length_take, List.length_drop] at e
    have e : min 2 (l.length - i) = 2 := e
    omega
  rw [Bool.eq_iff_iff, z, q, adj_iff]
section
variable {X : Cx} {E : XK} {W : Wl} {ρ : List Sl} {P : Out → Prop}
theorem d_in2 {x y : Expr} {a b : Nat} {l : List Nat} {pos : Pos} (ha : D X E x ρ (.ok (.str [a, b]))) (hb : D X E y ρ (.ok (.str l))) (hm : behindInMarks .In y = false := by rfl) : D X E (.Compare x [.In] [y] pos) ρ (.ok (.bl (adj a b l))) :=
  d_cmp op_in_str (fun B H vx vy Q cv rx ry q => ⟨_, _, rp_str rx, rp_str ry, by rw [in2]; exact q _ H (Same.refl H) (.bl _)⟩) ha hb hm
theorem d_notInSign {a b : Expr} {c : Nat} {l : List Nat} {pos : Pos} (ha : D X E a ρ (.ok (.str [c]))) (hb : D X E b ρ (.ok (.str l))) (hm : behindInMarks .NotIn b = false := by rfl) : D X E (.Compare a [.NotIn] [b] pos) ρ (.ok (.bl (!decide (c ∈ l)))) :=
  d_cmp op_notIn_sign (fun B H vx vy Q cv rx ry q => ⟨c, _, rp_str rx, rp_str ry, q _ H (Same.refl H) (.bl _)⟩) ha hb hm
theorem t_notInSign {a b : Expr} {c : Nat} {l : List Nat} {pos : Pos} (ha : D X E0 a ρ (.ok (.str [c]))) (hb : D X E0 b ρ (.ok (.str l))) (hm : behindInMarks .NotIn b = false := by rfl) : T X (.Compare a [.NotIn] [b] pos) ρ (!decide (c ∈ l)) :=
  t_cmp op_notIn_sign (fun B H vx vy Q cv rx ry q => ⟨c, _, rp_str rx, rp_str ry, q _ H (Same.refl H) (.bl _)⟩) ha hb hm
end
section
variable {P : Program} {w : World} {K : PySem.W.Frag} {mg : Str → Option Value} {base : Heap} {IF IP : Addr}
/-! ### need_person -/
def isPer (f : Fm) : Dat → Bool
  | .str [c] => decide (c ∈ f.flatten)
  | _ => false
def C_needp (IP : Addr) : List Dat → Res → Prop := fun as r => ∃ f d, as = [F_ f, d] ∧ isFm f = true ∧ okV d ∧ r = needR (isPer f d) IP (.ok .non)
abbrev N_np : List Str := ["formation", "one"]
theorem sc_need_person : FnScope N_np ["formation", "one"] (defScope s_need_person) := ⟨rfl, rfl, rfl, by decide +kernel, rfl, by decide +kernel, by decide +kernel⟩
theorem isPer_no {f : Fm} {l : List Nat} (h : l.length ≠ 1) : isPer f (.str l) = false := by
  match l, h with
  | [], _ => rfl
  | [_], h => exact absurd rfl h
  | _ :: _ :: _, _ => rfl
theorem c_need_person (B : Bi mg) (X1 : ExcF K mg "InvalidPerson" IP) (h : At K mg "need_person" s_need_person) : FnC P w K mg base "need_person" ["formation", "one"] (C_needp IP) 1 := by
  refine h.c1 (fun _ _ _ _ _ _ us hl => match us, hl with | [_, _], _ => rfl) fun fa fd F => fnC_ok F sc_need_person (fun as r ⟨f, d, e, _⟩ => by rw [e]; rfl) fun cdv A outer s H E as r W hM hr ⟨f, d, e, hf, hok, er⟩ => ?_
  subst e er
  have hdd := okV_d hok
  refine ss_one (s_if (b := !isPer f d) ?_ (fun hb => ss_one (s_raise X1 tk_cx ?_)) (fun hb => ss_nil ?_))
  · by_cases hS : d.isS = true
    · obtain ⟨l, rfl⟩ := isS_of hS
      have hl1 : l.length ≤ 1000 := hok.1
      by_cases hl : l.length = 1
      · match l, hl with
        | [c], _ => exact t_w (TW.is (w_or (x := false) (y := !decide (c ∈ f.flatten)) (T.is (t_not (t_val (d_isi B.isinstance B.str (dv 1 rfl) (kit_S _)))) rfl) fun _ => w_or (x := false) (y := !decide (c ∈ f.flatten)) (T.is (int_ne hr.units (d_lenS B.len (dv 1 rfl) (by show 1 ≤ 100000; decide)) d_int) rfl) fun _ => w_or1 (t_notInSign (dv 1 rfl) (d_people hf (dv 0 rfl)))) rfl)
      · refine t_w (TW.is (w_or (x := false) (y := true) (T.is (t_not (t_val (d_isi B.isinstance B.str (dv 1 rfl) (kit_S _)))) rfl) fun _ => TW.is (w_or (x := true) (y := true) (T.is (int_ne hr.units (d_lenS B.len (dv 1 rfl) (by omega)) d_int) (by rw [decide_eq_false (by omega)]; rfl)) fun h => by cases h) rfl) ?_)
        rw [isPer_no hl]
        rfl
    · have hS' : d.isS = false := Bool.eq_false_iff.mpr hS
      refine t_w (TW.is (w_or (x := true) (y := true) (T.is (t_not (t_val (d_isi B.isinstance B.str (dv 1 rfl) (kit_S _)))) (by rw [hS']; rfl)) fun h => by cases h) ?_)
      have e : isPer f d = false := by cases d <;> first | rfl | cases hS'
      rw [e]
      rfl
  · show some (Res.err _) = some (needR (isPer f d) IP _)
    rw [nt hb]
    rfl
  · show some (Res.ok _) = some (needR (isPer f d) IP _)
    rw [nf hb]
    rfl
/-! ### need_two -/
inductive C_tw (IF IP : Addr) (C : Fm → Nat → Nat → Res → Prop) : List Dat → Res → Prop
  | badF (d x y : Dat) : okV d → isForm d = false → C_tw IF IP C [d, x, y] (.err (.ref IF))
  | bad1 (f : Fm) (x y : Dat) : isFm f = true → okV x → isPer f x = false → C_tw IF IP C [F_ f, x, y] (.err (.ref IP))
  | bad2 (f : Fm) (a : Nat) (y : Dat) : isFm f = true → a ∈ f.flatten → okV y → isPer f y = false → C_tw IF IP C [F_ f, .str [a], y] (.err (.ref IP))
  | same (f : Fm) (a : Nat) : isFm f = true → a ∈ f.flatten → C_tw IF IP C [F_ f, .str [a], .str [a]] (.err (.ref IP))
  | ok (f : Fm) (a b : Nat) (r : Res) : isFm f = true → a ∈ f.flatten → b ∈ f.flatten → a ≠ b → C f a b r → C_tw IF IP C [F_ f, .str [a], .str [b]] r
theorem C_tw.len {IF IP : Addr} {C : Fm → Nat → Nat → Res → Prop} {as : List Dat} {r : Res} (h : C_tw IF IP C as r) : as.length = 3 := by cases h <;> rfl
abbrev C_need2 (IF IP : Addr) : List Dat → Res → Prop := C_tw IF IP fun _ _ _ r => r = .ok .non
theorem okV_one {f : Fm} {a : Nat} (hf : isFm f = true) (h : a ∈ f.flatten) : okV (.str [a]) := by
  obtain ⟨l, hl, hc⟩ := List.mem_flatten.mp h
  have z := isFm_codes hf l hl a hc
  refine ⟨by show 1 ≤ 1000; decide, ?_⟩
  show (Nat.blt a 1114112 && true) = true
  rw [lets_ok a z]
  rfl
abbrev N_n2 : List Str := ["formation", "one", "two"]
def nextF (ls : Fm) (a b : Nat) : Bool := ls.any fun l => adj a b l || adj b a l
def C_stn : List Dat → Res → Prop := fun as r => ∃ (x : Dat) (ls : Fm) (a b : Nat), as = [x, .str [a], .str [b]] ∧ (x = .tup (ls.map Dat.str) ∨ x = .lst (ls.map Dat.str)) ∧ ls.length ≤ 1000 ∧ r = .ok (.bl (nextF ls a b))
abbrev N_stn : List Str := ["lines", "one", "two", "line"]
def filesF (f : Fm) : Fm := (List.range (wid f)).map (fileOf f)
def C_files : List Dat → Res → Prop := fun as r => ∃ f : Fm, as = [F_ f] ∧ isFm f = true ∧ r = .ok (.lst ((filesF f).map Dat.str))
abbrev N_fls : List Str := ["formation", "number"]
abbrev C_beside (IF IP : Addr) : List Dat → Res → Prop := C_tw IF IP fun f a b r => r = .ok (.bl (nextF f a b))
abbrev C_behind (IF IP : Addr) : List Dat → Res → Prop := C_tw IF IP fun f a b r => r = .ok (.bl (nextF (filesF f) a b))
end
end G

set_option Elab.async false
set_option linter.all false
set_option maxRecDepth 100000
set_option maxHeartbeats 4000000
namespace PySem
open Sem (wp)
open AutoSeq1 (wpAny_loadPart')
theorem meets_enumerate_newTup (l : Addr) (items : Array Value) (n : Nat) (dct : Option Addr) (sl : Array (Option Value)) :
    Meets (Builtin.«enumerate.__new__» ⟨[.type "enumerate", .ref l], []⟩) (fun _ R s => s.heap.get? l = some { cls := .type "tuple", dict := dct, data := .seq items n, slots := sl } ∧
      R (.ok (.ret (.ref (s.heap.push { cls := .type "tuple_iterator", data := .fields #[.ref l, .int 0 0] }).objs.size)))
        { s with heap := (s.heap.push { cls := .type "tuple_iterator", data := .fields #[.ref l, .int 0 0] }).push { cls := .type "enumerate", data := .fields #[.none, .bool false, .ref s.heap.objs.size, rawInt 0, .none, .none] } }) :=
  .of_wp fun prog w A R s h => by
    obtain ⟨hp, g, d, tk, os⟩ := s; obtain ⟨hl, h⟩ := h
    have hsub := sub_enumerate
    have hL : Heap.IsTuple (Shared.heap ⟨hp, g, d, tk, os⟩) l items := ⟨_, hl, rfl, n, rfl⟩
    wp_walk using wpAny_loadPart' hl
    refine wpAny_stack_any fun st => wpAny_pure ?_
    split
    · rename_i c _ _ _ _ _
      cases (c == Value.type "enumerate")
      · wp_walk using wpAny_loadPart' hl, wpAny_pyIter_tuple hL
        exact ⟨_, rfl, h⟩
      · wp_walk using wpAny_loadPart' hl, wpAny_pyIter_tuple hL
        exact ⟨_, rfl, h⟩
    · wp_walk using wpAny_loadPart' hl, wpAny_pyIter_tuple hL
      exact ⟨_, rfl, h⟩
section
variable {prog : Program} {w : World} {A : Around} {E : Value → Shared → Prop} {s : Shared}
theorem call_enumerate_tup {l : Addr} {items : Array Value} {Q : Value → Shared → Prop} (hL : s.heap.IsTuple l items)
    (h : ∀ h', IsEnum h' (s.heap.objs.size + 1) s.heap.objs.size 0 .none → h'.IsTupleIter s.heap.objs.size l 0 → h'.objs.size = s.heap.objs.size + 2 →
      (∀ b o, s.heap.get? b = some o → h'.get? b = some o) → Q (.ref (s.heap.objs.size + 1)) { s with heap := h' }) :
    wpAny (model prog w) A (call (.type "enumerate") [.ref l]) Q E s := by
  obtain ⟨⟨c, dct, dt, sl⟩, hl, hc, n, hd⟩ := hL
  replace hc : c = .type "tuple" := hc
  replace hd : dt = .seq items n := hd
  subst hc hd
  refine callType_new F.called_enumerate (by decide) (F.typeCall_enumerate_1 _) (F.newCall_enumerate_1 _) (fun obj => F.args_object_init_2 obj _) F.entry_enumerate_new
    (meets_enumerate_newTup l items n dct sl) ⟨hl, ?_⟩
  have hz : (s.heap.push { cls := .type "tuple_iterator", data := .fields #[.ref l, .int 0 0] }).objs.size = s.heap.objs.size + 1 := Heap.size_push ..
  show _ ∧ _
  rw [hz]
  have he : IsEnum ((s.heap.push { cls := .type "tuple_iterator", data := .fields #[.ref l, .int 0 0] }).push
      { cls := .type "enumerate", data := .fields #[.none, .bool false, .ref s.heap.objs.size, rawInt 0, .none, .none] }) (s.heap.objs.size + 1) s.heap.objs.size 0 .none := by
    have := Heap.get?_push_size (s.heap.push { cls := .type "tuple_iterator", data := .fields #[.ref l, .int 0 0] })
      (o := { cls := .type "enumerate", data := .fields #[.none, .bool false, .ref s.heap.objs.size, rawInt 0, .none, .none] }) rfl
    rw [hz] at this; exact this
  refine ⟨⟨_, he, rfl⟩, h _ he ⟨_, Heap.get?_push_of_some _ (Heap.get?_push_size _ rfl), rfl, rfl⟩ (by rw [Heap.size_push, hz]) fun b o x => Heap.get?_push_of_some _ (Heap.get?_push_of_some _ x)⟩
end
end PySem
namespace G
open PySem PySem.Spec PyProof.Rows L2 TL
/-! ### enumerate(tuple) -/
def Itet (K : PySem.W.Frag) (a : Addr) : It := ⟨fun i H => ∃ xs x, SqT K H a xs ∧ xs[i]? = some x, fun i H v H' => ∃ T x, v = .ref T ∧ H T = none ∧ H' = upd H T (.tup [.int (i : Nat), x]) ∧ ∀ ys, SqT K H a ys → ys[i]? = some x, fun i H => ∃ xs, SqT K H a xs ∧ i = xs.length⟩
theorem tup_ne {h : Heap} {a it : Addr} {i : Nat} {its : Array Value} (p : h.IsTuple a its) (hit : h.IsTupleIter it a i) : a ≠ it := fun z => by
  obtain ⟨o, ho, hc, _⟩ := p
  obtain ⟨o', ho', hc', _⟩ := hit
  rw [z, ho'] at ho
  have e := Option.some.inj ho
  rw [← e, hc'] at hc
  injection hc with hc
  exact absurd hc (by decide)
theorem enum_ne {h : Heap} {a e it : Addr} {i : Int} {old : Value} {its : Array Value} (p : h.IsTuple a its) (he : IsEnum h e it i old) : e ≠ a := fun z => by
  obtain ⟨o, ho, hc, _⟩ := p
  have he : h.get? e = some _ := he
  rw [← z, he] at ho
  have e' := Option.some.inj ho
  rw [← e'] at hc
  injection hc with hc
  exact absurd hc (by decide)
theorem turn_enumT {P : Program} {w : World} {K : PySem.W.Frag} {elts : List Expr} {kk : Nat} {tpos : Pos} (a e it : Addr) :
    Turn P w K (.Tuple elts kk tpos) (Itet K a) [e, it] e (fun i h => (∃ old, IsEnum h e it ((i : Nat) : Int) old) ∧ h.IsTupleIter it a i ∧ e ≠ it) where
  mem := by simp
  obj := fun i h st b hb => by
    obtain ⟨⟨old, he⟩, ⟨o, ho, hc, hd⟩, _⟩ := st
    have e' : b = e ∨ b = it := by simpa using hb
    rcases e' with z | z
    · rw [z]; exact ⟨_, he, fun v q => nomatch q⟩
    · rw [z]; exact ⟨o, ho, fun v q => by rw [hd] at q; cases q⟩
  keep := fun i h h' st k => let ⟨⟨old, he⟩, hi, hne⟩ := st; ⟨⟨old, k e (by simp) _ he⟩, hi.at fun o q => k it (by simp) o q, hne⟩
  item := by
    intro X hP hw hK hc i pins s σ H E I hf st hg
    subst hP hw hK
    obtain ⟨⟨old, he⟩, hit, hne⟩ := st
    obtain ⟨xs, x, hq, hx⟩ := hg
    obtain ⟨its, rv, p, hz⟩ := I.tuple hq
    obtain ⟨u, hu, ru⟩ := rv.get hx
    have p : s.heap.IsTuple a its.toArray := p
    have hel : e < s.heap.objs.size := Heap.lt_size he
    have hil : it < s.heap.objs.size := by obtain ⟨_, q, _⟩ := hit; exact Heap.lt_size q
    have hai := tup_ne p hit
    have hea := enum_ne p he
    have hlt : i < its.toArray.size := by
      have := (List.getElem?_eq_some_iff.mp hu).1
      simpa using this
    refine wpAny_pyNext_enum_itemD (Draws.tuple (A := X.A.in1) (I.ok.hd hc) it a hai its.toArray) he ⟨hit, p⟩ hlt hne (by simp [hne, hea]) fun u' h' tk hP ho hit' hT hsz hk => ?_
    have hu' : u' = u := by
      have z : its.toArray[i]? = some u := by simpa using hu
      exact Option.some.inj (hP.symm.trans z)
    subst hu'
    refine ⟨_, rfl, wpAny_letOwnedTupleGo_enum (s := { s with heap := h', toks := tk + 1 }) ho fun h'' he' sb => ?_⟩
    have hT2 : h''.get? s.heap.objs.size = some { cls := .type "tuple", data := .seq #[.int i tk, u'] } := (sb.2 _ (Nat.ne_of_gt hel)).trans hT
    have new : ObjOk X.prog X.w (upd H s.heap.objs.size (.tup [.int (i : Nat), x])) h'' s.heap.objs.size (.tup [.int (i : Nat), x]) :=
      ⟨by show 2 ≤ sizeLine; decide, [.int i tk, u'], .cons ⟨_, rfl⟩ (.cons ru .nil), ⟨_, hT2, rfl, _, rfl⟩⟩
    have I1 : Inv X pins σ (upd H s.heap.objs.size (.tup [.int (i : Nat), x])) { s with heap := h'', toks := tk + 1 } :=
      I.turnedNew (ch := [e, it]) (fun b ob hb q => (sb.2 b (fun z => hb (by simp [z]))).trans (hk b ob (fun z => hb (by simp [z])) (fun z => hb (by simp [z])) q)) hf (Nat.le_refl _) new
    refine ⟨.ref s.heap.objs.size, _, I1, rfl, ⟨_, x, rfl, I.hok.fresh (Nat.le_refl _), rfl, fun ys hy => by rw [I.tuple_inj hy hq]; exact hx⟩, ⟨⟨u', ?_⟩, hit'.1.at fun o q => (sb.2 it (Ne.symm hne)).trans q, hne⟩, fun b hb => ?_⟩
    · have e1 : ((i + 1 : Nat) : Int) = (i : Int) + 1 := by omega
      rw [e1]; exact he'
    · have hb' : b < s.heap.objs.size := by
        have e' : b = e ∨ b = it := by simpa using hb
        rcases e' with z | z
        · rw [z]; exact hel
        · rw [z]; exact hil
      rw [upd_ne (Nat.ne_of_lt hb')]
      exact (hf b hb).1
  done := by
    intro X hP hw hK hc i pins s σ H E I hf st hg
    subst hP hw hK
    obtain ⟨⟨old, he⟩, hit, hne⟩ := st
    obtain ⟨xs, hq, hx⟩ := hg
    obtain ⟨its, rv, p, hz⟩ := I.tuple hq
    have p : s.heap.IsTuple a its.toArray := p
    obtain ⟨f0, f1, f2, f3, f4, f5⟩ := hf it (by simp)
    have hl : i = its.toArray.size := by
      have := rv.length
      simp
      omega
    subst hl
    exact wpAny_pyNext_enum_endD (Draws.tuple (A := X.A.in1) (I.ok.hd hc) it a (tup_ne p hit) its.toArray) he ⟨hit, p⟩ fun h' eb => ⟨rfl, I.turned (t' := s.toks) (fun b o hb q => eb b o hb q) f0 f1 f3 f4 f5⟩
  self := fun A i s Q E st h => let ⟨⟨_, he⟩, _⟩ := st; wpAny_pyIter_enum he h
def iEnumT (K : PySem.W.Frag) (ta : TA) : TI := fun σ H R => ta σ H fun vs H1 => ∃ a xs, vs = [.ref a] ∧ SqT K H1 a xs ∧ R (Itet K a) H1
theorem pi_enumT {X : Cx} {e : Expr} {ta : TA} {p pos tpos : Pos} {elts : List Expr} {kk : Nat} (hg : Gl X "enumerate") (hm : X.mg "enumerate" = none) (ha : PA X [e] ta) (hs : starEach [e] X.env = [(false, eval e X.env)] := by rfl) :
    PI X (.Tuple elts kk tpos) (.Call (.Name "enumerate" p) [e] [] pos) (iEnumT X.K ta) := by
  refine ⟨fun pins s σ H R I h => ?_⟩
  refine Call_ (ld_blt I hg hm boot_enumerate (PyProof.Rows.callWith_type1 (thn (ha.run pos pins s σ H _ I h) fun us s1 ⟨vs, H1, I1, r1, q1⟩ => ?_) hs rfl))
  obtain ⟨a, xs, ex, hq, q⟩ := q1
  subst ex
  cases r1 with
  | cons r rr =>
    cases rr
    cases r
    obtain ⟨its, rv, p', hz⟩ := I1.tuple hq
    have p' : s1.heap.IsTuple a its.toArray := p'
    refine call_enumerate_tup p' fun h' he hit hsz hk => wpAny_pyIter_enum he ?_
    have I2 : Inv X pins σ H1 { s1 with heap := h' } := I1.kept (t' := s1.toks) hk
    refine ⟨s1.heap.objs.size + 1, [s1.heap.objs.size + 1, s1.heap.objs.size], _, _, H1, rfl, I2, turn_enumT a (s1.heap.objs.size + 1) s1.heap.objs.size, ⟨⟨.none, he⟩, hit, Nat.succ_ne_self _⟩, fun b hb => ?_, q⟩
    have e' : b = s1.heap.objs.size + 1 ∨ b = s1.heap.objs.size := by simpa using hb
    have hle : s1.heap.objs.size ≤ b := by
      rcases e' with z | z
      · rw [z]; exact Nat.le_add_right _ _
      · rw [z]; exact Nat.le_refl _
    exact I1.fpOk hle (I1.hok.fresh hle)
section
variable {X : Cx} {E : XK} {ρ : List Sl}
theorem i_enumT {e : Expr} {xs : List Dat} {p pos tpos : Pos} {elts : List Expr} {kk : Nat} (hm : X.mg "enumerate" = none) (he : D X E0 e ρ (.ok (.tup xs))) (hg : Gl X "enumerate" := by rfl) (hs : starEach [e] X.env = [(false, eval e X.env)] := by rfl) :
    I X (.Tuple elts kk tpos) (.Call (.Name "enumerate" p) [e] [] pos) ρ (enumD xs) :=
  pi_imp (pi_enumT hg hm (da_one he hs) hs) fun σ H R ⟨B, c, en, q⟩ => ⟨B, c, en, fun vs H1 s1 rs => by
    obtain ⟨v, rfl, rv⟩ := rpA_one rs
    cases rv with
    | @tup a us _ hs r =>
      refine ⟨a, us, rfl, SqT.of (mask_sub B H1 _ _ hs), q _ H1 s1 fun i H2 B' cv sm => ?_⟩
      rw [enumD_len]
      have hq : SqT X.K H2 a us := SqT.of (mask_sub B' H2 _ _ (sm _ _ hs fun _ z => by cases z))
      refine ⟨fun hi => ⟨⟨us, us[i]'(by rw [r.length]; exact hi), hq, List.getElem?_eq_getElem _⟩, fun v H' y => ?_⟩, fun hi => ⟨us, hq, by rw [r.length, hi]⟩⟩
      obtain ⟨T, x, rfl, nT, rfl, hx⟩ := y
      obtain ⟨d, h1, h2⟩ := r.getV (hx us hq)
      exact ⟨same_upd nT, _, enumD_get h1, rp_new_tup cv nT (.cons (.int _) (.cons (h2.monoN sm) .nil))⟩⟩
/-- an int in a written tuple of ints -/
theorem d_inInts {a b : Expr} {i : Int} {ns : List Int} {pos : Pos} (ha : D X E a ρ (.ok (.int i))) (hb : D X E b ρ (.ok (.tup (ns.map Dat.int)))) (hm : behindInMarks .In b = false := by rfl) : D X E (.Compare a [.In] [b] pos) ρ (.ok (.bl (ns.any fun n => decide (n = i)))) :=
  d_cmp op_in_seq (fun B H vx vy Q cv rx ry q => by
    cases ry with
    | @tup b us _ h r =>
      have e : us = ns.map V.int := by
        have z : ∀ {ns : List Int} {vs : List V}, RpA X.K (mask B H) vs (ns.map Dat.int) → vs = ns.map V.int := by
          intro ns
          induction ns with
          | nil => intro vs h; cases h; rfl
          | cons n ns ih =>
            intro vs h
            cases h with
            | cons h1 h2 => rw [rp_int h1, ih h2]; rfl
        exact z r
      subst e
      have ei := rp_int rx
      subst ei
      refine ⟨b, _, rfl, .inr (SqT.of (mask_sub B H _ _ h)), rfl, ?_, ?_⟩
      · rw [List.all_map, List.all_eq_true]
        intro x _
        rfl
      · have e2 : (if false = true then !inV (.int i) (ns.map V.int) else inV (.int i) (ns.map V.int)) = ns.any fun n => decide (n = i) := by
          rw [if_neg Bool.false_ne_true]
          unfold inV
          rw [List.any_map]
          congr 1
        rw [e2]
        exact q _ H (Same.refl H) (.bl _)) ha hb hm
end
end G

set_option Elab.async false
set_option linter.all false
set_option maxRecDepth 100000
set_option maxHeartbeats 4000000
namespace G
open PySem PySem.Spec PyProof.Rows L2 TL
/-! ### the place of a sign -/
def ixOf (c : Nat) : List Nat → Nat
  | [] => 0
  | x :: r => if x = c then 0 else ixOf c r + 1
theorem ixOf_at {c : Nat} : ∀ {l : List Nat}, c ∈ l → l[ixOf c l]? = some c ∧ ∀ k, k < ixOf c l → l[k]? ≠ some c
  | [], h => by cases h
  | x :: r, h => by
    by_cases e : x = c
    · have z : ixOf c (x :: r) = 0 := if_pos e
      rw [z, e]
      exact ⟨rfl, fun k hk => by omega⟩
    · have z : ixOf c (x :: r) = ixOf c r + 1 := if_neg e
      have hr : c ∈ r := by
        rcases List.mem_cons.mp h with q | q
        · exact absurd q.symm e
        · exact q
      obtain ⟨h1, h2⟩ := ixOf_at hr
      rw [z]
      refine ⟨h1, fun k hk => ?_⟩
      cases k with
      | zero => exact fun q => e (Option.some.inj q)
      | succ k => exact h2 k (by omega)
theorem ixOf_uniq {c i : Nat} {l : List Nat} (h : c ∈ l) (h1 : l[i]? = some c) (h2 : ∀ k, k < i → l[k]? ≠ some c) : i = ixOf c l := by
  obtain ⟨k1, k2⟩ := ixOf_at h
  rcases Nat.lt_trichotomy i (ixOf c l) with z | z | z
  · exact absurd h1 (k2 i z)
  · exact z
  · exact absurd k1 (h2 _ z)
theorem ixOf_lt {c : Nat} {l : List Nat} (h : c ∈ l) : ixOf c l < l.length := (List.getElem?_eq_some_iff.mp (ixOf_at h).1).1
theorem idx_occ {l : List Nat} {c : Nat} (h : c ∈ l) : ∃ rest, Builtin.Str.occurrences (⟨l.toArray⟩ : Str) (⟨[c].toArray⟩ : Str) 0 (⟨l.toArray⟩ : Str).length 1 = ixOf c l :: rest := by
  have at1 : ∀ i, StrLaws.At (⟨l.toArray⟩ : Str) (⟨[c].toArray⟩ : Str) (⟨l.toArray⟩ : Str).length i ↔ l[i]? = some c := fun i => by
    have z := StrLaws.subAt_one (⟨l.toArray⟩ : Str) c i
    have e : (⟨l.toArray⟩ : Str).cps.toList = l := by simp
    rw [e] at z
    exact z
  rcases StrLaws.occ_head (⟨l.toArray⟩ : Str) (⟨[c].toArray⟩ : Str) 1 (Nat.le_refl 1) with ⟨_, hn⟩ | ⟨i, r, e, ha, hn⟩
  · exact absurd ((at1 _).mpr (ixOf_at h).1) (hn _)
  · have z := ixOf_uniq h ((at1 i).mp ha) fun k hk q => hn k hk ((at1 k).mpr q)
    exact ⟨r, by rw [e, z]⟩
section
variable {X : Cx} {E : XK} {W : Wl} {ρ : List Sl} {P : Out → Prop}
theorem d_sindex {a b : Expr} {l : List Nat} {c : Nat} {apos pos : Pos} (ha : D X E a ρ (.ok (.str l))) (hb : D X E b ρ (.ok (.str [c]))) (h : c ∈ l) (hs : starEach [b] X.env = [(false, eval b X.env)] := by rfl) (hbase : attributeBase a "index" X.env (eval a X.env) = eval a X.env := by rfl) (hline : (apos.endLine == pos.line) = true := by rfl) :
    D X E (.Call (.Attribute a "index" apos) [b] [] pos) ρ (.ok (.int (ixOf c l : Nat))) :=
  D.of (pe_m1 PySem.F.slot_str_index PySem.F.type_str_index mt_sindex ha hb hs hbase hline) fun B σ H Q cv en q => ⟨B, cv, en, fun va H1 s1 ra => ⟨⟨_, rp_str ra⟩, B, cv.same s1, en.same s1, fun vb H2 s2 rb => by
    obtain ⟨rest, e⟩ := idx_occ h
    exact ⟨_, _, _, rest, rp_str ra, by rw [rp_str rb], e, q _ H2 (s1.trans s2) (.int _)⟩⟩⟩
/-! a, b, c = e, e a triple -/
def prTri : Dat → Prop := fun x => ∃ a b c, x = .tup [a, b, c]
def bd3 (i j k : Nat) : Dat → List Sl → List Sl := fun x ρ => match x with
  | .tup [a, b, c] => ((ρ.set i (.dt a)).set j (.dt b)).set k (.dt c)
  | _ => ρ
theorem rpA_tri {K : PySem.W.Frag} {H : Hp} {vs : List V} {d e f : Dat} (h : RpA K H vs [d, e, f]) : ∃ u v w, vs = [u, v, w] ∧ Rp K H u d ∧ Rp K H v e ∧ Rp K H w f := by
  cases h with
  | cons h t =>
    obtain ⟨v, w, rfl, hv, hw⟩ := rpA_two t
    exact ⟨_, _, _, rfl, h, hv, hw⟩
theorem gt_tri {i j k : Nat} {x y z : Str} {p1 p2 p3 pos : Pos} {kk : Nat} (h2 : PG X (.Tuple [.Name x p1, .Name y p2, .Name z p3] kk pos) (gTup X.K 3 (gCons (gName i) (gCons (gName j) (gCons (gName k) gNil))))) :
    GT X (.Tuple [.Name x p1, .Name y p2, .Name z p3] kk pos) [i, j, k] prTri (bd3 i j k) :=
  pg_imp h2 fun v σ H Q ⟨B, x, ρ, c, en, rv, ⟨a, b, cc, e⟩, q⟩ => by
    subst e
    cases rv with
    | @tup ad vs _ hs r =>
      obtain ⟨va, vb, vc, rfl, ra, rb, rc⟩ := rpA_tri r
      exact ⟨ad, [va, vb, vc], rfl, SqT.of (mask_sub B H _ _ hs), rfl, va, [vb, vc], rfl, vb, [vc], rfl, vc, [], rfl, rfl, q _ (((en.setD i ra).setD j rb).setD k rc) fun vs h => by rw [wipe_set (h k (by simp)), wipe_set (h j (by simp)), wipe_set (h i (by simp))]⟩
theorem s_asg3 {i j k : Nat} {e tg : Expr} {a b c : Dat} {pos : Pos} (hg : GT X tg [i, j, k] prTri (bd3 i j k)) (h : D X E e ρ (.ok (.tup [a, b, c]))) (q : P (.nx (((ρ.set i (.dt a)).set j (.dt b)).set k (.dt c))))
    (h2 : PE X e (tD X.K E ρ (.ok (.tup [a, b, c]))) → PG X tg (tG X.K [i, j, k] prTri (bd3 i j k)) → PS X (.Assign [tg] e pos) (tAsg (tD X.K E ρ (.ok (.tup [a, b, c]))) (tG X.K [i, j, k] prTri (bd3 i j k)))) : S1 X E W (.Assign [tg] e pos) ρ P :=
  ps_imp (h2 h hg) fun D σ H ⟨B, w, en, p⟩ => ⟨B, w.cov, en, fun v H' s r => ⟨B, _, ρ, w.cov.same s, en.same s, r, ⟨a, b, c, rfl⟩, fun σ' en' _ => p.nx _ _ H' B q (w.same s) en'⟩⟩
/-! a list of one's own that is written -/
theorem d_getMl {i : Nat} {x : Str} {e : Expr} {a : Addr} {ds : List Dat} {n : Int} {d : Dat} {px pos : Pos} (hi : ρ[i]? = some (.ml a ds)) (hx : PE X (.Name x px) (tVar i)) (he : D X E e ρ (.ok (.int n))) (h : atI ds n = some d) (hs : PlainIx e := by exact fun _ _ => rfl) : D X E (.Subscript (.Name x px) e pos) ρ (.ok d) :=
  D.of (pe_ix ix_list hx he hs) fun B σ H Q c en q => by
    obtain ⟨h1, hb, vs, h3, h4⟩ := en.ml hi
    refine ⟨_, h1, B, c, en, fun vy H2 s2 ry => ?_⟩
    obtain ⟨v, k1, k2⟩ := atI_rp h4 h
    exact ⟨a, vs, n, v, rfl, rp_int ry, SqL.of (s2 _ _ h3), k1, q v H2 s2 (k2.mono (mask_same s2))⟩
theorem s_putMl (i : Nat) {x : Str} {k e : Expr} {a : Addr} {ds : List Dat} {n : Int} {j : Nat} {d : Dat} {px p2 pos : Pos} (hi : ρ[i]? = some (.ml a ds)) (hr : Wr W a) (hx : PE X (.Name x px) (tVar i)) (hk : D X E k ρ (.ok (.int n))) (he : D X E e ρ (.ok d)) (hj : ixN ds.length n = some j) (q : P (.nx (ρ.set i (.ml a (ds.set j d)))))
    (h2 : PE X e (tD X.K E ρ (.ok d)) → PE X (.Name x px) (tVar i) → PE X k (tD X.K E ρ (.ok (.int n))) → PS X (.Assign [.Subscript (.Name x px) k p2] e pos) (tAsg (tD X.K E ρ (.ok d)) (gSub (tVar i) (tD X.K E ρ (.ok (.int n))) rSetL))) : S1 X E W (.Assign [.Subscript (.Name x px) k p2] e pos) ρ P :=
  ps_imp (h2 he hx hk) fun D σ H ⟨B, w, en, p⟩ => ⟨B, w.cov, en, fun v H1 s1 rv => by
    obtain ⟨h1, hb, vs, h3, h4⟩ := (en.same s1).ml hi
    refine ⟨_, h1, B, (w.same s1).cov, en.same s1, fun vy H2 s2 ry => ?_⟩
    have h3' := s2 _ _ h3
    refine ⟨a, vs, n, j, rfl, rp_int ry, h3', by rw [h4.length]; exact hj, ?_⟩
    refine p.nx _ σ _ B q (((w.same s1).same s2).write hr hb h3' rfl rfl) (((en.same s1).same s2).write hi rfl h1 hb ⟨rfl, hb, vs.set j v, upd_same, ?_⟩ rfl)
    rw [mask_upd hb]
    exact rpA_set (h4.mono (mask_same s2)) (rv.mono (mask_same s2)) j⟩
where
  rpA_set {K : PySem.W.Frag} {H : Hp} : ∀ {vs : List V} {ds : List Dat} {v : V} {d : Dat}, RpA K H vs ds → Rp K H v d → ∀ j : Nat, RpA K H (vs.set j v) (ds.set j d)
    | _, _, _, _, .nil, _, _ => .nil
    | _, _, _, _, .cons h a, r, 0 => .cons r a
    | _, _, _, _, .cons h a, r, j + 1 => .cons h (rpA_set a r j)
/-- x, y, z = list(text), e, f: the list to be written -/
theorem s_par3Ml {i j l : Nat} {x y z : Str} {t b c : Expr} {s : List Nat} {db dc : Dat} {px py pz pt pc pp : Pos} {kt k2 : Nat} {pt2 pos : Pos} (hm : X.mg "list" = none) (h2 : ∀ ta, PA X [.Call (.Name "list" pp) [t] [] pc, b, c] ta → PS X (.Assign [.Tuple [.Name x px, .Name y py, .Name z pz] kt pt] (.Tuple [.Call (.Name "list" pp) [t] [] pc, b, c] k2 pt2) pos) (tPar3 i j l ta))
    (ht : D X E t ρ (.ok (.str s))) (hl : s.length ≤ 100000) (hb : D X E b ρ (.ok db)) (hc : D X E c ρ (.ok dc)) (q : ∀ a, Wr W a → P (.nx (((ρ.set i (.ml a (sig s))).set j (.dt db)).set l (.dt dc)))) (hcalm : X.calm = true := by rfl) (hg : Gl X "list" := by rfl) (he : starEach [t] X.env = (false, eval t X.env) :: starEach [] X.env := by rfl)
    (hs1 : starEach [.Call (.Name "list" pp) [t] [] pc, b, c] X.env = (false, eval (.Call (.Name "list" pp) [t] [] pc) X.env) :: starEach [b, c] X.env := by rfl) (hs2 : starEach [b, c] X.env = (false, eval b X.env) :: starEach [c] X.env := by rfl) (hs3 : starEach [c] X.env = (false, eval c X.env) :: starEach [] X.env := by rfl) : S1 X E W (.Assign [.Tuple [.Name x px, .Name y py, .Name z pz] kt pt] (.Tuple [.Call (.Name "list" pp) [t] [] pc, b, c] k2 pt2) pos) ρ P :=
  ps_imp (h2 _ (pa_cons (pe_callTy (cr_listS hcalm) hg hm (by decide +kernel) (da_one ht he) (by decide) (by decide) he (by rfl)) (pa_cons hb (pa_cons hc pa_nil hs3) hs2) hs1)) fun D σ H ⟨B, w, en, p⟩ => by
    unfold tPar3 tCons
    refine ⟨B, w.cov, en, fun vs H1 s1 rs => ?_⟩
    obtain ⟨v, rfl, rv⟩ := rpA_one rs
    refine ⟨_, by rw [rp_str rv], by simpa using hl, fun a na => ?_⟩
    have e : (⟨s.toArray⟩ : Str).cps.toList = s := by simp
    rw [e]
    have w1 := (w.same s1).own (o := .lst (s.map fun c => V.str ⟨#[c]⟩)) na rfl
    have f1 := (en.same s1).fresh (o := .lst (s.map fun c => V.str ⟨#[c]⟩)) na
    refine ⟨_, w1.cov, f1, fun vb H2 s2 rb => ⟨_, w1.cov.same s2, f1.same s2, fun vc H3 s3 rc => ⟨_, _, _, rfl, p.nx _ _ H3 _ (q a ((w.same s1).new na)) ((w1.same s2).same s3) ?_⟩⟩⟩
    have e1 := (en.same s1).own (w.same s1).cov na i (s := .ml a (sig s)) (o := .lst (s.map fun c => V.str ⟨#[c]⟩)) ⟨rfl, by simp, _, upd_same, rpA_signs s⟩
    exact EnvR.setD (EnvR.setD (EnvR.same e1 (s2.trans s3)) j (rb.mono (mask_same s3))) l rc
/-- xs.index(sign), xs a list of signs of one's own -/
theorem d_indexMl {i : Nat} {x : Str} {e : Expr} {a : Addr} {l : List Nat} {c : Nat} {px apos cpos : Pos} (hi : ρ[i]? = some (.ml a (sig l))) (hx : PE X (.Name x px) (tVar i)) (he : D X E e ρ (.ok (.str [c]))) (h : c ∈ l)
    (h2 : PE X (.Name x px) (tVar i) → PA X [e] (tDA X.K E ρ (.ok [.str [c]])) → PE X (.Call (.Attribute (.Name x px) "index" apos) [e] [] cpos) (tBM X.K "list" (rIndex X.K) (tVar i) (tDA X.K E ρ (.ok [.str [c]])))) (hs : starEach [e] X.env = (false, eval e X.env) :: starEach [] X.env := by rfl) : D X E (.Call (.Attribute (.Name x px) "index" apos) [e] [] cpos) ρ (.ok (.int (ixOf c l : Nat))) :=
  D.of (h2 hx (da_one he hs)) fun B σ H Q cv en q => by
    obtain ⟨h1, hb, vs, h3, h4⟩ := en.ml hi
    refine ⟨_, h1, .inl ⟨rfl, vs, SqL.of h3⟩, B, cv, en, fun us H1 s1 rs => ?_⟩
    obtain ⟨v, rfl, rv⟩ := rpA_one rs
    have ev := rp_str rv
    subst ev
    have evs : vs = l.map fun c => V.str ⟨[c].toArray⟩ := by
      have z : ∀ {l : List Nat} {vs : List V}, RpA X.K (mask B H) vs (sig l) → vs = l.map fun c => V.str ⟨[c].toArray⟩ := by
        intro l
        induction l with
        | nil => intro vs h; cases h; rfl
        | cons c l ih =>
          intro vs h
          have h : RpA X.K (mask B H) vs (.str [c] :: sig l) := h
          cases h with
          | cons h1 h2 => rw [rp_str h1, ih h2]; rfl
      exact z h4
    subst evs
    obtain ⟨k1, k2⟩ := ixOf_at h
    have inj : ∀ x y : Nat, eqV (V.str ⟨[x].toArray⟩) (V.str ⟨[y].toArray⟩) = decide (x = y) := fun x y => by
      show ((⟨[x].toArray⟩ : Str) == ⟨[y].toArray⟩) = _
      rw [str_beq]
      exact decide_eq_decide.mpr ⟨fun e => by injection e, fun e => by rw [e]⟩
    refine ⟨a, _, _, ixOf c l, V.str ⟨[c].toArray⟩, rfl, rfl, SqL.of (s1 _ _ h3), rfl, ?_, by rw [List.getElem?_map, k1]; rfl, by rw [inj]; exact decide_eq_true rfl, fun m z hm hz => ?_, q _ H1 s1 (.int _)⟩
    · rw [List.all_map, List.all_eq_true]
      intro x _
      rfl
    · rw [List.getElem?_map] at hz
      cases e : l[m]? with
      | none => rw [e] at hz; cases hz
      | some x =>
        rw [e] at hz
        have hz := Option.some.inj hz
        subst hz
        rw [inj]
        exact decide_eq_false fun z => k2 m hm (by rw [e, z])
theorem cut_anD {l : List Dat} {a : Nat} (h : a ≤ l.length) : cutN l (some (a : Int)) none = l.drop a := by
  unfold cutN
  rw [HT.sIx_none, HT.sIx_nat, Nat.min_eq_left h]
  exact List.take_of_length_le (by rw [List.length_drop]; exact Nat.le_refl _)
end
end G

set_option Elab.async false
set_option linter.all false
set_option maxRecDepth 100000
set_option maxHeartbeats 4000000
namespace G
open PySem PySem.Spec PyProof.Rows L2 TL
/-! ### parity, plain -/
def invs : List Nat → Nat
  | [] => 0
  | p :: r => (r.filter fun x => decide (x < p)).length + invs r
def plc (f g : Fm) : List Nat := g.flatten.map fun c => ixOf c f.flatten
def oddF (f g : Fm) : Bool := decide (invs (plc f g) % 2 = 1)
def ex1 (s : List Nat × Nat) (i c : Nat) : List Nat × Nat := match s.1[i]? with
  | none => s
  | some x => if x = c then s else ((s.1.set (ixOf c s.1) x).set i c, s.2 + 1)
def exL : Nat → List Nat → List Nat × Nat → List Nat × Nat
  | _, [], s => s
  | i, c :: r, s => exL (i + 1) r (ex1 s i c)
def lawOdd (f g : Fm) : Bool := decide ((exL 0 g.flatten (f.flatten, 0)).2 % 2 = 1)
theorem invs_drop : ∀ (ps : List Nat) (i : Nat), invs (ps.drop i) ≤ invs ps
  | [], i => by simp
  | p :: r, 0 => Nat.le_refl _
  | p :: r, i + 1 => by
    have := invs_drop r i
    show invs (r.drop i) ≤ (r.filter _).length + invs r
    omega
theorem invs_step {ps : List Nat} {i p : Nat} (h : ps[i]? = some p) : invs (ps.drop i) = ((ps.drop (i + 1)).filter fun x => decide (x < p)).length + invs (ps.drop (i + 1)) := by
  have hl := (List.getElem?_eq_some_iff.mp h).1
  have e : ps.drop i = p :: ps.drop (i + 1) := by
    rw [List.drop_eq_getElem_cons hl]
    rw [List.getElem?_eq_getElem hl] at h
    rw [Option.some.inj h]
  rw [e]
  rfl
theorem int_lst_len (l : List Nat) (p : Nat) : (((l.map fun n : Nat => Dat.int (n : Nat)).filter fun x => match x with | .int i => decide (i < (p : Int)) | _ => false).map fun x => x).length = (l.filter fun x => decide (x < p)).length := by
  rw [List.length_map, List.filter_map, List.length_map]
  congr 1
  refine List.filter_congr fun x _ => ?_
  show decide ((x : Int) < p) = decide (x < p)
  exact decide_eq_decide.mpr (by omega)
theorem ex1_perm {s : List Nat × Nat} {i c : Nat} (h : c ∈ s.1) : (ex1 s i c).1.Perm s.1 ∧ (ex1 s i c).1.length = s.1.length := by
  unfold ex1
  cases e : s.1[i]? with
  | none => exact ⟨List.Perm.refl _, rfl⟩
  | some x =>
    by_cases hx : x = c
    · show ((if x = c then s else _ : List Nat × Nat).1.Perm s.1) ∧ ((if x = c then s else _ : List Nat × Nat).1.length = _)
      rw [if_pos hx]
      exact ⟨List.Perm.refl _, rfl⟩
    · show ((if x = c then s else _ : List Nat × Nat).1.Perm s.1) ∧ ((if x = c then s else _ : List Nat × Nat).1.length = _)
      rw [if_neg hx]
      refine ⟨?_, by show ((s.1.set _ _).set _ _).length = _; rw [List.length_set, List.length_set]⟩
      have hl := (List.getElem?_eq_some_iff.mp e).1
      have hj := ixOf_lt h
      obtain ⟨k1, _⟩ := ixOf_at h
      have k1 : s.1[ixOf c s.1] = c := by
        have z := (List.getElem?_eq_some_iff.mp k1).2
        exact z
      have e1 : s.1[i] = x := (List.getElem?_eq_some_iff.mp e).2
      have z := List.set_set_perm (as := s.1) hj hl
      rw [k1, e1] at z
      exact z
section
variable {P : Program} {w : World} {K : PySem.W.Frag} {mg : Str → Option Value} {base : Heap} {IF IO IM NS : Addr}
/-! ### is_odd -/
def oddR (IM NS : Addr) (f : Fm) (os : List Nat) (r : Res) : Prop := (aftF f os = none ∧ r = .err (.ref IM)) ∨ ∃ g, aftF f os = some g ∧ ((¬ (g.length = f.length ∧ wid g = wid f) ∧ r = .err (.ref NS)) ∨ (g.length = f.length ∧ wid g = wid f ∧ r = .ok (.bl (oddF f g))))
abbrev C_odd (IF IO IM NS : Addr) : List Dat → Res → Prop := C_both IF IO (oddR IM NS)
abbrev N_odd : List Str := ["formation", "orders", "made", "old", "new", "pairs", "places", "at", "place", "sign", "one"]
theorem sc_is_odd : FnScope N_odd ["formation", "orders"] (defScope s_is_odd) := ⟨rfl, rfl, rfl, by decide +kernel, rfl, by decide +kernel, by decide +kernel⟩
theorem c_is_odd (B : Bi mg) (G1 : FnC P w K mg base "need_both" ["formation", "orders"] (C_needb IF IO) 3) (G2 : FnC P w K mg base "performed" ["formation", "orders"] (C_perf IM) 4) (G3 : FnC P w K mg base "shape_of" ["formation"] C_shapeof 1) (X1 : ExcF K mg "NewShape" NS) (h : At K mg "is_odd" s_is_odd) : FnC P w K mg base "is_odd" ["formation", "orders"] (C_odd IF IO IM NS) 5 := by
  refine h.c1 (fun _ _ _ _ _ _ us hl => match us, hl with | [_, _], _ => rfl) fun fa fd F => fnC_ok F sc_is_odd (fun as r z => z.len) fun cdv A outer s H E as r W hM hr z => ?_
  have nd := sc_is_odd.nd
  cases z with
  | badF d e hd he h1 => exact ss_cons (s_exprE (d_call G1 (hr.mono (by decide)) pa_cx (da_cons (dv 0 rfl) (da_one (dv 1 rfl))) ⟨d, e, rfl, hd, he, by rw [h1]; rfl⟩) rfl)
  | badO d e hd he h1 h2 => exact ss_cons (s_exprE (d_call G1 (hr.mono (by decide)) pa_cx (da_cons (dv 0 rfl) (da_one (dv 1 rfl))) ⟨d, e, rfl, hd, he, by rw [h1, h2]; rfl⟩) rfl)
  | ok f os r hf ho hc =>
    refine ss_cons (s_expr (d := .non) (d_call G1 (hr.mono (by decide)) pa_cx (da_cons (dv 0 rfl) (da_one (dv 1 rfl))) ⟨_, _, rfl, okV_F hf, (isOrd_str ho).2.2, by rw [isForm_F, hf, ho]; rfl⟩) ?_)
    rcases hc with ⟨h1, h2⟩ | ⟨g, h1, hc⟩
    · subst h2
      exact ss_cons (s_setE (i := 2) nd (d_call G2 (hr.mono (by decide)) pa_cx (da_cons (dv 0 rfl) (da_one (dv 1 rfl))) ⟨f, os, rfl, hf, (isOrd_str ho).2.2, by unfold perfR; rw [h1]⟩) rfl)
    · have hg := aft_isFm hf h1
      refine ss_cons (s_set 2 nd (d_call G2 (hr.mono (by decide)) pa_cx (da_cons (dv 0 rfl) (da_one (dv 1 rfl))) ⟨f, os, rfl, hf, (isOrd_str ho).2.2, by unfold perfR; rw [h1]⟩) ?_)
      have w1 := (isFm_wid hf).2.1
      have w2 := (isFm_wid hg).2.1
      have l1 := (isFm_len hf).1
      have l2 := (isFm_len hg).1
      have n1 := (isFm_len hf).2.2.2.2.1
      have n2 := (isFm_len hg).2.2.2.2.1
      have eqb : (!(decide (((g.length : Nat) : Int) = (f.length : Nat)) && decide ((((g.headD []).length : Nat) : Int) = ((f.headD []).length : Nat)))) = !decide (g.length = f.length ∧ wid g = wid f) := by
        congr 1
        rw [Bool.decide_and]
        congr 1
        · exact decide_eq_decide.mpr (by omega)
        · exact decide_eq_decide.mpr (by rw [wid_h, wid_h]; omega)
      rcases hc with ⟨hn, er⟩ | ⟨e1, e2, er⟩
      · subst er
        refine ss_cons (s_if (b := true) (T.is (sh_ne hr.units (d_call G3 (hr.mono (by decide)) passN (da_one (dv 2 rfl)) ⟨g, rfl, l2, by rw [wid_h]; omega, rfl⟩) (d_call G3 (hr.mono (by decide)) passN (da_one (dv 0 rfl)) ⟨f, rfl, l1, by rw [wid_h]; omega, rfl⟩)) (eqb.trans (by rw [decide_eq_false hn]; rfl))) (fun _ => ss_one (s_raise X1 tk_cx rfl)) (fun h => by cases h))
      · subst er
        refine ss_cons (s_if (b := false) (T.is (sh_ne hr.units (d_call G3 (hr.mono (by decide)) passN (da_one (dv 2 rfl)) ⟨g, rfl, l2, by rw [wid_h]; omega, rfl⟩) (d_call G3 (hr.mono (by decide)) passN (da_one (dv 0 rfl)) ⟨f, rfl, l1, by rw [wid_h]; omega, rfl⟩)) (eqb.trans (by rw [decide_eq_true ⟨e1, e2⟩]; rfl))) (fun h => by cases h) (fun _ => ss_nil ?_))
        refine ss_cons (s_asg3 (i := 3) (j := 4) (k := 5) (gt_tri (pg_tup rfl (pgs_cons (pg_name (i := 3) nd rfl (.inr rfl)) (pgs_cons (pg_name (i := 4) nd rfl (.inl rfl)) (pgs_cons (pg_name (i := 5) nd rfl (.inl rfl)) pgs_nil))))) (d_tup (da_cons (d_people hf (dv 0 rfl)) (da_cons (d_people hg (dv 2 rfl)) (da_one d_int))) (by simp)) ?_ fun a b => ps_asg a b)
        have pm := aft_perm hf h1
        refine ss_cons (s_setLc0 6 (own := [("sign", 9)]) (is := [9]) (pr := fun _ => True) (bd := bd1 9) (f := fun x => match x with | .str [c] => .int (ixOf c f.flatten : Nat) | _ => .non) rfl nd (i_str (dv 4 rfl)) (blkOk_by (N := N_odd) (sc := defScope s_is_odd) (by decide +kernel)) (fun _ _ _ _ _ => gt_name nd) (fun x hx _ _ _ _ _ => ?_) (fun _ _ => True.intro) (by simp) (by rw [List.length_map]; omega) ?_)
        · obtain ⟨c, hc, rfl⟩ := List.mem_map.mp hx
          exact d_sindex (dv 3 rfl) (dv 9 rfl) (pm.mem_iff.mp hc)
        have eps : (g.flatten.map fun c => Dat.str [c]).map (fun x => match x with | .str [c] => .int (ixOf c f.flatten : Nat) | _ => .non) = (plc f g).map fun n : Nat => Dat.int (n : Nat) := by
          unfold plc
          rw [List.map_map, List.map_map]
          rfl
        rw [eps]
        have lps : (plc f g).length = g.flatten.length := by unfold plc; rw [List.length_map]
        generalize hps : plc f g = ps at lps
        refine ss_cons (s_forW (fun i => [.un, .un, .un, .un, .un, .dt (.int ((invs ps - invs (ps.drop i) : Nat) : Int)), .dt (.lst (ps.map fun n : Nat => .int (n : Nat))), .un, .un, .un, .un]) po_cx (i_enumL B.enumerate (dv 6 rfl)) (gt_pair rfl nd (fun h => pg_tup rfl h) (pgs_cons (pg_name (i := 7) nd rfl (.inl rfl)) (pgs_cons (pg_name (i := 8) nd rfl (.inr rfl)) pgs_nil))) (fun x ρ ρ' h => Wk.bd2 7 8 x h) (fun x hx => enumD_pair x hx) ⟨.inl rfl, .inl rfl, .inl rfl, .inl rfl, .inl rfl, .inr (by show Sl.dt (.int 0) = Sl.dt (.int ((invs ps - invs ps : Nat) : Int)); rw [Nat.sub_self]; rfl), .inr rfl, .inl rfl, .inl rfl, .inl rfl, .inl rfl, True.intro⟩ (fun fr i x hx => ?_) (fun ρ' hρ => ?_))
        · have hil : i < ps.length := by
            have z := (List.getElem?_eq_some_iff.mp hx).1
            rw [enumD_len, List.length_map] at z
            exact z
          have hpi : ps[i]? = some ps[i] := List.getElem?_eq_getElem hil
          rw [enumD_get (d := .int (ps[i] : Nat)) (by rw [List.getElem?_map, hpi]; rfl)] at hx
          have hx := Option.some.inj hx
          subst hx
          have st := invs_step hpi
          have dr := invs_drop ps i
          generalize ps[i] = p at hpi st
          show SS _ _ _ _ [.un, .un, .un, .un, .un, .dt (.int ((invs ps - invs (ps.drop i) : Nat) : Int)), .dt (.lst (ps.map fun n : Nat => .int (n : Nat))), .dt (.int (i : Nat)), .dt (.int (p : Nat)), .un, .un] _
          refine ss_one (s_set 5 nd (d := .int ((invs ps - invs (ps.drop (i + 1)) : Nat) : Int)) (D.is (d_add (dv 5 rfl) (d_lenL B.len (d_lc1 (own := [("one", 10)]) (is := [10]) (pr := fun _ => True) (bd := bd1 10) (p := fun x => match x with | .int i => decide (i < (p : Int)) | _ => false) (f := fun x => x) (xs := (ps.drop (i + 1)).map fun n : Nat => .int (n : Nat)) rfl nd (i_list (D.is (d_slL (dv 6 rfl) (do_some ((d_add (dv 7 rfl) d_int).is (congrArg Dat.int (show _ = ((i + 1 : Nat) : Int) by omega)))) do_none) (by rw [cut_anD (by rw [List.length_map]; omega), List.map_drop]))) (blkOk_by (N := N_odd) (sc := defScope s_is_odd) (by decide +kernel)) (fun _ _ _ _ _ => gt_name nd) (fun x hx _ _ _ _ _ => ?_) (fun x hx _ _ _ _ _ _ => dv 10 rfl) (fun _ _ => True.intro) (by simp) (by rw [List.length_map, List.length_drop]; omega)))) ?_) ?_)
          · obtain ⟨n, hn, rfl⟩ := List.mem_map.mp hx
            exact t_cmp op_lt o_lt (dv 10 rfl) (dv 8 rfl)
          · rw [int_lst_len]
            exact congrArg Dat.int (by omega)
          · exact ⟨.inr rfl, .inr rfl, .inr rfl, .inr rfl, .inr rfl, .inr rfl, .inr rfl, .inl rfl, .inl rfl, .inr rfl, .inr rfl, True.intro⟩
        · rw [enumD_len, List.length_map, List.drop_length] at hρ
          refine SS.weak ?_ hρ
          refine ss_one (s_ret (d_eq hr.units (d_mod (by decide) (dv 5 rfl) d_int) d_int rfl rfl) ?_)
          show some (Res.ok (.bl (decide (((invs ps - 0 : Nat) : Int) % 2 = 1)))) = some (Res.ok (.bl (oddF f g)))
          unfold oddF
          rw [hps]
          congr 3
          exact decide_eq_decide.mpr (by omega)
/-! ### _law_is_odd -/
def C_lodd : List Dat → Res → Prop := fun as r => ∃ f g : Fm, as = [F_ f, F_ g] ∧ isFm f = true ∧ isFm g = true ∧ g.flatten.Perm f.flatten ∧ r = .ok (.bl (lawOdd f g))
abbrev N_lod : List Str := ["formation", "other", "some", "goal", "many", "at", "sign", "place"]
theorem exL_take : ∀ (l : List Nat) (k i : Nat) (s : List Nat × Nat) (c : Nat), l[i]? = some c → exL k (l.take (i + 1)) s = ex1 (exL k (l.take i) s) (k + i) c
  | [], k, i, s, c, h => by simp at h
  | x :: l, k, 0, s, c, h => by
    have h : x = c := Option.some.inj h
    rw [h]
    rfl
  | x :: l, k, i + 1, s, c, h => by
    have z := exL_take l (k + 1) i (ex1 s k x) c h
    rw [show k + 1 + i = k + (i + 1) by omega] at z
    exact z
theorem exL_ok {l : List Nat} : ∀ (m : List Nat) (k : Nat) (s : List Nat × Nat), s.1.Perm l → (∀ c ∈ m, c ∈ l) → (exL k m s).1.Perm l ∧ (exL k m s).2 ≤ s.2 + m.length
  | [], k, s, h, _ => ⟨h, Nat.le_refl _⟩
  | c :: m, k, s, h, hm => by
    have hc := hm c List.mem_cons_self
    have z := exL_ok m (k + 1) (ex1 s k c) ((ex1_perm (h.mem_iff.mpr hc)).1.trans h) fun x hx => hm x (List.mem_cons_of_mem _ hx)
    refine ⟨z.1, Nat.le_trans z.2 ?_⟩
    have e : (ex1 s k c).2 ≤ s.2 + 1 := by
      unfold ex1
      cases s.1[k]? with
      | none => exact Nat.le_succ _
      | some x =>
        show (if x = c then s else _ : List Nat × Nat).2 ≤ _
        split
        · exact Nat.le_succ _
        · exact Nat.le_refl _
    rw [List.length_cons]
    omega
theorem sig_set (l : List Nat) (i c : Nat) : (sig l).set i (.str [c]) = sig (l.set i c) := by
  unfold sig
  rw [List.map_set]
theorem sig_get {l : List Nat} {i c : Nat} (h : l[i]? = some c) : (sig l)[i]? = some (.str [c]) := by
  unfold sig
  rw [List.getElem?_map, h]
  rfl
end
end G

set_option Elab.async false
set_option linter.all false
set_option maxRecDepth 100000
set_option maxHeartbeats 4000000
namespace G
open PySem PySem.Spec PyProof.Rows L2 TL
/-! ### min and sorted over data -/
theorem pyA_map : ∀ ds : List Dat, Dat.pyA ds = ds.map Dat.py
  | [] => rfl
  | d :: ds => by
    show d.py :: Dat.pyA ds = d.py :: ds.map Dat.py
    rw [pyA_map ds]
theorem dpA_get {K : PySem.W.Frag} {H : Hp} : ∀ {vs : List V} {ds : List PyData}, DpAll K H vs ds → ∀ {i : Nat} {v : V}, vs[i]? = some v → ∃ d, ds[i]? = some d ∧ Dp K H v d
  | _, _, .nil, i, v, h => by simp at h
  | _, _, .cons h a, 0, v, e => by
    have e := Option.some.inj e
    subst e
    exact ⟨_, rfl, h⟩
  | _, _, .cons h a, i + 1, v, e => dpA_get a (i := i) e
theorem vals_get {vs : List V} {us : List Value} (r : Vals vs us) : ∀ {i : Nat} {u : Value}, us[i]? = some u → ∃ v, vs[i]? = some v ∧ RelV v u := by
  induction r with
  | nil => intro i u h; simp at h
  | cons h t ih =>
    intro i u e
    cases i with
    | zero =>
      have e := Option.some.inj e
      subst e
      exact ⟨_, rfl, h⟩
    | succ i => exact ih e
section
variable {X : Cx} {E : XK} {W : Wl} {ρ : List Sl} {P : Out → Prop}
def rMinDat (K : PySem.W.Frag) : List V → Hp → VK → Prop := fun vs H Q => ∃ (a : Addr) (xs : List V) (x : PyData) (ys : List PyData), vs = [.ref a] ∧ SqL K H a xs ∧ DpAll K H xs (x :: ys) ∧ PySem.W.AlikeAll (x :: ys) ∧ PyData.depthAll (x :: ys) ≤ 9 ∧ ∀ (i : Nat) v, xs[i]? = some v → (x :: ys)[i]? = some (PySem.W.minD x ys) → Q v H
theorem cr_minDat (hc : X.calm = true) (hu : X.A.units + 64 < cLine) : CallR X (.builtin "min") (rMinDat X.K) := by
  intro pins s σ H vs us Q I r h
  obtain ⟨a, xs, x, ys, rfl, hs, hd, hal, hdp, q⟩ := h
  obtain ⟨its, rv, hl, _⟩ := I.list hs
  rw [Vals.ref1 r]
  obtain ⟨as, hr⟩ := Dp.readsAll I (x :: ys) xs its hd rv
  refine PySem.W.min_list_data (I.ok.hd hc) hl.isList (show ReadsAll s.heap its.toArray.toList (x :: ys) as from hr) hal (by omega) fun i v h' tk bs hv hrd hk => ?_
  have hv : its[i]? = some v := by simpa using hv
  obtain ⟨w, hw, rw_⟩ := vals_get rv hv
  obtain ⟨d, hdi, hdd⟩ := dpA_get hd hw
  obtain ⟨as2, r2⟩ := Dp.reads I d w v hdd rw_
  have r3 : Reads h' v d as2 := PyProof.Rows.Reads.keeps hk r2
  have dm : d ∈ x :: ys := List.mem_of_getElem? hdi
  have mm : PySem.W.minD x ys ∈ x :: ys := by
    have z : ∀ (l : List PyData) (a : PyData), l.foldl (fun a y => if PySem.W.dataLt y a then y else a) a ∈ a :: l := by
      intro l
      induction l with
      | nil => intro a; exact List.mem_cons_self
      | cons y l ih =>
        intro a
        rw [List.foldl_cons]
        have z := ih (if PySem.W.dataLt y a then y else a)
        rcases List.mem_cons.mp z with q | q
        · rw [q]
          split
          · exact List.mem_cons_of_mem _ List.mem_cons_self
          · exact List.mem_cons_self
        · exact List.mem_cons_of_mem _ (List.mem_cons_of_mem _ q)
    exact z ys x
  have e := PySem.W.alike_unique d (PySem.W.minD x ys) v as2 bs (hal.1 d dm _ mm) r3 hrd
  exact ⟨w, H, I.kept hk, rw_, q i w hw (by rw [hdi, e])⟩
theorem d_minD {a : Expr} {ds : List Dat} {x : PyData} {ys : List PyData} {d : Dat} {p pos : Pos} (hm : X.mg "min" = none) (hu : X.A.units + 64 < cLine) (ha : D X E a ρ (.ok (.lst ds))) (he : ds.map Dat.py = x :: ys) (ok : ∀ e ∈ ds, okn 8 e = true) (hal : ∀ e ∈ ds, ∀ e' ∈ ds, PySem.W.alike e.py e'.py = true) (hn : ∀ e ∈ ds, e.py ≠ .none) (hd : ∀ e ∈ ds, e.py = PySem.W.minD x ys → e = d) (hc : X.calm = true := by rfl) (hg : Gl X "min" := by rfl) (hse : starEach [a] X.env = (false, eval a X.env) :: starEach [] X.env := by rfl) : D X E (.Call (.Name "min" p) [a] [] pos) ρ (.ok d) :=
  d_callB (cr_minDat hc hu) (fun B H vs Q c r q => by
    obtain ⟨v, rfl, rv⟩ := rpA_one r
    cases rv with
    | @lst b us _ h r' =>
      have okA : ds.all (okn 8) = true := List.all_eq_true.mpr ok
      have dp := (r'.mono (mask_sub B H)).dp okA
      rw [pyA_map, he] at dp
      refine ⟨b, us, x, ys, rfl, SqL.of (mask_sub B H _ _ h), dp, ⟨fun u hu1 v hv => ?_, fun u hu1 => ?_⟩, ?_, fun i v hv hi => ?_⟩
      · rw [← he] at hu1 hv
        obtain ⟨e, h1, rfl⟩ := List.mem_map.mp hu1
        obtain ⟨e', h2, rfl⟩ := List.mem_map.mp hv
        exact hal e h1 e' h2
      · rw [← he] at hu1
        obtain ⟨e, h1, rfl⟩ := List.mem_map.mp hu1
        exact hn e h1
      · have z := (okn_list 8 (okn_py 8) ds okA).2
        rw [pyA_map, he] at z
        omega
      · obtain ⟨e, h1, h2⟩ := r'.getV hv
        rw [← he, List.getElem?_map, h1] at hi
        have hi : e.py = PySem.W.minD x ys := Option.some.inj hi
        have ee := hd e (List.mem_of_getElem? h1) hi
        subst ee
        exact q v H (Same.refl H) h2) hm (da_one ha hse) (by decide +kernel) hg (he := hse)
/-! sorted -/
noncomputable def srtD (ds : List Dat) : List Dat := ds.mergeSort (PySem.W.dataLe false Dat.py)
def rSortDat (K : PySem.W.Frag) : List V → Hp → VK → Prop := fun vs H Q => ∃ (a : Addr) (ps : List (V × Dat)), vs = [.ref a] ∧ SqL K H a (ps.map (·.1)) ∧ (∀ p ∈ ps, Dp K H p.1 p.2.py) ∧ PySem.W.AllAlike (ps.map fun p => p.2.py) ∧ PySem.W.Sortable (ps.map fun p => p.2.py) ∧ ps.length ≤ 1000 ∧ (∀ p ∈ ps, p.2.py.depth ≤ 9) ∧
  ∀ p, H p = none → Q (.ref p) (upd H p (.lst ((ps.mergeSort (PySem.W.dataLe false fun p => p.2.py)).map (·.1))))
theorem vals_pairs {ps : List (V × Dat)} : ∀ {us : List Value}, Vals (ps.map (·.1)) us → PySem.W.EachIs (fun u (p : V × Dat) => RelV p.1 u) us ps := by
  induction ps with
  | nil => intro us h; cases h; exact .nil
  | cons p ps ih =>
    intro us h
    rw [List.map_cons] at h
    cases h with
    | cons h1 h2 => exact .cons h1 (ih h2)
theorem pairs_vals : ∀ {us : List Value} {ps : List (V × Dat)}, PySem.W.EachIs (fun u (p : V × Dat) => RelV p.1 u) us ps → Vals (ps.map (·.1)) us
  | _, _, .nil => .nil
  | _, _, .cons h t => .cons h (pairs_vals t)
theorem each_mem {α β : Type} {R S : α → β → Prop} : ∀ {as : List α} {bs : List β}, PySem.W.EachIs R as bs → (∀ a b, b ∈ bs → R a b → S a b) → PySem.W.EachIs S as bs
  | _, _, .nil, _ => .nil
  | _, _, .cons h t, k => .cons (k _ _ List.mem_cons_self h) (each_mem t fun a b hb r => k a b (List.mem_cons_of_mem _ hb) r)
theorem cr_sortDat (hu : X.A.units + 64 < cLine) : CallR X (.builtin "sorted") (rSortDat X.K) := by
  intro pins s σ H vs us Q I r h
  obtain ⟨a, ps, rfl, hs, hd, hal, hso, hl1, hdp, q⟩ := h
  obtain ⟨its, rv, hl, _⟩ := I.list hs
  rw [Vals.ref1 r]
  have e1 := vals_pairs rv
  have e2 : PySem.W.EachIs (fun v (b : V × Dat) => ∃ as, Reads s.heap v b.2.py as) its ps := each_mem e1 fun u p hp hr => Dp.reads I _ _ _ (hd p hp) hr
  have hsl := sizeLine_eq
  refine PySem.W.sorted_data (enc := fun p : V × Dat => p.2.py) hl.isList e1 e2 hal hso (by omega) (fun b hb => by have := hdp b hb; omega) fun out ho eo => ?_
  obtain ⟨ep, he'⟩ := PyProof.Rows.sortedAll_at s.heap its out.toArray
  have hvals := pairs_vals eo
  refine ⟨.ref _, upd H (s.heap.objs.size + 1) (.lst ((ps.mergeSort (PySem.W.dataLe false fun p => p.2.py)).map (·.1))), I.laid (t' := s.toks) (fun _ _ => PyProof.Rows.sortedAll_old) (Nat.le_succ _) ⟨?_, out, ep, hvals, ?_⟩, rfl, q _ (I.hok.fresh (Nat.le_succ _))⟩
  · rw [List.length_map, List.length_mergeSort]
    omega
  · simpa using he'
theorem zip_fst : ∀ {K : PySem.W.Frag} {H : Hp} {vs : List V} {ds : List Dat}, RpA K H vs ds → (vs.zip ds).map (·.1) = vs ∧ (vs.zip ds).map (·.2) = ds ∧ ∀ p ∈ vs.zip ds, Rp K H p.1 p.2
  | _, _, _, _, .nil => ⟨rfl, rfl, fun p hp => by cases hp⟩
  | _, _, _, _, .cons h a => by
    obtain ⟨h1, h2, h3⟩ := zip_fst a
    refine ⟨by rw [List.zip_cons_cons, List.map_cons, h1], by rw [List.zip_cons_cons, List.map_cons, h2], fun p hp => ?_⟩
    rw [List.zip_cons_cons] at hp
    rcases List.mem_cons.mp hp with z | z
    · rw [z]; exact h
    · exact h3 p z
theorem rpA_pairs {K : PySem.W.Frag} {H : Hp} : ∀ {ps : List (V × Dat)}, (∀ p ∈ ps, Rp K H p.1 p.2) → RpA K H (ps.map (·.1)) (ps.map (·.2))
  | [], _ => .nil
  | p :: ps, h => .cons (h p List.mem_cons_self) (rpA_pairs fun q hq => h q (List.mem_cons_of_mem _ hq))
theorem d_sortedD {a : Expr} {ds : List Dat} {p pos : Pos} (hm : X.mg "sorted" = none) (hu : X.A.units + 64 < cLine) (ha : D X E a ρ (.ok (.lst ds))) (ok : ∀ e ∈ ds, okn 8 e = true) (hal : ∀ e ∈ ds, ∀ e' ∈ ds, PySem.W.alike e.py e'.py = true) (hso : PySem.W.Sortable (ds.map Dat.py)) (hl : ds.length ≤ 1000) (hg : Gl X "sorted" := by rfl) (hse : starEach [a] X.env = (false, eval a X.env) :: starEach [] X.env := by rfl) : D X E (.Call (.Name "sorted" p) [a] [] pos) ρ (.ok (.lst (srtD ds))) :=
  d_callB (cr_sortDat hu) (fun B H vs Q c r q => by
    obtain ⟨v, rfl, rv⟩ := rpA_one r
    cases rv with
    | @lst b us _ h r' =>
      obtain ⟨z1, z2, z3⟩ := zip_fst r'
      have z4 : (us.zip ds).map (fun p => p.2.py) = ds.map Dat.py := by
        have e := congrArg (List.map Dat.py) z2
        rw [List.map_map] at e
        exact e
      have mem2 : ∀ p ∈ us.zip ds, p.2 ∈ ds := fun p hp => by rw [← z2]; exact List.mem_map_of_mem hp
      refine ⟨b, us.zip ds, rfl, SqL.of (by rw [z1]; exact mask_sub B H _ _ h), fun p hp => ((z3 p hp).mono (mask_sub B H)).dp (ok p.2 (mem2 p hp)), ?_, by rw [z4]; exact hso, ?_, fun p hp => ?_, fun l nl => ?_⟩
      · rw [z4]
        intro d hd d' hd'
        obtain ⟨e, h1, rfl⟩ := List.mem_map.mp hd
        obtain ⟨e', h2, rfl⟩ := List.mem_map.mp hd'
        exact hal e h1 e' h2
      · rw [List.length_zip, ← r'.length, Nat.min_self, r'.length]
        exact hl
      · have := (okn_py 8 p.2 (ok p.2 (mem2 p hp))).2
        omega
      · have ep : (((us.zip ds).mergeSort (PySem.W.dataLe false fun p => p.2.py)).map (·.2)) = srtD ds := by
          unfold srtD
          have e := List.map_mergeSort (r := PySem.W.dataLe false fun p : V × Dat => p.2.py) (s := PySem.W.dataLe false Dat.py) (f := fun p : V × Dat => p.2) (l := us.zip ds) (fun _ _ _ _ => rfl)
          rw [z2] at e
          exact e
        have rp : RpA X.K (mask B H) (((us.zip ds).mergeSort (PySem.W.dataLe false fun p => p.2.py)).map (·.1)) (srtD ds) := by
          rw [← ep]
          exact rpA_pairs fun p hp => z3 p ((List.mergeSort_perm _ _).mem_iff.mp hp)
        exact q _ _ (same_upd nl) (rp_new_lst c nl rp)) hm (da_one ha hse) (by decide +kernel) hg (he := hse)
theorem srtD_perm (ds : List Dat) : (srtD ds).Perm ds := List.mergeSort_perm _ _
end
end G

set_option Elab.async false
set_option linter.all false
set_option maxRecDepth 100000
set_option maxHeartbeats 4000000
namespace G
open PySem PySem.Spec PyProof.Rows L2 TL
/-! ### the first of some rows, plain -/
theorem lexB_total : ∀ {p q : List Nat}, p.length = q.length → lexB p q = true ∨ lexB q p = true
  | [], _, _ => .inl rfl
  | _ :: _, [], h => by cases h
  | a :: p, b :: q, h => by
    have hl : p.length = q.length := by simpa using h
    simp only [lexB, Bool.or_eq_true, Bool.and_eq_true, Nat.blt_eq, Nat.beq_eq]
    rcases Nat.lt_trichotomy a b with z | z | z
    · exact .inl (.inl z)
    · rcases lexB_total hl with y | y
      · exact .inl (.inr ⟨z, y⟩)
      · exact .inr (.inr ⟨z.symm, y⟩)
    · exact .inr (.inl z)
theorem slex_total (p q : List Nat) : slex p q = true ∨ slex q p = true := by
  rw [slex_iff, slex_iff]
  rcases Nat.lt_trichotomy p.length q.length with z | z | z
  · exact .inl (.inl z)
  · rcases lexB_total z with y | y
    · exact .inl (.inr ⟨z, y⟩)
    · exact .inr (.inr ⟨z.symm, y⟩)
  · exact .inr (.inl z)
theorem lt_lexB : ∀ {p q : List Nat}, p.length = q.length → (p < q ↔ lexB q p = false)
  | [], [], _ => ⟨fun h => absurd h (List.not_lt_nil _), fun h => by cases h⟩
  | [], _ :: _, h => by cases h
  | _ :: _, [], h => by cases h
  | a :: p, b :: q, h => by
    have hl : p.length = q.length := by simpa using h
    have ih := lt_lexB hl
    rw [List.cons_lt_cons_iff, Bool.eq_false_iff]
    simp only [lexB, ne_eq, Bool.or_eq_true, Bool.and_eq_true, Nat.blt_eq, Nat.beq_eq]
    rw [ih, Bool.eq_false_iff]
    constructor
    · rintro (z | ⟨z, y⟩) (k | ⟨k1, k2⟩)
      · omega
      · omega
      · omega
      · exact y k2
    · intro k
      rcases Nat.lt_trichotomy a b with z | z | z
      · exact .inl z
      · exact .inr ⟨z, fun y => k (.inr ⟨z.symm, y⟩)⟩
      · exact absurd (Or.inl z) k
def tpP (p : List Nat) : PyData := .tuple [.int (p.length : Nat), .str (mkS p)]
theorem lt_tp (p q : List Nat) : PySem.W.dataLt (tpP p) (tpP q) = !slex q p := by
  unfold tpP
  rw [PySem.W.dataLt_pair rfl rfl]
  have e1 : PyData.eqv (.int (p.length : Nat)) (.int (q.length : Nat)) = decide (p.length = q.length) := by
    show (((p.length : Nat) : Int) == ((q.length : Nat) : Int)) = _
    by_cases h : p.length = q.length
    · rw [h, decide_eq_true rfl]; simp
    · rw [decide_eq_false h]; simp; omega
  have e2 : PyData.eqv (.str (mkS p)) (.str (mkS q)) = decide (p = q) := str_beq p q
  rw [e1, e2, PySem.W.dataLt_int, PySem.W.dataLt_str]
  have e3 : ∀ l : List Nat, (mkS l).cps.toList = l := fun l => by simp
  rw [e3, e3]
  by_cases h : p.length = q.length
  · rw [if_pos (decide_eq_true h)]
    by_cases hp : p = q
    · rw [if_pos (decide_eq_true hp), hp, slex_refl]
      rfl
    · rw [if_neg (by rw [decide_eq_false hp]; exact Bool.false_ne_true)]
      have z := lt_lexB h
      have s : slex q p = lexB q p := by
        unfold slex
        rw [h]
        simp
      rw [s]
      cases hb : lexB q p with
      | true => rw [decide_eq_false fun k => by rw [z.mp k] at hb; cases hb]; rfl
      | false => rw [decide_eq_true (z.mpr hb)]; rfl
  · rw [if_neg (by rw [decide_eq_false h]; exact Bool.false_ne_true)]
    cases hb : slex q p with
    | true =>
      have := slex_len hb
      rw [decide_eq_false (by omega)]
      rfl
    | false =>
      have : ¬ q.length < p.length := fun k => by
        rw [slex_iff.mpr (.inl k)] at hb
        cases hb
      rw [decide_eq_true (by omega)]
      rfl
def minW (a : List Nat) (l : List (List Nat)) : List Nat := l.foldl (fun a y => if slex a y = true then a else y) a
def leastW : List (List Nat) → Option (List Nat)
  | [] => none
  | a :: l => some (minW a l)
theorem minD_tp : ∀ (l : List (List Nat)) (a : List Nat), PySem.W.minD (tpP a) (l.map tpP) = tpP (minW a l)
  | [], a => rfl
  | y :: l, a => by
    have ih := minD_tp l
    unfold PySem.W.minD at ih ⊢
    rw [List.map_cons, List.foldl_cons, lt_tp]
    show _ = tpP (l.foldl (fun a y => if slex a y = true then a else y) (if slex a y = true then a else y))
    cases slex a y with
    | true => exact ih a
    | false => exact ih y
theorem minW_spec : ∀ (l : List (List Nat)) (a : List Nat), minW a l ∈ a :: l ∧ ∀ q ∈ a :: l, slex (minW a l) q = true
  | [], a => ⟨List.mem_cons_self, fun q hq => by rw [List.mem_singleton.mp hq]; exact slex_refl _⟩
  | y :: l, a => by
    have e : minW a (y :: l) = minW (if slex a y = true then a else y) l := rfl
    rw [e]
    obtain ⟨h1, h2⟩ := minW_spec l (if slex a y = true then a else y)
    have hb := h2 _ List.mem_cons_self
    refine ⟨?_, fun q hq => ?_⟩
    · rcases List.mem_cons.mp h1 with z | z
      · rw [z]
        split
        · exact List.mem_cons_self
        · exact List.mem_cons_of_mem _ List.mem_cons_self
      · exact List.mem_cons_of_mem _ (List.mem_cons_of_mem _ z)
    · rcases List.mem_cons.mp hq with z | z
      · rw [z]
        by_cases k : slex a y = true
        · rw [if_pos k] at hb ⊢
          exact hb
        · rw [if_neg k] at hb ⊢
          exact slex_trans hb ((slex_total a y).resolve_left k)
      · rcases List.mem_cons.mp z with z | z
        · rw [z]
          by_cases k : slex a y = true
          · rw [if_pos k] at hb ⊢
            exact slex_trans hb k
          · rw [if_neg k] at hb ⊢
            exact hb
        · exact h2 q (List.mem_cons_of_mem _ z)
theorem least_some {ws : List (List Nat)} {p : List Nat} (h : leastW ws = some p) : p ∈ ws ∧ ∀ q ∈ ws, slex p q = true := by
  cases ws with
  | nil => cases h
  | cons a l =>
    have h := Option.some.inj h
    rw [← h]
    exact minW_spec l a
theorem least_uniq {ws : List (List Nat)} {p : List Nat} (h1 : p ∈ ws) (h2 : ∀ q ∈ ws, slex p q = true) : leastW ws = some p := by
  cases ws with
  | nil => cases h1
  | cons a l =>
    obtain ⟨k1, k2⟩ := minW_spec l a
    show some (minW a l) = some p
    rw [slex_anti (k2 p h1) (h2 _ k1)]
theorem least_none {ws : List (List Nat)} : leastW ws = none ↔ ws = [] := by
  cases ws with
  | nil => exact ⟨fun _ => rfl, fun _ => rfl⟩
  | cons a l => exact ⟨fun h => (by cases h), fun h => (by cases h)⟩
section
variable {P : Program} {w : World} {K : PySem.W.Frag} {mg : Str → Option Value} {base : Heap} {IF IP : Addr}
/-! ### least -/
def okW (p : List Nat) : Prop := p.length ≤ 1000 ∧ (p.all fun c => Nat.blt c 1114112) = true
def C_least : List Dat → Res → Prop := fun as r => ∃ ws : List (List Nat), as = [.lst (ws.map Dat.str)] ∧ ws.length ≤ 1000 ∧ (∀ p ∈ ws, okW p) ∧ r = .ok (optS (leastW ws))
abbrev N_lst : List Str := ["ways", "way"]
theorem sc_least : FnScope N_lst ["ways"] (defScope s_least) := ⟨rfl, rfl, rfl, by decide +kernel, rfl, by decide +kernel, by decide +kernel⟩
theorem c_least (B : Bi mg) (h : At K mg "least" s_least) : FnC P w K mg base "least" ["ways"] C_least 1 := by
  refine h.c1 (fun _ _ _ _ _ _ us hl => match us, hl with | [_], _ => rfl) fun fa fd F => fnC_ok F sc_least (fun as r ⟨d, e, _⟩ => by rw [e]; rfl) fun cdv A outer s H E as r W hM hr ⟨ws, e, hl, hok, er⟩ => ?_
  subst e er
  have nd := sc_least.nd
  have okL : okn 9 (.lst (ws.map Dat.str)) = true := by
    show (ws.map Dat.str).all (okn 8) = true
    rw [List.all_eq_true]
    intro x hx
    obtain ⟨p, hp, rfl⟩ := List.mem_map.mp hx
    exact (hok p hp).2
  cases ws with
  | nil => exact ss_one (s_ret (d := .non) (d_if (x := false) (T.is (t_ne hr.units (dv 0 rfl) (d_lst da_nil (by simp)) okL rfl) rfl) (fun h => by cases h) (fun _ => d_non)) rfl)
  | cons a l =>
    refine ss_one (s_ret (d := .str (minW a l)) (d_if (x := true) (T.is (t_ne hr.units (dv 0 rfl) (d_lst da_nil (by simp)) okL rfl) rfl) (fun _ => d_ixT (xs := [.int ((minW a l).length : Nat), .str (minW a l)]) (d_minD (ds := (a :: l).map fun p => .tup [.int (p.length : Nat), .str p]) (x := tpP a) (ys := l.map tpP) B.min hr.units (D.is (d_lc0 (own := [("way", 1)]) (is := [1]) (pr := fun _ => True) (bd := bd1 1) (f := fun x => match x with | .str p => .tup [.int (p.length : Nat), .str p] | _ => .non) rfl nd (i_list (dv 0 rfl)) (blkOk_by (N := N_lst) (sc := defScope s_least) (by decide +kernel)) (fun _ _ _ _ _ => gt_name nd)
      (fun x hx _ _ _ _ _ => ?_) (fun _ _ => True.intro) (by simp) (by rw [List.length_map]; omega)) ?_) ?_ ?_ ?_ ?_ ?_) d_int rfl) (fun h => by cases h)) rfl)
    · obtain ⟨p, hp, rfl⟩ := List.mem_map.mp hx
      show D _ _ _ _ (.ok (.tup [.int (p.length : Nat), .str p]))
      exact d_tup (da_cons (d_lenS B.len (dv 1 rfl) (by have := (hok p hp).1; omega)) (da_one (dv 1 rfl))) (by simp)
    · rw [List.map_map]
      rfl
    · rw [List.map_map]
      rfl
    · intro e he
      obtain ⟨p, hp, rfl⟩ := List.mem_map.mp he
      show ([Dat.int (p.length : Nat), .str p].all (okn 7)) = true
      show (true && ((p.all fun c => Nat.blt c 1114112) && true)) = true
      rw [(hok p hp).2]
      rfl
    · intro e he e' he'
      obtain ⟨p, hp, rfl⟩ := List.mem_map.mp he
      obtain ⟨q, hq, rfl⟩ := List.mem_map.mp he'
      rfl
    · intro e he
      obtain ⟨p, hp, rfl⟩ := List.mem_map.mp he
      intro z
      cases z
    · intro e he hm
      obtain ⟨p, hp, rfl⟩ := List.mem_map.mp he
      rw [minD_tp] at hm
      have hm : tpP p = tpP (minW a l) := hm
      unfold tpP at hm
      injection hm with hm
      injection hm with h1 h2
      injection h2 with h2 _
      injection h2 with h2
      rw [mkS_inj h2]
/-! ### the ways to those that pass a test -/
noncomputable def selW (f : Fm) (t : Fm → Bool) : List (List Nat) := ((bfsF f).filter fun e => t e.1).map (·.2)
theorem sel_ok {f : Fm} {t : Fm → Bool} (hf : isFm f = true) : (selW f t).length ≤ 1000 ∧ ∀ p ∈ selW f t, okW p := by
  refine ⟨?_, fun p hp => ?_⟩
  · unfold selW
    rw [List.length_map]
    have := List.length_filter_le (fun e : Fm × List Nat => t e.1) (bfsF f)
    have := bfs_len hf
    omega
  · unfold selW at hp
    obtain ⟨e, he, rfl⟩ := List.mem_map.mp hp
    have he := (List.mem_filter.mp he).1
    have z := (way_mem hf).mp (show (e.1, e.2) ∈ bfsF f from he)
    obtain ⟨_, h2, h3⟩ := way_some hf z
    have o := (isOrd_str (isOrd_mk (by omega) h3)).2.2
    exact ⟨o.1, o.2⟩
def onF (t : Fm → Bool) (x : Dat) : Bool := match x with
  | .tup xs => (match strsOf xs with | some g => t g | none => false)
  | _ => false
noncomputable def wyD (f : Fm) (x : Dat) : Dat := match x with
  | .tup xs => (match (strsOf xs).bind (wayF f) with | some p => .str p | none => .non)
  | _ => .non
theorem onF_F (t : Fm → Bool) (g : Fm) : onF t (F_ g) = t g := by
  show (match strsOf (g.map Dat.str) with | some g => t g | none => false) = t g
  rw [strsOf_F]
theorem wyD_F {f g : Fm} {p : List Nat} (h : wayF f g = some p) : wyD f (F_ g) = .str p := by
  show (match (strsOf (g.map Dat.str)).bind (wayF f) with | some p => Dat.str p | none => Dat.non) = _
  rw [strsOf_F, Option.bind_some, h]
theorem sel_eq {f : Fm} {t : Fm → Bool} (hf : isFm f = true) : ((((bfsF f).map fun e => F_ e.1).filter (onF t)).map (wyD f)) = (selW f t).map Dat.str := by
  unfold selW
  rw [List.filter_map, List.map_map, List.map_map]
  have e1 : (bfsF f).filter ((onF t) ∘ fun e => F_ e.1) = (bfsF f).filter fun e => t e.1 := List.filter_congr fun e _ => onF_F t e.1
  rw [e1]
  refine List.map_congr_left fun e he => ?_
  exact wyD_F ((way_mem hf).mp (show (e.1, e.2) ∈ bfsF f from (List.mem_filter.mp he).1))
abbrev C_leadb (IF IP : Addr) : List Dat → Res → Prop := C_tw IF IP fun f a b r => r = .ok (optS (leastW (selW f fun k => nextF k a b)))
abbrev C_leadh (IF IP : Addr) : List Dat → Res → Prop := C_tw IF IP fun f a b r => r = .ok (optS (leastW (selW f fun k => nextF (filesF k) a b)))
abbrev N_ldb : List Str := ["formation", "one", "two", "some", "made"]
def inFr (a : Nat) (k : Fm) : Bool := decide (a ∈ k.headD [])
inductive C_front (IF IP : Addr) : List Dat → Res → Prop
  | badF (d x : Dat) : okV d → isForm d = false → C_front IF IP [d, x] (.err (.ref IF))
  | badP (f : Fm) (x : Dat) : isFm f = true → okV x → isPer f x = false → C_front IF IP [F_ f, x] (.err (.ref IP))
  | ok (f : Fm) (a : Nat) : isFm f = true → a ∈ f.flatten → C_front IF IP [F_ f, .str [a]] (.ok (optS (leastW (selW f (inFr a)))))
theorem C_front.len {IF IP : Addr} {as : List Dat} {r : Res} (h : C_front IF IP as r) : as.length = 2 := by cases h <;> rfl
abbrev N_tfr : List Str := ["formation", "one", "some", "made"]
theorem sc_to_front : FnScope N_tfr ["formation", "one"] (defScope s_to_front) := ⟨rfl, rfl, rfl, by decide +kernel, rfl, by decide +kernel, by decide +kernel⟩
theorem c_to_front (G1 : FnC P w K mg base "need_formation" ["formation"] (C_needf IF) 2) (G2 : FnC P w K mg base "need_person" ["formation", "one"] (C_needp IP) 1) (G3 : FnC P w K mg base "ways_from" ["formation"] C_ways 3) (G4 : FnC P w K mg base "least" ["ways"] C_least 1) (h : At K mg "to_front" s_to_front) : FnC P w K mg base "to_front" ["formation", "one"] (C_front IF IP) 4 := by
  refine h.c1 (fun _ _ _ _ _ _ us hl => match us, hl with | [_, _], _ => rfl) fun fa fd F => fnC_ok F sc_to_front (fun as r z => z.len) fun cdv A outer s H E as r W hM hr z => ?_
  have nd := sc_to_front.nd
  cases z with
  | badF d x hd h1 => exact ss_cons (s_exprE (d_call G1 (hr.mono (by decide)) pa_cx (da_one (dv 0 rfl)) ⟨d, rfl, hd, by rw [h1]; rfl⟩) rfl)
  | badP f x hf hx h1 =>
    refine ss_cons (s_expr (d := .non) (d_call G1 (hr.mono (by decide)) pa_cx (da_one (dv 0 rfl)) ⟨_, rfl, okV_F hf, by rw [isForm_F, hf]; rfl⟩) ?_)
    exact ss_cons (s_exprE (d_call G2 (hr.mono (by decide)) pa_cx (da_cons (dv 0 rfl) (da_one (dv 1 rfl))) ⟨f, x, rfl, hf, hx, by rw [h1]; rfl⟩) rfl)
  | ok f a hf ha =>
    refine ss_cons (s_expr (d := .non) (d_call G1 (hr.mono (by decide)) pa_cx (da_one (dv 0 rfl)) ⟨_, rfl, okV_F hf, by rw [isForm_F, hf]; rfl⟩) ?_)
    refine ss_cons (s_expr (d := .non) (d_call G2 (hr.mono (by decide)) pa_cx (da_cons (dv 0 rfl) (da_one (dv 1 rfl))) ⟨f, _, rfl, hf, okV_one hf ha, by rw [show isPer f (.str [a]) = true from decide_eq_true ha]; rfl⟩) ?_)
    refine ss_cons (s_set 2 nd (d_call G3 (hr.mono (by decide)) pa_cx (da_one (dv 0 rfl)) ⟨f, rfl, hf, rfl⟩) ?_)
    refine ss_one (s_ret (d_call G4 (hr.mono (by decide)) pa_cx (da_one (D.is (d_lc1 (own := [("made", 3)]) (is := [3]) (pr := fun _ => True) (bd := bd1 3) (p := onF (inFr a)) (f := wyD f) rfl nd (i_dic (dv 2 rfl)) (blkOk_by (N := N_tfr) (sc := defScope s_to_front) (by decide +kernel)) (fun _ _ _ _ _ => gt_name nd) (fun x hx _ _ _ _ _ => ?_) (fun x hx _ _ _ _ _ _ => ?_) (fun _ _ => True.intro) (by simp) (by rw [List.length_map]; have := bfs_len hf; omega)) (congrArg Dat.lst (sel_eq (t := inFr a) hf)))) ⟨selW f (inFr a), rfl, (sel_ok hf).1, (sel_ok hf).2, rfl⟩) rfl)
    · obtain ⟨e, he, rfl⟩ := List.mem_map.mp hx
      have z := (way_mem hf).mp (show (e.1, e.2) ∈ bfsF f from he)
      have hk := way_fm hf z
      rw [onF_F]
      have h1 := (isFm_len hk).1
      have hh : ∀ k : Fm, 1 ≤ k.length → k[0]? = some (k.headD []) := fun k hk => by
        cases k with
        | nil => simp at hk
        | cons l r => rfl
      have hi := hh e.1 h1
      exact t_inSign (dv 1 rfl) (d_rank hi (dv 3 rfl) d_int)
    · obtain ⟨e, he, rfl⟩ := List.mem_map.mp hx
      have z := (way_mem hf).mp (show (e.1, e.2) ∈ bfsF f from he)
      rw [wyD_F z]
      exact d_getDic (g := e.1) (v := sv e.2) hr.units (dv 2 rfl) (dv 3 rfl) (by rw [valV_ws]; show (wayF f e.1).map sv = _; rw [z]; rfl) (fun H => .str _)
end
end G

set_option Elab.async false
set_option linter.all false
set_option maxRecDepth 100000
set_option maxHeartbeats 4000000
namespace G
open PySem PySem.Spec PyProof.Rows L2 TL LamX
/-! ### split by / -/
def splN (l : List Nat) : Fm := (Txt.split ⟨l.toArray⟩ ⟨#[47]⟩).map fun s => s.cps.toList
theorem rpA_texts {K : PySem.W.Frag} {H : Hp} : ∀ ys : List Str, RpA K H (ys.map V.str) ((ys.map fun s => s.cps.toList).map Dat.str)
  | [] => .nil
  | y :: ys => .cons (by
      have z : Rp K H (.str ⟨y.cps.toList.toArray⟩) (.str y.cps.toList) := .str _
      simpa using z) (rpA_texts ys)
section
variable {X : Cx} {E : XK} {ρ : List Sl}
theorem d_split {a b : Expr} {l : List Nat} {apos pos : Pos} (ha : D X E a ρ (.ok (.str l))) (hb : D X E b ρ (.ok (.str [47]))) (hl : l.length ≤ 100000) (hs : starEach [b] X.env = [(false, eval b X.env)] := by rfl) (hbase : attributeBase a "split" X.env (eval a X.env) = eval a X.env := by rfl) (hline : (apos.endLine == pos.line) = true := by rfl) :
    D X E (.Call (.Attribute a "split" apos) [b] [] pos) ρ (.ok (.lst ((splN l).map Dat.str))) :=
  D.of (pe_m1 PySem.F.slot_str_split PySem.F.type_str_split mt_split ha hb hs hbase hline) fun B σ H Q cv en q => ⟨B, cv, en, fun va H1 s1 ra => ⟨⟨_, rp_str ra⟩, B, cv.same s1, en.same s1, fun vb H2 s2 rb => by
    refine ⟨⟨l.toArray⟩, ⟨#[47]⟩, rp_str ra, by rw [rp_str rb], by decide, ?_, fun p np => ?_⟩
    · have := sizeLine_eq
      show l.toArray.size + 2 ≤ sizeLine
      rw [List.size_toArray]
      omega
    · exact q _ _ ((s1.trans s2).trans (same_upd np)) (rp_new_lst (cv.same (s1.trans s2)) np (rpA_texts _))⟩⟩
end
/-! plain split -/
def spF : List Nat → List Nat → Fm
  | acc, [] => [acc]
  | acc, c :: r => if c = 47 then acc :: spF [] r else spF (acc ++ [c]) r
theorem spl_spF : ∀ (l acc : List Nat), spl [47] 0 acc l = spF acc l
  | [], acc => rfl
  | c :: r, acc => by
    by_cases h : c = 47
    · have e : pre [47] (c :: r) = true := by rw [h]; rfl
      show (if pre [47] (c :: r) = true then acc :: spl [47] 0 [] r else spl [47] 0 (acc ++ [c]) r) = if c = 47 then acc :: spF [] r else spF (acc ++ [c]) r
      rw [if_pos e, if_pos h, spl_spF r []]
    · have e : ¬ pre [47] (c :: r) = true := fun z => h (by
        have z : ([c] == [47]) = true := z
        rw [beq_iff_eq] at z
        injection z)
      show (if pre [47] (c :: r) = true then acc :: spl [47] 0 [] r else spl [47] 0 (acc ++ [c]) r) = if c = 47 then acc :: spF [] r else spF (acc ++ [c]) r
      rw [if_neg e, if_neg h, spl_spF r (acc ++ [c])]
theorem splN_eq (l : List Nat) : splN l = spF [] l := by
  have z := split_spl ⟨l.toArray⟩ ⟨#[47]⟩ (by decide) (kind_ok (by decide +kernel))
  rw [← spl_spF]
  refine Eq.trans ?_ z
  rfl
/-- joined again -/
theorem sp_join : ∀ (l acc : List Nat), joinL [47] (spF acc l) = acc ++ l
  | [], acc => by
    show joinL [47] [acc] = acc ++ []
    rw [List.append_nil]
    rfl
  | c :: r, acc => by
    by_cases h : c = 47
    · have e : spF acc (c :: r) = acc :: spF [] r := if_pos h
      have ih := sp_join r []
      rw [e]
      have ne : spF [] r ≠ [] := by
        cases r with
        | nil => intro z; cases z
        | cons d r =>
          intro z
          have z : (if d = 47 then [] :: spF [] r else spF ([] ++ [d]) r) = [] := z
          have len : ∀ (l acc : List Nat), 1 ≤ (spF acc l).length := by
            intro l
            induction l with
            | nil => intro acc; exact Nat.le_refl _
            | cons x l ih =>
              intro acc
              show 1 ≤ (if x = 47 then acc :: spF [] l else spF (acc ++ [x]) l).length
              split
              · simp
              · exact ih _
          have := len (d :: r) []
          rw [show spF [] (d :: r) = [] from z] at this
          simp at this
      match hs : spF [] r, ne, ih with
      | y :: ys, _, ih =>
        show acc ++ ([47] ++ joinL [47] (y :: ys)) = acc ++ c :: r
        rw [ih, h]
        simp
    · have e : spF acc (c :: r) = spF (acc ++ [c]) r := if_neg h
      rw [e, sp_join r (acc ++ [c])]
      simp
/-- split again -/
theorem sp_app : ∀ (x acc l : List Nat), 47 ∉ x → spF acc (x ++ l) = spF (acc ++ x) l
  | [], acc, l, _ => by rw [List.append_nil]; rfl
  | c :: x, acc, l, h => by
    have hc : c ≠ 47 := fun e => h (by rw [e]; exact List.mem_cons_self)
    show (if c = 47 then acc :: spF [] (x ++ l) else spF (acc ++ [c]) (x ++ l)) = _
    rw [if_neg hc, sp_app x (acc ++ [c]) l (fun z => h (List.mem_cons_of_mem _ z))]
    simp
theorem join_sp : ∀ (f : Fm), f ≠ [] → (∀ x ∈ f, 47 ∉ x) → spF [] (joinL [47] f) = f
  | [], h, _ => absurd rfl h
  | [x], _, hx => by
    have z := sp_app x [] [] (hx x List.mem_cons_self)
    rw [List.append_nil] at z
    show spF [] x = [x]
    rw [z]
    rfl
  | x :: y :: f, _, hx => by
    have ih := join_sp (y :: f) (by simp) fun z hz => hx z (List.mem_cons_of_mem _ hz)
    show spF [] (x ++ ([47] ++ joinL [47] (y :: f))) = _
    rw [sp_app x [] _ (hx x List.mem_cons_self)]
    show (if 47 = 47 then ([] ++ x) :: spF [] (joinL [47] (y :: f)) else _) = _
    rw [if_pos rfl, ih]
    rfl
end G

set_option Elab.async false
set_option linter.all false
set_option maxRecDepth 100000
set_option maxHeartbeats 4000000
namespace G
open PySem PySem.Spec PyProof.Rows L2 TL LamX
section
variable {P : Program} {w : World} {K : PySem.W.Frag} {mg : Str → Option Value} {base : Heap} {IF IT : Addr}
/-! ### format_formation -/
def C_fmt (IF : Addr) : List Dat → Res → Prop := fun as r => (∃ d, as = [d] ∧ okV d ∧ isForm d = false ∧ r = .err (.ref IF)) ∨ ∃ f : Fm, as = [F_ f] ∧ isFm f = true ∧ r = .ok (.str (joinL [47] f))
noncomputable def prsR (IT : Addr) (d : Dat) : Res := match d with
  | .str l => if isFm (spF [] l) = true then .ok (F_ (spF [] l)) else .err (.ref IT)
  | _ => .err (.ref IT)
def C_prs (IT : Addr) : List Dat → Res → Prop := fun as r => ∃ d, as = [d] ∧ okV d ∧ r = prsR IT d
theorem sp_sub : ∀ (l acc : List Nat), ∀ x ∈ spF acc l, x.length ≤ acc.length + l.length ∧ ∀ c ∈ x, c ∈ acc ∨ c ∈ l
  | [], acc, x, hx => by
    rw [List.mem_singleton.mp (show x ∈ [acc] from hx)]
    exact ⟨Nat.le_add_right _ _, fun c hc => .inl hc⟩
  | d :: r, acc, x, hx => by
    have hx : x ∈ (if d = 47 then acc :: spF [] r else spF (acc ++ [d]) r) := hx
    rw [List.length_cons]
    by_cases h : d = 47
    · rw [if_pos h] at hx
      rcases List.mem_cons.mp hx with z | z
      · rw [z]
        exact ⟨by omega, fun c hc => .inl hc⟩
      · obtain ⟨h1, h2⟩ := sp_sub r [] x z
        refine ⟨by simp at h1; omega, fun c hc => ?_⟩
        rcases h2 c hc with q | q
        · cases q
        · exact .inr (List.mem_cons_of_mem _ q)
    · rw [if_neg h] at hx
      obtain ⟨h1, h2⟩ := sp_sub r (acc ++ [d]) x hx
      refine ⟨by rw [List.length_append] at h1; simp at h1; omega, fun c hc => ?_⟩
      rcases h2 c hc with q | q
      · rcases List.mem_append.mp q with q | q
        · exact .inl q
        · rw [List.mem_singleton.mp q]
          exact .inr List.mem_cons_self
      · exact .inr (List.mem_cons_of_mem _ q)
theorem okV_sp {l : List Nat} (h : okT l) : okV (F_ (spF [] l)) := by
  refine ⟨fun x hx => ?_, fun x hx => ?_⟩
  · obtain ⟨y, hy, e⟩ := List.mem_map.mp hx
    injection e with e
    subst e
    obtain ⟨h1, h2⟩ := sp_sub l [] y hy
    refine ⟨by simp at h1; exact Nat.le_trans h1 h.1, List.all_eq_true.mpr fun c hc => ?_⟩
    rcases h2 c hc with q | q
    · cases q
    · exact List.all_eq_true.mp h.2 c q
  · obtain ⟨y, hy, e⟩ := List.mem_map.mp hx
    rw [← e]
    rfl
theorem sc_prs : FnScope ["text"] ["text"] (defScope s_parse_formation) := ⟨rfl, rfl, rfl, by decide +kernel, rfl, by decide +kernel, by decide +kernel⟩
theorem c_prs (B : Bi mg) (G1 : FnC P w K mg base "is_formation" ["value"] C_isform 1) (X1 : ExcF K mg "InvalidText" IT) (h : At K mg "parse_formation" s_parse_formation) : FnC P w K mg base "parse_formation" ["text"] (C_prs IT) 2 := by
  refine h.c1 (fun _ _ _ _ _ _ us hl => match us, hl with | [_], _ => rfl) fun fa fd F => fnC_ok F sc_prs (fun as r ⟨d, e, _⟩ => by rw [e]; rfl) fun cdv A outer s H E as r W hM hr ⟨d, e, hok, er⟩ => ?_
  subst e er
  cases hs : d.isS with
  | false =>
    have e : prsR IT d = .err (.ref IT) := by cases d <;> first | rfl | cases hs
    rw [e]
    exact ss_cons (s_if (b := true) (t_w (TW.is (w_or (x := true) (y := true) (T.is (t_not (t_val (d_isi B.isinstance B.str (dv 0 rfl) (kit_S d) (okV_d hok)))) (by rw [hs]; rfl)) fun h => by cases h) rfl)) (fun _ => ss_one (s_raise X1 tk_cx rfl)) (fun h => by cases h))
  | true =>
    match d, hok, hs with
    | .str l, hok, _ =>
      have hl : l.length ≤ 1000 := hok.1
      have sp : ∀ {X : Cx} {E : XK} {ρ : List Sl} {e : Expr}, D X E e ρ (.ok (.lst ((splN l).map Dat.str))) → D X E e ρ (.ok (.lst ((spF [] l).map Dat.str))) := fun h => by rw [splN_eq] at h; exact h
      cases hi : isFm (spF [] l) with
      | false =>
        have e : prsR IT (.str l) = .err (.ref IT) := by show (if isFm (spF [] l) = true then Res.ok (F_ (spF [] l)) else Res.err (Value.ref IT)) = _; rw [hi]; rfl
        rw [e]
        exact ss_cons (s_if (b := true) (t_w (TW.is (w_or (x := false) (y := true) (T.is (t_not (t_val (d_isi B.isinstance B.str (dv 0 rfl) (kit_S (.str l)) rfl))) rfl) fun _ => w_or1 (T.is (t_not (t_val (d_call G1 (hr.mono (by decide)) passN (da_one (d_tupleL B.tuple (sp (d_split (dv 0 rfl) (d_str (l := [47]) rfl) (by omega))))) ⟨_, rfl, okV_sp hok, rfl⟩))) (by rw [isForm_F, hi]; rfl))) rfl)) (fun _ => ss_one (s_raise X1 tk_cx rfl)) (fun h => by cases h))
      | true =>
        have e : prsR IT (.str l) = .ok (F_ (spF [] l)) := by show (if isFm (spF [] l) = true then Res.ok (F_ (spF [] l)) else Res.err (Value.ref IT)) = _; rw [hi]; rfl
        rw [e]
        refine ss_cons (s_if (b := false) (t_w (TW.is (w_or (x := false) (y := false) (T.is (t_not (t_val (d_isi B.isinstance B.str (dv 0 rfl) (kit_S (.str l)) rfl))) rfl) fun _ => w_or1 (T.is (t_not (t_val (d_call G1 (hr.mono (by decide)) passN (da_one (d_tupleL B.tuple (sp (d_split (dv 0 rfl) (d_str (l := [47]) rfl) (by omega))))) ⟨_, rfl, okV_sp hok, rfl⟩))) (by rw [isForm_F, hi]; rfl))) rfl)) (fun h => by cases h) (fun _ => ss_nil ?_))
        exact ss_one (s_ret (d_tupleL B.tuple (sp (d_split (dv 0 rfl) (d_str (l := [47]) rfl) (by omega)))) rfl)
end
end G

set_option Elab.async false
set_option linter.all false
set_option maxRecDepth 100000
set_option maxHeartbeats 4000000
namespace G
open PySem PySem.Spec PyProof.Rows L2 TL LamX
/-! ### objects of one's own: the attributes ns at a -/
def oN (C dx : Addr) (ns : List Str) : List V → HO := fun vs => .ins C dx (ns.zip vs)
theorem oN_tbl {C dx : Addr} {ns : List Str} {vs : List V} : ∀ ps, oN C dx ns vs ≠ .tbl ps := fun ps z => by
  unfold oN at z
  cases z
theorem oN_te {C dx : Addr} {ns : List Str} {vs : List V} : teO (oN C dx ns vs) = false := rfl
theorem look_zip : ∀ {ns : List Str} {vs : List V} {j : Nat} {f : Str} {v : V}, ns.Nodup → ns[j]? = some f → vs[j]? = some v → (ns.zip vs).lookup f = some v
  | [], _, _, _, _, _, h, _ => by simp at h
  | _ :: _, [], _, _, _, _, _, h => by simp at h
  | a :: ns, u :: vs, 0, f, v, _, h1, h2 => by
    have h1 : a = f := Option.some.inj h1
    have h2 : u = v := Option.some.inj h2
    subst h1 h2
    rw [List.zip_cons_cons, List.lookup_cons_self]
  | a :: ns, u :: vs, j + 1, f, v, nd, h1, h2 => by
    rw [List.nodup_cons] at nd
    have h1 : ns[j]? = some f := h1
    have h2 : vs[j]? = some v := h2
    have ne : (f == a) = false := by
      rw [Bool.eq_false_iff]
      intro z
      rw [beq_iff_eq] at z
      exact nd.1 (z ▸ List.mem_of_getElem? h1)
    rw [List.zip_cons_cons, List.lookup_cons, ne]
    exact look_zip nd.2 h1 h2
theorem lk_none : ∀ {ns : List Str} {vs : List V} {f : Str}, f ∉ ns → (ns.zip vs).lookup f = none
  | [], _, _, _ => rfl
  | _ :: _, [], _, _ => rfl
  | a :: ns, u :: vs, f, h => by
    have ne : (f == a) = false := by
      rw [Bool.eq_false_iff]
      intro z
      rw [beq_iff_eq] at z
      exact h (z ▸ List.mem_cons_self)
    rw [List.zip_cons_cons, List.lookup_cons, ne]
    exact lk_none fun z => h (List.mem_cons_of_mem _ z)
theorem putF_new : ∀ {ns : List Str} {vs : List V} {f : Str} {v : V}, ns.length = vs.length → f ∉ ns → putF f v (ns.zip vs) = (ns ++ [f]).zip (vs ++ [v])
  | [], [], f, v, _, _ => rfl
  | [], _ :: _, _, _, h, _ => by simp at h
  | _ :: _, [], _, _, h, _ => by simp at h
  | a :: ns, u :: vs, f, v, h, hf => by
    have ne : ¬ a = f := fun z => hf (z ▸ List.mem_cons_self)
    show (if a = f then _ else (a, u) :: putF f v (ns.zip vs)) = _
    rw [if_neg ne, putF_new (by simpa using h) fun z => hf (List.mem_cons_of_mem _ z)]
    rfl
theorem putF_old : ∀ {ns : List Str} {vs : List V} {j : Nat} {f : Str} {v : V}, ns.Nodup → ns.length = vs.length → ns[j]? = some f → putF f v (ns.zip vs) = ns.zip (vs.set j v)
  | [], _, _, _, _, _, _, h => by simp at h
  | _ :: _, [], _, _, _, _, h, _ => by simp at h
  | a :: ns, u :: vs, 0, f, v, _, _, h1 => by
    have h1 : a = f := Option.some.inj h1
    show (if a = f then (a, v) :: ns.zip vs else _) = _
    rw [if_pos h1]
    rfl
  | a :: ns, u :: vs, j + 1, f, v, nd, hl, h1 => by
    rw [List.nodup_cons] at nd
    have h1 : ns[j]? = some f := h1
    have ne : ¬ a = f := fun z => nd.1 (z ▸ List.mem_of_getElem? h1)
    show (if a = f then _ else (a, u) :: putF f v (ns.zip vs)) = _
    rw [if_neg ne, putF_old nd.2 (by simpa using hl) h1]
    rfl
theorem RpA.set {K : PySem.W.Frag} {H : Hp} : ∀ {vs : List V} {ds : List Dat} {v : V} {d : Dat} (j : Nat), RpA K H vs ds → Rp K H v d → RpA K H (vs.set j v) (ds.set j d)
  | _, _, _, _, _, .nil, _ => .nil
  | _, _, _, _, 0, .cons _ a, h => .cons h a
  | _, _, _, _, j + 1, .cons x a, h => .cons x (RpA.set j a h)
theorem EnvR.mg {K : PySem.W.Frag} {B : Addr → Bool} {H : Hp} {σ : L2.St} {ρ : List Sl} {i : Nat} {a : Addr} {o : List V → HO} {ds : List Dat} (e : EnvR K B H σ ρ) (h : ρ[i]? = some (.mg a o ds)) : σ[i]? = some (some (.ref a)) ∧ B a = true ∧ ∃ vs, H a = some (o vs) ∧ RpA K (mask B H) vs ds := by
  obtain ⟨oo, h1, h2⟩ := e.at_ i _ h
  cases oo with
  | none => exact h2.elim
  | some v =>
    obtain ⟨e1, e2, vs, e3, _, e4⟩ := h2
    rw [e1] at h1
    exact ⟨h1, e2, vs, e3, e4⟩
section
variable {X : Cx} {E : XK} {W : Wl} {ρ : List Sl} {P : Out → Prop}
/-- x.f -/
theorem d_fld (i j : Nat) {x f : Str} {a C dx : Addr} {ns : List Str} {ds : List Dat} {d : Dat} {px pos : Pos} (hi : ρ[i]? = some (.mg a (oN C dx ns) ds)) (hx : PE X (.Name x px) (tVar i)) (hC : Cls X.K C) (hn : NoAttr X.K C f) (nd : ns.Nodup) (h1 : ns[j]? = some f) (h2 : ds[j]? = some d)
    (hb : attributeBase (.Name x px) f X.env (eval (.Name x px) X.env) = eval (.Name x px) X.env := by rfl) : D X E (.Attribute (.Name x px) f pos) ρ (.ok d) :=
  D.of (pe_fld hx hb) fun B σ H Q c en q => by
    obtain ⟨e1, hb, vs, h3, h4⟩ := en.mg hi
    obtain ⟨v, hv, rv⟩ := h4.get h2
    exact ⟨_, e1, a, C, dx, _, v, rfl, h3, hC, hn, look_zip nd h1 hv, q v H (Same.refl H) rv⟩
/-- x.f = e, an attribute that is there -/
theorem s_fld (i j : Nat) {x f : Str} {e : Expr} {a C dx : Addr} {ns : List Str} {ds : List Dat} {d : Dat} {px pf pos : Pos} (hi : ρ[i]? = some (.mg a (oN C dx ns) ds)) (hr : Wr W a) (hx : PE X (.Name x px) (tVar i)) (he : D X E e ρ (.ok d)) (hC : Cls X.K C) (hn : NoAttr X.K C f) (nd : ns.Nodup) (hl : ns.length = ds.length) (hl2 : ns.length < 1000) (h1 : ns[j]? = some f)
    (q : P (.nx (ρ.set i (.mg a (oN C dx ns) (ds.set j d))))) (hs : swapsWith e (some (.Attribute (.Name x px) f pf)) pos.line X.env = pure false := by rfl) : S1 X E W (.Assign [.Attribute (.Name x px) f pf] e pos) ρ P :=
  ps_imp (ps_fld hx he hs) fun D σ H ⟨B, w, en, p⟩ => ⟨B, w.cov, en, fun v H1 s1 rv => by
    obtain ⟨e1, hb, vs, h3, h4⟩ := (en.same s1).mg hi
    have lv : ns.length = vs.length := by rw [hl, h4.length]
    refine ⟨_, e1, a, C, dx, _, rfl, h3, hC, hn, ?_, ?_⟩
    · rw [List.length_zip]
      omega
    · rw [putF_old nd lv h1]
      refine p.nx _ σ _ B q ((w.same s1).write hr hb h3 rfl rfl) ((en.same s1).write hi rfl e1 hb ⟨rfl, hb, vs.set j v, upd_same, oN_tbl, ?_⟩ rfl)
      rw [mask_upd hb]
      exact h4.set j rv⟩
/-- x.f = e, a new attribute -/
theorem s_fldN (i : Nat) {x f : Str} {e : Expr} {a C dx : Addr} {ns : List Str} {ds : List Dat} {d : Dat} {px pf pos : Pos} (hi : ρ[i]? = some (.mg a (oN C dx ns) ds)) (hr : Wr W a) (hx : PE X (.Name x px) (tVar i)) (he : D X E e ρ (.ok d)) (hC : Cls X.K C) (hn : NoAttr X.K C f) (hf : f ∉ ns) (hl : ns.length = ds.length) (hl2 : ns.length < 1000)
    (q : P (.nx (ρ.set i (.mg a (oN C dx (ns ++ [f])) (ds ++ [d]))))) (hs : swapsWith e (some (.Attribute (.Name x px) f pf)) pos.line X.env = pure false := by rfl) : S1 X E W (.Assign [.Attribute (.Name x px) f pf] e pos) ρ P :=
  ps_imp (ps_fld hx he hs) fun D σ H ⟨B, w, en, p⟩ => ⟨B, w.cov, en, fun v H1 s1 rv => by
    obtain ⟨e1, hb, vs, h3, h4⟩ := (en.same s1).mg hi
    have lv : ns.length = vs.length := by rw [hl, h4.length]
    refine ⟨_, e1, a, C, dx, _, rfl, h3, hC, hn, ?_, ?_⟩
    · rw [List.length_zip]
      omega
    · rw [putF_new lv hf]
      refine p.nx _ σ _ B q ((w.same s1).write hr hb h3 rfl rfl) ((en.same s1).write hi rfl e1 hb ⟨rfl, hb, vs ++ [v], upd_same, oN_tbl, ?_⟩ rfl)
      rw [mask_upd hb]
      exact h4.append (.cons rv .nil)⟩
/-! ### endings that tell the slots -/
theorem s_retE2 {e : Expr} {d : Dat} {pos : Pos} (h : D X E e ρ (.ok d)) (q : P (.re ρ d)) : S1 X E W (.Return (some e) pos) ρ P :=
  ps_imp (ps_ret h) fun D σ H ⟨B, w, en, p⟩ => ⟨B, w.cov, en, fun v H' s r => p.re ρ σ d v H' B q (w.same s) (en.same s) r⟩
theorem s_exprEE {e : Expr} {c : Value} {pos : Pos} (h : D X E e ρ (.err c)) (q : P (.ee ρ c)) (hs : swapsWith e none pos.line X.env = pure false := by rfl) : S1 X E W (.Expr e pos) ρ P :=
  ps_imp (ps_expr h hs) fun D σ H ⟨B, w, en, p⟩ => ⟨B, w.cov, en, fun H' s => p.ee ρ σ c H' B q (w.same s) (en.same s)⟩
theorem s_setEE {x : Str} {i : Nat} {e : Expr} {c : Value} {pos pos' : Pos} (hN : X.N.Nodup) (h : D X E e ρ (.err c)) (q : P (.ee ρ c)) (hi : X.N[i]? = some x := by rfl) (hx : Loc X.env.scope x := by first | exact Or.inl rfl | exact Or.inr rfl)
    (hs : swapsWith e (some (.Name x pos')) pos.line X.env = pure false := by rfl) (hf : X.fn x = true ∨ X.env.scope.names.lookup x = some .local := by first | exact .inl rfl | exact .inr rfl | assumption) : S1 X E W (.Assign [.Name x pos'] e pos) ρ P :=
  ps_imp (ps_set hN hi hx h hs hf) fun D σ H ⟨B, w, en, p⟩ => ⟨B, w.cov, en, fun H' s => p.ee ρ σ c H' B q (w.same s) (en.same s)⟩
theorem s_raiseE {x m : Str} {j : Nat} {C : Addr} {p p2 pos pos2 : Pos} (F : ExcF X.K X.mg x C) (tk : L2N.Takes X (fun cls d _ H => E cls d H)) (q : P (.ee ρ (.ref C))) (hc : X.calm = true := by rfl) (hg : Gl X x := by rfl) (hdb : (x == ("__debug__" : Str)) = false := by decide) :
    S1 X E W (.Raise (some (.Call (.Name x p) [.Constant (.str m) j p2] [] pos)) none pos2) ρ P :=
  ps_imp (L2N.ps_raise hc tk (L2N.pmk_own PySem.F.excBase_ValueError F.x F.g F.k (raises_own F.b F.t) hg hdb)) fun D σ H ⟨B, w, en, pp⟩ => pp.ee ρ σ _ H B q w en
end
/-! ### defs of an object: the first argument is the object itself -/
def Ok1 (K : PySem.W.Frag) (B : Addr → Bool) (H : Hp) (a C dx : Addr) (ns : List Str) (ds : List Dat) : Prop := ∃ us, H a = some (oN C dx ns us) ∧ RpA K (mask B H) us ds
def spM (K : PySem.W.Frag) (C : Addr) (ns : List Str) (Cm : List Dat → List Dat → Res → List Dat → Prop) : Sp := fun vs H Q E => ∃ B a dx ds vs' as r ds', vs = V.ref a :: vs' ∧ Cov B H ∧ B a = true ∧ Ok1 K B H a C dx ns ds ∧ RpA K (mask B H) vs' as ∧ Cm ds as r ds' ∧
  match r with
  | .ok d => ∀ v H', (∀ b o, b ≠ a → H b = some o → H' b = some o) → Ok1 K B H' a C dx ns ds' → Rp K (mask B H') v d → Q v H'
  | .err c => ∀ H', (∀ b o, b ≠ a → H b = some o → H' b = some o) → Ok1 K B H' a C dx ns ds' → E c none H'
structure FnM (P : Program) (w : World) (K : PySem.W.Frag) (mg : Str → Option Value) (base : Heap) (C : Addr) (ns : List Str) (m : Str) (ps : List Str) (Cm : List Dat → List Dat → Res → List Dat → Prop) (k : Nat) : Prop where
  ex : ∃ f fd, FnOk P w K mg base (L2N.CX P w) k f fd ps (spM K C ns Cm) ∧ Meth K C m f ∧ Binds K fd ps []
def startM (N : List Str) (s : Sl) (as : List Dat) : List Sl := s :: (as.map Sl.dt ++ List.replicate (N.length - 1 - as.length) Sl.un)
def outM (a : Addr) (o : List V → HO) (r : Res) (ds' : List Dat) : Out → Prop
  | .re ρ d => r = .ok d ∧ ρ[0]? = some (.mg a o ds')
  | .ee ρ c => r = .err c ∧ ρ[0]? = some (.mg a o ds')
  | .nx ρ => r = .ok .non ∧ ρ[0]? = some (.mg a o ds')
  | _ => False
section
variable {P : Program} {w : World} {K : PySem.W.Frag} {mg : Str → Option Value} {base : Heap}
theorem fnM_ok {x qual : Str} {st : Stmt} {f : Addr} {fd : FuncData} {N ps ns : List Str} {k : Nat} {C : Addr} {Cm : List Dat → List Dat → Res → List Dat → Prop} (F : Fun K x qual st f fd) (Sc : FnScope N ps (defScope st)) (len : ∀ ds as r ds', Cm ds as r ds' → as.length + 1 = ps.length) (hN : 1 ≤ N.length)
    (hbody : ∀ (cdv : Value) (A : Around) (outer : List Env) (s : Shared) (H : Hp) (E : XK) (W : Wl) (a dx : Addr) (ds as : List Dat) (r : Res) (ds' : List Dat), Wr W a → Room k (A.deeper (envOfC qual (defScope st) s.heap.objs.size f cdv)) → Cm ds as r ds' →
      SS (cxOf (L2N.CX P w) P w K mg base N qual (defScope st) f cdv A outer s H E) E W (defBody st) (startM N (.mg a (oN C dx ns) ds) as) (outM a (oN C dx ns) r ds')) : FnOk P w K mg base (L2N.CX P w) (k + 1) f fd ps (spM K C ns Cm) := by
  refine okN F Sc (fun vs H Q E h => ?_) (fun cdv A outer s H vs Q E hr h => ?_)
  · obtain ⟨B, a, dx, ds, vs', as, r, ds', rfl, _, _, _, ra, hc, _⟩ := h
    rw [List.length_cons, ra.length]
    exact len _ _ _ _ hc
  · obtain ⟨B, a, dx, ds, vs', as, r, ds', rfl, cv, hb, ⟨us, hu, hru⟩, ra, hc, q⟩ := h
    have hb' := hbody cdv A outer s H E ⟨H, B, fun b => decide (b = a), fun _ => none, fun _ => True, fun _ _ _ _ => True.intro, cv, fun _ => false, fun _ => true⟩ a dx ds as r ds' ⟨fun m => by simp at m, rfl⟩ hr hc
    refine ⟨_, hb', B, ⟨fun a o _ h => h, fun _ h => h, cv, fun a o h => (by cases h), True.intro, fun b hbd => (by cases hbd), fun _ _ _ _ => rfl⟩, ?_, ?_⟩
    · have e := envR_start (N := N.drop 1) ra
      have e2 := e.cons (s := .mg a (oN C dx ns) ds) (o := some (.ref a)) ⟨rfl, hb, us, hu, oN_tbl, hru⟩ startρ_own
      have z : L2.start N (.ref a :: vs') = some (V.ref a) :: L2.start (N.drop 1) vs' := by
        unfold L2.start
        rw [List.map_cons, List.cons_append, List.length_cons, List.length_drop, Nat.sub_sub, Nat.add_comm 1]
      have z2 : startM N (.mg a (oN C dx ns) ds) as = .mg a (oN C dx ns) ds :: startρ (N.drop 1) as := by
        unfold startM startρ
        rw [List.length_drop]
      rw [z, z2]
      exact e2
    · have fin : ∀ {ρ : List Sl} {σ : L2.St} {H' : Hp} {B' : Addr → Bool}, Wd ⟨H, B, fun b => decide (b = a), fun _ => none, fun _ => True, fun _ _ _ _ => True.intro, cv, fun _ => false, fun _ => true⟩ B' H' → EnvR K B' H' σ ρ → ρ[0]? = some (.mg a (oN C dx ns) ds') → (∀ b o, b ≠ a → H b = some o → H' b = some o) ∧ Ok1 K B H' a C dx ns ds' := fun {ρ σ H' B'} w en hρ => by
        obtain ⟨_, _, us', h3, h4⟩ := en.mg hρ
        exact ⟨fun b o ne h => w.old b o (decide_eq_false ne) h, us', h3, h4.mono (mask_le w.b0)⟩
      refine ⟨fun ρ σ H' B' e w en => ?_, fun d v H' B' e w r' => e.elim, fun c H' B' e w => e.elim, fun ρ σ H' B' e w en => e.elim, fun ρ σ H' B' e w en => e.elim, fun ρ σ d v H' B' e w en r' => ?_, fun ρ σ c H' B' e w en => ?_⟩
      · obtain ⟨e1, e2⟩ := e
        subst e1
        obtain ⟨f1, f2⟩ := fin w en e2
        exact q .non H' f1 f2 .non
      · obtain ⟨e1, e2⟩ := e
        subst e1
        obtain ⟨f1, f2⟩ := fin w en e2
        exact q v H' f1 f2 (r'.mono (mask_le w.b0))
      · obtain ⟨e1, e2⟩ := e
        subst e1
        obtain ⟨f1, f2⟩ := fin w en e2
        exact q H' f1 f2
/-! methods that change nothing -/
def spP (K : PySem.W.Frag) (C : Addr) (ns : List Str) (Cp : List Dat → Dat → Prop) : Sp := fun vs H Q _ => ∃ B a dx ds d, vs = [V.ref a] ∧ Cov B H ∧ B a = true ∧ Ok1 K B H a C dx ns ds ∧ Cp ds d ∧ ∀ v H', Same H H' → Rp K (mask B H') v d → Q v H'
theorem fnP_ok {x qual : Str} {st : Stmt} {f : Addr} {fd : FuncData} {N ps ns : List Str} {k : Nat} {C : Addr} {Cp : List Dat → Dat → Prop} (F : Fun K x qual st f fd) (Sc : FnScope N ps (defScope st)) (hps : ps.length = 1) (hN : 1 ≤ N.length)
    (hbody : ∀ (cdv : Value) (A : Around) (outer : List Env) (s : Shared) (H : Hp) (E : XK) (W : Wl) (a dx : Addr) (ds : List Dat) (d : Dat), Room k (A.deeper (envOfC qual (defScope st) s.heap.objs.size f cdv)) → Cp ds d →
      SS (cxOf (L2N.CX P w) P w K mg base N qual (defScope st) f cdv A outer s H E) E W (defBody st) (startM N (.mg a (oN C dx ns) ds) []) (fun o => o = .rt d)) : FnOk P w K mg base (L2N.CX P w) (k + 1) f fd ps (spP K C ns Cp) := by
  refine okN F Sc (fun vs H Q E h => ?_) (fun cdv A outer s H vs Q E hr h => ?_)
  · obtain ⟨B, a, dx, ds, d, rfl, _⟩ := h
    rw [hps]
    rfl
  · obtain ⟨B, a, dx, ds, d, rfl, cv, hb, ⟨us, hu, hru⟩, hc, q⟩ := h
    have hb' := hbody cdv A outer s H E ⟨H, B, fun b => false, fun _ => none, fun _ => True, fun _ _ _ _ => True.intro, cv, fun _ => false, fun _ => true⟩ a dx ds d hr hc
    refine ⟨_, hb', B, ⟨fun a o _ h => h, fun _ h => h, cv, fun a o h => (by cases h), True.intro, fun b hbd => (by cases hbd), fun _ _ _ _ => rfl⟩, ?_, ?_⟩
    · have e := envR_start (K := K) (B := B) (H := H) (N := N.drop 1) (vs := []) (as := []) .nil
      have e2 := e.cons (s := .mg a (oN C dx ns) ds) (o := some (.ref a)) ⟨rfl, hb, us, hu, oN_tbl, hru⟩ startρ_own
      have z : L2.start N [.ref a] = some (V.ref a) :: L2.start (N.drop 1) [] := by
        unfold L2.start
        rw [List.map_cons, List.cons_append, List.length_cons, List.length_drop, Nat.sub_sub, Nat.add_comm 1]
      have z2 : startM N (.mg a (oN C dx ns) ds) [] = .mg a (oN C dx ns) ds :: startρ (N.drop 1) [] := by
        unfold startM startρ
        rw [List.length_drop]
      rw [z, z2]
      exact e2
    · refine ⟨fun ρ σ H' B' e w en => (by cases e), fun d' v H' B' e w r' => ?_, fun c H' B' e w => (by cases e), fun ρ σ H' B' e w en => (by cases e), fun ρ σ H' B' e w en => (by cases e), fun ρ σ d v H' B' e w en r' => (by cases e), fun ρ σ c H' B' e w en => (by cases e)⟩
      cases e
      exact q v H' (fun b o h => w.old b o rfl h) (r'.mono (mask_le w.b0))
end
/-! ### a step of an owned object -/
theorem own_step {K : PySem.W.Frag} {W : Wl} {B : Addr → Bool} {H H' : Hp} {σ : L2.St} {ρ : List Sl} {i : Nat} {a C dx : Addr} {ns : List Str} {ds ds' : List Dat} (w : Wd W B H) (en : EnvR K B H σ ρ) (hi : ρ[i]? = some (.mg a (oN C dx ns) ds)) (hr : Wr W a) (hp : ∀ b o, b ≠ a → H b = some o → H' b = some o) (hc : Ok1 K B H' a C dx ns ds') :
    Wd W B H' ∧ EnvR K B H' σ (ρ.set i (.mg a (oN C dx ns) ds')) ∧ Same (mask B H) (mask B H') := by
  obtain ⟨h1, hb, vs0, h0, _⟩ := en.mg hi
  obtain ⟨us, hu, hru⟩ := hc
  have s : Same (upd H a (oN C dx ns us)) H' := fun b o e => by
    by_cases z : b = a
    · rw [z, upd_same] at e
      rw [z, hu, e]
    · rw [upd_ne z] at e
      exact hp b o z e
  have m := mask_same (B := B) s
  rw [mask_upd hb] at m
  have w1 := (w.write (o := oN C dx ns us) hr hb h0 rfl rfl).same s
  refine ⟨w1, ?_, m⟩
  have hl := (List.getElem?_eq_some_iff.mp hi).1
  have e0 := en.write (o := oN C dx ns us) (s' := .mg a (fun _ => oN C dx ns us) []) hi rfl h1 hb ⟨rfl, hb, [], upd_same, oN_tbl, .nil⟩ rfl
  exact EnvR.mk (by rw [List.length_set, en.len]) (fun j x hj => by
      by_cases hij : i = j
      · subst hij
        rw [List.getElem?_set_self hl] at hj
        have hj := Option.some.inj hj
        subst hj
        exact ⟨_, h1, rfl, hb, us, hu, oN_tbl, hru⟩
      · have hj2 : (ρ.set i (.mg a (fun _ => oN C dx ns us) []))[j]? = some x := by
          rw [List.getElem?_set_ne hij] at hj ⊢
          exact hj
        exact (e0.same s).at_ j x hj2) (fun j k sj sk v hjk hj hk oj ok vj => by
      have tr : ∀ (j : Nat) (sj : Sl), (ρ.set i (.mg a (oN C dx ns) ds'))[j]? = some sj → sj.own = true → ∃ sj', ρ[j]? = some sj' ∧ sj'.own = true := fun j sj hj oj => by
        by_cases hij : i = j
        · subst hij
          exact ⟨_, hi, rfl⟩
        · rw [List.getElem?_set_ne hij] at hj
          exact ⟨sj, hj, oj⟩
      obtain ⟨sj', hj', oj'⟩ := tr j sj hj oj
      obtain ⟨sk', hk', ok'⟩ := tr k sk hk ok
      exact en.sep j k sj' sk' v hjk hj' hk' oj' ok' vj)
end G

set_option Elab.async false
set_option linter.all false
set_option maxRecDepth 100000
set_option maxHeartbeats 4000000
namespace G
open PySem PySem.Spec PyProof.Rows L2 TL LamX L2H HotX
/-! ### expressions that may change the slots -/
def tX (K : PySem.W.Frag) (E : XK) (W : Wl) (ρ : List Sl) (S : Res → List Sl → Prop) : TE := fun σ H Q => ∃ B, Wd W B H ∧ EnvR K B H σ ρ ∧ (∀ v H' B' d ρ', S (.ok d) ρ' → Wd W B' H' → EnvR K B' H' σ ρ' → Sm (mask B H) (mask B' H') → Rp K (mask B' H') v d → Q v H') ∧
  ∀ c H' B' ρ', S (.err c) ρ' → Wd W B' H' → EnvR K B' H' σ ρ' → Sm (mask B H) (mask B' H') → E c none H'
abbrev DX (X : Cx) (E : XK) (W : Wl) (e : Expr) (ρ : List Sl) (S : Res → List Sl → Prop) : Prop := PE X e (tX X.K E W ρ S)
section
variable {X : Cx} {E : XK} {W : Wl} {ρ : List Sl} {P : Out → Prop} {S : Res → List Sl → Prop}
theorem dx_pure {e : Expr} {d : Dat} (h : D X E e ρ (.ok d)) (hs : S (.ok d) ρ) : DX X E W e ρ S :=
  pe_imp h fun σ H Q ⟨B, w, en, q1, _⟩ => ⟨B, w.cov, en, fun v H' s r => q1 v H' B d ρ hs (w.same s) (en.same s) (Sm.of (mask_same s)) r⟩
theorem dx_errD {e : Expr} {c : Value} (h : D X E e ρ (.err c)) (hs : S (.err c) ρ) : DX X E W e ρ S :=
  pe_imp h fun σ H Q ⟨B, w, en, _, q2⟩ => ⟨B, w.cov, en, fun H' s => q2 c H' B ρ hs (w.same s) (en.same s) (Sm.of (mask_same s))⟩
theorem dx_meth (i : Nat) {x m : Str} {a C dx : Addr} {ns ps : List Str} {ds as ds' : List Dat} {r : Res} {Cm : List Dat → List Dat → Res → List Dat → Prop} {k : Nat} {e : Expr} {es : List Expr} {px apos pos : Pos} {pl : Sem Bool} (F : FnM X.prog X.w X.K X.mg X.base C ns m ps Cm k) (hr : Room k X.A) (hp : Passes (L2N.CX X.prog X.w) X E) (hC : Cls X.K C) (hi : ρ[i]? = some (.mg a (oN C dx ns) ds)) (hw : Wr W a) (hx : PE X (.Name x px) (tVar i))
    (ha : DA X E (e :: es) ρ (.ok as)) (hm : m ∉ ns) (hc : Cm ds as r ds') (hS : S r (ρ.set i (.mg a (oN C dx ns) ds'))) (hst : starEach (e :: es) X.env = (false, eval e X.env) :: starEach es X.env := by rfl) (hpl : (backTo pos (starEach es X.env)).any (·.1) = false := by rfl)
    (ht : eval (.Call (.Attribute (.Name x px) m apos) (e :: es) [] pos) X.env = (do let ov ← eval (.Name x px) X.env; standAt apos.atName; let (f, first) ← holding [ov] (getMethod ov m pl); callWith pos f first (backTo pos (starEach (e :: es) X.env)) (backToKw pos (keywordEach [] X.env))) := by rfl) :
    DX X E W (.Call (.Attribute (.Name x px) m apos) (e :: es) [] pos) ρ S := by
  obtain ⟨f, fd, h1, h2, h3⟩ := F.ex
  refine pe_imp (pe_meth (pl := pl) hx hC h2 h1 hr h3 .nil hp ha hst hpl ht) fun σ H Q ⟨B, w, en, q1, q2⟩ => ?_
  obtain ⟨e1, hb, vs, h3, h4⟩ := en.mg hi
  refine ⟨_, e1, a, dx, _, rfl, h3, lk_none hm, B, w.cov, en, fun us H2 s2 rs => ?_⟩
  show spM X.K C ns Cm (V.ref a :: (us ++ [])) H2 Q E
  rw [List.append_nil]
  refine ⟨B, a, dx, ds, us, as, r, ds', rfl, w.cov.same s2, hb, ⟨vs, s2 _ _ h3, h4.mono (mask_same s2)⟩, rs, hc, ?_⟩
  cases r with
  | ok d =>
    intro v H' hp' hok rv
    obtain ⟨w', en', m'⟩ := own_step (w.same s2) (en.same s2) hi hw hp' hok
    exact q1 v H' B d _ hS w' en' (Sm.of ((mask_same s2).trans m')) rv
  | err c =>
    intro H' hp' hok
    obtain ⟨w', en', m'⟩ := own_step (w.same s2) (en.same s2) hi hw hp' hok
    exact q2 c H' B _ hS w' en' (Sm.of ((mask_same s2).trans m'))
theorem dx_meth0 (i : Nat) {x m : Str} {a C dx : Addr} {ns ps : List Str} {ds ds' : List Dat} {r : Res} {Cm : List Dat → List Dat → Res → List Dat → Prop} {k : Nat} {px apos pos : Pos} {pl : Sem Bool} (F : FnM X.prog X.w X.K X.mg X.base C ns m ps Cm k) (hr : Room k X.A) (hp : Passes (L2N.CX X.prog X.w) X E) (hC : Cls X.K C) (hi : ρ[i]? = some (.mg a (oN C dx ns) ds)) (hw : Wr W a) (hx : PE X (.Name x px) (tVar i))
    (hm : m ∉ ns) (hc : Cm ds [] r ds') (hS : S r (ρ.set i (.mg a (oN C dx ns) ds')))
    (ht : eval (.Call (.Attribute (.Name x px) m apos) [] [] pos) X.env = (do let ov ← eval (.Name x px) X.env; standAt apos.atName; let (f, first) ← holding [ov] (getMethod ov m pl); callWith pos f first (backTo pos (starEach [] X.env)) (backToKw pos (keywordEach [] X.env))) := by rfl) :
    DX X E W (.Call (.Attribute (.Name x px) m apos) [] [] pos) ρ S := by
  obtain ⟨f, fd, h1, h2, h3⟩ := F.ex
  refine pe_imp (pe_meth0 (pl := pl) hx hC h2 h1 hr h3 .nil hp ht) fun σ H Q ⟨B, w, en, q1, q2⟩ => ?_
  obtain ⟨e1, hb, vs, h3, h4⟩ := en.mg hi
  refine ⟨_, e1, a, dx, _, rfl, h3, lk_none hm, ?_⟩
  refine ⟨B, a, dx, ds, [], [], r, ds', rfl, w.cov, hb, ⟨vs, h3, h4⟩, .nil, hc, ?_⟩
  cases r with
  | ok d =>
    intro v H' hp' hok rv
    obtain ⟨w', en', m'⟩ := own_step w en hi hw hp' hok
    exact q1 v H' B d _ hS w' en' (Sm.of m') rv
  | err c =>
    intro H' hp' hok
    obtain ⟨w', en', m'⟩ := own_step w en hi hw hp' hok
    exact q2 c H' B _ hS w' en' (Sm.of m')
/-- a method that only looks -/
theorem d_methP (i : Nat) {x m : Str} {a C dx : Addr} {ns ps : List Str} {ds : List Dat} {d : Dat} {Cp : List Dat → Dat → Prop} {k : Nat} {f : Addr} {fd : FuncData} {px apos pos : Pos} {pl : Sem Bool} (F : FnOk X.prog X.w X.K X.mg X.base (L2N.CX X.prog X.w) k f fd ps (spP X.K C ns Cp)) (M : Meth X.K C m f) (Bn : Binds X.K fd ps []) (hr : Room k X.A) (hp : Passes (L2N.CX X.prog X.w) X E) (hC : Cls X.K C) (hi : ρ[i]? = some (.mg a (oN C dx ns) ds)) (hx : PE X (.Name x px) (tVar i))
    (hm : m ∉ ns) (hc : Cp ds d)
    (ht : eval (.Call (.Attribute (.Name x px) m apos) [] [] pos) X.env = (do let ov ← eval (.Name x px) X.env; standAt apos.atName; let (f, first) ← holding [ov] (getMethod ov m pl); callWith pos f first (backTo pos (starEach [] X.env)) (backToKw pos (keywordEach [] X.env))) := by rfl) :
    D X E (.Call (.Attribute (.Name x px) m apos) [] [] pos) ρ (.ok d) := by
  refine D.of (pe_meth0 (pl := pl) hx hC M F hr Bn .nil hp ht) fun B σ H Q cv en q => ?_
  obtain ⟨e1, hb, vs, h3, h4⟩ := en.mg hi
  exact ⟨_, e1, a, dx, _, rfl, h3, lk_none hm, B, a, dx, ds, d, rfl, cv, hb, ⟨vs, h3, h4⟩, hc, q⟩
end
/-! ### len of an object -/
def rLenO (sp : Sp) (K : PySem.W.Frag) (f : Addr) : List V → Hp → VK → Prop := fun xs H Q => ∃ a C dx fs, xs = [V.ref a] ∧ H a = some (.ins C dx fs) ∧ PySem.W.findIn K (.ref C) "__len__" = some (some (.ref f)) ∧ sp [V.ref a] H (fun v H' => ∃ n : Int, v = .int n ∧ (0 ≤ n ∧ n < 2 ^ 63) ∧ Q (.int n) H') E0
theorem cr_lenO {X : Cx} {k : Nat} {f : Addr} {fd : FuncData} {ps : List Str} {sp : Sp} (F : FnOk X.prog X.w X.K X.mg X.base (L2N.CX X.prog X.w) k f fd ps sp) (Bn : Binds X.K fd ps []) (hps : ps.length = 1) (hr : Room (k + 1) X.A) (hf : PySem.W.isFn X.K (.ref f) = true) : CallR X (.builtin "len") (rLenO sp X.K f) := by
  intro pins s σ H xs us Q I r ⟨a, C, dx, fs, e, ha, hs, q⟩
  subst e
  rw [Vals.ref1 r]
  obtain ⟨m, hF⟩ := I.fr
  obtain ⟨mA, OM, _⟩ := ins_get I.hok ha
  obtain ⟨od, O, _⟩ := OM.look
  refine PySem.W.len_K hF I.ok.mod.kin O hs hf ?_
  refine wpAny_call (codeAny_mono (F.run X.A.in1 X.stack s H ⟨[.ref a], []⟩ [.ref a] [.ref a] _ E0 hr.in1 I.env0.in1 (Bn s [.ref a] I.kIn (by rw [hps]; rfl)) (.cons rfl .nil) q) fun r s' hq => ?_)
  cases r with
  | error e =>
    obtain ⟨_, _, _, _, _, _, _, _, _, _, _, _, z⟩ := hq
    exact z.elim
  | ok fl =>
    cases fl with
    | ret u =>
      obtain ⟨v, H', I', rv, n, e, hn, q'⟩ := I.after hq
      subst e
      obtain ⟨t, rfl⟩ := rv
      exact ⟨hn, .int n, H', I'.tok _, ⟨_, rfl⟩, q'⟩
    | next => exact False.elim hq
    | brk => exact False.elim hq
    | cont => exact False.elim hq
theorem d_lenO {X : Cx} {E : XK} {ρ : List Sl} (i : Nat) {x : Str} {a C dx : Addr} {ns ps : List Str} {ds : List Dat} {n : Nat} {Cp : List Dat → Dat → Prop} {k : Nat} {f : Addr} {fd : FuncData} {px p pos : Pos} (F : FnOk X.prog X.w X.K X.mg X.base (L2N.CX X.prog X.w) k f fd ps (spP X.K C ns Cp)) (M : Meth X.K C "__len__" f) (Bn : Binds X.K fd ps []) (hps : ps.length = 1) (hr : Room (k + 1) X.A) (hml : X.mg "len" = none) (hi : ρ[i]? = some (.mg a (oN C dx ns) ds)) (hx : PE X (.Name x px) (tVar i)) (hn : n ≤ 1000000) (hc : Cp ds (.int n))
    (hg : Gl X "len" := by rfl) (he : starEach [.Name x px] X.env = (false, eval (.Name x px) X.env) :: starEach [] X.env := by rfl) : D X E (.Call (.Name "len" p) [.Name x px] [] pos) ρ (.ok (.int n)) := by
  refine D.of (pe_callB (cr_lenO F Bn hps hr M.fn) hg hml (show bootBuiltins "len" = some (.builtin "len") by decide +kernel) (pa_cons hx pa_nil he) (by decide) (by decide) he rfl) fun B σ H Q cv en q => ?_
  obtain ⟨e1, hb, vs, h3, h4⟩ := en.mg hi
  refine ⟨_, e1, a, C, dx, _, rfl, h3, M.at_, B, a, dx, ds, .int n, rfl, cv, hb, ⟨vs, h3, h4⟩, hc, fun v H' s rv => ?_⟩
  rw [rp_int rv]
  exact ⟨n, rfl, ⟨by omega, by omega⟩, q _ H' s (.int _)⟩
/-! ### worlds that bear new code objects -/
structure WSm (T : List (Addr × Str)) (W : Wl) : Prop where
  sm : ∀ {B : Addr → Bool} {H H1 : Hp}, Wd W B H → Sm H H1 → Tabs T H1 → Wd W B H1
  tabs : ∀ {B : Addr → Bool} {H : Hp}, Wd W B H → Tabs T H
theorem wsm_WT {T : List (Addr × Str)} {fr : Hp} {dc : Addr → Bool} : WSm T (WT T fr dc) := ⟨fun w e h => w.sm e h, fun w => w.iv⟩
theorem dx_told {X : Cx} {E1 : XK} {T : List (Addr × Str)} {W : Wl} {ρ : List Sl} {S S' : Res → List Sl → Prop} {g CS ft c P : Addr} {k kt : Nat} {Kn : Addr → List Nat → Prop} {params : Arguments} {body : Expr} {scope : Scope} {p lpos pos : Pos} (hW : WSm T W) (F : ToldF X.K X.mg g CS ft) (hTm : TermOk X.prog X.w X.K X.mg X.base ft kt Kn)
    (TB : TabB X.base X.mg c P) (hcode : X.env.code = .ref c) (hmT : (P, X.env.qual ++ "<lambda>") ∈ T) (hu : ∀ p ∈ T, p.1 = P → p.2 = X.env.qual ++ "<lambda>") (hr : Room (k + 2) X.A) (hkt : kt ≤ k + 1)
    (hbody : ∀ (A : Around) (outer : List Env) (s : Shared) (H : Hp) (E : XK) (f c' : Addr), Room k (A.deeper (lamEnv X scope s.heap.objs.size f c')) → DX (lamN X A outer s H E scope f c') E W body ρ S)
    (h1 : ∀ d ρ', S (.ok d) ρ' → S' (.ok d) ρ') (h2 : ∀ c ρ', S (.err c) ρ' → ∃ C nm, c = .ref C ∧ Kn C nm ∧ PySem.W.exmOne X.K (.ref C) (.ref CS) = some true ∧ S' (.ok (errD nm)) ρ')
    (L : LamS X.env.scope scope := by exact lamS_by (by decide +kernel)) (hdef : defaultsOf params X.env = ([], []) := by rfl) (hbind : ∀ (q : Str) (cl : List (Str × Addr)) (pm cv ctv : Value), bindArgs (PySem.W.kla_fn "<lambda>" q params body scope cl pm cv ctv) ⟨[], []⟩ = pure [] := by intros; rfl) (hg : Gl X "_law_told" := by rfl) :
    DX X E1 W (.Call (.Name "_law_told" p) [.Lambda params body scope lpos] [] pos) ρ S' := by
  refine pe_imp (gh_told (t := fun E => tX X.K E W ρ S) F hTm hg TB hcode hmT hu hr hkt L hdef hbind hbody) fun σ H Q ⟨B, w, en, q1, q2⟩ => ⟨hW.tabs w, fun H1 eN T1 => ?_⟩
  have w1 := hW.sm w eN T1
  have en1 := en.sm eN
  refine ⟨B, w1, en1, fun v H' B' d ρ' hS w' en' m' r => q1 v H' B' d ρ' (h1 d ρ' hS) w' en' ((mask_sm eN).trans m') r, fun c H' B' ρ' hS w' en' m' => ?_⟩
  obtain ⟨C, nm, e1, hK, hx, hs⟩ := h2 c ρ' hS
  exact ⟨C, nm, e1, rfl, hK, hx, B', w'.cov, fun v H'' s2 rv => q1 v H'' B' (errD nm) ρ' hs (w'.same s2) (en'.same s2) (((mask_sm eN).trans m').trans (Sm.of (mask_same s2))) rv⟩
/-! ### statements and tests -/
def tXT (K : PySem.W.Frag) (W : Wl) (ρ ρ' : List Sl) (b : Bool) : TT := fun σ H Q => ∃ B, Wd W B H ∧ EnvR K B H σ ρ ∧ ∀ H' B', Wd W B' H' → EnvR K B' H' σ ρ' → Q b H'
section
variable {X : Cx} {E : XK} {W : Wl} {ρ ρ1 : List Sl} {P : Out → Prop} {S : Res → List Sl → Prop}
theorem s_retDX {e : Expr} {pos : Pos} (h : DX X E W e ρ S) (q : ∀ d ρ', S (.ok d) ρ' → P (.re ρ' d)) (qe : ∀ c ρ', S (.err c) ρ' → P (.ee ρ' c)) : S1 X E W (.Return (some e) pos) ρ P :=
  ps_imp (ps_ret h) fun D σ H ⟨B, w, en, p⟩ => ⟨B, w, en, fun v H' B' d ρ' hS w' en' m' r => p.re ρ' σ d v H' B' (q d ρ' hS) w' en' r, fun c H' B' ρ' hS w' en' m' => p.ee ρ' σ c H' B' (qe c ρ' hS) w' en'⟩
theorem s_setDX (i : Nat) {x : Str} {e : Expr} {pos pos' : Pos} (hN : X.N.Nodup) (h : DX X E W e ρ S) (q : ∀ d ρ', S (.ok d) ρ' → P (.nx (ρ'.set i (.dt d)))) (qe : ∀ c ρ', S (.err c) ρ' → P (.ee ρ' c)) (hi : X.N[i]? = some x := by rfl) (hx : Loc X.env.scope x := by first | exact Or.inl rfl | exact Or.inr rfl)
    (hs : swapsWith e (some (.Name x pos')) pos.line X.env = pure false := by rfl) (hf : X.fn x = true ∨ X.env.scope.names.lookup x = some .local := by first | exact .inl rfl | exact .inr rfl | assumption) : S1 X E W (.Assign [.Name x pos'] e pos) ρ P :=
  ps_imp (ps_set hN hi hx h hs hf) fun D σ H ⟨B, w, en, p⟩ => ⟨B, w, en, fun v H' B' d ρ' hS w' en' m' r => p.nx _ _ H' B' (q d ρ' hS) w' (en'.setD i r), fun c H' B' ρ' hS w' en' m' => p.ee ρ' σ c H' B' (qe c ρ' hS) w' en'⟩
/-- a != b, a may change the slots -/
theorem xt_ne {a b : Expr} {x y : Dat} {pos : Pos} (hu : X.A.units + 64 < cLine) (ha : DX X E0 W a ρ (fun r ρ' => r = .ok x ∧ ρ' = ρ1)) (hb : D X E0 b ρ1 (.ok y)) (hx : okn 9 x = true) (hy : okn 9 y = true) : PT X (.Compare a [.NotEq] [b] pos) (tXT X.K W ρ ρ1 (!Dat.eq x y)) :=
  pt_imp (pt_cmpR (op_neD hu) ha hb (nomark _)) fun σ H Q ⟨B, w, en, q⟩ => ⟨B, w, en, fun vx H1 B1 d ρ' hS w1 en1 m1 rx => by
    obtain ⟨e1, e2⟩ := hS
    cases e1
    subst e2
    exact ⟨B1, w1.cov, en1, fun vy H2 s2 ry => o_neD hx hy B1 H2 vx vy _ (w1.cov.same s2) (rx.mono (mask_same s2)) ry fun v H3 s3 rv => ⟨_, rp_bl rv, q H3 B1 ((w1.same s2).same s3) ((en1.same s2).same s3)⟩⟩, fun c H' B' ρ' hS => by
    obtain ⟨e1, _⟩ := hS
    cases e1⟩
theorem xt_is {c : Expr} {b b' : Bool} (h : PT X c (tXT X.K W ρ ρ1 b)) (q : b = b') : PT X c (tXT X.K W ρ ρ1 b') := q ▸ h
theorem xt_or {a b : Expr} {pos : Pos} (ha : PT X a (tXT X.K W ρ ρ1 false)) (hb : T X b ρ1 false) : PT X (.BoolOp .Or [a, b] pos) (tXT X.K W ρ ρ1 false) := by
  refine PW.pt (pw_imp (pw_or ha (pw_or1 hb)) fun σ H Q ⟨B, w, en, q⟩ => ⟨B, w, en, fun H1 B1 w1 en1 => ?_⟩)
  refine iteF ?_
  exact ⟨B1, w1.cov, en1, fun H2 s2 => q H2 B1 (w1.same s2) (en1.same s2)⟩
theorem s_ifXT {c : Expr} {th el : List Stmt} {pos : Pos} (t : PT X c (tXT X.K W ρ ρ1 false)) (h : SS X E W el ρ1 P) : S1 X E W (.If c th el pos) ρ P := by
  refine ps_imp (ps_if t pss_never h) fun D σ H ⟨B, w, en, p⟩ => ⟨B, w, en, fun H1 B1 w1 en1 => ?_⟩
  exact iteF ⟨B1, w1, en1, p⟩
end
end G

set_option Elab.async false
set_option linter.all false
set_option maxRecDepth 100000
set_option maxHeartbeats 4000000
namespace G
open PySem PySem.Spec PyProof.Rows L2 TL LamX
def clsBody : Stmt → List Stmt
  | .ClassDef _ _ _ b _ _ _ _ _ _ _ => b
  | _ => []
def mthS (j : Nat) : Stmt := (clsBody s_Drill).getD j (.Pass ⟨0, 0, 0, 0⟩)
abbrev fldN : List Str := ["now", "earlier", "undone"]
def stD (f : Fm) (e u : List Fm) : List Dat := [F_ f, .lst (e.map F_), .lst (u.map F_)]
theorem okL {e : List Fm} (h : ∀ g ∈ e, isFm g = true) : okn 9 (.lst (e.map F_)) = true := by
  show (e.map F_).all (okn 8) = true
  rw [List.all_eq_true]
  intro x hx
  obtain ⟨g, hg, rfl⟩ := List.mem_map.mp hx
  exact okn_mono (by decide) (okn_F (h g hg))
theorem at_last {α : Type} (l : List α) (x : α) : atI (l ++ [x]) (-1) = some x := by
  unfold atI ixN
  rw [List.length_append]
  have e : ([x] : List α).length = 1 := rfl
  rw [if_neg (by decide), e]
  have h : -(((l.length + 1 : Nat) : Int)) ≤ -1 := by omega
  first
    | rw [if_pos h]
    | simp only [h, if_true]
  show (l ++ [x])[((-1 : Int) + ((l.length + 1 : Nat) : Int)).toNat]? = some x
  rw [show ((-1 : Int) + ((l.length + 1 : Nat) : Int)).toNat = l.length by omega, List.getElem?_append_right (Nat.le_refl _), Nat.sub_self]
  rfl
theorem cut_last {α : Type} (l : List α) (x : α) : cutN (l ++ [x]) none (some (-1)) = l := by
  unfold cutN
  rw [HT.sIx_none, List.drop_zero, Nat.sub_zero, List.length_append]
  have e : HT.sIx (l.length + [x].length) (l.length + [x].length) (some (-1)) = l.length := by
    show (if (-1 : Int) < 0 then ((-1 : Int) + ((l.length + 1 : Nat) : Int)).toNat else min (-1 : Int).toNat (l.length + 1)) = l.length
    rw [if_pos (by decide)]
    omega
  rw [e, List.take_left]
theorem map_snoc (e : List Fm) (g : Fm) : (e ++ [g]).map F_ = e.map F_ ++ [F_ g] := by rw [List.map_append]; rfl
structure DrC (K : PySem.W.Frag) (C : Addr) : Prop where
  cl : Cls K C
  n0 : NoAttr K C "now"
  n1 : NoAttr K C "earlier"
  n2 : NoAttr K C "undone"
def MAt (K : PySem.W.Frag) (C : Addr) (m qual : Str) (st : Stmt) : Prop := ∃ f fd, Fun K m qual st f fd ∧ Meth K C m f
theorem ndF : fldN.Nodup := by decide +kernel
inductive C_order (IO IM : Addr) : List Dat → List Dat → Res → List Dat → Prop
  | badO (f : Fm) (e u : List Fm) (x : Dat) : okV x → isOrd x = false → C_order IO IM (stD f e u) [x] (.err (.ref IO)) (stD f e u)
  | imp (f : Fm) (e u : List Fm) (os : List Nat) : isFm f = true → isOrd (.str os) = true → aftF f os = none → C_order IO IM (stD f e u) [.str os] (.err (.ref IM)) (stD f e u)
  | ok (f : Fm) (e u : List Fm) (os : List Nat) (g : Fm) : isFm f = true → isOrd (.str os) = true → aftF f os = some g → e.length ≤ 1000 → C_order IO IM (stD f e u) [.str os] (.ok (F_ g)) (stD g (e ++ [f]) [])
inductive C_undo' (NU : Addr) : List Dat → List Dat → Res → List Dat → Prop
  | no (f : Fm) (u : List Fm) : C_undo' NU (stD f [] u) [] (.err (.ref NU)) (stD f [] u)
  | ok (f g : Fm) (e u : List Fm) : isFm g = true → (∀ k ∈ e, isFm k = true) → u.length ≤ 1000 → C_undo' NU (stD f (e ++ [g]) u) [] (.ok (F_ g)) (stD g e (u ++ [f]))
inductive C_redo (NU : Addr) : List Dat → List Dat → Res → List Dat → Prop
  | no (f : Fm) (e : List Fm) : C_redo NU (stD f e []) [] (.err (.ref NU)) (stD f e [])
  | ok (f g : Fm) (e u : List Fm) : isFm g = true → (∀ k ∈ u, isFm k = true) → e.length ≤ 1000 → C_redo NU (stD f e (u ++ [g])) [] (.ok (F_ g)) (stD g (e ++ [f]) u)
def C_fmn : List Dat → Dat → Prop := fun ds d => ∃ f e u, ds = stD f e u ∧ d = F_ f
def C_len : List Dat → Dat → Prop := fun ds d => ∃ f e u, ds = stD f e u ∧ d = .int (e.length : Nat)
section
variable {P : Program} {w : World} {K : PySem.W.Frag} {mg : Str → Option Value} {base : Heap} {C IF IO IM NU : Addr}
theorem sc_order : FnScope ["self", "orders", "made"] ["self", "orders"] (defScope (mthS 1)) := ⟨rfl, rfl, rfl, by decide +kernel, rfl, by decide +kernel, by decide +kernel⟩
theorem sc_fmn : FnScope ["self"] ["self"] (defScope (mthS 2)) := ⟨rfl, rfl, rfl, by decide +kernel, rfl, by decide +kernel, by decide +kernel⟩
theorem sc_undoM : FnScope ["self"] ["self"] (defScope (mthS 3)) := ⟨rfl, rfl, rfl, by decide +kernel, rfl, by decide +kernel, by decide +kernel⟩
theorem sc_redoM : FnScope ["self"] ["self"] (defScope (mthS 4)) := ⟨rfl, rfl, rfl, by decide +kernel, rfl, by decide +kernel, by decide +kernel⟩
theorem sc_lenM : FnScope ["self"] ["self"] (defScope (mthS 5)) := ⟨rfl, rfl, rfl, by decide +kernel, rfl, by decide +kernel, by decide +kernel⟩
theorem c_order (R : DrC K C) (G1 : FnC P w K mg base "need_orders" ["orders"] (C_needo IO) 2) (G2 : FnC P w K mg base "performed" ["formation", "orders"] (C_perf IM) 4) (h : MAt K C "order" "Drill.order" (mthS 1)) : FnM P w K mg base C fldN "order" ["self", "orders"] (C_order IO IM) 5 := by
  obtain ⟨fa, fd, F, M⟩ := h
  refine ⟨fa, fd, fnM_ok F sc_order (fun ds as r ds' z => by cases z <;> rfl) (by decide) fun cdv A outer s H E W a dx ds as r ds' hw hr z => ?_, M, F.binds fun _ _ _ _ _ _ us hl => match us, hl with | [_, _], _ => rfl⟩
  have nd := sc_order.nd
  cases z with
  | badO f e u x hx ho =>
    exact ss_cons (s_exprEE (d_call G1 (hr.mono (by decide)) pa_cx (da_one (dv 1 rfl)) ⟨x, rfl, hx, by rw [ho]; rfl⟩) ⟨rfl, rfl⟩)
  | imp f e u os hf ho hn =>
    refine ss_cons (s_expr (d := .non) (d_call G1 (hr.mono (by decide)) pa_cx (da_one (dv 1 rfl)) ⟨_, rfl, (isOrd_str ho).2.2, by rw [ho]; rfl⟩) ?_)
    exact ss_cons (s_setEE (i := 2) nd (d_call G2 (hr.mono (by decide)) pa_cx (da_cons (d_fld 0 0 rfl (pv 0) R.cl R.n0 ndF rfl rfl) (da_one (dv 1 rfl))) ⟨f, os, rfl, hf, (isOrd_str ho).2.2, by unfold perfR; rw [hn]⟩) ⟨rfl, rfl⟩)
  | ok f e u os g hf ho hn hl =>
    refine ss_cons (s_expr (d := .non) (d_call G1 (hr.mono (by decide)) pa_cx (da_one (dv 1 rfl)) ⟨_, rfl, (isOrd_str ho).2.2, by rw [ho]; rfl⟩) ?_)
    refine ss_cons (s_set 2 nd (d := F_ g) (d_call G2 (hr.mono (by decide)) pa_cx (da_cons (d_fld 0 0 rfl (pv 0) R.cl R.n0 ndF rfl rfl) (da_one (dv 1 rfl))) ⟨f, os, rfl, hf, (isOrd_str ho).2.2, by unfold perfR; rw [hn]⟩) ?_)
    refine ss_cons (s_fld 0 1 (d := .lst (e.map F_ ++ [F_ f])) rfl hw (pv 0) (d_addL (d_fld 0 1 rfl (pv 0) R.cl R.n1 ndF rfl rfl) (d_lst (da_one (d_fld 0 0 rfl (pv 0) R.cl R.n0 ndF rfl rfl)) (by simp)) (by rw [List.length_map]; show e.length + 1 ≤ _; omega)) R.cl R.n1 ndF rfl (by decide) rfl ?_)
    refine ss_cons (s_fld 0 2 (d := .lst []) rfl hw (pv 0) (d_lst da_nil (by simp)) R.cl R.n2 ndF rfl (by decide) rfl ?_)
    refine ss_cons (s_fld 0 0 (d := F_ g) rfl hw (pv 0) (dv 2 rfl) R.cl R.n0 ndF rfl (by decide) rfl ?_)
    refine ss_one (s_retE2 (dv 2 rfl) ⟨rfl, ?_⟩)
    show some (Sl.mg a _ [F_ g, .lst (e.map F_ ++ [F_ f]), .lst []]) = some (Sl.mg a _ (stD g (e ++ [f]) []))
    rw [← map_snoc]
    rfl
theorem c_undoM (R : DrC K C) (X1 : ExcF K mg "NothingToUndo" NU) (h : MAt K C "undo" "Drill.undo" (mthS 3)) : FnM P w K mg base C fldN "undo" ["self"] (C_undo' NU) 1 := by
  obtain ⟨fa, fd, F, M⟩ := h
  refine ⟨fa, fd, fnM_ok F sc_undoM (fun ds as r ds' z => by cases z <;> rfl) (by decide) fun cdv A outer s H E W a dx ds as r ds' hw hr z => ?_, M, F.binds fun _ _ _ _ _ _ us hl => match us, hl with | [_], _ => rfl⟩
  have nd := sc_undoM.nd
  cases z with
  | no f u =>
    exact ss_cons (s_if (b := true) (T.is (t_eq hr.units (d_fld 0 1 rfl (pv 0) R.cl R.n1 ndF rfl rfl) (d_lst da_nil (by simp)) rfl rfl) rfl) (fun _ => ss_one (s_raiseE X1 tk_cx ⟨rfl, rfl⟩)) (fun h => by cases h))
  | ok f g e u hg he hl =>
    have ok1 : okn 9 (.lst ((e ++ [g]).map F_)) = true := okL fun k hk => (List.mem_append.mp hk).elim (he k) fun z => by rw [List.mem_singleton.mp z]; exact hg
    refine ss_cons (s_if (b := false) (T.is (t_eq hr.units (d_fld 0 1 rfl (pv 0) R.cl R.n1 ndF rfl rfl) (d_lst da_nil (by simp)) ok1 rfl) ?_) (fun h => by cases h) (fun _ => ss_nil ?_))
    · cases e <;> rfl
    refine ss_cons (s_fld 0 2 (d := .lst (u.map F_ ++ [F_ f])) rfl hw (pv 0) (d_addL (d_fld 0 2 rfl (pv 0) R.cl R.n2 ndF rfl rfl) (d_lst (da_one (d_fld 0 0 rfl (pv 0) R.cl R.n0 ndF rfl rfl)) (by simp)) (by rw [List.length_map]; show u.length + 1 ≤ _; omega)) R.cl R.n2 ndF rfl (by decide) rfl ?_)
    refine ss_cons (s_fld 0 0 (d := F_ g) rfl hw (pv 0) (d_ixL (d_fld 0 1 rfl (pv 0) R.cl R.n1 ndF rfl rfl) (d_neg d_int) (by rw [map_snoc]; exact at_last _ _)) R.cl R.n0 ndF rfl (by decide) rfl ?_)
    refine ss_cons (s_fld 0 1 (d := .lst (e.map F_)) rfl hw (pv 0) ((d_slL (d_fld 0 1 rfl (pv 0) R.cl R.n1 ndF rfl rfl) do_none (do_some (d_neg d_int))).is (by rw [map_snoc]; exact congrArg Dat.lst (cut_last _ _))) R.cl R.n1 ndF rfl (by decide) rfl ?_)
    refine ss_one (s_retE2 (d_fld 0 0 rfl (pv 0) R.cl R.n0 ndF rfl rfl) ⟨rfl, ?_⟩)
    show some (Sl.mg a _ [F_ g, .lst (e.map F_), .lst (u.map F_ ++ [F_ f])]) = some (Sl.mg a _ (stD g e (u ++ [f])))
    rw [← map_snoc]
    rfl
theorem c_redoM (R : DrC K C) (X1 : ExcF K mg "NothingToUndo" NU) (h : MAt K C "redo" "Drill.redo" (mthS 4)) : FnM P w K mg base C fldN "redo" ["self"] (C_redo NU) 1 := by
  obtain ⟨fa, fd, F, M⟩ := h
  refine ⟨fa, fd, fnM_ok F sc_redoM (fun ds as r ds' z => by cases z <;> rfl) (by decide) fun cdv A outer s H E W a dx ds as r ds' hw hr z => ?_, M, F.binds fun _ _ _ _ _ _ us hl => match us, hl with | [_], _ => rfl⟩
  have nd := sc_redoM.nd
  cases z with
  | no f e =>
    exact ss_cons (s_if (b := true) (T.is (t_eq hr.units (d_fld 0 2 rfl (pv 0) R.cl R.n2 ndF rfl rfl) (d_lst da_nil (by simp)) rfl rfl) rfl) (fun _ => ss_one (s_raiseE X1 tk_cx ⟨rfl, rfl⟩)) (fun h => by cases h))
  | ok f g e u hg hu hl =>
    have ok1 : okn 9 (.lst ((u ++ [g]).map F_)) = true := okL fun k hk => (List.mem_append.mp hk).elim (hu k) fun z => by rw [List.mem_singleton.mp z]; exact hg
    refine ss_cons (s_if (b := false) (T.is (t_eq hr.units (d_fld 0 2 rfl (pv 0) R.cl R.n2 ndF rfl rfl) (d_lst da_nil (by simp)) ok1 rfl) ?_) (fun h => by cases h) (fun _ => ss_nil ?_))
    · cases u <;> rfl
    refine ss_cons (s_fld 0 1 (d := .lst (e.map F_ ++ [F_ f])) rfl hw (pv 0) (d_addL (d_fld 0 1 rfl (pv 0) R.cl R.n1 ndF rfl rfl) (d_lst (da_one (d_fld 0 0 rfl (pv 0) R.cl R.n0 ndF rfl rfl)) (by simp)) (by rw [List.length_map]; show e.length + 1 ≤ _; omega)) R.cl R.n1 ndF rfl (by decide) rfl ?_)
    refine ss_cons (s_fld 0 0 (d := F_ g) rfl hw (pv 0) (d_ixL (d_fld 0 2 rfl (pv 0) R.cl R.n2 ndF rfl rfl) (d_neg d_int) (by rw [map_snoc]; exact at_last _ _)) R.cl R.n0 ndF rfl (by decide) rfl ?_)
    refine ss_cons (s_fld 0 2 (d := .lst (u.map F_)) rfl hw (pv 0) ((d_slL (d_fld 0 2 rfl (pv 0) R.cl R.n2 ndF rfl rfl) do_none (do_some (d_neg d_int))).is (by rw [map_snoc]; exact congrArg Dat.lst (cut_last _ _))) R.cl R.n2 ndF rfl (by decide) rfl ?_)
    refine ss_one (s_retE2 (d_fld 0 0 rfl (pv 0) R.cl R.n0 ndF rfl rfl) ⟨rfl, ?_⟩)
    show some (Sl.mg a _ [F_ g, .lst (e.map F_ ++ [F_ f]), .lst (u.map F_)]) = some (Sl.mg a _ (stD g (e ++ [f]) u))
    rw [← map_snoc]
    rfl
structure FnP (P : Program) (w : World) (K : PySem.W.Frag) (mg : Str → Option Value) (base : Heap) (C : Addr) (m : Str) (Cp : List Dat → Dat → Prop) (k : Nat) : Prop where
  ex : ∃ f fd, FnOk P w K mg base (L2N.CX P w) k f fd ["self"] (spP K C fldN Cp) ∧ Meth K C m f ∧ Binds K fd ["self"] []
theorem c_fmn (R : DrC K C) (h : MAt K C "formation" "Drill.formation" (mthS 2)) : FnP P w K mg base C "formation" C_fmn 1 := by
  obtain ⟨fa, fd, F, M⟩ := h
  refine ⟨fa, fd, fnP_ok F sc_fmn rfl (by decide) fun cdv A outer s H E W a dx ds d hr ⟨f, e, u, e1, e2⟩ => ?_, M, F.binds fun _ _ _ _ _ _ us hl => match us, hl with | [_], _ => rfl⟩
  subst e1 e2
  exact ss_one (s_ret (d_fld 0 0 rfl (pv 0) R.cl R.n0 ndF rfl rfl) rfl)
theorem c_lenM (B : Bi mg) (R : DrC K C) (h : MAt K C "__len__" "Drill.__len__" (mthS 5)) : FnP P w K mg base C "__len__" C_len 1 := by
  obtain ⟨fa, fd, F, M⟩ := h
  refine ⟨fa, fd, fnP_ok F sc_lenM rfl (by decide) fun cdv A outer s H E W a dx ds d hr ⟨f, e, u, e1, e2⟩ => ?_, M, F.binds fun _ _ _ _ _ _ us hl => match us, hl with | [_], _ => rfl⟩
  subst e1 e2
  exact ss_one (s_ret ((d_lenL B.len (d_fld 0 1 rfl (pv 0) R.cl R.n1 ndF rfl rfl)).is (by rw [List.length_map])) rfl)
end
end G

set_option Elab.async false
set_option linter.all false
set_option maxRecDepth 100000
set_option maxHeartbeats 4000000
namespace G
open PySem PySem.Spec PyProof.Rows L2 TL LamX L2H HotX
/-! ### steps of an owned object, tables may grow -/
theorem own_stepG {K : PySem.W.Frag} {T : List (Addr × Str)} {W : Wl} {B : Addr → Bool} {H H' : Hp} {σ : L2.St} {ρ : List Sl} {i : Nat} {a C dx : Addr} {ns : List Str} {o0 : List V → HO} {ds ds' : List Dat} (up : ∀ {B : Addr → Bool} {H H1 : Hp}, Wd W B H → Sm H H1 → Tabs T H1 → Wd W B H1) (w : Wd W B H) (en : EnvR K B H σ ρ) (hi : ρ[i]? = some (.mg a o0 ds)) (h00 : ∀ vs, teO (o0 vs) = false) (hr : Wr W a)
    (hp : ∀ b o, b ≠ a → H b = some o → (∀ ps, o ≠ .tbl ps) → H' b = some o) (hT : Tabs T H') (hc : Ok1 K B H' a C dx ns ds') :
    Wd W B H' ∧ EnvR K B H' σ (ρ.set i (.mg a (oN C dx ns) ds')) ∧ Sm (mask B H) (mask B H') := by
  obtain ⟨h1, hb, vs0, h0, _⟩ := en.mg hi
  obtain ⟨us, hu, hru⟩ := hc
  have s : Sm (upd H a (oN C dx ns us)) H' := fun b o e n => by
    by_cases z : b = a
    · rw [z, upd_same] at e
      rw [z, hu, e]
    · rw [upd_ne z] at e
      exact hp b o z e n
  have m := mask_sm (B := B) s
  rw [mask_upd hb] at m
  have w1 := up (w.write (o := oN C dx ns us) hr hb h0 (h00 _) rfl) s hT
  refine ⟨w1, ?_, m⟩
  have hl := (List.getElem?_eq_some_iff.mp hi).1
  have e0 := en.write (o := oN C dx ns us) (s' := .mg a (fun _ => oN C dx ns us) []) hi rfl h1 hb ⟨rfl, hb, [], upd_same, oN_tbl, .nil⟩ rfl
  exact EnvR.mk (by rw [List.length_set, en.len]) (fun j x hj => by
      by_cases hij : i = j
      · subst hij
        rw [List.getElem?_set_self hl] at hj
        have hj := Option.some.inj hj
        subst hj
        exact ⟨_, h1, rfl, hb, us, hu, oN_tbl, hru⟩
      · have hj2 : (ρ.set i (.mg a (fun _ => oN C dx ns us) []))[j]? = some x := by
          rw [List.getElem?_set_ne hij] at hj ⊢
          exact hj
        exact (e0.sm s).at_ j x hj2) (fun j k sj sk v hjk hj hk oj ok vj => by
      have tr : ∀ (j : Nat) (sj : Sl), (ρ.set i (.mg a (oN C dx ns) ds'))[j]? = some sj → sj.own = true → ∃ sj', ρ[j]? = some sj' ∧ sj'.own = true := fun j sj hj oj => by
        by_cases hij : i = j
        · subst hij
          exact ⟨_, hi, rfl⟩
        · rw [List.getElem?_set_ne hij] at hj
          exact ⟨sj, hj, oj⟩
      obtain ⟨sj', hj', oj'⟩ := tr j sj hj oj
      obtain ⟨sk', hk', ok'⟩ := tr k sk hk ok
      exact en.sep j k sj' sk' v hjk hj' hk' oj' ok' vj)
theorem own_step0 {K : PySem.W.Frag} {W : Wl} {B : Addr → Bool} {H H' : Hp} {σ : L2.St} {ρ : List Sl} {i : Nat} {a C dx : Addr} {ns : List Str} {o0 : List V → HO} {ds ds' : List Dat} (w : Wd W B H) (en : EnvR K B H σ ρ) (hi : ρ[i]? = some (.mg a o0 ds)) (h00 : ∀ vs, teO (o0 vs) = false) (hr : Wr W a) (hp : ∀ b o, b ≠ a → H b = some o → H' b = some o) (hc : Ok1 K B H' a C dx ns ds') :
    Wd W B H' ∧ EnvR K B H' σ (ρ.set i (.mg a (oN C dx ns) ds')) := by
  obtain ⟨h1, hb, vs0, h0, _⟩ := en.mg hi
  obtain ⟨us, hu, hru⟩ := hc
  have s : Same (upd H a (oN C dx ns us)) H' := fun b o e => by
    by_cases z : b = a
    · rw [z, upd_same] at e
      rw [z, hu, e]
    · rw [upd_ne z] at e
      exact hp b o z e
  have w1 := (w.write (o := oN C dx ns us) hr hb h0 (h00 _) rfl).same s
  refine ⟨w1, ?_⟩
  have hl := (List.getElem?_eq_some_iff.mp hi).1
  have e0 := en.write (o := oN C dx ns us) (s' := .mg a (fun _ => oN C dx ns us) []) hi rfl h1 hb ⟨rfl, hb, [], upd_same, oN_tbl, .nil⟩ rfl
  exact EnvR.mk (by rw [List.length_set, en.len]) (fun j x hj => by
      by_cases hij : i = j
      · subst hij
        rw [List.getElem?_set_self hl] at hj
        have hj := Option.some.inj hj
        subst hj
        exact ⟨_, h1, rfl, hb, us, hu, oN_tbl, hru⟩
      · have hj2 : (ρ.set i (.mg a (fun _ => oN C dx ns us) []))[j]? = some x := by
          rw [List.getElem?_set_ne hij] at hj ⊢
          exact hj
        exact (e0.same s).at_ j x hj2) (fun j k sj sk v hjk hj hk oj ok vj => by
      have tr : ∀ (j : Nat) (sj : Sl), (ρ.set i (.mg a (oN C dx ns) ds'))[j]? = some sj → sj.own = true → ∃ sj', ρ[j]? = some sj' ∧ sj'.own = true := fun j sj hj oj => by
        by_cases hij : i = j
        · subst hij
          exact ⟨_, hi, rfl⟩
        · rw [List.getElem?_set_ne hij] at hj
          exact ⟨sj, hj, oj⟩
      obtain ⟨sj', hj', oj'⟩ := tr j sj hj oj
      obtain ⟨sk', hk', ok'⟩ := tr k sk hk ok
      exact en.sep j k sj' sk' v hjk hj' hk' oj' ok' vj)
/-! ### __init__ -/
def spI (K : PySem.W.Frag) (C : Addr) (Ci : List Dat → Except Value (List Dat) → Prop) : Sp := fun vs H Q E => ∃ B a dx vs' as r, vs = V.ref a :: vs' ∧ Cov B H ∧ B a = true ∧ H a = some (.ins C dx []) ∧ RpA K (mask B H) vs' as ∧ Ci as r ∧
  match r with
  | .ok ds' => ∀ H', (∀ b o, b ≠ a → H b = some o → H' b = some o) → Ok1 K B H' a C dx fldN ds' → Q .non H'
  | .error c => ∀ H', (∀ b o, b ≠ a → H b = some o → H' b = some o) → E c none H'
def C_init (IF : Addr) : List Dat → Except Value (List Dat) → Prop := fun as r => (∃ d, as = [d] ∧ okV d ∧ isForm d = false ∧ r = .error (.ref IF)) ∨ ∃ f : Fm, as = [F_ f] ∧ isFm f = true ∧ r = .ok (stD f [] [])
structure FnI (P : Program) (w : World) (K : PySem.W.Frag) (mg : Str → Option Value) (base : Heap) (C : Addr) (Ci : List Dat → Except Value (List Dat) → Prop) (k : Nat) : Prop where
  ex : ∃ f fd, FnOk P w K mg base (L2N.CX P w) k f fd ["self", "formation"] (spI K C Ci) ∧ Mk K C f ∧ Binds K fd ["self", "formation"] []
def outI (a : Addr) (C dx : Addr) (r : Except Value (List Dat)) : Out → Prop
  | .nx ρ => ∃ ds', r = .ok ds' ∧ ρ[0]? = some (.mg a (oN C dx fldN) ds')
  | .er c => r = .error c
  | _ => False
section
variable {P : Program} {w : World} {K : PySem.W.Frag} {mg : Str → Option Value} {base : Heap} {C IF : Addr}
theorem sc_init : FnScope ["self", "formation"] ["self", "formation"] (defScope (mthS 0)) := ⟨rfl, rfl, rfl, by decide +kernel, rfl, by decide +kernel, by decide +kernel⟩
theorem c_init (R : DrC K C) (G1 : FnC P w K mg base "need_formation" ["formation"] (C_needf IF) 2) {f : Addr} {fd : FuncData} (F : Fun K "__init__" "Drill.__init__" (mthS 0) f fd) (M : Mk K C f) : FnI P w K mg base C (C_init IF) 3 := by
  refine ⟨f, fd, ?_, M, F.binds fun _ _ _ _ _ _ us hl => match us, hl with | [_, _], _ => rfl⟩
  refine okN F sc_init (fun vs H Q E h => ?_) (fun cdv A outer s H vs Q E hr h => ?_)
  · obtain ⟨B, a, dx, vs', as, r, rfl, _, _, _, ra, hc, _⟩ := h
    rw [List.length_cons, ra.length]
    rcases hc with ⟨d, e, _⟩ | ⟨d, e, _⟩ <;> rw [e] <;> rfl
  · obtain ⟨B, a, dx, vs', as, r, rfl, cv, hb, hu, ra, hc, q⟩ := h
    have nd := sc_init.nd
    have hw : Wr ⟨H, B, fun b => decide (b = a), fun _ => none, fun _ => True, fun _ _ _ _ => True.intro, cv, fun _ => false, fun _ => true⟩ a := ⟨fun m => by simp at m, rfl⟩
    have body : SS (cxOf (L2N.CX P w) P w K mg base ["self", "formation"] "Drill.__init__" (defScope (mthS 0)) f cdv A outer s H E) E ⟨H, B, fun b => decide (b = a), fun _ => none, fun _ => True, fun _ _ _ _ => True.intro, cv, fun _ => false, fun _ => true⟩ (defBody (mthS 0)) (startM ["self", "formation"] (.mg a (oN C dx []) []) as) (outI a C dx r) := by
      rcases hc with ⟨d, e, hd, h1, er⟩ | ⟨g, e, hg, er⟩
      · subst e er
        exact ss_cons (s_exprE (d_call G1 (hr.mono (by decide)) pa_cx (da_one (dv 1 rfl)) ⟨d, rfl, hd, by rw [h1]; rfl⟩) rfl)
      · subst e er
        refine ss_cons (s_expr (d := .non) (d_call G1 (hr.mono (by decide)) pa_cx (da_one (dv 1 rfl)) ⟨_, rfl, okV_F hg, by rw [isForm_F, hg]; rfl⟩) ?_)
        refine ss_cons (s_fldN 0 (ns := []) (d := F_ g) rfl hw (pv 0) (dv 1 rfl) R.cl R.n0 (by simp) rfl (by decide) ?_)
        refine ss_cons (s_fldN 0 (ns := ["now"]) (d := .lst []) rfl hw (pv 0) (d_lst da_nil (by simp)) R.cl R.n1 (by decide +kernel) rfl (by decide) ?_)
        refine ss_one (s_fldN 0 (ns := ["now", "earlier"]) (d := .lst []) rfl hw (pv 0) (d_lst da_nil (by simp)) R.cl R.n2 (by decide +kernel) rfl (by decide) ?_)
        exact ⟨_, rfl, rfl⟩
    refine ⟨_, body, B, ⟨fun a o _ h => h, fun _ h => h, cv, fun a o h => (by cases h), True.intro, fun b hbd => (by cases hbd), fun _ _ _ _ => rfl⟩, ?_, ?_⟩
    · have e := envR_start (N := ["formation"]) ra
      have e2 := e.cons (s := .mg a (oN C dx []) []) (o := some (.ref a)) ⟨rfl, hb, [], hu, oN_tbl, .nil⟩ startρ_own
      have z : L2.start ["self", "formation"] (.ref a :: vs') = some (V.ref a) :: L2.start ["formation"] vs' := by
        show some (V.ref a) :: (vs'.map some ++ List.replicate (2 - (vs'.length + 1)) none) = some (V.ref a) :: (vs'.map some ++ List.replicate (1 - vs'.length) none)
        rw [show 2 - (vs'.length + 1) = 1 - vs'.length by omega]
      rw [z]
      exact e2
    · have old : ∀ {H' : Hp} {B' : Addr → Bool}, Wd ⟨H, B, fun b => decide (b = a), fun _ => none, fun _ => True, fun _ _ _ _ => True.intro, cv, fun _ => false, fun _ => true⟩ B' H' → ∀ b o, b ≠ a → H b = some o → H' b = some o := fun w b o ne h => w.old b o (decide_eq_false ne) h
      refine ⟨fun ρ σ H' B' e w en => ?_, fun d v H' B' e w r' => e.elim, fun c H' B' e w => ?_, fun ρ σ H' B' e w en => e.elim, fun ρ σ H' B' e w en => e.elim, fun ρ σ d v H' B' e w en r' => e.elim, fun ρ σ c H' B' e w en => e.elim⟩
      · obtain ⟨ds', e1, e2⟩ := e
        subst e1
        obtain ⟨_, _, us', h3, h4⟩ := en.mg e2
        exact q H' (old w) ⟨us', h3, h4.mono (mask_le w.b0)⟩
      · have e : r = .error c := e
        subst e
        exact q H' (old w)
end
section
variable {X : Cx} {E : XK} {W : Wl} {ρ : List Sl} {P : Out → Prop}
theorem mk_sub {B : Addr → Bool} {H1 : Hp} {x dx C : Addr} (nx : H1 x = none) (nd : H1 dx = none) : Same (mask B H1) (mask (fun b => B b || decide (b = x)) (upd (upd H1 dx (.own x)) x (.ins C dx []))) := fun b o h => by
  obtain ⟨h1, h2⟩ := mask_some h
  have n1 : b ≠ x := ne_of_none h2 nx
  have n2 : b ≠ dx := ne_of_none h2 nd
  rw [mask_out (by rw [h1, decide_eq_false n1]; rfl), upd_ne n1, upd_ne n2]
  exact h2
theorem mk_cov {B : Addr → Bool} {H1 : Hp} {x dx C : Addr} (c : Cov B H1) (nx : H1 x = none) (nd : H1 dx = none) (ne : dx ≠ x) : Cov (fun b => B b || decide (b = x)) (upd (upd H1 dx (.own x)) x (.ins C dx [])) := fun b hb n => by
  by_cases e : b = x
  · rw [e, upd_same] at n
    rcases n with n | ⟨_, n⟩ <;> cases n
  · have hb : (B b || decide (b = x)) = true := hb
    rw [decide_eq_false e, Bool.or_false] at hb
    rw [upd_ne e] at n
    by_cases e2 : b = dx
    · rw [e2] at hb
      exact c dx hb (.inl nd)
    · rw [upd_ne e2] at n
      exact c b hb n
/-- C(e), refused -/
theorem d_makeE {Ci : List Dat → Except Value (List Dat) → Prop} {k : Nat} {x : Str} {C : Addr} {e : Expr} {as : List Dat} {c : Value} {p pos : Pos} (F : FnI X.prog X.w X.K X.mg X.base C Ci k) (hr : Room (k + 1) X.A) (hm : X.mg x = some (.ref C)) (hp : Passes (L2N.CX X.prog X.w) X E) (ha : DA X E [e] ρ (.ok as)) (hc : Ci as (.error c))
    (hg : Gl X x := by rfl) (hdb : (x == ("__debug__" : Str)) = false := by decide) (he : starEach [e] X.env = (false, eval e X.env) :: starEach [] X.env := by rfl) : D X E (.Call (.Name x p) [e] [] pos) ρ (.err c) := by
  obtain ⟨f, fd, h1, h2, h3⟩ := F.ex
  refine D.ofR (pe_make h2 h1 hr hg hm h3 .nil hp ha hdb he rfl) fun B σ H Q cv en q => ⟨B, cv, en, fun vs H1 s1 rs y dx ny nd ne => ?_⟩
  rw [List.append_nil]
  refine ⟨_, y, dx, vs, as, .error c, rfl, mk_cov (cv.same s1) ny nd ne, by simp, upd_same, rs.mono (mk_sub ny nd), hc, fun H' hp => q H' fun b o h => ?_⟩
  have h' := s1 _ _ h
  have n1 : b ≠ y := ne_of_none h' ny
  have n2 : b ≠ dx := ne_of_none h' nd
  exact hp b o n1 (by rw [upd_ne n1, upd_ne n2]; exact h')
/-- x, y, z = C(e), [], [] -/
theorem s_drill {i j l : Nat} {Ci : List Dat → Except Value (List Dat) → Prop} {k : Nat} {x : Str} {C : Addr} {e tg : Expr} {as ds' : List Dat} {p pos p1 p2 pt pos2 : Pos} {kt : Nat} (hi : i < ρ.length) (hg : PG X tg (gTup X.K 3 (gCons (gName i) (gCons (gName j) (gCons (gName l) gNil))))) (F : FnI X.prog X.w X.K X.mg X.base C Ci k) (hr : Room (k + 1) X.A) (hm : X.mg x = some (.ref C)) (hp : Passes (L2N.CX X.prog X.w) X E) (ha : DA X E [e] ρ (.ok as)) (hc : Ci as (.ok ds'))
    (q : ∀ a dx, Wr W a → P (.nx (((ρ.set i (.mg a (oN C dx fldN) ds')).set j (.dt (.lst []))).set l (.dt (.lst [])))))
    (h2 : ∀ {te : TE} {g : TG}, PE X (.Tuple [.Call (.Name x p) [e] [] pos, .List [] p1, .List [] p2] kt pt) te → PG X tg g → PS X (.Assign [tg] (.Tuple [.Call (.Name x p) [e] [] pos, .List [] p1, .List [] p2] kt pt) pos2) (tAsg te g))
    (hgl : Gl X x := by rfl) (hdb : (x == ("__debug__" : Str)) = false := by decide) (he : starEach [e] X.env = (false, eval e X.env) :: starEach [] X.env := by rfl) (hs1 : starEach [.Call (.Name x p) [e] [] pos, .List [] p1, .List [] p2] X.env = (false, eval (.Call (.Name x p) [e] [] pos) X.env) :: starEach [.List [] p1, .List [] p2] X.env := by rfl) (hs2 : starEach [.List [] p1, .List [] p2] X.env = (false, eval (.List [] p1) X.env) :: starEach [.List [] p2] X.env := by rfl) (hs3 : starEach [.List [] p2] X.env = (false, eval (.List [] p2) X.env) :: starEach [] X.env := by rfl) :
    S1 X E W (.Assign [tg] (.Tuple [.Call (.Name x p) [e] [] pos, .List [] p1, .List [] p2] kt pt) pos2) ρ P := by
  obtain ⟨f, fd, g1, g2, g3⟩ := F.ex
  refine ps_imp (h2 (pe_tup (pa_cons (pe_make g2 g1 hr hgl hm g3 .nil hp ha hdb he rfl) (pa_cons (pe_lst pa_nil) (pa_cons (pe_lst pa_nil) pa_nil hs3) hs2) hs1)) hg) fun D σ H ⟨B, w, en, pp⟩ => ?_
  refine ⟨B, w.cov, en, fun vs H1 s1 rs y dx ny nd ne => ?_⟩
  rw [List.append_nil]
  have w1 := w.same s1
  have e1 := en.same s1
  have wy := w1.new ny
  have sdx : Same H1 (upd H1 dx (.own y)) := same_upd nd
  have ny2 : (upd H1 dx (.own y)) y = none := by rw [upd_ne (Ne.symm ne)]; exact ny
  have w3 := (w1.same sdx).own (o := .ins C dx []) ny2 rfl
  have e3 := (e1.same sdx).own (o := .ins C dx []) (s := .mg y (oN C dx []) []) (w1.same sdx).cov ny2 i ⟨rfl, by simp, [], upd_same, oN_tbl, .nil⟩
  refine ⟨_, y, dx, vs, as, .ok ds', rfl, mk_cov w1.cov ny nd ne, by simp, upd_same, rs.mono (mk_sub ny nd), hc, fun H2 hp2 hok => ⟨rfl, ?_⟩⟩
  obtain ⟨w4, e4⟩ := own_step0 (o0 := oN C dx []) w3 e3 (by rw [List.getElem?_set_self hi]) (fun _ => rfl) wy hp2 hok
  rw [List.set_set] at e4
  refine ⟨Nat.zero_le _, fun q1 n1 => ⟨Nat.zero_le _, fun q2 n2 => ⟨by show 3 ≤ sizeLine; decide, fun q3 n3 => ?_⟩⟩⟩
  have sa : Same H2 (upd H2 q1 (.lst [])) := same_upd n1
  have sb : Same (upd H2 q1 (.lst [])) (upd (upd H2 q1 (.lst [])) q2 (.lst [])) := same_upd n2
  have sc : Same (upd (upd H2 q1 (.lst [])) q2 (.lst [])) (upd (upd (upd H2 q1 (.lst [])) q2 (.lst [])) q3 (.tup [.ref y, .ref q1, .ref q2])) := same_upd n3
  refine ⟨q3, _, rfl, SqT.of upd_same, rfl, _, _, rfl, _, _, rfl, _, _, rfl, rfl, ?_⟩
  refine pp.nx _ _ _ _ (q y dx wy) (w4.same ((sa.trans sb).trans sc)) ((((e4.same ((sa.trans sb).trans sc)).setD j ?_)).setD l ?_)
  · refine .lst ?_ .nil
    rw [mask_out (w4.cov.new n1)]
    exact (sb.trans sc) _ _ upd_same
  · refine .lst ?_ .nil
    rw [mask_out ((w4.cov.same sa).new n2)]
    exact sc _ _ upd_same
end
/-! ### worlds of defs that make lambdas -/
def isTb : Option HO → Bool
  | some (.tbl _) => true
  | _ => false
theorem wsm_gen {T : List (Addr × Str)} {W : Wl} (hM : ∀ b o, W.M b = false → W.H0 b = some o → ∀ ps, o ≠ .tbl ps) (hI : ∀ H, Tabs T H → W.Iv H) (hI2 : ∀ H, W.Iv H → Tabs T H) (hT : ∀ b, W.tT b = true → b ∈ tbs T) : WSm T W := by
  refine ⟨fun {B H H1} w e hT1 => ?_, fun w => hI2 _ w.iv⟩
  have isT : ∀ o : HO, (∃ ps, o = .tbl ps) ∨ ∀ ps, o ≠ .tbl ps := fun o => by
    cases o with
    | tbl ps => exact .inl ⟨ps, rfl⟩
    | _ => exact .inr fun _ z => by cases z
  refine ⟨fun a o m h => e _ _ (w.old a o m h) (hM a o m h), w.b0, fun a hb n => ?_, w.fr.trans (mask_sm e), hI _ hT1, fun a h => ?_, fun a ps hb h => ?_⟩
  · cases q : H a with
    | none => exact w.cov a hb (.inl q)
    | some o =>
      rcases isT o with ⟨ps, rfl⟩ | z
      · obtain ⟨p, hp, rfl⟩ := List.mem_map.mp (hT a (w.tb a ps hb q))
        obtain ⟨ps', h, _⟩ := hT1 p hp
        rw [h] at n
        rcases n with n | ⟨_, n⟩ <;> cases n
      · rw [e _ _ q z] at n
        exact w.cov a hb (by rw [q]; exact n)
  · obtain ⟨h1, c, n, h2⟩ := w.di a h
    exact ⟨h1, c, n, e _ _ h2 fun _ z => by cases z⟩
  · cases q : H a with
    | none => exact absurd (Or.inl q) (w.cov a hb)
    | some o =>
      rcases isT o with ⟨ps', rfl⟩ | z
      · exact w.tb a ps' hb q
      · rw [e _ _ q z] at h
        exact absurd (Option.some.inj h) (z ps)
def WM (T : List (Addr × Str)) (H : Hp) (B M0 dc : Addr → Bool) (cv : Cov B H) : Wl :=
  ⟨H, B, fun b => M0 b || isTb (H b), fun _ => none, Tabs T, fun H H' k h p hp => (by
    obtain ⟨ps, h1, h2, h3⟩ := h p hp
    exact ⟨ps, k _ _ h1 rfl, h2, fun pos cv hc => let ⟨c, e, h⟩ := h3 pos cv hc; ⟨c, e, k _ _ h rfl⟩⟩), cv, dc, fun b => decide (b ∈ tbs T)⟩
theorem wsm_WM {T : List (Addr × Str)} {H : Hp} {B M0 dc : Addr → Bool} {cv : Cov B H} : WSm T (WM T H B M0 dc cv) :=
  wsm_gen (fun b o m h ps z => by
    have m : (M0 b || isTb (H b)) = false := m
    have h : H b = some o := h
    rw [h, z, Bool.or_eq_false_iff] at m
    cases m.2) (fun _ h => h) (fun _ h => h) fun b h => of_decide_eq_true h
theorem WM_old {T : List (Addr × Str)} {H H' : Hp} {B B' M0 dc : Addr → Bool} {cv : Cov B H} (w : Wd (WM T H B M0 dc cv) B' H') {b : Addr} {o : HO} (hm : M0 b = false) (h : H b = some o) (n : ∀ ps, o ≠ .tbl ps) : H' b = some o := by
  refine w.old b o ?_ h
  show (M0 b || isTb (H b)) = false
  rw [hm, h]
  cases o <;> first | rfl | exact absurd rfl (n _)
end G

set_option Elab.async false
set_option linter.all false
set_option maxRecDepth 100000
set_option maxHeartbeats 4000000
namespace G
open PySem PySem.Spec PyProof.Rows L2 TL L2H HotX LamX
/-! ### a caught exception that is kept -/
theorem ext_ok {P : Program} {w : World} {H : Hp} {g : Heap} {a C : Addr} {oe : Obj} {vs : Array Value} (e : g.get? a = some oe) (z : Zc (.ref C) none oe) (d : oe.data = .fields vs) : ObjOk P w H g a (ExT C a) :=
  ⟨⟨oe, vs, e, z, d⟩, ⟨oe, e⟩, fun g1 g2 ⟨o2, v2, e2, r⟩ k => ⟨o2, v2, k o2 e2, r⟩⟩
theorem inv_track {X : Cx} {pins : List (Addr × Obj)} {σ : L2.St} {H : Hp} {s : Shared} {a C : Addr} {oe : Obj} {vs : Array Value} (I : Inv X ((a, oe) :: pins) σ H s) (h0 : X.s_0.heap.get? a = none) (hz : Zc (.ref C) none oe) (hd : oe.data = .fields vs) (hp : ∀ p ∈ X.pn ++ pins, p.1 ≠ a) : Inv X pins σ (upd H a (ExT C a)) s := by
  have mine := I.pin (a, oe) (List.mem_append_right _ List.mem_cons_self)
  obtain ⟨m1, m2, m3, m4, m5⟩ := mine
  have ne : ∀ {b : Addr} {o : HO}, H b = some o → b ≠ a := fun h => ne_of_none h m2
  refine ⟨I.ok, I.os, I.bare, ?_, I.loc, I.cell, ?_, fun y c hc => ?_, fun p q => ?_, I.hok.laidN (fun _ _ e => e) m2 (ext_ok m1 hz hd), I.len⟩
  · have u := I.base
    refine ⟨u.keep, u.slot, fun b o e n x => ?_, u.there, fun b xs h => ?_, fun b o v h => ?_, fun b ps h => ?_⟩
    · have nb : b ≠ a := fun z => by
        rw [z, h0] at e
        cases e
      rw [upd_ne nb]
      exact u.free b o e n x
    · have z := u.tups b xs h
      rw [upd_ne (ne z)]
      exact z
    · have z := u.frzs b o v h
      rw [upd_ne (ne z)]
      exact z
    · obtain ⟨more, z⟩ := u.tbls b ps h
      exact ⟨more, by rw [upd_ne (ne z)]; exact z⟩
  · rw [upd_ne (Ne.symm m3)]
    exact I.free
  · have nc : c ≠ a := fun z => by
      obtain ⟨v, hv⟩ := I.cell y c hc
      rw [z] at hv
      obtain ⟨o, ho, hdt⟩ := hv
      rw [m1] at ho
      have ho := Option.some.inj ho
      subst ho
      first
        | exact m5 _ hdt
        | exact m5 _ hdt.1
        | exact m5 _ hdt.2
    rw [upd_ne nc]
    exact I.freeC y c hc
  · have q2 : p ∈ X.pn ++ (a, oe) :: pins := (List.mem_append.mp q).elim (fun z => List.mem_append_left _ z) fun z => List.mem_append_right _ (List.mem_cons_of_mem _ z)
    obtain ⟨k1, k2, k3⟩ := I.pin p q2
    exact ⟨k1, by rw [upd_ne (hp p q)]; exact k2, k3⟩
/-- what is wished of an exception that is to be given back -/
def wKeep (K : PySem.W.Frag) (c : Value) (D : Ends) : WX := fun cls d _ H => ∃ C, cls = .ref C ∧ d = none ∧ PySem.W.exmOne K cls c = some true ∧ ∀ a, H a = none → D.rt (.ref a) (upd H a (ExT C a))
/-- try: body / except x as n: return n -/
theorem ps_try_keep {X : Cx} {body : List Stmt} {x n : Str} {c : Value} {i : Nat} {np q1 q2 q3 q4 : Pos} {tb : WX → TS} (hs : X.stack = X.env :: X.outer) (hf : X.env.frame = some X.env.locals) (hex : X.ex = []) (hN : X.N.Nodup) (hi : X.N[i]? = some n) (hln : X.env.kindOf n = some .local) (hv : Vis X.env.scope n) (hd1 : (n == ("__debug__" : Str)) = false) (hd2 : (n == ("__classdict__" : Str)) = false) (hc : Names X x c)
    (hb : ∀ (W : WX) (pn : List (Addr × Obj)) (xe : Value → Shared → Prop), L2N.Takes (X.tr pn xe) W → PassesOwn (model X.prog X.w) X.A X.env xe → PSs (X.tr pn xe) body (tb W)) :
    PS X (.Try body [.ExceptHandler (some (.Name x np)) (some n) [.Return (some (.Name n q1)) q2] q3] [] [] q4) (fun D σ H => tb (wKeep X.K c D) D σ H) := by
  refine ⟨fun pins s σ H D I h => wpAny_Try_except ?_⟩
  have ok := I.ok
  have frm : X.A.frames = some (X.env :: X.outer) := ok.frames.trans (congrArg some hs)
  let land : Value → Shared → Prop := fun e s₁ => wpAny (model X.prog X.w) X.A (noteFrame e X.env) (fun _ s₂ => wpAny (model X.prog X.w) X.A (setFlight e none) (fun _ s₃ => wpAny (model X.prog X.w) X.A (handleBy e X.env [.ExceptHandler (some (.Name x np)) (some n) [.Return (some (.Name n q1)) q2] q3]) (SP X pins D) X.xe s₃) X.xe s₂) X.xe s₁
  have caught : L2N.Takes (X.tr (X.pn ++ pins) land) (wKeep X.K c D) := fun u s' xx => by
    obtain ⟨a, B, sI, pz, σ', H', cls, d, rfl, J', nb, up, sky, na, os, ag, C, e1, e2, hx, hQ⟩ := xx
    subst e1 e2
    have J : Inv X pins σ' H' sI := J'.ofTry ok
    have sk2 : Sky B (X.env :: X.outer) a (L2N.Zn (.ref C) none) X.env.locals s'.heap := hs ▸ sky
    have bn : B.get? a = none := by
      rcases sky with z | z | z
      · exact z.2.1
      · exact z.2.1
      · exact z.2.1
    show wpAny (model X.prog X.w) X.A (noteFrame (.ref a) X.env) _ _ _
    refine L2N.Sky.land L2N.Zn.steady frm hf sk2 fun g3 fl3 up3 => ?_
    have J3 : Inv X pins σ' H' { s' with heap := g3 } := J.landed nb fl3.1 (up.trans up3) os ag
    obtain ⟨o3, v3, t3, z3, d3⟩ := fl3.there
    have nfr : a ∉ frs (X.env :: X.outer) := fun hm => by
      obtain ⟨_, o', e', no⟩ := fl3.2.2.1.mem hm
      rw [t3] at e'
      cases e'
      exact no _ d3
    have inn : sI.heap.get? a = none := by
      cases z : sI.heap.get? a with
      | none => rfl
      | some o =>
        have y := nb a o z (by rw [show X.stack = _ from hs]; exact nfr)
        rw [bn] at y
        cases y
    have h0 : X.s_0.heap.get? a = none := by
      cases z : X.s_0.heap.get? a with
      | none => rfl
      | some o =>
        obtain ⟨o', y⟩ := J.base.there a o z (by rw [hex]; simp)
        rw [inn] at y
        cases y
    have npn : ∀ p ∈ X.pn ++ pins, p.1 ≠ a := fun p hp e => by
      have y := (J.pin p hp).1
      rw [e, inn] at y
      cases y
    have nL : a ≠ X.env.locals := fun z => nfr (List.mem_filterMap.mpr ⟨X.env, List.mem_cons_self, hf.trans (congrArg some z.symm)⟩)
    have nF : a ∉ X.fs := fun hm => by
      obtain ⟨e, he, q⟩ := List.mem_filterMap.mp hm
      exact nfr (List.mem_filterMap.mpr ⟨e, List.mem_cons_of_mem _ he, q⟩)
    have S3 := J3.suite t3 d3 na nL nF
    refine wpAny_handleBy_cons (codeAny_handlers_test ?_) (fun q => by cases q)
    have look : PySem.W.Looks (model X.prog X.w) g3 (typeOf (.ref a)) (.ref C) := fun A Q E s k q => wpAny_typeOf_ref (k _ _ t3) (by rw [z3.1]; exact q)
    have match_ := PySem.W.exm_one (M := model X.prog X.w) J3.kIn look hx
    have test : ∀ {Q : Value → Shared → Prop} {E : Value → Shared → Prop}, Q c { s' with heap := g3 } → wpAny (model X.prog X.w) (X.A.mark (some (.ref a))) (eval (.Name x np) X.env) Q E { s' with heap := g3 } := fun {Q E} q => by
      obtain ⟨hg, hdb, hm | ⟨hm, hbv, hnn⟩⟩ := hc
      · exact ld_glob (X := X.suite a ((a, o3) :: (X.pn ++ pins))) S3 hg hm q hdb
      · exact ld_blt (X := X.suite a ((a, o3) :: (X.pn ++ pins))) S3 hg hm hbv q hnn hdb
    refine test (match_.here (codeAny_handlers_suite_as ?_))
    refine HandSPX.lands_againZ fl3 fun g4 fl4 up4 => ?_
    have J4 : Inv X pins σ' H' { s' with heap := g4 } := J.landed nb fl4.1 ((up.trans up3).trans up4) os ag
    obtain ⟨o4, v4, t4, z4, d4⟩ := fl4.there
    have S4 := J4.suite t4 d4 na nL nF
    refine store_ok (X := X.suite a ((a, o4) :: (X.pn ++ pins))) (v := .ref a) S4 hN hi (.inl hln) rfl (fun s5 S5 => ?_) (.inr hln)
    have at_i : ∀ σ0 : L2.St, σ0.length = X.N.length → (σ0.set i (some (V.ref a)))[i]? = some (some (V.ref a)) := fun σ0 hl => by
      have := (List.getElem?_eq_some_iff.mp hi).1
      rw [List.getElem?_set_self (by omega)]
    have nm : PE (X.suite a ((a, o4) :: (X.pn ++ pins))) (.Name n q1) (tVar i) := pe_var hi hv hd1 hd2
    refine wpAny_mono ((pss_one (ps_ret (pos := q2) nm)).run [] s5 _ H' { nx := fun _ _ => False, rt := fun v H6 => v = .ref a ∧ H6 = H' } S5 ⟨.ref a, at_i σ' J.len, rfl, rfl⟩) (fun f s6 hsp => ?_) (fun _ _ z => False.elim z)
    cases f with
    | next => obtain ⟨_, _, _, z⟩ := hsp; exact z.elim
    | brk => obtain ⟨_, _, _, z⟩ := hsp; exact z.elim
    | cont => obtain ⟨_, _, _, z⟩ := hsp; exact z.elim
    | ret u =>
      obtain ⟨v6, σ6, H6, S6, r6, e6, e7⟩ := hsp
      subst e6 e7
      have J6 : Inv X ((a, o4) :: pins) σ6 H6 s6 := ⟨ok, S6.os, S6.bare, S6.base, S6.loc, S6.cell, S6.free, S6.freeC, fun p hp => S6.pin p (by
        refine List.mem_append_left _ ?_
        rcases List.mem_append.mp hp with z | z
        · exact List.mem_cons_of_mem _ (List.mem_append_left _ z)
        · rcases List.mem_cons.mp z with z | z
          · rw [z]; exact List.mem_cons_self
          · exact List.mem_cons_of_mem _ (List.mem_append_right _ z)), S6.hok, S6.len⟩
      exact gone_ok J6 hN hi hln fun s7 J7 => ⟨_, _, _, inv_track J7 h0 z4.zc d4 npn, r6, hQ a na⟩
  refine wpAny_mono ((hb (wKeep X.K c D) (X.pn ++ pins) land caught PassesOwn.looking).run [] s σ H D (I.toTry _) h) (fun f s1 hsp => ?_) (fun _ _ z => z)
  cases f with
  | next =>
    obtain ⟨σ', H', J', q⟩ := hsp
    exact wpAny_execs_nil ⟨σ', H', J'.ofTry ok, q⟩
  | brk =>
    obtain ⟨σ', H', J', q⟩ := hsp
    exact ⟨σ', H', J'.ofTry ok, q⟩
  | cont =>
    obtain ⟨σ', H', J', q⟩ := hsp
    exact ⟨σ', H', J'.ofTry ok, q⟩
  | ret u =>
    obtain ⟨v, σ', H', J', r, q⟩ := hsp
    exact ⟨v, σ', H', J'.ofTry ok, r, q⟩
end G

set_option Elab.async false
set_option linter.all false
set_option maxRecDepth 100000
set_option maxHeartbeats 4000000
namespace G
open PySem PySem.Spec PyProof.Rows L2 TL L2H HotX LamX
/-- try: deed() / except DrillError as e: return e / return None -/
structure MetF (K : PySem.W.Frag) (mg : Str → Option Value) (g CS : Addr) : Prop where
  ex : ∃ (pg : Arguments) (bg : List Stmt) (sg : Scope) (dV kV doc pm cdv ct oc : Value) (an od : Option Addr) (osl : Array (Option Value)) (p1 p2 p3 p4 q1 q2 q3 p6 p7 p8 : Pos) (kk : Nat),
    K.lookup g = some ⟨oc, od, .func (PySem.W.fnOf "_law_met" "_law_met" pg bg sg dV kV doc pm an cdv ct), osl⟩ ∧ PySem.W.codeIn K cdv "_law_met" = true ∧ Binds K (PySem.W.fnOf "_law_met" "_law_met" pg bg sg dV kV doc pm an cdv ct) ["deed"] [] ∧ FnScope ["deed", "e"] ["deed"] sg ∧
    bg = [.Try [.Expr (.Call (.Name "deed" p1) [] [] p2) p3] [.ExceptHandler (some (.Name "DrillError" p4)) (some "e") [.Return (some (.Name "e" q1)) q2] q3] [] [] p6, .Return (some (.Constant .none kk p7)) p8] ∧
    sg.names.lookup ("DrillError" : Str) = some .globalImplicit ∧ sg.names.lookup ("e" : Str) = some .local ∧ sg.names.lookup ("deed" : Str) = some .local
  gT : mg "_law_met" = some (.ref g)
  kT : PySem.W.keepIn K (.ref g) = true
  gD : mg "DrillError" = some (.ref CS)
def Emet (K : PySem.W.Frag) (CS : Addr) (Q : VK) : XK := fun cls d H => ∃ C, cls = .ref C ∧ d = none ∧ PySem.W.exmOne K (.ref C) (.ref CS) = some true ∧ ∀ a, H a = none → Q (.ref a) (upd H a (ExT C a))
theorem gh_met {X : Cx} {T : List (Addr × Str)} {g CS c P : Addr} {k : Nat} {params : Arguments} {body : Expr} {scope : Scope} {t : XK → TE} {p lpos pos : Pos} (F : MetF X.K X.mg g CS) (hg : Gl X "_law_met")
    (TB : TabB X.base X.mg c P) (hcode : X.env.code = .ref c) (hmT : (P, X.env.qual ++ "<lambda>") ∈ T) (hu : ∀ p ∈ T, p.1 = P → p.2 = X.env.qual ++ "<lambda>") (hr : Room (k + 2) X.A) (L : LamS X.env.scope scope) (hdef : defaultsOf params X.env = ([], []))
    (hbind : ∀ (q : Str) (cl : List (Str × Addr)) (pm cv ctv : Value), bindArgs (PySem.W.kla_fn "<lambda>" q params body scope cl pm cv ctv) ⟨[], []⟩ = pure [])
    (hbody : ∀ (A : Around) (outer : List Env) (s : Shared) (H : Hp) (E : XK) (f c' : Addr), Room k (A.deeper (lamEnv X scope s.heap.objs.size f c')) → PE (lamN X A outer s H E scope f c') body (t E)) :
    PE X (.Call (.Name "_law_met" p) [.Lambda params body scope lpos] [] pos) (fun σ H Q => Tabs T H ∧ ∀ H1, ExtN H H1 → Tabs T H1 → t (Emet X.K CS Q) σ H1 (fun _ H2 => Q .non H2)) := by
  obtain ⟨pg, bg, sg, dV, kV, doc, pm, cdv, ct, oc, an, od, osl, p1, p2, p3, p4, q1, q2, q3, p6, p7, p8, kk, lk, hcg, hb, Sg, rfl, hsD, hse, hsd⟩ := F.ex
  refine ⟨fun pins s σ H Q I ⟨hT, h⟩ => ?_⟩
  refine wpAny_Call_Name_kw (ld_glob I hg F.gT ?_ (by decide))
  refine PySem.W.callWith_K (h₀ := X.base) I.ok.mod.kin F.kT ?_ (by rfl) (by rfl)
  show wpAny _ _ (spliced ((false, eval (.Lambda params body scope lpos) X.env) :: backTo pos (starEach [] X.env))) _ _ s
  refine Calls.spliced_cons (lam_make2 I TB hcode hmT hu hT hdef (L.has I.ok) fun f c' pm' ctv H1 s' I1 eN T1 hf hfn hfr hco => Calls.spliced_nil ⟨I1.kIn, ?_⟩)
  have run : codeAny (model X.prog X.w) X.A (.call (.ref g) ⟨[.ref f], []⟩) (CR C8.CX0 X.stack X.prog X.w H1 s' Q C8.E0) s' := by
    refine run_ofS (N := ["deed", "e"]) (ps := ["deed"]) (us := [.ref f]) (vs := [.ref f]) lk hcg Sg hr I1.env0 (hb s' [.ref f] I1.kIn rfl) (.cons rfl .nil) rfl fun hr' => ?_
    refine ⟨_, PSs.nox (pss_cons (ps_try_keep (X := (cxOf C8.CX0 X.prog X.w X.K X.mg X.base ["deed", "e"] "_law_met" sg g cdv X.A X.stack s' H1 C8.E0).nox) (c := .ref CS) (i := 1)
      (tb := fun W D σ' H' => ∃ E : XK, (∀ cls d σ2 H2, E cls d H2 → W cls d σ2 H2) ∧ σ'[0]? = some (some (.ref f)) ∧ H' c' = some (CodeO c' (X.env.qual ++ "<lambda>")) ∧ t E σ H' (fun _ H2 => D.nx σ' H2))
      rfl rfl rfl Sg.nd rfl hse (.inl hse) (by decide) (by decide) ⟨hsD, by decide, .inl F.gD⟩ (fun W pn xe tk _ => ?_)) (pss_one (ps_ret pe_non))), ?_⟩
    · refine ⟨fun pins2 s2 σ2 H2 D I2 ⟨E, hW, h1, h2, h3⟩ => ?_⟩
      have hp := gh_act (p1 := p1) (p2 := p2) (pn := pn) (xe := xe) (W := W) (E := E) (tb := t E) I1 L hf hfn hfr (hbind _ _ _ _ _) tk hW hr' (fun A outer s H r2 => hbody A outer s H E f c' r2) rfl (.inl hsd) (by decide) (by decide)
      exact (pss_one (ps_expr (pos := p3) hp rfl)).run pins2 s2 σ2 H2 D I2 ⟨h1, h2, h3⟩
    · refine ⟨Emet X.K CS Q, fun cls d σ2 H2 ⟨C, e1, e2, hx, hQ⟩ => ⟨C, e1, e2, by rw [e1]; exact hx, hQ⟩, rfl, hco, h H1 eN T1⟩
  refine wpAny_call (codeAny_mono run fun r s2 hq => ?_)
  cases r with
  | error e => exact (show False from hq).elim
  | ok fl =>
    cases fl with
    | ret u => exact I1.after hq
    | next => exact False.elim hq
    | brk => exact False.elim hq
    | cont => exact False.elim hq
theorem de_met {X : Cx} {T : List (Addr × Str)} {fr : Hp} {dc : Addr → Bool} {ρ : List Sl} {S : Dat → Prop} {C : Addr} {g CS c P : Addr} {k : Nat} {params : Arguments} {body : Expr} {scope : Scope} {p lpos pos : Pos} (F : MetF X.K X.mg g CS)
    (TB : TabB X.base X.mg c P) (hcode : X.env.code = .ref c) (hmT : (P, X.env.qual ++ "<lambda>") ∈ T) (hu : ∀ p ∈ T, p.1 = P → p.2 = X.env.qual ++ "<lambda>") (hr : Room (k + 2) X.A)
    (hbody : ∀ (A : Around) (outer : List Env) (s : Shared) (H : Hp) (E : XK) (f c' : Addr), Room k (A.deeper (lamEnv X scope s.heap.objs.size f c')) → D (lamN X A outer s H E scope f c') E body ρ (.err (.ref C)))
    (hx : PySem.W.exmOne X.K (.ref C) (.ref CS) = some true) (hS : S (.exc C))
    (L : LamS X.env.scope scope := by exact lamS_by (by decide +kernel)) (hdef : defaultsOf params X.env = ([], []) := by rfl) (hbind : ∀ (q : Str) (cl : List (Str × Addr)) (pm cv ctv : Value), bindArgs (PySem.W.kla_fn "<lambda>" q params body scope cl pm cv ctv) ⟨[], []⟩ = pure [] := by intros; rfl) (hg : Gl X "_law_met" := by rfl) :
    DE X (WT T fr dc) (.Call (.Name "_law_met" p) [.Lambda params body scope lpos] [] pos) ρ S := by
  refine pe_imp (gh_met (t := fun E => tD X.K E ρ (.err (.ref C))) F hg TB hcode hmT hu hr L hdef hbind hbody) fun σ H Q ⟨B, w, en, q⟩ => ⟨w.iv, fun H1 eN T1 => ?_⟩
  have w1 := w.sm eN T1
  have en1 := en.sm eN
  refine ⟨B, w1.cov, en1, fun H' s => ⟨C, rfl, rfl, hx, fun a na => ?_⟩⟩
  have s2 : Same H' (upd H' a (ExT C a)) := same_upd na
  refine q (.ref a) _ B (.exc C) hS (w1.same (s.trans s2)) (en1.same (s.trans s2)) ((mask_sm eN).trans (Sm.of (mask_same (s.trans s2)))) (.exc ?_)
  rw [mask_out ((w1.cov.same s).new na), upd_same]
/-! ### isinstance of a kept exception -/
def rIsX (K : PySem.W.Frag) (C : Addr) : List V → Hp → VK → Prop := fun xs H Q => ∃ (a : Addr) (c : V) (cv : Value) (b : Bool), xs = [.ref a, c] ∧ H a = some (ExT C a) ∧ (∀ u, RelV c u → u = cv) ∧ PySem.W.kitOne K (.ref C) cv = some b ∧ Q (.bl b) H
theorem cr_isX {X : Cx} {C : Addr} (Cx : ExcC X.K C) : CallR X (.builtin "isinstance") (rIsX X.K C) := by
  intro pins s σ H xs us Q I r ⟨a, c, cv, b, ex, ha, hcv, e, q⟩
  subst ex
  obtain ⟨u, t, rfl, ru, rt⟩ := vals2 r
  have ru : u = Value.ref a := ru
  subst ru
  have rt := hcv t rt
  subst rt
  obtain ⟨oe, vs, here, hz, hv⟩ := (I.hok a _ ha).1
  have J : PySem.W.InstAt s.heap a oe C none := by
    obtain ⟨o1, o2, o3, o4⟩ := oe
    obtain ⟨z1, z2⟩ := hz
    dsimp only at z1 z2 hv
    subst z1 z2 hv
    exact ⟨here, rfl, rfl, trivial⟩
  exact PySem.W.kia_one (PySem.W.handS_kitx_exc Cx.hg Cx.hk Cx.hs Cx.hd Cx.ha Cx.hn Cx.ht Cx.hm) I.kIn J e (fun z => nomatch z) fun tk => ⟨.bl b, H, I.kept (t' := tk) fun _ _ z => z, rfl, q⟩
theorem d_isX {X : Cx} {E : XK} {ρ : List Sl} {C : Addr} {e : Expr} {x : Str} {b : Bool} {v : V} {cv : Value} {p p3 pos : Pos} (Cx : ExcC X.K C) (ha : D X E e ρ (.ok (.exc C))) (hx : PE X (.Name x p3) (tC v)) (hu : ∀ u, RelV v u → u = cv) (hk : PySem.W.kitOne X.K (.ref C) cv = some b) (hm : X.mg "isinstance" = none)
    (hg : Gl X "isinstance" := by rfl) (he : starEach [e, .Name x p3] X.env = (false, eval e X.env) :: starEach [.Name x p3] X.env := by rfl) (he2 : starEach [.Name x p3] X.env = (false, eval (.Name x p3) X.env) :: starEach [] X.env := by rfl)
    (hpl : (backTo pos (starEach [.Name x p3] X.env)).any (·.1) = false := by rfl) : D X E (.Call (.Name "isinstance" p) [e, .Name x p3] [] pos) ρ (.ok (.bl b)) :=
  D.of (pe_callB (cr_isX Cx) hg hm (by decide +kernel) (pa_cons ha (pa_cons hx pa_nil he2) he) (by decide) (by decide) he hpl) fun B σ H Q c en q => ⟨B, c, en, fun u H1 s1 ru => by
    cases ru with
    | @exc a _ h => exact ⟨a, v, cv, b, rfl, mask_sub B H1 _ _ h, hu, hk, q _ H1 s1 (.bl b)⟩⟩
/-! ### lists that get what may throw -/
section
variable {X : Cx} {E : XK} {W : Wl} {ρ : List Sl} {P : Out → Prop} {S : Dat → Prop}
/-- x = [e], the list to grow -/
theorem s_newml1 (i : Nat) {x : Str} {e : Expr} {pos pos' pl : Pos} (hN : X.N.Nodup) (h : DE X W e ρ S) (q : ∀ a d, S d → Wr W a → W.B0 a = false → P (.nx (ρ.set i (.ml a [d])))) (hi : X.N[i]? = some x := by rfl) (hx : Loc X.env.scope x := by first | exact Or.inl rfl | exact Or.inr rfl)
    (hs : swapsWith (.List [e] pl) (some (.Name x pos')) pos.line X.env = pure false := by rfl) (hf : X.fn x = true ∨ X.env.scope.names.lookup x = some .local := by first | exact .inl rfl | exact .inr rfl | assumption) (he : starEach [e] X.env = (false, eval e X.env) :: starEach [] X.env := by rfl) : S1 X E W (.Assign [.Name x pos'] (.List [e] pl) pos) ρ P :=
  ps_imp (ps_set hN hi hx (pe_lst (pa_cons h pa_nil he)) hs hf) fun D σ H ⟨B, w, en, p⟩ => ⟨B, w, en, fun v H' B' d hd w' en' m' r => ⟨by show 1 ≤ sizeLine; decide, fun a na => p.nx _ _ _ _ (q a d hd (w'.new na) (by cases z : W.B0 a with | false => rfl | true => exact absurd (Or.inl na) (w'.cov a (w'.b0 a z)))) (w'.own na rfl) (en'.own w'.cov na i ⟨rfl, by simp, [v], upd_same, .cons (r.mono fun b o hb => by
    obtain ⟨h1, h2⟩ := mask_some hb
    have ne : b ≠ a := ne_of_none h2 na
    rw [mask_out (by rw [h1, decide_eq_false ne]; rfl), upd_ne ne]
    exact h2) .nil⟩)⟩⟩
/-- x.append(e) -/
theorem s_appendDE (i : Nat) {x : Str} {e : Expr} {a : Addr} {ds : List Dat} {px apos cpos pos : Pos} (hr : Wr W a) (h : DE X W e ρ S) (hi : ρ[i]? = some (.ml a ds)) (hl : ds.length ≤ 100000) (q : ∀ d, S d → P (.nx (ρ.set i (.ml a (ds ++ [d])))))
    (hx : PE X (.Name x px) (tVar i)) (h2 : PE X (.Name x px) (tVar i) → PE X e (tE X.K W ρ S) → PS X (.Expr (.Call (.Attribute (.Name x px) "append" apos) [e] [] cpos) pos) (tDrop (tBM X.K "list" rAppend (tVar i) (tCons (tE X.K W ρ S) tNil)))) :
    S1 X E W (.Expr (.Call (.Attribute (.Name x px) "append" apos) [e] [] cpos) pos) ρ P := by
  refine ps_imp (h2 hx h) fun D σ H ⟨B, w, en, p⟩ => ?_
  obtain ⟨h1, hb, vs, h3, h4⟩ := en.ml hi
  refine ⟨.ref a, h1, .inl ⟨rfl, vs, SqL.of h3⟩, B, w, en, fun v H' B' d hd w' en' m' r => ?_⟩
  obtain ⟨h1', hb', vs', h3', h4'⟩ := en'.ml hi
  refine ⟨a, vs', v, rfl, rfl, h3', Nat.lt_of_le_of_lt (by rw [h4'.length]; exact hl) (by decide), ?_⟩
  refine p.nx _ σ _ B' (q d hd) (w'.write hr hb' h3' rfl rfl) (en'.write hi rfl h1' hb' ⟨rfl, hb', vs' ++ [v], upd_same, ?_⟩ rfl)
  rw [mask_upd hb']
  exact h4'.append (.cons r .nil)
end
/-! ### _law_alone -/
def C_alone (cs : List Addr) : List Dat → Res → Prop := fun as r => ∃ i : Nat, as = [.exc (cs.getD i 0), .int (i : Nat)] ∧ i < 9 ∧ r = .ok (.bl true)
abbrev N_aln : List Str := ["e", "own", "some", "at"]
theorem sc_alone : FnScope N_aln ["e", "own"] (defScope s__law_alone) := ⟨rfl, rfl, rfl, by decide +kernel, rfl, by decide +kernel, by decide +kernel⟩
def atF (i : Nat) (x : Dat) : Dat := .bl (Dat.eq x (.int (i : Nat)))
theorem flg_eq {i : Nat} (hi : i < 9) : Dat.eq (.lst ((flg i).map Dat.bl)) (.lst ((rangeD 0 9).map (atF i))) = true := by
  have h : i = 0 ∨ i = 1 ∨ i = 2 ∨ i = 3 ∨ i = 4 ∨ i = 5 ∨ i = 6 ∨ i = 7 ∨ i = 8 := by omega
  rcases h with rfl | rfl | rfl | rfl | rfl | rfl | rfl | rfl | rfl <;> rfl
section
variable {P : Program} {w : World} {K : PySem.W.Frag} {mg : Str → Option Value} {base : Heap} {cs : List Addr} {CS : Addr}
theorem c_alone (B : Bi mg) (R : Errs K mg cs CS) (h : At K mg "_law_alone" s__law_alone) : FnC P w K mg base "_law_alone" ["e", "own"] (C_alone cs) 1 := by
  refine h.c1 (fun _ _ _ _ _ _ us hl => match us, hl with | [_, _], _ => rfl) fun fa fd F => fnC_ok F sc_alone (fun as r ⟨i, e, _⟩ => by rw [e]; rfl) fun cdv A outer s H E as r W hM hr ⟨i, e, hi, er⟩ => ?_
  subst e er
  obtain ⟨hx, hve, _⟩ := R.x hi
  have nd := sc_alone.nd
  let Y := cxOf (L2N.CX P w) P w K mg base N_aln "_law_alone" (defScope s__law_alone) fa cdv A outer s H E
  have isC : ∀ {x : Str} {j : Nat} {ρ : List Sl} {p1 p2 p3 pos : Pos}, ρ[0]? = some (.dt (.exc (cs.getD i 0))) → mg x = some (.ref (cs.getD j 0)) → j < 9 → Gl Y x → (x == ("__debug__" : Str)) = false → D Y E (.Call (.Name "isinstance" p1) [.Name "e" p2, .Name x p3] [] pos) ρ (.ok (.bl (decide (i = j)))) := fun {x j ρ p1 p2 p3 pos} h0 hmx hj hgx hdx =>
    d_isX (X := Y) (v := .ref (cs.getD j 0)) (cv := .ref (cs.getD j 0)) hx (dv 0 h0) (pe_glob hgx hmx rfl hdx) (fun u hu => hu) (R.k hi hj) B.isinstance
  show SS Y E W (defBody s__law_alone) [.dt (.exc (cs.getD i 0)), .dt (.int (i : Nat)), .un, .un] _
  refine ss_cons (s_set 2 nd (d_lst (da_cons (isC rfl R.c0 (by decide) rfl (by decide)) (da_cons (isC rfl R.c1 (by decide) rfl (by decide)) (da_one (isC rfl R.c2 (by decide) rfl (by decide))))) (by simp)) ?_)
  refine ss_cons (s_set 2 nd (d_addL (dv 2 rfl) (d_lst (da_cons (isC rfl R.c3 (by decide) rfl (by decide)) (da_cons (isC rfl R.c4 (by decide) rfl (by decide)) (da_one (isC rfl R.c5 (by decide) rfl (by decide))))) (by simp)) (by simp)) ?_)
  refine ss_cons (s_set 2 nd (d_addL (dv 2 rfl) (d_lst (da_cons (isC rfl R.c6 (by decide) rfl (by decide)) (da_cons (isC rfl R.c7 (by decide) rfl (by decide)) (da_one (isC rfl R.c8 (by decide) rfl (by decide))))) (by simp)) (by simp)) ?_)
  have e1 : (Sl.dt (.lst ((flg i).map Dat.bl))) = Sl.dt (.lst (([Dat.bl (decide (i = 0)), .bl (decide (i = 1)), .bl (decide (i = 2))] ++ [Dat.bl (decide (i = 3)), .bl (decide (i = 4)), .bl (decide (i = 5))]) ++ [Dat.bl (decide (i = 6)), .bl (decide (i = 7)), .bl (decide (i = 8))])) := rfl
  refine SS.weak (ρ' := [.dt (.exc (cs.getD i 0)), .dt (.int (i : Nat)), .dt (.lst ((flg i).map Dat.bl)), .un]) ?_ ⟨.inr rfl, .inr rfl, .inr e1.symm, .inr rfl, True.intro⟩
  refine ss_one (s_ret (d := .bl (true && true)) (d_and (x := true) (y := true) (d_isX (X := Y) (v := .ty "ValueError") (cv := .type "ValueError") hx (dv 0 rfl) (pe_bltn rfl R.ve (by decide +kernel) rfl) (fun u hu => hu) hve B.isinstance) fun _ => d_one ((d_eq hr.units (dv 2 rfl) (d_lc0 (own := [("at", 3)]) (is := [3]) (pr := fun _ => True) (bd := bd1 3) (f := atF i) rfl nd (i_range1 B.range d_int ⟨by decide, by decide⟩) (blkOk_by (N := N_aln) (sc := defScope s__law_alone) (by decide +kernel)) (fun _ _ _ _ _ => gt_name nd) (fun x hx _ _ _ _ _ => ?_) (fun _ _ => True.intro) (by simp) (by decide)) rfl rfl).is (by rw [flg_eq hi]))) rfl)
  obtain ⟨k, _, rfl⟩ := List.mem_map.mp hx
  exact d_eq hr.units (dv 3 rfl) (dv 1 rfl) rfl rfl
end
end G

set_option Elab.async false
set_option linter.all false
set_option maxRecDepth 100000
set_option maxHeartbeats 4000000
namespace G
open PySem PySem.Spec PyProof.Rows L2 TL LamX L2H HotX
theorem cov_step {B : Addr → Bool} {H H' : Hp} {y : Addr} (c : Cov B H) (hp : ∀ b o, b ≠ y → H b = some o → H' b = some o) (hy : ¬ Bad (H' y)) : Cov B H' := fun b hb n => by
  by_cases e : b = y
  · rw [e] at n
    exact hy n
  · cases q : H b with
    | none => exact c b hb (.inl q)
    | some o =>
      rw [hp b o e q] at n
      rcases n with n | ⟨xs, n⟩
      · cases n
      · exact c b hb (.inr ⟨xs, by rw [q]; exact n⟩)
/-- C(e).m(), refused -/
theorem d_makeM {X : Cx} {E : XK} {ρ : List Sl} {Ci : List Dat → Except Value (List Dat) → Prop} {k k2 : Nat} {x m : Str} {C : Addr} {ps : List Str} {Cm : List Dat → List Dat → Res → List Dat → Prop} {e : Expr} {as ds ds2 : List Dat} {c : Value} {p pos apos pos2 : Pos} {pl : Sem Bool} (F : FnI X.prog X.w X.K X.mg X.base C Ci k) (hr : Room (k + 1) X.A) (hm : X.mg x = some (.ref C)) (hp : Passes (L2N.CX X.prog X.w) X E) (ha : DA X E [e] ρ (.ok as)) (hc : Ci as (.ok ds)) (F2 : FnM X.prog X.w X.K X.mg X.base C fldN m ps Cm k2) (hr2 : Room k2 X.A) (hC : Cls X.K C) (hmn : m ∉ fldN) (hc2 : Cm ds [] (.err c) ds2)
    (hg : Gl X x := by rfl) (hdb : (x == ("__debug__" : Str)) = false := by decide) (he : starEach [e] X.env = (false, eval e X.env) :: starEach [] X.env := by rfl)
    (ht : eval (.Call (.Attribute (.Call (.Name x p) [e] [] pos) m apos) [] [] pos2) X.env = (do let ov ← eval (.Call (.Name x p) [e] [] pos) X.env; standAt apos.atName; let (f, first) ← holding [ov] (getMethod ov m pl); callWith pos2 f first (backTo pos2 (starEach [] X.env)) (backToKw pos2 (keywordEach [] X.env))) := by rfl) :
    D X E (.Call (.Attribute (.Call (.Name x p) [e] [] pos) m apos) [] [] pos2) ρ (.err c) := by
  obtain ⟨f, fd, h1, h2, h3⟩ := F.ex
  obtain ⟨f2, fd2, g1, g2, g3⟩ := F2.ex
  refine D.ofR (pe_meth0 (pl := pl) (pe_make h2 h1 hr hg hm h3 .nil hp ha hdb he rfl) hC g2 g1 hr2 g3 .nil hp ht) fun B σ H Q cv en q => ⟨B, cv, en, fun vs H1 s1 rs y dx ny nd ne => ?_⟩
  rw [List.append_nil]
  refine ⟨_, y, dx, vs, as, .ok ds, rfl, mk_cov (cv.same s1) ny nd ne, by simp, upd_same, rs.mono (mk_sub ny nd), hc, fun H2 hp2 hok => ⟨rfl, ?_⟩⟩
  obtain ⟨us, hu, hru⟩ := hok
  refine ⟨y, dx, _, rfl, hu, lk_none hmn, ?_⟩
  refine ⟨(fun b => B b || decide (b = y)), y, dx, ds, [], [], .err c, ds2, rfl, cov_step (mk_cov (cv.same s1) ny nd ne) hp2 (by rw [hu]; intro z; rcases z with z | ⟨_, z⟩ <;> cases z), by simp, ⟨us, hu, hru⟩, .nil, hc2, fun H3 hp3 _ => q H3 fun b o h => ?_⟩
  have h' := s1 _ _ h
  have n1 : b ≠ y := ne_of_none h' ny
  have n2 : b ≠ dx := ne_of_none h' nd
  exact hp3 b o n1 (hp2 b o n1 (by rw [upd_ne n1, upd_ne n2]; exact h'))
end G

set_option Elab.async false
set_option linter.all false
set_option maxRecDepth 100000
set_option maxHeartbeats 4000000
namespace G
open PySem PySem.Spec PyProof.Rows L2 TL LamX
abbrev N_law : List Str := ["script", "dice", "more", "one", "made", "at", "e"]
theorem sc_law : FnScope N_law ["script"] (defScope s_law) := ⟨rfl, rfl, rfl, by decide +kernel, rfl, by decide +kernel, by decide +kernel⟩
abbrev qLam : Str := (envOfC "law" (defScope s_law) 0 0 .none).qual ++ "<lambda>"
abbrev abc : Fm := [[97, 98, 99]]
theorem rep_len (c n : Nat) : (repL [c] n).length = n := by
  unfold repL
  induction n with
  | zero => rfl
  | succ n ih => rw [List.replicate_succ, List.flatten_cons, List.length_append, ih]; show 1 + n = n + 1; omega
theorem rep_mem {c n x : Nat} (h : x ∈ repL [c] n) : x = c := by
  unfold repL at h
  obtain ⟨l, h1, h2⟩ := List.mem_flatten.mp h
  rw [(List.mem_replicate.mp h1).2] at h2
  exact List.mem_singleton.mp h2
theorem rep_okT {c n : Nat} (hc : c < 1114112) (hn : n ≤ 1000) : okT (repL [c] n) := ⟨by rw [rep_len]; exact hn, List.all_eq_true.mpr fun x hx => by rw [rep_mem hx, Nat.blt_eq]; exact hc⟩
theorem rep_F {n : Nat} (h1 : 7 ≤ n) : isFm [repL [97] n] = false := by
  rw [Bool.eq_false_iff]
  intro z
  have := (isFm_len z).2.2.2.2.1
  rw [List.flatten_cons, List.flatten_nil, List.append_nil, rep_len] at this
  omega
theorem rep_okV {n : Nat} (hn : n ≤ 1000) : okV (F_ [repL [97] n]) := by
  refine ⟨fun l hl => ?_, fun x hx => ?_⟩
  · have e := List.mem_singleton.mp (show Dat.str l ∈ [Dat.str (repL [97] n)] from hl)
    injection e with e
    rw [e]
    exact rep_okT (by decide) hn
  · rw [List.mem_singleton.mp (show x ∈ [Dat.str (repL [97] n)] from hx)]
    rfl
theorem rep_O {n : Nat} (h : 21 ≤ n) : isOrd (.str (repL [82] n)) = false := by
  rw [Bool.eq_false_iff]
  intro z
  have := (isOrd_str z).1
  rw [rep_len] at this
  omega
theorem per_no : ∀ m, m < 3 → isPer abc (.str (repL [100] (1 + m))) = false := by decide +kernel
theorem shp_no {n : Nat} (h : 21 ≤ n) : isShp (.int (n : Nat)) (.int 1) = false := by
  have e : isShp (.int (n : Nat)) (.int 1) = (okI (.int (n : Nat)) && okI (.int 1) && (decide (2 ≤ ((n : Nat) : Int) * 1) && decide (((n : Nat) : Int) * 1 ≤ 6))) := rfl
  rw [e, decide_eq_false (show ¬ (((n : Nat) : Int) * 1 ≤ 6) by omega), Bool.and_false, Bool.and_false]
theorem sp_len : ∀ (n : Nat) (acc : List Nat), (spF acc (repL [47] n)).length = n + 1
  | 0, acc => rfl
  | n + 1, acc => by
    have e : repL [47] (n + 1) = 47 :: repL [47] n := by
      unfold repL
      rw [List.replicate_succ, List.flatten_cons]
      rfl
    rw [e]
    show (if 47 = 47 then acc :: spF [] (repL [47] n) else spF (acc ++ [47]) (repL [47] n)).length = _
    rw [if_pos rfl, List.length_cons, sp_len n []]
theorem prs_no {IT : Addr} {n : Nat} (h : 6 ≤ n) : prsR IT (.str (repL [47] n)) = .err (.ref IT) := by
  have z : isFm (spF [] (repL [47] n)) = false := by
    rw [Bool.eq_false_iff]
    intro z
    have := (isFm_len z).2.1
    rw [sp_len] at this
    omega
  show (if isFm (spF [] (repL [47] n)) = true then Res.ok (F_ (spF [] (repL [47] n))) else Res.err (Value.ref IT)) = _
  rw [z]
  rfl
theorem dbl_no : ∀ m, m < 9 → aftF abc (repL [68] (1 + m)) = none ∧ isOrd (.str (repL [68] (1 + m))) = true := by decide +kernel
theorem odd_no {IM NS : Addr} : ∀ os ∈ [[82], [76]], oddR IM NS abc os (.err (.ref NS)) := fun os ho => by
  rcases List.mem_cons.mp ho with z | z
  · subst z
    exact .inr ⟨[[99], [98], [97]], by decide, .inl ⟨by decide, rfl⟩⟩
  · rw [List.mem_singleton.mp z]
    exact .inr ⟨[[97], [98], [99]], by decide, .inl ⟨by decide, rfl⟩⟩
def excL (cs : List Addr) : List Dat := (List.range 9).map fun i => .exc (cs.getD i 0)
section
variable {P : Program} {w : World} {K : PySem.W.Frag} {mg : Str → Option Value} {base : Heap}
theorem ok_law {f c0 Pt gT CS : Addr} {cs : List Addr} {oc : Value} {od an : Option Addr} {osl : Array (Option Value)} {kV doc pm ct : Value} (B : Bi mg) (R : Errs K mg cs CS) (MF : MetF K mg gT CS) (TB : TabB base mg c0 Pt) {C : Addr} (DC : DrC K C) (mD : mg "Drill" = some (.ref C)) (GI : FnI P w K mg base C (C_init (cs.getD 0 0)) 3) (GR : FnM P w K mg base C fldN "redo" ["self"] (C_redo (cs.getD 8 0)) 1) (GA : FnC P w K mg base "_law_alone" ["e", "own"] (C_alone cs) 1)
    (G__law_rounds : FnC P w K mg base "_law_rounds" ["script", "most"] C_rounds 2) (G__law_roll : FnD P w K mg base "_law_roll" ["dice", "many"] C_roll 2) (G_shape : FnC P w K mg base "shape" ["formation"] (C_shape (cs.getD 0 0)) 3) (G_can : FnC P w K mg base "can" ["formation", "orders"] (C_can (cs.getD 0 0) (cs.getD 1 0)) 4) (G_to_front : FnC P w K mg base "to_front" ["formation", "one"] (C_front (cs.getD 0 0) (cs.getD 2 0)) 4) (G_first : FnC P w K mg base "first" ["ranks", "files"] (C_first (cs.getD 3 0)) 2) (G_parse_formation : FnC P w K mg base "parse_formation" ["text"] (C_prs (cs.getD 4 0)) 2) (G_done : FnC P w K mg base "done" ["formation", "orders"] (C_done (cs.getD 0 0) (cs.getD 1 0) (cs.getD 5 0)) 5) (G_way : FnC P w K mg base "way" ["formation", "other"] (C_way (cs.getD 0 0) (cs.getD 6 0)) 4) (G_is_odd : FnC P w K mg base "is_odd" ["formation", "orders"] (C_odd (cs.getD 0 0) (cs.getD 1 0) (cs.getD 5 0) (cs.getD 7 0)) 5)
    (l : K.lookup f = some ⟨oc, od, .func (PySem.W.fnOf "law" "law" (defArgs s_law) (defBody s_law) (defScope s_law) .none kV doc pm an (.ref c0) ct), osl⟩) (hcd : PySem.W.codeIn K (.ref c0) "law" = true) : FnOk P w K mg base (L2N.CX P w) 8 f (PySem.W.fnOf "law" "law" (defArgs s_law) (defBody s_law) (defScope s_law) .none kV doc pm an (.ref c0) ct) ["script"] (spL K [(Pt, qLam)]) := by
  refine fnL_okC l hcd sc_law fun A outer s H E ns hr hl => ?_
  have nd := sc_law.nd
  refine ss_cons (s_forDice (T := [(Pt, qLam)]) 1 po_cx nd rfl (d_call G__law_rounds (hr.mono (by decide)) passN (da_cons (dv 0 rfl) (da_one d_int)) ⟨ns, 4, rfl, hl, by decide, by decide, _, rfl, rfl⟩) (fun fr dc a hdc => ?_) (ss_one (s_ret d_bl rfl)))
  obtain ⟨_, _, x0⟩ := R.x (i := 0) (by decide)
  obtain ⟨_, _, x1⟩ := R.x (i := 1) (by decide)
  obtain ⟨_, _, x2⟩ := R.x (i := 2) (by decide)
  obtain ⟨_, _, x3⟩ := R.x (i := 3) (by decide)
  obtain ⟨_, _, x4⟩ := R.x (i := 4) (by decide)
  obtain ⟨_, _, x5⟩ := R.x (i := 5) (by decide)
  obtain ⟨_, _, x6⟩ := R.x (i := 6) (by decide)
  obtain ⟨_, _, x7⟩ := R.x (i := 7) (by decide)
  obtain ⟨_, _, x8⟩ := R.x (i := 8) (by decide)
  have habc : isFm abc = true := by decide
  refine ss_cons (s_asg2DE (i := 2) (j := 3) (S := fun d => ∃ n : Nat, d = .tup [.int (n : Nat), F_ abc] ∧ 21 ≤ n ∧ n ≤ 111) (gt_pair rfl nd (fun h => pg_tup rfl h) (pgs_cons (pg_name (i := 2) nd rfl (.inr rfl)) (pgs_cons (pg_name (i := 3) nd rfl (.inr rfl)) pgs_nil)))
    (de_tup (S1 := fun ds => ∃ n : Nat, ds = [.int (n : Nat), F_ abc] ∧ 21 ≤ n ∧ n ≤ 111) (dea_cons (S1 := fun d => ∃ n : Nat, d = .int (n : Nat) ∧ 21 ≤ n ∧ n ≤ 111) (de_op (S1 := fun d => d = .int 21) (S2 := fun d => ∃ k : Nat, d = .int k ∧ (k : Int) < 90) op_add (fun x y e1 ⟨k, e2, hk⟩ => by
      subst e1 e2
      exact ⟨.int ((21 + k : Nat) : Int), ⟨21 + k, rfl, by omega, by omega⟩, (show ((21 + k : Nat) : Int) = 21 + (k : Int) by omega) ▸ o_add⟩) (de_pure (E := E0) d_int rfl) (de_call (i := 1) G__law_roll (hr.mono (by decide)) rfl dwT (pv 1) (da_one d_int) ⟨90, rfl, by decide, by decide, rfl⟩)) (dea_cons (S1 := fun d => d = F_ abc) (S2 := fun ds => ds = []) (S := fun ds => ds = [F_ abc]) (de_pure (E := E0) (d_tup (da_one (d_str (l := [97, 98, 99]) rfl)) (by simp)) rfl) (dea_nil rfl) (fun d ds e1 e2 => by rw [e1, e2])) (fun d ds ⟨n, e, h1, h2⟩ e2 => ⟨n, by rw [e, e2], h1, h2⟩)) (fun ds ⟨n, e, h1, h2⟩ => ⟨by rw [e]; simp, n, by rw [e], h1, h2⟩)) ?_ fun a b => ps_asg a b)
  rintro d ⟨n, rfl, hn1, hn2⟩
  refine ⟨_, _, rfl, ?_⟩
  obtain ⟨os, hos, ho1⟩ : ∃ os, atI [Dat.str [82], .str [76]] ((n : Int) % 2) = some (.str os) ∧ os ∈ [[82], [76]] := by
    have h : (n : Int) % 2 = ((0 : Nat) : Int) ∨ (n : Int) % 2 = ((1 : Nat) : Int) := by omega
    rcases h with h | h <;> rw [h]
    · exact ⟨[82], atI_nat rfl, by decide⟩
    · exact ⟨[76], atI_nat rfl, by decide⟩
  have ho2 : isOrd (.str os) = true := by
    have z : ∀ os ∈ [[82], [76]], isOrd (.str os) = true := by decide
    exact z os ho1
  refine ss_cons (s_newml1 4 nd (de_met (T := [(Pt, qLam)]) (k := 5) (C := cs.getD 0 0) (S := fun d => d = .exc (cs.getD 0 0)) (L := lamS_by (sc := defScope s_law) (by decide +kernel)) MF TB rfl (List.mem_singleton.mpr rfl) (fun p hp _ => by rw [List.mem_singleton.mp hp]; rfl) hr (fun A outer s H E f c' hr2 => (d_call G_shape (hr2.mono (by decide)) pa_lam (da_one (d_tup (da_one ((d_mulS (l := [97]) (n := ((n : Nat) : Int)) (d_str rfl) (dv 2 rfl) (by omega) (by omega) (by decide)).is (show _ = Dat.str (repL [97] (n)) from rfl))) (by simp))) (.inl ⟨F_ [repL [97] n], rfl, rep_okV (by omega), by rw [isForm_F]; exact rep_F (by omega), rfl⟩))) x0 rfl) ?_)
  rintro la d rfl hla hb0
  refine SS.weak (ρ' := [.un, .di a, .dt (.int (n : Nat)), .dt (F_ abc), .ml la ((excL cs).take 1), .un, .un]) ?_ ⟨.inl rfl, .inr rfl, .inr rfl, .inr rfl, .inr rfl, .inl rfl, .inl rfl, True.intro⟩
  refine ss_cons (s_appendDE 4 (a := la) (ds := (excL cs).take 1) hla (de_met (T := [(Pt, qLam)]) (k := 5) (C := cs.getD 1 0) (S := fun d => d = .exc (cs.getD 1 0)) (L := lamS_by (sc := defScope s_law) (by decide +kernel)) MF TB rfl (List.mem_singleton.mpr rfl) (fun p hp _ => by rw [List.mem_singleton.mp hp]; rfl) hr (fun A outer s H E f c' hr2 => (d_call G_can (hr2.mono (by decide)) pa_lam (da_cons (dv 3 rfl) (da_one ((d_mulS (l := [82]) (n := ((n : Nat) : Int)) (d_str rfl) (dv 2 rfl) (by omega) (by omega) (by decide)).is (show _ = Dat.str (repL [82] (n)) from rfl)))) (.badO _ _ (okV_F habc) (rep_okT (by decide) (by omega)) ((isForm_F abc).trans habc) (rep_O (by omega))))) x1 rfl) rfl (show 1 ≤ 100000 by decide) ?_ (pv 4) fun a b => ps_expr (pe_bm PySem.F.plainAttrs_list PySem.F.slot_list_append PySem.F.type_list_append mt_append a (pa_cons b pa_nil)) rfl)
  rintro d rfl
  refine SS.weak (ρ' := [.un, .di a, .dt (.int (n : Nat)), .dt (F_ abc), .ml la ((excL cs).take 2), .un, .un]) ?_ ⟨.inl rfl, .inr rfl, .inr rfl, .inr rfl, .inr rfl, .inl rfl, .inl rfl, True.intro⟩
  refine ss_cons (s_appendDE 4 (a := la) (ds := (excL cs).take 2) hla (de_met (T := [(Pt, qLam)]) (k := 5) (C := cs.getD 2 0) (S := fun d => d = .exc (cs.getD 2 0)) (L := lamS_by (sc := defScope s_law) (by decide +kernel)) MF TB rfl (List.mem_singleton.mpr rfl) (fun p hp _ => by rw [List.mem_singleton.mp hp]; rfl) hr (fun A outer s H E f c' hr2 => (d_call G_to_front (hr2.mono (by decide)) pa_lam (da_cons (dv 3 rfl) (da_one ((d_mulS (l := [100]) (n := ((1 + n % 3 : Nat) : Int)) (d_str rfl) ((d_add d_int (d_mod (by decide) (dv 2 rfl) d_int)).is (congrArg Dat.int (show _ = ((1 + n % 3 : Nat) : Int) by omega))) (by omega) (by omega) (by decide)).is (show _ = Dat.str (repL [100] (1 + n % 3)) from rfl)))) (.badP abc _ habc (rep_okT (by decide) (by omega)) (per_no (n % 3) (by omega))))) x2 rfl) rfl (show 2 ≤ 100000 by decide) ?_ (pv 4) fun a b => ps_expr (pe_bm PySem.F.plainAttrs_list PySem.F.slot_list_append PySem.F.type_list_append mt_append a (pa_cons b pa_nil)) rfl)
  rintro d rfl
  refine SS.weak (ρ' := [.un, .di a, .dt (.int (n : Nat)), .dt (F_ abc), .ml la ((excL cs).take 3), .un, .un]) ?_ ⟨.inl rfl, .inr rfl, .inr rfl, .inr rfl, .inr rfl, .inl rfl, .inl rfl, True.intro⟩
  refine ss_cons (s_appendDE 4 (a := la) (ds := (excL cs).take 3) hla (de_met (T := [(Pt, qLam)]) (k := 5) (C := cs.getD 3 0) (S := fun d => d = .exc (cs.getD 3 0)) (L := lamS_by (sc := defScope s_law) (by decide +kernel)) MF TB rfl (List.mem_singleton.mpr rfl) (fun p hp _ => by rw [List.mem_singleton.mp hp]; rfl) hr (fun A outer s H E f c' hr2 => (d_call G_first (hr2.mono (by decide)) pa_lam (da_cons (dv 2 rfl) (da_one d_int)) (.inl ⟨_, _, rfl, ⟨rfl, rfl⟩, shp_no (by omega), rfl⟩))) x3 rfl) rfl (show 3 ≤ 100000 by decide) ?_ (pv 4) fun a b => ps_expr (pe_bm PySem.F.plainAttrs_list PySem.F.slot_list_append PySem.F.type_list_append mt_append a (pa_cons b pa_nil)) rfl)
  rintro d rfl
  refine SS.weak (ρ' := [.un, .di a, .dt (.int (n : Nat)), .dt (F_ abc), .ml la ((excL cs).take 4), .un, .un]) ?_ ⟨.inl rfl, .inr rfl, .inr rfl, .inr rfl, .inr rfl, .inl rfl, .inl rfl, True.intro⟩
  refine ss_cons (s_appendDE 4 (a := la) (ds := (excL cs).take 4) hla (de_met (T := [(Pt, qLam)]) (k := 5) (C := cs.getD 4 0) (S := fun d => d = .exc (cs.getD 4 0)) (L := lamS_by (sc := defScope s_law) (by decide +kernel)) MF TB rfl (List.mem_singleton.mpr rfl) (fun p hp _ => by rw [List.mem_singleton.mp hp]; rfl) hr (fun A outer s H E f c' hr2 => (d_call G_parse_formation (hr2.mono (by decide)) pa_lam (da_one ((d_mulS (l := [47]) (n := ((n : Nat) : Int)) (d_str rfl) (dv 2 rfl) (by omega) (by omega) (by decide)).is (show _ = Dat.str (repL [47] (n)) from rfl))) ⟨_, rfl, rep_okT (by decide) (by omega), (prs_no (by omega)).symm⟩)) x4 rfl) rfl (show 4 ≤ 100000 by decide) ?_ (pv 4) fun a b => ps_expr (pe_bm PySem.F.plainAttrs_list PySem.F.slot_list_append PySem.F.type_list_append mt_append a (pa_cons b pa_nil)) rfl)
  rintro d rfl
  refine SS.weak (ρ' := [.un, .di a, .dt (.int (n : Nat)), .dt (F_ abc), .ml la ((excL cs).take 5), .un, .un]) ?_ ⟨.inl rfl, .inr rfl, .inr rfl, .inr rfl, .inr rfl, .inl rfl, .inl rfl, True.intro⟩
  refine ss_cons (s_appendDE 4 (a := la) (ds := (excL cs).take 5) hla (de_met (T := [(Pt, qLam)]) (k := 5) (C := cs.getD 5 0) (S := fun d => d = .exc (cs.getD 5 0)) (L := lamS_by (sc := defScope s_law) (by decide +kernel)) MF TB rfl (List.mem_singleton.mpr rfl) (fun p hp _ => by rw [List.mem_singleton.mp hp]; rfl) hr (fun A outer s H E f c' hr2 => (d_call G_done (hr2.mono (by decide)) pa_lam (da_cons (dv 3 rfl) (da_one ((d_mulS (l := [68]) (n := ((1 + n % 9 : Nat) : Int)) (d_str rfl) ((d_add d_int (d_mod (by decide) (dv 2 rfl) d_int)).is (congrArg Dat.int (show _ = ((1 + n % 9 : Nat) : Int) by omega))) (by omega) (by omega) (by decide)).is (show _ = Dat.str (repL [68] (1 + n % 9)) from rfl)))) (.ok abc _ _ habc (dbl_no (n % 9) (by omega)).2 (by unfold perfR; rw [(dbl_no (n % 9) (by omega)).1])))) x5 rfl) rfl (show 5 ≤ 100000 by decide) ?_ (pv 4) fun a b => ps_expr (pe_bm PySem.F.plainAttrs_list PySem.F.slot_list_append PySem.F.type_list_append mt_append a (pa_cons b pa_nil)) rfl)
  rintro d rfl
  refine SS.weak (ρ' := [.un, .di a, .dt (.int (n : Nat)), .dt (F_ abc), .ml la ((excL cs).take 6), .un, .un]) ?_ ⟨.inl rfl, .inr rfl, .inr rfl, .inr rfl, .inr rfl, .inl rfl, .inl rfl, True.intro⟩
  refine ss_cons (s_appendDE 4 (a := la) (ds := (excL cs).take 6) hla (de_met (T := [(Pt, qLam)]) (k := 5) (C := cs.getD 6 0) (S := fun d => d = .exc (cs.getD 6 0)) (L := lamS_by (sc := defScope s_law) (by decide +kernel)) MF TB rfl (List.mem_singleton.mpr rfl) (fun p hp _ => by rw [List.mem_singleton.mp hp]; rfl) hr (fun A outer s H E f c' hr2 => (d_call G_way (hr2.mono (by decide)) pa_lam (da_cons (dv 3 rfl) (da_one (d_tup (da_one (d_str (l := [97, 98]) rfl)) (by simp)))) (.ok abc [[97, 98]] _ habc (by decide) (by unfold unlR; rw [if_neg (by decide)])))) x6 rfl) rfl (show 6 ≤ 100000 by decide) ?_ (pv 4) fun a b => ps_expr (pe_bm PySem.F.plainAttrs_list PySem.F.slot_list_append PySem.F.type_list_append mt_append a (pa_cons b pa_nil)) rfl)
  rintro d rfl
  refine SS.weak (ρ' := [.un, .di a, .dt (.int (n : Nat)), .dt (F_ abc), .ml la ((excL cs).take 7), .un, .un]) ?_ ⟨.inl rfl, .inr rfl, .inr rfl, .inr rfl, .inr rfl, .inl rfl, .inl rfl, True.intro⟩
  refine ss_cons (s_appendDE 4 (a := la) (ds := (excL cs).take 7) hla (de_met (T := [(Pt, qLam)]) (k := 5) (C := cs.getD 7 0) (S := fun d => d = .exc (cs.getD 7 0)) (L := lamS_by (sc := defScope s_law) (by decide +kernel)) MF TB rfl (List.mem_singleton.mpr rfl) (fun p hp _ => by rw [List.mem_singleton.mp hp]; rfl) hr (fun A outer s H E f c' hr2 => (d_call G_is_odd (hr2.mono (by decide)) pa_lam (da_cons (dv 3 rfl) (da_one (d_ixL (xs := [.str [82], .str [76]]) (d_lst (da_cons (d_str (l := [82]) rfl) (da_one (d_str (l := [76]) rfl))) (by simp)) (d_mod (by decide) (dv 2 rfl) d_int) hos))) (.ok abc os _ habc ho2 (odd_no os ho1)))) x7 rfl) rfl (show 7 ≤ 100000 by decide) ?_ (pv 4) fun a b => ps_expr (pe_bm PySem.F.plainAttrs_list PySem.F.slot_list_append PySem.F.type_list_append mt_append a (pa_cons b pa_nil)) rfl)
  rintro d rfl
  refine SS.weak (ρ' := [.un, .di a, .dt (.int (n : Nat)), .dt (F_ abc), .ml la ((excL cs).take 8), .un, .un]) ?_ ⟨.inl rfl, .inr rfl, .inr rfl, .inr rfl, .inr rfl, .inl rfl, .inl rfl, True.intro⟩
  refine ss_cons (s_appendDE 4 (a := la) (ds := (excL cs).take 8) hla (de_met (T := [(Pt, qLam)]) (k := 5) (C := cs.getD 8 0) (S := fun d => d = .exc (cs.getD 8 0)) (L := lamS_by (sc := defScope s_law) (by decide +kernel)) MF TB rfl (List.mem_singleton.mpr rfl) (fun p hp _ => by rw [List.mem_singleton.mp hp]; rfl) hr (fun A outer s H E f c' hr2 => (d_makeM GI (hr2.mono (by decide)) mD pa_lam (da_one (dv 3 rfl)) (.inr ⟨abc, rfl, habc, rfl⟩) GR (hr2.mono (by decide)) DC.cl (by decide +kernel) (.no abc []))) x8 rfl) rfl (show 8 ≤ 100000 by decide) ?_ (pv 4) fun a b => ps_expr (pe_bm PySem.F.plainAttrs_list PySem.F.slot_list_append PySem.F.type_list_append mt_append a (pa_cons b pa_nil)) rfl)
  rintro d rfl
  refine SS.weak (ρ' := [.un, .di a, .dt (.int (n : Nat)), .dt (F_ abc), .ml la ((excL cs).take 9), .un, .un]) ?_ ⟨.inl rfl, .inr rfl, .inr rfl, .inr rfl, .inr rfl, .inl rfl, .inl rfl, True.intro⟩
  refine SS.freeze (i := 4) (a := la) (ds := excL cs) rfl hb0 hla.2 ?_
  refine ss_one (s_if (b := false) (T.is (t_not (t_val (d_all (bs := List.replicate 9 true) B.all ((d_lc0 (own := [("at", 5), ("e", 6)]) (is := [5, 6]) (pr := prPair) (bd := bd2 5 6) (f := fun _ => .bl true) rfl nd (i_enumL (xs := excL cs) B.enumerate (dv 4 rfl)) (blkOk_by (N := N_law) (sc := defScope s_law) (by decide +kernel)) (fun _ _ _ _ _ => gt_pair rfl nd (fun h => pg_tup rfl h) (pgs_cons (pg_name (i := 5) nd rfl (.inl rfl)) (pgs_cons (pg_name (i := 6) nd rfl (.inl rfl)) pgs_nil))) (fun x hx _ _ _ _ _ => ?_) (fun x hx => enumD_pair x hx) (by simp) (by rw [enumD_len]; show 9 ≤ 100000; decide)).is ?_)))) rfl) (fun h => by cases h) (fun _ => ss_nil ?_))
  · obtain ⟨j, hj⟩ := List.mem_iff_getElem?.mp hx
    have hlt : j < (excL cs).length := by
      have z := (List.getElem?_eq_some_iff.mp hj).1
      rw [enumD_len] at z
      exact z
    have hj9 : j < 9 := hlt
    have ex : (excL cs)[j]? = some (Dat.exc (cs.getD j 0)) := by
      unfold excL
      rw [List.getElem?_map, List.getElem?_range hj9]
      rfl
    rw [enumD_get ex] at hj
    have hj := Option.some.inj hj
    subst hj
    exact d_call GA (hr.mono (by decide)) passN (da_cons (dv 6 rfl) (da_one (dv 5 rfl))) ⟨j, rfl, hj9, rfl⟩
  · rfl
  · rfl
end
end G

set_option Elab.async false
set_option linter.all false
set_option maxRecDepth 100000
namespace G
open PySem PySem.Spec PyProof.Rows L2 TL LamX
theorem sc_met : FnScope ["deed", "e"] ["deed"] (defScope s__law_met) := ⟨rfl, rfl, rfl, by decide +kernel, rfl, by decide +kernel, by decide +kernel⟩
theorem met_mk {K : PySem.W.Frag} {mg : Str → Option Value} {g CS : Addr} {oc : Value} {od an : Option Addr} {osl : Array (Option Value)} {kV doc pm cdv ct : Value} (l : K.lookup g = some ⟨oc, od, .func (PySem.W.fnOf "_law_met" "_law_met" (defArgs s__law_met) (defBody s__law_met) (defScope s__law_met) .none kV doc pm an cdv ct), osl⟩) (c : PySem.W.codeIn K cdv "_law_met" = true)
    (kT : PySem.W.keepIn K (.ref g) = true) (gT : mg "_law_met" = some (.ref g)) (gD : mg "DrillError" = some (.ref CS)) : MetF K mg g CS :=
  ⟨⟨_, _, _, _, _, _, _, _, _, _, _, _, _, _, _, _, _, _, _, _, _, _, _, _, l, c, (fun_mk (st := s__law_met) l c kT).binds (fun _ _ _ _ _ _ us hl => match us, hl with | [_], _ => rfl), sc_met, rfl, rfl, rfl, rfl⟩, gT, kT, gD⟩
theorem end_lawT1 {K : PySem.W.Frag} {H : Hp} {a Pt : Addr} {q : Str} {ns : List Int} (hl : ns.length ≤ 63) (hT : H Pt = some (.tbl #[])) (hS : SqL K H a (ns.map V.int)) : spL K [(Pt, q)] [.ref a] H (fun v _ => v = .bl true) fun _ _ _ => False := by
  have out : ∀ (o : HO), H a = some o → (∀ ps, o ≠ .tbl ps) → mask (fun b => decide (b = Pt)) H a = some o := fun o h n => by
    rw [mask_out]
    · exact h
    · refine decide_eq_false fun z => ?_
      rw [z, hT] at h
      exact n _ (Option.some.inj h).symm
  refine ⟨fun b => decide (b = Pt), ns, fun b hb n => ?_, .cons (.scr ?_) .nil, by omega, fun p hp => ?_, fun b hb => ?_, fun b ps hb _ => ?_, fun _ => rfl⟩
  · rw [of_decide_eq_true hb, hT] at n
    rcases n with n | ⟨_, n⟩ <;> cases n
  · rcases hS with (h | ⟨o, h⟩) | h
    · exact .inl (.inl (out _ h fun _ z => by cases z))
    · exact .inl (.inr ⟨o, out _ h fun _ z => by cases z⟩)
    · exact .inr h
  · rw [List.mem_singleton.mp hp]
    exact TabS.nil hT
  · exact decide_eq_true (List.mem_singleton.mp hb)
  · exact List.mem_singleton.mpr (of_decide_eq_true hb)
set_option maxHeartbeats 4000000 in
theorem all_mk {l : PySem.W.OpenLaw} {w : World} {K : PySem.W.Frag} {h : Heap} {mg : Str → Option Value} {fa : Addr} (X : K.In h) (G : h.Ns mainGlobals mg) (hfa : mg "law" = some (.ref fa))
    {f0 : Addr} {od0 an0 : Option Addr} {sl0 : Array (Option Value)} {oc0 kV0 dc0 pm0 cd0 ct0 : Value}
    {f1 : Addr} {od1 an1 : Option Addr} {sl1 : Array (Option Value)} {oc1 kV1 dc1 pm1 cd1 ct1 : Value}
    {f2 : Addr} {od2 an2 : Option Addr} {sl2 : Array (Option Value)} {oc2 kV2 dc2 pm2 cd2 ct2 : Value}
    {f3 : Addr} {od3 an3 : Option Addr} {sl3 : Array (Option Value)} {oc3 kV3 dc3 pm3 cd3 ct3 : Value}
    {f4 : Addr} {od4 an4 : Option Addr} {sl4 : Array (Option Value)} {oc4 kV4 dc4 pm4 cd4 ct4 : Value}
    {f5 : Addr} {od5 an5 : Option Addr} {sl5 : Array (Option Value)} {oc5 kV5 dc5 pm5 cd5 ct5 : Value}
    {f6 : Addr} {od6 an6 : Option Addr} {sl6 : Array (Option Value)} {oc6 kV6 dc6 pm6 cd6 ct6 : Value}
    {f7 : Addr} {od7 an7 : Option Addr} {sl7 : Array (Option Value)} {oc7 kV7 dc7 pm7 cd7 ct7 : Value}
    {f8 : Addr} {od8 an8 : Option Addr} {sl8 : Array (Option Value)} {oc8 kV8 dc8 pm8 cd8 ct8 : Value}
    {f9 : Addr} {od9 an9 : Option Addr} {sl9 : Array (Option Value)} {oc9 kV9 dc9 pm9 cd9 ct9 : Value}
    {f10 : Addr} {od10 an10 : Option Addr} {sl10 : Array (Option Value)} {oc10 kV10 dc10 pm10 cd10 ct10 : Value}
    {f11 : Addr} {od11 an11 : Option Addr} {sl11 : Array (Option Value)} {oc11 kV11 dc11 pm11 cd11 ct11 : Value}
    {f12 : Addr} {od12 an12 : Option Addr} {sl12 : Array (Option Value)} {oc12 kV12 dc12 pm12 cd12 ct12 : Value}
    {f13 : Addr} {od13 an13 : Option Addr} {sl13 : Array (Option Value)} {oc13 kV13 dc13 pm13 cd13 ct13 : Value}
    {f14 : Addr} {od14 an14 : Option Addr} {sl14 : Array (Option Value)} {oc14 kV14 dc14 pm14 cd14 ct14 : Value}
    {f15 : Addr} {od15 an15 : Option Addr} {sl15 : Array (Option Value)} {oc15 kV15 dc15 pm15 cd15 ct15 : Value}
    {f16 : Addr} {od16 an16 : Option Addr} {sl16 : Array (Option Value)} {oc16 kV16 dc16 pm16 cd16 ct16 : Value}
    {f17 : Addr} {od17 an17 : Option Addr} {sl17 : Array (Option Value)} {oc17 kV17 dc17 pm17 cd17 ct17 : Value}
    {f18 : Addr} {od18 an18 : Option Addr} {sl18 : Array (Option Value)} {oc18 kV18 dc18 pm18 cd18 ct18 : Value}
    {f19 : Addr} {od19 an19 : Option Addr} {sl19 : Array (Option Value)} {oc19 kV19 dc19 pm19 cd19 ct19 : Value}
    {f20 : Addr} {od20 an20 : Option Addr} {sl20 : Array (Option Value)} {oc20 kV20 dc20 pm20 cd20 ct20 : Value}
    {f21 : Addr} {od21 an21 : Option Addr} {sl21 : Array (Option Value)} {oc21 kV21 dc21 pm21 cd21 ct21 : Value}
    {f22 : Addr} {od22 an22 : Option Addr} {sl22 : Array (Option Value)} {oc22 kV22 dc22 pm22 cd22 ct22 : Value}
    {f23 : Addr} {od23 an23 : Option Addr} {sl23 : Array (Option Value)} {oc23 kV23 dc23 pm23 cd23 ct23 : Value}
    {f24 : Addr} {od24 an24 : Option Addr} {sl24 : Array (Option Value)} {oc24 kV24 dc24 pm24 cd24 ct24 : Value}
    {f25 : Addr} {od25 an25 : Option Addr} {sl25 : Array (Option Value)} {oc25 kV25 dc25 pm25 cd25 ct25 : Value}
    {f26 : Addr} {od26 an26 : Option Addr} {sl26 : Array (Option Value)} {oc26 kV26 dc26 pm26 cd26 ct26 : Value}
    {f27 : Addr} {od27 an27 : Option Addr} {sl27 : Array (Option Value)} {oc27 kV27 dc27 pm27 cd27 ct27 : Value}
    {f28 : Addr} {od28 an28 : Option Addr} {sl28 : Array (Option Value)} {oc28 kV28 dc28 pm28 cd28 ct28 : Value}
    {f29 : Addr} {od29 an29 : Option Addr} {sl29 : Array (Option Value)} {oc29 kV29 dc29 pm29 cd29 ct29 : Value}
    {f30 : Addr} {od30 an30 : Option Addr} {sl30 : Array (Option Value)} {oc30 kV30 dc30 pm30 cd30 ct30 : Value}
    {f31 : Addr} {od31 an31 : Option Addr} {sl31 : Array (Option Value)} {oc31 kV31 dc31 pm31 cd31 ct31 : Value}
    {f32 : Addr} {od32 an32 : Option Addr} {sl32 : Array (Option Value)} {oc32 kV32 dc32 pm32 ct32 : Value}
    {x0 : Addr}
    {x1 : Addr}
    {x2 : Addr}
    {x3 : Addr}
    {x4 : Addr}
    {x5 : Addr}
    {x6 : Addr}
    {x7 : Addr}
    {x8 : Addr}
    {CS cL Pt CC : Addr}
    {tLETTERS : Tok}
    {tSIGNS : Tok}
    {mf0 : Addr} {mod0 man0 : Option Addr} {msl0 : Array (Option Value)} {moc0 mkV0 mdc0 mpm0 mcd0 mct0 : Value}
    {mf4 : Addr} {mod4 man4 : Option Addr} {msl4 : Array (Option Value)} {moc4 mkV4 mdc4 mpm4 mcd4 mct4 : Value}
    (a0 : PySem.W.nsIn K mainGlobals "is_formation" = some (some (.ref f0))) (l0 : K.lookup f0 = some ⟨oc0, od0, .func (PySem.W.fnOf "is_formation" "is_formation" (defArgs s_is_formation) (defBody s_is_formation) (defScope s_is_formation) .none kV0 dc0 pm0 an0 (cd0) ct0), sl0⟩) (c0 : PySem.W.codeIn K (cd0) "is_formation" = true) (k0 : PySem.W.keepIn K (.ref f0) = true)
    (a1 : PySem.W.nsIn K mainGlobals "are_orders" = some (some (.ref f1))) (l1 : K.lookup f1 = some ⟨oc1, od1, .func (PySem.W.fnOf "are_orders" "are_orders" (defArgs s_are_orders) (defBody s_are_orders) (defScope s_are_orders) .none kV1 dc1 pm1 an1 (cd1) ct1), sl1⟩) (c1 : PySem.W.codeIn K (cd1) "are_orders" = true) (k1 : PySem.W.keepIn K (.ref f1) = true)
    (a2 : PySem.W.nsIn K mainGlobals "need_formation" = some (some (.ref f2))) (l2 : K.lookup f2 = some ⟨oc2, od2, .func (PySem.W.fnOf "need_formation" "need_formation" (defArgs s_need_formation) (defBody s_need_formation) (defScope s_need_formation) .none kV2 dc2 pm2 an2 (cd2) ct2), sl2⟩) (c2 : PySem.W.codeIn K (cd2) "need_formation" = true) (k2 : PySem.W.keepIn K (.ref f2) = true)
    (a3 : PySem.W.nsIn K mainGlobals "need_orders" = some (some (.ref f3))) (l3 : K.lookup f3 = some ⟨oc3, od3, .func (PySem.W.fnOf "need_orders" "need_orders" (defArgs s_need_orders) (defBody s_need_orders) (defScope s_need_orders) .none kV3 dc3 pm3 an3 (cd3) ct3), sl3⟩) (c3 : PySem.W.codeIn K (cd3) "need_orders" = true) (k3 : PySem.W.keepIn K (.ref f3) = true)
    (a4 : PySem.W.nsIn K mainGlobals "need_both" = some (some (.ref f4))) (l4 : K.lookup f4 = some ⟨oc4, od4, .func (PySem.W.fnOf "need_both" "need_both" (defArgs s_need_both) (defBody s_need_both) (defScope s_need_both) .none kV4 dc4 pm4 an4 (cd4) ct4), sl4⟩) (c4 : PySem.W.codeIn K (cd4) "need_both" = true) (k4 : PySem.W.keepIn K (.ref f4) = true)
    (a5 : PySem.W.nsIn K mainGlobals "need_person" = some (some (.ref f5))) (l5 : K.lookup f5 = some ⟨oc5, od5, .func (PySem.W.fnOf "need_person" "need_person" (defArgs s_need_person) (defBody s_need_person) (defScope s_need_person) .none kV5 dc5 pm5 an5 (cd5) ct5), sl5⟩) (c5 : PySem.W.codeIn K (cd5) "need_person" = true) (k5 : PySem.W.keepIn K (.ref f5) = true)
    (a6 : PySem.W.nsIn K mainGlobals "need_shape" = some (some (.ref f6))) (l6 : K.lookup f6 = some ⟨oc6, od6, .func (PySem.W.fnOf "need_shape" "need_shape" (defArgs s_need_shape) (defBody s_need_shape) (defScope s_need_shape) .none kV6 dc6 pm6 an6 (cd6) ct6), sl6⟩) (c6 : PySem.W.codeIn K (cd6) "need_shape" = true) (k6 : PySem.W.keepIn K (.ref f6) = true)
    (a7 : PySem.W.nsIn K mainGlobals "in_sequence" = some (some (.ref f7))) (l7 : K.lookup f7 = some ⟨oc7, od7, .func (PySem.W.fnOf "in_sequence" "in_sequence" (defArgs s_in_sequence) (defBody s_in_sequence) (defScope s_in_sequence) .none kV7 dc7 pm7 an7 (cd7) ct7), sl7⟩) (c7 : PySem.W.codeIn K (cd7) "in_sequence" = true) (k7 : PySem.W.keepIn K (.ref f7) = true)
    (a8 : PySem.W.nsIn K mainGlobals "first" = some (some (.ref f8))) (l8 : K.lookup f8 = some ⟨oc8, od8, .func (PySem.W.fnOf "first" "first" (defArgs s_first) (defBody s_first) (defScope s_first) .none kV8 dc8 pm8 an8 (cd8) ct8), sl8⟩) (c8 : PySem.W.codeIn K (cd8) "first" = true) (k8 : PySem.W.keepIn K (.ref f8) = true)
    (a9 : PySem.W.nsIn K mainGlobals "shape_of" = some (some (.ref f9))) (l9 : K.lookup f9 = some ⟨oc9, od9, .func (PySem.W.fnOf "shape_of" "shape_of" (defArgs s_shape_of) (defBody s_shape_of) (defScope s_shape_of) .none kV9 dc9 pm9 an9 (cd9) ct9), sl9⟩) (c9 : PySem.W.codeIn K (cd9) "shape_of" = true) (k9 : PySem.W.keepIn K (.ref f9) = true)
    (a10 : PySem.W.nsIn K mainGlobals "shape" = some (some (.ref f10))) (l10 : K.lookup f10 = some ⟨oc10, od10, .func (PySem.W.fnOf "shape" "shape" (defArgs s_shape) (defBody s_shape) (defScope s_shape) .none kV10 dc10 pm10 an10 (cd10) ct10), sl10⟩) (c10 : PySem.W.codeIn K (cd10) "shape" = true) (k10 : PySem.W.keepIn K (.ref f10) = true)
    (a11 : PySem.W.nsIn K mainGlobals "need_alike" = some (some (.ref f11))) (l11 : K.lookup f11 = some ⟨oc11, od11, .func (PySem.W.fnOf "need_alike" "need_alike" (defArgs s_need_alike) (defBody s_need_alike) (defScope s_need_alike) .none kV11 dc11 pm11 an11 (cd11) ct11), sl11⟩) (c11 : PySem.W.codeIn K (cd11) "need_alike" = true) (k11 : PySem.W.keepIn K (.ref f11) = true)
    (a12 : PySem.W.nsIn K mainGlobals "file_of" = some (some (.ref f12))) (l12 : K.lookup f12 = some ⟨oc12, od12, .func (PySem.W.fnOf "file_of" "file_of" (defArgs s_file_of) (defBody s_file_of) (defScope s_file_of) .none kV12 dc12 pm12 an12 (cd12) ct12), sl12⟩) (c12 : PySem.W.codeIn K (cd12) "file_of" = true) (k12 : PySem.W.keepIn K (.ref f12) = true)
    (a13 : PySem.W.nsIn K mainGlobals "doubled" = some (some (.ref f13))) (l13 : K.lookup f13 = some ⟨oc13, od13, .func (PySem.W.fnOf "doubled" "doubled" (defArgs s_doubled) (defBody s_doubled) (defScope s_doubled) .none kV13 dc13 pm13 an13 (cd13) ct13), sl13⟩) (c13 : PySem.W.codeIn K (cd13) "doubled" = true) (k13 : PySem.W.keepIn K (.ref f13) = true)
    (a14 : PySem.W.nsIn K mainGlobals "singled" = some (some (.ref f14))) (l14 : K.lookup f14 = some ⟨oc14, od14, .func (PySem.W.fnOf "singled" "singled" (defArgs s_singled) (defBody s_singled) (defScope s_singled) .none kV14 dc14 pm14 an14 (cd14) ct14), sl14⟩) (c14 : PySem.W.codeIn K (cd14) "singled" = true) (k14 : PySem.W.keepIn K (.ref f14) = true)
    (a15 : PySem.W.nsIn K mainGlobals "moved" = some (some (.ref f15))) (l15 : K.lookup f15 = some ⟨oc15, od15, .func (PySem.W.fnOf "moved" "moved" (defArgs s_moved) (defBody s_moved) (defScope s_moved) .none kV15 dc15 pm15 an15 (cd15) ct15), sl15⟩) (c15 : PySem.W.codeIn K (cd15) "moved" = true) (k15 : PySem.W.keepIn K (.ref f15) = true)
    (a16 : PySem.W.nsIn K mainGlobals "after" = some (some (.ref f16))) (l16 : K.lookup f16 = some ⟨oc16, od16, .func (PySem.W.fnOf "after" "after" (defArgs s_after) (defBody s_after) (defScope s_after) .none kV16 dc16 pm16 an16 (cd16) ct16), sl16⟩) (c16 : PySem.W.codeIn K (cd16) "after" = true) (k16 : PySem.W.keepIn K (.ref f16) = true)
    (a17 : PySem.W.nsIn K mainGlobals "can" = some (some (.ref f17))) (l17 : K.lookup f17 = some ⟨oc17, od17, .func (PySem.W.fnOf "can" "can" (defArgs s_can) (defBody s_can) (defScope s_can) .none kV17 dc17 pm17 an17 (cd17) ct17), sl17⟩) (c17 : PySem.W.codeIn K (cd17) "can" = true) (k17 : PySem.W.keepIn K (.ref f17) = true)
    (a18 : PySem.W.nsIn K mainGlobals "performed" = some (some (.ref f18))) (l18 : K.lookup f18 = some ⟨oc18, od18, .func (PySem.W.fnOf "performed" "performed" (defArgs s_performed) (defBody s_performed) (defScope s_performed) .none kV18 dc18 pm18 an18 (cd18) ct18), sl18⟩) (c18 : PySem.W.codeIn K (cd18) "performed" = true) (k18 : PySem.W.keepIn K (.ref f18) = true)
    (a19 : PySem.W.nsIn K mainGlobals "done" = some (some (.ref f19))) (l19 : K.lookup f19 = some ⟨oc19, od19, .func (PySem.W.fnOf "done" "done" (defArgs s_done) (defBody s_done) (defScope s_done) .none kV19 dc19 pm19 an19 (cd19) ct19), sl19⟩) (c19 : PySem.W.codeIn K (cd19) "done" = true) (k19 : PySem.W.keepIn K (.ref f19) = true)
    (a20 : PySem.W.nsIn K mainGlobals "ways_from" = some (some (.ref f20))) (l20 : K.lookup f20 = some ⟨oc20, od20, .func (PySem.W.fnOf "ways_from" "ways_from" (defArgs s_ways_from) (defBody s_ways_from) (defScope s_ways_from) .none kV20 dc20 pm20 an20 (cd20) ct20), sl20⟩) (c20 : PySem.W.codeIn K (cd20) "ways_from" = true) (k20 : PySem.W.keepIn K (.ref f20) = true)
    (a21 : PySem.W.nsIn K mainGlobals "is_odd" = some (some (.ref f21))) (l21 : K.lookup f21 = some ⟨oc21, od21, .func (PySem.W.fnOf "is_odd" "is_odd" (defArgs s_is_odd) (defBody s_is_odd) (defScope s_is_odd) .none kV21 dc21 pm21 an21 (cd21) ct21), sl21⟩) (c21 : PySem.W.codeIn K (cd21) "is_odd" = true) (k21 : PySem.W.keepIn K (.ref f21) = true)
    (a22 : PySem.W.nsIn K mainGlobals "way" = some (some (.ref f22))) (l22 : K.lookup f22 = some ⟨oc22, od22, .func (PySem.W.fnOf "way" "way" (defArgs s_way) (defBody s_way) (defScope s_way) .none kV22 dc22 pm22 an22 (cd22) ct22), sl22⟩) (c22 : PySem.W.codeIn K (cd22) "way" = true) (k22 : PySem.W.keepIn K (.ref f22) = true)
    (a23 : PySem.W.nsIn K mainGlobals "parse_formation" = some (some (.ref f23))) (l23 : K.lookup f23 = some ⟨oc23, od23, .func (PySem.W.fnOf "parse_formation" "parse_formation" (defArgs s_parse_formation) (defBody s_parse_formation) (defScope s_parse_formation) .none kV23 dc23 pm23 an23 (cd23) ct23), sl23⟩) (c23 : PySem.W.codeIn K (cd23) "parse_formation" = true) (k23 : PySem.W.keepIn K (.ref f23) = true)
    (a24 : PySem.W.nsIn K mainGlobals "least" = some (some (.ref f24))) (l24 : K.lookup f24 = some ⟨oc24, od24, .func (PySem.W.fnOf "least" "least" (defArgs s_least) (defBody s_least) (defScope s_least) .none kV24 dc24 pm24 an24 (cd24) ct24), sl24⟩) (c24 : PySem.W.codeIn K (cd24) "least" = true) (k24 : PySem.W.keepIn K (.ref f24) = true)
    (a25 : PySem.W.nsIn K mainGlobals "to_front" = some (some (.ref f25))) (l25 : K.lookup f25 = some ⟨oc25, od25, .func (PySem.W.fnOf "to_front" "to_front" (defArgs s_to_front) (defBody s_to_front) (defScope s_to_front) .none kV25 dc25 pm25 an25 (cd25) ct25), sl25⟩) (c25 : PySem.W.codeIn K (cd25) "to_front" = true) (k25 : PySem.W.keepIn K (.ref f25) = true)
    (a26 : PySem.W.nsIn K mainGlobals "_law_cell" = some (some (.ref f26))) (l26 : K.lookup f26 = some ⟨oc26, od26, .func (PySem.W.fnOf "_law_cell" "_law_cell" (defArgs s__law_cell) (defBody s__law_cell) (defScope s__law_cell) .none kV26 dc26 pm26 an26 (cd26) ct26), sl26⟩) (c26 : PySem.W.codeIn K (cd26) "_law_cell" = true) (k26 : PySem.W.keepIn K (.ref f26) = true)
    (a27 : PySem.W.nsIn K mainGlobals "_law_drawn" = some (some (.ref f27))) (l27 : K.lookup f27 = some ⟨oc27, od27, .func (PySem.W.fnOf "_law_drawn" "_law_drawn" (defArgs s__law_drawn) (defBody s__law_drawn) (defScope s__law_drawn) .none kV27 dc27 pm27 an27 (cd27) ct27), sl27⟩) (c27 : PySem.W.codeIn K (cd27) "_law_drawn" = true) (k27 : PySem.W.keepIn K (.ref f27) = true)
    (a28 : PySem.W.nsIn K mainGlobals "_law_roll" = some (some (.ref f28))) (l28 : K.lookup f28 = some ⟨oc28, od28, .func (PySem.W.fnOf "_law_roll" "_law_roll" (defArgs s__law_roll) (defBody s__law_roll) (defScope s__law_roll) .none kV28 dc28 pm28 an28 (cd28) ct28), sl28⟩) (c28 : PySem.W.codeIn K (cd28) "_law_roll" = true) (k28 : PySem.W.keepIn K (.ref f28) = true)
    (a29 : PySem.W.nsIn K mainGlobals "_law_rounds" = some (some (.ref f29))) (l29 : K.lookup f29 = some ⟨oc29, od29, .func (PySem.W.fnOf "_law_rounds" "_law_rounds" (defArgs s__law_rounds) (defBody s__law_rounds) (defScope s__law_rounds) .none kV29 dc29 pm29 an29 (cd29) ct29), sl29⟩) (c29 : PySem.W.codeIn K (cd29) "_law_rounds" = true) (k29 : PySem.W.keepIn K (.ref f29) = true)
    (a30 : PySem.W.nsIn K mainGlobals "_law_met" = some (some (.ref f30))) (l30 : K.lookup f30 = some ⟨oc30, od30, .func (PySem.W.fnOf "_law_met" "_law_met" (defArgs s__law_met) (defBody s__law_met) (defScope s__law_met) .none kV30 dc30 pm30 an30 (cd30) ct30), sl30⟩) (c30 : PySem.W.codeIn K (cd30) "_law_met" = true) (k30 : PySem.W.keepIn K (.ref f30) = true)
    (a31 : PySem.W.nsIn K mainGlobals "_law_alone" = some (some (.ref f31))) (l31 : K.lookup f31 = some ⟨oc31, od31, .func (PySem.W.fnOf "_law_alone" "_law_alone" (defArgs s__law_alone) (defBody s__law_alone) (defScope s__law_alone) .none kV31 dc31 pm31 an31 (cd31) ct31), sl31⟩) (c31 : PySem.W.codeIn K (cd31) "_law_alone" = true) (k31 : PySem.W.keepIn K (.ref f31) = true)
    (a32 : PySem.W.nsIn K mainGlobals "law" = some (some (.ref f32))) (l32 : K.lookup f32 = some ⟨oc32, od32, .func (PySem.W.fnOf "law" "law" (defArgs s_law) (defBody s_law) (defScope s_law) .none kV32 dc32 pm32 an32 (.ref cL) ct32), sl32⟩) (c32 : PySem.W.codeIn K (.ref cL) "law" = true) (k32 : PySem.W.keepIn K (.ref f32) = true)
    (gx0 : PySem.W.nsIn K mainGlobals "InvalidFormation" = some (some (.ref x0)))
    (gx1 : PySem.W.nsIn K mainGlobals "InvalidOrders" = some (some (.ref x1)))
    (gx2 : PySem.W.nsIn K mainGlobals "InvalidPerson" = some (some (.ref x2)))
    (gx3 : PySem.W.nsIn K mainGlobals "InvalidShape" = some (some (.ref x3)))
    (gx4 : PySem.W.nsIn K mainGlobals "InvalidText" = some (some (.ref x4)))
    (gx5 : PySem.W.nsIn K mainGlobals "Impossible" = some (some (.ref x5)))
    (gx6 : PySem.W.nsIn K mainGlobals "Unlike" = some (some (.ref x6)))
    (gx7 : PySem.W.nsIn K mainGlobals "NewShape" = some (some (.ref x7)))
    (gx8 : PySem.W.nsIn K mainGlobals "NothingToUndo" = some (some (.ref x8)))
    (gCS : PySem.W.nsIn K mainGlobals "DrillError" = some (some (.ref CS)))
    (ex0 : PySem.W.excIn K x0 [.type "ValueError", .type "Exception", .type "BaseException", .type "object"] "ValueError.__new__" = true) (ek0 : PySem.W.keepIn K (.ref x0) = true) (eb0 : PySem.W.subIn K (.ref x0) (.type "BaseException") = some true) (et0 : PySem.W.typeIn K (.ref x0) = some (.type "type"))
    (ex1 : PySem.W.excIn K x1 [.type "ValueError", .type "Exception", .type "BaseException", .type "object"] "ValueError.__new__" = true) (ek1 : PySem.W.keepIn K (.ref x1) = true) (eb1 : PySem.W.subIn K (.ref x1) (.type "BaseException") = some true) (et1 : PySem.W.typeIn K (.ref x1) = some (.type "type"))
    (ex2 : PySem.W.excIn K x2 [.type "ValueError", .type "Exception", .type "BaseException", .type "object"] "ValueError.__new__" = true) (ek2 : PySem.W.keepIn K (.ref x2) = true) (eb2 : PySem.W.subIn K (.ref x2) (.type "BaseException") = some true) (et2 : PySem.W.typeIn K (.ref x2) = some (.type "type"))
    (ex3 : PySem.W.excIn K x3 [.type "ValueError", .type "Exception", .type "BaseException", .type "object"] "ValueError.__new__" = true) (ek3 : PySem.W.keepIn K (.ref x3) = true) (eb3 : PySem.W.subIn K (.ref x3) (.type "BaseException") = some true) (et3 : PySem.W.typeIn K (.ref x3) = some (.type "type"))
    (ex4 : PySem.W.excIn K x4 [.type "ValueError", .type "Exception", .type "BaseException", .type "object"] "ValueError.__new__" = true) (ek4 : PySem.W.keepIn K (.ref x4) = true) (eb4 : PySem.W.subIn K (.ref x4) (.type "BaseException") = some true) (et4 : PySem.W.typeIn K (.ref x4) = some (.type "type"))
    (ex5 : PySem.W.excIn K x5 [.type "ValueError", .type "Exception", .type "BaseException", .type "object"] "ValueError.__new__" = true) (ek5 : PySem.W.keepIn K (.ref x5) = true) (eb5 : PySem.W.subIn K (.ref x5) (.type "BaseException") = some true) (et5 : PySem.W.typeIn K (.ref x5) = some (.type "type"))
    (ex6 : PySem.W.excIn K x6 [.type "ValueError", .type "Exception", .type "BaseException", .type "object"] "ValueError.__new__" = true) (ek6 : PySem.W.keepIn K (.ref x6) = true) (eb6 : PySem.W.subIn K (.ref x6) (.type "BaseException") = some true) (et6 : PySem.W.typeIn K (.ref x6) = some (.type "type"))
    (ex7 : PySem.W.excIn K x7 [.type "ValueError", .type "Exception", .type "BaseException", .type "object"] "ValueError.__new__" = true) (ek7 : PySem.W.keepIn K (.ref x7) = true) (eb7 : PySem.W.subIn K (.ref x7) (.type "BaseException") = some true) (et7 : PySem.W.typeIn K (.ref x7) = some (.type "type"))
    (ex8 : PySem.W.excIn K x8 [.type "ValueError", .type "Exception", .type "BaseException", .type "object"] "ValueError.__new__" = true) (ek8 : PySem.W.keepIn K (.ref x8) = true) (eb8 : PySem.W.subIn K (.ref x8) (.type "BaseException") = some true) (et8 : PySem.W.typeIn K (.ref x8) = some (.type "type"))
    (sLETTERS : PySem.W.nsIn K mainGlobals "LETTERS" = some (some (.str "abcdef" tLETTERS)))
    (sSIGNS : PySem.W.nsIn K mainGlobals "SIGNS" = some (some (.str "ACDLMRSX" tSIGNS)))
    (z_len : PySem.W.nsIn K mainGlobals "len" = some none)
    (z_isinstance : PySem.W.nsIn K mainGlobals "isinstance" = some none)
    (z_tuple : PySem.W.nsIn K mainGlobals "tuple" = some none)
    (z_str : PySem.W.nsIn K mainGlobals "str" = some none)
    (z_int : PySem.W.nsIn K mainGlobals "int" = some none)
    (z_bool : PySem.W.nsIn K mainGlobals "bool" = some none)
    (z_all : PySem.W.nsIn K mainGlobals "all" = some none)
    (z_any : PySem.W.nsIn K mainGlobals "any" = some none)
    (z_sorted : PySem.W.nsIn K mainGlobals "sorted" = some none)
    (z_list : PySem.W.nsIn K mainGlobals "list" = some none)
    (z_range : PySem.W.nsIn K mainGlobals "range" = some none)
    (z_reversed : PySem.W.nsIn K mainGlobals "reversed" = some none)
    (z_enumerate : PySem.W.nsIn K mainGlobals "enumerate" = some none)
    (z_max : PySem.W.nsIn K mainGlobals "max" = some none)
    (z_min : PySem.W.nsIn K mainGlobals "min" = some none)
    (z_set : PySem.W.nsIn K mainGlobals "set" = some none)
    (z_abs : PySem.W.nsIn K mainGlobals "abs" = some none)
    (z_sum : PySem.W.nsIn K mainGlobals "sum" = some none)
    (z_ValueError : PySem.W.nsIn K mainGlobals "ValueError" = some none)
    (kit9 : kitB9 K [x0, x1, x2, x3, x4, x5, x6, x7, x8] = true)
    (xb0 : excB K x0 CS = true)
    (xb1 : excB K x1 CS = true)
    (xb2 : excB K x2 CS = true)
    (xb3 : excB K x3 CS = true)
    (xb4 : excB K x4 CS = true)
    (xb5 : excB K x5 CS = true)
    (xb6 : excB K x6 CS = true)
    (xb7 : excB K x7 CS = true)
    (xb8 : excB K x8 CS = true)
    (gDr : PySem.W.nsIn K mainGlobals "Drill" = some (some (.ref CC))) (cpg : PySem.W.plainGet K CC Str.empty = true) (chd : PySem.W.hasDictIn K CC = true) (cpo : PySem.W.plainOver K CC = true) (csa : PySem.W.findIn K (.ref CC) "__setattr__" = some (some (.builtin "object.__setattr__"))) (cn0 : PySem.W.findIn K (.ref CC) "now" = some none) (cn1 : PySem.W.findIn K (.ref CC) "earlier" = some none) (cn2 : PySem.W.findIn K (.ref CC) "undone" = some none) (cmk : PySem.W.makesIn K CC = true) (ckp : PySem.W.keepIn K (.ref CC) = true)
    (ma0 : PySem.W.findIn K (.ref CC) "__init__" = some (some (.ref mf0))) (ml0 : K.lookup mf0 = some ⟨moc0, mod0, .func (PySem.W.fnOf "__init__" "Drill.__init__" (defArgs (mthS 0)) (defBody (mthS 0)) (defScope (mthS 0)) .none mkV0 mdc0 mpm0 man0 mcd0 mct0), msl0⟩) (mc0 : PySem.W.codeIn K mcd0 "Drill.__init__" = true) (mk0 : PySem.W.keepIn K (.ref mf0) = true) (mi0 : PySem.W.isFn K (.ref mf0) = true)
    (ma4 : PySem.W.findIn K (.ref CC) "redo" = some (some (.ref mf4))) (ml4 : K.lookup mf4 = some ⟨moc4, mod4, .func (PySem.W.fnOf "redo" "Drill.redo" (defArgs (mthS 4)) (defBody (mthS 4)) (defScope (mthS 4)) .none mkV4 mdc4 mpm4 man4 mcd4 mct4), msl4⟩) (mc4 : PySem.W.codeIn K mcd4 "Drill.redo" = true) (mk4 : PySem.W.keepIn K (.ref mf4) = true) (mi4 : PySem.W.isFn K (.ref mf4) = true)
    (tP : h.get? Pt = some { cls := .none, data := .fields #[] }) (nP : K.lookup Pt = none) (hP : PySem.W.codeHdIn K cL Pt = true) : LawAtS l w K (L2N.CX l.prog w) 8 63 "script" mg fa h := by
  have e := hfa.symm.trans (PySem.W.mg_of X G a32)
  cases e
  have h_is_formation : At K mg "is_formation" s_is_formation := ⟨f0, _, fun_mk (st := s_is_formation) l0 c0 k0, PySem.W.mg_of X G a0⟩
  have h_are_orders : At K mg "are_orders" s_are_orders := ⟨f1, _, fun_mk (st := s_are_orders) l1 c1 k1, PySem.W.mg_of X G a1⟩
  have h_need_formation : At K mg "need_formation" s_need_formation := ⟨f2, _, fun_mk (st := s_need_formation) l2 c2 k2, PySem.W.mg_of X G a2⟩
  have h_need_orders : At K mg "need_orders" s_need_orders := ⟨f3, _, fun_mk (st := s_need_orders) l3 c3 k3, PySem.W.mg_of X G a3⟩
  have h_need_both : At K mg "need_both" s_need_both := ⟨f4, _, fun_mk (st := s_need_both) l4 c4 k4, PySem.W.mg_of X G a4⟩
  have h_need_person : At K mg "need_person" s_need_person := ⟨f5, _, fun_mk (st := s_need_person) l5 c5 k5, PySem.W.mg_of X G a5⟩
  have h_need_shape : At K mg "need_shape" s_need_shape := ⟨f6, _, fun_mk (st := s_need_shape) l6 c6 k6, PySem.W.mg_of X G a6⟩
  have h_in_sequence : At K mg "in_sequence" s_in_sequence := ⟨f7, _, fun_mk (st := s_in_sequence) l7 c7 k7, PySem.W.mg_of X G a7⟩
  have h_first : At K mg "first" s_first := ⟨f8, _, fun_mk (st := s_first) l8 c8 k8, PySem.W.mg_of X G a8⟩
  have h_shape_of : At K mg "shape_of" s_shape_of := ⟨f9, _, fun_mk (st := s_shape_of) l9 c9 k9, PySem.W.mg_of X G a9⟩
  have h_shape : At K mg "shape" s_shape := ⟨f10, _, fun_mk (st := s_shape) l10 c10 k10, PySem.W.mg_of X G a10⟩
  have h_need_alike : At K mg "need_alike" s_need_alike := ⟨f11, _, fun_mk (st := s_need_alike) l11 c11 k11, PySem.W.mg_of X G a11⟩
  have h_file_of : At K mg "file_of" s_file_of := ⟨f12, _, fun_mk (st := s_file_of) l12 c12 k12, PySem.W.mg_of X G a12⟩
  have h_doubled : At K mg "doubled" s_doubled := ⟨f13, _, fun_mk (st := s_doubled) l13 c13 k13, PySem.W.mg_of X G a13⟩
  have h_singled : At K mg "singled" s_singled := ⟨f14, _, fun_mk (st := s_singled) l14 c14 k14, PySem.W.mg_of X G a14⟩
  have h_moved : At K mg "moved" s_moved := ⟨f15, _, fun_mk (st := s_moved) l15 c15 k15, PySem.W.mg_of X G a15⟩
  have h_after : At K mg "after" s_after := ⟨f16, _, fun_mk (st := s_after) l16 c16 k16, PySem.W.mg_of X G a16⟩
  have h_can : At K mg "can" s_can := ⟨f17, _, fun_mk (st := s_can) l17 c17 k17, PySem.W.mg_of X G a17⟩
  have h_performed : At K mg "performed" s_performed := ⟨f18, _, fun_mk (st := s_performed) l18 c18 k18, PySem.W.mg_of X G a18⟩
  have h_done : At K mg "done" s_done := ⟨f19, _, fun_mk (st := s_done) l19 c19 k19, PySem.W.mg_of X G a19⟩
  have h_ways_from : At K mg "ways_from" s_ways_from := ⟨f20, _, fun_mk (st := s_ways_from) l20 c20 k20, PySem.W.mg_of X G a20⟩
  have h_is_odd : At K mg "is_odd" s_is_odd := ⟨f21, _, fun_mk (st := s_is_odd) l21 c21 k21, PySem.W.mg_of X G a21⟩
  have h_way : At K mg "way" s_way := ⟨f22, _, fun_mk (st := s_way) l22 c22 k22, PySem.W.mg_of X G a22⟩
  have h_parse_formation : At K mg "parse_formation" s_parse_formation := ⟨f23, _, fun_mk (st := s_parse_formation) l23 c23 k23, PySem.W.mg_of X G a23⟩
  have h_least : At K mg "least" s_least := ⟨f24, _, fun_mk (st := s_least) l24 c24 k24, PySem.W.mg_of X G a24⟩
  have h_to_front : At K mg "to_front" s_to_front := ⟨f25, _, fun_mk (st := s_to_front) l25 c25 k25, PySem.W.mg_of X G a25⟩
  have h__law_cell : At K mg "_law_cell" s__law_cell := ⟨f26, _, fun_mk (st := s__law_cell) l26 c26 k26, PySem.W.mg_of X G a26⟩
  have h__law_drawn : At K mg "_law_drawn" s__law_drawn := ⟨f27, _, fun_mk (st := s__law_drawn) l27 c27 k27, PySem.W.mg_of X G a27⟩
  have h__law_roll : At K mg "_law_roll" s__law_roll := ⟨f28, _, fun_mk (st := s__law_roll) l28 c28 k28, PySem.W.mg_of X G a28⟩
  have h__law_rounds : At K mg "_law_rounds" s__law_rounds := ⟨f29, _, fun_mk (st := s__law_rounds) l29 c29 k29, PySem.W.mg_of X G a29⟩
  have h__law_met : At K mg "_law_met" s__law_met := ⟨f30, _, fun_mk (st := s__law_met) l30 c30 k30, PySem.W.mg_of X G a30⟩
  have h__law_alone : At K mg "_law_alone" s__law_alone := ⟨f31, _, fun_mk (st := s__law_alone) l31 c31 k31, PySem.W.mg_of X G a31⟩
  have X_0 : ExcF K mg "InvalidFormation" x0 := ⟨PySem.W.mg_of X G gx0, ex0, ek0, eb0, et0⟩
  have X_1 : ExcF K mg "InvalidOrders" x1 := ⟨PySem.W.mg_of X G gx1, ex1, ek1, eb1, et1⟩
  have X_2 : ExcF K mg "InvalidPerson" x2 := ⟨PySem.W.mg_of X G gx2, ex2, ek2, eb2, et2⟩
  have X_3 : ExcF K mg "InvalidShape" x3 := ⟨PySem.W.mg_of X G gx3, ex3, ek3, eb3, et3⟩
  have X_4 : ExcF K mg "InvalidText" x4 := ⟨PySem.W.mg_of X G gx4, ex4, ek4, eb4, et4⟩
  have X_5 : ExcF K mg "Impossible" x5 := ⟨PySem.W.mg_of X G gx5, ex5, ek5, eb5, et5⟩
  have X_6 : ExcF K mg "Unlike" x6 := ⟨PySem.W.mg_of X G gx6, ex6, ek6, eb6, et6⟩
  have X_7 : ExcF K mg "NewShape" x7 := ⟨PySem.W.mg_of X G gx7, ex7, ek7, eb7, et7⟩
  have X_8 : ExcF K mg "NothingToUndo" x8 := ⟨PySem.W.mg_of X G gx8, ex8, ek8, eb8, et8⟩
  have mLETTERS := PySem.W.mg_of X G sLETTERS
  have mSIGNS := PySem.W.mg_of X G sSIGNS
  have B : Bi mg := ⟨PySem.W.mg_none_of X G z_len, PySem.W.mg_none_of X G z_isinstance, PySem.W.mg_none_of X G z_tuple, PySem.W.mg_none_of X G z_str, PySem.W.mg_none_of X G z_int, PySem.W.mg_none_of X G z_bool, PySem.W.mg_none_of X G z_all, PySem.W.mg_none_of X G z_any, PySem.W.mg_none_of X G z_sorted, PySem.W.mg_none_of X G z_list, PySem.W.mg_none_of X G z_range, PySem.W.mg_none_of X G z_reversed, PySem.W.mg_none_of X G z_enumerate, PySem.W.mg_none_of X G z_max, PySem.W.mg_none_of X G z_min, PySem.W.mg_none_of X G z_set, PySem.W.mg_none_of X G z_abs, PySem.W.mg_none_of X G z_sum⟩
  have R : Errs K mg [x0, x1, x2, x3, x4, x5, x6, x7, x8] CS := ⟨PySem.W.mg_of X G gx0, PySem.W.mg_of X G gx1, PySem.W.mg_of X G gx2, PySem.W.mg_of X G gx3, PySem.W.mg_of X G gx4, PySem.W.mg_of X G gx5, PySem.W.mg_of X G gx6, PySem.W.mg_of X G gx7, PySem.W.mg_of X G gx8, PySem.W.mg_none_of X G z_ValueError, kit9, by simp [xb0, xb1, xb2, xb3, xb4, xb5, xb6, xb7, xb8], rfl⟩
  have MF := met_mk l30 c30 k30 (PySem.W.mg_of X G a30) (PySem.W.mg_of X G gCS)
  have DC : DrC K CC := ⟨⟨cpg, chd, cpo, csa⟩, cn0, cn1, cn2⟩
  refine ⟨PySem.W.fnOf "law" "law" (defArgs s_law) (defBody s_law) (defScope s_law) .none kV32 dc32 pm32 an32 (.ref cL) ct32, [(cL, Pt)], spL K [(Pt, qLam)], fun p hp => by rw [List.mem_singleton.mp hp]; exact tP, fun p hp => by rw [List.mem_singleton.mp hp]; exact nP, fun p hp => by rw [List.mem_singleton.mp hp]; exact PySem.W.codeHd_of_K X hP, fun s v => .of_eq rfl, fun H a ns hl _ hH hS => end_lawT1 hl (hH _ (List.mem_singleton.mpr rfl)) hS, fun base _ _ hTB => ?_⟩
  have TB := hTB _ (List.mem_singleton.mpr rfl)
  have q__law_cell := c_cell (P := l.prog) (w := w) (base := base) B h__law_cell
  have q__law_rounds := c_rounds B q__law_cell h__law_rounds
  have q__law_drawn := c_drawn (P := l.prog) (w := w) (base := base) h__law_drawn
  have q__law_roll := c_roll q__law_drawn h__law_roll
  have q_is_formation := c_is_formation (P := l.prog) (w := w) (base := base) B (show mg "LETTERS" = some (.str (mkS lets) tLETTERS) from mLETTERS) h_is_formation
  have q_need_formation := c_need_formation q_is_formation X_0 h_need_formation
  have q_shape_of := c_shape_of (P := l.prog) (w := w) (base := base) B h_shape_of
  have q_shape := c_shape q_need_formation q_shape_of h_shape
  have q_are_orders := c_are_orders (P := l.prog) (w := w) (base := base) B (show mg "SIGNS" = some (.str (mkS signs) tSIGNS) from mSIGNS) h_are_orders
  have q_need_orders := c_need_orders q_are_orders X_1 h_need_orders
  have q_need_both := c_need_both q_need_formation q_need_orders h_need_both
  have q_file_of := c_file_of (P := l.prog) (w := w) (base := base) B h_file_of
  have q_doubled := c_doubled (P := l.prog) (w := w) (base := base) B h_doubled
  have q_singled := c_singled (P := l.prog) (w := w) (base := base) B h_singled
  have q_moved := c_moved B q_shape_of q_file_of q_doubled q_singled h_moved
  have q_after := c_after q_moved h_after
  have q_can := c_can q_need_both q_after h_can
  have q_need_person := c_need_person (P := l.prog) (w := w) (base := base) B X_2 h_need_person
  have q_ways_from := c_ways_from q_moved (show mg "SIGNS" = some (.str (mkS signs) tSIGNS) from mSIGNS) h_ways_from
  have q_least := c_least (P := l.prog) (w := w) (base := base) B h_least
  have q_to_front := c_to_front q_need_formation q_need_person q_ways_from q_least h_to_front
  have q_need_shape := c_need_shape (P := l.prog) (w := w) (base := base) B X_3 h_need_shape
  have q_in_sequence := c_in_sequence (P := l.prog) (w := w) (base := base) B (show mg "LETTERS" = some (.str (mkS lets) tLETTERS) from mLETTERS) h_in_sequence
  have q_first := c_first q_need_shape q_in_sequence h_first
  have q_parse_formation := c_prs B q_is_formation X_4 h_parse_formation
  have q_performed := c_performed q_after X_5 h_performed
  have q_done := c_done q_need_both q_performed h_done
  have q_need_alike := c_need_alike B q_need_formation X_6 h_need_alike
  have q_way := c_way q_need_alike q_ways_from h_way
  have q_is_odd := c_is_odd B q_need_both q_performed q_shape_of X_7 h_is_odd
  have GI := c_init DC q_need_formation (fun_mk (st := mthS 0) ml0 mc0 mk0) ⟨cmk, ma0, mi0, ckp⟩
  have GR := c_redoM (P := l.prog) (w := w) (base := base) DC X_8 ⟨_, _, fun_mk (st := mthS 4) ml4 mc4 mk4, ⟨ma4, mi4, mk4⟩⟩
  have GA := c_alone (P := l.prog) (w := w) (base := base) B R h__law_alone
  exact ok_law B R MF TB DC (PySem.W.mg_of X G gDr) GI GR GA q__law_rounds q__law_roll q_shape q_can q_to_front q_first q_parse_formation q_done q_way q_is_odd l32 c32

end G
open PySem PySem.W PyProof.Rows
set_option maxHeartbeats 0 in
theorem PySem.Challenge.cw_drillgrids_k21_errors_apart_holds : PySem.Challenge.rw_drillgrids_k21_errors_apart.Holds := by
  w_on; o_law; k_head; (case hw => w_witness2)
  k_fill
  refine LamX.walk_ofTs (l := PySem.Challenge.rw_drillgrids_k21_errors_apart) (n := 63) (k := 8) (x := "script") (CX := fun w => L2N.CX PySem.Challenge.rw_drillgrids_k21_errors_apart.prog w) rfl (by decide) rfl ⟨rfl, by decide, by decide⟩ (fun w h Y => PySem.W.km_in_of Y) ?F (fun _ _ _ _ _ ⟨_, _, _, _, _, _, _, _, _, _, _, _, h⟩ => h)
  case F =>
    intro w mg fa h Y KX NS hmg
    refine' G.all_mk KX NS hmg ?a0 ?l0 ?c0 ?k0 ?a1 ?l1 ?c1 ?k1 ?a2 ?l2 ?c2 ?k2 ?a3 ?l3 ?c3 ?k3 ?a4 ?l4 ?c4 ?k4 ?a5 ?l5 ?c5 ?k5 ?a6 ?l6 ?c6 ?k6 ?a7 ?l7 ?c7 ?k7 ?a8 ?l8 ?c8 ?k8 ?a9 ?l9 ?c9 ?k9 ?a10 ?l10 ?c10 ?k10 ?a11 ?l11 ?c11 ?k11 ?a12 ?l12 ?c12 ?k12 ?a13 ?l13 ?c13 ?k13 ?a14 ?l14 ?c14 ?k14 ?a15 ?l15 ?c15 ?k15 ?a16 ?l16 ?c16 ?k16 ?a17 ?l17 ?c17 ?k17 ?a18 ?l18 ?c18 ?k18 ?a19 ?l19 ?c19 ?k19 ?a20 ?l20 ?c20 ?k20 ?a21 ?l21 ?c21 ?k21 ?a22 ?l22 ?c22 ?k22 ?a23 ?l23 ?c23 ?k23 ?a24 ?l24 ?c24 ?k24 ?a25 ?l25 ?c25 ?k25 ?a26 ?l26 ?c26 ?k26 ?a27 ?l27 ?c27 ?k27 ?a28 ?l28 ?c28 ?k28 ?a29 ?l29 ?c29 ?k29 ?a30 ?l30 ?c30 ?k30 ?a31 ?l31 ?c31 ?k31 ?a32 ?l32 ?c32 ?k32 ?gx0 ?gx1 ?gx2 ?gx3 ?gx4 ?gx5 ?gx6 ?gx7 ?gx8 ?gCS ?ex0 ?ek0 ?eb0 ?et0 ?ex1 ?ek1 ?eb1 ?et1 ?ex2 ?ek2 ?eb2 ?et2 ?ex3 ?ek3 ?eb3 ?et3 ?ex4 ?ek4 ?eb4 ?et4 ?ex5 ?ek5 ?eb5 ?et5 ?ex6 ?ek6 ?eb6 ?et6 ?ex7 ?ek7 ?eb7 ?et7 ?ex8 ?ek8 ?eb8 ?et8 ?sLETTERS ?sSIGNS ?z_len ?z_isinstance ?z_tuple ?z_str ?z_int ?z_bool ?z_all ?z_any ?z_sorted ?z_list ?z_range ?z_reversed ?z_enumerate ?z_max ?z_min ?z_set ?z_abs ?z_sum ?z_ValueError ?kit9 ?xb0 ?xb1 ?xb2 ?xb3 ?xb4 ?xb5 ?xb6 ?xb7 ?xb8 ?gDr ?cpg ?chd ?cpo ?csa ?cn0 ?cn1 ?cn2 ?cmk ?ckp ?ma0 ?ml0 ?mc0 ?mk0 ?mi0 ?ma4 ?ml4 ?mc4 ?mk4 ?mi4 ?tP ?nP ?hP
    (case a0 => k_is)
    (case l0 => k_is)
    (case c0 => k_is)
    (case k0 => k_is)
    (case a1 => k_is)
    (case l1 => k_is)
    (case c1 => k_is)
    (case k1 => k_is)
    (case a2 => k_is)
    (case l2 => k_is)
    (case c2 => k_is)
    (case k2 => k_is)
    (case a3 => k_is)
    (case l3 => k_is)
    (case c3 => k_is)
    (case k3 => k_is)
    (case a4 => k_is)
    (case l4 => k_is)
    (case c4 => k_is)
    (case k4 => k_is)
    (case a5 => k_is)
    (case l5 => k_is)
    (case c5 => k_is)
    (case k5 => k_is)
    (case a6 => k_is)
    (case l6 => k_is)
    (case c6 => k_is)
    (case k6 => k_is)
    (case a7 => k_is)
    (case l7 => k_is)
    (case c7 => k_is)
    (case k7 => k_is)
    (case a8 => k_is)
    (case l8 => k_is)
    (case c8 => k_is)
    (case k8 => k_is)
    (case a9 => k_is)
    (case l9 => k_is)
    (case c9 => k_is)
    (case k9 => k_is)
    (case a10 => k_is)
    (case l10 => k_is)
    (case c10 => k_is)
    (case k10 => k_is)
    (case a11 => k_is)
    (case l11 => k_is)
    (case c11 => k_is)
    (case k11 => k_is)
    (case a12 => k_is)
    (case l12 => k_is)
    (case c12 => k_is)
    (case k12 => k_is)
    (case a13 => k_is)
    (case l13 => k_is)
    (case c13 => k_is)
    (case k13 => k_is)
    (case a14 => k_is)
    (case l14 => k_is)
    (case c14 => k_is)
    (case k14 => k_is)
    (case a15 => k_is)
    (case l15 => k_is)
    (case c15 => k_is)
    (case k15 => k_is)
    (case a16 => k_is)
    (case l16 => k_is)
    (case c16 => k_is)
    (case k16 => k_is)
    (case a17 => k_is)
    (case l17 => k_is)
    (case c17 => k_is)
    (case k17 => k_is)
    (case a18 => k_is)
    (case l18 => k_is)
    (case c18 => k_is)
    (case k18 => k_is)
    (case a19 => k_is)
    (case l19 => k_is)
    (case c19 => k_is)
    (case k19 => k_is)
    (case a20 => k_is)
    (case l20 => k_is)
    (case c20 => k_is)
    (case k20 => k_is)
    (case a21 => k_is)
    (case l21 => k_is)
    (case c21 => k_is)
    (case k21 => k_is)
    (case a22 => k_is)
    (case l22 => k_is)
    (case c22 => k_is)
    (case k22 => k_is)
    (case a23 => k_is)
    (case l23 => k_is)
    (case c23 => k_is)
    (case k23 => k_is)
    (case a24 => k_is)
    (case l24 => k_is)
    (case c24 => k_is)
    (case k24 => k_is)
    (case a25 => k_is)
    (case l25 => k_is)
    (case c25 => k_is)
    (case k25 => k_is)
    (case a26 => k_is)
    (case l26 => k_is)
    (case c26 => k_is)
    (case k26 => k_is)
    (case a27 => k_is)
    (case l27 => k_is)
    (case c27 => k_is)
    (case k27 => k_is)
    (case a28 => k_is)
    (case l28 => k_is)
    (case c28 => k_is)
    (case k28 => k_is)
    (case a29 => k_is)
    (case l29 => k_is)
    (case c29 => k_is)
    (case k29 => k_is)
    (case a30 => k_is)
    (case l30 => k_is)
    (case c30 => k_is)
    (case k30 => k_is)
    (case a31 => k_is)
    (case l31 => k_is)
    (case c31 => k_is)
    (case k31 => k_is)
    (case a32 => k_is)
    (case l32 => k_is)
    (case c32 => k_is)
    (case k32 => k_is)
    (case gx0 => k_is)
    (case gx1 => k_is)
    (case gx2 => k_is)
    (case gx3 => k_is)
    (case gx4 => k_is)
    (case gx5 => k_is)
    (case gx6 => k_is)
    (case gx7 => k_is)
    (case gx8 => k_is)
    (case gCS => k_is)
    (case ex0 => k_exc)
    (case ek0 => k_is)
    (case eb0 => k_is)
    (case et0 => k_is)
    (case ex1 => k_exc)
    (case ek1 => k_is)
    (case eb1 => k_is)
    (case et1 => k_is)
    (case ex2 => k_exc)
    (case ek2 => k_is)
    (case eb2 => k_is)
    (case et2 => k_is)
    (case ex3 => k_exc)
    (case ek3 => k_is)
    (case eb3 => k_is)
    (case et3 => k_is)
    (case ex4 => k_exc)
    (case ek4 => k_is)
    (case eb4 => k_is)
    (case et4 => k_is)
    (case ex5 => k_exc)
    (case ek5 => k_is)
    (case eb5 => k_is)
    (case et5 => k_is)
    (case ex6 => k_exc)
    (case ek6 => k_is)
    (case eb6 => k_is)
    (case et6 => k_is)
    (case ex7 => k_exc)
    (case ek7 => k_is)
    (case eb7 => k_is)
    (case et7 => k_is)
    (case ex8 => k_exc)
    (case ek8 => k_is)
    (case eb8 => k_is)
    (case et8 => k_is)
    (case sLETTERS => k_is)
    (case sSIGNS => k_is)
    (case z_len => k_is)
    (case z_isinstance => k_is)
    (case z_tuple => k_is)
    (case z_str => k_is)
    (case z_int => k_is)
    (case z_bool => k_is)
    (case z_all => k_is)
    (case z_any => k_is)
    (case z_sorted => k_is)
    (case z_list => k_is)
    (case z_range => k_is)
    (case z_reversed => k_is)
    (case z_enumerate => k_is)
    (case z_max => k_is)
    (case z_min => k_is)
    (case z_set => k_is)
    (case z_abs => k_is)
    (case z_sum => k_is)
    (case z_ValueError => k_is)
    (case kit9 => kernel_rfl)
    (case xb0 => kernel_rfl)
    (case xb1 => kernel_rfl)
    (case xb2 => kernel_rfl)
    (case xb3 => kernel_rfl)
    (case xb4 => kernel_rfl)
    (case xb5 => kernel_rfl)
    (case xb6 => kernel_rfl)
    (case xb7 => kernel_rfl)
    (case xb8 => kernel_rfl)
    (case gDr => k_is)
    (case cpg => k_is)
    (case chd => k_is)
    (case cpo => k_is)
    (case csa => k_is)
    (case cn0 => k_is)
    (case cn1 => k_is)
    (case cn2 => k_is)
    (case cmk => k_is)
    (case ckp => k_is)
    (case ma0 => k_is)
    (case ml0 => k_is)
    (case mc0 => k_is)
    (case mk0 => k_is)
    (case mi0 => k_is)
    (case ma4 => k_is)
    (case ml4 => k_is)
    (case mc4 => k_is)
    (case mk4 => k_is)
    (case mi4 => k_is)
    (case tP => exact PySem.W.km_tabs_of Y _ (List.mem_cons_self ..))
    (case nP => first | k_is | kernel_rfl)
    (case hP => first | k_is | kernel_rfl)

