import PyProof.Rows.All
import Wide.All
import OpenK.AllK
import Wide.FinOn
import PyProof.EqAt
import PyProof.EqKinds
import PyProof.TupleCall
import HandS.ForMost
import HandS.ForExc
import HandS.Wide
import HandS.TupAny
import HandS.Conv
import HandS.IsInst
import HandS.Walk
import HandS.Rev
import HandS.RevRange
import HandS.Lambda
import HandS.ExcCtx
import HandS.ExcValue
import HandS.Strs
import PyProof.Draws
import HandS.HotCalls
import HandS.ExcIs
import HandS.EndTab
import HandS.Deep
import PyProof.SumWalk
import PySem.Challenge.RW_drillgrids_k19_whole_drills
import PyProof.Rows.TupDisplay
import HandS.TupLen
import HandS.Style
import OpenK.KOps
import KE.KNestM
import KE.KLam
set_option Elab.async false
set_option linter.all false
set_option maxRecDepth 100000
set_option maxHeartbeats 2000000
namespace G
open PySem PySem.Spec PyProof.Rows L2

/-! ### data -/
inductive Dat where
  | non : Dat
  | bl (b : Bool) : Dat
  | int (i : Int) : Dat
  | str (l : List Nat) : Dat
  | tup (xs : List Dat) : Dat
  | lst (xs : List Dat) : Dat
  | dic (kvs : List (List Key × V)) : Dat
  | scr (ns : List Int) : Dat

inductive Res where
  | ok (d : Dat) : Res
  | err (c : Value) : Res

abbrev mkS (l : List Nat) : Str := ⟨l.toArray⟩
mutual
inductive Rp (K : PySem.W.Frag) (H : Hp) : V → Dat → Prop
  | non : Rp K H .non .non
  | bl (b : Bool) : Rp K H (.bl b) (.bl b)
  | int (i : Int) : Rp K H (.int i) (.int i)
  | str (l : List Nat) : Rp K H (.str ⟨l.toArray⟩) (.str l)
  | tup {a : Addr} {xs : List V} {ds : List Dat} : H a = some (.tup xs) → RpA K H xs ds → Rp K H (.ref a) (.tup ds)
  | lst {a : Addr} {xs : List V} {ds : List Dat} : H a = some (.lst xs) → RpA K H xs ds → Rp K H (.ref a) (.lst ds)
  | scr {a : Addr} {ns : List Int} : SqL K H a (ns.map V.int) → Rp K H (.ref a) (.scr ns)
  | dic {a : Addr} {kvs : List (List Key × V)} {od : Obj} : H a = some (.frz od (.dT kvs)) → Rp K H (.ref a) (.dic kvs)
inductive RpA (K : PySem.W.Frag) (H : Hp) : List V → List Dat → Prop
  | nil : RpA K H [] []
  | cons {v : V} {vs : List V} {d : Dat} {ds : List Dat} : Rp K H v d → RpA K H vs ds → RpA K H (v :: vs) (d :: ds)
end
theorem sqt_mono {K : PySem.W.Frag} {H H' : Hp} {a : Addr} {xs : List V} (e : Same H H') (h : SqT K H a xs) : SqT K H' a xs := by
  rcases h with (h | ⟨o, h⟩) | h
  · exact .inl (.inl (e _ _ h))
  · exact .inl (.inr ⟨o, e _ _ h⟩)
  · exact .inr h
mutual
theorem Rp.mono {K : PySem.W.Frag} {H H' : Hp} (e : Same H H') : ∀ {v : V} {d : Dat}, Rp K H v d → Rp K H' v d
  | _, _, .non => .non
  | _, _, .bl b => .bl b
  | _, _, .int i => .int i
  | _, _, .str l => .str l
  | _, _, .tup h a => .tup (e _ _ h) (RpA.mono e a)
  | _, _, .lst h a => .lst (e _ _ h) (RpA.mono e a)
  | _, _, .scr h => .scr (e.seq h)
  | _, _, .dic h => .dic (e _ _ h)
theorem RpA.mono {K : PySem.W.Frag} {H H' : Hp} (e : Same H H') : ∀ {vs : List V} {ds : List Dat}, RpA K H vs ds → RpA K H' vs ds
  | _, _, .nil => .nil
  | _, _, .cons h a => .cons (Rp.mono e h) (RpA.mono e a)
end
/-- all but the tables of code objects stay -/
abbrev Sm : Hp → Hp → Prop := LamX.ExtN
theorem Sm.of {H H' : Hp} (e : Same H H') : Sm H H' := fun b o h _ => e b o h
theorem sqt_monoN {K : PySem.W.Frag} {H H' : Hp} {a : Addr} {xs : List V} (e : Sm H H') (h : SqT K H a xs) : SqT K H' a xs := by
  rcases h with (h | ⟨o, h⟩) | h
  · exact .inl (.inl (e _ _ h fun _ z => by cases z))
  · exact .inl (.inr ⟨o, e _ _ h fun _ z => by cases z⟩)
  · exact .inr h
theorem sql_monoN {K : PySem.W.Frag} {H H' : Hp} {a : Addr} {xs : List V} (e : Sm H H') (h : SqL K H a xs) : SqL K H' a xs := by
  rcases h with (h | ⟨o, h⟩) | h
  · exact .inl (.inl (e _ _ h fun _ z => by cases z))
  · exact .inl (.inr ⟨o, e _ _ h fun _ z => by cases z⟩)
  · exact .inr h
mutual
theorem Rp.monoN {K : PySem.W.Frag} {H H' : Hp} (e : Sm H H') : ∀ {v : V} {d : Dat}, Rp K H v d → Rp K H' v d
  | _, _, .non => .non
  | _, _, .bl b => .bl b
  | _, _, .int i => .int i
  | _, _, .str l => .str l
  | _, _, .tup h a => .tup (e _ _ h fun _ z => by cases z) (RpA.monoN e a)
  | _, _, .lst h a => .lst (e _ _ h fun _ z => by cases z) (RpA.monoN e a)
  | _, _, .scr h => .scr (sql_monoN e h)
  | _, _, .dic h => .dic (e _ _ h fun _ z => by cases z)
theorem RpA.monoN {K : PySem.W.Frag} {H H' : Hp} (e : Sm H H') : ∀ {vs : List V} {ds : List Dat}, RpA K H vs ds → RpA K H' vs ds
  | _, _, .nil => .nil
  | _, _, .cons h a => .cons (Rp.monoN e h) (RpA.monoN e a)
end
theorem RpA.length {K : PySem.W.Frag} {H : Hp} : ∀ {vs : List V} {ds : List Dat}, RpA K H vs ds → vs.length = ds.length
  | _, _, .nil => rfl
  | _, _, .cons _ a => by rw [List.length_cons, List.length_cons, RpA.length a]
theorem RpA.get {K : PySem.W.Frag} {H : Hp} : ∀ {vs : List V} {ds : List Dat} {i : Nat} {d : Dat}, RpA K H vs ds → ds[i]? = some d → ∃ v, vs[i]? = some v ∧ Rp K H v d
  | _, _, _, _, .nil, e => by simp at e
  | _, _, 0, _, .cons h _, e => by
    have e' := Option.some.inj e
    subst e'
    exact ⟨_, rfl, h⟩
  | _, _, i + 1, d, .cons _ a, e => RpA.get (i := i) (d := d) a e
theorem RpA.getV {K : PySem.W.Frag} {H : Hp} : ∀ {vs : List V} {ds : List Dat} {i : Nat} {v : V}, RpA K H vs ds → vs[i]? = some v → ∃ d, ds[i]? = some d ∧ Rp K H v d
  | _, _, _, _, .nil, e => by simp at e
  | _, _, 0, _, .cons h _, e => by
    have e' := Option.some.inj e
    subst e'
    exact ⟨_, rfl, h⟩
  | _, _, i + 1, d, .cons _ a, e => RpA.getV (i := i) (v := d) a e
theorem RpA.append {K : PySem.W.Frag} {H : Hp} : ∀ {vs ws : List V} {ds es : List Dat}, RpA K H vs ds → RpA K H ws es → RpA K H (vs ++ ws) (ds ++ es)
  | _, _, _, _, .nil, b => b
  | _, _, _, _, .cons h a, b => .cons h (RpA.append a b)
theorem RpA.take {K : PySem.W.Frag} {H : Hp} : ∀ {vs : List V} {ds : List Dat} (n : Nat), RpA K H vs ds → RpA K H (vs.take n) (ds.take n)
  | _, _, 0, _ => .nil
  | _, _, _ + 1, .nil => .nil
  | _, _, n + 1, .cons h a => .cons h (RpA.take n a)
theorem RpA.drop {K : PySem.W.Frag} {H : Hp} : ∀ {vs : List V} {ds : List Dat} (n : Nat), RpA K H vs ds → RpA K H (vs.drop n) (ds.drop n)
  | _, _, 0, a => a
  | _, _, _ + 1, .nil => .nil
  | _, _, n + 1, .cons _ a => RpA.drop n a

/-! ### masks -/
def mask (B : Addr → Bool) (H : Hp) : Hp := fun a => if B a = true then none else H a
theorem mask_out {B : Addr → Bool} {H : Hp} {a : Addr} (h : B a = false) : mask B H a = H a := by
  unfold mask
  rw [h, if_neg Bool.false_ne_true]
theorem mask_in {B : Addr → Bool} {H : Hp} {a : Addr} (h : B a = true) : mask B H a = none := by
  unfold mask
  rw [if_pos h]
theorem mask_some {B : Addr → Bool} {H : Hp} {a : Addr} {o : HO} (h : mask B H a = some o) : B a = false ∧ H a = some o := by
  cases e : B a with
  | true =>
    rw [mask_in e] at h
    cases h
  | false =>
    rw [mask_out e] at h
    exact ⟨rfl, h⟩
theorem mask_sub (B : Addr → Bool) (H : Hp) : Same (mask B H) H := fun _ _ h => (mask_some h).2
theorem mask_same {B : Addr → Bool} {H H' : Hp} (e : Same H H') : Same (mask B H) (mask B H') := fun b o h => by
  obtain ⟨h1, h2⟩ := mask_some h
  rw [mask_out h1]
  exact e _ _ h2
theorem mask_le {B B' : Addr → Bool} {H : Hp} (h : ∀ a, B a = true → B' a = true) : Same (mask B' H) (mask B H) := fun b o e => by
  obtain ⟨h1, h2⟩ := mask_some e
  rw [mask_out]
  · exact h2
  · cases q : B b with
    | true =>
      rw [h b q] at h1
      cases h1
    | false => rfl
/-- what is owned is there, and no tuple -/
def Bad (o : Option HO) : Prop := o = none ∨ ∃ xs, o = some (.tup xs)
def Cov (B : Addr → Bool) (H : Hp) : Prop := ∀ a, B a = true → ¬ Bad (H a)
theorem Cov.same {B : Addr → Bool} {H H' : Hp} (c : Cov B H) (e : Same H H') : Cov B H' := fun a h n => by
  cases q : H a with
  | none => exact c a h (.inl q)
  | some o =>
    rw [e _ _ q] at n
    rcases n with n | ⟨xs, n⟩
    · cases n
    · exact c a h (.inr ⟨xs, by rw [q]; exact n⟩)
theorem Cov.new {B : Addr → Bool} {H : Hp} {p : Addr} (c : Cov B H) (h : H p = none) : B p = false := by
  cases q : B p with
  | true => exact absurd (Or.inl h) (c p q)
  | false => rfl
theorem Cov.tup {B : Addr → Bool} {H : Hp} {p : Addr} {xs : List V} (c : Cov B H) (h : H p = some (.tup xs)) : B p = false := by
  cases q : B p with
  | true => exact absurd (Or.inr ⟨xs, h⟩) (c p q)
  | false => rfl
theorem same_upd {H : Hp} {p : Addr} {o : HO} (h : H p = none) : Same H (upd H p o) := fun b x e => by
  rw [upd_ne (ne_of_none e h)]
  exact e

theorem mask_sm {B : Addr → Bool} {H H' : Hp} (e : Sm H H') : Sm (mask B H) (mask B H') := fun b o h n => by
  obtain ⟨h1, h2⟩ := mask_some h
  rw [mask_out h1]
  exact e _ _ h2 n

/-! ### slots -/
inductive Sl where
  | un : Sl
  | dt (d : Dat) : Sl
  | rf (a : Addr) : Sl
  | ml (a : Addr) (ds : List Dat) : Sl
  | md (a : Addr) (kvs : List (List Key × V)) : Sl
  | di (a : Addr) : Sl
  | mg (a : Addr) (o : List V → HO) (ds : List Dat) : Sl
def Sl.own : Sl → Bool
  | .ml _ _ => true
  | .md _ _ => true
  | .di _ => true
  | .mg _ _ _ => true
  | _ => false
def SlOk (K : PySem.W.Frag) (B : Addr → Bool) (H : Hp) : Sl → Option V → Prop
  | .un, _ => True
  | .dt d, some v => Rp K (mask B H) v d
  | .rf a, some v => v = .ref a
  | .ml a ds, some v => v = .ref a ∧ B a = true ∧ ∃ vs, H a = some (.lst vs) ∧ RpA K (mask B H) vs ds
  | .md a kvs, some v => v = .ref a ∧ B a = true ∧ H a = some (.dT kvs)
  | .di a, some v => v = .ref a ∧ B a = true ∧ ∃ c n, H a = some (.lst [.int c, .int n])
  | .mg a o ds, some v => v = .ref a ∧ B a = true ∧ ∃ vs, H a = some (o vs) ∧ (∀ ps, o vs ≠ .tbl ps) ∧ RpA K (mask B H) vs ds
  | _, none => False
theorem SlOk.same {K : PySem.W.Frag} {B : Addr → Bool} {H H' : Hp} (e : Same H H') : ∀ {s : Sl} {o : Option V}, SlOk K B H s o → SlOk K B H' s o
  | .un, _, _ => True.intro
  | .dt d, some v, h => Rp.mono (mask_same e) h
  | .rf a, some v, h => h
  | .ml a ds, some v, ⟨h1, h2, vs, h3, h4⟩ => ⟨h1, h2, vs, e _ _ h3, RpA.mono (mask_same e) h4⟩
  | .md a kvs, some v, ⟨h1, h2, h3⟩ => ⟨h1, h2, e _ _ h3⟩
  | .di a, some v, ⟨h1, h2, c, n, h3⟩ => ⟨h1, h2, c, n, e _ _ h3⟩
  | .mg a o ds, some v, ⟨h1, h2, vs, h3, h4, h5⟩ => ⟨h1, h2, vs, e _ _ h3, h4, RpA.mono (mask_same e) h5⟩
  | .dt _, none, h => h.elim
  | .rf _, none, h => h.elim
  | .ml _ _, none, h => h.elim
  | .md _ _, none, h => h.elim
  | .di _, none, h => h.elim
  | .mg _ _ _, none, h => h.elim

structure EnvR (K : PySem.W.Frag) (B : Addr → Bool) (H : Hp) (σ : L2.St) (ρ : List Sl) : Prop where
  len : σ.length = ρ.length
  at_ : ∀ (i : Nat) (s : Sl), ρ[i]? = some s → ∃ o, σ[i]? = some o ∧ SlOk K B H s o
  sep : ∀ (i j : Nat) (si sj : Sl) (v : V), i ≠ j → ρ[i]? = some si → ρ[j]? = some sj → si.own = true → sj.own = true → σ[i]? = some (some v) → σ[j]? ≠ some (some v)
section
variable {K : PySem.W.Frag} {B : Addr → Bool} {H H' : Hp} {σ : L2.St} {ρ : List Sl}
theorem EnvR.same (e : EnvR K B H σ ρ) (s : Same H H') : EnvR K B H' σ ρ :=
  ⟨e.len, fun i x h => let ⟨o, h1, h2⟩ := e.at_ i x h; ⟨o, h1, h2.same s⟩, e.sep⟩
theorem EnvR.dt (e : EnvR K B H σ ρ) {i : Nat} {d : Dat} (h : ρ[i]? = some (.dt d)) : ∃ v, σ[i]? = some (some v) ∧ Rp K (mask B H) v d := by
  obtain ⟨o, h1, h2⟩ := e.at_ i _ h
  cases o with
  | none => exact h2.elim
  | some v => exact ⟨v, h1, h2⟩
theorem EnvR.rf (e : EnvR K B H σ ρ) {i : Nat} {a : Addr} (h : ρ[i]? = some (.rf a)) : σ[i]? = some (some (.ref a)) := by
  obtain ⟨o, h1, h2⟩ := e.at_ i _ h
  cases o with
  | none => exact h2.elim
  | some v =>
    have h2 : v = .ref a := h2
    rw [h2] at h1
    exact h1
/-- a slot gets a value that is not owned -/
theorem EnvR.setN (e : EnvR K B H σ ρ) (i : Nat) {v : V} {s : Sl} (hs : s.own = false) (h : SlOk K B H s (some v)) : EnvR K B H (σ.set i (some v)) (ρ.set i s) := by
  refine ⟨by rw [List.length_set, List.length_set, e.len], fun j x hj => ?_, fun j k sj sk w hjk hj hk oj ok vj => ?_⟩
  · by_cases hij : i = j
    · subst hij
      by_cases hl : i < ρ.length
      · rw [List.getElem?_set_self hl] at hj
        have hj := Option.some.inj hj
        subst hj
        exact ⟨some v, by rw [List.getElem?_set_self (by rw [e.len]; exact hl)], h⟩
      · rw [List.getElem?_eq_none (by rw [List.length_set]; omega)] at hj
        cases hj
    · rw [List.getElem?_set_ne hij] at hj
      obtain ⟨o, h1, h2⟩ := e.at_ j x hj
      exact ⟨o, by rw [List.getElem?_set_ne hij]; exact h1, h2⟩
  · have ne : ∀ (j : Nat) (sj : Sl), (ρ.set i s)[j]? = some sj → sj.own = true → i ≠ j := fun j sj hj oj z => by
      subst z
      by_cases hl : i < ρ.length
      · rw [List.getElem?_set_self hl] at hj
        have hj := Option.some.inj hj
        subst hj
        rw [hs] at oj
        cases oj
      · rw [List.getElem?_eq_none (by rw [List.length_set]; omega)] at hj
        cases hj
    have nj := ne j sj hj oj
    have nk := ne k sk hk ok
    rw [List.getElem?_set_ne nj] at hj vj
    rw [List.getElem?_set_ne nk] at hk ⊢
    exact e.sep j k sj sk w hjk hj hk oj ok vj
theorem EnvR.setD (e : EnvR K B H σ ρ) (i : Nat) {v : V} {d : Dat} (h : Rp K (mask B H) v d) : EnvR K B H (σ.set i (some v)) (ρ.set i (.dt d)) := e.setN i rfl h
end
/-- ρ' knows less -/
def Wk : List Sl → List Sl → Prop
  | [], [] => True
  | a :: r, b :: r' => (b = .un ∨ a = b) ∧ Wk r r'
  | _, _ => False
theorem Wk.refl : ∀ ρ : List Sl, Wk ρ ρ
  | [] => True.intro
  | _ :: r => ⟨.inr rfl, Wk.refl r⟩
theorem Wk.len : ∀ {ρ ρ' : List Sl}, Wk ρ ρ' → ρ.length = ρ'.length
  | [], [], _ => rfl
  | _ :: r, _ :: r', h => by rw [List.length_cons, List.length_cons, Wk.len h.2]
theorem Wk.get : ∀ {ρ ρ' : List Sl} {i : Nat} {s : Sl}, Wk ρ ρ' → ρ'[i]? = some s → s = .un ∨ ρ[i]? = some s
  | [], [], _, _, _, e => by simp at e
  | a :: r, b :: r', 0, s, h, e => by
    have e : b = s := Option.some.inj e
    subst e
    rcases h.1 with h | h
    · exact .inl h
    · exact .inr (by rw [h]; rfl)
  | a :: r, b :: r', i + 1, s, h, e => Wk.get (i := i) h.2 e
theorem EnvR.weak {K : PySem.W.Frag} {B : Addr → Bool} {H : Hp} {σ : L2.St} {ρ ρ' : List Sl} (e : EnvR K B H σ ρ) (w : Wk ρ ρ') : EnvR K B H σ ρ' := by
  refine ⟨e.len.trans w.len, fun i s h => ?_, fun i j si sj v hij hi hj oi oj vi => ?_⟩
  · rcases w.get h with h1 | h1
    · subst h1
      have hl : i < σ.length := by
        rw [e.len, w.len]
        exact (List.getElem?_eq_some_iff.mp h).1
      exact ⟨σ[i], List.getElem?_eq_getElem hl, True.intro⟩
    · exact e.at_ i s h1
  · rcases w.get hi with h1 | h1
    · subst h1
      cases oi
    · rcases w.get hj with h2 | h2
      · subst h2
        cases oj
      · exact e.sep i j si sj v hij h1 h2 oi oj vi
def wipeρ (ρ : List Sl) : List Nat → List Sl
  | [] => ρ
  | v :: vs => (wipeρ ρ vs).set v .un
theorem EnvR.unset {K : PySem.W.Frag} {B : Addr → Bool} {H : Hp} {σ : L2.St} {ρ : List Sl} (e : EnvR K B H σ ρ) (i : Nat) (o : Option V) : EnvR K B H (σ.set i o) (ρ.set i .un) := by
  refine ⟨by rw [List.length_set, List.length_set, e.len], fun j x hj => ?_, fun j k sj sk w hjk hj hk oj ok vj => ?_⟩
  · by_cases hij : i = j
    · subst hij
      by_cases hl : i < ρ.length
      · rw [List.getElem?_set_self hl] at hj
        have hj := Option.some.inj hj
        subst hj
        exact ⟨o, by rw [List.getElem?_set_self (by rw [e.len]; exact hl)], True.intro⟩
      · rw [List.getElem?_eq_none (by rw [List.length_set]; omega)] at hj
        cases hj
    · rw [List.getElem?_set_ne hij] at hj
      obtain ⟨o, h1, h2⟩ := e.at_ j x hj
      exact ⟨o, by rw [List.getElem?_set_ne hij]; exact h1, h2⟩
  · have ne : ∀ (j : Nat) (sj : Sl), (ρ.set i .un)[j]? = some sj → sj.own = true → i ≠ j := fun j sj hj oj z => by
      subst z
      by_cases hl : i < ρ.length
      · rw [List.getElem?_set_self hl] at hj
        have hj := Option.some.inj hj
        subst hj
        cases oj
      · rw [List.getElem?_eq_none (by rw [List.length_set]; omega)] at hj
        cases hj
    have nj := ne j sj hj oj
    have nk := ne k sk hk ok
    rw [List.getElem?_set_ne nj] at hj vj
    rw [List.getElem?_set_ne nk] at hk ⊢
    exact e.sep j k sj sk w hjk hj hk oj ok vj
theorem EnvR.wipe {K : PySem.W.Frag} {B : Addr → Bool} {H : Hp} {σ : L2.St} {ρ : List Sl} (e : EnvR K B H σ ρ) : ∀ vs : List Nat, EnvR K B H (L2.wipe σ vs) (wipeρ ρ vs)
  | [] => e
  | v :: vs => (EnvR.wipe e vs).unset v none
end G

set_option Elab.async false
set_option linter.all false
set_option maxRecDepth 100000
set_option maxHeartbeats 2000000
namespace G
open PySem PySem.Spec PyProof.Rows L2

/-! ### expressions that change nothing: D -/
def Post (K : PySem.W.Frag) (E : XK) (B : Addr → Bool) (H : Hp) (Q : VK) : Res → Prop
  | .ok d => ∀ v H', Same H H' → Rp K (mask B H') v d → Q v H'
  | .err c => ∀ H', Same H H' → E c none H'
def tD (K : PySem.W.Frag) (E : XK) (ρ : List Sl) (r : Res) : TE := fun σ H Q => ∃ B, Cov B H ∧ EnvR K B H σ ρ ∧ Post K E B H Q r
abbrev D (X : Cx) (E : XK) (e : Expr) (ρ : List Sl) (r : Res) : Prop := PE X e (tD X.K E ρ r)
def PostA (K : PySem.W.Frag) (E : XK) (B : Addr → Bool) (H : Hp) (Q : List V → Hp → Prop) : Except Value (List Dat) → Prop
  | .ok ds => ∀ vs H', Same H H' → RpA K (mask B H') vs ds → Q vs H'
  | .error c => ∀ H', Same H H' → E c none H'
def tDA (K : PySem.W.Frag) (E : XK) (ρ : List Sl) (r : Except Value (List Dat)) : TA := fun σ H Q => ∃ B, Cov B H ∧ EnvR K B H σ ρ ∧ PostA K E B H Q r
abbrev DA (X : Cx) (E : XK) (es : List Expr) (ρ : List Sl) (r : Except Value (List Dat)) : Prop := PA X es (tDA X.K E ρ r)
def tDT (K : PySem.W.Frag) (ρ : List Sl) (b : Bool) : TT := fun σ H Q => ∃ B, Cov B H ∧ EnvR K B H σ ρ ∧ ∀ H', Same H H' → Q b H'
abbrev T (X : Cx) (e : Expr) (ρ : List Sl) (b : Bool) : Prop := PT X e (tDT X.K ρ b)
abbrev TW (X : Cx) (e : Expr) (ρ : List Sl) (b : Bool) : Prop := PW X e (tDT X.K ρ b)
theorem pe_imp {X : Cx} {e : Expr} {t t' : TE} (h : PE X e t) (k : ∀ σ H Q, t' σ H Q → t σ H Q) : PE X e t' := ⟨fun pins s σ H Q I q => h.run pins s σ H Q I (k σ H Q q)⟩
theorem pt_imp {X : Cx} {e : Expr} {t t' : TT} (h : PT X e t) (k : ∀ σ H Q, t' σ H Q → t σ H Q) : PT X e t' := ⟨fun pins s σ H Q I q => h.run pins s σ H Q I (k σ H Q q)⟩
theorem pw_imp {X : Cx} {e : Expr} {t t' : TT} (h : PW X e t) (k : ∀ σ H Q, t' σ H Q → t σ H Q) : PW X e t' := ⟨fun wh pins s σ H Q I q => h.run wh pins s σ H Q I (k σ H Q q)⟩
theorem pa_imp {X : Cx} {es : List Expr} {t t' : TA} (h : PA X es t) (k : ∀ σ H Q, t' σ H Q → t σ H Q) : PA X es t' := ⟨fun pos pins s σ H Q I q => h.run pos pins s σ H Q I (k σ H Q q)⟩
theorem pe_ex {X : Cx} {e : Expr} {ι : Type} {t : ι → TE} (h : ∀ i, PE X e (t i)) : PE X e (fun σ H Q => ∃ i, t i σ H Q) := ⟨fun pins s σ H Q I ⟨i, q⟩ => (h i).run pins s σ H Q I q⟩
theorem pt_ex {X : Cx} {e : Expr} {ι : Type} {t : ι → TT} (h : ∀ i, PT X e (t i)) : PT X e (fun σ H Q => ∃ i, t i σ H Q) := ⟨fun pins s σ H Q I ⟨i, q⟩ => (h i).run pins s σ H Q I q⟩
theorem pe_no {X : Cx} {e : Expr} : PE X e (fun _ _ _ => False) := ⟨fun _ _ _ _ _ _ q => q.elim⟩
theorem pt_no {X : Cx} {e : Expr} : PT X e (fun _ _ _ => False) := ⟨fun _ _ _ _ _ _ q => q.elim⟩
theorem pw_no {X : Cx} {e : Expr} : PW X e (fun _ _ _ => False) := ⟨fun _ _ _ _ _ _ _ q => q.elim⟩
theorem pa_no {X : Cx} {es : List Expr} : PA X es (fun _ _ _ => False) := ⟨fun _ _ _ _ _ _ _ q => q.elim⟩

section
variable {X : Cx} {E : XK} {ρ : List Sl}
theorem D.of {e : Expr} {t : TE} {d : Dat} (h : PE X e t) (k : ∀ B σ H Q, Cov B H → EnvR X.K B H σ ρ → (∀ v H', Same H H' → Rp X.K (mask B H') v d → Q v H') → t σ H Q) : D X E e ρ (.ok d) :=
  pe_imp h fun σ H Q ⟨B, c, en, p⟩ => k B σ H Q c en p
theorem D.ofR {e : Expr} {t : TE} {r : Res} (h : PE X e t) (k : ∀ B σ H Q, Cov B H → EnvR X.K B H σ ρ → Post X.K E B H Q r → t σ H Q) : D X E e ρ r :=
  pe_imp h fun σ H Q ⟨B, c, en, p⟩ => k B σ H Q c en p
theorem D.is {e : Expr} {d d' : Dat} (h : D X E e ρ (.ok d)) (q : d = d') : D X E e ρ (.ok d') := q ▸ h
theorem T.is {e : Expr} {b b' : Bool} (h : T X e ρ b) (q : b = b') : T X e ρ b' := q ▸ h
theorem TW.is {e : Expr} {b b' : Bool} (h : TW X e ρ b) (q : b = b') : TW X e ρ b' := q ▸ h
theorem D.weak {e : Expr} {r : Res} {ρ' : List Sl} (h : D X E e ρ' r) (w : Wk ρ ρ') : D X E e ρ r :=
  pe_imp h fun σ H Q ⟨B, c, en, p⟩ => ⟨B, c, en.weak w, p⟩
theorem dv (i : Nat) {x : Str} {pos : Pos} {d : Dat} (h : ρ[i]? = some (.dt d)) (hN : X.N[i]? = some x := by rfl) (hv : Vis X.env.scope x := by first | exact Or.inl rfl | exact Or.inr (Or.inl rfl) | exact Or.inr (Or.inr rfl))
    (hd : (x == ("__debug__" : Str)) = false := by decide) (hcd : (x == ("__classdict__" : Str)) = false := by decide) : D X E (.Name x pos) ρ (.ok d) :=
  D.of (pe_var hN hv hd hcd) fun B σ H Q c en q => by
    obtain ⟨v, h1, h2⟩ := en.dt h
    exact ⟨v, h1, q v H (Same.refl H) h2⟩
theorem d_int {i : Int} {j : Nat} {pos : Pos} : D X E (.Constant (.int i) j pos) ρ (.ok (.int i)) := D.of pe_int fun B σ H Q c en q => q _ H (Same.refl H) (.int i)
theorem d_bl {b : Bool} {j : Nat} {pos : Pos} : D X E (.Constant (.bool b) j pos) ρ (.ok (.bl b)) := D.of pe_bl fun B σ H Q c en q => q _ H (Same.refl H) (.bl b)
theorem d_non {j : Nat} {pos : Pos} : D X E (.Constant .none j pos) ρ (.ok .non) := D.of pe_non fun B σ H Q c en q => q _ H (Same.refl H) .non
theorem d_str {x : Str} {l : List Nat} {j : Nat} {pos : Pos} (h : x = mkS l) : D X E (.Constant (.str x) j pos) ρ (.ok (.str l)) :=
  D.of pe_str fun B σ H Q c en q => by
    rw [h]
    exact q _ H (Same.refl H) (.str l)
/-- a module's constant text -/
theorem d_gstr {x : Str} {y : Str} {t : Tok} {l : List Nat} {pos : Pos} (hm : X.mg x = some (.str y t)) (h : y = mkS l) (hg : Gl X x := by rfl) (hd : (x == ("__debug__" : Str)) = false := by decide) : D X E (.Name x pos) ρ (.ok (.str l)) :=
  D.of (pe_glob (v := .str y) hg hm ⟨t, rfl⟩ hd) fun B σ H Q c en q => by
    rw [h]
    exact q _ H (Same.refl H) (.str l)
theorem da_nil : DA X E [] ρ (.ok []) := pa_imp pa_nil fun σ H Q ⟨B, c, en, p⟩ => p [] H (Same.refl H) .nil
theorem da_cons {e : Expr} {es : List Expr} {d : Dat} {ds : List Dat} (h : D X E e ρ (.ok d)) (hr : DA X E es ρ (.ok ds)) (hs : starEach (e :: es) X.env = (false, eval e X.env) :: starEach es X.env := by rfl) : DA X E (e :: es) ρ (.ok (d :: ds)) :=
  pa_imp (pa_cons h hr hs) fun σ H Q ⟨B, c, en, p⟩ => ⟨B, c, en, fun v H1 s1 rv => ⟨B, c.same s1, en.same s1, fun vs H2 s2 rs => p (v :: vs) H2 (s1.trans s2) (.cons (rv.mono (mask_same s2)) rs)⟩⟩
theorem da_one {e : Expr} {d : Dat} (h : D X E e ρ (.ok d)) (hs : starEach [e] X.env = (false, eval e X.env) :: starEach [] X.env := by rfl) : DA X E [e] ρ (.ok [d]) := da_cons h da_nil hs
theorem da_err {e : Expr} {es : List Expr} {c : Value} (h : D X E e ρ (.err c)) (hs : starEach (e :: es) X.env = (false, eval e X.env) :: starEach es X.env := by rfl) : DA X E (e :: es) ρ (.error c) :=
  pa_imp (pa_cons h pa_no hs) fun σ H Q ⟨B, c, en, p⟩ => ⟨B, c, en, p⟩
theorem da_err2 {e : Expr} {es : List Expr} {d : Dat} {c : Value} (h : D X E e ρ (.ok d)) (hr : DA X E es ρ (.error c)) (hs : starEach (e :: es) X.env = (false, eval e X.env) :: starEach es X.env := by rfl) : DA X E (e :: es) ρ (.error c) :=
  pa_imp (pa_cons h hr hs) fun σ H Q ⟨B, c, en, p⟩ => ⟨B, c, en, fun v H1 s1 rv => ⟨B, c.same s1, en.same s1, fun H2 s2 => p H2 (s1.trans s2)⟩⟩

/-! ### operators on data -/
def Op2 (K : PySem.W.Frag) (r : R2) (x y z : Dat) : Prop := ∀ B H vx vy Q, Cov B H → Rp K (mask B H) vx x → Rp K (mask B H) vy y → (∀ v H', Same H H' → Rp K (mask B H') v z → Q v H') → r vx vy H Q
def Op1 (K : PySem.W.Frag) (r : V → Hp → VK → Prop) (x z : Dat) : Prop := ∀ B H vx Q, Cov B H → Rp K (mask B H) vx x → (∀ v H', Same H H' → Rp K (mask B H') v z → Q v H') → r vx H Q
def OpN (K : PySem.W.Frag) (r : List V → Hp → VK → Prop) (xs : List Dat) (z : Dat) : Prop := ∀ B H vs Q, Cov B H → RpA K (mask B H) vs xs → (∀ v H', Same H H' → Rp K (mask B H') v z → Q v H') → r vs H Q
theorem op_run {a b : Expr} {r : R2} {x y z : Dat} {σ : L2.St} {H : Hp} {Q : VK} (ho : Op2 X.K r x y z) (h : tD X.K E ρ (.ok z) σ H Q) : tOp r (tD X.K E ρ (.ok x)) (tD X.K E ρ (.ok y)) σ H Q := by
  obtain ⟨B, c, en, p⟩ := h
  exact ⟨B, c, en, fun vx H1 s1 rx => ⟨B, c.same s1, en.same s1, fun vy H2 s2 ry => ho B H2 vx vy Q ((c.same s1).same s2) (rx.mono (mask_same s2)) ry fun v H3 s3 rv => p v H3 ((s1.trans s2).trans s3) rv⟩⟩
theorem d_op {a b : Expr} {op : Operator} {r : R2} {x y z : Dat} {pos : Pos} (hr : OpR X (binaryOp op) r) (ho : Op2 X.K r x y z) (ha : D X E a ρ (.ok x)) (hb : D X E b ρ (.ok y)) : D X E (.BinOp a op b pos) ρ (.ok z) :=
  pe_imp (pe_op hr ha hb) fun σ H Q h => op_run (a := a) (b := b) ho h
theorem d_cmp {a b : Expr} {op : CmpOp} {r : R2} {x y z : Dat} {pos : Pos} (hr : OpR X (compareOp op) r) (ho : Op2 X.K r x y z) (ha : D X E a ρ (.ok x)) (hb : D X E b ρ (.ok y)) (hm : behindInMarks op b = false := by first | exact nomark _ | rfl) : D X E (.Compare a [op] [b] pos) ρ (.ok z) :=
  pe_imp (pe_cmpR hr ha hb hm) fun σ H Q h => op_run (a := a) (b := b) ho h
theorem d_ix {a b : Expr} {r : R2} {x y z : Dat} {pos : Pos} (hr : IxR X r) (ho : Op2 X.K r x y z) (ha : D X E a ρ (.ok x)) (hb : D X E b ρ (.ok y)) (hs : PlainIx b := by exact fun _ _ => rfl) : D X E (.Subscript a b pos) ρ (.ok z) :=
  pe_imp (pe_ix hr ha hb hs) fun σ H Q h => op_run (a := a) (b := b) ho h
theorem d_un {a : Expr} {op : UnaryOp} {r : V → Hp → VK → Prop} {x z : Dat} {pos : Pos} (hr : UnR X (unaryOp op) r) (ho : Op1 X.K r x z) (ha : D X E a ρ (.ok x)) : D X E (.UnaryOp op a pos) ρ (.ok z) :=
  D.of (pe_un hr ha) fun B σ H Q c en q => ⟨B, c, en, fun vx H1 s1 rx => ho B H1 vx Q (c.same s1) rx fun v H2 s2 rv => q v H2 (s1.trans s2) rv⟩
theorem d_callB {x : Str} {id : String} {r : List V → Hp → VK → Prop} {e : Expr} {es : List Expr} {ds : List Dat} {z : Dat} {p pos : Pos} (hc : CallR X (.builtin id) r) (ho : OpN X.K r ds z) (hm : X.mg x = none) (ha : DA X E (e :: es) ρ (.ok ds))
    (hv : bootBuiltins x = some (.builtin id) := by decide +kernel) (hg : Gl X x := by rfl) (hn : x ≠ "__name__" := by decide) (hdb : (x == ("__debug__" : Str)) = false := by decide) (he : starEach (e :: es) X.env = (false, eval e X.env) :: starEach es X.env := by rfl)
    (hpl : (backTo pos (starEach es X.env)).any (·.1) = false := by rfl) : D X E (.Call (.Name x p) (e :: es) [] pos) ρ (.ok z) :=
  D.of (pe_callB hc hg hm hv ha hn hdb he hpl) fun B σ H Q c en q => ⟨B, c, en, fun vs H1 s1 rs => ho B H1 vs Q (c.same s1) rs fun v H2 s2 rv => q v H2 (s1.trans s2) rv⟩
theorem d_callTy {x : Str} {id : String} {r : List V → Hp → VK → Prop} {e : Expr} {es : List Expr} {ds : List Dat} {z : Dat} {p pos : Pos} (hc : CallR X (.type id) r) (ho : OpN X.K r ds z) (hm : X.mg x = none) (ha : DA X E (e :: es) ρ (.ok ds))
    (hv : bootBuiltins x = some (.type id) := by decide +kernel) (hg : Gl X x := by rfl) (hn : x ≠ "__name__" := by decide) (hdb : (x == ("__debug__" : Str)) = false := by decide) (he : starEach (e :: es) X.env = (false, eval e X.env) :: starEach es X.env := by rfl)
    (hpl : (backTo pos (starEach es X.env)).any (·.1) = false := by rfl) : D X E (.Call (.Name x p) (e :: es) [] pos) ρ (.ok z) :=
  D.of (pe_callTy hc hg hm hv ha hn hdb he hpl) fun B σ H Q c en q => ⟨B, c, en, fun vs H1 s1 rs => ho B H1 vs Q (c.same s1) rs fun v H2 s2 rv => q v H2 (s1.trans s2) rv⟩

/-! ### displays, conditionals, and, or, not -/
theorem rp_new_tup {K : PySem.W.Frag} {B : Addr → Bool} {H : Hp} {p : Addr} {vs : List V} {ds : List Dat} (c : Cov B H) (np : H p = none) (r : RpA K (mask B H) vs ds) : Rp K (mask B (upd H p (.tup vs))) (.ref p) (.tup ds) := by
  refine .tup ?_ (r.mono (mask_same (same_upd np)))
  rw [mask_out (c.new np), upd_same]
theorem rp_new_lst {K : PySem.W.Frag} {B : Addr → Bool} {H : Hp} {p : Addr} {vs : List V} {ds : List Dat} (c : Cov B H) (np : H p = none) (r : RpA K (mask B H) vs ds) : Rp K (mask B (upd H p (.lst vs))) (.ref p) (.lst ds) := by
  refine .lst ?_ (r.mono (mask_same (same_upd np)))
  rw [mask_out (c.new np), upd_same]
theorem d_tup {es : List Expr} {ds : List Dat} {k : Nat} {pos : Pos} (h : DA X E es ρ (.ok ds)) (hl : ds.length ≤ 1000) : D X E (.Tuple es k pos) ρ (.ok (.tup ds)) :=
  D.of (pe_tup h) fun B σ H Q c en q => ⟨B, c, en, fun vs H1 s1 rs => ⟨by rw [rs.length]; exact Nat.le_of_lt (small1000 hl), fun p np => q _ _ (s1.trans (same_upd np)) (rp_new_tup (c.same s1) np rs)⟩⟩
theorem d_lst {es : List Expr} {ds : List Dat} {pos : Pos} (h : DA X E es ρ (.ok ds)) (hl : ds.length ≤ 1000) : D X E (.List es pos) ρ (.ok (.lst ds)) :=
  D.of (pe_lst h) fun B σ H Q c en q => ⟨B, c, en, fun vs H1 s1 rs => ⟨by rw [rs.length]; exact Nat.le_of_lt (small1000 hl), fun p np => q _ _ (s1.trans (same_upd np)) (rp_new_lst (c.same s1) np rs)⟩⟩
theorem rp_bl {K : PySem.W.Frag} {H : Hp} {v : V} {b : Bool} (h : Rp K H v (.bl b)) : v = .bl b := by cases h; rfl
theorem rp_int {K : PySem.W.Frag} {H : Hp} {v : V} {i : Int} (h : Rp K H v (.int i)) : v = .int i := by cases h; rfl
theorem rp_str {K : PySem.W.Frag} {H : Hp} {v : V} {l : List Nat} (h : Rp K H v (.str l)) : v = .str ⟨l.toArray⟩ := by cases h; rfl
theorem rp_non {K : PySem.W.Frag} {H : Hp} {v : V} (h : Rp K H v .non) : v = .non := by cases h; rfl
theorem d_and {a b : Expr} {rest : List Expr} {x y : Bool} {pos : Pos} (ha : D X E a ρ (.ok (.bl x))) (hb : x = true → D X E (.BoolOp .And (b :: rest) pos) ρ (.ok (.bl y))) : D X E (.BoolOp .And (a :: b :: rest) pos) ρ (.ok (.bl (x && y))) := by
  cases x with
  | true =>
    exact D.of (pe_and ha (hb rfl)) fun B σ H Q c en q => ⟨B, c, en, fun v H1 s1 r => ⟨true, rp_bl r, by refine iteT ?_; exact ⟨B, c.same s1, en.same s1, fun v H2 s2 rv => q v H2 (s1.trans s2) rv⟩⟩⟩
  | false =>
    exact D.of (pe_and ha pe_no) fun B σ H Q c en q => ⟨B, c, en, fun v H1 s1 r => ⟨false, rp_bl r, by refine iteF ?_; exact q _ H1 s1 (.bl false)⟩⟩
theorem d_or {a b : Expr} {rest : List Expr} {x y : Bool} {pos : Pos} (ha : D X E a ρ (.ok (.bl x))) (hb : x = false → D X E (.BoolOp .Or (b :: rest) pos) ρ (.ok (.bl y))) : D X E (.BoolOp .Or (a :: b :: rest) pos) ρ (.ok (.bl (x || y))) := by
  cases x with
  | true =>
    exact D.of (pe_or ha pe_no) fun B σ H Q c en q => ⟨B, c, en, fun v H1 s1 r => ⟨true, rp_bl r, by refine iteT ?_; exact q _ H1 s1 (.bl true)⟩⟩
  | false =>
    exact D.of (pe_or ha (hb rfl)) fun B σ H Q c en q => ⟨B, c, en, fun v H1 s1 r => ⟨false, rp_bl r, by refine iteF ?_; exact ⟨B, c.same s1, en.same s1, fun v H2 s2 rv => q v H2 (s1.trans s2) rv⟩⟩⟩
theorem d_one {op : BoolOp} {a : Expr} {r : Res} {pos : Pos} (h : D X E a ρ r) : D X E (.BoolOp op [a] pos) ρ r := pe_one h
theorem d_not {a : Expr} {x : Bool} {pos : Pos} (ha : D X E a ρ (.ok (.bl x))) : D X E (.UnaryOp .Not a pos) ρ (.ok (.bl (!x))) :=
  D.of (pe_not ha) fun B σ H Q c en q => ⟨B, c, en, fun v H1 s1 r => ⟨x, rp_bl r, q _ H1 s1 (.bl _)⟩⟩
theorem d_if {t a b : Expr} {x : Bool} {r : Res} {pos : Pos} (ht : T X t ρ x) (ha : x = true → D X E a ρ r) (hb : x = false → D X E b ρ r) : D X E (.IfExp t a b pos) ρ r := by
  cases x with
  | true =>
    refine D.ofR (pe_ifExp ht (ha rfl) pe_no) fun B σ H Q c en q => ⟨B, c, en, fun H1 s1 => ?_⟩
    refine iteT ?_
    refine ⟨B, c.same s1, en.same s1, ?_⟩
    cases r with
    | ok d => exact fun v H2 s2 rv => q v H2 (s1.trans s2) rv
    | err c => exact fun H2 s2 => q H2 (s1.trans s2)
  | false =>
    refine D.ofR (pe_ifExp ht pe_no (hb rfl)) fun B σ H Q c en q => ⟨B, c, en, fun H1 s1 => ?_⟩
    refine iteF ?_
    refine ⟨B, c.same s1, en.same s1, ?_⟩
    cases r with
    | ok d => exact fun v H2 s2 rv => q v H2 (s1.trans s2) rv
    | err c => exact fun H2 s2 => q H2 (s1.trans s2)

/-! ### tests -/
theorem t_val {e : Expr} {b : Bool} (h : D X E0 e ρ (.ok (.bl b))) (he : ∀ whole, isTrue e X.env whole = (do let v ← whole; standAt e.pos; holding [v] (truthy v)) := by intro _; rfl) : T X e ρ b :=
  pt_imp (pt_val h he) fun σ H Q ⟨B, c, en, q⟩ => ⟨B, c, en, fun v H1 s1 r => ⟨b, rp_bl r, q H1 s1⟩⟩
theorem t_not {e : Expr} {b : Bool} {pos : Pos} (h : T X e ρ b) : T X (.UnaryOp .Not e pos) ρ (!b) :=
  pt_imp (pt_not h) fun σ H Q ⟨B, c, en, q⟩ => ⟨B, c, en, fun H1 s1 => q H1 s1⟩
theorem w_and1 {a : Expr} {x : Bool} {pos : Pos} (h : T X a ρ x) : TW X (.BoolOp .And [a] pos) ρ x := pw_and1 h
theorem w_or1 {a : Expr} {x : Bool} {pos : Pos} (h : T X a ρ x) : TW X (.BoolOp .Or [a] pos) ρ x := pw_or1 h
theorem w_and {a b : Expr} {rest : List Expr} {x y : Bool} {pos : Pos} (h : T X a ρ x) (h2 : x = true → TW X (.BoolOp .And (b :: rest) pos) ρ y) : TW X (.BoolOp .And (a :: b :: rest) pos) ρ (x && y) := by
  cases x with
  | true =>
    refine pw_imp (pw_and h (h2 rfl)) fun σ H Q ⟨B, c, en, q⟩ => ⟨B, c, en, fun H1 s1 => ?_⟩
    refine iteT ?_
    exact ⟨B, c.same s1, en.same s1, fun H2 s2 => q H2 (s1.trans s2)⟩
  | false =>
    refine pw_imp (pw_and h pw_no) fun σ H Q ⟨B, c, en, q⟩ => ⟨B, c, en, fun H1 s1 => ?_⟩
    refine iteF ?_
    exact q H1 s1
theorem w_or {a b : Expr} {rest : List Expr} {x y : Bool} {pos : Pos} (h : T X a ρ x) (h2 : x = false → TW X (.BoolOp .Or (b :: rest) pos) ρ y) : TW X (.BoolOp .Or (a :: b :: rest) pos) ρ (x || y) := by
  cases x with
  | true =>
    refine pw_imp (pw_or h pw_no) fun σ H Q ⟨B, c, en, q⟩ => ⟨B, c, en, fun H1 s1 => ?_⟩
    refine iteT ?_
    exact q H1 s1
  | false =>
    refine pw_imp (pw_or h (h2 rfl)) fun σ H Q ⟨B, c, en, q⟩ => ⟨B, c, en, fun H1 s1 => ?_⟩
    refine iteF ?_
    exact ⟨B, c.same s1, en.same s1, fun H2 s2 => q H2 (s1.trans s2)⟩
theorem t_w {e : Expr} {b : Bool} (h : TW X e ρ b) : T X e ρ b := h.pt
/-- a < b < c: ints -/
theorem op2_I0 {K : PySem.W.Frag} {g : Int → Int → V} {i j : Int} {z : Dat} (h : ∀ H, Rp K H (g i j) z) : Op2 K (rI0 g) (.int i) (.int j) z := fun B H vx vy Q c rx ry q => ⟨i, j, rp_int rx, rp_int ry, q _ H (Same.refl H) (h _)⟩
theorem op2_I {K : PySem.W.Frag} {C : Int → Int → Prop} {g : Int → Int → V} {i j : Int} {z : Dat} (hc : C i j) (h : ∀ H, Rp K H (g i j) z) : Op2 K (rI C g) (.int i) (.int j) z := fun B H vx vy Q c rx ry q => ⟨i, j, rp_int rx, rp_int ry, hc, q _ H (Same.refl H) (h _)⟩
theorem t_cmp {a b : Expr} {op : CmpOp} {r : R2} {x y : Dat} {z : Bool} {pos : Pos} (hr : OpR X (compareOp op) r) (ho : Op2 X.K r x y (.bl z)) (ha : D X E0 a ρ (.ok x)) (hb : D X E0 b ρ (.ok y)) (hm : behindInMarks op b = false := by first | exact nomark _ | rfl) : T X (.Compare a [op] [b] pos) ρ z :=
  pt_imp (pt_cmpR hr ha hb hm) fun σ H Q ⟨B, c, en, q⟩ => op_run (a := a) (b := b) (X := X) (E := E0) (ρ := ρ) ho ⟨B, c, en, fun v H' s r => ⟨z, rp_bl r, q H' s⟩⟩
theorem t_chain {a b c : Expr} {op op' : CmpOp} {r r' : R2} {x y z : Dat} {p q : Bool} {pos : Pos} (hr : OpR X (compareOp op) r) (hr' : OpR X (compareOp op') r') (ho : Op2 X.K r x y (.bl p)) (ho' : Op2 X.K r' y z (.bl q)) (ha : D X E0 a ρ (.ok x)) (hb : D X E0 b ρ (.ok y)) (hc : D X E0 c ρ (.ok z))
    (hm : lastMarks [op, op'] [b, c] = false := by with_unfolding_all rfl) : T X (.Compare a [op, op'] [b, c] pos) ρ (p && q) := by
  refine pt_imp (pt_chain hr hr' ha hb hc hm) fun σ H Q ⟨B, cv, en, qq⟩ => ⟨B, cv, en, fun vx H1 s1 rx => ⟨B, cv.same s1, en.same s1, fun vy H2 s2 ry => ho B H2 vx vy _ ((cv.same s1).same s2) (rx.mono (mask_same s2)) ry fun v H3 s3 rv => ⟨p, rp_bl rv, ?_⟩⟩⟩
  have c3 : Cov B H3 := ((cv.same s1).same s2).same s3
  have e3 : EnvR X.K B H3 σ ρ := ((en.same s1).same s2).same s3
  cases p with
  | true =>
    refine iteT ?_
    exact ⟨B, c3, e3, fun vz H4 s4 rz => ho' B H4 vy vz _ (c3.same s4) ((ry.mono (mask_same s3)).mono (mask_same s4)) rz fun v H5 s5 rv => ⟨q, rp_bl rv, qq H5 ((((s1.trans s2).trans s3).trans s4).trans s5)⟩⟩
  | false =>
    refine iteF ?_
    exact ⟨false, rfl, qq H3 ((s1.trans s2).trans s3)⟩
theorem d_chain {a b c : Expr} {op op' : CmpOp} {r r' : R2} {x y z : Dat} {p q : Bool} {pos : Pos} (hr : OpR X (compareOp op) r) (hr' : OpR X (compareOp op') r') (ho : Op2 X.K r x y (.bl p)) (ho' : Op2 X.K r' y z (.bl q)) (ha : D X E a ρ (.ok x)) (hb : D X E b ρ (.ok y)) (hc : D X E c ρ (.ok z))
    (hm : lastMarks [op, op'] [b, c] = false := by with_unfolding_all rfl) : D X E (.Compare a [op, op'] [b, c] pos) ρ (.ok (.bl (p && q))) := by
  refine D.of (pe_chain hr hr' ha hb hc hm) fun B σ H Q cv en qq => ⟨B, cv, en, fun vx H1 s1 rx => ⟨B, cv.same s1, en.same s1, fun vy H2 s2 ry => ho B H2 vx vy _ ((cv.same s1).same s2) (rx.mono (mask_same s2)) ry fun v H3 s3 rv => ⟨p, rp_bl rv, ?_⟩⟩⟩
  have c3 : Cov B H3 := ((cv.same s1).same s2).same s3
  have e3 : EnvR X.K B H3 σ ρ := ((en.same s1).same s2).same s3
  cases p with
  | true =>
    refine iteT ?_
    exact ⟨B, c3, e3, fun vz H4 s4 rz => ho' B H4 vy vz _ (c3.same s4) ((ry.mono (mask_same s3)).mono (mask_same s4)) rz fun v H5 s5 rv => qq v H5 ((((s1.trans s2).trans s3).trans s4).trans s5) rv⟩
  | false =>
    refine iteF ?_
    exact qq _ H3 ((s1.trans s2).trans s3) (.bl false)
theorem o_le {K : PySem.W.Frag} {i j : Int} : Op2 K (rI0 fun i j => .bl (decide (i ≤ j))) (.int i) (.int j) (.bl (decide (i ≤ j))) := op2_I0 fun _ => .bl _
theorem o_lt {K : PySem.W.Frag} {i j : Int} : Op2 K (rI0 fun i j => .bl (decide (i < j))) (.int i) (.int j) (.bl (decide (i < j))) := op2_I0 fun _ => .bl _
theorem o_gt {K : PySem.W.Frag} {i j : Int} : Op2 K (rI0 fun i j => .bl (decide (j < i))) (.int i) (.int j) (.bl (decide (j < i))) := op2_I0 fun _ => .bl _
theorem o_ge {K : PySem.W.Frag} {i j : Int} : Op2 K (rI0 fun i j => .bl (decide (j ≤ i))) (.int i) (.int j) (.bl (decide (j ≤ i))) := op2_I0 fun _ => .bl _
theorem o_add {K : PySem.W.Frag} {i j : Int} : Op2 K (rI0 fun i j => .int (i + j)) (.int i) (.int j) (.int (i + j)) := op2_I0 fun _ => .int _
theorem o_sub {K : PySem.W.Frag} {i j : Int} : Op2 K (rI0 fun i j => .int (i - j)) (.int i) (.int j) (.int (i - j)) := op2_I0 fun _ => .int _
theorem o_mul {K : PySem.W.Frag} {i j : Int} (h : CMul i j) : Op2 K (rI CMul fun i j => .int (i * j)) (.int i) (.int j) (.int (i * j)) := op2_I h fun _ => .int _
theorem o_mod {K : PySem.W.Frag} {i j : Int} (h : 0 < j) : Op2 K (rI (fun _ j => 0 < j) fun i j => .int (i % j)) (.int i) (.int j) (.int (i % j)) := op2_I h fun _ => .int _
theorem o_fdiv {K : PySem.W.Frag} {i j : Int} (h : CDiv i j) : Op2 K (rI CDiv fun i j => .int (i / j)) (.int i) (.int j) (.int (i / j)) := op2_I h fun _ => .int _
theorem d_add {a b : Expr} {i j : Int} {pos : Pos} (ha : D X E a ρ (.ok (.int i))) (hb : D X E b ρ (.ok (.int j))) : D X E (.BinOp a .Add b pos) ρ (.ok (.int (i + j))) := d_op op_add o_add ha hb
theorem d_sub {a b : Expr} {i j : Int} {pos : Pos} (ha : D X E a ρ (.ok (.int i))) (hb : D X E b ρ (.ok (.int j))) : D X E (.BinOp a .Sub b pos) ρ (.ok (.int (i - j))) := d_op op_sub o_sub ha hb
theorem d_mul {a b : Expr} {i j : Int} {pos : Pos} (h : CMul i j) (ha : D X E a ρ (.ok (.int i))) (hb : D X E b ρ (.ok (.int j))) : D X E (.BinOp a .Mult b pos) ρ (.ok (.int (i * j))) := d_op op_mul (o_mul h) ha hb
theorem d_mod {a b : Expr} {i j : Int} {pos : Pos} (h : 0 < j) (ha : D X E a ρ (.ok (.int i))) (hb : D X E b ρ (.ok (.int j))) : D X E (.BinOp a .Mod b pos) ρ (.ok (.int (i % j))) := d_op op_mod (o_mod h) ha hb
theorem d_fdiv {a b : Expr} {i j : Int} {pos : Pos} (h : CDiv i j) (ha : D X E a ρ (.ok (.int i))) (hb : D X E b ρ (.ok (.int j))) : D X E (.BinOp a .FloorDiv b pos) ρ (.ok (.int (i / j))) := d_op op_fdiv (o_fdiv h) ha hb
end
end G

set_option Elab.async false
set_option linter.all false
set_option maxRecDepth 100000
set_option maxHeartbeats 2000000
namespace G
open PySem PySem.Spec PyProof.Rows L2 TL

/-! ### == and != -/
mutual
def Dat.py : Dat → PyData
  | .non => .none
  | .bl b => .bool b
  | .int i => .int i
  | .str l => .str ⟨l.toArray⟩
  | .tup xs => .tuple (Dat.pyA xs)
  | .lst xs => .list (Dat.pyA xs)
  | .dic _ => .dict []
  | .scr _ => .dict []
def Dat.pyA : List Dat → List PyData
  | [] => []
  | x :: xs => x.py :: Dat.pyA xs
end
mutual
def Dat.eq : Dat → Dat → Bool
  | .non, .non => true
  | .bl a, .bl b => a == b
  | .bl a, .int j => (if a then 1 else 0) == j
  | .int i, .bl b => i == (if b then 1 else 0)
  | .int i, .int j => i == j
  | .str l, .str m => decide (l = m)
  | .tup xs, .tup ys => Dat.eqA xs ys
  | .lst xs, .lst ys => Dat.eqA xs ys
  | _, _ => false
def Dat.eqA : List Dat → List Dat → Bool
  | [], [] => true
  | x :: xs, y :: ys => Dat.eq x y && Dat.eqA xs ys
  | _, _ => false
end
theorem str_beq (l m : List Nat) : ((⟨l.toArray⟩ : Str) == ⟨m.toArray⟩) = decide (l = m) := by
  by_cases h : l = m
  · subst h
    simp
  · rw [decide_eq_false h]
    refine beq_eq_false_iff_ne.mpr fun e => h ?_
    have e1 := congrArg (fun s : Str => s.cps.toList) e
    simpa using e1
mutual
theorem Dat.eqv : ∀ x y : Dat, PyData.eqv x.py y.py = Dat.eq x y
  | .non, .non => by simp [Dat.py, PyData.eqv, Dat.eq]
  | .non, .bl _ => by simp [Dat.py, PyData.eqv, Dat.eq]
  | .non, .int _ => by simp [Dat.py, PyData.eqv, Dat.eq]
  | .non, .str _ => by simp [Dat.py, PyData.eqv, Dat.eq]
  | .non, .tup _ => by simp [Dat.py, PyData.eqv, Dat.eq]
  | .non, .lst _ => by simp [Dat.py, PyData.eqv, Dat.eq]
  | .non, .dic _ => by simp [Dat.py, PyData.eqv, Dat.eq]
  | .bl _, .non => by simp [Dat.py, PyData.eqv, Dat.eq]
  | .bl a, .bl b => by simp only [Dat.py, PyData.eqv, Dat.eq]
  | .bl a, .int b => by simp only [Dat.py, PyData.eqv, Dat.eq]
  | .bl _, .str _ => by simp [Dat.py, PyData.eqv, Dat.eq]
  | .bl _, .tup _ => by simp [Dat.py, PyData.eqv, Dat.eq]
  | .bl _, .lst _ => by simp [Dat.py, PyData.eqv, Dat.eq]
  | .bl _, .dic _ => by simp [Dat.py, PyData.eqv, Dat.eq]
  | .int _, .non => by simp [Dat.py, PyData.eqv, Dat.eq]
  | .int a, .bl b => by simp only [Dat.py, PyData.eqv, Dat.eq]
  | .int a, .int b => by simp only [Dat.py, PyData.eqv, Dat.eq]
  | .int _, .str _ => by simp [Dat.py, PyData.eqv, Dat.eq]
  | .int _, .tup _ => by simp [Dat.py, PyData.eqv, Dat.eq]
  | .int _, .lst _ => by simp [Dat.py, PyData.eqv, Dat.eq]
  | .int _, .dic _ => by simp [Dat.py, PyData.eqv, Dat.eq]
  | .str _, .non => by simp [Dat.py, PyData.eqv, Dat.eq]
  | .str _, .bl _ => by simp [Dat.py, PyData.eqv, Dat.eq]
  | .str _, .int _ => by simp [Dat.py, PyData.eqv, Dat.eq]
  | .str l, .str m => by
    show ((⟨l.toArray⟩ : Str) == ⟨m.toArray⟩) = decide (l = m)
    exact str_beq l m
  | .str _, .tup _ => by simp [Dat.py, PyData.eqv, Dat.eq]
  | .str _, .lst _ => by simp [Dat.py, PyData.eqv, Dat.eq]
  | .str _, .dic _ => by simp [Dat.py, PyData.eqv, Dat.eq]
  | .tup _, .non => by simp [Dat.py, PyData.eqv, Dat.eq]
  | .tup _, .bl _ => by simp [Dat.py, PyData.eqv, Dat.eq]
  | .tup _, .int _ => by simp [Dat.py, PyData.eqv, Dat.eq]
  | .tup _, .str _ => by simp [Dat.py, PyData.eqv, Dat.eq]
  | .tup xs, .tup ys => by
    show PyData.eqvAll (Dat.pyA xs) (Dat.pyA ys) = Dat.eqA xs ys
    exact Dat.eqvA xs ys
  | .tup _, .lst _ => by simp [Dat.py, PyData.eqv, Dat.eq]
  | .tup _, .dic _ => by simp [Dat.py, PyData.eqv, Dat.eq]
  | .lst _, .non => by simp [Dat.py, PyData.eqv, Dat.eq]
  | .lst _, .bl _ => by simp [Dat.py, PyData.eqv, Dat.eq]
  | .lst _, .int _ => by simp [Dat.py, PyData.eqv, Dat.eq]
  | .lst _, .str _ => by simp [Dat.py, PyData.eqv, Dat.eq]
  | .lst _, .tup _ => by simp [Dat.py, PyData.eqv, Dat.eq]
  | .lst xs, .lst ys => by
    show PyData.eqvAll (Dat.pyA xs) (Dat.pyA ys) = Dat.eqA xs ys
    exact Dat.eqvA xs ys
  | .lst _, .dic _ => by simp [Dat.py, PyData.eqv, Dat.eq]
  | .dic _, .non => by simp [Dat.py, PyData.eqv, Dat.eq]
  | .dic _, .bl _ => by simp [Dat.py, PyData.eqv, Dat.eq]
  | .dic _, .int _ => by simp [Dat.py, PyData.eqv, Dat.eq]
  | .dic _, .str _ => by simp [Dat.py, PyData.eqv, Dat.eq]
  | .dic _, .tup _ => by simp [Dat.py, PyData.eqv, Dat.eq]
  | .dic _, .lst _ => by simp [Dat.py, PyData.eqv, Dat.eq]
  | .dic _, .dic _ => by simp [Dat.py, PyData.eqv, Dat.eq]
  | .non, .scr _ => by simp [Dat.py, PyData.eqv, Dat.eq]
  | .scr _, .non => by simp [Dat.py, PyData.eqv, Dat.eq]
  | .bl _, .scr _ => by simp [Dat.py, PyData.eqv, Dat.eq]
  | .scr _, .bl _ => by simp [Dat.py, PyData.eqv, Dat.eq]
  | .int _, .scr _ => by simp [Dat.py, PyData.eqv, Dat.eq]
  | .scr _, .int _ => by simp [Dat.py, PyData.eqv, Dat.eq]
  | .str _, .scr _ => by simp [Dat.py, PyData.eqv, Dat.eq]
  | .scr _, .str _ => by simp [Dat.py, PyData.eqv, Dat.eq]
  | .tup _, .scr _ => by simp [Dat.py, PyData.eqv, Dat.eq]
  | .scr _, .tup _ => by simp [Dat.py, PyData.eqv, Dat.eq]
  | .lst _, .scr _ => by simp [Dat.py, PyData.eqv, Dat.eq]
  | .scr _, .lst _ => by simp [Dat.py, PyData.eqv, Dat.eq]
  | .dic _, .scr _ => by simp [Dat.py, PyData.eqv, Dat.eq]
  | .scr _, .dic _ => by simp [Dat.py, PyData.eqv, Dat.eq]
  | .scr _, .scr _ => by simp [Dat.py, PyData.eqv, Dat.eq]
theorem Dat.eqvA : ∀ xs ys : List Dat, PyData.eqvAll (Dat.pyA xs) (Dat.pyA ys) = Dat.eqA xs ys
  | [], [] => by simp [Dat.pyA, PyData.eqvAll, Dat.eqA]
  | [], _ :: _ => by simp [Dat.pyA, PyData.eqvAll, Dat.eqA]
  | _ :: _, [] => by simp [Dat.pyA, PyData.eqvAll, Dat.eqA]
  | x :: xs, y :: ys => by
    show (PyData.eqv x.py y.py && PyData.eqvAll (Dat.pyA xs) (Dat.pyA ys)) = (Dat.eq x y && Dat.eqA xs ys)
    rw [Dat.eqv x y, Dat.eqvA xs ys]
end
/-- plain data of a depth -/
def okn : Nat → Dat → Bool
  | _, .non => true
  | _, .bl _ => true
  | _, .int _ => true
  | _, .str l => l.all fun c => Nat.blt c 1114112
  | 0, .tup _ => false
  | 0, .lst _ => false
  | n + 1, .tup xs => xs.all (okn n)
  | n + 1, .lst xs => xs.all (okn n)
  | _, .dic _ => false
  | _, .scr _ => false
theorem okn_list (n : Nat) (ih : ∀ d : Dat, okn n d = true → PyData.canLay0 d.py = true ∧ PyData.depth d.py ≤ n) : ∀ xs : List Dat, xs.all (okn n) = true → PyData.canLayAll0 (Dat.pyA xs) = true ∧ PyData.depthAll (Dat.pyA xs) ≤ n
  | [], _ => ⟨rfl, Nat.zero_le _⟩
  | x :: xs, h => by
    rw [List.all_cons, Bool.and_eq_true] at h
    obtain ⟨h1, h2⟩ := h
    obtain ⟨a1, a2⟩ := ih x h1
    obtain ⟨b1, b2⟩ := okn_list n ih xs h2
    refine ⟨?_, ?_⟩
    · show (PyData.canLay0 x.py && PyData.canLayAll0 (Dat.pyA xs)) = true
      rw [a1, b1] <;> rfl
    · show max (PyData.depth x.py) (PyData.depthAll (Dat.pyA xs)) ≤ n
      omega
theorem okn_str {l : List Nat} (h : (l.all fun c => Nat.blt c 1114112) = true) : PyData.canLay0 (.str ⟨l.toArray⟩) = true := by
  show (l.toArray.all fun c => decide (c < 0x110000)) = true
  rw [List.all_toArray]
  rw [List.all_eq_true] at h ⊢
  intro c hc
  have z := h c hc
  exact decide_eq_true (Nat.blt_eq.mp z)
theorem okn_py : ∀ (n : Nat) (d : Dat), okn n d = true → PyData.canLay0 d.py = true ∧ PyData.depth d.py ≤ n
  | n, .non, _ => ⟨rfl, Nat.zero_le _⟩
  | n, .bl _, _ => ⟨rfl, Nat.zero_le _⟩
  | n, .int _, _ => ⟨rfl, Nat.zero_le _⟩
  | 0, .str l, h => ⟨okn_str h, Nat.zero_le _⟩
  | n + 1, .str l, h => ⟨okn_str h, Nat.zero_le _⟩
  | 0, .tup _, h => by cases h
  | 0, .lst _, h => by cases h
  | 0, .dic _, h => by cases h
  | n + 1, .dic _, h => by cases h
  | 0, .scr _, h => by cases h
  | n + 1, .scr _, h => by cases h
  | n + 1, .tup xs, h => by
    obtain ⟨a, b⟩ := okn_list n (okn_py n) xs h
    exact ⟨a, Nat.succ_le_succ b⟩
  | n + 1, .lst xs, h => by
    obtain ⟨a, b⟩ := okn_list n (okn_py n) xs h
    exact ⟨a, Nat.succ_le_succ b⟩
theorem okn_shaped {d : Dat} (h : okn 9 d = true) : SeqAt.shaped d.py = true := by
  obtain ⟨a, b⟩ := okn_py 9 d h
  show (PyData.canLay0 d.py && decide (PyData.depth d.py ≤ 64)) = true
  rw [a, decide_eq_true (by omega)] <;> rfl
theorem okn_mono : ∀ {n m : Nat} {d : Dat}, n ≤ m → okn n d = true → okn m d = true
  | n, m, .non, _, _ => by cases m <;> rfl
  | n, m, .bl _, _, _ => by cases m <;> rfl
  | n, m, .int _, _, _ => by cases m <;> rfl
  | 0, m, .str l, _, h => by cases m <;> exact h
  | n + 1, 0, .str l, _, h => h
  | n + 1, m + 1, .str l, _, h => h
  | 0, _, .tup _, _, h => by cases h
  | 0, _, .lst _, _, h => by cases h
  | 0, _, .dic _, _, h => by cases h
  | n + 1, _, .dic _, _, h => by cases h
  | 0, _, .scr _, _, h => by cases h
  | n + 1, _, .scr _, _, h => by cases h
  | n + 1, 0, .tup _, e, h => by omega
  | n + 1, 0, .lst _, e, h => by omega
  | n + 1, m + 1, .tup xs, e, h => by
    show xs.all (okn m) = true
    have h : xs.all (okn n) = true := h
    rw [List.all_eq_true] at h ⊢
    exact fun x hx => okn_mono (Nat.le_of_succ_le_succ e) (h x hx)
  | n + 1, m + 1, .lst xs, e, h => by
    show xs.all (okn m) = true
    have h : xs.all (okn n) = true := h
    rw [List.all_eq_true] at h ⊢
    exact fun x hx => okn_mono (Nat.le_of_succ_le_succ e) (h x hx)
mutual
theorem Rp.dp {K : PySem.W.Frag} {H : Hp} : ∀ {n : Nat} {v : V} {d : Dat}, Rp K H v d → okn n d = true → Dp K H v d.py
  | _, _, _, .non, _ => .non
  | _, _, _, .bl b, _ => .bl b
  | _, _, _, .int i, _ => .int i
  | _, _, _, .str l, _ => .str _
  | n + 1, _, _, .tup h a, o => .tup (SqT.of h) (RpA.dp (n := n) a o)
  | n + 1, _, _, .lst h a, o => .lst (SqL.of h) (RpA.dp (n := n) a o)
  | 0, _, _, .tup h a, o => by cases o
  | 0, _, _, .lst h a, o => by cases o
  | 0, _, _, .dic h, o => by cases o
  | n + 1, _, _, .dic h, o => by cases o
  | 0, _, _, .scr h, o => by cases o
  | n + 1, _, _, .scr h, o => by cases o
theorem RpA.dp {K : PySem.W.Frag} {H : Hp} : ∀ {n : Nat} {vs : List V} {ds : List Dat}, RpA K H vs ds → ds.all (okn n) = true → DpAll K H vs (Dat.pyA ds)
  | _, _, _, .nil, _ => .nil
  | n, _, _, .cons h a, o => by
    rw [List.all_cons, Bool.and_eq_true] at o
    exact .cons (Rp.dp h o.1) (RpA.dp a o.2)
end
theorem o_eqD {K : PySem.W.Frag} {x y : Dat} (hx : okn 9 x = true) (hy : okn 9 y = true) : Op2 K (rEqD K) x y (.bl (Dat.eq x y)) := fun B H vx vy Q c rx ry q => by
  refine ⟨x.py, y.py, (rx.mono (mask_sub B H)).dp hx, (ry.mono (mask_sub B H)).dp hy, okn_shaped hx, okn_shaped hy, ?_⟩
  rw [Dat.eqv]
  exact q _ H (Same.refl H) (.bl _)
theorem o_neD {K : PySem.W.Frag} {x y : Dat} (hx : okn 9 x = true) (hy : okn 9 y = true) : Op2 K (rNeD K) x y (.bl (!Dat.eq x y)) := fun B H vx vy Q c rx ry q => by
  refine ⟨x.py, y.py, (rx.mono (mask_sub B H)).dp hx, (ry.mono (mask_sub B H)).dp hy, okn_shaped hx, okn_shaped hy, ?_⟩
  rw [Dat.eqv]
  exact q _ H (Same.refl H) (.bl _)
mutual
theorem Dat.eq_refl : ∀ {n : Nat} (x : Dat), okn n x = true → Dat.eq x x = true
  | _, .non, _ => rfl
  | _, .bl b, _ => by simp [Dat.eq]
  | _, .int i, _ => by simp [Dat.eq]
  | _, .str l, _ => by simp [Dat.eq]
  | 0, .tup _, h => by cases h
  | 0, .lst _, h => by cases h
  | 0, .dic _, h => by cases h
  | _ + 1, .dic _, h => by cases h
  | 0, .scr _, h => by cases h
  | _ + 1, .scr _, h => by cases h
  | n + 1, .tup xs, h => by
    show Dat.eqA xs xs = true
    exact Dat.eqA_refl (n := n) xs h
  | n + 1, .lst xs, h => by
    show Dat.eqA xs xs = true
    exact Dat.eqA_refl (n := n) xs h
theorem Dat.eqA_refl : ∀ {n : Nat} (xs : List Dat), xs.all (okn n) = true → Dat.eqA xs xs = true
  | _, [], _ => rfl
  | n, x :: xs, h => by
    rw [List.all_cons, Bool.and_eq_true] at h
    show (Dat.eq x x && Dat.eqA xs xs) = true
    rw [Dat.eq_refl x h.1, Dat.eqA_refl xs h.2] <;> rfl
end
section
variable {X : Cx} {E : XK} {ρ : List Sl}
theorem d_eq {a b : Expr} {x y : Dat} {pos : Pos} (hu : X.A.units + 64 < cLine) (ha : D X E a ρ (.ok x)) (hb : D X E b ρ (.ok y)) (hx : okn 9 x = true) (hy : okn 9 y = true) : D X E (.Compare a [.Eq] [b] pos) ρ (.ok (.bl (Dat.eq x y))) := d_cmp (op_eqD hu) (o_eqD hx hy) ha hb
theorem d_ne {a b : Expr} {x y : Dat} {pos : Pos} (hu : X.A.units + 64 < cLine) (ha : D X E a ρ (.ok x)) (hb : D X E b ρ (.ok y)) (hx : okn 9 x = true) (hy : okn 9 y = true) : D X E (.Compare a [.NotEq] [b] pos) ρ (.ok (.bl (!Dat.eq x y))) := d_cmp (op_neD hu) (o_neD hx hy) ha hb
theorem t_eq {a b : Expr} {x y : Dat} {pos : Pos} (hu : X.A.units + 64 < cLine) (ha : D X E0 a ρ (.ok x)) (hb : D X E0 b ρ (.ok y)) (hx : okn 9 x = true) (hy : okn 9 y = true) : T X (.Compare a [.Eq] [b] pos) ρ (Dat.eq x y) := t_cmp (op_eqD hu) (o_eqD hx hy) ha hb
theorem t_ne {a b : Expr} {x y : Dat} {pos : Pos} (hu : X.A.units + 64 < cLine) (ha : D X E0 a ρ (.ok x)) (hb : D X E0 b ρ (.ok y)) (hx : okn 9 x = true) (hy : okn 9 y = true) : T X (.Compare a [.NotEq] [b] pos) ρ (!Dat.eq x y) := t_cmp (op_neD hu) (o_neD hx hy) ha hb
/-- is None -/
def Dat.isN : Dat → Bool
  | .non => true
  | _ => false
theorem rp_isN {K : PySem.W.Frag} {H : Hp} {v : V} {d : Dat} (h : Rp K H v d) : decide (v = .non) = d.isN := by cases h <;> rfl
theorem o_isN {K : PySem.W.Frag} {x : Dat} : Op2 K (fun x y H Q => y = .non ∧ Q (.bl (decide (x = .non))) H) x .non (.bl x.isN) := fun B H vx vy Q c rx ry q => ⟨rp_non ry, by rw [rp_isN rx]; exact q _ H (Same.refl H) (.bl _)⟩
theorem o_notN {K : PySem.W.Frag} {x : Dat} : Op2 K (fun x y H Q => y = .non ∧ Q (.bl (!decide (x = .non))) H) x .non (.bl (!x.isN)) := fun B H vx vy Q c rx ry q => ⟨rp_non ry, by rw [rp_isN rx]; exact q _ H (Same.refl H) (.bl _)⟩
theorem d_isN {a : Expr} {x : Dat} {j : Nat} {p pos : Pos} (ha : D X E a ρ (.ok x)) : D X E (.Compare a [.Is] [.Constant .none j p] pos) ρ (.ok (.bl x.isN)) := d_cmp op_isN o_isN ha d_non
theorem d_notN {a : Expr} {x : Dat} {j : Nat} {p pos : Pos} (ha : D X E a ρ (.ok x)) : D X E (.Compare a [.IsNot] [.Constant .none j p] pos) ρ (.ok (.bl (!x.isN))) := d_cmp op_notN o_notN ha d_non
theorem t_isN {a : Expr} {x : Dat} {j : Nat} {p pos : Pos} (ha : D X E0 a ρ (.ok x)) : T X (.Compare a [.Is] [.Constant .none j p] pos) ρ x.isN := t_cmp op_isN o_isN ha (d_non (E := E0))
theorem t_notN {a : Expr} {x : Dat} {j : Nat} {p pos : Pos} (ha : D X E0 a ρ (.ok x)) : T X (.Compare a [.IsNot] [.Constant .none j p] pos) ρ (!x.isN) := t_cmp op_notN o_notN ha (d_non (E := E0))

/-! ### len -/
theorem len_mk (l : List Nat) : (⟨l.toArray⟩ : Str).length = l.length := by simp [Str.length]
theorem rpA_one {K : PySem.W.Frag} {H : Hp} {vs : List V} {d : Dat} (h : RpA K H vs [d]) : ∃ v, vs = [v] ∧ Rp K H v d := by
  cases h with
  | cons h t =>
    cases t
    exact ⟨_, rfl, h⟩
theorem rpA_two {K : PySem.W.Frag} {H : Hp} {vs : List V} {d e : Dat} (h : RpA K H vs [d, e]) : ∃ v w, vs = [v, w] ∧ Rp K H v d ∧ Rp K H w e := by
  cases h with
  | cons h t =>
    obtain ⟨w, rfl, hw⟩ := rpA_one t
    exact ⟨_, _, rfl, h, hw⟩
abbrev rLen0 (K : PySem.W.Frag) : List V → Hp → VK → Prop := fun xs H Q => ∃ x n, xs = [x] ∧ LenV K x H n ∧ Q (.int n) H
theorem on_lenS {K : PySem.W.Frag} {l : List Nat} (h : l.length ≤ 100000) : OpN K (rLen0 K) [.str l] (.int l.length) := fun B H vs Q c r q => by
  obtain ⟨v, rfl, rv⟩ := rpA_one r
  refine ⟨v, l.length, rfl, ?_, q _ H (Same.refl H) (.int _)⟩
  rw [rp_str rv]
  exact ⟨by rw [len_mk]; exact Nat.le_trans h (by decide), (len_mk l).symm⟩
theorem on_lenT {K : PySem.W.Frag} {xs : List Dat} : OpN K (rLen0 K) [.tup xs] (.int xs.length) := fun B H vs Q c r q => by
  obtain ⟨v, rfl, rv⟩ := rpA_one r
  cases rv with
  | tup h a =>
    refine ⟨_, xs.length, rfl, .inr ⟨_, sqt_mono (mask_sub B H) (SqT.of h), a.length.symm⟩, q _ H (Same.refl H) (.int _)⟩
theorem on_lenL {K : PySem.W.Frag} {xs : List Dat} : OpN K (rLen0 K) [.lst xs] (.int xs.length) := fun B H vs Q c r q => by
  obtain ⟨v, rfl, rv⟩ := rpA_one r
  cases rv with
  | lst h a =>
    refine ⟨_, xs.length, rfl, .inl ⟨_, SqL.of (mask_sub B H _ _ h), a.length.symm⟩, q _ H (Same.refl H) (.int _)⟩
theorem d_lenS {a : Expr} {l : List Nat} {p pos : Pos} (hm : X.mg "len" = none) (ha : D X E a ρ (.ok (.str l))) (h : l.length ≤ 100000) (hg : Gl X "len" := by rfl) (he : starEach [a] X.env = (false, eval a X.env) :: starEach [] X.env := by rfl) : D X E (.Call (.Name "len" p) [a] [] pos) ρ (.ok (.int l.length)) :=
  d_callB call_len (on_lenS h) hm (da_one ha he) PySem.boot_len hg (he := he)
theorem d_lenT {a : Expr} {xs : List Dat} {p pos : Pos} (hm : X.mg "len" = none) (ha : D X E a ρ (.ok (.tup xs))) (hg : Gl X "len" := by rfl) (he : starEach [a] X.env = (false, eval a X.env) :: starEach [] X.env := by rfl) : D X E (.Call (.Name "len" p) [a] [] pos) ρ (.ok (.int xs.length)) :=
  d_callB call_len on_lenT hm (da_one ha he) PySem.boot_len hg (he := he)
theorem d_lenL {a : Expr} {xs : List Dat} {p pos : Pos} (hm : X.mg "len" = none) (ha : D X E a ρ (.ok (.lst xs))) (hg : Gl X "len" := by rfl) (he : starEach [a] X.env = (false, eval a X.env) :: starEach [] X.env := by rfl) : D X E (.Call (.Name "len" p) [a] [] pos) ρ (.ok (.int xs.length)) :=
  d_callB call_len on_lenL hm (da_one ha he) PySem.boot_len hg (he := he)

theorem on_lenR {K : PySem.W.Frag} {ns : List Int} : OpN K (rLen0 K) [.scr ns] (.int ns.length) := fun B H vs Q c r q => by
  obtain ⟨v, rfl, rv⟩ := rpA_one r
  cases rv with
  | scr h => exact ⟨_, ns.length, rfl, .inl ⟨_, (mask_sub B H).seq h, by rw [List.length_map]⟩, q _ H (Same.refl H) (.int _)⟩
theorem d_lenR {a : Expr} {ns : List Int} {p pos : Pos} (hm : X.mg "len" = none) (ha : D X E a ρ (.ok (.scr ns))) (hg : Gl X "len" := by rfl) (he : starEach [a] X.env = (false, eval a X.env) :: starEach [] X.env := by rfl) : D X E (.Call (.Name "len" p) [a] [] pos) ρ (.ok (.int ns.length)) :=
  d_callB call_len on_lenR hm (da_one ha he) PySem.boot_len hg (he := he)
/-! ### items -/
theorem d_ixR {a b : Expr} {ns : List Int} {i z : Int} {pos : Pos} (ha : D X E a ρ (.ok (.scr ns))) (hb : D X E b ρ (.ok (.int i))) (h : atI ns i = some z) (hs : PlainIx b := by exact fun _ _ => rfl) : D X E (.Subscript a b pos) ρ (.ok (.int z)) :=
  d_ix ix_list (fun B H vx vy Q c rx ry q => by
    cases rx with
    | scr hs =>
      refine ⟨_, _, i, .int z, rfl, rp_int ry, (mask_sub B H).seq hs, ?_, q _ H (Same.refl H) (.int z)⟩
      unfold atI at h ⊢
      rw [List.length_map]
      cases e : ixN ns.length i with
      | none => rw [e] at h; cases h
      | some j =>
        rw [e] at h
        have h : ns[j]? = some z := h
        show (ns.map V.int)[j]? = some (.int z)
        rw [List.getElem?_map, h]
        rfl) ha hb hs
theorem atI_rp {K : PySem.W.Frag} {H : Hp} {vs : List V} {ds : List Dat} {i : Int} {d : Dat} (r : RpA K H vs ds) (h : atI ds i = some d) : ∃ v, atI vs i = some v ∧ Rp K H v d := by
  unfold atI at h ⊢
  rw [r.length]
  cases e : ixN ds.length i with
  | none => rw [e] at h; cases h
  | some j =>
    rw [e] at h
    exact r.get h
theorem o_ixL {K : PySem.W.Frag} {xs : List Dat} {i : Int} {d : Dat} (h : atI xs i = some d) : Op2 K (rIxL K) (.lst xs) (.int i) d := fun B H vx vy Q c rx ry q => by
  cases rx with
  | lst hs a =>
    obtain ⟨v, h1, h2⟩ := atI_rp a h
    exact ⟨_, _, i, v, rfl, rp_int ry, SqL.of (mask_sub B H _ _ hs), h1, q v H (Same.refl H) h2⟩
theorem o_ixT {K : PySem.W.Frag} {xs : List Dat} {i : Int} {d : Dat} (h : atI xs i = some d) : Op2 K (rIxT K) (.tup xs) (.int i) d := fun B H vx vy Q c rx ry q => by
  cases rx with
  | tup hs a =>
    obtain ⟨v, h1, h2⟩ := atI_rp a h
    exact ⟨_, _, i, v, rfl, rp_int ry, sqt_mono (mask_sub B H) (SqT.of hs), h1, q v H (Same.refl H) h2⟩
theorem o_ixS {K : PySem.W.Frag} {l : List Nat} {i : Int} {c : Nat} (hl : l.length ≤ 100000) (h : atI l i = some c) : Op2 K rIxS (.str l) (.int i) (.str [c]) := fun B H vx vy Q cv rx ry q =>
  ⟨_, i, c, rp_str rx, rp_int ry, by rw [len_mk]; exact Nat.le_trans hl (by decide), h, q _ H (Same.refl H) (.str [c])⟩
theorem d_ixL {a b : Expr} {xs : List Dat} {i : Int} {d : Dat} {pos : Pos} (ha : D X E a ρ (.ok (.lst xs))) (hb : D X E b ρ (.ok (.int i))) (h : atI xs i = some d) (hs : PlainIx b := by exact fun _ _ => rfl) : D X E (.Subscript a b pos) ρ (.ok d) := d_ix ix_list (o_ixL h) ha hb hs
theorem d_ixT {a b : Expr} {xs : List Dat} {i : Int} {d : Dat} {pos : Pos} (ha : D X E a ρ (.ok (.tup xs))) (hb : D X E b ρ (.ok (.int i))) (h : atI xs i = some d) (hs : PlainIx b := by exact fun _ _ => rfl) : D X E (.Subscript a b pos) ρ (.ok d) := d_ix ix_tup (o_ixT h) ha hb hs
theorem d_ixS {a b : Expr} {l : List Nat} {i : Int} {c : Nat} {pos : Pos} (ha : D X E a ρ (.ok (.str l))) (hb : D X E b ρ (.ok (.int i))) (hl : l.length ≤ 100000) (h : atI l i = some c) (hs : PlainIx b := by exact fun _ _ => rfl) : D X E (.Subscript a b pos) ρ (.ok (.str [c])) := d_ix ix_str (o_ixS hl h) ha hb hs

/-! ### texts -/
theorem mk_app (l m : List Nat) : (⟨l.toArray⟩ : Str) ++ ⟨m.toArray⟩ = ⟨(l ++ m).toArray⟩ := by
  refine ext_tl ?_
  rw [tl_append]
theorem d_addS {a b : Expr} {l m : List Nat} {pos : Pos} (ha : D X E a ρ (.ok (.str l))) (hb : D X E b ρ (.ok (.str m))) (h : l.length + m.length ≤ 100000) : D X E (.BinOp a .Add b pos) ρ (.ok (.str (l ++ m))) :=
  d_op op_add_str (fun B H vx vy Q c rx ry q => ⟨_, _, rp_str rx, rp_str ry, by rw [len_mk, len_mk]; exact Nat.le_trans h (by decide), by rw [mk_app]; exact q _ H (Same.refl H) (.str _)⟩) ha hb
theorem rpA_strs {K : PySem.W.Frag} {H : Hp} : ∀ {ls : List (List Nat)} {vs : List V}, RpA K H vs (ls.map Dat.str) → vs = (ls.map fun l => (⟨l.toArray⟩ : Str)).map V.str
  | [], vs, h => by cases h; rfl
  | l :: ls, vs, h => by
    cases h with
    | cons h1 h2 =>
      rw [rp_str h1, rpA_strs h2]
      rfl
theorem join_mk (S : List Nat) (ls : List (List Nat)) : Txt.join ⟨S.toArray⟩ (ls.map fun l => (⟨l.toArray⟩ : Str)) = ⟨(joinL S ls).toArray⟩ := by
  refine ext_tl ?_
  rw [join_eq, tl_join, List.map_map]
  show joinL S (ls.map fun l => l) = joinL S ls
  rw [List.map_id']
theorem join_len (S : List Nat) (ls : List (List Nat)) : ((ls.map fun l => (⟨l.toArray⟩ : Str)).map (·.length)).sum = (ls.map List.length).sum := by
  rw [List.map_map]
  congr 1
theorem d_join {a b : Expr} {S : List Nat} {ls : List (List Nat)} {x : Dat} {apos pos : Pos} (ha : D X E a ρ (.ok (.str S))) (hb : D X E b ρ (.ok x)) (hx : x = .tup (ls.map Dat.str) ∨ x = .lst (ls.map Dat.str)) (hl : (ls.map List.length).sum + ls.length * S.length ≤ 100000)
    (hs : starEach [b] X.env = [(false, eval b X.env)] := by rfl) (hbase : attributeBase a "join" X.env (eval a X.env) = eval a X.env := by rfl) (hline : (apos.endLine == pos.line) = true := by rfl) : D X E (.Call (.Attribute a "join" apos) [b] [] pos) ρ (.ok (.str (joinL S ls))) := by
  refine D.of (pe_join ha hb hs hbase hline) fun B σ H Q c en q => ⟨B, c, en, fun va H1 s1 ra => ⟨⟨_, rp_str ra⟩, B, c.same s1, en.same s1, fun vb H2 s2 rb => ?_⟩⟩
  have hz : ((ls.map fun l => (⟨l.toArray⟩ : Str)).map (·.length)).sum + (ls.map fun l => (⟨l.toArray⟩ : Str)).length * (⟨S.toArray⟩ : Str).length ≤ 16777216 := by
    rw [join_len S, List.length_map, len_mk]
    omega
  have hq : Q (.str (Txt.join ⟨S.toArray⟩ (ls.map fun l => (⟨l.toArray⟩ : Str)))) H2 := by
    rw [join_mk]
    exact q _ H2 (s1.trans s2) (.str _)
  rcases hx with rfl | rfl
  · cases rb with
    | tup h r =>
      rw [rpA_strs r] at h
      exact ⟨_, _, _, rp_str ra, rfl, .inr (sqt_mono (mask_sub B H2) (SqT.of h)), hz, hq⟩
  · cases rb with
    | lst h r =>
      rw [rpA_strs r] at h
      exact ⟨_, _, _, rp_str ra, rfl, .inl (SqL.of (mask_sub B H2 _ _ h)), hz, hq⟩
/-- one sign in a text -/
theorem d_inSign {a b : Expr} {c : Nat} {l : List Nat} {pos : Pos} (ha : D X E a ρ (.ok (.str [c]))) (hb : D X E b ρ (.ok (.str l))) (hm : behindInMarks .In b = false := by rfl) : D X E (.Compare a [.In] [b] pos) ρ (.ok (.bl (decide (c ∈ l)))) :=
  d_cmp op_in_sign (fun B H vx vy Q cv rx ry q => ⟨c, _, rp_str rx, rp_str ry, q _ H (Same.refl H) (.bl _)⟩) ha hb hm
end
end G

set_option Elab.async false
set_option linter.all false
set_option maxRecDepth 100000
set_option maxHeartbeats 2000000
namespace G
open PySem PySem.Spec PyProof.Rows L2 TL

theorem EnvR.grow {K : PySem.W.Frag} {B B' : Addr → Bool} {H H' : Hp} {σ : L2.St} {ρ : List Sl} (e : EnvR K B H σ ρ) (hb : ∀ a, B a = true → B' a = true) (hs : Same H H') (hm : Same (mask B H) (mask B' H')) : EnvR K B' H' σ ρ := by
  refine ⟨e.len, fun i s h => ?_, e.sep⟩
  obtain ⟨o, h1, h2⟩ := e.at_ i s h
  refine ⟨o, h1, ?_⟩
  cases s with
  | un => exact True.intro
  | dt d =>
    cases o with
    | none => exact h2.elim
    | some v => exact Rp.mono hm h2
  | rf a =>
    cases o with
    | none => exact h2.elim
    | some v => exact h2
  | ml a ds =>
    cases o with
    | none => exact h2.elim
    | some v =>
      obtain ⟨e1, e2, vs, e3, e4⟩ := h2
      exact ⟨e1, hb _ e2, vs, hs _ _ e3, e4.mono hm⟩
  | md a kvs =>
    cases o with
    | none => exact h2.elim
    | some v =>
      obtain ⟨e1, e2, e3⟩ := h2
      exact ⟨e1, hb _ e2, hs _ _ e3⟩
  | di a =>
    cases o with
    | none => exact h2.elim
    | some v =>
      obtain ⟨e1, e2, c, n, e3⟩ := h2
      exact ⟨e1, hb _ e2, c, n, hs _ _ e3⟩
  | mg a oo ds =>
    cases o with
    | none => exact h2.elim
    | some v =>
      obtain ⟨e1, e2, vs, e3, e5, e4⟩ := h2
      exact ⟨e1, hb _ e2, vs, hs _ _ e3, e5, e4.mono hm⟩

/-! ### what is walked -/
def Yields (K : PySem.W.Frag) (B : Addr → Bool) (J : It) (H1 : Hp) (xs : List Dat) : Prop := ∀ (i : Nat) (H : Hp) (B' : Addr → Bool), Cov B' H → Sm (mask B H1) (mask B' H) →
  (i < xs.length → J.go i H ∧ ∀ v H', J.yld i H v H' → Same H H' ∧ ∃ d, xs[i]? = some d ∧ Rp K (mask B' H') v d) ∧ (i = xs.length → J.stop i H)
def tI (K : PySem.W.Frag) (ρ : List Sl) (xs : List Dat) : TI := fun σ H R => ∃ B, Cov B H ∧ EnvR K B H σ ρ ∧ ∀ J H1, Same H H1 → Yields K B J H1 xs → R J H1
abbrev I (X : Cx) (tg iter : Expr) (ρ : List Sl) (xs : List Dat) : Prop := PI X tg iter (tI X.K ρ xs)
theorem pi_imp {X : Cx} {tg iter : Expr} {t t' : TI} (h : PI X tg iter t) (k : ∀ σ H Q, t' σ H Q → t σ H Q) : PI X tg iter t' := ⟨fun pins s σ H R J q => h.run pins s σ H R J (k σ H R q)⟩
section
variable {X : Cx} {E : XK} {ρ : List Sl} {tg : Expr}
theorem i_list {e : Expr} {xs : List Dat} (h : D X E0 e ρ (.ok (.lst xs))) : I X tg e ρ xs :=
  pi_imp (pi_list h) fun σ H R ⟨B, c, en, q⟩ => ⟨B, c, en, fun v H1 s1 rv => by
    cases rv with
    | @lst a vs _ hs r =>
      refine ⟨a, rfl, ⟨vs, SqL.of (mask_sub B H1 _ _ hs)⟩, q _ H1 s1 fun i H2 B' cv sm => ?_⟩
      have hq : SqL X.K H2 a vs := SqL.of (mask_sub B' H2 _ _ (sm _ _ hs fun _ z => by cases z))
      refine ⟨fun hi => ⟨⟨vs, vs[i]'(by rw [r.length]; exact hi), hq, List.getElem?_eq_getElem _⟩, fun v H' y => ?_⟩, fun hi => ⟨vs, hq, by rw [r.length, hi]; exact Nat.le_refl _⟩⟩
      obtain ⟨e1, y⟩ := y
      subst e1
      obtain ⟨d, h1, h2⟩ := r.getV (y vs hq)
      exact ⟨Same.refl _, d, h1, h2.monoN sm⟩⟩
theorem i_tup {e : Expr} {xs : List Dat} (h : D X E0 e ρ (.ok (.tup xs))) : I X tg e ρ xs :=
  pi_imp (pi_tup h) fun σ H R ⟨B, c, en, q⟩ => ⟨B, c, en, fun v H1 s1 rv => by
    cases rv with
    | @tup a vs _ hs r =>
      refine ⟨a, rfl, ⟨vs, sqt_mono (mask_sub B H1) (SqT.of hs)⟩, q _ H1 s1 fun i H2 B' cv sm => ?_⟩
      have hq : SqT X.K H2 a vs := sqt_mono (mask_sub B' H2) (sqt_monoN sm (SqT.of hs))
      refine ⟨fun hi => ⟨⟨vs, vs[i]'(by rw [r.length]; exact hi), hq, List.getElem?_eq_getElem _⟩, fun v H' y => ?_⟩, fun hi => ⟨vs, hq, by rw [r.length, hi]; exact Nat.le_refl _⟩⟩
      obtain ⟨e1, y⟩ := y
      subst e1
      obtain ⟨d, h1, h2⟩ := r.getV (y vs hq)
      exact ⟨Same.refl _, d, h1, h2.monoN sm⟩⟩
theorem i_str {e : Expr} {l : List Nat} (h : D X E0 e ρ (.ok (.str l))) : I X tg e ρ (l.map fun c => .str [c]) :=
  pi_imp (pi_str h) fun σ H R ⟨B, c, en, q⟩ => ⟨B, c, en, fun v H1 s1 rv => by
    refine ⟨_, rp_str rv, q _ H1 s1 fun i H2 B' cv sm => ?_⟩
    refine ⟨fun hi => ⟨by rw [List.length_map] at hi; exact (show i < l.toArray.size by simpa using hi), fun v H' y => ?_⟩, fun hi => by rw [List.length_map] at hi; exact (show l.toArray.size ≤ i by simp [hi])⟩
    obtain ⟨e1, c, hc, e2⟩ := y
    subst e1 e2
    have hc' : l[i]? = some c := by simpa using hc
    exact ⟨Same.refl _, .str [c], by rw [List.getElem?_map, hc']; rfl, .str [c]⟩⟩
def rangeD (lo n : Int) : List Dat := (List.range (n - lo).toNat).map fun k => .int (lo + (k : Nat))
theorem yields_range {K : PySem.W.Frag} {B : Addr → Bool} {H1 : Hp} {lo : Int} {n : Nat} : Yields K B (Itr lo n) H1 ((List.range n).map fun k => .int (lo + (k : Nat))) := fun i H2 B' cv sm => by
  rw [List.length_map, List.length_range]
  refine ⟨fun hi => ⟨hi, fun v H' y => ?_⟩, fun hi => Nat.le_of_eq hi.symm⟩
  obtain ⟨e1, e2⟩ := y
  subst e1 e2
  exact ⟨Same.refl _, _, by rw [List.getElem?_map, List.getElem?_range hi]; rfl, .int _⟩
theorem i_range1 {a : Expr} {n : Int} {p pos : Pos} (hm : X.mg "range" = none) (ha : D X E0 a ρ (.ok (.int n))) (h : -(2 ^ 62) ≤ n ∧ n < 2 ^ 62) (hg : Gl X "range" := by rfl) (hs : starEach [a] X.env = [(false, eval a X.env)] := by rfl) :
    I X tg (.Call (.Name "range" p) [a] [] pos) ρ (rangeD 0 n) :=
  pi_imp (pi_range1 hg hm (da_one ha hs) hs) fun σ H R ⟨B, c, en, q⟩ => ⟨B, c, en, fun vs H1 s1 rs => by
    obtain ⟨v, rfl, rv⟩ := rpA_one rs
    refine ⟨n, by rw [rp_int rv], h.1, h.2, q _ H1 s1 ?_⟩
    have z := yields_range (K := X.K) (B := B) (H1 := H1) (lo := 0) (n := n.toNat)
    unfold rangeD
    rw [Int.sub_zero]
    exact z⟩
theorem i_range2 {a b : Expr} {m n : Int} {p pos : Pos} (hm : X.mg "range" = none) (ha : D X E0 a ρ (.ok (.int m))) (hb : D X E0 b ρ (.ok (.int n))) (h : -(2 ^ 62) ≤ m ∧ m < 2 ^ 62 ∧ -(2 ^ 62) ≤ n ∧ n < 2 ^ 62) (hg : Gl X "range" := by rfl)
    (hs : starEach [a, b] X.env = [(false, eval a X.env), (false, eval b X.env)] := by rfl) (hs2 : starEach [b] X.env = [(false, eval b X.env)] := by rfl) :
    I X tg (.Call (.Name "range" p) [a, b] [] pos) ρ (rangeD m n) :=
  pi_imp (pi_range2 hg hm (da_cons ha (da_one hb hs2) (by rw [hs, hs2])) hs hs2) fun σ H R ⟨B, c, en, q⟩ => ⟨B, c, en, fun vs H1 s1 rs => by
    obtain ⟨v, w, rfl, rv, rw'⟩ := rpA_two rs
    exact ⟨m, n, by rw [rp_int rv, rp_int rw'], h, q _ H1 s1 yields_range⟩⟩
theorem yields_rangeC {K : PySem.W.Frag} {B : Addr → Bool} {H1 : Hp} {lo c : Int} {n : Nat} : Yields K B (Itc lo c n) H1 ((List.range n).map fun k => .int (lo + (k : Nat) * c)) := fun i H2 B' cv sm => by
  rw [List.length_map, List.length_range]
  refine ⟨fun hi => ⟨hi, fun v H' y => ?_⟩, fun hi => Nat.le_of_eq hi.symm⟩
  obtain ⟨e1, e2⟩ := y
  subst e1 e2
  exact ⟨Same.refl _, _, by rw [List.getElem?_map, List.getElem?_range hi]; rfl, .int _⟩
/-- range(m, n, 2) -/
theorem i_range3 {a b c : Expr} {m n k : Int} {N : Nat} {p pos : Pos} (hm : X.mg "range" = none) (ha : D X E0 a ρ (.ok (.int m))) (hb : D X E0 b ρ (.ok (.int n))) (hc : D X E0 c ρ (.ok (.int k))) (h : RgC m n k N) (hg : Gl X "range" := by rfl)
    (h3 : PA X [a, b, c] (tDA X.K E0 ρ (.ok [.int m, .int n, .int k])) → PI X tg (.Call (.Name "range" p) [a, b, c] [] pos) (iRng3 (tDA X.K E0 ρ (.ok [.int m, .int n, .int k]))))
    (hs : starEach [a, b, c] X.env = (false, eval a X.env) :: starEach [b, c] X.env := by rfl) (hs1 : starEach [b, c] X.env = (false, eval b X.env) :: starEach [c] X.env := by rfl) (hs2 : starEach [c] X.env = (false, eval c X.env) :: starEach [] X.env := by rfl) :
    I X tg (.Call (.Name "range" p) [a, b, c] [] pos) ρ ((List.range N).map fun j => .int (m + (j : Nat) * k)) :=
  pi_imp (h3 (da_cons ha (da_cons hb (da_one hc hs2) hs1) hs)) fun σ H R ⟨B, c, en, q⟩ => ⟨B, c, en, fun vs H1 s1 rs => by
    cases rs with
    | cons r1 rs =>
      obtain ⟨v, w, rfl, rv, rw'⟩ := rpA_two rs
      exact ⟨m, n, k, N, by rw [rp_int r1, rp_int rv, rp_int rw'], h, q _ H1 s1 yields_rangeC⟩⟩
/-- reversed(range(n)) -/
theorem i_revR {a : Expr} {n : Int} {p p2 pos pos2 : Pos} (hm : X.mg "reversed" = none) (hm2 : X.mg "range" = none) (ha : D X E0 a ρ (.ok (.int n))) (h : 0 ≤ n ∧ n < 1000) (hg : Gl X "reversed" := by rfl) (hg2 : Gl X "range" := by rfl)
    (na : starEach [a] X.env = (false, eval a X.env) :: starEach [] X.env := by rfl) (hs : starEach [.Call (.Name "range" p2) [a] [] pos2] X.env = (false, eval (.Call (.Name "range" p2) [a] [] pos2) X.env) :: starEach [] X.env := by rfl) :
    I X tg (.Call (.Name "reversed" p) [.Call (.Name "range" p2) [a] [] pos2] [] pos) ρ ((List.range n.toNat).map fun k => .int (n - 1 - (k : Nat))) :=
  pi_imp (pi_revR hg hm (prg_1 hg2 hm2 ha na) hs) fun σ H R ⟨B, c, en, q⟩ => ⟨B, c, en, fun v H1 s1 rv => by
    refine ⟨n, rp_int rv, by omega, by omega, by omega, by omega, q _ H1 s1 ?_⟩
    have z := yields_rangeC (K := X.K) (B := B) (H1 := H1) (lo := 0 + (((n - 0).toNat : Nat) : Int) - 1) (c := -1) (n := (n - 0).toNat)
    have e : ((List.range (n - 0).toNat).map fun k => Dat.int (0 + (((n - 0).toNat : Nat) : Int) - 1 + (k : Nat) * -1)) = (List.range n.toNat).map fun k => Dat.int (n - 1 - (k : Nat)) := by
      rw [Int.sub_zero]
      refine List.map_congr_left fun k hk => ?_
      congr 1
      omega
    rw [e] at z
    exact z⟩
/-- reversed(tuple) -/
theorem i_revT {a : Expr} {xs : List Dat} {p pos : Pos} (hm : X.mg "reversed" = none) (ha : D X E0 a ρ (.ok (.tup xs))) (hg : Gl X "reversed" := by rfl) (hs : starEach [a] X.env = (false, eval a X.env) :: starEach [] X.env := by rfl) :
    I X tg (.Call (.Name "reversed" p) [a] [] pos) ρ xs.reverse :=
  pi_imp (RT.pi_revA hg hm ha hs) fun σ H R ⟨B, c, en, q⟩ => ⟨B, c, en, fun v H1 s1 rv => by
    cases rv with
    | @tup a vs _ hs r =>
      refine ⟨a, vs, rfl, .inr ⟨sqt_mono (mask_sub B H1) (SqT.of hs), q _ H1 s1 fun i H2 B' cv sm => ?_⟩⟩
      have hq : SqT X.K H2 a vs := sqt_mono (mask_sub B' H2) (sqt_monoN sm (SqT.of hs))
      have hl := r.length
      rw [List.length_reverse, ← hl]
      refine ⟨fun hi => ⟨⟨hi, vs, vs[vs.length - 1 - i]'(by omega), hq, List.getElem?_eq_getElem _⟩, fun v H' y => ?_⟩, fun hi => Nat.le_of_eq hi.symm⟩
      obtain ⟨e1, y⟩ := y
      subst e1
      obtain ⟨d, h1, h2⟩ := r.getV (y vs hq)
      refine ⟨Same.refl _, d, ?_, h2.monoN sm⟩
      rw [List.getElem?_reverse (by omega), ← hl]
      exact h1⟩

/-! ### targets -/
theorem wipe_set {σ : L2.St} {i : Nat} {o : Option V} : ∀ {vs : List Nat}, i ∈ vs → L2.wipe (σ.set i o) vs = L2.wipe σ vs
  | [], h => by cases h
  | v :: vs, h => by
    show (L2.wipe (σ.set i o) vs).set v none = (L2.wipe σ vs).set v none
    by_cases hv : i ∈ vs
    · rw [wipe_set hv]
    · have e : i = v := by
        rcases List.mem_cons.mp h with z | z
        · exact z
        · exact absurd z hv
      subst e
      have q : ∀ (vs : List Nat) (σ : L2.St), i ∉ vs → (L2.wipe (σ.set i o) vs).set i none = (L2.wipe σ vs).set i none := by
        intro vs
        induction vs with
        | nil =>
          intro σ _
          show (σ.set i o).set i none = σ.set i none
          rw [List.set_set]
        | cons u vs ih =>
          intro σ hn
          have h1 : i ≠ u := fun z => hn (by rw [z]; exact List.mem_cons_self)
          have h2 : i ∉ vs := fun z => hn (List.mem_cons_of_mem _ z)
          show ((L2.wipe (σ.set i o) vs).set u none).set i none = ((L2.wipe σ vs).set u none).set i none
          rw [List.set_comm _ _ (Ne.symm h1), ih σ h2, List.set_comm _ _ h1]
      exact q vs σ hv
def tG (K : PySem.W.Frag) (is : List Nat) (pr : Dat → Prop) (bd : Dat → List Sl → List Sl) : TG := fun v σ H Q => ∃ B x ρ, Cov B H ∧ EnvR K B H σ ρ ∧ Rp K (mask B H) v x ∧ pr x ∧
  ∀ σ', EnvR K B H σ' (bd x ρ) → (∀ vs : List Nat, (∀ i ∈ is, i ∈ vs) → L2.wipe σ' vs = L2.wipe σ vs) → Q σ' H
abbrev GT (X : Cx) (tg : Expr) (is : List Nat) (pr : Dat → Prop) (bd : Dat → List Sl → List Sl) : Prop := PG X tg (tG X.K is pr bd)
theorem pg_imp {X : Cx} {tg : Expr} {t t' : TG} (h : PG X tg t) (k : ∀ v σ H Q, t' v σ H Q → t v σ H Q) : PG X tg t' := ⟨fun pins s σ H x v Q J r q => h.run pins s σ H x v Q J r (k x σ H Q q)⟩
abbrev bd1 (i : Nat) : Dat → List Sl → List Sl := fun x ρ => ρ.set i (.dt x)
theorem gt_name {i : Nat} {x : Str} {pos : Pos} (hN : X.N.Nodup) (hi : X.N[i]? = some x := by rfl) (hx : Loc X.env.scope x := by first | exact Or.inl rfl | exact Or.inr rfl) (hf : X.fn x = true ∨ X.env.scope.names.lookup x = some .local := by first | exact .inl rfl | exact .inr rfl | assumption) :
    GT X (.Name x pos) [i] (fun _ => True) (bd1 i) :=
  pg_imp (pg_name hN hi hx hf) fun v σ H Q ⟨B, x, ρ, c, en, rv, _, q⟩ => q _ (en.setD i rv) fun vs h => wipe_set (h i (List.mem_singleton.mpr rfl))
def prPair : Dat → Prop := fun x => ∃ a b, x = .tup [a, b]
def bd2 (i j : Nat) : Dat → List Sl → List Sl := fun x ρ => match x with
  | .tup [a, b] => (ρ.set i (.dt a)).set j (.dt b)
  | _ => ρ
theorem gt_pair {i j : Nat} {x y : Str} {p1 p2 pos : Pos} {kk : Nat} (hc : X.calm = true) (hN : X.N.Nodup) (h2 : PGs X [.Name x p1, .Name y p2] (gCons (gName i) (gCons (gName j) gNil)) → PG X (.Tuple [.Name x p1, .Name y p2] kk pos) (gTup X.K 2 (gCons (gName i) (gCons (gName j) gNil)))) (hg : PGs X [.Name x p1, .Name y p2] (gCons (gName i) (gCons (gName j) gNil))) :
    GT X (.Tuple [.Name x p1, .Name y p2] kk pos) [i, j] prPair (bd2 i j) :=
  pg_imp (h2 hg) fun v σ H Q ⟨B, x, ρ, c, en, rv, ⟨a, b, e⟩, q⟩ => by
    subst e
    cases rv with
    | @tup ad vs _ hs r =>
      obtain ⟨va, vb, rfl, ra, rb⟩ := rpA_two r
      exact ⟨ad, [va, vb], rfl, sqt_mono (mask_sub B H) (SqT.of hs), rfl, va, [vb], rfl, vb, [], rfl, rfl, q _ ((en.setD i ra).setD j rb) fun vs h => by rw [wipe_set (h j (by simp)), wipe_set (h i (by simp))]⟩

/-! ### list comprehensions -/
theorem lc_core2 {J : It} {B : Addr → Bool} {H1 : Hp} {xs : List Dat} {pr : Dat → Prop} {is vs : List Nat} {bd : Dat → List Sl → List Sl} {p : Dat → Bool} {f : Dat → Dat} {K : PySem.W.Frag} {σ : L2.St} {Q : VK} {Dl : Addr} {tt : TT} {te : TE}
    (cv : Cov B H1) (en : EnvR K B H1 σ ρ) (hy : Yields K B J H1 xs) (hpr : ∀ x ∈ xs, pr x) (his : ∀ i ∈ is, i ∈ vs) (hl : xs.length ≤ 100000)
    (ht : ∀ x ∈ xs, ∀ B σ' H Q, Cov B H → EnvR K B H σ' (bd x (wipeρ ρ vs)) → (∀ H', Same H H' → Q (p x) H') → tt σ' H Q)
    (he : ∀ x ∈ xs, p x = true → ∀ B σ' H Q, Cov B H → EnvR K B H σ' (bd x (wipeρ ρ vs)) → (∀ v H', Same H H' → Rp K (mask B H') v (f x) → Q v H') → te σ' H Q)
    (nD : H1 Dl = none) (q : ∀ H', Same H1 H' → Rp K (mask B H') (.ref Dl) (.lst ((xs.filter p).map f)) → Q (.ref Dl) H') :
    ∃ W : Nat → Nat → Hp → Prop, (∃ m, W 0 m (upd H1 Dl (.lst []))) ∧ ∀ i m H, W i m H →
      (J.stop i H ∧ Q (.ref Dl) H) ∨ (J.go i H ∧ ∃ Nx : Hp → Prop, (∀ H', Nx H' → ∃ m', m' < m ∧ W (i + 1) m' H') ∧ ∀ x H', J.yld i H x H' → tG K is pr bd x (L2.wipe σ vs) H' fun σ2 H2 => L2.wipe σ2 vs = L2.wipe σ vs ∧ tt σ2 H2 fun b H3 =>
        if b = true then te σ2 H3 fun y H4 => ∃ acc, H4 Dl = some (.lst acc) ∧ acc.length < sizeLine ∧ Nx (upd H4 Dl (.lst (acc ++ [y]))) else Nx H3) := by
  have nB : B Dl = false := cv.new nD
  let B' : Addr → Bool := fun a => B a || decide (a = Dl)
  have hB' : ∀ a, B a = true → B' a = true := fun a h => by show (B a || _) = true; rw [h]; rfl
  have hBD : B' Dl = true := by show (B Dl || decide (Dl = Dl)) = true; simp
  have outB : ∀ a, B' a = false → B a = false ∧ a ≠ Dl := fun a h => by
    have h : (B a || decide (a = Dl)) = false := h
    rw [Bool.or_eq_false_iff] at h
    exact ⟨h.1, of_decide_eq_false h.2⟩
  let Pv : Nat → Hp → Prop := fun i H => Same H1 H ∧ ∃ us, H Dl = some (.lst us) ∧ us.length ≤ i ∧ RpA K (mask B' H) us ((((xs.take i).filter p)).map f)
  have covP : ∀ {i H}, Pv i H → Cov B' H := fun {i H} ⟨s, us, h, _⟩ a ha n => by
    by_cases e : a = Dl
    · rw [e, h] at n
      rcases n with n | ⟨_, n⟩ <;> cases n
    · have hb : B a = true := by
        have ha : (B a || decide (a = Dl)) = true := ha
        rw [decide_eq_false e, Bool.or_false] at ha
        exact ha
      exact (cv.same s) a hb n
  have maskP : ∀ {i H}, Pv i H → Same (mask B H1) (mask B' H) := fun {i H} ⟨s, _⟩ a o h => by
    obtain ⟨h1, h2⟩ := mask_some h
    have e : a ≠ Dl := ne_of_none h2 nD
    rw [mask_out (by show (B a || decide (a = Dl)) = false; rw [h1, decide_eq_false e]; rfl)]
    exact s _ _ h2
  refine ⟨fun i m H => m = xs.length - i ∧ i ≤ xs.length ∧ Pv i H, ⟨xs.length, by simp, Nat.zero_le _, same_upd nD, [], upd_same, Nat.le_refl _, .nil⟩, ?_⟩
  rintro i m H ⟨rfl, hi, pv⟩
  have cvH := covP pv
  have yy := hy i H B' cvH (Sm.of (maskP pv))
  obtain ⟨s, us, hD, hu, ru⟩ := id pv
  by_cases hlt : i < xs.length
  · obtain ⟨go, y⟩ := yy.1 hlt
    refine .inr ⟨go, Pv (i + 1), fun H' p' => ⟨xs.length - (i + 1), by omega, rfl, hlt, p'⟩, fun v H' yv => ?_⟩
    obtain ⟨s', d, hd, rd⟩ := y v H' yv
    have hmem : d ∈ xs := List.mem_of_getElem? hd
    have cv' : Cov B' H' := cvH.same s'
    have en' : EnvR K B' H' (L2.wipe σ vs) (wipeρ ρ vs) := (en.wipe vs).grow hB' (s.trans s') fun a o h => mask_same s' _ _ (maskP pv a o h)
    refine ⟨B', d, wipeρ ρ vs, cv', en', rd, hpr d hmem, fun σ2 en2 hw => ⟨by rw [hw vs his]; exact wipe_wipe σ vs, ?_⟩⟩
    refine ht d hmem B' σ2 H' _ cv' en2 fun H3 s3 => ?_
    have pvn : ∀ {H4 : Hp}, Same H' H4 → H4 Dl = some (.lst us) ∧ RpA K (mask B' H4) us (((xs.take i).filter p).map f) := fun {H4} s4 => ⟨s4 _ _ (s' _ _ hD), ru.mono (mask_same (s'.trans s4))⟩
    have tk : xs.take (i + 1) = xs.take i ++ [d] := by rw [List.take_add_one, hd]; rfl
    cases hp : p d with
    | false =>
      refine iteF ?_
      obtain ⟨z1, z2⟩ := pvn s3
      refine ⟨(s.trans s').trans s3, us, z1, Nat.le_succ_of_le hu, ?_⟩
      rw [tk, List.filter_append, show [d].filter p = [] by simp [hp], List.append_nil]
      exact z2
    | true =>
      refine iteT ?_
      refine he d hmem hp B' σ2 H3 _ (cv'.same s3) (en2.same s3) fun y H4 s4 ry => ?_
      obtain ⟨z1, z2⟩ := pvn (s3.trans s4)
      have hmask : mask B' (upd H4 Dl (.lst (us ++ [y]))) = mask B' H4 := by
        funext a
        by_cases e : a = Dl
        · rw [e, mask_in hBD, mask_in hBD]
        · unfold mask
          rw [upd_ne e]
      refine ⟨us, z1, Nat.lt_of_le_of_lt (Nat.le_trans hu (Nat.le_trans hi hl)) (by decide), fun a o h => ?_, us ++ [y], upd_same, by rw [List.length_append]; exact Nat.add_le_add hu (Nat.le_refl 1), ?_⟩
      · rw [upd_ne (ne_of_none h nD)]
        exact ((s.trans s').trans (s3.trans s4)) _ _ h
      · rw [hmask, tk, List.filter_append, show [d].filter p = [d] by simp [hp], List.map_append]
        exact z2.append (.cons ry .nil)
  · have e : i = xs.length := by omega
    subst e
    refine .inl ⟨yy.2 rfl, q H s ?_⟩
    rw [List.take_length] at ru
    refine .lst ?_ (ru.mono (mask_le hB'))
    rw [mask_out nB]
    exact hD
where
  wipe_wipe (σ : L2.St) (vs : List Nat) : L2.wipe (L2.wipe σ vs) vs = L2.wipe σ vs := by
    have q : ∀ (us vs : List Nat) (σ : L2.St), (∀ u ∈ us, u ∈ vs) → L2.wipe (L2.wipe σ us) vs = L2.wipe σ vs := by
      intro us
      induction us with
      | nil => intro vs σ _; rfl
      | cons u us ih =>
        intro vs σ h
        show L2.wipe ((L2.wipe σ us).set u none) vs = L2.wipe σ vs
        rw [wipe_set (h u List.mem_cons_self), ih vs σ fun z hz => h z (List.mem_cons_of_mem _ hz)]
    exact q vs vs σ fun _ h => h
abbrev Bk (X : Cx) (scope : Scope) (P : Cx → Prop) : Prop := ∀ (s : Shared) (H : Hp) (C : Addr) (cl : List (Str × Addr)) (fp : List Addr), P (X.blk s H scope (compEnvC scope cl C X.env) fp)
theorem d_lc0 {elt iter : Expr} {scope : Scope} {own : List (Str × Nat)} {pos : Pos} {xs : List Dat} {is : List Nat} {pr : Dat → Prop} {bd : Dat → List Sl → List Sl} {f : Dat → Dat} (hc : X.calm = true) (hN : X.N.Nodup) (hi : I X tg iter ρ xs) (ok : BlkOk X.N X.env.scope scope own)
    (hg : Bk X scope fun Y => GT Y tg is pr bd) (he : ∀ x ∈ xs, Bk X scope fun Y => D Y E0 elt (bd x (wipeρ ρ (own.map (·.2)))) (.ok (f x))) (hpr : ∀ x ∈ xs, pr x) (his : ∀ i ∈ is, i ∈ own.map (·.2)) (hl : xs.length ≤ 100000)
    (hs : ∀ x, foldedSetIterable iter X.env x = pure x := by intro _; rfl) : D X E (.ListComp elt [⟨tg, iter, [], 0⟩] scope pos) ρ (.ok (.lst (xs.map f))) := by
  refine D.of (pe_lc (g := tG X.K is pr bd) (te := fun σ H Q => ∃ x : { x // x ∈ xs }, tD X.K E0 (bd x.1 (wipeρ ρ (own.map (·.2)))) (.ok (f x.1)) σ H Q) hc hN hi ok hg (fun _ _ _ _ _ => pts_nil) (fun s H C cl fp => pe_ex fun x => he x.1 x.2 s H C cl fp) hs) fun B σ H Q c en q => ⟨B, c, en, fun J H1 s1 hy Dl nD => ?_⟩
  refine lc_core2 (bd := bd) (tt := tYes) (te := fun σ H Q => ∃ x : { x // x ∈ xs }, tD X.K E0 (bd x.1 (wipeρ ρ (own.map (·.2)))) (.ok (f x.1)) σ H Q) (Q := Q) (p := fun _ => true) (f := f) (c.same s1) (en.same s1) hy hpr his hl (fun x _ B σ' H Q _ _ k => k H (Same.refl H)) (fun x hx _ B σ' H Q cv en k => ⟨⟨x, hx⟩, B, cv, en, k⟩) nD fun H' s' r => ?_
  rw [List.filter_eq_self.mpr fun _ _ => rfl] at r
  exact q _ H' (s1.trans s') r
theorem d_lc1 {elt iter cond : Expr} {scope : Scope} {own : List (Str × Nat)} {pos : Pos} {xs : List Dat} {is : List Nat} {pr : Dat → Prop} {bd : Dat → List Sl → List Sl} {p : Dat → Bool} {f : Dat → Dat} (hc : X.calm = true) (hN : X.N.Nodup) (hi : I X tg iter ρ xs) (ok : BlkOk X.N X.env.scope scope own)
    (hg : Bk X scope fun Y => GT Y tg is pr bd) (ht : ∀ x ∈ xs, Bk X scope fun Y => T Y cond (bd x (wipeρ ρ (own.map (·.2)))) (p x)) (he : ∀ x ∈ xs, p x = true → Bk X scope fun Y => D Y E0 elt (bd x (wipeρ ρ (own.map (·.2)))) (.ok (f x))) (hpr : ∀ x ∈ xs, pr x) (his : ∀ i ∈ is, i ∈ own.map (·.2)) (hl : xs.length ≤ 100000)
    (hs : ∀ x, foldedSetIterable iter X.env x = pure x := by intro _; rfl) : D X E (.ListComp elt [⟨tg, iter, [cond], 0⟩] scope pos) ρ (.ok (.lst ((xs.filter p).map f))) := by
  refine D.of (pe_lc (g := tG X.K is pr bd) (tt := fun σ H Q => ∃ x : { x // x ∈ xs }, tDT X.K (bd x.1 (wipeρ ρ (own.map (·.2)))) (p x.1) σ H Q) (te := fun σ H Q => ∃ x : { x // x ∈ xs ∧ p x = true }, tD X.K E0 (bd x.1 (wipeρ ρ (own.map (·.2)))) (.ok (f x.1)) σ H Q) hc hN hi ok hg (fun s H C cl fp => pts_one (pt_ex fun x => ht x.1 x.2 s H C cl fp)) (fun s H C cl fp => pe_ex fun x => he x.1 x.2.1 x.2.2 s H C cl fp) hs) fun B σ H Q c en q => ⟨B, c, en, fun J H1 s1 hy Dl nD => ?_⟩
  exact lc_core2 (bd := bd) (tt := fun σ H Q => ∃ x : { x // x ∈ xs }, tDT X.K (bd x.1 (wipeρ ρ (own.map (·.2)))) (p x.1) σ H Q) (te := fun σ H Q => ∃ x : { x // x ∈ xs ∧ p x = true }, tD X.K E0 (bd x.1 (wipeρ ρ (own.map (·.2)))) (.ok (f x.1)) σ H Q) (Q := Q) (p := p) (f := f) (c.same s1) (en.same s1) hy hpr his hl (fun x hx B σ' H Q cv en k => ⟨⟨x, hx⟩, B, cv, en, k⟩) (fun x hx hp B σ' H Q cv en k => ⟨⟨x, hx, hp⟩, B, cv, en, k⟩) nD fun H' s' r => q _ H' (s1.trans s') r
end
end G

set_option Elab.async false
set_option linter.all false
set_option maxRecDepth 100000
set_option maxHeartbeats 2000000
namespace G
open PySem PySem.Spec PyProof.Rows L2 TL

/-! ### the world of a body: the caller's heap H0 (masked B0), what of it may change (M), what must stay (fr), what else holds (Iv) -/
def teO : HO → Bool
  | .tbl _ => true
  | .ext _ => true
  | .tup _ => true
  | _ => false
structure Wl where
  H0 : Hp
  B0 : Addr → Bool
  M : Addr → Bool
  fr : Hp
  Iv : Hp → Prop
  st : ∀ H H' : Hp, (∀ a o, H a = some o → teO o = true → H' a = some o) → Iv H → Iv H'
  cov0 : Cov B0 H0
  dc : Addr → Bool
  tT : Addr → Bool
def Wl.fram (W : Wl) (fr : Hp) : Wl := { W with fr := fr }
structure Wd (W : Wl) (B : Addr → Bool) (H : Hp) : Prop where
  old : ∀ a o, W.M a = false → W.H0 a = some o → H a = some o
  b0 : ∀ a, W.B0 a = true → B a = true
  cov : Cov B H
  fr : Sm W.fr (mask B H)
  iv : W.Iv H
  di : ∀ a, W.dc a = true → B a = true ∧ ∃ c n, H a = some (.lst [.int c, .int n])
  tb : ∀ a ps, B a = true → H a = some (.tbl ps) → W.tT a = true
/-- a place that may be written -/
def Wr (W : Wl) (a : Addr) : Prop := (W.M a = false → W.H0 a = none) ∧ W.dc a = false
theorem Wd.same {W : Wl} {B : Addr → Bool} {H H' : Hp} (w : Wd W B H) (s : Same H H') : Wd W B H' :=
  ⟨fun a o m h => s _ _ (w.old a o m h), w.b0, w.cov.same s, w.fr.trans (Sm.of (mask_same s)), W.st H H' (fun a o h _ => s _ _ h) w.iv, (fun a h => let ⟨h1, c, n, h2⟩ := w.di a h; ⟨h1, c, n, s _ _ h2⟩), fun a ps hb h => by
    cases q : H a with
    | none => exact absurd (Or.inl q) (w.cov a hb)
    | some o =>
      rw [s _ _ q] at h
      have h := Option.some.inj h
      rw [h] at q
      exact w.tb a ps hb q⟩
theorem Wd.new {W : Wl} {B : Addr → Bool} {H : Hp} {p : Addr} (w : Wd W B H) (h : H p = none) : Wr W p := by
  refine ⟨fun m => ?_, ?_⟩
  · cases q : W.H0 p with
    | none => rfl
    | some o =>
      rw [w.old p o m q] at h
      cases h
  · cases q : W.dc p with
    | false => rfl
    | true =>
      obtain ⟨_, c, n, h2⟩ := w.di p q
      rw [h] at h2
      cases h2
inductive Out where
  | nx (ρ : List Sl) : Out
  | rt (d : Dat) : Out
  | er (c : Value) : Out
  | bk (ρ : List Sl) : Out
  | ct (ρ : List Sl) : Out
  | re (ρ : List Sl) (d : Dat) : Out
  | ee (ρ : List Sl) (c : Value) : Out
structure PostS (K : PySem.W.Frag) (E : XK) (W : Wl) (P : Out → Prop) (D : Ends) : Prop where
  nx : ∀ ρ σ H B, P (.nx ρ) → Wd W B H → EnvR K B H σ ρ → D.nx σ H
  rt : ∀ d v H B, P (.rt d) → Wd W B H → Rp K (mask B H) v d → D.rt v H
  er : ∀ c H B, P (.er c) → Wd W B H → E c none H
  bk : ∀ ρ σ H B, P (.bk ρ) → Wd W B H → EnvR K B H σ ρ → D.bk σ H
  ct : ∀ ρ σ H B, P (.ct ρ) → Wd W B H → EnvR K B H σ ρ → D.ct σ H
  re : ∀ ρ σ d v H B, P (.re ρ d) → Wd W B H → EnvR K B H σ ρ → Rp K (mask B H) v d → D.rt v H
  ee : ∀ ρ σ c H B, P (.ee ρ c) → Wd W B H → EnvR K B H σ ρ → E c none H
def tS (K : PySem.W.Frag) (E : XK) (W : Wl) (ρ : List Sl) (P : Out → Prop) : TS := fun D σ H => ∃ B, Wd W B H ∧ EnvR K B H σ ρ ∧ PostS K E W P D
abbrev S1 (X : Cx) (E : XK) (W : Wl) (s : Stmt) (ρ : List Sl) (P : Out → Prop) : Prop := PS X s (tS X.K E W ρ P)
abbrev SS (X : Cx) (E : XK) (W : Wl) (s : List Stmt) (ρ : List Sl) (P : Out → Prop) : Prop := PSs X s (tS X.K E W ρ P)
theorem ps_imp {X : Cx} {s : Stmt} {t t' : TS} (h : PS X s t) (k : ∀ D σ H, t' D σ H → t D σ H) : PS X s t' := ⟨fun pins s σ H D J q => h.run pins s σ H D J (k D σ H q)⟩
theorem pss_imp {X : Cx} {s : List Stmt} {t t' : TS} (h : PSs X s t) (k : ∀ D σ H, t' D σ H → t D σ H) : PSs X s t' := ⟨fun pins s σ H D J q => h.run pins s σ H D J (k D σ H q)⟩
theorem pss_ex {X : Cx} {s : List Stmt} {ι : Type} {t : ι → TS} (h : ∀ i, PSs X s (t i)) : PSs X s (fun D σ H => ∃ i, t i D σ H) := ⟨fun pins s σ H D J ⟨i, q⟩ => (h i).run pins s σ H D J q⟩
theorem ps_ex {X : Cx} {s : Stmt} {ι : Type} {t : ι → TS} (h : ∀ i, PS X s (t i)) : PS X s (fun D σ H => ∃ i, t i D σ H) := ⟨fun pins s σ H D J ⟨i, q⟩ => (h i).run pins s σ H D J q⟩
def Th (X : Cx) (E : XK) (W : Wl) (rest : List Stmt) (P : Out → Prop) : Out → Prop
  | .nx ρ => SS X E W rest ρ P
  | o => P o
section
variable {X : Cx} {E : XK} {W : Wl} {ρ : List Sl} {P : Out → Prop}
theorem SS.mono {s : List Stmt} {P' : Out → Prop} (h : SS X E W s ρ P') (k : ∀ o, P' o → P o) : SS X E W s ρ P :=
  pss_imp h fun D σ H ⟨B, w, en, p⟩ => ⟨B, w, en, fun ρ σ H B q => p.nx ρ σ H B (k _ q), fun d v H B q => p.rt d v H B (k _ q), fun c H B q => p.er c H B (k _ q), fun ρ σ H B q => p.bk ρ σ H B (k _ q), fun ρ σ H B q => p.ct ρ σ H B (k _ q), fun ρ σ d v H B q => p.re ρ σ d v H B (k _ q), fun ρ σ c H B q => p.ee ρ σ c H B (k _ q)⟩
theorem S1.mono {s : Stmt} {P' : Out → Prop} (h : S1 X E W s ρ P') (k : ∀ o, P' o → P o) : S1 X E W s ρ P :=
  ps_imp h fun D σ H ⟨B, w, en, p⟩ => ⟨B, w, en, fun ρ σ H B q => p.nx ρ σ H B (k _ q), fun d v H B q => p.rt d v H B (k _ q), fun c H B q => p.er c H B (k _ q), fun ρ σ H B q => p.bk ρ σ H B (k _ q), fun ρ σ H B q => p.ct ρ σ H B (k _ q), fun ρ σ d v H B q => p.re ρ σ d v H B (k _ q), fun ρ σ c H B q => p.ee ρ σ c H B (k _ q)⟩
theorem SS.weak {s : List Stmt} {ρ' : List Sl} (h : SS X E W s ρ' P) (w : Wk ρ ρ') : SS X E W s ρ P := pss_imp h fun D σ H ⟨B, wd, en, p⟩ => ⟨B, wd, en.weak w, p⟩
theorem ss_nil (h : P (.nx ρ)) : SS X E W [] ρ P := pss_imp pss_nil fun D σ H ⟨B, w, en, p⟩ => p.nx ρ σ H B h w en
theorem ss_cons {s : Stmt} {rest : List Stmt} (h : S1 X E W s ρ (Th X E W rest P)) : SS X E W (s :: rest) ρ P := by
  refine pss_imp (pss_cons h (pss_ex (ι := { ρ' // SS X E W rest ρ' P }) (t := fun r => tS X.K E W r.1 P) fun r => r.2)) fun D σ H ⟨B, w, en, p⟩ => ?_
  exact ⟨B, w, en, fun ρ' σ' H' B' q w' en' => ⟨⟨ρ', q⟩, B', w', en', p⟩, p.rt, p.er, p.bk, p.ct, p.re, p.ee⟩
theorem ss_one {s : Stmt} (h : S1 X E W s ρ P) : SS X E W [s] ρ P := ss_cons (h.mono fun o q => by
  cases o with
  | nx ρ => exact ss_nil q
  | rt d => exact q
  | er c => exact q
  | bk ρ => exact q
  | ct ρ => exact q
  | re ρ d => exact q
  | ee ρ c => exact q)
theorem s_ret {e : Expr} {d : Dat} {pos : Pos} (h : D X E e ρ (.ok d)) (q : P (.rt d)) : S1 X E W (.Return (some e) pos) ρ P :=
  ps_imp (ps_ret h) fun D σ H ⟨B, w, en, p⟩ => ⟨B, w.cov, en, fun v H' s r => p.rt d v H' B q (w.same s) r⟩
theorem s_retE {e : Expr} {c : Value} {pos : Pos} (h : D X E e ρ (.err c)) (q : P (.er c)) : S1 X E W (.Return (some e) pos) ρ P :=
  ps_imp (ps_ret h) fun D σ H ⟨B, w, en, p⟩ => ⟨B, w.cov, en, fun H' s => p.er c H' B q (w.same s)⟩
theorem s_expr {e : Expr} {d : Dat} {pos : Pos} (h : D X E e ρ (.ok d)) (q : P (.nx ρ)) (hs : swapsWith e none pos.line X.env = pure false := by rfl) : S1 X E W (.Expr e pos) ρ P :=
  ps_imp (ps_expr h hs) fun D σ H ⟨B, w, en, p⟩ => ⟨B, w.cov, en, fun v H' s r => p.nx ρ σ H' B q (w.same s) (en.same s)⟩
theorem s_exprE {e : Expr} {c : Value} {pos : Pos} (h : D X E e ρ (.err c)) (q : P (.er c)) (hs : swapsWith e none pos.line X.env = pure false := by rfl) : S1 X E W (.Expr e pos) ρ P :=
  ps_imp (ps_expr h hs) fun D σ H ⟨B, w, en, p⟩ => ⟨B, w.cov, en, fun H' s => p.er c H' B q (w.same s)⟩
theorem s_set (i : Nat) {x : Str} {e : Expr} {d : Dat} {pos pos' : Pos} (hN : X.N.Nodup) (h : D X E e ρ (.ok d)) (q : P (.nx (ρ.set i (.dt d)))) (hi : X.N[i]? = some x := by rfl) (hx : Loc X.env.scope x := by first | exact Or.inl rfl | exact Or.inr rfl)
    (hs : swapsWith e (some (.Name x pos')) pos.line X.env = pure false := by rfl) (hf : X.fn x = true ∨ X.env.scope.names.lookup x = some .local := by first | exact .inl rfl | exact .inr rfl | assumption) : S1 X E W (.Assign [.Name x pos'] e pos) ρ P :=
  ps_imp (ps_set hN hi hx h hs hf) fun D σ H ⟨B, w, en, p⟩ => ⟨B, w.cov, en, fun v H' s r => p.nx _ _ H' B q (w.same s) ((en.same s).setD i r)⟩
theorem s_setE {x : Str} {i : Nat} {e : Expr} {c : Value} {pos pos' : Pos} (hN : X.N.Nodup) (h : D X E e ρ (.err c)) (q : P (.er c)) (hi : X.N[i]? = some x := by rfl) (hx : Loc X.env.scope x := by first | exact Or.inl rfl | exact Or.inr rfl)
    (hs : swapsWith e (some (.Name x pos')) pos.line X.env = pure false := by rfl) (hf : X.fn x = true ∨ X.env.scope.names.lookup x = some .local := by first | exact .inl rfl | exact .inr rfl | assumption) : S1 X E W (.Assign [.Name x pos'] e pos) ρ P :=
  ps_imp (ps_set hN hi hx h hs hf) fun D σ H ⟨B, w, en, p⟩ => ⟨B, w.cov, en, fun H' s => p.er c H' B q (w.same s)⟩
theorem s_if {c : Expr} {th el : List Stmt} {b : Bool} {pos : Pos} (t : T X c ρ b) (h1 : b = true → SS X E W th ρ P) (h2 : b = false → SS X E W el ρ P) : S1 X E W (.If c th el pos) ρ P := by
  cases b with
  | true =>
    refine ps_imp (ps_if t (h1 rfl) pss_never) fun D σ H ⟨B, w, en, p⟩ => ⟨B, w.cov, en, fun H' s => ?_⟩
    exact iteT ⟨B, w.same s, en.same s, p⟩
  | false =>
    refine ps_imp (ps_if t pss_never (h2 rfl)) fun D σ H ⟨B, w, en, p⟩ => ⟨B, w.cov, en, fun H' s => ?_⟩
    exact iteF ⟨B, w.same s, en.same s, p⟩
/-- a, b = e, e a pair -/
theorem s_asg2 {i j : Nat} {e tg : Expr} {a b : Dat} {pos : Pos} (hg : GT X tg [i, j] prPair (bd2 i j)) (h : D X E e ρ (.ok (.tup [a, b]))) (q : P (.nx ((ρ.set i (.dt a)).set j (.dt b))))
    (h2 : PE X e (tD X.K E ρ (.ok (.tup [a, b]))) → PG X tg (tG X.K [i, j] prPair (bd2 i j)) → PS X (.Assign [tg] e pos) (tAsg (tD X.K E ρ (.ok (.tup [a, b]))) (tG X.K [i, j] prPair (bd2 i j)))) : S1 X E W (.Assign [tg] e pos) ρ P :=
  ps_imp (h2 h hg) fun D σ H ⟨B, w, en, p⟩ => ⟨B, w.cov, en, fun v H' s r => ⟨B, _, ρ, w.cov.same s, en.same s, r, ⟨a, b, rfl⟩, fun σ' en' _ => p.nx _ _ H' B q (w.same s) en'⟩⟩
/-- a, b = e1, e2: two locals -/
theorem s_par {i j : Nat} {x y : Str} {a b : Expr} {u v : Dat} {px py pt : Pos} {kt k2 : Nat} {pt2 pos : Pos} (h2 : PA X [a, b] (tDA X.K E ρ (.ok [u, v])) → PS X (.Assign [.Tuple [.Name x px, .Name y py] kt pt] (.Tuple [a, b] k2 pt2) pos) (tPar i j (tDA X.K E ρ (.ok [u, v]))))
    (h : DA X E [a, b] ρ (.ok [u, v])) (q : P (.nx ((ρ.set i (.dt u)).set j (.dt v)))) : S1 X E W (.Assign [.Tuple [.Name x px, .Name y py] kt pt] (.Tuple [a, b] k2 pt2) pos) ρ P :=
  ps_imp (h2 h) fun D σ H ⟨B, w, en, p⟩ => ⟨B, w.cov, en, fun vs H' s r => by
    obtain ⟨va, vb, rfl, ra, rb⟩ := rpA_two r
    exact ⟨va, vb, rfl, p.nx _ _ H' B q (w.same s) (((en.same s).setD i ra).setD j rb)⟩⟩
theorem s_parE {i j : Nat} {x y : Str} {a b : Expr} {c : Value} {px py pt : Pos} {kt k2 : Nat} {pt2 pos : Pos} (h2 : PA X [a, b] (tDA X.K E ρ (.error c)) → PS X (.Assign [.Tuple [.Name x px, .Name y py] kt pt] (.Tuple [a, b] k2 pt2) pos) (tPar i j (tDA X.K E ρ (.error c))))
    (h : DA X E [a, b] ρ (.error c)) (q : P (.er c)) : S1 X E W (.Assign [.Tuple [.Name x px, .Name y py] kt pt] (.Tuple [a, b] k2 pt2) pos) ρ P :=
  ps_imp (h2 h) fun D σ H ⟨B, w, en, p⟩ => ⟨B, w.cov, en, fun H' s => p.er c H' B q (w.same s)⟩
/-! ### loops -/
def Lp (R : List Sl → Prop) (P : Out → Prop) : Out → Prop
  | .nx ρ => R ρ
  | .ct ρ => R ρ
  | .bk ρ => P (.nx ρ)
  | .rt d => P (.rt d)
  | .er c => P (.er c)
  | .re ρ d => P (.re ρ d)
  | .ee ρ c => P (.ee ρ c)
theorem s_for {tg iter : Expr} {body : List Stmt} {xs : List Dat} {is : List Nat} {pr : Dat → Prop} {bd : Dat → List Sl → List Sl} {pos : Pos} (R : Nat → List Sl → Prop) (hp : PassesOwn (model X.prog X.w) X.A X.env X.xe) (hi : I X tg iter ρ xs) (hg : GT X tg is pr bd) (hpr : ∀ x ∈ xs, pr x) (h0 : R 0 ρ)
    (hs : ∀ (fr : Hp) (i : Nat) (x : Dat) (ρ' : List Sl), xs[i]? = some x → R i ρ' → SS X E (W.fram fr) body (bd x ρ') (Lp (R (i + 1)) P)) (hd : ∀ ρ', R xs.length ρ' → P (.nx ρ')) (hc : X.calm = true := by rfl) (hf : ∀ x, foldedSetIterable iter X.env x = pure x := by intro _; rfl) :
    S1 X E W (.For tg iter body [] pos) ρ P := by
  refine ps_imp (ps_for (g := tG X.K is pr bd) hp hc hi hg (pss_ex (ι := { q : Hp × Nat × Dat × List Sl // xs[q.2.1]? = some q.2.2.1 ∧ R q.2.1 q.2.2.2 }) (t := fun q => tS X.K E (W.fram q.1.1) (bd q.1.2.2.1 q.1.2.2.2) (Lp (R (q.1.2.1 + 1)) P)) fun q => hs q.1.1 q.1.2.1 q.1.2.2.1 q.1.2.2.2 q.2.1 q.2.2) hf) fun D σ H ⟨B, w, en, p⟩ => ?_
  refine ⟨B, w.cov, en, fun J H1 s1 hy => ⟨fun i m σ H => m = xs.length - i ∧ i ≤ xs.length ∧ ∃ ρ' B', R i ρ' ∧ Wd (W.fram (mask B H1)) B' H ∧ EnvR X.K B' H σ ρ', ⟨xs.length, by simp, Nat.zero_le _, ρ, B, h0, ?_, en.same s1⟩, ?_⟩⟩
  · have w1 := w.same s1
    exact ⟨w1.old, w1.b0, w1.cov, LamX.ExtN.refl _, w1.iv, w1.di, w1.tb⟩
  · rintro i m σ H ⟨rfl, hi', ρ', B', hR, wd, en'⟩
    have back : ∀ {B' : Addr → Bool} {H : Hp}, Wd (W.fram (mask B H1)) B' H → Wd W B' H := fun {B' H} z => ⟨z.old, z.b0, z.cov, (w.same s1).fr.trans z.fr, z.iv, z.di, z.tb⟩
    have yy := hy i H B' wd.cov wd.fr
    by_cases hlt : i < xs.length
    · obtain ⟨go, y⟩ := yy.1 hlt
      refine .inr ⟨go, fun σ' H' => ∃ ρ2 B2, R (i + 1) ρ2 ∧ Wd (W.fram (mask B H1)) B2 H' ∧ EnvR X.K B2 H' σ' ρ2, fun σ' H' z => ⟨xs.length - (i + 1), by omega, rfl, hlt, z⟩, fun v H' yv => ?_⟩
      obtain ⟨s', d, hd', rd⟩ := y v H' yv
      refine ⟨B', d, ρ', wd.cov.same s', en'.same s', rd, hpr d (List.mem_of_getElem? hd'), fun σ2 en2 _ => ⟨⟨(mask B H1, i, d, ρ'), hd', hR⟩, B', wd.same s', en2, ?_⟩⟩
      exact ⟨fun ρ2 σ2 H2 B2 q w2 e2 => ⟨ρ2, B2, q, w2, e2⟩, fun dd v H2 B2 q w2 r2 => p.rt dd v H2 B2 q (back w2) r2, fun c H2 B2 q w2 => p.er c H2 B2 q (back w2), fun ρ2 σ2 H2 B2 q w2 e2 => p.nx ρ2 σ2 H2 B2 q (back w2) e2, fun ρ2 σ2 H2 B2 q w2 e2 => ⟨ρ2, B2, q, w2, e2⟩, fun ρ2 σ2 d v H2 B2 q w2 e2 r2 => p.re ρ2 σ2 d v H2 B2 q (back w2) e2 r2, fun ρ2 σ2 c H2 B2 q w2 e2 => p.ee ρ2 σ2 c H2 B2 q (back w2) e2⟩
    · have e : i = xs.length := by omega
      subst e
      exact .inl ⟨yy.2 rfl, p.nx ρ' σ H B' (hd ρ' hR) (back wd) en'⟩
theorem s_while {c : Expr} {body : List Stmt} {pos : Pos} (R : Nat → List Sl → Prop) (m0 : Nat) (hp : PassesOwn (model X.prog X.w) X.A X.env X.xe) (h0 : R m0 ρ)
    (hs : ∀ (m : Nat) (ρ' : List Sl), R m ρ' → ∃ b, T X c ρ' b ∧ (b = true → SS X E W body ρ' (Lp (fun ρ2 => ∃ m', m' < m ∧ R m' ρ2) P)) ∧ (b = false → P (.nx ρ'))) : S1 X E W (.While c body [] pos) ρ P := by
  refine ps_imp (ps_while hp (pt_ex (ι := { q : Nat × List Sl × Bool // R q.1 q.2.1 ∧ T X c q.2.1 q.2.2 ∧ (q.2.2 = true → SS X E W body q.2.1 (Lp (fun ρ2 => ∃ m', m' < q.1 ∧ R m' ρ2) P)) ∧ (q.2.2 = false → P (.nx q.2.1)) }) (t := fun q => tDT X.K q.1.2.1 q.1.2.2) fun q => q.2.2.1)
    (pss_ex (ι := { q : Nat × List Sl // SS X E W body q.2 (Lp (fun ρ2 => ∃ m', m' < q.1 ∧ R m' ρ2) P) }) (t := fun q => tS X.K E W q.1.2 (Lp (fun ρ2 => ∃ m', m' < q.1.1 ∧ R m' ρ2) P)) fun q => q.2)) fun D σ H ⟨B, w, en, p⟩ => ?_
  refine ⟨fun m σ H => ∃ ρ' B', R m ρ' ∧ Wd W B' H ∧ EnvR X.K B' H σ ρ', ⟨m0, ρ, B, h0, w, en⟩, ?_⟩
  rintro m σ H ⟨ρ', B', hR, wd, en'⟩
  obtain ⟨b, ht, h1, h2⟩ := hs m ρ' hR
  refine ⟨⟨(m, ρ', b), hR, ht, h1, h2⟩, B', wd.cov, en', fun H' s' => ?_⟩
  show if b = true then _ else _
  cases b with
  | true =>
    refine iteT ⟨fun σ' H' => ∃ ρ2 B2, (∃ m', m' < m ∧ R m' ρ2) ∧ Wd W B2 H' ∧ EnvR X.K B2 H' σ' ρ2, fun σ2 H2 ⟨ρ2, B2, ⟨m', hm, hR2⟩, w2, e2⟩ => ⟨m', hm, ρ2, B2, hR2, w2, e2⟩, ⟨(m, ρ'), h1 rfl⟩, B', wd.same s', en'.same s', ?_⟩
    exact ⟨fun ρ2 σ2 H2 B2 q w2 e2 => ⟨ρ2, B2, q, w2, e2⟩, p.rt, p.er, fun ρ2 σ2 H2 B2 q w2 e2 => p.nx ρ2 σ2 H2 B2 q w2 e2, fun ρ2 σ2 H2 B2 q w2 e2 => ⟨ρ2, B2, q, w2, e2⟩, p.re, p.ee⟩
  | false => exact iteF (p.nx ρ' σ H' B' (h2 rfl) (wd.same s') (en'.same s'))

/-! ### a list of one's own that grows -/
theorem EnvR.setO {K : PySem.W.Frag} {B : Addr → Bool} {H : Hp} {σ : L2.St} {ρ : List Sl} (e : EnvR K B H σ ρ) (i : Nat) {a : Addr} {s : Sl} (h : SlOk K B H s (some (.ref a))) (hne : ∀ (j : Nat) (sj : Sl) (v : V), j ≠ i → ρ[j]? = some sj → sj.own = true → σ[j]? = some (some v) → v ≠ .ref a) : EnvR K B H (σ.set i (some (.ref a))) (ρ.set i s) := by
  refine ⟨by rw [List.length_set, List.length_set, e.len], fun j x hj => ?_, fun j k sj sk w hjk hj hk oj ok vj => ?_⟩
  · by_cases hij : i = j
    · subst hij
      by_cases hl : i < ρ.length
      · rw [List.getElem?_set_self hl] at hj
        have hj := Option.some.inj hj
        subst hj
        exact ⟨_, by rw [List.getElem?_set_self (by rw [e.len]; exact hl)], h⟩
      · rw [List.getElem?_eq_none (by rw [List.length_set]; omega)] at hj
        cases hj
    · rw [List.getElem?_set_ne hij] at hj
      obtain ⟨o, h1, h2⟩ := e.at_ j x hj
      exact ⟨o, by rw [List.getElem?_set_ne hij]; exact h1, h2⟩
  · have len : ∀ (j : Nat) (sj : Sl), (ρ.set i s)[j]? = some sj → j < ρ.length := fun j sj hj => by
      have z := (List.getElem?_eq_some_iff.mp hj).1
      rw [List.length_set] at z
      exact z
    by_cases hij : i = j
    · subst hij
      have hl := len i sj hj
      rw [List.getElem?_set_self (by rw [e.len]; exact hl)] at vj
      have vj := Option.some.inj (Option.some.inj vj)
      subst vj
      rw [List.getElem?_set_ne hjk] at hk ⊢
      exact fun z => hne k sk _ (Ne.symm hjk) hk ok z rfl
    · by_cases hik : i = k
      · subst hik
        have hl := len i sk hk
        rw [List.getElem?_set_self (by rw [e.len]; exact hl)]
        rw [List.getElem?_set_ne hij] at hj vj
        exact fun z => hne j sj w (fun q => hij q.symm) hj oj vj (Option.some.inj (Option.some.inj z)).symm
      · rw [List.getElem?_set_ne hij] at hj vj
        rw [List.getElem?_set_ne hik] at hk ⊢
        exact e.sep j k sj sk w hjk hj hk oj ok vj
/-- owned things are tracked -/
theorem SlOk.tracked {K : PySem.W.Frag} {B : Addr → Bool} {H : Hp} {s : Sl} {v : V} (h : SlOk K B H s (some v)) (o : s.own = true) : ∃ a, v = .ref a ∧ B a = true := by
  cases s with
  | un => cases o
  | dt d => cases o
  | rf a => cases o
  | ml a ds => exact ⟨a, h.1, h.2.1⟩
  | md a kvs => exact ⟨a, h.1, h.2.1⟩
  | di a => exact ⟨a, h.1, h.2.1⟩
  | mg a o ds => exact ⟨a, h.1, h.2.1⟩
/-- a new object p, owned from now on -/
theorem EnvR.own {K : PySem.W.Frag} {B : Addr → Bool} {H : Hp} {σ : L2.St} {ρ : List Sl} {p : Addr} {o : HO} {s : Sl} (e : EnvR K B H σ ρ) (c : Cov B H) (np : H p = none) (i : Nat) (h : SlOk K (fun a => B a || decide (a = p)) (upd H p o) s (some (.ref p))) :
    EnvR K (fun a => B a || decide (a = p)) (upd H p o) (σ.set i (some (.ref p))) (ρ.set i s) := by
  have e2 : EnvR K (fun a => B a || decide (a = p)) (upd H p o) σ ρ := e.grow (fun a h => by rw [h]; rfl) (same_upd np) fun a x hx => by
    obtain ⟨h1, h2⟩ := mask_some hx
    have ne : a ≠ p := ne_of_none h2 np
    rw [mask_out (by rw [h1, decide_eq_false ne]; rfl), upd_ne ne]
    exact h2
  refine e2.setO i h fun j sj v _ hj oj vj z => ?_
  obtain ⟨oo, h1, h2⟩ := e.at_ j sj hj
  rw [vj] at h1
  have h1 := Option.some.inj h1
  subst h1
  obtain ⟨a, ea, hb⟩ := h2.tracked oj
  rw [z] at ea
  have ea := V.ref.inj ea
  rw [← ea] at hb
  exact c p hb (.inl np)
theorem Wd.own {B : Addr → Bool} {H : Hp} {p : Addr} {o : HO} (w : Wd W B H) (np : H p = none) (ho : teO o = false) : Wd W (fun a => B a || decide (a = p)) (upd H p o) := by
  have s : Same H (upd H p o) := same_upd np
  refine ⟨fun a x m h => s _ _ (w.old a x m h), fun a h => by rw [w.b0 a h]; rfl, fun a ha n => ?_, w.fr.trans (Sm.of fun a x hx => ?_), W.st _ _ (fun a x h _ => s _ _ h) w.iv, (fun a h => let ⟨h1, c, n, h2⟩ := w.di a h; ⟨by rw [h1]; rfl, c, n, s _ _ h2⟩), fun a ps hb h => ?_⟩
  · by_cases e : a = p
    · rw [e, upd_same] at n
      rcases n with n | ⟨_, n⟩
      · cases n
      · rw [Option.some.inj n] at ho
        cases ho
    · rw [upd_ne e] at n
      rw [decide_eq_false e, Bool.or_false] at ha
      exact w.cov a ha n
  · obtain ⟨h1, h2⟩ := mask_some hx
    have ne : a ≠ p := ne_of_none h2 np
    rw [mask_out (by rw [h1, decide_eq_false ne]; rfl), upd_ne ne]
    exact h2
  · by_cases e : a = p
    · rw [e, upd_same] at h
      have h := Option.some.inj h
      rw [h] at ho
      cases ho
    · rw [upd_ne e] at h
      rw [decide_eq_false e, Bool.or_false] at hb
      exact w.tb a ps hb h
/-- x = [] , the list to grow -/
theorem s_newml (i : Nat) {x : Str} {pos pos' pl : Pos} (hN : X.N.Nodup) (q : ∀ a, Wr W a → P (.nx (ρ.set i (.ml a [])))) (hi : X.N[i]? = some x := by rfl) (hx : Loc X.env.scope x := by first | exact Or.inl rfl | exact Or.inr rfl)
    (hs : swapsWith (.List [] pl) (some (.Name x pos')) pos.line X.env = pure false := by rfl) (hf : X.fn x = true ∨ X.env.scope.names.lookup x = some .local := by first | exact .inl rfl | exact .inr rfl | assumption) : S1 X E W (.Assign [.Name x pos'] (.List [] pl) pos) ρ P :=
  ps_imp (ps_set hN hi hx (pe_lst pa_nil) hs hf) fun D σ H ⟨B, w, en, p⟩ => ⟨Nat.zero_le _, fun a na => p.nx _ _ _ _ (q a (w.new na)) (w.own na rfl) (en.own w.cov na i ⟨rfl, by simp, [], upd_same, .nil⟩)⟩
/-- a write to an owned place leaves the rest -/
theorem mask_upd {B : Addr → Bool} {H : Hp} {a : Addr} {o : HO} (h : B a = true) : mask B (upd H a o) = mask B H := by
  funext b
  by_cases e : b = a
  · rw [e, mask_in h, mask_in h]
  · unfold mask
    rw [upd_ne e]
theorem Wd.write {B : Addr → Bool} {H : Hp} {a : Addr} {o u : HO} (w : Wd W B H) (hr : Wr W a) (hb : B a = true) (h : H a = some u) (hu : teO u = false) (ho : teO o = false) : Wd W B (upd H a o) := by
  refine ⟨fun b x m hx => ?_, w.b0, fun b hbb n => ?_, by rw [mask_upd hb]; exact w.fr, W.st _ _ (fun b x hx ht => ?_) w.iv, fun b hbd => ?_, fun b ps hbb hx => ?_⟩
  · have ne : b ≠ a := fun z => by
      rw [z] at hx m
      rw [hr.1 m] at hx
      cases hx
    rw [upd_ne ne]
    exact w.old b x m hx
  · by_cases e : b = a
    · rw [e, upd_same] at n
      rcases n with n | ⟨_, n⟩
      · cases n
      · rw [Option.some.inj n] at ho
        cases ho
    · rw [upd_ne e] at n
      exact w.cov b hbb n
  · have ne : b ≠ a := fun z => by
      rw [z, h] at hx
      cases hx
      rw [hu] at ht
      cases ht
    rw [upd_ne ne]
    exact hx
  · have ne : b ≠ a := fun z => by
      rw [z, hr.2] at hbd
      cases hbd
    rw [upd_ne ne]
    exact w.di b hbd
  · by_cases e : b = a
    · rw [e, upd_same] at hx
      have hx := Option.some.inj hx
      rw [hx] at ho
      cases ho
    · rw [upd_ne e] at hx
      exact w.tb b ps hbb hx
theorem EnvR.write {K : PySem.W.Frag} {B : Addr → Bool} {H : Hp} {σ : L2.St} {ρ : List Sl} {a : Addr} {o : HO} {i : Nat} {s s' : Sl} (e : EnvR K B H σ ρ) (hi : ρ[i]? = some s) (ho : s.own = true) (hv : σ[i]? = some (some (.ref a))) (hb : B a = true) (hs : SlOk K B (upd H a o) s' (some (.ref a))) (ho' : s'.own = true) : EnvR K B (upd H a o) σ (ρ.set i s') := by
  have hl := (List.getElem?_eq_some_iff.mp hi).1
  refine ⟨by rw [List.length_set, e.len], fun j x hj => ?_, fun j k sj sk w hjk hj hk oj ok vj => ?_⟩
  · by_cases hij : i = j
    · subst hij
      rw [List.getElem?_set_self hl] at hj
      have hj := Option.some.inj hj
      subst hj
      exact ⟨_, hv, hs⟩
    · rw [List.getElem?_set_ne hij] at hj
      obtain ⟨oo, h1, h2⟩ := e.at_ j x hj
      refine ⟨oo, h1, ?_⟩
      have nea : ∀ b, oo = some (.ref b) → x.own = true → b ≠ a := fun b z ow q => by
        rw [z, q] at h1
        exact e.sep i j s x (.ref a) hij hi hj ho ow hv h1
      cases x with
      | un => exact True.intro
      | dt d =>
        cases oo with
        | none => exact h2.elim
        | some v =>
          have h2 : Rp K (mask B H) v d := h2
          show Rp K (mask B (upd H a o)) v d
          rw [mask_upd hb]
          exact h2
      | rf b =>
        cases oo with
        | none => exact h2.elim
        | some v => exact h2
      | ml b ds =>
        cases oo with
        | none => exact h2.elim
        | some v =>
          obtain ⟨e1, e2, vs, e3, e4⟩ := h2
          exact ⟨e1, e2, vs, by rw [upd_ne (nea b (by rw [e1]) rfl)]; exact e3, by rw [mask_upd hb]; exact e4⟩
      | md b kvs =>
        cases oo with
        | none => exact h2.elim
        | some v =>
          obtain ⟨e1, e2, e3⟩ := h2
          exact ⟨e1, e2, by rw [upd_ne (nea b (by rw [e1]) rfl)]; exact e3⟩
      | di b =>
        cases oo with
        | none => exact h2.elim
        | some v =>
          obtain ⟨e1, e2, c, n, e3⟩ := h2
          exact ⟨e1, e2, c, n, by rw [upd_ne (nea b (by rw [e1]) rfl)]; exact e3⟩
      | mg b o2 ds =>
        cases oo with
        | none => exact h2.elim
        | some v =>
          obtain ⟨e1, e2, vs, e3, e5, e4⟩ := h2
          exact ⟨e1, e2, vs, by rw [upd_ne (nea b (by rw [e1]) rfl)]; exact e3, e5, by rw [mask_upd hb]; exact e4⟩
  · have tr : ∀ (j : Nat) (sj : Sl), (ρ.set i s')[j]? = some sj → sj.own = true → ∃ sj', ρ[j]? = some sj' ∧ sj'.own = true := fun j sj hj oj => by
      by_cases hij : i = j
      · subst hij
        exact ⟨s, hi, ho⟩
      · rw [List.getElem?_set_ne hij] at hj
        exact ⟨sj, hj, oj⟩
    obtain ⟨sj', hj', oj'⟩ := tr j sj hj oj
    obtain ⟨sk', hk', ok'⟩ := tr k sk hk ok
    exact e.sep j k sj' sk' w hjk hj' hk' oj' ok' vj
theorem EnvR.ml {K : PySem.W.Frag} {B : Addr → Bool} {H : Hp} {σ : L2.St} {ρ : List Sl} {i : Nat} {a : Addr} {ds : List Dat} (e : EnvR K B H σ ρ) (h : ρ[i]? = some (.ml a ds)) : σ[i]? = some (some (.ref a)) ∧ B a = true ∧ ∃ vs, H a = some (.lst vs) ∧ RpA K (mask B H) vs ds := by
  obtain ⟨o, h1, h2⟩ := e.at_ i _ h
  cases o with
  | none => exact h2.elim
  | some v =>
    obtain ⟨e1, e2, e3⟩ := h2
    rw [e1] at h1
    exact ⟨h1, e2, e3⟩
/-- x.append(e) -/
theorem s_append (i : Nat) {x : Str} {e : Expr} {d : Dat} {a : Addr} {ds : List Dat} {px apos cpos pos : Pos} (hr : Wr W a) (h : D X E e ρ (.ok d)) (hi : ρ[i]? = some (.ml a ds)) (hl : ds.length ≤ 100000) (q : P (.nx (ρ.set i (.ml a (ds ++ [d])))))
    (hx : PE X (.Name x px) (tVar i)) (h2 : PE X (.Name x px) (tVar i) → PE X e (tD X.K E ρ (.ok d)) → PS X (.Expr (.Call (.Attribute (.Name x px) "append" apos) [e] [] cpos) pos) (tDrop (tBM X.K "list" rAppend (tVar i) (tCons (tD X.K E ρ (.ok d)) tNil)))) :
    S1 X E W (.Expr (.Call (.Attribute (.Name x px) "append" apos) [e] [] cpos) pos) ρ P := by
  refine ps_imp (h2 hx h) fun D σ H ⟨B, w, en, p⟩ => ?_
  obtain ⟨h1, hb, vs, h3, h4⟩ := en.ml hi
  refine ⟨.ref a, h1, .inl ⟨rfl, vs, SqL.of h3⟩, B, w.cov, en, fun v H' s r => ?_⟩
  have h3' := s _ _ h3
  refine ⟨a, vs, v, rfl, rfl, h3', Nat.lt_of_le_of_lt (by rw [h4.length]; exact hl) (by decide), ?_⟩
  refine p.nx _ σ _ B q ((w.same s).write hr hb h3' rfl rfl) ((en.same s).write hi rfl h1 hb ⟨rfl, hb, vs ++ [v], upd_same, ?_⟩ rfl)
  rw [mask_upd hb]
  exact (h4.mono (mask_same s)).append (.cons r .nil)
/-- the list grows no more -/
theorem EnvR.freeze {K : PySem.W.Frag} {B : Addr → Bool} {H : Hp} {σ : L2.St} {ρ : List Sl} {i : Nat} {a : Addr} {ds : List Dat} (e : EnvR K B H σ ρ) (h : ρ[i]? = some (.ml a ds)) : EnvR K (fun b => B b && !decide (b = a)) H σ (ρ.set i (.dt (.lst ds))) := by
  obtain ⟨h1, hb, vs, h3, h4⟩ := e.ml h
  have sm : Same (mask B H) (mask (fun b => B b && !decide (b = a)) H) := mask_le fun b hbb => (Bool.and_eq_true_iff.mp hbb).1
  have hl := (List.getElem?_eq_some_iff.mp h).1
  refine ⟨by rw [List.length_set, e.len], fun j x hj => ?_, fun j k sj sk w hjk hj hk oj ok vj => ?_⟩
  · by_cases hij : i = j
    · subst hij
      rw [List.getElem?_set_self hl] at hj
      have hj := Option.some.inj hj
      subst hj
      refine ⟨_, h1, Rp.lst ?_ (h4.mono sm)⟩
      rw [mask_out (by simp)]
      exact h3
    · rw [List.getElem?_set_ne hij] at hj
      obtain ⟨oo, q1, q2⟩ := e.at_ j x hj
      refine ⟨oo, q1, ?_⟩
      have nea : ∀ b, oo = some (.ref b) → x.own = true → b ≠ a := fun b z ow q => by
        rw [z, q] at q1
        exact e.sep i j _ x (.ref a) hij h hj rfl ow h1 q1
      have hb' : ∀ b, B b = true → b ≠ a → (B b && !decide (b = a)) = true := fun b z ne => by rw [z, decide_eq_false ne]; rfl
      cases x with
      | un => exact True.intro
      | dt d =>
        cases oo with
        | none => exact q2.elim
        | some v => exact Rp.mono sm q2
      | rf b =>
        cases oo with
        | none => exact q2.elim
        | some v => exact q2
      | ml b ds =>
        cases oo with
        | none => exact q2.elim
        | some v =>
          obtain ⟨e1, e2, vs, e3, e4⟩ := q2
          exact ⟨e1, hb' b e2 (nea b (by rw [e1]) rfl), vs, e3, e4.mono sm⟩
      | md b kvs =>
        cases oo with
        | none => exact q2.elim
        | some v =>
          obtain ⟨e1, e2, e3⟩ := q2
          exact ⟨e1, hb' b e2 (nea b (by rw [e1]) rfl), e3⟩
      | di b =>
        cases oo with
        | none => exact q2.elim
        | some v =>
          obtain ⟨e1, e2, c, n, e3⟩ := q2
          exact ⟨e1, hb' b e2 (nea b (by rw [e1]) rfl), c, n, e3⟩
      | mg b o2 ds =>
        cases oo with
        | none => exact q2.elim
        | some v =>
          obtain ⟨e1, e2, vs, e3, e5, e4⟩ := q2
          exact ⟨e1, hb' b e2 (nea b (by rw [e1]) rfl), vs, e3, e5, e4.mono sm⟩
  · have ne : ∀ (j : Nat) (sj : Sl), (ρ.set i (.dt (.lst ds)))[j]? = some sj → sj.own = true → i ≠ j := fun j sj hj oj z => by
      subst z
      rw [List.getElem?_set_self hl] at hj
      have hj := Option.some.inj hj
      subst hj
      cases oj
    have nj := ne j sj hj oj
    have nk := ne k sk hk ok
    rw [List.getElem?_set_ne nj] at hj
    rw [List.getElem?_set_ne nk] at hk
    exact e.sep j k sj sk w hjk hj hk oj ok vj
theorem Wd.freeze {B : Addr → Bool} {H : Hp} {a : Addr} (w : Wd W B H) (h0 : W.B0 a = false) (hd : W.dc a = false) : Wd W (fun b => B b && !decide (b = a)) H := by
  refine ⟨w.old, fun b hb => ?_, fun b hb => w.cov b (Bool.and_eq_true_iff.mp hb).1, w.fr.trans (Sm.of (mask_le fun b hb => (Bool.and_eq_true_iff.mp hb).1)), w.iv, (fun b hb => ?_), fun b ps hb h => w.tb b ps (Bool.and_eq_true_iff.mp hb).1 h⟩
  · have ne : b ≠ a := fun z => by
      rw [z, h0] at hb
      cases hb
    rw [w.b0 b hb, decide_eq_false ne]
    rfl
  · have ne : b ≠ a := fun z => by
      rw [z, hd] at hb
      cases hb
    obtain ⟨h1, h2⟩ := w.di b hb
    refine ⟨?_, h2⟩
    rw [h1, decide_eq_false ne]
    rfl
theorem SS.freeze {s : List Stmt} {a : Addr} {i : Nat} {ds : List Dat} (h : ρ[i]? = some (.ml a ds)) (h0 : W.B0 a = false) (hd : W.dc a = false) (k : SS X E W s (ρ.set i (.dt (.lst ds))) P) : SS X E W s ρ P :=
  pss_imp k fun D σ H ⟨B, w, en, p⟩ => ⟨_, w.freeze h0 hd, en.freeze h, p⟩
theorem Wr.b0 {a : Addr} (h : Wr W a) (hm : W.M a = false) : W.B0 a = false := W.cov0.new (h.1 hm)

/-! ### defs -/
def spC (K : PySem.W.Frag) (C : List Dat → Res → Prop) : Sp := fun vs H Q E => ∃ B as r, Cov B H ∧ RpA K (mask B H) vs as ∧ C as r ∧ Post K E B H Q r
structure FnC (P : Program) (w : World) (K : PySem.W.Frag) (mg : Str → Option Value) (base : Heap) (x : Str) (ps : List Str) (C : List Dat → Res → Prop) (k : Nat) : Prop where
  ex : ∃ f fd, FnOk P w K mg base (L2N.CX P w) k f fd ps (spC K C) ∧ mg x = some (.ref f) ∧ PySem.W.keepIn K (.ref f) = true ∧ Binds K fd ps []
theorem d_call {x : Str} {ps : List Str} {C : List Dat → Res → Prop} {k : Nat} {e : Expr} {es : List Expr} {as : List Dat} {r : Res} {p pos : Pos} (F : FnC X.prog X.w X.K X.mg X.base x ps C k) (hr : Room k X.A) (hp : Passes (L2N.CX X.prog X.w) X E) (ha : DA X E (e :: es) ρ (.ok as)) (hc : C as r)
    (hg : Gl X x := by rfl) (hdb : (x == ("__debug__" : Str)) = false := by decide) (he : starEach (e :: es) X.env = (false, eval e X.env) :: starEach es X.env := by rfl) (hpl : (backTo pos (starEach es X.env)).any (·.1) = false := by rfl) : D X E (.Call (.Name x p) (e :: es) [] pos) ρ r := by
  obtain ⟨f, fd, h1, h2, h3, h4⟩ := F.ex
  refine D.ofR (pe_callS h1 hr hg h2 h3 h4 (fun σ pins H s e s' I c => hp pins σ H s e s' I c) ha hdb he hpl) fun B σ H Q c en q => ⟨B, c, en, fun vs H1 s1 rs => ⟨B, as, r, c.same s1, rs, hc, ?_⟩⟩
  cases r with
  | ok d => exact fun v H2 s2 rv => q v H2 (s1.trans s2) rv
  | err c => exact fun H2 s2 => q H2 (s1.trans s2)
theorem d_callE {x : Str} {ps : List Str} {C : List Dat → Res → Prop} {k : Nat} {e : Expr} {es : List Expr} {c : Value} {p pos : Pos} (F : FnC X.prog X.w X.K X.mg X.base x ps C k) (hr : Room k X.A) (hp : Passes (L2N.CX X.prog X.w) X E) (ha : DA X E (e :: es) ρ (.error c))
    (hg : Gl X x := by rfl) (hdb : (x == ("__debug__" : Str)) = false := by decide) (he : starEach (e :: es) X.env = (false, eval e X.env) :: starEach es X.env := by rfl) (hpl : (backTo pos (starEach es X.env)).any (·.1) = false := by rfl) : D X E (.Call (.Name x p) (e :: es) [] pos) ρ (.err c) := by
  obtain ⟨f, fd, h1, h2, h3, h4⟩ := F.ex
  exact D.ofR (pe_callS h1 hr hg h2 h3 h4 (fun σ pins H s e s' I c => hp pins σ H s e s' I c) ha hdb he hpl) fun B σ H Q c en q => ⟨B, c, en, q⟩
end
def startρ (N : List Str) (as : List Dat) : List Sl := as.map Sl.dt ++ List.replicate (N.length - as.length) Sl.un
theorem envR_start {K : PySem.W.Frag} {B : Addr → Bool} {H : Hp} {N : List Str} {vs : List V} {as : List Dat} (r : RpA K (mask B H) vs as) : EnvR K B H (L2.start N vs) (startρ N as) := by
  have hl := r.length
  unfold L2.start startρ
  refine ⟨by rw [List.length_append, List.length_append, List.length_map, List.length_map, List.length_replicate, List.length_replicate, hl], fun i s h => ?_, fun i j si sj v hij hi hj oi oj vi => ?_⟩
  · by_cases hi : i < as.length
    · rw [List.getElem?_append_left (by rw [List.length_map]; exact hi), List.getElem?_map] at h
      rw [List.getElem?_append_left (by rw [List.length_map, hl]; exact hi), List.getElem?_map]
      cases e : as[i]? with
      | none =>
        rw [e] at h
        cases h
      | some d =>
        rw [e] at h
        have h := Option.some.inj h
        obtain ⟨v, h1, h2⟩ := r.get e
        rw [h1, ← h]
        exact ⟨some v, rfl, h2⟩
    · rw [List.getElem?_append_right (by rw [List.length_map]; omega), List.length_map] at h
      rw [List.getElem?_append_right (by rw [List.length_map, hl]; omega), List.length_map, hl]
      rw [List.getElem?_replicate] at h ⊢
      split at h
      · rename_i hh
        have h := Option.some.inj h
        rw [if_pos hh, ← h]
        exact ⟨none, rfl, True.intro⟩
      · cases h
  · exfalso
    by_cases h : i < as.length
    · rw [List.getElem?_append_left (by rw [List.length_map]; exact h), List.getElem?_map] at hi
      cases e : as[i]? with
      | none =>
        rw [e] at hi
        cases hi
      | some d =>
        rw [e] at hi
        have hi := Option.some.inj hi
        rw [← hi] at oi
        cases oi
    · rw [List.getElem?_append_right (by rw [List.length_map]; omega), List.length_map, List.getElem?_replicate] at hi
      split at hi
      · have hi := Option.some.inj hi
        rw [← hi] at oi
        cases oi
      · cases hi
def outR : Out → Option Res
  | .nx _ => some (.ok .non)
  | .rt d => some (.ok d)
  | .er c => some (.err c)
  | _ => none
section
variable {P : Program} {w : World} {K : PySem.W.Frag} {mg : Str → Option Value} {base : Heap}
theorem okN {x qual : Str} {st : Stmt} {f : Addr} {fd : FuncData} {N ps : List Str} {k : Nat} {sp : Sp} (F : Fun K x qual st f fd) (Sc : FnScope N ps (defScope st)) (len : ∀ vs H Q E, sp vs H Q E → vs.length = ps.length)
    (hbody : ∀ (cdv : Value) (A : Around) (outer : List Env) (s : Shared) (H : Hp) (vs : List V) (Q : VK) (E : XK), Room k (A.deeper (envOfC qual (defScope st) s.heap.objs.size f cdv)) → sp vs H Q E → ∃ t, PSs (cxOf (L2N.CX P w) P w K mg base N qual (defScope st) f cdv A outer s H E) (defBody st) t ∧ t { nx := fun _ H' => Q .non H', rt := Q } (L2.start N vs) H) : FnOk P w K mg base (L2N.CX P w) (k + 1) f fd ps sp := by
  obtain ⟨_, _, _, _, _, _, cd, _, _, rfl, h1, h2⟩ := F.ex
  exact fn_of h1 h2 Sc len fun A outer s H vs Q E r z => hbody cd A outer s H vs Q E r z
theorem fnC_ok {x qual : Str} {st : Stmt} {f : Addr} {fd : FuncData} {N ps : List Str} {k : Nat} {C : List Dat → Res → Prop} (F : Fun K x qual st f fd) (S : FnScope N ps (defScope st)) (len : ∀ as r, C as r → as.length = ps.length)
    (hbody : ∀ (cdv : Value) (A : Around) (outer : List Env) (s : Shared) (H : Hp) (E : XK) (as : List Dat) (r : Res) (W : Wl), (∀ a, W.M a = false) → Room k (A.deeper (envOfC qual (defScope st) s.heap.objs.size f cdv)) → C as r →
      SS (cxOf (L2N.CX P w) P w K mg base N qual (defScope st) f cdv A outer s H E) E W (defBody st) (startρ N as) (fun o => outR o = some r)) : FnOk P w K mg base (L2N.CX P w) (k + 1) f fd ps (spC K C) := by
  refine okN F S (fun vs H Q E h => ?_) (fun cdv A outer s H vs Q E hr h => ?_)
  · obtain ⟨B, as, r, _, ra, hc, _⟩ := h
    rw [ra.length, len as r hc]
  · obtain ⟨B, as, r, cv, ra, hc, q⟩ := h
    have hb := hbody cdv A outer s H E as r ⟨H, B, fun _ => false, fun _ => none, fun _ => True, fun _ _ _ _ => True.intro, cv, fun _ => false, fun _ => true⟩ (fun _ => rfl) hr hc
    refine ⟨_, hb, B, ⟨fun a o _ h => h, fun _ h => h, cv, fun a o h => (by cases h), True.intro, fun a h => (by cases h), fun _ _ _ _ => rfl⟩, envR_start ra, ?_⟩
    refine ⟨fun ρ σ H' B' e w en => ?_, fun d v H' B' e w r' => ?_, fun c H' B' e w => ?_, fun ρ σ H' B' e w en => (by cases e), fun ρ σ H' B' e w en => (by cases e), fun ρ σ d v H' B' e w en r' => (by cases e), fun ρ σ c H' B' e w en => (by cases e)⟩
    · have e : some (Res.ok .non) = some r := e
      have e := Option.some.inj e
      subst e
      exact q _ H' (fun a o h => w.old a o rfl h) .non
    · have e : some (Res.ok d) = some r := e
      have e := Option.some.inj e
      subst e
      exact q _ H' (fun a o h => w.old a o rfl h) (r'.mono (mask_le w.b0))
    · have e : some (Res.err c) = some r := e
      have e := Option.some.inj e
      subst e
      exact q H' (fun a o h => w.old a o rfl h)
end
end G

set_option Elab.async false
set_option linter.all false
set_option maxRecDepth 100000
set_option maxHeartbeats 2000000
namespace G
open PySem PySem.Spec PyProof.Rows L2 TL

/-! ### contexts -/
section
variable {P : Program} {w : World} {K : PySem.W.Frag} {mg : Str → Option Value} {base : Heap} {N : List Str} {qual : Str} {sc : Scope} {f : Addr} {cdv : Value} {A : Around} {outer : List Env} {s : Shared} {H : Hp} {E : XK}
theorem tk_cx : L2N.Takes (cxOf (L2N.CX P w) P w K mg base N qual sc f cdv A outer s H E) (fun cls d _ H => E cls d H) := L2N.takes_of rfl rfl rfl rfl
theorem pa_cx : Passes (L2N.CX P w) (cxOf (L2N.CX P w) P w K mg base N qual sc f cdv A outer s H E) E := L2N.passes_call tk_cx fun _ _ _ _ h => h
theorem passN {X : Cx} : Passes (L2N.CX X.prog X.w) X E0 := fun _ _ _ _ _ _ _ ⟨_, _, _, _, _, _, _, _, _, _, _, _, z⟩ => z.elim
theorem po_cx : PassesOwn (model P w) (cxOf (L2N.CX P w) P w K mg base N qual sc f cdv A outer s H E).A (cxOf (L2N.CX P w) P w K mg base N qual sc f cdv A outer s H E).env (cxOf (L2N.CX P w) P w K mg base N qual sc f cdv A outer s H E).xe := passes_of rfl
end
section
variable {X : Cx} {E : XK} {ρ : List Sl} {W : Wl} {P : Out → Prop}
/-! ### raise -/
structure ExcF (K : PySem.W.Frag) (mg : Str → Option Value) (x : Str) (C : Addr) : Prop where
  g : mg x = some (.ref C)
  x : PySem.W.excIn K C [.type "ValueError", .type "Exception", .type "BaseException", .type "object"] "ValueError.__new__" = true
  k : PySem.W.keepIn K (.ref C) = true
  b : PySem.W.subIn K (.ref C) (.type "BaseException") = some true
  t : PySem.W.typeIn K (.ref C) = some (.type "type")
theorem s_raise {x m : Str} {j : Nat} {C : Addr} {p p2 pos pos2 : Pos} (F : ExcF X.K X.mg x C) (tk : L2N.Takes X (fun cls d _ H => E cls d H)) (q : P (.er (.ref C))) (hc : X.calm = true := by rfl) (hg : Gl X x := by rfl) (hdb : (x == ("__debug__" : Str)) = false := by decide) :
    S1 X E W (.Raise (some (.Call (.Name x p) [.Constant (.str m) j p2] [] pos)) none pos2) ρ P :=
  ps_imp (L2N.ps_raise hc tk (L2N.pmk_own PySem.F.excBase_ValueError F.x F.g F.k (raises_own F.b F.t) hg hdb)) fun D σ H ⟨B, w, en, p⟩ => p.er _ H B q w
/-! ### isinstance -/
def Dat.ty : Dat → String
  | .non => "NoneType"
  | .bl _ => "bool"
  | .int _ => "int"
  | .str _ => "str"
  | .tup _ => "tuple"
  | .lst _ => "list"
  | .dic _ => "dict"
  | .scr _ => "list"
def Dat.isD : Dat → Bool
  | .dic _ => true
  | _ => false
theorem rp_ty {K : PySem.W.Frag} {H : Hp} {v : V} {d : Dat} (h : Rp K H v d) (hd : d.isD = false) : TyX K H v (.type d.ty) := by
  cases h with
  | non => exact .base .non
  | bl b => exact .base (.bl b)
  | int i => exact .base (.int i)
  | str l => exact .base (.str _)
  | tup h _ => exact .base (.tup h)
  | lst h _ => exact .base (.lst h)
  | scr h =>
    rcases h with (h | ⟨o, h⟩) | ⟨o, its, n, h1, h2, _⟩
    · exact .base (.lst h)
    · exact .base (.frz h)
    · exact .kList h1 h2
  | dic h => cases hd
theorem d_isi {a : Expr} {d : Dat} {T : String} {c : Str} {b : Bool} {p p2 pos : Pos} (hm : X.mg "isinstance" = none) (hmc : X.mg c = none) (ha : D X E a ρ (.ok d)) (hk : kitB d.ty T = some b) (hdd : d.isD = false := by first | rfl | assumption) (hv : bootBuiltins c = some (.type T) := by decide +kernel) (hg : Gl X "isinstance" := by rfl) (hgc : Gl X c := by rfl)
    (hn : c ≠ "__name__" := by decide) (hd : (c == ("__debug__" : Str)) = false := by decide) (he : starEach [a, .Name c p2] X.env = (false, eval a X.env) :: starEach [.Name c p2] X.env := by rfl) (he2 : starEach [.Name c p2] X.env = (false, eval (.Name c p2) X.env) :: starEach [] X.env := by rfl)
    (hpl : (backTo pos (starEach [.Name c p2] X.env)).any (·.1) = false := by rfl) : D X E (.Call (.Name "isinstance" p) [a, .Name c p2] [] pos) ρ (.ok (.bl b)) :=
  D.of (pe_callB call_isi hg hm (by decide +kernel) (pa_cons ha (pa_cons (pe_bltn (v := .ty T) hgc hmc hv rfl hn hd) pa_nil he2) he) (by decide) (by decide) he hpl) fun B σ H Q c en q => ⟨B, c, en, fun v H1 s1 rv => ⟨v, .ty T, .type d.ty, .type T, b, rfl, .ty T, rp_ty (rv.mono (mask_sub B H1)) hdd, kit_ty hk, q _ H1 s1 (.bl b)⟩⟩
def Dat.isT : Dat → Bool
  | .tup _ => true
  | _ => false
def Dat.isS : Dat → Bool
  | .str _ => true
  | _ => false
def Dat.isB : Dat → Bool
  | .bl _ => true
  | _ => false
def Dat.isI : Dat → Bool
  | .bl _ => true
  | .int _ => true
  | _ => false
theorem kit_T (d : Dat) : kitB d.ty "tuple" = some d.isT := by cases d <;> (simp only [Dat.ty, Dat.isT]; decide +kernel)
theorem kit_S (d : Dat) : kitB d.ty "str" = some d.isS := by cases d <;> (simp only [Dat.ty, Dat.isS]; decide +kernel)
theorem kit_B (d : Dat) : kitB d.ty "bool" = some d.isB := by cases d <;> (simp only [Dat.ty, Dat.isB]; decide +kernel)
theorem kit_I (d : Dat) : kitB d.ty "int" = some d.isI := by cases d <;> (simp only [Dat.ty, Dat.isI]; decide +kernel)
/-! ### all, any -/
theorem rpA_bls {K : PySem.W.Frag} {H : Hp} : ∀ {bs : List Bool} {vs : List V}, RpA K H vs (bs.map Dat.bl) → vs = bs.map V.bl
  | [], vs, h => by cases h; rfl
  | b :: bs, vs, h => by
    cases h with
    | cons h1 h2 =>
      rw [rp_bl h1, rpA_bls h2]
      rfl
theorem d_all {a : Expr} {bs : List Bool} {p pos : Pos} (hm : X.mg "all" = none) (ha : D X E a ρ (.ok (.lst (bs.map Dat.bl)))) (hc : X.calm = true := by rfl) (hg : Gl X "all" := by rfl) (he : starEach [a] X.env = (false, eval a X.env) :: starEach [] X.env := by rfl) : D X E (.Call (.Name "all" p) [a] [] pos) ρ (.ok (.bl (bs.all id))) :=
  d_callB (cr_all hc) (fun B H vs Q c r q => by
    obtain ⟨v, rfl, rv⟩ := rpA_one r
    cases rv with
    | lst h r' =>
      rw [rpA_bls r'] at h
      exact ⟨_, bs, rfl, SqL.of (mask_sub B H _ _ h), q _ H (Same.refl H) (.bl _)⟩) hm (da_one ha he) (by decide +kernel) hg (he := he)
theorem d_any {a : Expr} {bs : List Bool} {p pos : Pos} (hm : X.mg "any" = none) (ha : D X E a ρ (.ok (.lst (bs.map Dat.bl)))) (hc : X.calm = true := by rfl) (hg : Gl X "any" := by rfl) (he : starEach [a] X.env = (false, eval a X.env) :: starEach [] X.env := by rfl) : D X E (.Call (.Name "any" p) [a] [] pos) ρ (.ok (.bl (bs.any id))) :=
  d_callB (cr_any hc) (fun B H vs Q c r q => by
    obtain ⟨v, rfl, rv⟩ := rpA_one r
    cases rv with
    | lst h r' =>
      rw [rpA_bls r'] at h
      exact ⟨_, bs, rfl, SqL.of (mask_sub B H _ _ h), q _ H (Same.refl H) (.bl _)⟩) hm (da_one ha he) (by decide +kernel) hg (he := he)
/-! ### tuple(list), list(tuple) -/
theorem d_tupleL {a : Expr} {xs : List Dat} {p pos : Pos} (hm : X.mg "tuple" = none) (ha : D X E a ρ (.ok (.lst xs))) (hg : Gl X "tuple" := by rfl) (he : starEach [a] X.env = (false, eval a X.env) :: starEach [] X.env := by rfl) : D X E (.Call (.Name "tuple" p) [a] [] pos) ρ (.ok (.tup xs)) :=
  d_callTy call_tuple_of (fun B H vs Q c r q => by
    obtain ⟨v, rfl, rv⟩ := rpA_one r
    cases rv with
    | lst h r' => exact ⟨_, _, rfl, .inl ⟨SqL.of (mask_sub B H _ _ h), fun l nl => q _ _ (same_upd nl) (rp_new_tup c nl r')⟩⟩) hm (da_one ha he) (by decide +kernel) hg (he := he)
theorem d_tupleT {a : Expr} {xs : List Dat} {p pos : Pos} (hm : X.mg "tuple" = none) (ha : D X E a ρ (.ok (.tup xs))) (hg : Gl X "tuple" := by rfl) (he : starEach [a] X.env = (false, eval a X.env) :: starEach [] X.env := by rfl) : D X E (.Call (.Name "tuple" p) [a] [] pos) ρ (.ok (.tup xs)) :=
  d_callTy call_tuple_of (fun B H vs Q c r q => by
    obtain ⟨v, rfl, rv⟩ := rpA_one r
    cases id rv with
    | tup h r' => exact ⟨_, _, rfl, .inr ⟨sqt_mono (mask_sub B H) (SqT.of h), q _ H (Same.refl H) rv⟩⟩) hm (da_one ha he) (by decide +kernel) hg (he := he)
theorem d_listT {a : Expr} {xs : List Dat} {p pos : Pos} (hm : X.mg "list" = none) (ha : D X E a ρ (.ok (.tup xs))) (hg : Gl X "list" := by rfl) (he : starEach [a] X.env = (false, eval a X.env) :: starEach [] X.env := by rfl) : D X E (.Call (.Name "list" p) [a] [] pos) ρ (.ok (.lst xs)) :=
  d_callTy call_list_of (fun B H vs Q c r q => by
    obtain ⟨v, rfl, rv⟩ := rpA_one r
    cases rv with
    | tup h r' => exact ⟨_, _, rfl, .inr (sqt_mono (mask_sub B H) (SqT.of h)), fun l nl => q _ _ (same_upd nl) (rp_new_lst c nl r')⟩) hm (da_one ha he) (by decide +kernel) hg (he := he)
/-! ### list(text), sorted(text) -/
def sig (l : List Nat) : List Dat := l.map fun c => .str [c]
theorem vals_signs {x : Str} {acc : Array Value} (h : ItemsOf (SignAt x) acc x.cps.size) : Vals (x.cps.toList.map fun c => V.str ⟨#[c]⟩) acc.toList := by
  refine vals_of_at (by rw [List.length_map, Array.length_toList, Array.length_toList, h.1]) fun j v u hv hu => ?_
  rw [List.getElem?_map] at hv
  rw [Array.getElem?_toList] at hv hu
  obtain ⟨c, t, h1, h2⟩ := h.2 j u hu
  rw [h1] at hv
  have hv := Option.some.inj hv
  subst hv h2
  exact ⟨t, rfl⟩
theorem rpA_signs {K : PySem.W.Frag} {H : Hp} : ∀ l : List Nat, RpA K H (l.map fun c => V.str ⟨#[c]⟩) (sig l)
  | [] => .nil
  | c :: l => .cons (.str [c]) (rpA_signs l)
theorem cr_listS (hc : X.calm = true) : CallR X (.type "list") (fun xs H Q => ∃ x : Str, xs = [.str x] ∧ x.cps.size ≤ 100000 ∧ ∀ p, H p = none → Q (.ref p) (upd H p (.lst (x.cps.toList.map fun c => V.str ⟨#[c]⟩)))) := by
  intro pins s σ H xs us Q I r h
  obtain ⟨x, rfl, hn, q⟩ := h
  obtain ⟨u, rfl, t, rfl⟩ := vals1 r
  have hn' : x.cps.size ≤ sizeLine := Nat.le_trans hn (by decide)
  refine PySem.call_list_str (I.ok.hd hc) x t (fun h' tk acc c' hk ho hi => ?_) hn'
  refine ⟨.ref s.heap.objs.size, _, I.laid (t' := tk) hk (Nat.le_refl _) (show ObjOk X.prog X.w _ h' _ (.lst (x.cps.toList.map fun c => V.str ⟨#[c]⟩)) from ⟨?_, acc.toList, c', vals_signs hi, ho⟩), rfl, q _ (I.hok.fresh (Nat.le_refl _))⟩
  rw [List.length_map, Array.length_toList]
  exact hn'
theorem d_listS {a : Expr} {l : List Nat} {p pos : Pos} (hm : X.mg "list" = none) (ha : D X E a ρ (.ok (.str l))) (hl : l.length ≤ 100000) (hc : X.calm = true := by rfl) (hg : Gl X "list" := by rfl) (he : starEach [a] X.env = (false, eval a X.env) :: starEach [] X.env := by rfl) : D X E (.Call (.Name "list" p) [a] [] pos) ρ (.ok (.lst (sig l))) :=
  d_callTy (cr_listS hc) (fun B H vs Q c r q => by
    obtain ⟨v, rfl, rv⟩ := rpA_one r
    refine ⟨_, by rw [rp_str rv], by simpa using hl, fun p np => q _ _ (same_upd np) ?_⟩
    exact rp_new_lst c np (rpA_signs l)) hm (da_one ha he) (by decide +kernel) hg (he := he)
def insN (c : Nat) : List Nat → List Nat
  | [] => [c]
  | d :: r => if c ≤ d then c :: d :: r else d :: insN c r
def sortN : List Nat → List Nat
  | [] => []
  | c :: r => insN c (sortN r)
theorem insN_perm (c : Nat) : ∀ l, (insN c l).Perm (c :: l)
  | [] => .refl _
  | d :: r => by
    show (if c ≤ d then c :: d :: r else d :: insN c r).Perm (c :: d :: r)
    split
    · exact .refl _
    · exact ((insN_perm c r).cons d).trans (.swap c d r)
theorem insN_sorted (c : Nat) : ∀ l : List Nat, l.Pairwise (· ≤ ·) → (insN c l).Pairwise (· ≤ ·)
  | [], _ => by simp [insN]
  | d :: r, h => by
    show (if c ≤ d then c :: d :: r else d :: insN c r).Pairwise (· ≤ ·)
    obtain ⟨h1, h2⟩ := List.pairwise_cons.mp h
    split
    · rename_i e
      refine List.pairwise_cons.mpr ⟨fun z hz => ?_, h⟩
      rcases List.mem_cons.mp hz with rfl | hz
      · exact e
      · exact Nat.le_trans e (h1 z hz)
    · rename_i e
      refine List.pairwise_cons.mpr ⟨fun z hz => ?_, insN_sorted c r h2⟩
      rcases List.mem_cons.mp ((insN_perm c r).mem_iff.mp hz) with rfl | hz
      · omega
      · exact h1 z hz
theorem sortN_perm : ∀ l, (sortN l).Perm l
  | [] => .refl _
  | c :: r => (insN_perm c (sortN r)).trans ((sortN_perm r).cons c)
theorem sortN_sorted : ∀ l, (sortN l).Pairwise (· ≤ ·)
  | [] => List.Pairwise.nil
  | c :: r => insN_sorted c _ (sortN_sorted r)
theorem sortN_uniq {l m : List Nat} (hp : m.Perm l) (hs : m.Pairwise (· ≤ ·)) : m = sortN l :=
  List.Perm.eq_of_pairwise (le := (· ≤ ·)) (fun a b _ _ h1 h2 => Nat.le_antisymm h1 h2) hs (sortN_sorted l) (hp.trans (sortN_perm l).symm)
def unS (x : Str) : Nat := x.cps.toList.headD 0
theorem perm_signs {l : List Nat} {ys : List Str} (h : ys.Perm (l.map fun c => (⟨#[c]⟩ : Str))) : ∃ m : List Nat, m.Perm l ∧ ys = m.map fun c => (⟨#[c]⟩ : Str) := by
  refine ⟨ys.map unS, ?_, ?_⟩
  · have h2 := h.map unS
    rw [List.map_map] at h2
    have e : (unS ∘ fun c => (⟨#[c]⟩ : Str)) = id := rfl
    rw [e, List.map_id] at h2
    exact h2
  · rw [List.map_map]
    symm
    conv => rhs; rw [← List.map_id ys]
    refine List.map_congr_left fun y hy => ?_
    obtain ⟨c, _, rfl⟩ := List.mem_map.mp (h.mem_iff.mp hy)
    rfl
theorem rising_signs : ∀ (c : Nat) (m : List Nat), risingS ⟨#[c]⟩ (m.map fun c => (⟨#[c]⟩ : Str)) = true → (c :: m).Pairwise (· ≤ ·)
  | c, [], _ => List.pairwise_singleton _ _
  | c, d :: r, h => by
    have h : (!ltCps [d] [c] && risingS ⟨#[d]⟩ (r.map fun c => (⟨#[c]⟩ : Str))) = true := h
    rw [Bool.and_eq_true] at h
    have h2 := rising_signs d r h.2
    have h1 : c ≤ d := by
      have z := h.1
      rw [ltCps_eq] at z
      have z : ¬ ([d] < [c]) := by simpa using z
      by_cases q : c ≤ d
      · exact q
      · exact absurd (List.cons_lt_cons_iff.mpr (.inl (by omega))) z
    refine List.pairwise_cons.mpr ⟨fun z hz => ?_, h2⟩
    rcases List.mem_cons.mp hz with rfl | hz
    · exact h1
    · exact Nat.le_trans h1 ((List.pairwise_cons.mp h2).1 z hz)
theorem cr_sortedTxt (hc : X.calm = true) : CallR X (.builtin "sorted") (fun xs H Q => ∃ x : Str, xs = [.str x] ∧ x.cps.size < 64 ∧ ∀ p, H p = none → Q (.ref p) (upd H p (.lst ((sortN x.cps.toList).map fun c => V.str ⟨#[c]⟩)))) := by
  intro pins s σ H xs us Q I r h
  obtain ⟨x, rfl, hn, q⟩ := h
  obtain ⟨u, rfl, t, rfl⟩ := vals1 r
  have hn' : x.cps.size ≤ sizeLine := Nat.le_trans (Nat.le_of_lt hn) (by decide)
  refine PySem.Calls.call_function_entry kind_sorted plain_sorted entry_sorted (args_sorted1 _) ?_
  unfold Builtin.«sorted»
  refine wpAny_bind (m := checkCount "sorted" 1 1 _) (wpAny_pure ?_)
  refine wpAny_bind (wpAny_collect_str (A := X.A.in1) (I.ok.hd hc) x t (fun s' acc hk g1 g2 g3 hi => ?_) hn')
  have hlen : acc.toList.length < 64 := by rw [Array.length_toList, hi.1]; exact hn
  refine wpAny_bind (wpAny_newList ?_ (Nat.le_trans (Nat.le_of_lt hlen) (by decide)))
  have hv := vals_signs hi
  have hv2 : Vals ((x.cps.toList.map fun c => (⟨#[c]⟩ : Str)).map V.str) acc.toList := by
    rw [List.map_map]
    exact hv
  have hS := strsAre_of hv2
  have hoL : (s'.heap.push (seqObj "list" acc.toList.toArray 0)).get? s'.heap.objs.size = some (seqObj "list" acc.toList.toArray 0) := Heap.get?_push_size _ rfl
  refine wpAny_bind (wpAny_holding (wpAny_call_entry slot_list_sort ⟨_, hoL, rfl⟩ entry_list_sort (list_sort_treeK strKind_oneLt hoL hS.keysOf (fun v₁ v₂ rest e => keyKind_strs (by rw [← e]; exact hS)) hlen fun st' hp hs => ⟨_, rfl, ?_⟩) (args_list_sort _)))
  obtain ⟨ys, h1, h2, h3⟩ := sorted_out_str hS hp hs
  obtain ⟨m, hm1, hm2⟩ := perm_signs h2
  have hms : m.Pairwise (· ≤ ·) := by
    rw [hm2] at h3
    cases m with
    | nil => exact .nil
    | cons c m => exact rising_signs c m h3
  have e := sortN_uniq hm1 hms
  obtain ⟨ep, he'⟩ := sortedHeap_at (out := (arrOf st').map (·.2)) hoL
  have kept : ∀ b o, s.heap.get? b = some o → (sortedHeap (s'.heap.push (seqObj "list" acc.toList.toArray 0)) s'.heap.objs.size acc.toList ((arrOf st').map (·.2))).get? b = some o := fun b o eo => by
    have hb := hk b o eo
    have hlt := Heap.lt_size hb
    rw [sortedHeap_old (Nat.ne_of_lt hlt) (by rw [size_push']; exact Nat.lt_succ_of_lt hlt), Heap.get?_push_of_some _ hb]
  have hno : s.heap.get? s'.heap.objs.size = none := by
    cases z : s.heap.get? s'.heap.objs.size with
    | none => rfl
    | some o => exact absurd (Heap.lt_size (hk _ _ z)) (Nat.lt_irrefl _)
  have hnH : H s'.heap.objs.size = none := I.hok.gone hno
  refine wpAny_pure ⟨_, rfl, ?_⟩
  obtain ⟨hp', g', d', t', o'⟩ := s'
  have g1 : g' = s.gens := g1
  have g2 : d' = s.drawn := g2
  have g3 : o' = s.os := g3
  subst g1 g2 g3
  refine ⟨.ref hp'.objs.size, _, I.laidN (t' := t') (o := .lst ((sortN x.cps.toList).map fun c => V.str ⟨#[c]⟩)) kept hno hnH ⟨?_, ((arrOf st').map (·.2)).toList, ep, ?_, he'⟩, rfl, q _ hnH⟩
  · rw [List.length_map, (sortN_perm _).length_eq, Array.length_toList]
    exact hn'
  · rw [← e]
    have z := vals_of_strs h1
    rw [hm2, List.map_map] at z
    exact z
theorem d_sortedS {a : Expr} {l : List Nat} {p pos : Pos} (hm : X.mg "sorted" = none) (ha : D X E a ρ (.ok (.str l))) (hl : l.length < 64) (hc : X.calm = true := by rfl) (hg : Gl X "sorted" := by rfl) (he : starEach [a] X.env = (false, eval a X.env) :: starEach [] X.env := by rfl) : D X E (.Call (.Name "sorted" p) [a] [] pos) ρ (.ok (.lst (sig (sortN l)))) :=
  d_callB (cr_sortedTxt hc) (fun B H vs Q c r q => by
    obtain ⟨v, rfl, rv⟩ := rpA_one r
    refine ⟨_, by rw [rp_str rv], by simpa using hl, fun p np => q _ _ (same_upd np) ?_⟩
    exact rp_new_lst c np (rpA_signs _)) hm (da_one ha he) (by decide +kernel) hg (he := he)
end
end G

set_option Elab.async false
set_option linter.all false
set_option maxRecDepth 100000
set_option maxHeartbeats 2000000
namespace G
open PySem PySem.Spec PyProof.Rows L2 TL
section
variable {X : Cx} {E : XK} {ρ : List Sl} {W : Wl} {P : Out → Prop}
/-! ### slices -/
def tDO (K : PySem.W.Frag) (ρ : List Sl) (o : Option Int) : TO := fun σ H Q => ∃ B, Cov B H ∧ EnvR K B H σ ρ ∧ ∀ H', Same H H' → Q o H'
abbrev DO (X : Cx) (e : Option Expr) (ρ : List Sl) (o : Option Int) : Prop := PO X e (tDO X.K ρ o)
theorem po_imp {X : Cx} {e : Option Expr} {t t' : TO} (h : PO X e t) (k : ∀ σ H Q, t' σ H Q → t σ H Q) : PO X e t' := ⟨fun pins s σ H Q I q => h.run pins s σ H Q I (k σ H Q q)⟩
theorem do_none : DO X none ρ none := po_imp po_none fun σ H Q ⟨B, c, en, q⟩ => q H (Same.refl H)
theorem do_some {e : Expr} {i : Int} (h : D X E0 e ρ (.ok (.int i))) : DO X (some e) ρ (some i) := po_imp (po_some h) fun σ H Q ⟨B, c, en, q⟩ => ⟨B, c, en, fun v H' s r => ⟨i, rp_int r, q H' s⟩⟩
def cutN {α : Type} (l : List α) (lo hi : Option Int) : List α := (l.drop (HT.sIx l.length 0 lo)).take (HT.sIx l.length l.length hi - HT.sIx l.length 0 lo)
theorem d_slS {a : Expr} {lo hi : Option Expr} {l : List Nat} {i j : Option Int} {p2 pos : Pos} (ha : D X E a ρ (.ok (.str l))) (hlo : DO X lo ρ i) (hhi : DO X hi ρ j) (hl : l.length ≤ 100000) : D X E (.Subscript a (.Slice lo hi none p2) pos) ρ (.ok (.str (cutN l i j))) :=
  D.of (pe_slice sl_str ha hlo hhi) fun B σ H Q c en q => ⟨B, c, en, fun v H1 s1 rv => ⟨B, c.same s1, en.same s1, fun H2 s2 => ⟨B, (c.same s1).same s2, (en.same s1).same s2, fun H3 s3 => ⟨_, rp_str rv, by rw [len_mk]; exact Nat.le_trans hl (by decide), by
    have e : cutS ⟨l.toArray⟩ i j = ⟨(cutN l i j).toArray⟩ := by
      unfold cutS cutN
      rw [len_mk]
    rw [e]
    exact q _ H3 ((s1.trans s2).trans s3) (.str _)⟩⟩⟩⟩
theorem rpA_cut {K : PySem.W.Frag} {H : Hp} {vs : List V} {ds : List Dat} {i j : Option Int} (r : RpA K H vs ds) : RpA K H (cutV vs i j) (cutN ds i j) := by
  unfold cutV cutN
  rw [r.length]
  exact (r.drop _).take _
theorem d_slL {a : Expr} {lo hi : Option Expr} {xs : List Dat} {i j : Option Int} {p2 pos : Pos} (ha : D X E a ρ (.ok (.lst xs))) (hlo : DO X lo ρ i) (hhi : DO X hi ρ j) : D X E (.Subscript a (.Slice lo hi none p2) pos) ρ (.ok (.lst (cutN xs i j))) :=
  D.of (pe_slice sl_list ha hlo hhi) fun B σ H Q c en q => ⟨B, c, en, fun v H1 s1 rv => ⟨B, c.same s1, en.same s1, fun H2 s2 => ⟨B, (c.same s1).same s2, (en.same s1).same s2, fun H3 s3 => by
    cases rv with
    | lst h r =>
      have sm : Same (mask B H1) (mask B H3) := mask_same (s2.trans s3)
      exact ⟨_, _, rfl, SqL.of (mask_sub B H3 _ _ (sm _ _ h)), fun p np => q _ _ (((s1.trans s2).trans s3).trans (same_upd np)) (rp_new_lst (((c.same s1).same s2).same s3) np (rpA_cut (r.mono sm)))⟩⟩⟩⟩
theorem d_slT {a : Expr} {lo hi : Option Expr} {xs : List Dat} {i j : Option Int} {p2 pos : Pos} (ha : D X E a ρ (.ok (.tup xs))) (hlo : DO X lo ρ i) (hhi : DO X hi ρ j) : D X E (.Subscript a (.Slice lo hi none p2) pos) ρ (.ok (.tup (cutN xs i j))) :=
  D.of (pe_slice sl_tupA ha hlo hhi) fun B σ H Q c en q => ⟨B, c, en, fun v H1 s1 rv => ⟨B, c.same s1, en.same s1, fun H2 s2 => ⟨B, (c.same s1).same s2, (en.same s1).same s2, fun H3 s3 => by
    cases id rv with
    | tup h r =>
      have sm : Same (mask B H1) (mask B H3) := mask_same (s2.trans s3)
      refine ⟨_, _, rfl, sqt_mono (mask_sub B H3) (sqt_mono sm (SqT.of h)), fun hw => q _ H3 ((s1.trans s2).trans s3) ?_, fun hw p np => q _ _ (((s1.trans s2).trans s3).trans (same_upd np)) (rp_new_tup (((c.same s1).same s2).same s3) np (rpA_cut (r.mono sm)))⟩
      have e : cutN xs i j = xs := by
        unfold cutN
        rw [← r.length, hw.1, hw.2, List.drop_zero, Nat.sub_zero, r.length, List.take_length]
      rw [e]
      exact rv.mono sm⟩⟩⟩
/-- a text by a step -/
def cut3 (l : List Nat) (lo hi : Option Int) (k : Int) : List Nat := (Builtin.Str.strSliceIndices lo hi k l.length).filterMap fun i => l[i]?
theorem pe_step {e : Expr} {lo hi : Option Expr} {st : Expr} {te : TE} {tl th ts : TO} {p2 pos : Pos} (he : PE X e te) (hl : PO X lo tl) (hu : PO X hi th) (hst : PO X (some st) ts) : PE X (.Subscript e (.Slice lo hi (some st) p2) pos)
    (fun σ H Q => te σ H fun x H1 => tl σ H1 fun l H2 => th σ H2 fun u H3 => ts σ H3 fun k H4 => ∃ (z : Str) (i : Int), x = .str z ∧ k = some i ∧ i ≠ 0 ∧ i ≠ 1 ∧ ((Builtin.Str.strSliceIndices l u i z.length).filterMap (z.cps[·]?)).length ≤ sizeLine ∧ Q (.str ⟨((Builtin.Str.strSliceIndices l u i z.length).filterMap (z.cps[·]?)).toArray⟩) H4) := by
  refine ⟨fun pins s σ H Q I h => ?_⟩
  refine Subscript_ (thn (he.run pins s σ H _ I h) fun v s1 ⟨x, H1, I1, r1, q1⟩ => ?_)
  refine wpAny_Slice (thn (hl.run pins s1 σ H1 _ I1 q1) fun vl s2 ⟨l, H2, I2, pl, q2⟩ => thn (hu.run pins s2 σ H2 _ I2 q2) fun vu s3 ⟨u, H3, I3, pu, q3⟩ => thn (hst.run pins s3 σ H3 _ I3 q3) fun vs s4 ⟨k, H4, I4, ps, q4⟩ => ?_)
  obtain ⟨z, i, rfl, rfl, h0, h1, hz, q⟩ := q4
  obtain ⟨t, rfl⟩ := r1
  have I5 : Inv X pins σ H4 { s4 with heap := s4.heap.push { cls := .type "slice", data := .fields #[vl, vu, vs] } } := I4.kept (t' := s4.toks) fun b ob q => Heap.get?_push_of_some _ q
  obtain ⟨l', rfl, rfl⟩ := IsPart.raw pl
  obtain ⟨u', rfl, rfl⟩ := IsPart.raw pu
  obtain ⟨k', rfl, hk'⟩ := IsPart.raw ps
  obtain ⟨⟨i', t'⟩, rfl⟩ : ∃ p, k' = some p := by
    cases k' with
    | none => cases hk'
    | some p => exact ⟨p, rfl⟩
  have hk' : i' = i := Option.some.inj hk'
  subst hk'
  show wpAny (model X.prog X.w) X.A (subscriptTail e (.Slice lo hi (some st) p2) (.str z t) (.ref s4.heap.objs.size)) (EP X pins σ Q) X.xe { s4 with heap := s4.heap.push { cls := .type "slice", data := .fields #[partValue l', partValue u', partValue (some (i', t'))] } }
  refine tail_any (ops := [.str z t, .ref s4.heap.objs.size]) (typeIs_str _ _ _) F.slot_str_getitem.lookup ?_ (by with_unfolding_all rfl)
  refine wpAny_getItem_str_slice (l := l') (u := u') (st := some (i', t')) ⟨_, Heap.get?_push_size _ rfl, rfl, rfl⟩ (by show (i' == 0) = false; exact beq_eq_false_iff_ne.mpr h0) ?_
  show Made.post (if (i' == 1 && (Builtin.Str.strSliceIndices (l'.map (·.1)) (u'.map (·.1)) i' z.length).length == z.length) = true then Made.val (.str z t)
    else Made.str ⟨((Builtin.Str.strSliceIndices (l'.map (·.1)) (u'.map (·.1)) i' z.length).filterMap (z.cps[·]?)).toArray⟩) (EP X pins σ Q) _
  rw [if_neg (by rw [beq_eq_false_iff_ne.mpr h1]; simp)]
  exact ⟨by simpa [Str.length] using hz, .str _, H4, I5.tok _, ⟨_, rfl⟩, q⟩
theorem d_step {a st : Expr} {lo hi : Option Expr} {l : List Nat} {i j : Option Int} {k : Int} {p2 pos : Pos} (ha : D X E a ρ (.ok (.str l))) (hlo : DO X lo ρ i) (hhi : DO X hi ρ j) (hst : D X E st ρ (.ok (.int k))) (h0 : k ≠ 0) (h1 : k ≠ 1) (hl : (cut3 l i j k).length ≤ 100000) :
    D X E (.Subscript a (.Slice lo hi (some st) p2) pos) ρ (.ok (.str (cut3 l i j k))) :=
  D.of (pe_step ha hlo hhi (do_some hst)) fun B σ H Q c en q => ⟨B, c, en, fun v H1 s1 rv => ⟨B, c.same s1, en.same s1, fun H2 s2 => ⟨B, (c.same s1).same s2, (en.same s1).same s2, fun H3 s3 => ⟨B, ((c.same s1).same s2).same s3, ((en.same s1).same s2).same s3, fun H4 s4 => by
    have e : (Builtin.Str.strSliceIndices i j k (⟨l.toArray⟩ : Str).length).filterMap ((⟨l.toArray⟩ : Str).cps[·]?) = cut3 l i j k := by
      unfold cut3
      rw [len_mk]
      congr 1
      funext n
      simp
    refine ⟨_, k, rp_str rv, rfl, h0, h1, ?_, ?_⟩
    · rw [e]
      exact Nat.le_trans hl (by decide)
    · rw [e]
      exact q _ H4 (((s1.trans s2).trans s3).trans s4) (.str _)⟩⟩⟩⟩
/-! ### a text in a text -/
def subL (m : List Nat) : List Nat → Bool
  | [] => m.isEmpty
  | c :: r => m.isPrefixOf (c :: r) || subL m r
/-! ### text * int -/
def repL (l : List Nat) (n : Nat) : List Nat := (List.replicate n l).flatten
theorem foldl_app (l : Array Nat) : ∀ (n : Nat) (a : Array Nat), ((List.replicate n l).foldl (· ++ ·) a).toList = a.toList ++ (List.replicate n l.toList).flatten
  | 0, a => by simp
  | n + 1, a => by
    rw [List.replicate_succ, List.foldl_cons, foldl_app l n, Array.toList_append, List.replicate_succ, List.flatten_cons, List.append_assoc]
theorem op_mulS : OpR X (binaryOp .Mult) (fun x y H Q => ∃ (z : Str) (n : Int), x = .str z ∧ y = .int n ∧ 0 ≤ n ∧ n ≤ 1000 ∧ z.length ≤ 1000 ∧ Q (.str ⟨(repL z.cps.toList n.toNat).toArray⟩) H) := by
  intro pins s σ H x y v u Q I rx ry h
  obtain ⟨z, n, rfl, rfl, h0, h1, hz, q⟩ := h
  obtain ⟨t, rfl⟩ := rx
  obtain ⟨t2, rfl⟩ := ry
  have hmul : z.length * n.toNat ≤ 1000 * 1000 := Nat.mul_le_mul hz (by omega)
  have hl0 : (repL z.cps.toList n.toNat).length = z.length * n.toNat := by
    unfold repL
    rw [List.length_flatten, List.map_replicate, List.sum_replicate_nat]
    simp [Str.length, Nat.mul_comm]
  refine PySem.P.mul_str (by simp; omega) (fun hn hb hc => ?_) (fun hn hb => ?_) ?_
  · have hn1 : 1 ≤ n := by omega
    have hd : (2 ^ 63 - 1) / n ≥ (2 ^ 63 - 1) / 1000 := by
      have z1 : (2 ^ 63 - 1 : Int) / 1000 * n ≤ 2 ^ 63 - 1 := by
        have := Int.mul_le_mul_of_nonneg_left h1 (show (0 : Int) ≤ (2 ^ 63 - 1) / 1000 by decide)
        have e : (2 ^ 63 - 1 : Int) / 1000 * 1000 ≤ 2 ^ 63 - 1 := by decide
        omega
      exact Int.le_ediv_of_mul_le (by omega) z1
    have e2 : (1000 : Int) ≤ (2 ^ 63 - 1) / 1000 := by decide
    omega
  · show Builtin.Str.tooLong (z.length * n.toNat) = false
    unfold Builtin.Str.tooLong
    rw [decide_eq_false]
    have : (1000000 : Nat) ≤ sizeLine := by decide
    omega
  · by_cases hn : n < 1
    · rw [if_pos hn]
      have e : n = 0 := by omega
      subst e
      exact ⟨by decide, .str _, H, I.tok _, ⟨_, rfl⟩, q⟩
    · rw [if_neg hn]
      by_cases hb : (n == 1 || z.length == 0) = true
      · rw [if_pos hb]
        have e : (⟨(repL z.cps.toList n.toNat).toArray⟩ : Str) = z := by
          refine ext_tl ?_
          show repL z.cps.toList n.toNat = z.cps.toList
          rw [Bool.or_eq_true] at hb
          rcases hb with hb | hb
          · have e : n = 1 := by simpa using hb
            subst e
            simp [repL]
          · have e : z.cps.toList = [] := by
              have : z.length = 0 := by simpa using hb
              exact List.eq_nil_of_length_eq_zero (by simpa [Str.length] using this)
            rw [e]
            unfold repL
            simp
        rw [e] at q
        exact ⟨.str z, H, I, ⟨t, rfl⟩, q⟩
      · rw [if_neg hb]
        have e : (List.replicate n.toNat z.cps).foldl (· ++ ·) #[] = (repL z.cps.toList n.toNat).toArray := by
          refine Array.toList_inj.mp ?_
          rw [foldl_app]
          simp [repL]
        rw [e]
        refine ⟨?_, .str _, H, I.tok _, ⟨_, rfl⟩, q⟩
        show (repL z.cps.toList n.toNat).toArray.size ≤ sizeLine
        rw [List.size_toArray, hl0]
        have : (1000000 : Nat) ≤ sizeLine := by decide
        omega
theorem d_mulS {a b : Expr} {l : List Nat} {n : Int} {pos : Pos} (ha : D X E a ρ (.ok (.str l))) (hb : D X E b ρ (.ok (.int n))) (h0 : 0 ≤ n) (h1 : n ≤ 1000) (hl : l.length ≤ 1000) : D X E (.BinOp a .Mult b pos) ρ (.ok (.str (repL l n.toNat))) :=
  d_op op_mulS (fun B H vx vy Q c rx ry q => ⟨_, n, rp_str rx, rp_int ry, h0, h1, by rw [len_mk]; exact hl, q _ H (Same.refl H) (.str _)⟩) ha hb
/-! ### list + list, tuple + tuple -/
theorem d_addT {a b : Expr} {xs ys : List Dat} {pos : Pos} (ha : D X E a ρ (.ok (.tup xs))) (hb : D X E b ρ (.ok (.tup ys))) (hl : xs.length + ys.length ≤ 100000) : D X E (.BinOp a .Add b pos) ρ (.ok (.tup (xs ++ ys))) :=
  d_op op_catA (fun B H vx vy Q c rx ry q => by
    cases id rx with
    | tup h1 r1 =>
      cases id ry with
      | tup h2 r2 =>
        refine ⟨_, _, _, _, rfl, rfl, sqt_mono (mask_sub B H) (SqT.of h1), sqt_mono (mask_sub B H) (SqT.of h2), by rw [r1.length, r2.length]; exact Nat.le_trans hl (by decide), fun e => ?_, fun _ e => ?_, fun _ _ p np => q _ _ (same_upd np) (rp_new_tup c np (r1.append r2))⟩
        · subst e
          cases r1
          exact q _ H (Same.refl H) ry
        · subst e
          cases r2
          rw [List.append_nil] at q
          exact q _ H (Same.refl H) rx) ha hb
theorem d_addL {a b : Expr} {xs ys : List Dat} {pos : Pos} (ha : D X E a ρ (.ok (.lst xs))) (hb : D X E b ρ (.ok (.lst ys))) (hl : xs.length + ys.length ≤ 100000) : D X E (.BinOp a .Add b pos) ρ (.ok (.lst (xs ++ ys))) :=
  d_op op_cat (fun B H vx vy Q c rx ry q => by
    cases rx with
    | lst h1 r1 =>
      cases ry with
      | lst h2 r2 => exact ⟨_, _, _, _, rfl, rfl, mask_sub B H _ _ h1, mask_sub B H _ _ h2, by rw [r1.length, r2.length]; exact Nat.le_trans hl (by decide), fun p np => q _ _ (same_upd np) (rp_new_lst c np (r1.append r2))⟩) ha hb
end
end G

set_option Elab.async false
set_option linter.all false
set_option maxRecDepth 100000
set_option maxHeartbeats 2000000
namespace G
open PySem PySem.Spec PyProof.Rows L2 TL
/-! ### enumerate(text) -/
def Ites (x : Str) : It := ⟨fun i _ => i < x.cps.size, fun i H v H' => ∃ T c, v = .ref T ∧ H T = none ∧ H' = upd H T (.tup [.int (i : Nat), .str ⟨#[c]⟩]) ∧ x.cps[i]? = some c, fun i _ => i = x.cps.size⟩
theorem turn_enumS {P : Program} {w : World} {K : PySem.W.Frag} {elts : List Expr} {kk : Nat} {tpos : Pos} (e it : Addr) (x : Str) (t : Tok) (ty : String) (hty : ty = "str_ascii_iterator" ∨ ty = "str_iterator") :
    Turn P w K (.Tuple elts kk tpos) (Ites x) [e, it] e (fun i h => (∃ old, IsEnum h e it ((i : Nat) : Int) old) ∧ h.IsStrIter it ty x t i ∧ e ≠ it) where
  mem := by simp
  obj := fun i h st b hb => by
    obtain ⟨⟨old, he⟩, ⟨o, ho, hc, hd⟩, _⟩ := st
    have e' : b = e ∨ b = it := by simpa using hb
    rcases e' with z | z
    · rw [z]; exact ⟨_, he, fun v q => nomatch q⟩
    · rw [z]; exact ⟨o, ho, fun v q => by rw [hd] at q; cases q⟩
  keep := fun i h h' st k => let ⟨⟨old, he⟩, ⟨o, ho, r⟩, hne⟩ := st; ⟨⟨old, k e (by simp) _ he⟩, ⟨o, k it (by simp) o ho, r⟩, hne⟩
  item := by
    intro X hP hw hK hc i pins s σ H E I hf st hg
    subst hP hw hK
    obtain ⟨⟨old, he⟩, hit, hne⟩ := st
    have hel : e < s.heap.objs.size := Heap.lt_size he
    have hil : it < s.heap.objs.size := by obtain ⟨_, q, _⟩ := hit; exact Heap.lt_size q
    have D : Draws X.prog X.w X.A.in1 it [it] x.cps.size (SignAt x) (fun i h => h.IsStrIter it ty x t i) := by
      rcases hty with z | z
      · rw [z]; exact Draws.strAscii (A := X.A.in1) (I.ok.hd hc) it x t
      · rw [z]; exact Draws.strWide (A := X.A.in1) (I.ok.hd hc) it x t
    refine wpAny_pyNext_enum_itemD D he hit hg hne (by simpa using hne) fun u h' tk hP ho hit' hT hsz hk => ?_
    obtain ⟨c, tc, hcx, rfl⟩ := hP
    refine ⟨_, rfl, wpAny_letOwnedTupleGo_enum (s := { s with heap := h', toks := tk + 1 }) ho fun h'' he' sb => ?_⟩
    have hT2 : h''.get? s.heap.objs.size = some { cls := .type "tuple", data := .seq #[.int i tk, .str ⟨#[c]⟩ tc] } := (sb.2 _ (Nat.ne_of_gt hel)).trans hT
    have new : ObjOk X.prog X.w (upd H s.heap.objs.size (.tup [.int (i : Nat), .str ⟨#[c]⟩])) h'' s.heap.objs.size (.tup [.int (i : Nat), .str ⟨#[c]⟩]) :=
      ⟨by show 2 ≤ sizeLine; decide, [.int i tk, .str ⟨#[c]⟩ tc], .cons ⟨_, rfl⟩ (.cons ⟨_, rfl⟩ .nil), ⟨_, hT2, rfl, _, rfl⟩⟩
    have I1 : Inv X pins σ (upd H s.heap.objs.size (.tup [.int (i : Nat), .str ⟨#[c]⟩])) { s with heap := h'', toks := tk + 1 } :=
      I.turnedNew (ch := [e, it]) (fun b ob hb q => (sb.2 b (fun z => hb (by simp [z]))).trans (hk b ob (fun z => hb (by simp [z])) (fun z => hb (by simp [z])) q)) hf (Nat.le_refl _) new
    refine ⟨.ref s.heap.objs.size, _, I1, rfl, ⟨_, c, rfl, I.hok.fresh (Nat.le_refl _), rfl, hcx⟩, ⟨⟨.str ⟨#[c]⟩ tc, ?_⟩, ?_, hne⟩, fun b hb => ?_⟩
    · have e1 : ((i + 1 : Nat) : Int) = (i : Int) + 1 := by omega
      rw [e1]; exact he'
    · obtain ⟨o, q1, q2⟩ := hit'
      exact ⟨o, (sb.2 it (Ne.symm hne)).trans q1, q2⟩
    · have hb' : b < s.heap.objs.size := by
        have e' : b = e ∨ b = it := by simpa using hb
        rcases e' with z | z
        · rw [z]; exact hel
        · rw [z]; exact hil
      rw [upd_ne (Nat.ne_of_lt hb')]
      exact (hf b hb).1
  done := by
    intro X hP hw hK hc i pins s σ H E I hf st hg
    subst hP hw hK
    obtain ⟨⟨old, he⟩, hit, hne⟩ := st
    have hg : i = x.cps.size := hg
    subst hg
    obtain ⟨f0, f1, f2, f3, f4, f5⟩ := hf it (by simp)
    have D : Draws X.prog X.w X.A.in1 it [it] x.cps.size (SignAt x) (fun i h => h.IsStrIter it ty x t i) := by
      rcases hty with z | z
      · rw [z]; exact Draws.strAscii (A := X.A.in1) (I.ok.hd hc) it x t
      · rw [z]; exact Draws.strWide (A := X.A.in1) (I.ok.hd hc) it x t
    exact wpAny_pyNext_enum_endD D he hit fun h' eb => ⟨rfl, I.turned (t' := s.toks) (fun b o hb q => eb b o hb q) f0 f1 f3 f4 f5⟩
  self := fun A i s Q E st h => let ⟨⟨_, he⟩, _⟩ := st; wpAny_pyIter_enum he h
def iEnumS (ta : TA) : TI := fun σ H R => ta σ H fun vs H1 => ∃ x : Str, vs = [.str x] ∧ R (Ites x) H1
theorem pi_enumS {X : Cx} {e : Expr} {ta : TA} {p pos tpos : Pos} {elts : List Expr} {kk : Nat} (hg : Gl X "enumerate") (hm : X.mg "enumerate" = none) (ha : PA X [e] ta) (hs : starEach [e] X.env = [(false, eval e X.env)] := by rfl) :
    PI X (.Tuple elts kk tpos) (.Call (.Name "enumerate" p) [e] [] pos) (iEnumS ta) := by
  refine ⟨fun pins s σ H R I h => ?_⟩
  refine Call_ (ld_blt I hg hm boot_enumerate (PyProof.Rows.callWith_type1 (thn (ha.run pos pins s σ H _ I h) fun us s1 ⟨vs, H1, I1, r1, q1⟩ => ?_) hs rfl))
  obtain ⟨x, ex, q⟩ := q1
  subst ex
  cases r1 with
  | cons r rr =>
    cases rr
    obtain ⟨t, rfl⟩ := r
    refine call_enumerate_str fun h' he hit hsz hk => wpAny_pyIter_enum he ?_
    have I2 : L2.Inv X pins σ H1 { s1 with heap := h' } := I1.kept (t' := s1.toks) hk
    have hty : strIterType x = "str_ascii_iterator" ∨ strIterType x = "str_iterator" := by
      unfold strIterType
      split
      · exact .inl rfl
      · exact .inr rfl
    refine ⟨s1.heap.objs.size + 1, [s1.heap.objs.size + 1, s1.heap.objs.size], _, _, H1, rfl, I2, turn_enumS (s1.heap.objs.size + 1) s1.heap.objs.size x t (strIterType x) hty, ⟨⟨.none, he⟩, hit, Nat.succ_ne_self _⟩, fun b hb => ?_, q⟩
    have e' : b = s1.heap.objs.size + 1 ∨ b = s1.heap.objs.size := by simpa using hb
    have hle : s1.heap.objs.size ≤ b := by
      rcases e' with z | z
      · rw [z]; exact Nat.le_add_right _ _
      · rw [z]; exact Nat.le_refl _
    exact I1.fpOk hle (I1.hok.fresh hle)
def enumD (xs : List Dat) : List Dat := xs.zipIdx.map fun p => .tup [.int (p.2 : Nat), p.1]
theorem enumD_len (xs : List Dat) : (enumD xs).length = xs.length := by
  unfold enumD
  rw [List.length_map, List.length_zipIdx]
theorem enumD_get {xs : List Dat} {i : Nat} {d : Dat} (h : xs[i]? = some d) : (enumD xs)[i]? = some (.tup [.int (i : Nat), d]) := by
  unfold enumD
  rw [List.getElem?_map, List.getElem?_zipIdx, h]
  simp
theorem enumD_pair {xs : List Dat} : ∀ x ∈ enumD xs, prPair x := fun x hx => by
  obtain ⟨p, _, rfl⟩ := List.mem_map.mp hx
  exact ⟨_, _, rfl⟩
section
variable {X : Cx} {E : XK} {ρ : List Sl}
theorem i_enumS {e : Expr} {l : List Nat} {p pos tpos : Pos} {elts : List Expr} {kk : Nat} (hm : X.mg "enumerate" = none) (he : D X E0 e ρ (.ok (.str l))) (hg : Gl X "enumerate" := by rfl) (hs : starEach [e] X.env = [(false, eval e X.env)] := by rfl) :
    I X (.Tuple elts kk tpos) (.Call (.Name "enumerate" p) [e] [] pos) ρ (enumD (l.map fun c => .str [c])) :=
  pi_imp (pi_enumS hg hm (da_one he hs) hs) fun σ H R ⟨B, c, en, q⟩ => ⟨B, c, en, fun vs H1 s1 rs => by
    obtain ⟨v, rfl, rv⟩ := rpA_one rs
    refine ⟨⟨l.toArray⟩, by rw [rp_str rv], q _ H1 s1 fun i H2 B' cv sm => ?_⟩
    rw [enumD_len, List.length_map]
    refine ⟨fun hi => ⟨by show i < l.toArray.size; simpa using hi, fun v H' y => ?_⟩, fun hi => by show i = l.toArray.size; simpa using hi⟩
    obtain ⟨T, c, rfl, nT, rfl, hc⟩ := y
    have hc' : l[i]? = some c := by simpa using hc
    refine ⟨same_upd nT, _, enumD_get (by rw [List.getElem?_map, hc']; rfl), ?_⟩
    exact rp_new_tup cv nT (.cons (.int _) (.cons (.str [c]) .nil))⟩
theorem i_enumL {e : Expr} {xs : List Dat} {p pos tpos : Pos} {elts : List Expr} {kk : Nat} (hm : X.mg "enumerate" = none) (he : D X E0 e ρ (.ok (.lst xs))) (hg : Gl X "enumerate" := by rfl) (hs : starEach [e] X.env = [(false, eval e X.env)] := by rfl) :
    I X (.Tuple elts kk tpos) (.Call (.Name "enumerate" p) [e] [] pos) ρ (enumD xs) :=
  pi_imp (pi_enum hg hm (da_one he hs) hs) fun σ H R ⟨B, c, en, q⟩ => ⟨B, c, en, fun vs H1 s1 rs => by
    obtain ⟨v, rfl, rv⟩ := rpA_one rs
    cases rv with
    | @lst a us _ hs r =>
      refine ⟨a, us, rfl, SqL.of (mask_sub B H1 _ _ hs), q _ H1 s1 fun i H2 B' cv sm => ?_⟩
      rw [enumD_len]
      have hq : SqL X.K H2 a us := SqL.of (mask_sub B' H2 _ _ (sm _ _ hs fun _ z => by cases z))
      refine ⟨fun hi => ⟨⟨us, us[i]'(by rw [r.length]; exact hi), hq, List.getElem?_eq_getElem _⟩, fun v H' y => ?_⟩, fun hi => ⟨us, hq, by rw [r.length, hi]; exact Nat.le_refl _⟩⟩
      obtain ⟨T, x, rfl, nT, rfl, hx⟩ := y
      obtain ⟨d, h1, h2⟩ := r.getV (hx us hq)
      exact ⟨same_upd nT, _, enumD_get h1, rp_new_tup cv nT (.cons (.int _) (.cons (h2.monoN sm) .nil))⟩⟩
end
end G

set_option Elab.async false
set_option linter.all false
set_option maxRecDepth 100000
set_option maxHeartbeats 2000000
namespace G
open PySem PySem.Spec PyProof.Rows L2 TL
/-! ### dice: a list of two ints that a call may change -/
def Dw (W : Wl) (a : Addr) : Prop := W.M a = false → W.H0 a = none
theorem Wd.writeD {W : Wl} {B : Addr → Bool} {H : Hp} {a : Addr} {u : HO} {c n : Int} (w : Wd W B H) (hr : Dw W a) (hb : B a = true) (h : H a = some u) (hu : teO u = false) : Wd W B (upd H a (.lst [.int c, .int n])) := by
  refine ⟨fun b x m hx => ?_, w.b0, fun b hbb n => ?_, by rw [mask_upd hb]; exact w.fr, W.st _ _ (fun b x hx ht => ?_) w.iv, fun b hbd => ?_, fun b ps hbb hx => ?_⟩
  · have ne : b ≠ a := fun z => by
      rw [z] at hx m
      rw [hr m] at hx
      cases hx
    rw [upd_ne ne]
    exact w.old b x m hx
  · by_cases e : b = a
    · rw [e, upd_same] at n
      rcases n with n | ⟨_, n⟩ <;> cases n
    · rw [upd_ne e] at n
      exact w.cov b hbb n
  · have ne : b ≠ a := fun z => by
      rw [z, h] at hx
      cases hx
      rw [hu] at ht
      cases ht
    rw [upd_ne ne]
    exact hx
  · by_cases e : b = a
    · rw [e]
      exact ⟨hb, c, n, upd_same⟩
    · rw [upd_ne e]
      exact w.di b hbd
  · by_cases e : b = a
    · rw [e, upd_same] at hx
      cases hx
    · rw [upd_ne e] at hx
      exact w.tb b ps hbb hx
theorem EnvR.di {K : PySem.W.Frag} {B : Addr → Bool} {H : Hp} {σ : L2.St} {ρ : List Sl} {i : Nat} {a : Addr} (e : EnvR K B H σ ρ) (h : ρ[i]? = some (.di a)) : σ[i]? = some (some (.ref a)) ∧ B a = true ∧ ∃ c n, H a = some (.lst [.int c, .int n]) := by
  obtain ⟨o, h1, h2⟩ := e.at_ i _ h
  cases o with
  | none => exact h2.elim
  | some v =>
    obtain ⟨e1, e2, e3⟩ := h2
    rw [e1] at h1
    exact ⟨h1, e2, e3⟩
theorem set_same_slot {ρ : List Sl} {i : Nat} {s : Sl} (h : ρ[i]? = some s) : ρ.set i s = ρ := by
  refine List.ext_getElem? fun j => ?_
  by_cases e : i = j
  · subst e
    rw [List.getElem?_set_self (List.getElem?_eq_some_iff.mp h).1, h]
  · rw [List.getElem?_set_ne e]
/-- the dice at a were thrown -/
theorem dice_step {K : PySem.W.Frag} {W : Wl} {B : Addr → Bool} {H H' : Hp} {σ : L2.St} {ρ : List Sl} {i : Nat} {a : Addr} (w : Wd W B H) (en : EnvR K B H σ ρ) (hi : ρ[i]? = some (.di a)) (hd : Dw W a) (hp : ∀ b o, b ≠ a → H b = some o → H' b = some o) (hc : ∃ c n, H' a = some (.lst [.int c, .int n])) :
    Wd W B H' ∧ EnvR K B H' σ ρ ∧ Same (mask B H) (mask B H') := by
  obtain ⟨h1, hb, c0, n0, h0⟩ := en.di hi
  obtain ⟨c, n, hc⟩ := hc
  have s : Same (upd H a (.lst [.int c, .int n])) H' := fun b o e => by
    by_cases z : b = a
    · rw [z, upd_same] at e
      rw [z, hc, e]
    · rw [upd_ne z] at e
      exact hp b o z e
  have w1 := (w.writeD (c := c) (n := n) hd hb h0 rfl).same s
  have e1 := (en.write (o := .lst [.int c, .int n]) (s' := .di a) hi rfl h1 hb ⟨rfl, hb, c, n, upd_same⟩ rfl).same s
  rw [set_same_slot hi] at e1
  refine ⟨w1, e1, ?_⟩
  have m := mask_same (B := B) s
  rw [mask_upd hb] at m
  exact m
/-! ### expressions that may throw the dice -/
def tE (K : PySem.W.Frag) (W : Wl) (ρ : List Sl) (S : Dat → Prop) : TE := fun σ H Q => ∃ B, Wd W B H ∧ EnvR K B H σ ρ ∧ ∀ v H' B' d, S d → Wd W B' H' → EnvR K B' H' σ ρ → Sm (mask B H) (mask B' H') → Rp K (mask B' H') v d → Q v H'
abbrev DE (X : Cx) (W : Wl) (e : Expr) (ρ : List Sl) (S : Dat → Prop) : Prop := PE X e (tE X.K W ρ S)
def tEA (K : PySem.W.Frag) (W : Wl) (ρ : List Sl) (S : List Dat → Prop) : TA := fun σ H Q => ∃ B, Wd W B H ∧ EnvR K B H σ ρ ∧ ∀ vs H' B' ds, S ds → Wd W B' H' → EnvR K B' H' σ ρ → Sm (mask B H) (mask B' H') → RpA K (mask B' H') vs ds → Q vs H'
abbrev DEA (X : Cx) (W : Wl) (es : List Expr) (ρ : List Sl) (S : List Dat → Prop) : Prop := PA X es (tEA X.K W ρ S)
section
variable {X : Cx} {E : XK} {W : Wl} {ρ : List Sl} {P : Out → Prop} {S : Dat → Prop}
theorem de_pure {e : Expr} {d : Dat} (h : D X E e ρ (.ok d)) (hs : S d) : DE X W e ρ S :=
  pe_imp h fun σ H Q ⟨B, w, en, q⟩ => ⟨B, w.cov, en, fun v H' s r => q v H' B d hs (w.same s) (en.same s) (Sm.of (mask_same s)) r⟩
theorem dea_nil {S : List Dat → Prop} (h : S []) : DEA X W [] ρ S := pa_imp pa_nil fun σ H Q ⟨B, w, en, q⟩ => q [] H B [] h w en (LamX.ExtN.refl _) .nil
theorem dea_cons {e : Expr} {es : List Expr} {S1 : Dat → Prop} {S2 S : List Dat → Prop} (h : DE X W e ρ S1) (hr : DEA X W es ρ S2) (hS : ∀ d ds, S1 d → S2 ds → S (d :: ds)) (hs : starEach (e :: es) X.env = (false, eval e X.env) :: starEach es X.env := by rfl) : DEA X W (e :: es) ρ S :=
  pa_imp (pa_cons h hr hs) fun σ H Q ⟨B, w, en, q⟩ => ⟨B, w, en, fun v H1 B1 d h1 w1 en1 m1 rv => ⟨B1, w1, en1, fun vs H2 B2 ds h2 w2 en2 m2 rs => q (v :: vs) H2 B2 (d :: ds) (hS d ds h1 h2) w2 en2 (m1.trans m2) (.cons (rv.monoN m2) rs)⟩⟩
/-- a binary operation -/
theorem de_op {a b : Expr} {op : Operator} {r : R2} {S1 S2 : Dat → Prop} {pos : Pos} (hr : OpR X (binaryOp op) r) (ho : ∀ x y, S1 x → S2 y → ∃ z, S z ∧ Op2 X.K r x y z) (ha : DE X W a ρ S1) (hb : DE X W b ρ S2) : DE X W (.BinOp a op b pos) ρ S :=
  pe_imp (pe_op hr ha hb) fun σ H Q ⟨B, w, en, q⟩ => ⟨B, w, en, fun vx H1 B1 x h1 w1 en1 m1 rx => ⟨B1, w1, en1, fun vy H2 B2 y h2 w2 en2 m2 ry => by
    obtain ⟨z, hz, oz⟩ := ho x y h1 h2
    exact oz B2 H2 vx vy Q w2.cov (rx.monoN m2) ry fun v H3 s3 rv => q v H3 B2 z hz (w2.same s3) (en2.same s3) ((m1.trans m2).trans (Sm.of (mask_same s3))) rv⟩⟩
theorem de_ix {a b : Expr} {r : R2} {S1 S2 : Dat → Prop} {pos : Pos} (hr : IxR X r) (ho : ∀ x y, S1 x → S2 y → ∃ z, S z ∧ Op2 X.K r x y z) (ha : DE X W a ρ S1) (hb : DE X W b ρ S2) (hs : PlainIx b := by exact fun _ _ => rfl) : DE X W (.Subscript a b pos) ρ S :=
  pe_imp (pe_ix hr ha hb hs) fun σ H Q ⟨B, w, en, q⟩ => ⟨B, w, en, fun vx H1 B1 x h1 w1 en1 m1 rx => ⟨B1, w1, en1, fun vy H2 B2 y h2 w2 en2 m2 ry => by
    obtain ⟨z, hz, oz⟩ := ho x y h1 h2
    exact oz B2 H2 vx vy Q w2.cov (rx.monoN m2) ry fun v H3 s3 rv => q v H3 B2 z hz (w2.same s3) (en2.same s3) ((m1.trans m2).trans (Sm.of (mask_same s3))) rv⟩⟩
/-- x = e -/
theorem s_setDE (i : Nat) {x : Str} {e : Expr} {pos pos' : Pos} (hN : X.N.Nodup) (h : DE X W e ρ S) (q : ∀ d, S d → P (.nx (ρ.set i (.dt d)))) (hi : X.N[i]? = some x := by rfl) (hx : Loc X.env.scope x := by first | exact Or.inl rfl | exact Or.inr rfl)
    (hs : swapsWith e (some (.Name x pos')) pos.line X.env = pure false := by rfl) (hf : X.fn x = true ∨ X.env.scope.names.lookup x = some .local := by first | exact .inl rfl | exact .inr rfl | assumption) : S1 X E W (.Assign [.Name x pos'] e pos) ρ P :=
  ps_imp (ps_set hN hi hx h hs hf) fun D σ H ⟨B, w, en, p⟩ => ⟨B, w, en, fun v H' B' d hd w' en' m' r => p.nx _ _ H' B' (q d hd) w' (en'.setD i r)⟩
/-- a, b = e, e a pair -/
theorem s_asg2DE {i j : Nat} {e tg : Expr} {pos : Pos} (hg : GT X tg [i, j] prPair (bd2 i j)) (h : DE X W e ρ S) (q : ∀ d, S d → ∃ a b, d = .tup [a, b] ∧ P (.nx ((ρ.set i (.dt a)).set j (.dt b))))
    (h2 : PE X e (tE X.K W ρ S) → PG X tg (tG X.K [i, j] prPair (bd2 i j)) → PS X (.Assign [tg] e pos) (tAsg (tE X.K W ρ S) (tG X.K [i, j] prPair (bd2 i j)))) : S1 X E W (.Assign [tg] e pos) ρ P :=
  ps_imp (h2 h hg) fun D σ H ⟨B, w, en, p⟩ => ⟨B, w, en, fun v H' B' d hd w' en' m' r => by
    obtain ⟨a, b, rfl, hq⟩ := q d hd
    exact ⟨B', _, ρ, w'.cov, en', r, ⟨a, b, rfl⟩, fun σ' en2 _ => p.nx _ _ H' B' hq w' en2⟩⟩
/-- a, b = e1, e2 -/
theorem s_parDE {i j : Nat} {x y : Str} {a b : Expr} {px py pt : Pos} {kt k2 : Nat} {pt2 pos : Pos} {S : List Dat → Prop} (h2 : PA X [a, b] (tEA X.K W ρ S) → PS X (.Assign [.Tuple [.Name x px, .Name y py] kt pt] (.Tuple [a, b] k2 pt2) pos) (tPar i j (tEA X.K W ρ S)))
    (h : DEA X W [a, b] ρ S) (q : ∀ ds, S ds → ∃ u v, ds = [u, v] ∧ P (.nx ((ρ.set i (.dt u)).set j (.dt v)))) : S1 X E W (.Assign [.Tuple [.Name x px, .Name y py] kt pt] (.Tuple [a, b] k2 pt2) pos) ρ P :=
  ps_imp (h2 h) fun D σ H ⟨B, w, en, p⟩ => ⟨B, w, en, fun vs H' B' ds hd w' en' m' r => by
    obtain ⟨u, v, rfl, hq⟩ := q ds hd
    obtain ⟨va, vb, rfl, ra, rb⟩ := rpA_two r
    exact ⟨va, vb, rfl, p.nx _ _ H' B' hq w' ((en'.setD i ra).setD j rb)⟩⟩
theorem s_retDE {e : Expr} {pos : Pos} (h : DE X W e ρ S) (q : ∀ d, S d → P (.rt d)) : S1 X E W (.Return (some e) pos) ρ P :=
  ps_imp (ps_ret h) fun D σ H ⟨B, w, en, p⟩ => ⟨B, w, en, fun v H' B' d hd w' en' m' r => p.rt d v H' B' (q d hd) w' r⟩
/-! ### defs that take dice -/
end
def spD (K : PySem.W.Frag) (C : List Dat → (Dat → Prop) → Prop) : Sp := fun vs H Q E => ∃ B a vs' as S, vs = V.ref a :: vs' ∧ Cov B H ∧ B a = true ∧ (∃ c n, H a = some (.lst [.int c, .int n])) ∧ RpA K (mask B H) vs' as ∧ C as S ∧
  ∀ v H' d, S d → (∀ b o, b ≠ a → H b = some o → H' b = some o) → (∃ c n, H' a = some (.lst [.int c, .int n])) → Rp K (mask B H') v d → Q v H'
structure FnD (P : Program) (w : World) (K : PySem.W.Frag) (mg : Str → Option Value) (base : Heap) (x : Str) (ps : List Str) (C : List Dat → (Dat → Prop) → Prop) (k : Nat) : Prop where
  ex : ∃ f fd, FnOk P w K mg base (L2N.CX P w) k f fd ps (spD K C) ∧ mg x = some (.ref f) ∧ PySem.W.keepIn K (.ref f) = true ∧ Binds K fd ps []
section
variable {X : Cx} {E : XK} {W : Wl} {ρ : List Sl} {P : Out → Prop} {S : Dat → Prop}
theorem de_call {x dn : Str} {ps : List Str} {C : List Dat → (Dat → Prop) → Prop} {k : Nat} {i : Nat} {a : Addr} {es : List Expr} {as : List Dat} {p pd pos : Pos} (F : FnD X.prog X.w X.K X.mg X.base x ps C k) (hr : Room k X.A) (hi : ρ[i]? = some (.di a)) (hd : Dw W a) (hx : PE X (.Name dn pd) (tVar i)) (ha : DA X E0 es ρ (.ok as)) (hc : C as S)
    (hg : Gl X x := by rfl) (hdb : (x == ("__debug__" : Str)) = false := by decide) (he : starEach (.Name dn pd :: es) X.env = (false, eval (.Name dn pd) X.env) :: starEach es X.env := by rfl) (hpl : (backTo pos (starEach es X.env)).any (·.1) = false := by rfl) : DE X W (.Call (.Name x p) (.Name dn pd :: es) [] pos) ρ S := by
  obtain ⟨f, fd, h1, h2, h3, h4⟩ := F.ex
  refine pe_imp (pe_callS (E := fun _ => E0) h1 hr hg h2 h3 h4 (fun σ pins H s e s' I c => passN pins σ H s e s' I c) (pa_cons hx ha he) hdb he hpl) fun σ H Q ⟨B, w, en, q⟩ => ?_
  obtain ⟨e1, hb, c0, n0, h0⟩ := en.di hi
  refine ⟨_, e1, B, w.cov, en, fun vs H1 s1 rs => ⟨B, a, vs, as, S, rfl, w.cov.same s1, hb, ⟨c0, n0, s1 _ _ h0⟩, rs, hc, fun v H' d hS hp hcn rv => ?_⟩⟩
  obtain ⟨w', en', m'⟩ := dice_step (w.same s1) (en.same s1) hi hd hp hcn
  exact q v H' B d hS w' en' (Sm.of ((mask_same s1).trans m')) rv
end
def startD (N : List Str) (a : Addr) (as : List Dat) : List Sl := .di a :: (as.map Sl.dt ++ List.replicate (N.length - 1 - as.length) Sl.un)
theorem EnvR.cons {K : PySem.W.Frag} {B : Addr → Bool} {H : Hp} {σ : L2.St} {ρ : List Sl} {s : Sl} {o : Option V} (e : EnvR K B H σ ρ) (h : SlOk K B H s o) (hno : ∀ x ∈ ρ, x.own = false) : EnvR K B H (o :: σ) (s :: ρ) := by
  refine ⟨by rw [List.length_cons, List.length_cons, e.len], fun i x hx => ?_, fun i j si sj v hij hi hj oi oj vi => ?_⟩
  · cases i with
    | zero =>
      have hx := Option.some.inj hx
      subst hx
      exact ⟨o, rfl, h⟩
    | succ i => exact e.at_ i x hx
  · cases i with
    | zero =>
      cases j with
      | zero => exact absurd rfl hij
      | succ j =>
        have hj : ρ[j]? = some sj := hj
        rw [hno sj (List.mem_of_getElem? hj)] at oj
        cases oj
    | succ i =>
      have hi : ρ[i]? = some si := hi
      rw [hno si (List.mem_of_getElem? hi)] at oi
      cases oi
theorem startρ_own {N : List Str} {as : List Dat} : ∀ x ∈ startρ N as, x.own = false := fun x hx => by
  rcases List.mem_append.mp hx with h | h
  · obtain ⟨d, _, rfl⟩ := List.mem_map.mp h
    rfl
  · rw [(List.mem_replicate.mp h).2]
    rfl
section
variable {P : Program} {w : World} {K : PySem.W.Frag} {mg : Str → Option Value} {base : Heap}
theorem fnD_ok {x qual : Str} {st : Stmt} {f : Addr} {fd : FuncData} {N ps : List Str} {k : Nat} {C : List Dat → (Dat → Prop) → Prop} (F : Fun K x qual st f fd) (Sc : FnScope N ps (defScope st)) (len : ∀ as S, C as S → as.length + 1 = ps.length) (hN : 1 ≤ N.length)
    (hbody : ∀ (cdv : Value) (A : Around) (outer : List Env) (s : Shared) (H : Hp) (E : XK) (as : List Dat) (S : Dat → Prop) (W : Wl) (a : Addr), (∀ b, b ≠ a → W.M b = false) → Dw W a → W.dc a = true → Room k (A.deeper (envOfC qual (defScope st) s.heap.objs.size f cdv)) → C as S →
      SS (cxOf (L2N.CX P w) P w K mg base N qual (defScope st) f cdv A outer s H E) E W (defBody st) (startD N a as) (fun o => ∃ d, o = .rt d ∧ S d)) : FnOk P w K mg base (L2N.CX P w) (k + 1) f fd ps (spD K C) := by
  refine okN F Sc (fun vs H Q E h => ?_) (fun cdv A outer s H vs Q E hr h => ?_)
  · obtain ⟨B, a, vs', as, S, rfl, _, _, _, ra, hc, _⟩ := h
    rw [List.length_cons, ra.length]
    exact len as S hc
  · obtain ⟨B, a, vs', as, S, rfl, cv, hb, hdi, ra, hc, q⟩ := h
    have hb' := hbody cdv A outer s H E as S ⟨H, B, fun b => decide (b = a), fun _ => none, fun _ => True, fun _ _ _ _ => True.intro, cv, fun b => decide (b = a), fun _ => true⟩ a (fun b hb => decide_eq_false hb) (fun m => by simp at m) (by simp) hr hc
    refine ⟨_, hb', B, ⟨fun a o _ h => h, fun _ h => h, cv, fun a o h => (by cases h), True.intro, fun b hbd => ?_, fun _ _ _ _ => rfl⟩, ?_, ?_⟩
    · have e := of_decide_eq_true hbd
      subst e
      exact ⟨hb, hdi⟩
    · have e := envR_start (N := N.drop 1) ra
      have e2 := e.cons (s := .di a) (o := some (.ref a)) ⟨rfl, hb, hdi⟩ startρ_own
      have z : L2.start N (.ref a :: vs') = some (V.ref a) :: L2.start (N.drop 1) vs' := by
        unfold L2.start
        rw [List.map_cons, List.cons_append, List.length_cons, List.length_drop, Nat.sub_sub, Nat.add_comm 1]
      have z2 : startD N a as = .di a :: startρ (N.drop 1) as := by
        unfold startD startρ
        rw [List.length_drop]
      rw [z, z2]
      exact e2
    · refine ⟨fun ρ σ H' B' e w en => ?_, fun d v H' B' e w r' => ?_, fun c H' B' e w => ?_, fun ρ σ H' B' e w en => ?_, fun ρ σ H' B' e w en => ?_, fun ρ σ d v H' B' e w en r' => (by obtain ⟨d, e, _⟩ := e; cases e), fun ρ σ c H' B' e w en => (by obtain ⟨d, e, _⟩ := e; cases e)⟩
      · obtain ⟨d, e, _⟩ := e
        cases e
      · obtain ⟨d', e, hS⟩ := e
        cases e
        exact q v H' d hS (fun b o hne h => w.old b o (decide_eq_false hne) h) (w.di a (by simp)).2 (r'.mono (mask_le w.b0))
      · obtain ⟨d, e, _⟩ := e
        cases e
      · obtain ⟨d, e, _⟩ := e
        cases e
      · obtain ⟨d, e, _⟩ := e
        cases e
end
/-! ### the loop over the dice of a law; T: the tables of code objects -/
abbrev tbs (T : List (Addr × Str)) : List Addr := T.map (·.1)
def WT (T : List (Addr × Str)) (fr : Hp) (dc : Addr → Bool) : Wl :=
  ⟨fun a => if a ∈ tbs T then some (.tbl #[]) else none, fun a => decide (a ∈ tbs T), fun a => decide (a ∈ tbs T), fr, LamX.Tabs T, fun H H' k h p hp => (by
    obtain ⟨ps, h1, h2, h3⟩ := h p hp
    exact ⟨ps, k _ _ h1 rfl, h2, fun pos cv hc => let ⟨c, e, h⟩ := h3 pos cv hc; ⟨c, e, k _ _ h rfl⟩⟩), fun a ha n => (by
    have n : Bad (if a ∈ tbs T then some (HO.tbl #[]) else none) := n
    rw [if_pos (of_decide_eq_true ha)] at n
    rcases n with n | ⟨_, n⟩ <;> cases n), dc, fun a => decide (a ∈ tbs T)⟩
theorem dwT {T : List (Addr × Str)} {fr : Hp} {dc : Addr → Bool} {a : Addr} : Dw (WT T fr dc) a := fun m => if_neg (of_decide_eq_false m)
abbrev W0 (T : List (Addr × Str)) : Wl := WT T (fun _ => none) fun _ => false
def unN (n : Nat) : List Sl := List.replicate n .un
theorem envR_un {K : PySem.W.Frag} {B : Addr → Bool} {H : Hp} {σ : L2.St} {n : Nat} (h : σ.length = n) : EnvR K B H σ (unN n) := by
  refine ⟨by unfold unN; rw [h, List.length_replicate], fun i s hs => ?_, fun i j si sj v _ hi _ oi _ _ => ?_⟩
  · unfold unN at hs
    rw [List.getElem?_replicate] at hs
    split at hs
    · have hs := Option.some.inj hs
      subst hs
      exact ⟨σ[i], List.getElem?_eq_getElem (by omega), True.intro⟩
    · cases hs
  · unfold unN at hi
    rw [List.getElem?_replicate] at hi
    split at hi
    · have hi := Option.some.inj hi
      subst hi
      cases oi
    · cases hi
theorem rpA_dice {K : PySem.W.Frag} {H : Hp} : ∀ {cs : List Int} {vs : List V}, RpA K H vs (cs.map fun c => .lst [.int c, .int 0]) → ∃ as : List Addr, vs = as.map V.ref ∧ ∀ a ∈ as, ∃ c, H a = some (.lst [.int c, .int 0])
  | [], _, h => by
    cases h
    exact ⟨[], rfl, fun a h => by cases h⟩
  | c :: cs, _, h => by
    cases h with
    | cons h1 h2 =>
      obtain ⟨as, rfl, h3⟩ := rpA_dice h2
      cases h1 with
      | @lst a xs _ ha hr =>
        obtain ⟨v, w, rfl, r1, r2⟩ := rpA_two hr
        rw [rp_int r1, rp_int r2] at ha
        refine ⟨a :: as, rfl, fun b hb => ?_⟩
        rcases List.mem_cons.mp hb with rfl | hb
        · exact ⟨c, ha⟩
        · exact h3 b hb
theorem s_forDice {X : Cx} {E : XK} {ρ : List Sl} {P : Out → Prop} {T : List (Addr × Str)} {x : Str} {iter : Expr} {body : List Stmt} {px pos : Pos} {cs : List Int} (i : Nat) (hp : PassesOwn (model X.prog X.w) X.A X.env X.xe) (hN : X.N.Nodup) (hl : ρ.length = X.N.length) (hit : D X E0 iter ρ (.ok (.lst (cs.map fun c => .lst [.int c, .int 0]))))
    (hs : ∀ (fr : Hp) (dc : Addr → Bool) (a : Addr), dc a = true → SS X E (WT T fr dc) body ((unN X.N.length).set i (.di a)) (Lp (fun ρ2 => ρ2.length = X.N.length) fun _ => False)) (hd : P (.nx (unN X.N.length))) (hi : X.N[i]? = some x := by rfl) (hx : Loc X.env.scope x := by first | exact Or.inl rfl | exact Or.inr rfl)
    (hf2 : X.fn x = true ∨ X.env.scope.names.lookup x = some .local := by first | exact .inl rfl | exact .inr rfl | assumption) (hc : X.calm = true := by rfl) (hf : ∀ x, foldedSetIterable iter X.env x = pure x := by intro _; rfl) : S1 X E (W0 T) (.For (.Name x px) iter body [] pos) ρ P := by
  refine ps_imp (ps_for hp hc (pi_list hit) (pg_name (i := i) hN hi hx hf2) (pss_ex (ι := { q : Hp × (Addr → Bool) × Addr // q.2.1 q.2.2 = true }) (t := fun q => tS X.K E (WT T q.1.1 q.1.2.1) ((unN X.N.length).set i (.di q.1.2.2)) (Lp (fun ρ2 => ρ2.length = X.N.length) fun _ => False)) fun q => hs q.1.1 q.1.2.1 q.1.2.2 q.2) hf) fun D σ H ⟨B, w, en, p⟩ => ?_
  refine ⟨B, w.cov, en, fun v H1 s1 rv => ?_⟩
  have hσ : σ.length = X.N.length := en.len.trans hl
  have hT : LamX.Tabs T H1 := (w.same s1).iv
  have tab : ∀ a, a ∈ tbs T → ∃ ps, H1 a = some (.tbl ps) := fun a ha => by
    obtain ⟨p, hp, rfl⟩ := List.mem_map.mp ha
    obtain ⟨ps, h, _⟩ := hT p hp
    exact ⟨ps, h⟩
  cases rv with
  | @lst l vs _ hq hr =>
    obtain ⟨as, rfl, has⟩ := rpA_dice hr
    have hq1 : H1 l = some (.lst (as.map V.ref)) := mask_sub B H1 _ _ hq
    have has1 : ∀ a ∈ as, ∃ c, H1 a = some (.lst [.int c, .int 0]) := fun a ha => let ⟨c, h⟩ := has a ha; ⟨c, mask_sub B H1 _ _ h⟩
    have hla : l ∉ as := fun h => by
      obtain ⟨c, hc⟩ := has1 l h
      rw [hq1] at hc
      cases as with
      | nil => cases h
      | cons a r =>
        have hc := Option.some.inj hc
        injection hc with hc
        rw [List.map_cons] at hc
        injection hc with hc _
        cases hc
    have hlt : l ∉ tbs T := fun h => by
      obtain ⟨ps, e⟩ := tab l h
      rw [hq1] at e
      cases e
    let dc : Addr → Bool := fun b => decide (b ∈ as)
    let Bd : Addr → Bool := fun b => decide (b ∈ as) || decide (b ∈ tbs T)
    refine ⟨l, rfl, ⟨_, SqL.of hq1⟩, fun i m σ H => m = as.length - i ∧ i ≤ as.length ∧ σ.length = X.N.length ∧ ∃ B', Wd (WT T (mask Bd H1) dc) B' H, ⟨as.length, by simp, Nat.zero_le _, hσ, Bd, ?_⟩, ?_⟩
    · refine ⟨fun a o m h => ?_, fun a h => ?_, fun a ha n => ?_, LamX.ExtN.refl _, hT, fun a ha => ⟨?_, ?_⟩, fun a ps ha h => ?_⟩
      · rw [show (WT T (mask Bd H1) dc).H0 a = none from dwT m] at h
        cases h
      · show (decide (a ∈ as) || decide (a ∈ tbs T)) = true
        rw [show decide (a ∈ tbs T) = true from h, Bool.or_true]
      · rcases Bool.or_eq_true_iff.mp ha with z | z
        · obtain ⟨c, hc⟩ := has1 a (of_decide_eq_true z)
          rw [hc] at n
          rcases n with n | ⟨_, n⟩ <;> cases n
        · obtain ⟨ps, h⟩ := tab a (of_decide_eq_true z)
          rw [h] at n
          rcases n with n | ⟨_, n⟩ <;> cases n
      · show (decide (a ∈ as) || decide (a ∈ tbs T)) = true
        rw [show decide (a ∈ as) = true from ha, Bool.true_or]
      · obtain ⟨c, hc⟩ := has1 a (of_decide_eq_true ha)
        exact ⟨c, 0, hc⟩
      · rcases Bool.or_eq_true_iff.mp ha with z | z
        · obtain ⟨c, hc⟩ := has1 a (of_decide_eq_true z)
          rw [hc] at h
          cases h
        · exact z
    · rintro j m σ H ⟨rfl, hj, hσ, B', wd⟩
      have hql : H l = some (.lst (as.map V.ref)) := by
        refine mask_sub B' H _ _ (wd.fr l _ ?_ fun _ z => by cases z)
        show mask Bd H1 l = _
        rw [mask_out (by show (decide (l ∈ as) || decide (l ∈ tbs T)) = false; rw [decide_eq_false hla, decide_eq_false hlt]; rfl)]
        exact hq1
      have hq2 : SqL X.K H l (as.map V.ref) := SqL.of hql
      by_cases hlt : j < as.length
      · refine .inr ⟨⟨_, (as.map V.ref)[j]'(by rw [List.length_map]; exact hlt), hq2, List.getElem?_eq_getElem _⟩, fun σ' H' => σ'.length = X.N.length ∧ ∃ B', Wd (WT T (mask Bd H1) dc) B' H', fun σ' H' z => ⟨as.length - (j + 1), by omega, rfl, hlt, z⟩, fun v H' yv => ?_⟩
        obtain ⟨e1, y⟩ := yv
        subst e1
        have hv := y _ hq2
        rw [List.getElem?_map] at hv
        obtain ⟨a, ha, rfl⟩ := Option.map_eq_some_iff.mp hv
        have hm : dc a = true := decide_eq_true (List.mem_of_getElem? ha)
        refine ⟨⟨(mask Bd H1, dc, a), hm⟩, B', wd, ?_, ?_⟩
        · exact (envR_un hσ).setO i ⟨rfl, wd.di a hm⟩ fun k sk v _ hk ok _ => by
            unfold unN at hk
            rw [List.getElem?_replicate] at hk
            split at hk
            · have hk := Option.some.inj hk
              subst hk
              cases ok
            · cases hk
        · exact ⟨fun ρ2 σ2 H2 B2 q w2 e2 => ⟨e2.len.trans q, B2, w2⟩, fun _ _ _ _ q => q.elim, fun _ _ _ q => q.elim, fun _ _ _ _ q => q.elim, fun ρ2 σ2 H2 B2 q w2 e2 => ⟨e2.len.trans q, B2, w2⟩, fun _ _ _ _ _ _ q => q.elim, fun _ _ _ _ _ q => q.elim⟩
      · exact .inl ⟨⟨_, hq2, by rw [List.length_map]; omega⟩, p.nx _ σ H B' hd ⟨wd.old, wd.b0, wd.cov, fun a o h => (by cases h), wd.iv, fun a h => (by cases h), wd.tb⟩ (envR_un hσ)⟩
end G

set_option Elab.async false
set_option linter.all false
set_option maxRecDepth 100000
set_option maxHeartbeats 2000000
namespace G
open PySem PySem.Spec PyProof.Rows L2 TL
section
variable {X : Cx} {E : XK} {W : Wl} {ρ : List Sl} {P : Out → Prop} {tg : Expr}
/-! ### y = [..] on one line, y a local -/
theorem s_setLc0 (i : Nat) {y : Str} {py spos : Pos} {elt iter : Expr} {scope : Scope} {own : List (Str × Nat)} {pos : Pos} {xs : List Dat} {is : List Nat} {pr : Dat → Prop} {bd : Dat → List Sl → List Sl} {f : Dat → Dat} (hc : X.calm = true) (hN : X.N.Nodup) (hi : I X tg iter ρ xs) (ok : BlkOk X.N X.env.scope scope own)
    (hg : Bk X scope fun Y => GT Y tg is pr bd) (he : ∀ x ∈ xs, Bk X scope fun Y => D Y E0 elt (bd x (wipeρ ρ (own.map (·.2)))) (.ok (f x))) (hpr : ∀ x ∈ xs, pr x) (his : ∀ i ∈ is, i ∈ own.map (·.2)) (hl : xs.length ≤ 100000) (q : P (.nx (ρ.set i (.dt (.lst (xs.map f))))))
    (hs : ∀ x, foldedSetIterable iter X.env x = pure x := by intro _; rfl) (hy : X.N[i]? = some y := by rfl) (hyl : X.env.scope.names.lookup y = some .local := by rfl) (hsw : swapsWith (.ListComp elt [⟨tg, iter, [], 0⟩] scope pos) (some (.Name y py)) spos.line X.env = pure true := by first | rfl | exact sw_true rfl rfl rfl rfl) :
    S1 X E W (.Assign [.Name y py] (.ListComp elt [⟨tg, iter, [], 0⟩] scope pos) spos) ρ P := by
  refine ps_imp (ps_setLc (g := tG X.K is pr bd) (te := fun σ H Q => ∃ x : { x // x ∈ xs }, tD X.K E0 (bd x.1 (wipeρ ρ (own.map (·.2)))) (.ok (f x.1)) σ H Q) hc hN hy hyl hsw hi ok hg (fun _ _ _ _ _ => pts_nil) (fun s H C cl fp => pe_ex fun x => he x.1 x.2 s H C cl fp) hs) fun D σ H ⟨B, w, en, p⟩ => ⟨B, w.cov, en, fun J H1 s1 hy Dl nD => ?_⟩
  refine lc_core2 (bd := bd) (tt := tYes) (te := fun σ H Q => ∃ x : { x // x ∈ xs }, tD X.K E0 (bd x.1 (wipeρ ρ (own.map (·.2)))) (.ok (f x.1)) σ H Q) (Q := fun x H1 => gName i x σ H1 D.nx) (p := fun _ => true) (f := f) (w.cov.same s1) (en.same s1) hy hpr his hl (fun x _ B σ' H Q _ _ k => k H (Same.refl H)) (fun x hx _ B σ' H Q cv en k => ⟨⟨x, hx⟩, B, cv, en, k⟩) nD fun H' s' r => ?_
  rw [List.filter_eq_self.mpr fun _ _ => rfl] at r
  have ss := s1.trans s'
  exact p.nx _ _ H' B q (w.same ss) ((en.same ss).setD i r)
theorem s_setLc1 (i : Nat) {y : Str} {py spos : Pos} {elt iter cond : Expr} {scope : Scope} {own : List (Str × Nat)} {pos : Pos} {xs : List Dat} {is : List Nat} {pr : Dat → Prop} {bd : Dat → List Sl → List Sl} {pp : Dat → Bool} {f : Dat → Dat} (hc : X.calm = true) (hN : X.N.Nodup) (hi : I X tg iter ρ xs) (ok : BlkOk X.N X.env.scope scope own)
    (hg : Bk X scope fun Y => GT Y tg is pr bd) (ht : ∀ x ∈ xs, Bk X scope fun Y => T Y cond (bd x (wipeρ ρ (own.map (·.2)))) (pp x)) (he : ∀ x ∈ xs, pp x = true → Bk X scope fun Y => D Y E0 elt (bd x (wipeρ ρ (own.map (·.2)))) (.ok (f x))) (hpr : ∀ x ∈ xs, pr x) (his : ∀ i ∈ is, i ∈ own.map (·.2)) (hl : xs.length ≤ 100000) (q : P (.nx (ρ.set i (.dt (.lst ((xs.filter pp).map f))))))
    (hs : ∀ x, foldedSetIterable iter X.env x = pure x := by intro _; rfl) (hy : X.N[i]? = some y := by rfl) (hyl : X.env.scope.names.lookup y = some .local := by rfl) (hsw : swapsWith (.ListComp elt [⟨tg, iter, [cond], 0⟩] scope pos) (some (.Name y py)) spos.line X.env = pure true := by first | rfl | exact sw_true rfl rfl rfl rfl) :
    S1 X E W (.Assign [.Name y py] (.ListComp elt [⟨tg, iter, [cond], 0⟩] scope pos) spos) ρ P := by
  refine ps_imp (ps_setLc (g := tG X.K is pr bd) (tt := fun σ H Q => ∃ x : { x // x ∈ xs }, tDT X.K (bd x.1 (wipeρ ρ (own.map (·.2)))) (pp x.1) σ H Q) (te := fun σ H Q => ∃ x : { x // x ∈ xs ∧ pp x = true }, tD X.K E0 (bd x.1 (wipeρ ρ (own.map (·.2)))) (.ok (f x.1)) σ H Q) hc hN hy hyl hsw hi ok hg (fun s H C cl fp => pts_one (pt_ex fun x => ht x.1 x.2 s H C cl fp)) (fun s H C cl fp => pe_ex fun x => he x.1 x.2.1 x.2.2 s H C cl fp) hs) fun D σ H ⟨B, w, en, p⟩ => ⟨B, w.cov, en, fun J H1 s1 hy Dl nD => ?_⟩
  refine lc_core2 (bd := bd) (tt := fun σ H Q => ∃ x : { x // x ∈ xs }, tDT X.K (bd x.1 (wipeρ ρ (own.map (·.2)))) (pp x.1) σ H Q) (te := fun σ H Q => ∃ x : { x // x ∈ xs ∧ pp x = true }, tD X.K E0 (bd x.1 (wipeρ ρ (own.map (·.2)))) (.ok (f x.1)) σ H Q) (Q := fun x H1 => gName i x σ H1 D.nx) (p := pp) (f := f) (w.cov.same s1) (en.same s1) hy hpr his hl (fun x hx B σ' H Q cv en k => ⟨⟨x, hx⟩, B, cv, en, k⟩) (fun x hx hp B σ' H Q cv en k => ⟨⟨x, hx, hp⟩, B, cv, en, k⟩) nD fun H' s' r => ?_
  have ss := s1.trans s'
  exact p.nx _ _ H' B q (w.same ss) ((en.same ss).setD i r)
end
end G

set_option linter.all false
namespace G
/-! plain: formations as lists of code lists, the orders on them -/
abbrev Fm := List (List Nat)
def lets : List Nat := [97, 98, 99, 100, 101, 102]
def signs : List Nat := [65, 67, 68, 76, 77, 82, 83, 88]
def fileOf (f : Fm) (n : Nat) : List Nat := f.filterMap fun r => r[n]?
def inter : List Nat → List Nat → List Nat
  | a :: r, b :: s => a :: b :: inter r s
  | _, _ => []
def dblF : Fm → Fm
  | a :: b :: r => inter a b :: dblF r
  | _ => []
def evens : List Nat → List Nat
  | a :: _ :: r => a :: evens r
  | [a] => [a]
  | [] => []
def odds : List Nat → List Nat
  | _ :: b :: r => b :: odds r
  | _ => []
def sglF : Fm → Fm
  | [] => []
  | a :: r => evens a :: odds a :: sglF r
def wid (f : Fm) : Nat := (f.headD []).length
def mvF (f : Fm) (o : Nat) : Option Fm :=
  if o = 82 then some ((List.range (wid f)).map fun k => fileOf f (wid f - 1 - k))
  else if o = 76 then some ((List.range (wid f)).map fun k => (fileOf f k).reverse)
  else if o = 65 then some (f.reverse.map List.reverse)
  else if o = 68 then (if f.length % 2 = 0 then some (dblF f) else none)
  else if o = 83 then (if wid f % 2 = 0 then some (sglF f) else none)
  else if o = 67 then some (f.drop 1 ++ f.take 1)
  else if o = 88 then some (f.map fun r => r.drop 1 ++ r.take 1)
  else some (f.map List.reverse)
def aftF : Fm → List Nat → Option Fm
  | f, [] => some f
  | f, o :: r => (mvF f o).bind fun g => aftF g r
/-! naturality: the orders do not look at the codes -/
def mapF (h : Nat → Nat) (f : Fm) : Fm := f.map fun r => r.map h
theorem fileOf_nat (h : Nat → Nat) (n : Nat) : ∀ f : Fm, fileOf (mapF h f) n = (fileOf f n).map h
  | [] => rfl
  | r :: f => by
    have ih := fileOf_nat h n f
    unfold fileOf mapF at ih ⊢
    rw [List.map_cons, List.filterMap_cons, List.filterMap_cons, List.getElem?_map]
    cases r[n]? with
    | none => exact ih
    | some c =>
      show h c :: _ = h c :: _
      rw [ih]
theorem inter_nat (h : Nat → Nat) : ∀ a b : List Nat, inter (a.map h) (b.map h) = (inter a b).map h
  | [], _ => rfl
  | _ :: _, [] => rfl
  | a :: r, b :: s => by
    show h a :: h b :: inter (r.map h) (s.map h) = h a :: h b :: (inter r s).map h
    rw [inter_nat h r s]
theorem dblF_nat (h : Nat → Nat) : ∀ f : Fm, dblF (mapF h f) = mapF h (dblF f)
  | [] => rfl
  | [_] => rfl
  | a :: b :: r => by
    show inter (a.map h) (b.map h) :: dblF (mapF h r) = (inter a b).map h :: mapF h (dblF r)
    rw [inter_nat, dblF_nat h r]
theorem evens_nat (h : Nat → Nat) : ∀ a : List Nat, evens (a.map h) = (evens a).map h
  | [] => rfl
  | [_] => rfl
  | a :: b :: r => by
    show h a :: evens (r.map h) = h a :: (evens r).map h
    rw [evens_nat h r]
theorem odds_nat (h : Nat → Nat) : ∀ a : List Nat, odds (a.map h) = (odds a).map h
  | [] => rfl
  | [_] => rfl
  | a :: b :: r => by
    show h b :: odds (r.map h) = h b :: (odds r).map h
    rw [odds_nat h r]
theorem sglF_nat (h : Nat → Nat) : ∀ f : Fm, sglF (mapF h f) = mapF h (sglF f)
  | [] => rfl
  | a :: r => by
    show evens (a.map h) :: odds (a.map h) :: sglF (mapF h r) = (evens a).map h :: (odds a).map h :: mapF h (sglF r)
    rw [evens_nat, odds_nat, sglF_nat h r]
theorem wid_nat (h : Nat → Nat) (f : Fm) : wid (mapF h f) = wid f := by
  cases f with
  | nil => rfl
  | cons a r => show (a.map h).length = a.length; rw [List.length_map]
theorem len_nat (h : Nat → Nat) (f : Fm) : (mapF h f).length = f.length := List.length_map ..
theorem mvF_nat (h : Nat → Nat) (f : Fm) (o : Nat) : mvF (mapF h f) o = (mvF f o).map (mapF h) := by
  unfold mvF
  rw [wid_nat, len_nat, dblF_nat, sglF_nat]
  by_cases h1 : o = 82
  · rw [if_pos h1, if_pos h1]
    show some _ = some (mapF h _)
    congr 1
    unfold mapF
    rw [List.map_map]
    exact List.map_congr_left fun k _ => fileOf_nat h _ f
  rw [if_neg h1, if_neg h1]
  by_cases h2 : o = 76
  · rw [if_pos h2, if_pos h2]
    show some _ = some (mapF h _)
    congr 1
    unfold mapF
    rw [List.map_map]
    refine List.map_congr_left fun k _ => ?_
    show (fileOf (mapF h f) k).reverse = (fileOf f k).reverse.map h
    rw [fileOf_nat, List.map_reverse]
  rw [if_neg h2, if_neg h2]
  by_cases h3 : o = 65
  · rw [if_pos h3, if_pos h3]
    show some _ = some (mapF h _)
    congr 1
    unfold mapF
    rw [← List.map_reverse, List.map_map, List.map_map]
    exact List.map_congr_left fun r _ => List.map_reverse.symm
  rw [if_neg h3, if_neg h3]
  by_cases h4 : o = 68
  · rw [if_pos h4, if_pos h4]
    split <;> rfl
  rw [if_neg h4, if_neg h4]
  by_cases h5 : o = 83
  · rw [if_pos h5, if_pos h5]
    split <;> rfl
  rw [if_neg h5, if_neg h5]
  by_cases h6 : o = 67
  · rw [if_pos h6, if_pos h6]
    show some _ = some (mapF h _)
    unfold mapF
    rw [List.map_append, List.map_drop, List.map_take]
  rw [if_neg h6, if_neg h6]
  by_cases h7 : o = 88
  · rw [if_pos h7, if_pos h7]
    show some _ = some (mapF h _)
    congr 1
    unfold mapF
    rw [List.map_map, List.map_map]
    refine List.map_congr_left fun r _ => ?_
    show (r.map h).drop 1 ++ (r.map h).take 1 = (r.drop 1 ++ r.take 1).map h
    rw [List.map_append, List.map_drop, List.map_take]
  rw [if_neg h7, if_neg h7]
  show some _ = some (mapF h _)
  congr 1
  unfold mapF
  rw [List.map_map, List.map_map]
  exact List.map_congr_left fun r _ => List.map_reverse.symm
theorem aftF_nat (h : Nat → Nat) : ∀ (l : List Nat) (f : Fm), aftF (mapF h f) l = (aftF f l).map (mapF h)
  | [], f => rfl
  | o :: r, f => by
    show (mvF (mapF h f) o).bind (fun g => aftF g r) = ((mvF f o).bind fun g => aftF g r).map (mapF h)
    rw [mvF_nat]
    cases mvF f o with
    | none => rfl
    | some g => exact aftF_nat h r g
end G

set_option Elab.async false
set_option linter.all false
set_option maxRecDepth 100000
set_option maxHeartbeats 2000000
/-! walking a list while an exception is handled -/
namespace PySem
open PySem.Spec PyProof.Rows HotX
section
variable {prog : Program} {w : World} {A : Around} {E : Value → Shared → Prop} {s : Shared}
theorem gh_list_end {it l x1 : Addr} {i : Nat} {items : Array Value} {Q : Option Value → Shared → Prop} (hot : HotAt A x1 s.heap) (hit : s.heap.IsListIter it l i) (hl : s.heap.IsList l items) (hx : items[i]? = none) (hne : x1 ≠ it)
    (hQ : ∀ h', Heap.ExtBut it s.heap h' → Q none { s with heap := h' }) : wpAny (model prog w) A (pyNext (.ref it)) Q E s := by
  obtain ⟨oi, gi, ci, di⟩ := id hit
  obtain ⟨ll, gl, _, nl, dl⟩ := hl
  obtain ⟨hh, o1, vs1, g1, d1, c1⟩ := hot
  unfold pyNext
  refine wpAny_bind (wpAny_attempt (wpAny_callSpecial?_slot (name := Str.ofString "__next__") hit.typeIs slot_listiter_next (wpAny_call_entry slot_listiter_next hit.typeIs entry_listiter_next ?_ (args_listiter_next _))))
  show wpAny _ _ (field (.ref it) 0 >>= _) _ _ s
  refine wpAny_bind (wpAny_field gi di (x := .ref l) rfl ?_)
  show wpAny _ _ (if (Value.ref l == Value.none) = true then _ else _) _ _ s
  rw [if_neg (show ¬ ((Value.ref l == Value.none) = true) from Bool.false_ne_true)]
  show wpAny _ _ (field (.ref it) 1 >>= _) _ _ s
  refine wpAny_bind (wpAny_field gi di (x := .int i 0) rfl (wpAny_bind (wpAny_seqItems gl dl ?_)))
  simp only [Int.toNat_natCast, hx]
  refine wpAny_bind (wpAny_rule (wpAny_bind (wpAny_setField gi di (by simp) (wpAny_bind ?_))))
  simp only [newExc, newTuple]
  refine wpAny_bind (wpAny_newObj_type (wpAny_bind (m := firstArgMember _ _) (wpAny_of_eq (a := Value.none) (by first | rfl | (simp only [firstArgMember]; rfl)) (wpAny_newObj_type ?_ (by size_fits)))) (by size_fits))
  refine raiseNew_hot ⟨hh, o1, vs1, (((Heap.SameBut.update ..).extBut.push _).push _) x1 o1 hne g1, d1, c1⟩ (Nat.ne_of_lt (Heap.lt_size (((Heap.SameBut.update ..).extBut.push _) x1 o1 hne g1))) (Heap.get?_push_size _ rfl) rfl (by first | (simp; done) | (simp; omega) | (simp only [Array.size_append]; simp; omega)) ?_
  exact wpAny_bind (wpAny_isInstance (T := "StopIteration") (b := true) ⟨_, Heap.get?_update_self _ (Heap.get?_push_size _ rfl) rfl, rfl⟩ isSubtype_stop (wpAny_pure (hQ _ fun b o hb e =>
    (Heap.get?_update_other _ _ (Nat.ne_of_gt (Heap.lt_size (((Heap.SameBut.update ..).extBut.push _) b o hb e)))).trans (Heap.get?_push_of_some _ (((Heap.SameBut.update ..).extBut.push _) b o hb e)))))
end
/-- a list walked, the handled exception kept in sight -/
theorem gh_walks {prog : Program} {w : World} {A : Around} {x1 : Addr} {o1 : Obj} {vs1 : Array Value} (hh : A.handled = some (.ref x1)) (d1 : o1.data = .fields vs1) (c1 : vs1[2]? = some .none) (I ax : Addr) (hne : ax ≠ I) (hx : x1 ≠ I) (items : Array Value) :
    Walks prog w A I [I, ax, x1] [I] items.size (fun i v => items[i]? = some v) (fun i h => (h.IsListIter I ax i ∧ h.IsList ax items) ∧ h.get? x1 = some o1) where
  sub := fun b hb => List.mem_cons.mpr (.inl (List.mem_singleton.mp hb))
  frame := fun _ _ _ st hk => ⟨⟨st.1.1.at fun o e => hk I (by simp) o e, st.1.2.at fun o e => hk ax (by simp) o e⟩, hk x1 (by simp) _ st.2⟩
  item := fun i s Q E hi st hQ => by
    refine wpAny_pyNext_list_item st.1.1 st.1.2 (x := items[i]) (by simp [hi]) fun h' hit' hs' => hQ _ h' s.toks (by simp [hi]) ⟨⟨hit', st.1.2.extBut hs'.extBut hne⟩, hs'.extBut x1 _ hx st.2⟩ fun b o hb e => ?_
    exact hs'.extBut b o (fun h => hb (by simp [h])) e
  done := fun s Q E st hQ => gh_list_end ⟨hh, o1, vs1, st.2, d1, c1⟩ st.1.1 st.1.2 (by simp) hx fun h' he' => hQ h' s.toks fun b o hb e => he' b o (fun h => hb (by simp [h])) e
  self := fun _ _ _ _ st hQ => wpAny_pyIter_listiter st.1.1 hQ
end PySem
namespace G
open PySem PySem.Spec PyProof.Rows L2 TL L2H HotX
theorem objok_get {P : Program} {w : World} {H : Hp} {h : Heap} {a : Addr} {o : HO} (x : ObjOk P w H h a o) : ∃ u, h.get? a = some u := by
  cases o with
  | lst xs => obtain ⟨_, _, _, _, e⟩ := x; exact ⟨_, e⟩
  | tup xs => obtain ⟨_, _, _, u, e, _⟩ := x; exact ⟨_, e⟩
  | dK kvs => obtain ⟨_, _, _, _, o, _, _, e, _⟩ := x; exact ⟨_, e⟩
  | dT kvs => obtain ⟨_, _, _, _, o, _, _, e, _⟩ := x; exact ⟨_, e⟩
  | set S n => obtain ⟨o, _, _, _, e, _⟩ := x; exact ⟨_, e⟩
  | ins C dx fs => obtain ⟨_, _, _, e, _⟩ := x; exact ⟨_, e⟩
  | own y => exact x
  | xd fs => obtain ⟨_, ⟨_, _, _, e, _⟩, _⟩ := x; exact ⟨_, e⟩
  | rng lo hi => obtain ⟨_, _, _, e⟩ := x; exact ⟨_, e⟩
  | frz ob u => obtain ⟨e, _⟩ := x; exact ⟨_, e⟩
  | tbl ps => exact ⟨_, show h.get? a = some _ from x⟩
  | met f y => exact ⟨_, show h.get? a = some _ from x⟩
  | ext φ => obtain ⟨_, ⟨u, e⟩, _⟩ := x; exact ⟨u, e⟩
theorem untracked {P : Program} {w : World} {H : Hp} {h : Heap} {a : Addr} (x : HOk P w H h) (e : h.get? a = none) : H a = none := by
  cases q : H a with
  | none => rfl
  | some o =>
    obtain ⟨u, hu⟩ := objok_get (x a o q)
    rw [e] at hu
    cases hu
section
variable {X : Cx}
/-- the handled exception as it stands -/
theorem hot_obj {pins : List (Addr × Obj)} {σ : L2.St} {H : Hp} {s : Shared} (hc : HotC X) (I : Inv X pins σ H s) : ∃ x1 o1 vs1, X.A.handled = some (.ref x1) ∧ s.heap.get? x1 = some o1 ∧ o1.data = .fields vs1 ∧ vs1[2]? = some .none := by
  obtain ⟨p, ⟨hh, v1, e1, c1⟩, hp⟩ := hc
  exact ⟨p.1, p.2, v1, hh, (I.pin p (List.mem_append_left _ hp)).1, e1, c1⟩
def sumL (ns : List Int) : Nat → Int := preSum fun i => ns.getD i 0
def rSumH (K : PySem.W.Frag) : List V → Hp → VK → Prop := fun xs H Q => ∃ (a : Addr) (ns : List Int), xs = [.ref a] ∧ SqL K H a (ns.map V.int) ∧ (∀ j, j < ns.length → InLong (ns.getD j 0) ∧ InLong (sumL ns (j + 1))) ∧ Q (.int (sumL ns ns.length)) H
theorem gh_sum (hc : HotC X) : CallR X (.builtin "sum") (rSumH X.K) := by
  intro pins s σ H xs us Q I r h
  obtain ⟨a, ns, rfl, hs, hb, q⟩ := h
  obtain ⟨its, rv, hl, _⟩ := I.list hs
  obtain ⟨x1, o1, vs1, hh, g1, d1, c1⟩ := hot_obj hc I
  rw [Vals.ref1 r]
  have hlen : its.toArray.size = ns.length := by
    have e := rv.length
    rw [List.length_map] at e
    rw [List.size_toArray, e]
  obtain ⟨ol, el, _⟩ := hl.isList
  have na : a ≠ s.heap.objs.size := Nat.ne_of_lt (Heap.lt_size el)
  have n1 : x1 ≠ s.heap.objs.size := Nat.ne_of_lt (Heap.lt_size g1)
  refine call_sum_walk (wpAny_pyIter_list hl.isList ?_)
  refine ⟨s.heap.objs.size, _, _, _, _, _, fun i => ns.getD i 0, rfl, gh_walks (A := X.A.in1) (o1 := o1) (vs1 := vs1) hh d1 c1 s.heap.objs.size a na n1 its.toArray, ⟨⟨⟨_, Heap.get?_push_size _ rfl, rfl, rfl⟩, hl.isList.at fun o e => Heap.get?_push_of_some _ e⟩, Heap.get?_push_of_some _ g1⟩, fun b hb => ?_, fun i v hv => ?_, fun j hj => ?_, fun h' tk t' hk => ?_⟩
  · rw [Heap.size_push]
    rcases List.mem_cons.mp hb with rfl | hb
    · exact Nat.lt_succ_self _
    · rcases List.mem_cons.mp hb with rfl | hb
      · exact Nat.lt_succ_of_lt (Heap.lt_size el)
      · rcases List.mem_cons.mp hb with rfl | hb
        · exact Nat.lt_succ_of_lt (Heap.lt_size g1)
        · cases hb
  · have hv' : its[i]? = some v := by simpa using hv
    have hi : i < its.length := (List.getElem?_eq_some_iff.mp hv').1
    have hin : i < ns.length := by rw [List.size_toArray] at hlen; omega
    obtain ⟨u, hu, t, ht⟩ := rv.get (i := i) (x := .int ns[i]) (by rw [List.getElem?_map, List.getElem?_eq_getElem hin]; rfl)
    rw [hv'] at hu
    have hu := Option.some.inj hu
    subst hu
    refine ⟨t, ?_⟩
    rw [ht]
    show _ = Value.int (ns.getD i 0) t
    rw [List.getD_eq_getElem?_getD, List.getElem?_eq_getElem hin]
    rfl
  · rw [hlen] at hj
    exact hb j hj
  · rw [hlen]
    refine ⟨.int (sumL ns ns.length), H, I.kept (t' := tk) fun b o e => ?_, ⟨t', rfl⟩, q⟩
    exact hk b o (fun z => Nat.lt_irrefl _ (by have z := List.mem_singleton.mp z; have e2 := Heap.lt_size e; rw [z] at e2; exact e2)) (Heap.get?_push_of_some _ e)
/-- a list of ones and noughts out of truths: [int(y) for y in x] -/
def b01 (b : Bool) : V := .int (if b then 1 else 0)
def tInts (K : PySem.W.Frag) (i : Nat) : TE := fun σ H Q => ∃ (a : Addr) (bs : List Bool), σ[i]? = some (some (.ref a)) ∧ SqL K H a (bs.map V.bl) ∧ bs.length ≤ 1000 ∧ ∀ D, H D = none → Q (.ref D) (upd H D (.lst (bs.map b01)))
theorem vals_b01 : ∀ {bs : List Bool} {vs ys : List Value}, Vals (bs.map V.bl) vs → Paired (fun v y => ∃ (b : Bool) (t : Tok), v = Value.bool b ∧ y = Value.int (if b then 1 else 0) t) vs ys → Vals (bs.map b01) ys
  | [], _, _, r, p => by
    cases r
    cases p
    exact .nil
  | b :: bs, _, _, r, p => by
    cases r with
    | cons r1 r2 =>
      cases p with
      | cons p1 p2 =>
        obtain ⟨b', t, e1, e2⟩ := p1
        cases r1
        cases e1
        exact .cons ⟨t, e2⟩ (vals_b01 r2 p2)
theorem gh_ints {i : Nat} {x y : Str} {px py p1 p2 p3 pos : Pos} {scope : Scope} (hc : HotC X) (hN : X.N[i]? = some x) (hv : Vis X.env.scope x) (hm : X.mg "int" = none) (hfree : ∀ z ∈ scope.names, z.2 ≠ .free) (hcell : ∀ z ∈ scope.names, z.2 ≠ .cell) (hkind : scope.kind = .function)
    (hnames : ∀ z ∈ scope.names, z.2 = .local → scope.names.lookup z.1 = some .local) (hy : scope.names.lookup y = some .local) (hint : scope.names.lookup ("int" : Str) = some .globalImplicit) (hdy : (y == ("__debug__" : Str)) = false) (hd : (x == ("__debug__" : Str)) = false := by decide) (hcd : (x == ("__classdict__" : Str)) = false := by decide)
    (hs : ∀ z, foldedSetIterable (.Name x px) X.env z = pure z := by intro _; rfl) :
    PE X (.ListComp (.Call (.Name "int" p1) [.Name y p2] [] p3) [⟨.Name y py, .Name x px, [], 0⟩] scope pos) (tInts X.K i) := by
  refine ⟨fun pins s σ H Q I ⟨a, bs, hσ, hl, hb, q⟩ => ?_⟩
  refine wpAny_ListComp_walk (fun _ => true) (fun v y => ∃ (b : Bool) (t : Tok), v = Value.bool b ∧ y = Value.int (if b then 1 else 0) t) hfree hcell hkind hnames hy ?_ hs
  refine thn ((pe_var (pos := px) (i := i) hN hv hd hcd).run pins s σ H (fun v H1 => v = .ref a ∧ H1 = H) I ⟨.ref a, hσ, rfl, rfl⟩) fun u s1 ⟨v, H1, I1, r1, q1, q2⟩ => ?_
  subst q1 q2
  obtain rfl : u = Value.ref a := r1
  obtain ⟨its, rv, hpl, _⟩ := I1.list hl
  obtain ⟨x1, o1, vs1, hh, g1, d1, c1⟩ := hot_obj hc I1
  have hlen : its.toArray.size = bs.length := by
    have e := rv.length
    rw [List.length_map] at e
    rw [List.size_toArray, e]
  obtain ⟨ol, el, _⟩ := hpl.isList
  have na : a ≠ s1.heap.objs.size := Nat.ne_of_lt (Heap.lt_size el)
  have n1 : x1 ≠ s1.heap.objs.size := Nat.ne_of_lt (Heap.lt_size g1)
  refine wpAny_pyIter_list hpl.isList ?_
  have low : ∀ b o, s1.heap.get? b = some o → b ∉ [s1.heap.objs.size] := fun b o e z => by
    have z := List.mem_singleton.mp z
    have e2 := Heap.lt_size e
    rw [z] at e2
    exact Nat.lt_irrefl _ e2
  refine ⟨s1.heap.objs.size, _, _, _, _, _, rfl, gh_walks (A := X.A) (o1 := o1) (vs1 := vs1) hh d1 c1 s1.heap.objs.size a na n1 its.toArray, ?_, ⟨⟨⟨_, Heap.get?_push_size _ rfl, rfl, rfl⟩, hpl.isList.at fun o e => Heap.get?_push_of_some _ e⟩, Heap.get?_push_of_some _ g1⟩, fun b hb => ?_, ⟨?_, ?_⟩, ?_⟩
  · rw [hlen]
    exact Nat.le_trans hb (by decide)
  · rw [Heap.size_push]
    rcases List.mem_cons.mp hb with rfl | hb
    · exact Nat.lt_succ_self _
    · rcases List.mem_cons.mp hb with rfl | hb
      · exact Nat.lt_succ_of_lt (Heap.lt_size el)
      · rcases List.mem_cons.mp hb with rfl | hb
        · exact Nat.lt_succ_of_lt (Heap.lt_size g1)
        · cases hb
  · intro C i v s₃ m₃ E' hP hns hmv hk htk
    exact wpAny_pure ⟨rfl, s₃.heap, s₃.toks, rfl, fun _ _ e => e⟩
  · intro C j v s₃ m₃ E' hP _ hns hmv hk htk
    have hj : j < bs.length := by
      have z := (Array.getElem?_eq_some_iff.mp hP).1
      omega
    obtain ⟨u, hu, ru⟩ := rv.get (i := j) (x := .bl bs[j]) (by rw [List.getElem?_map, List.getElem?_eq_getElem hj]; rfl)
    have hv2 : its[j]? = some v := by simpa using hP
    rw [hv2] at hu
    have hu := Option.some.inj hu
    subst hu
    have ru : v = Value.bool bs[j] := ru
    subst ru
    obtain ⟨mb, hb1, hb2⟩ := I1.mod.blt
    have up : ∀ b o, X.base.get? b = some o → s₃.heap.get? b = some o := fun b o e => hk b o (low b o (I1.bk b o e)) (Heap.get?_push_of_some _ (I1.bk b o e))
    refine Call_ (Calls.Name_function_global (env := compEnv scope C X.env) hkind hint (Calls.loadGlobal_builtin (by show s₃.heap.Ns X.env.globals X.mg; rw [I1.ok.glob]; exact I1.mod.glob.keeps up) hm (by show s₃.heap.Ns X.env.builtins mb; rw [I1.ok.blt]; exact hb1.keeps up) ((hb2 "int" (by decide)).trans (show bootBuiltins "int" = some (.type "int") by decide +kernel)) ?_))
    refine PyProof.Rows.callWith_type1 ?_
    refine Calls.spliced_cons (wpAny_Name (wpAny_loadName_local (env := compEnv scope C X.env) hkind hy hns hmv (Calls.spliced_nil ?_)) hdy)
    exact call_int_bool ⟨⟨_, _, rfl, rfl⟩, _, _, rfl, fun _ _ e => e⟩
  · intro D h' tk ys vs hD hl' hpl' hn hPv hF hk
    have hvs : Vals (bs.map V.bl) vs := by
      have e : vs = its := by
        refine List.ext_getElem? fun j => ?_
        by_cases hj : j < vs.length
        · have z := hPv j vs[j] (List.getElem?_eq_getElem hj)
          rw [List.getElem?_eq_getElem hj]
          have z2 : its[j]? = some vs[j] := by simpa using z
          exact z2.symm
        · rw [List.getElem?_eq_none (by omega), List.getElem?_eq_none]
          rw [List.size_toArray] at hn
          omega
      rw [e]
      exact rv
    rw [List.filter_eq_self.mpr fun _ _ => rfl] at hF
    have hD1 : s1.heap.get? D = none := by
      cases e : s1.heap.get? D with
      | none => rfl
      | some o =>
        rw [Heap.get?_push_of_some _ e] at hD
        cases hD
    have hHD := untracked I1.hok hD1
    have hz := vals_b01 hvs hF
    obtain ⟨c, eD⟩ := hpl'
    refine ⟨.ref D, _, I1.laidN (t' := tk) (o := .lst (bs.map b01)) (fun b o e => hk b o (low b o e) (Heap.get?_push_of_some _ e)) hD1 hHD ⟨by rw [List.length_map]; exact Nat.le_trans hb (by decide), ys.toList, c, hz, by simpa using eD⟩, rfl, q D hHD⟩
end
end G

set_option Elab.async false
set_option linter.all false
set_option maxRecDepth 100000
set_option maxHeartbeats 2000000
namespace G
open PySem PySem.Spec PyProof.Rows L2 TL L2H HotX LamX
/-! ### a lambda's body, its exceptions with their contexts -/
abbrev lamN (X : Cx) (A : Around) (outer : List Env) (s : Shared) (H : Hp) (E : XK) (scope : Scope) (f c' : Addr) : Cx :=
  (lamCx X A outer s H E scope f c').wish fun e s' => wpAny (model X.prog X.w) (A.deeper (lamEnv X scope s.heap.objs.size f c')) (leaving (lamEnv X scope s.heap.objs.size f c') e) (fun _ s'' => L2N.CX X.prog X.w outer H s E e s'') (fun e' s'' => L2N.CX X.prog X.w outer H s E e' s'') s'
theorem takesN0 {X : Cx} : L2N.Takes X (fun _ _ _ _ => False) := fun _ _ ⟨_, _, _, _, _, _, _, _, _, _, _, _, _, _, _, _, z⟩ => z.elim
theorem tk_lam {X : Cx} {A : Around} {outer : List Env} {s : Shared} {H : Hp} {E : XK} {scope : Scope} {f c' : Addr} : L2N.Takes (lamN X A outer s H E scope f c') (fun cls d _ H => E cls d H) := L2N.takes_of rfl rfl rfl rfl
theorem pa_lam {X : Cx} {A : Around} {outer : List Env} {s : Shared} {H : Hp} {E : XK} {scope : Scope} {f c' : Addr} : Passes (L2N.CX (lamN X A outer s H E scope f c').prog (lamN X A outer s H E scope f c').w) (lamN X A outer s H E scope f c') E := L2N.passes_call tk_lam fun _ _ _ _ h => h
/-- the call of what was handed over -/
theorem gh_act {X : Cx} {pins : List (Addr × Obj)} {σ : L2.St} {H : Hp} {s : Shared} {Ng : List Str} {qg : Str} {sg : Scope} {g f c' : Addr} {cdg pm ctv : Value} {params : Arguments} {body : Expr} {scope : Scope} {k : Nat} {a : Str} {pn : List (Addr × Obj)} {xe : Value → Shared → Prop} {W : WX} {E : XK} {tb : TE} {p1 p2 : Pos}
    (I : Inv X pins σ H s) (L : LamS X.env.scope scope) (hf : s.heap.get? f = some (PySem.W.kla_obj "<lambda>" (X.env.qual ++ "<lambda>") params body scope (cloFrom X.env.cells scope.names []) pm c' ctv)) (hfn : H f = none) (hfr : f ∉ frs X.stack)
    (hbind : bindArgs (PySem.W.kla_fn "<lambda>" (X.env.qual ++ "<lambda>") params body scope (cloFrom X.env.cells scope.names []) pm (.ref c') ctv) ⟨[], []⟩ = pure [])
    (tk : L2N.Takes ((cxOf C8.CX0 X.prog X.w X.K X.mg X.base Ng qg sg g cdg X.A X.stack s H C8.E0).tr pn xe) W) (hW : ∀ cls d σ' H', E cls d H' → W cls d σ' H') (hr : Room (k + 1) (X.A.deeper (envOfC qg sg s.heap.objs.size g cdg)))
    (hbody : ∀ (A : Around) (outer : List Env) (s : Shared) (H : Hp), Room k (A.deeper (lamEnv X scope s.heap.objs.size f c')) → PE (lamN X A outer s H E scope f c') body tb)
    (hN : Ng[0]? = some a) (hv : Vis sg a) (hd : (a == ("__debug__" : Str)) = false) (hcd : (a == ("__classdict__" : Str)) = false) :
    PE ((cxOf C8.CX0 X.prog X.w X.K X.mg X.base Ng qg sg g cdg X.A X.stack s H C8.E0).tr pn xe) (.Call (.Name a p1) [] [] p2) (fun σZ HZ Q => σZ[0]? = some (some (.ref f)) ∧ HZ c' = some (CodeO c' (X.env.qual ++ "<lambda>")) ∧ tb σ HZ Q) := by
  refine ⟨fun pz sz σz HZ Q J ⟨h1, h2, h3⟩ => ?_⟩
  refine wpAny_Call_Name_kw (thn ((pe_var (pos := p1) (i := 0) hN hv hd hcd).run pz sz σz HZ (fun v H1 => v = .ref f ∧ H1 = HZ) J ⟨.ref f, h1, rfl, rfl⟩) fun u s1 ⟨v, H1, I1, r1, q1, q2⟩ => ?_)
  subst q1
  rw [q2] at I1
  obtain rfl : u = Value.ref f := r1
  have f1 := I1.base.keep f _ hf hfn hfr (fun z => nomatch (show f ∈ ([] : List Addr) from z))
  refine PySem.W.callWith_F0 ⟨_, _, _, _, f1⟩ ?_
  obtain ⟨⟨oc, vs, t, g1, g2, g3⟩, _, _⟩ := I1.hok c' _ h2
  have run : codeAny (model X.prog X.w) (X.A.deeper (envOfC qg sg s.heap.objs.size g cdg)) (.call (.ref f) ⟨[], []⟩) (CR (L2N.CX X.prog X.w) (envOfC qg sg s.heap.objs.size g cdg :: X.stack) X.prog X.w HZ s1 Q E) s1 := by
    refine PySem.W.kla_callFunE hr.depth f1 rfl L.co L.gen rfl ⟨c', oc, vs, t, rfl, g1, g2, g3⟩ ?_
    rw [hbind]
    refine wpAny_pure (wpAny_newFunctionEnv (fun y hy => (L.own y hy).2) (fun y hy => absurd hy (by simp)) (fun h₁ hns hsb => ⟨I1.nolimit.fresh _ hsb, ?_⟩) L.kind)
    show codeAny _ _ (.expr body (lamEnv X scope s1.heap.objs.size f c')) _ _
    have J1 := lam_start2 (A := X.A.deeper (envOfC qg sg s.heap.objs.size g cdg)) (outer := envOfC qg sg s.heap.objs.size g cdg :: X.stack) (E := E) (f := f) (c' := c') (tk := s1.toks + ([] : List (Str × Value)).length) I L I1.env0 hr.hd I1.base hns fun b o e => hsb.extBut b o (Nat.ne_of_lt (Heap.lt_size e)) (Heap.get?_push_of_some _ e)
    refine PySem.W.kla_codeExpr (wpAny_mono ((hbody _ _ s1 HZ (hr.deeper _)).run [] _ _ HZ Q (J1.wish _) h3) (fun v s' hq => ?_) fun e s' hq => hq)
    obtain ⟨w', H', J', rv, q⟩ := hq
    exact ⟨w', H', J'.os, J'.bare, J'.base, J'.hok, rv, q⟩
  refine wpAny_call (codeAny_mono run fun r s' hq => ?_)
  cases r with
  | error e => exact L2N.passes_call tk hW pz σz HZ s1 e s' I1 hq
  | ok fl =>
    cases fl with
    | ret u => exact I1.after hq
    | next => exact False.elim hq
    | brk => exact False.elim hq
    | cont => exact False.elim hq
/-! ### what tells of an exception -/
def errC : List Nat := [101, 114, 114, 111, 114]
def errD (nm : List Nat) : Dat := .tup [.str errC, .str nm]
def Tell (K : PySem.W.Frag) (nm : List Nat) (H : Hp) (Q : VK) : Prop := ∃ B, Cov B H ∧ ∀ v H', Same H H' → Rp K (mask B H') v (errD nm) → Q v H'
def TermOk (P : Program) (w : World) (K : PySem.W.Frag) (mg : Str → Option Value) (base : Heap) (ft : Addr) (k : Nat) (Known : Addr → List Nat → Prop) : Prop :=
  ∀ (A : Around) (outer : List Env) (s : Shared) (H : Hp) (Q : VK) (p : Addr × Obj) (C : Addr) (nm : List Nat), Known C nm → Zc (.ref C) none p.2 → (∃ vs, p.2.data = .fields vs) → RoomH k A → Hot1 A p → PinOk outer H s p → Env0 P w K mg base A outer s H → Tell K nm H Q →
    codeAny (model P w) A (.call (.ref ft) ⟨[.ref p.1], []⟩) (CR (L2N.CX P w) outer P w H s Q E0) s
def Ech (K : PySem.W.Frag) (CS : Addr) (Known : Addr → List Nat → Prop) (Q : VK) : XK := fun cls d H => ∃ C nm, cls = .ref C ∧ d = none ∧ Known C nm ∧ PySem.W.exmOne K (.ref C) (.ref CS) = some true ∧ Tell K nm H Q
def stSet (σ : L2.St) (i : Nat) (a : Addr) : L2.St := List.set σ i (some (V.ref a))
/-- _law_term(e) in the suite -/
theorem gh_termcall {Z : Cx} {a : Addr} {oe : Obj} {cls : Value} {d : Option Addr} {pn : List (Addr × Obj)} {ft : Addr} {kt : Nat} {Known : Addr → List Nat → Prop} {tm n : Str} {i : Nat} {p q pos : Pos} (hz : L2N.Zn cls d oe) (hfl : ∃ vs, oe.data = .fields vs) (hT : TermOk Z.prog Z.w Z.K Z.mg Z.base ft kt Known) (hr : RoomH kt (Z.suite a ((a, oe) :: pn)).A)
    (hg : Gl Z tm) (hm : Z.mg tm = some (.ref ft)) (hk : PySem.W.keepIn Z.K (.ref ft) = true) (hN : Z.N[i]? = some n) (hv : Vis Z.env.scope n) (hdb : (tm == ("__debug__" : Str)) = false) (hdn : (n == ("__debug__" : Str)) = false) (hcn : (n == ("__classdict__" : Str)) = false) :
    PE (Z.suite a ((a, oe) :: pn)) (.Call (.Name tm p) [.Name n q] [] pos) (fun σ H Q => (∃ σ0, σ = stSet σ0 i a) ∧ ∃ C nm, cls = .ref C ∧ d = none ∧ Known C nm ∧ Tell Z.K nm H Q) := by
  refine ⟨fun pins s σ H Q I ⟨⟨σ0, h0⟩, C, nm, e1, e2, hK, hQ⟩ => ?_⟩
  subst e1 e2
  have hσ : σ[i]? = some (some (V.ref a)) := by
    have hl := I.len
    have hi : i < Z.N.length := (List.getElem?_eq_some_iff.mp hN).1
    have hl : σ.length = Z.N.length := hl
    rw [h0] at hl ⊢
    unfold stSet at hl ⊢
    rw [List.length_set] at hl
    rw [List.getElem?_set_self (by omega)]
  refine wpAny_Call_Name_kw (ld_glob (X := Z.suite a ((a, oe) :: pn)) I hg hm ?_ hdb)
  have hn : PE (Z.suite a ((a, oe) :: pn)) (.Name n q) (tVar i) := pe_var hN hv hdn hcn
  refine PySem.W.callWith_K (h₀ := Z.base) I.ok.mod.kin hk (thn ((pa_cons hn pa_nil).run pos pins s σ H (fun vs H1 => vs = [V.ref a] ∧ H1 = H) I ⟨.ref a, hσ, rfl, rfl⟩) fun us s1 ⟨vs, H1, I1, r, q1, q2⟩ => ⟨I1.kIn, ?_⟩) rfl rfl
  subst q1
  rw [q2] at I1
  rw [Vals.ref1 r]
  have P1 := I1.pin (a, oe) (List.mem_append_left _ List.mem_cons_self)
  obtain ⟨vs, hvs⟩ := hfl
  refine wpAny_call (codeAny_mono (hT (Z.suite a ((a, oe) :: pn)).A Z.stack s1 H Q (a, oe) C nm hK hz.zc ⟨vs, hvs⟩ hr ⟨rfl, vs, hvs, hz.2.2 vs hvs⟩ ⟨P1.1, P1.2.1, fun hm => (List.mem_cons.mp (I1.stkSub a hm)).elim P1.2.2.1 P1.2.2.2.1, P1.2.2.2.2⟩ I1.env0 hQ) fun r s' hq => ?_)
  cases r with
  | error e =>
    obtain ⟨_, _, _, _, _, _, _, _, _, _, _, _, z⟩ := hq
    exact z.elim
  | ok fl =>
    cases fl with
    | ret u => exact I1.after hq
    | next => exact False.elim hq
    | brk => exact False.elim hq
    | cont => exact False.elim hq
end G

set_option Elab.async false
set_option linter.all false
set_option maxRecDepth 100000
set_option maxHeartbeats 2000000
namespace G
open PySem PySem.Spec PyProof.Rows L2 TL L2H HotX LamX
/-- the def that asks and tells: try: return deed() / except DrillError as e: return _law_term(e) -/
structure ToldF (K : PySem.W.Frag) (mg : Str → Option Value) (g CS ft : Addr) : Prop where
  ex : ∃ (pg : Arguments) (bg : List Stmt) (sg : Scope) (dV kV doc pm cdv ct oc : Value) (an od : Option Addr) (osl : Array (Option Value)) (p1 p2 p3 p4 q1 q2 q3 p6 p7 p8 : Pos),
    K.lookup g = some ⟨oc, od, .func (PySem.W.fnOf "_law_told" "_law_told" pg bg sg dV kV doc pm an cdv ct), osl⟩ ∧ PySem.W.codeIn K cdv "_law_told" = true ∧ Binds K (PySem.W.fnOf "_law_told" "_law_told" pg bg sg dV kV doc pm an cdv ct) ["deed"] [] ∧ FnScope ["deed", "e"] ["deed"] sg ∧
    bg = [.Try [.Return (some (.Call (.Name "deed" p1) [] [] p2)) p3] [.ExceptHandler (some (.Name "DrillError" p4)) (some "e") [.Return (some (.Call (.Name "_law_term" q1) [.Name "e" q2] [] q3)) p6] p7] [] [] p8] ∧
    sg.names.lookup ("DrillError" : Str) = some .globalImplicit ∧ sg.names.lookup ("_law_term" : Str) = some .globalImplicit ∧ sg.names.lookup ("e" : Str) = some .local ∧ sg.names.lookup ("deed" : Str) = some .local
  gT : mg "_law_told" = some (.ref g)
  kT : PySem.W.keepIn K (.ref g) = true
  gD : mg "DrillError" = some (.ref CS)
  gM : mg "_law_term" = some (.ref ft)
  kM : PySem.W.keepIn K (.ref ft) = true
theorem gh_told {X : Cx} {T : List (Addr × Str)} {g CS ft c P : Addr} {k kt : Nat} {Known : Addr → List Nat → Prop} {params : Arguments} {body : Expr} {scope : Scope} {t : XK → TE} {p lpos pos : Pos} (F : ToldF X.K X.mg g CS ft) (hTm : TermOk X.prog X.w X.K X.mg X.base ft kt Known) (hg : Gl X "_law_told")
    (TB : TabB X.base X.mg c P) (hcode : X.env.code = .ref c) (hmT : (P, X.env.qual ++ "<lambda>") ∈ T) (hu : ∀ p ∈ T, p.1 = P → p.2 = X.env.qual ++ "<lambda>") (hr : Room (k + 2) X.A) (hkt : kt ≤ k + 1) (L : LamS X.env.scope scope) (hdef : defaultsOf params X.env = ([], []))
    (hbind : ∀ (q : Str) (cl : List (Str × Addr)) (pm cv ctv : Value), bindArgs (PySem.W.kla_fn "<lambda>" q params body scope cl pm cv ctv) ⟨[], []⟩ = pure [])
    (hbody : ∀ (A : Around) (outer : List Env) (s : Shared) (H : Hp) (E : XK) (f c' : Addr), Room k (A.deeper (lamEnv X scope s.heap.objs.size f c')) → PE (lamN X A outer s H E scope f c') body (t E)) :
    PE X (.Call (.Name "_law_told" p) [.Lambda params body scope lpos] [] pos) (fun σ H Q => Tabs T H ∧ ∀ H1, ExtN H H1 → Tabs T H1 → t (Ech X.K CS Known Q) σ H1 Q) := by
  obtain ⟨pg, bg, sg, dV, kV, doc, pm, cdv, ct, oc, an, od, osl, p1, p2, p3, p4, q1, q2, q3, p6, p7, p8, lk, hcg, hb, Sg, rfl, hsD, hsT, hse, hsd⟩ := F.ex
  refine ⟨fun pins s σ H Q I ⟨hT, h⟩ => ?_⟩
  refine wpAny_Call_Name_kw (ld_glob I hg F.gT ?_ (by decide))
  refine PySem.W.callWith_K (h₀ := X.base) I.ok.mod.kin F.kT ?_ (by rfl) (by rfl)
  show wpAny _ _ (spliced ((false, eval (.Lambda params body scope lpos) X.env) :: backTo pos (starEach [] X.env))) _ _ s
  refine Calls.spliced_cons (lam_make2 I TB hcode hmT hu hT hdef (L.has I.ok) fun f c' pm' ctv H1 s' I1 eN T1 hf hfn hfr hco => Calls.spliced_nil ⟨I1.kIn, ?_⟩)
  have run : codeAny (model X.prog X.w) X.A (.call (.ref g) ⟨[.ref f], []⟩) (CR C8.CX0 X.stack X.prog X.w H1 s' Q C8.E0) s' := by
    refine run_ofS (N := ["deed", "e"]) (ps := ["deed"]) (us := [.ref f]) (vs := [.ref f]) lk hcg Sg hr I1.env0 (hb s' [.ref f] I1.kIn rfl) (.cons rfl .nil) rfl fun hr' => ?_
    refine ⟨_, PSs.nox (pss_one (L2N.ps_try_as (X := (cxOf C8.CX0 X.prog X.w X.K X.mg X.base ["deed", "e"] "_law_told" sg g cdv X.A X.stack s' H1 C8.E0).nox) (c := .ref CS) (i := 1)
      (tb := fun W D σ' H' => ∃ E : XK, (∀ cls d σ2 H2, E cls d H2 → W cls d σ2 H2) ∧ σ'[0]? = some (some (.ref f)) ∧ H' c' = some (CodeO c' (X.env.qual ++ "<lambda>")) ∧ t E σ H' D.rt)
      (ts := fun a cls d D σ' H' => (∃ σ0, σ' = stSet σ0 1 a) ∧ ∃ C nm, cls = .ref C ∧ d = none ∧ Known C nm ∧ Tell X.K nm H' D.rt)
      rfl rfl Sg.nd rfl hse ⟨hsD, by decide, .inl F.gD⟩ takesN0 (fun W pn xe tk _ => ?_) (fun a oe cls d pn hz hfl => ?_))), ?_⟩
    · refine ⟨fun pins2 s2 σ2 H2 D I2 ⟨E, hW, h1, h2, h3⟩ => ?_⟩
      have hp := gh_act (p1 := p1) (p2 := p2) (pn := pn) (xe := xe) (W := W) (E := E) (tb := t E) I1 L hf hfn hfr (hbind _ _ _ _ _) tk hW hr' (fun A outer s H r2 => hbody A outer s H E f c' r2) rfl (.inl hsd) (by decide) (by decide)
      exact (pss_one (ps_ret (pos := p3) hp)).run pins2 s2 σ2 H2 D I2 ⟨h1, h2, h3⟩
    · refine pss_one (ps_ret (gh_termcall (Z := (cxOf C8.CX0 X.prog X.w X.K X.mg X.base ["deed", "e"] "_law_told" sg g cdv X.A X.stack s' H1 C8.E0).nox) (i := 1) hz hfl hTm ?_ hsT F.gM F.kM rfl (.inl hse) (by decide) (by decide) (by decide)))
      have r1 := roomH_of hr'
      exact ⟨(r1.mono hkt).dp, (r1.mono hkt).un⟩
    · refine ⟨Ech X.K CS Known Q, fun cls d σ2 H2 ⟨C, nm, e1, e2, hK, hx, hQ⟩ => ⟨true, by rw [e1]; exact hx, fun _ a ha => ⟨⟨σ2, rfl⟩, C, nm, e1, e2, hK, hQ⟩, fun z => (by cases z)⟩, rfl, hco, h H1 eN T1⟩
  refine wpAny_call (codeAny_mono run fun r s2 hq => ?_)
  cases r with
  | error e => exact (show False from hq).elim
  | ok fl =>
    cases fl with
    | ret u => exact I1.after hq
    | next => exact False.elim hq
    | brk => exact False.elim hq
    | cont => exact False.elim hq
end G

set_option Elab.async false
set_option linter.all false
set_option maxRecDepth 100000
set_option maxHeartbeats 2000000
namespace G
open PySem PySem.Spec PyProof.Rows L2 TL L2H HotX LamX
/-! ### a def called where an exception is handled, its body over the data -/
theorem gh_isE {X : Cx} {a D : Addr} {oe : Obj} (C : ExcC X.K D) (hz : Zc (.ref D) none oe) (hf : ∃ vs, oe.data = .fields vs) (hp : (a, oe) ∈ X.pn) : CallR X (.builtin "isinstance") (rIsE X.K D a) := by
  intro pins s σ H xs us Q I r ⟨c, cv, b, ex, hcv, e, q⟩
  subst ex
  obtain ⟨u, t, rfl, ru, rt⟩ := vals2 r
  have ru : u = Value.ref a := ru
  subst ru
  have rt := hcv t rt
  subst rt
  obtain ⟨vs, hv⟩ := hf
  have here := (I.pin (a, oe) (List.mem_append.mpr (.inl hp))).1
  have J : PySem.W.InstAt s.heap a oe D none := by
    obtain ⟨o1, o2, o3, o4⟩ := oe
    obtain ⟨z1, z2⟩ := hz
    dsimp only at z1 z2 hv
    subst z1 z2 hv
    exact ⟨here, rfl, rfl, trivial⟩
  exact PySem.W.kia_one (PySem.W.handS_kitx_exc C.hg C.hk C.hs C.hd C.ha C.hn C.ht C.hm) I.kIn J e (fun z => nomatch z) fun tk => ⟨.bl b, H, I.kept (t' := tk) fun _ _ z => z, rfl, q⟩
theorem gh_run {P : Program} {w : World} {K : PySem.W.Frag} {mg : Str → Option Value} {base : Heap} {k : Nat} {f : Addr} {x qual : Str} {st : Stmt} {fd : FuncData} {N ps : List Str} (F : Fun K x qual st f fd) (Sc : FnScope N ps (defScope st))
    {A : Around} {outer : List Env} {s : Shared} {H : Hp} {us : List Value} {vs : List V} {Q : VK} {E : XK} {p : Addr × Obj} (hr : RoomH (k + 1) A) (hot : Hot1 A p) (hpin : PinOk outer H s p) (e0 : Env0 P w K mg base A outer s H) (hb : Binds K fd ps []) (r : Vals vs us) (hl : vs.length = ps.length)
    (hbody : ∀ cdv : Value, RoomH k (A.deeper (envOfC qual (defScope st) s.heap.objs.size f cdv)) → ∃ t, PSs (cxH (L2N.CX P w) P w K mg base N qual (defScope st) f cdv A outer s H E p) (defBody st) t ∧ t { nx := fun _ H' => Q .non H', rt := Q } (L2.start N vs) H) :
    codeAny (model P w) A (.call (.ref f) ⟨us, []⟩) (CR (L2N.CX P w) outer P w H s Q E) s := by
  obtain ⟨_, _, _, _, _, _, cd, _, _, rfl, lk, hcd⟩ := F.ex
  have inH : K.In s.heap := e0.mod.kin.keeps fun b o z => (e0.bs b o z).1
  have noL : s.heap.NoLimit := e0.mod.nolimit.keeps fun b o z => (e0.bs b o z).1
  have hul : us.length = ps.length := by rw [← r.length]; exact hl
  have bnd := hb s us inH (by rw [List.append_nil]; exact hul)
  rw [List.append_nil] at bnd
  have kinds : ∀ y ∈ ps.zip us, (defScope st).names.lookup y.1 = some .local ∨ ((defScope st).names.lookup y.1 = some .cell ∧ ((cellsFrom (s.heap.objs.size + 1) (defScope st).names []).lookup y.1).isSome = true) := fun ⟨n, v⟩ hy => by
    rcases Sc.par n (List.of_mem_zip hy).1 with z | z
    · exact .inl z
    · exact .inr ⟨z, PySem.W.cellsFrom_some _ _ _ (.inl z)⟩
  refine codeAny_call_function hr.depth (inH _ _ lk) rfl Sc.co Sc.gen rfl (PySem.W.codeRec_of inH hcd) (bnd _ _ _ _ (wpAny_newFunctionEnv_cells Sc.kind kinds fun env he s1 ic => ?_))
  subst he
  obtain ⟨t, ht, hq⟩ := hbody cd (hr.deeper _)
  have J := inv_startH (CX := L2N.CX P w) (P := P) (w := w) (E := E) Sc hpin e0 hl r ic
  refine ⟨noL.keeps ic.toInCall.keep, codeAny_func (wpAny_mono (ht.run [] s1 (L2.start N vs) H _ J hq) (fun fl s' hs => ?_) fun e s' hs => hs)⟩
  cases fl with
  | ret u =>
    obtain ⟨v, σ', H', J2, rv, q⟩ := hs
    exact ⟨v, H', J2.os, J2.bare, J2.base, J2.hok, rv, q⟩
  | next =>
    obtain ⟨σ', H', J2, q⟩ := hs
    exact ⟨.non, H', J2.os, J2.bare, J2.base, J2.hok, rfl, q⟩
  | brk =>
    obtain ⟨_, _, _, q⟩ := hs
    exact False.elim q
  | cont =>
    obtain ⟨_, _, _, q⟩ := hs
    exact False.elim q
section
variable {X : Cx} {E : XK} {ρ : List Sl}
theorem d_isE {a De : Addr} {oe : Obj} {i : Nat} {e x : Str} {b : Bool} {v : V} {cv : Value} {p p2 p3 pos : Pos} (C : ExcC X.K De) (hz : Zc (.ref De) none oe) (hf : ∃ vs, oe.data = .fields vs) (hp : (a, oe) ∈ X.pn) (hi : ρ[i]? = some (.rf a)) (he1 : PE X (.Name e p2) (tVar i)) (hx : PE X (.Name x p3) (tC v)) (hu : ∀ u, RelV v u → u = cv) (hk : PySem.W.kitOne X.K (.ref De) cv = some b) (hm : X.mg "isinstance" = none)
    (hg : Gl X "isinstance" := by rfl) (he : starEach [.Name e p2, .Name x p3] X.env = (false, eval (.Name e p2) X.env) :: starEach [.Name x p3] X.env := by rfl) (he2 : starEach [.Name x p3] X.env = (false, eval (.Name x p3) X.env) :: starEach [] X.env := by rfl)
    (hpl : (backTo pos (starEach [.Name x p3] X.env)).any (·.1) = false := by rfl) : D X E (.Call (.Name "isinstance" p) [.Name e p2, .Name x p3] [] pos) ρ (.ok (.bl b)) :=
  D.of (pe_callB (gh_isE C hz hf hp) hg hm (by decide +kernel) (pa_cons he1 (pa_cons hx pa_nil he2) he) (by decide) (by decide) he hpl) fun B σ H Q c en q => ⟨.ref a, en.rf hi, v, cv, b, rfl, hu, hk, q _ H (Same.refl H) (.bl b)⟩
theorem d_sumB {bs : List Bool} {i : Nat} {x y : Str} {px py p1 p2 p3 p4 pos pos2 : Pos} {scope : Scope} (hc : HotC X) (hi : ρ[i]? = some (.dt (.lst (bs.map Dat.bl)))) (hl : bs.length ≤ 1000) (hb : ∀ j, j < (bs.map fun b => (if b then 1 else 0 : Int)).length → InLong ((bs.map fun b => (if b then 1 else 0 : Int)).getD j 0) ∧ InLong (sumL (bs.map fun b => (if b then 1 else 0 : Int)) (j + 1)))
    (hlc : PE X (.ListComp (.Call (.Name "int" p1) [.Name y p2] [] p3) [⟨.Name y py, .Name x px, [], 0⟩] scope pos) (tInts X.K i)) (hm : X.mg "sum" = none) (hg : Gl X "sum" := by rfl)
    (he : starEach [.ListComp (.Call (.Name "int" p1) [.Name y p2] [] p3) [⟨.Name y py, .Name x px, [], 0⟩] scope pos] X.env = (false, eval (.ListComp (.Call (.Name "int" p1) [.Name y p2] [] p3) [⟨.Name y py, .Name x px, [], 0⟩] scope pos) X.env) :: starEach [] X.env := by rfl) :
    D X E (.Call (.Name "sum" p4) [.ListComp (.Call (.Name "int" p1) [.Name y p2] [] p3) [⟨.Name y py, .Name x px, [], 0⟩] scope pos] [] pos2) ρ (.ok (.int (sumL (bs.map fun b => (if b then 1 else 0 : Int)) (bs.map fun b => (if b then 1 else 0 : Int)).length))) :=
  D.of (pe_callB (gh_sum hc) hg hm (by decide +kernel) (pa_cons hlc pa_nil he) (by decide) (by decide) he (by rfl)) fun B σ H Q c en q => by
    obtain ⟨v, h1, h2⟩ := en.dt hi
    cases h2 with
    | @lst a vs _ ha hr =>
      have e := rpA_bls hr
      subst e
      refine ⟨a, bs, h1, SqL.of (mask_sub B H _ _ ha), hl, fun D nD => ⟨D, _, rfl, SqL.of (by rw [upd_same]; simp only [List.map_map]; rfl), hb, q _ _ (same_upd nD) (.int _)⟩⟩
theorem pyA_bls : ∀ bs : List Bool, Dat.pyA (bs.map Dat.bl) = bs.map PyData.bool
  | [] => rfl
  | b :: bs => by
    show PyData.bool b :: Dat.pyA (bs.map Dat.bl) = PyData.bool b :: bs.map PyData.bool
    rw [pyA_bls bs]
theorem d_indexB {bs : List Bool} {i j : Nat} {x : Str} {k : Nat} {px apos pb cpos : Pos} (hu : X.A.units + 65 < cLine) (hi : ρ[i]? = some (.dt (.lst (bs.map Dat.bl)))) (hj : bs[j]? = some true) (hn : ∀ m, m < j → bs[m]? = some false) (hx : PE X (.Name x px) (tVar i))
    (h2 : PE X (.Name x px) (tVar i) → PE X (.Constant (.bool true) k pb) (tC (.bl true)) → PE X (.Call (.Attribute (.Name x px) "index" apos) [.Constant (.bool true) k pb] [] cpos) (tBM X.K "list" (rIndexD X.K) (tVar i) (tCons (tC (.bl true)) tNil))) :
    D X E (.Call (.Attribute (.Name x px) "index" apos) [.Constant (.bool true) k pb] [] cpos) ρ (.ok (.int (j : Nat))) :=
  D.of (h2 hx pe_bl) fun B σ H Q c en q => by
    obtain ⟨v, h1, hv⟩ := en.dt hi
    have ho : okn 9 (.lst (bs.map Dat.bl)) = true := by
      show (bs.map Dat.bl).all (okn 8) = true
      rw [List.all_map, List.all_eq_true]
      intro b _
      rfl
    have dp := (hv.mono (mask_sub B H)).dp ho
    have shp := okn_shaped ho
    have ep : (Dat.lst (bs.map Dat.bl)).py = .list (bs.map PyData.bool) := by
      show PyData.list (Dat.pyA (bs.map Dat.bl)) = _
      rw [pyA_bls]
    rw [ep] at dp shp
    cases hv with
    | @lst a vs _ ha hr =>
      refine ⟨.ref a, h1, .inl ⟨rfl, vs, SqL.of (mask_sub B H _ _ ha)⟩, a, .bl true, .bool true, bs.map PyData.bool, j, .bool true, rfl, rfl, dp, .bl true, shp, rfl, by rw [List.getElem?_map, hj]; rfl, rfl, fun m z hm hz => ?_, q _ H (Same.refl H) (.int _)⟩
      rw [List.getElem?_map, hn m hm] at hz
      have hz := Option.some.inj hz
      rw [← hz]
      rfl
end
end G

set_option Elab.async false
set_option linter.all false
set_option maxRecDepth 100000
set_option maxHeartbeats 2000000
namespace G
open PySem PySem.Spec PyProof.Rows L2 TL L2H HotX LamX
theorem SlOk.sm {K : PySem.W.Frag} {B : Addr → Bool} {H H' : Hp} (e : Sm H H') : ∀ {s : Sl} {o : Option V}, SlOk K B H s o → SlOk K B H' s o
  | .un, _, _ => True.intro
  | .dt d, some v, h => Rp.monoN (mask_sm e) h
  | .rf a, some v, h => h
  | .ml a ds, some v, ⟨h1, h2, vs, h3, h4⟩ => ⟨h1, h2, vs, e _ _ h3 (fun _ z => by cases z), RpA.monoN (mask_sm e) h4⟩
  | .md a kvs, some v, ⟨h1, h2, h3⟩ => ⟨h1, h2, e _ _ h3 fun _ z => by cases z⟩
  | .di a, some v, ⟨h1, h2, c, n, h3⟩ => ⟨h1, h2, c, n, e _ _ h3 fun _ z => by cases z⟩
  | .mg a o ds, some v, ⟨h1, h2, vs, h3, h4, h5⟩ => ⟨h1, h2, vs, e _ _ h3 (fun ps z => h4 ps z), h4, RpA.monoN (mask_sm e) h5⟩
  | .dt _, none, h => h.elim
  | .rf _, none, h => h.elim
  | .ml _ _, none, h => h.elim
  | .md _ _, none, h => h.elim
  | .di _, none, h => h.elim
  | .mg _ _ _, none, h => h.elim
theorem EnvR.sm {K : PySem.W.Frag} {B : Addr → Bool} {H H' : Hp} {σ : L2.St} {ρ : List Sl} (e : EnvR K B H σ ρ) (s : Sm H H') : EnvR K B H' σ ρ :=
  ⟨e.len, fun i x h => let ⟨o, h1, h2⟩ := e.at_ i x h; ⟨o, h1, h2.sm s⟩, e.sep⟩
theorem Wd.sm {T : List (Addr × Str)} {fr : Hp} {dc : Addr → Bool} {B : Addr → Bool} {H H1 : Hp} (w : Wd (WT T fr dc) B H) (e : Sm H H1) (hT : Tabs T H1) : Wd (WT T fr dc) B H1 := by
  have isT : ∀ o : HO, (∃ ps, o = .tbl ps) ∨ ∀ ps, o ≠ .tbl ps := fun o => by
    cases o with
    | tbl ps => exact .inl ⟨ps, rfl⟩
    | _ => exact .inr fun _ z => by cases z
  refine ⟨fun a o m h => ?_, w.b0, fun a hb n => ?_, w.fr.trans (mask_sm e), hT, fun a h => ?_, fun a ps hb h => ?_⟩
  · rw [show (WT T fr dc).H0 a = none from dwT m] at h
    cases h
  · cases q : H a with
    | none => exact w.cov a hb (.inl q)
    | some o =>
      rcases isT o with ⟨ps, rfl⟩ | z
      · have m := of_decide_eq_true (w.tb a ps hb q)
        obtain ⟨p, hp, rfl⟩ := List.mem_map.mp m
        obtain ⟨ps', h, _⟩ := hT p hp
        rw [h] at n
        rcases n with n | ⟨_, n⟩ <;> cases n
      · rw [e _ _ q z] at n
        exact w.cov a hb (by rw [q]; exact n)
  · obtain ⟨h1, c, n, h2⟩ := w.di a h
    exact ⟨h1, c, n, e _ _ h2 fun _ z => by cases z⟩
  · cases q : H a with
    | none => exact absurd (Or.inl q) (w.cov a hb)
    | some o =>
      rcases isT o with ⟨ps', rfl⟩ | z
      · exact w.tb a ps' hb q
      · rw [e _ _ q z] at h
        exact absurd (Option.some.inj h) (z ps)
def ToldS (K : PySem.W.Frag) (CS : Addr) (Kn : Addr → List Nat → Prop) (S : Dat → Prop) : Res → Prop
  | .ok d => S d
  | .err c => ∃ C nm, c = .ref C ∧ Kn C nm ∧ PySem.W.exmOne K (.ref C) (.ref CS) = some true ∧ S (errD nm)
theorem de_told {X : Cx} {T : List (Addr × Str)} {fr : Hp} {dc : Addr → Bool} {ρ : List Sl} {S : Dat → Prop} {r : Res} {g CS ft c P : Addr} {k kt : Nat} {Kn : Addr → List Nat → Prop} {params : Arguments} {body : Expr} {scope : Scope} {p lpos pos : Pos} (F : ToldF X.K X.mg g CS ft) (hTm : TermOk X.prog X.w X.K X.mg X.base ft kt Kn)
    (TB : TabB X.base X.mg c P) (hcode : X.env.code = .ref c) (hmT : (P, X.env.qual ++ "<lambda>") ∈ T) (hu : ∀ p ∈ T, p.1 = P → p.2 = X.env.qual ++ "<lambda>") (hr : Room (k + 2) X.A) (hkt : kt ≤ k + 1)
    (hbody : ∀ (A : Around) (outer : List Env) (s : Shared) (H : Hp) (E : XK) (f c' : Addr), Room k (A.deeper (lamEnv X scope s.heap.objs.size f c')) → D (lamN X A outer s H E scope f c') E body ρ r)
    (hS : ToldS X.K CS Kn S r)
    (L : LamS X.env.scope scope := by exact lamS_by (by decide +kernel)) (hdef : defaultsOf params X.env = ([], []) := by rfl) (hbind : ∀ (q : Str) (cl : List (Str × Addr)) (pm cv ctv : Value), bindArgs (PySem.W.kla_fn "<lambda>" q params body scope cl pm cv ctv) ⟨[], []⟩ = pure [] := by intros; rfl) (hg : Gl X "_law_told" := by rfl) :
    DE X (WT T fr dc) (.Call (.Name "_law_told" p) [.Lambda params body scope lpos] [] pos) ρ S := by
  refine pe_imp (gh_told (t := fun E => tD X.K E ρ r) F hTm hg TB hcode hmT hu hr hkt L hdef hbind hbody) fun σ H Q ⟨B, w, en, q⟩ => ⟨w.iv, fun H1 eN T1 => ?_⟩
  have w1 := w.sm eN T1
  have en1 := en.sm eN
  refine ⟨B, w1.cov, en1, ?_⟩
  cases r with
  | ok d => exact fun v H' s rv => q v H' B d hS (w1.same s) (en1.same s) ((mask_sm eN).trans (Sm.of (mask_same s))) rv
  | err c =>
    obtain ⟨C, nm, e1, hK, hx, hs⟩ := hS
    exact fun H' s => ⟨C, nm, e1, rfl, hK, hx, B, w1.cov.same s, fun v H'' s2 rv => q v H'' B (errD nm) hs (w1.same (s.trans s2)) (en1.same (s.trans s2)) ((mask_sm eN).trans (Sm.of (mask_same (s.trans s2)))) rv⟩
end G

set_option Elab.async false
set_option linter.all false
set_option maxRecDepth 100000
set_option maxHeartbeats 2000000
namespace G
open PySem PySem.Spec PyProof.Rows L2 TL
/-! ### tests that may throw the dice or make lambdas -/
def tET (K : PySem.W.Frag) (W : Wl) (ρ : List Sl) (b : Bool) : TT := fun σ H Q => ∃ B, Wd W B H ∧ EnvR K B H σ ρ ∧ ∀ H' B', Wd W B' H' → EnvR K B' H' σ ρ → Sm (mask B H) (mask B' H') → Q b H'
abbrev TE1 (X : Cx) (W : Wl) (e : Expr) (ρ : List Sl) (b : Bool) : Prop := PT X e (tET X.K W ρ b)
abbrev TEW (X : Cx) (W : Wl) (e : Expr) (ρ : List Sl) (b : Bool) : Prop := PW X e (tET X.K W ρ b)
section
variable {X : Cx} {E : XK} {W : Wl} {ρ : List Sl} {P : Out → Prop}
theorem te_cmp {a b : Expr} {op : CmpOp} {r : R2} {S1 S2 : Dat → Prop} {z : Bool} {pos : Pos} (hr : OpR X (compareOp op) r) (ho : ∀ x y, S1 x → S2 y → Op2 X.K r x y (.bl z)) (ha : DE X W a ρ S1) (hb : DE X W b ρ S2) (hm : behindInMarks op b = false := by first | exact nomark _ | rfl) : TE1 X W (.Compare a [op] [b] pos) ρ z :=
  pt_imp (pt_cmpR hr ha hb hm) fun σ H Q ⟨B, w, en, q⟩ => ⟨B, w, en, fun vx H1 B1 x h1 w1 en1 m1 rx => ⟨B1, w1, en1, fun vy H2 B2 y h2 w2 en2 m2 ry =>
    ho x y h1 h2 B2 H2 vx vy _ w2.cov (rx.monoN m2) ry fun v H3 s3 rv => ⟨z, rp_bl rv, q H3 B2 (w2.same s3) (en2.same s3) ((m1.trans m2).trans (Sm.of (mask_same s3)))⟩⟩⟩
theorem te_ne {a b : Expr} {x y : Dat} {pos : Pos} (hu : X.A.units + 64 < cLine) (ha : DE X W a ρ (fun d => d = x)) (hb : DE X W b ρ (fun d => d = y)) (hx : okn 9 x = true) (hy : okn 9 y = true) : TE1 X W (.Compare a [.NotEq] [b] pos) ρ (!Dat.eq x y) :=
  te_cmp (op_neD hu) (fun x' y' e1 e2 => by subst e1 e2; exact o_neD hx hy) ha hb
theorem TE1.is {e : Expr} {b b' : Bool} (h : TE1 X W e ρ b) (q : b = b') : TE1 X W e ρ b' := q ▸ h
theorem te_pure {e : Expr} {b : Bool} (h : T X e ρ b) : TE1 X W e ρ b := pt_imp h fun σ H Q ⟨B, w, en, q⟩ => ⟨B, w.cov, en, fun H' s => q H' B (w.same s) (en.same s) (Sm.of (mask_same s))⟩
theorem te_and1 {a : Expr} {x : Bool} {pos : Pos} (h : TE1 X W a ρ x) : TEW X W (.BoolOp .And [a] pos) ρ x := pw_and1 h
theorem te_or1 {a : Expr} {x : Bool} {pos : Pos} (h : TE1 X W a ρ x) : TEW X W (.BoolOp .Or [a] pos) ρ x := pw_or1 h
theorem te_and {a b : Expr} {rest : List Expr} {x y : Bool} {pos : Pos} (h : TE1 X W a ρ x) (h2 : x = true → TEW X W (.BoolOp .And (b :: rest) pos) ρ y) : TEW X W (.BoolOp .And (a :: b :: rest) pos) ρ (x && y) := by
  cases x with
  | true =>
    refine pw_imp (pw_and h (h2 rfl)) fun σ H Q ⟨B, w, en, q⟩ => ⟨B, w, en, fun H1 B1 w1 en1 m1 => ?_⟩
    refine iteT ?_
    exact ⟨B1, w1, en1, fun H2 B2 w2 en2 m2 => q H2 B2 w2 en2 (m1.trans m2)⟩
  | false =>
    refine pw_imp (pw_and h pw_no) fun σ H Q ⟨B, w, en, q⟩ => ⟨B, w, en, fun H1 B1 w1 en1 m1 => ?_⟩
    refine iteF ?_
    exact q H1 B1 w1 en1 m1
theorem te_w {e : Expr} {b : Bool} (h : TEW X W e ρ b) : TE1 X W e ρ b := h.pt
theorem s_ifDE {c : Expr} {th el : List Stmt} {b : Bool} {pos : Pos} (t : TE1 X W c ρ b) (h1 : b = true → SS X E W th ρ P) (h2 : b = false → SS X E W el ρ P) : S1 X E W (.If c th el pos) ρ P := by
  cases b with
  | true =>
    refine ps_imp (ps_if t (h1 rfl) pss_never) fun D σ H ⟨B, w, en, p⟩ => ⟨B, w, en, fun H1 B1 w1 en1 m1 => ?_⟩
    exact iteT ⟨B1, w1, en1, p⟩
  | false =>
    refine ps_imp (ps_if t pss_never (h2 rfl)) fun D σ H ⟨B, w, en, p⟩ => ⟨B, w, en, fun H1 B1 w1 en1 m1 => ?_⟩
    exact iteF ⟨B1, w1, en1, p⟩
theorem de_tup {es : List Expr} {S1 : List Dat → Prop} {S : Dat → Prop} {k : Nat} {pos : Pos} (h : DEA X W es ρ S1) (hS : ∀ ds, S1 ds → ds.length ≤ 1000 ∧ S (.tup ds)) : DE X W (.Tuple es k pos) ρ S :=
  pe_imp (pe_tup h) fun σ H Q ⟨B, w, en, q⟩ => ⟨B, w, en, fun vs H1 B1 ds hd w1 en1 m1 rs => ⟨by rw [rs.length]; exact Nat.le_of_lt (small1000 (hS ds hd).1), fun p np => q _ _ B1 _ (hS ds hd).2 (w1.same (same_upd np)) (en1.same (same_upd np)) (m1.trans (Sm.of (mask_same (same_upd np)))) (rp_new_tup w1.cov np rs)⟩⟩
end
end G

set_option linter.all false
set_option maxRecDepth 100000
namespace G
open PySem
def topS (i : Nat) : Stmt := PySem.Challenge.pw_drillgrids_k19_whole_drills.main.body.getD i (.Pass ⟨0, 0, 0, 0⟩)
abbrev s_is_formation : Stmt := topS 14
abbrev s_are_orders : Stmt := topS 15
abbrev s_need_formation : Stmt := topS 16
abbrev s_need_orders : Stmt := topS 17
abbrev s_shape_of : Stmt := topS 18
abbrev s_file_of : Stmt := topS 20
abbrev s_doubled : Stmt := topS 21
abbrev s_singled : Stmt := topS 22
abbrev s_moved : Stmt := topS 23
abbrev s_after : Stmt := topS 24
abbrev s_performed : Stmt := topS 25
abbrev s_Drill : Stmt := topS 27
abbrev s__law_cell : Stmt := topS 29
abbrev s__law_drawn : Stmt := topS 30
abbrev s__law_roll : Stmt := topS 31
abbrev s__law_rounds : Stmt := topS 32
abbrev s__law_term : Stmt := topS 33
abbrev s__law_told : Stmt := topS 34
abbrev s__law_any_formation : Stmt := topS 35
abbrev s__law_any_orders : Stmt := topS 36
abbrev s__law_moved : Stmt := topS 37
abbrev s__law_led : Stmt := topS 38
abbrev s__law_done : Stmt := topS 39
abbrev s__law_turn : Stmt := topS 40
abbrev s_law : Stmt := topS 41
end G

set_option Elab.async false
set_option linter.all false
set_option maxRecDepth 100000
set_option maxHeartbeats 4000000
namespace G
open PySem PySem.Spec PyProof.Rows L2 TL
theorem nt {b : Bool} (h : (!b) = true) : b = false := by cases b <;> first | rfl | cases h
theorem nf {b : Bool} (h : (!b) = false) : b = true := by cases b <;> first | rfl | cases h
/-- the built-in names that nobody binds -/
structure Bi (mg : Str → Option Value) : Prop where
  len : mg "len" = none
  isinstance : mg "isinstance" = none
  tuple : mg "tuple" = none
  str : mg "str" = none
  int : mg "int" = none
  bool : mg "bool" = none
  all : mg "all" = none
  any : mg "any" = none
  sorted : mg "sorted" = none
  list : mg "list" = none
  range : mg "range" = none
  reversed : mg "reversed" = none
  enumerate : mg "enumerate" = none
  max : mg "max" = none
  min : mg "min" = none
  set : mg "set" = none
  abs : mg "abs" = none
  sum : mg "sum" = none
/-! ### formations as lists of code lists -/
def strsOf : List Dat → Option Fm
  | [] => some []
  | .str l :: r => (strsOf r).map (l :: ·)
  | _ :: _ => none
def isFm (f : Fm) : Bool := decide (1 ≤ (f.length : Int) ∧ (f.length : Int) ≤ 6) && (f.all fun l => decide (l.length = (f.headD []).length)) && (decide (2 ≤ (f.flatten.length : Int) ∧ (f.flatten.length : Int) ≤ 6) && decide (sortN f.flatten = lets.take f.flatten.length))
def isForm : Dat → Bool
  | .tup xs => (match strsOf xs with
    | some f => isFm f
    | none => false)
  | _ => false
/-- a datum that may be asked about -/
def okT (l : List Nat) : Prop := l.length ≤ 1000 ∧ (l.all fun c => Nat.blt c 1114112) = true
def okV : Dat → Prop
  | .tup xs => (∀ l, Dat.str l ∈ xs → okT l) ∧ ∀ x ∈ xs, x.isD = false
  | .str l => okT l
  | .lst _ => True
  | .dic _ => False
  | .scr _ => False
  | _ => True
theorem okV_d {d : Dat} (h : okV d) : d.isD = false := by cases d <;> first | rfl | exact h.elim
abbrev F_ (f : Fm) : Dat := .tup (f.map Dat.str)
theorem strsOf_some : ∀ {xs : List Dat} {f : Fm}, strsOf xs = some f → xs = f.map Dat.str
  | [], f, h => by
    have h : some [] = some f := h
    cases h
    rfl
  | .str l :: r, f, h => by
    have h : (strsOf r).map (l :: ·) = some f := h
    cases e : strsOf r with
    | none => rw [e] at h; cases h
    | some g =>
      rw [e] at h
      have h := Option.some.inj h
      subst h
      rw [strsOf_some e]
      rfl
  | .non :: r, f, h => by cases h
  | .bl _ :: r, f, h => by cases h
  | .int _ :: r, f, h => by cases h
  | .tup _ :: r, f, h => by cases h
  | .lst _ :: r, f, h => by cases h
  | .dic _ :: r, f, h => by cases h
  | .scr _ :: r, f, h => by cases h
theorem strsOf_all : ∀ {xs : List Dat}, (strsOf xs).isSome = xs.all Dat.isS
  | [] => rfl
  | .str l :: r => by
    show ((strsOf r).map (l :: ·)).isSome = r.all Dat.isS
    rw [Option.isSome_map, strsOf_all]
  | .non :: r => rfl
  | .bl _ :: r => rfl
  | .int _ :: r => rfl
  | .tup _ :: r => rfl
  | .lst _ :: r => rfl
  | .dic _ :: r => rfl
  | .scr _ :: r => rfl
theorem strsOf_F (f : Fm) : strsOf (f.map Dat.str) = some f := by
  induction f with
  | nil => rfl
  | cons l r ih =>
    show (strsOf (r.map Dat.str)).map (l :: ·) = some (l :: r)
    rw [ih]
    rfl
theorem isForm_F (f : Fm) : isForm (F_ f) = isFm f := by
  show (match strsOf (f.map Dat.str) with | some f => isFm f | none => false) = isFm f
  rw [strsOf_F]
theorem isT_of {d : Dat} (h : d.isT = true) : ∃ xs, d = .tup xs := by cases d <;> first | exact ⟨_, rfl⟩ | cases h
theorem isS_of {d : Dat} (h : d.isS = true) : ∃ l, d = .str l := by cases d <;> first | exact ⟨_, rfl⟩ | cases h
/-- all but the last two tests of is_formation, over strs -/
theorem joinL_nil : ∀ f : Fm, joinL [] f = f.flatten
  | [] => rfl
  | [p] => by simp [joinL]
  | p :: q :: r => by
    show p ++ ([] ++ joinL [] (q :: r)) = (p :: q :: r).flatten
    rw [joinL_nil (q :: r)]
    rfl
theorem flat_len (f : Fm) : (f.map List.length).sum = f.flatten.length := by rw [List.length_flatten]
theorem okn_sig {l : List Nat} (h : (l.all fun c => Nat.blt c 1114112) = true) : okn 9 (.lst (sig l)) = true := by
  show (sig l).all (okn 8) = true
  rw [List.all_eq_true] at h ⊢
  intro x hx
  obtain ⟨c, hc, rfl⟩ := List.mem_map.mp hx
  show ([c].all fun c => Nat.blt c 1114112) = true
  rw [List.all_cons, h c hc]
  rfl
theorem eq_sig : ∀ l m : List Nat, Dat.eqA (sig l) (sig m) = decide (l = m)
  | [], [] => rfl
  | [], _ :: _ => rfl
  | _ :: _, [] => rfl
  | a :: l, b :: m => by
    show (decide ([a] = [b]) && Dat.eqA (sig l) (sig m)) = decide (a :: l = b :: m)
    rw [eq_sig l m]
    by_cases h1 : a = b <;> by_cases h2 : l = m <;> simp [h1, h2]
section
variable {P : Program} {w : World} {K : PySem.W.Frag} {mg : Str → Option Value} {base : Heap}
/-! ### is_formation -/
def C_isform : List Dat → Res → Prop := fun as r => ∃ d, as = [d] ∧ okV d ∧ r = .ok (.bl (isForm d))
theorem sc_is_formation : FnScope ["value", "people", "one"] ["value"] (defScope s_is_formation) := ⟨rfl, rfl, rfl, by decide +kernel, rfl, by decide +kernel, by decide +kernel⟩
abbrev N_isf : List Str := ["value", "people", "one"]
theorem isf_first {xs : List Dat} : (!((decide ((1 : Int) ≤ (xs.length : Int)) && decide ((xs.length : Int) ≤ 6))) || !(xs.map Dat.isS).all id) = !(decide (1 ≤ (xs.length : Int) ∧ (xs.length : Int) ≤ 6) && (strsOf xs).isSome) := by
  rw [strsOf_all, List.all_map]
  have e : (xs.all (id ∘ Dat.isS)) = xs.all Dat.isS := rfl
  rw [e, ← Bool.decide_and]
  cases decide (1 ≤ (xs.length : Int) ∧ (xs.length : Int) ≤ 6) <;> cases xs.all Dat.isS <;> rfl
theorem ok_is_formation {f : Addr} {fd : FuncData} {t : Tok} (B : Bi mg) (hL : mg "LETTERS" = some (.str (mkS lets) t)) (F : Fun K "is_formation" "is_formation" s_is_formation f fd) : FnOk P w K mg base (L2N.CX P w) 1 f fd ["value"] (spC K C_isform) := by
  refine fnC_ok F sc_is_formation (fun as r ⟨d, e, _⟩ => by rw [e]; rfl) fun cdv A outer s H E as r W hM hr ⟨d, e, hok, er⟩ => ?_
  subst e er
  have nd := sc_is_formation.nd
  by_cases hT : d.isT = true
  · obtain ⟨xs, rfl⟩ := isT_of hT
    by_cases hl : xs.length ≤ 6
    · refine ss_cons (s_if (t_w (TW.is (w_or (t_not (t_val (d_isi B.isinstance B.tuple (dv 0 rfl) (kit_T _)))) fun _ => w_or (t_not (t_chain op_le op_le o_le o_le d_int (d_lenT B.len (dv 0 rfl)) d_int)) fun _ =>
        w_or1 (t_not (t_val (d_all (bs := xs.map Dat.isS) B.all ((d_lc0 (own := [("one", 2)]) (is := [2]) (pr := fun _ => True) (bd := bd1 2) (f := fun x => .bl x.isS) rfl nd (i_tup (dv 0 rfl)) (blkOk_by (N := N_isf) (sc := defScope s_is_formation) (by decide +kernel)) (fun _ _ _ _ _ => gt_name nd)
          (fun x hx _ _ _ _ _ => d_isi B.isinstance B.str (dv 2 rfl) (kit_S x) (hok.2 x hx)) (fun _ _ => True.intro) (by simp) (by omega)).is (by rw [List.map_map]; rfl)))))) (show _ = !(decide (1 ≤ (xs.length : Int) ∧ (xs.length : Int) ≤ 6) && (strsOf xs).isSome) from (Bool.false_or _).trans isf_first))) (fun hb => ss_one (s_ret d_bl ?_)) (fun hb => ss_nil ?_))
      · have hb : (decide (1 ≤ (xs.length : Int) ∧ (xs.length : Int) ≤ 6) && (strsOf xs).isSome) = false := nt hb
        have e : isForm (.tup xs) = false := by
          show (match strsOf xs with | some f => isFm f | none => false) = false
          cases h : strsOf xs with
          | none => rfl
          | some g =>
            rw [h] at hb
            have hb : (decide (1 ≤ (xs.length : Int) ∧ (xs.length : Int) ≤ 6) && true) = false := hb
            rw [Bool.and_true] at hb
            show isFm g = false
            unfold isFm
            rw [strsOf_some h, List.length_map] at hb
            rw [hb]
            rfl
        show some (Res.ok (.bl false)) = _
        rw [e]
      · have hb : (decide (1 ≤ (xs.length : Int) ∧ (xs.length : Int) ≤ 6) && (strsOf xs).isSome) = true := nf hb
        rw [Bool.and_eq_true] at hb
        obtain ⟨h1, h2⟩ := hb
        obtain ⟨g, hg⟩ := Option.isSome_iff_exists.mp h2
        have ex := strsOf_some hg
        subst ex
        rw [isForm_F]
        rw [List.length_map] at h1 hl
        have h1' := of_decide_eq_true h1
        obtain ⟨g0, gr, rfl⟩ : ∃ g0 gr, g = g0 :: gr := by
          cases g with
          | nil => simp at h1'
          | cons a b => exact ⟨a, b, rfl⟩
        have hok' : ∀ l ∈ g0 :: gr, okT l := fun l hm => hok.1 l (List.mem_map_of_mem hm)
        have tot : (g0 :: gr).flatten.length ≤ 6000 := by
          rw [← flat_len]
          exact sum_le 1000 6 (g0 :: gr) (fun l hm => (hok' l hm).1) hl
        have codes : ((g0 :: gr).flatten.all fun c => Nat.blt c 1114112) = true := by
          rw [List.all_flatten, List.all_eq_true]
          exact fun l hm => (hok' l hm).2
        -- any
        refine ss_cons (s_if (t_val (d_any (bs := (g0 :: gr).map fun l => !decide (l.length = g0.length)) B.any ((d_lc0 (own := [("one", 2)]) (is := [2]) (pr := fun x => ∃ l, x = .str l ∧ okT l) (bd := bd1 2) (f := fun x => match x with | .str l => .bl (!decide (l.length = g0.length)) | _ => .non) rfl nd (i_tup (dv 0 rfl)) (blkOk_by (N := N_isf) (sc := defScope s_is_formation) (by decide +kernel)) (fun _ _ _ _ _ => pg_imp (gt_name nd) fun v σ H Q ⟨B, x, ρ, c, en, rv, _, q⟩ => ⟨B, x, ρ, c, en, rv, True.intro, q⟩)
          (fun x hx _ _ _ _ _ => ?_) (fun x hx => ?_) (by simp) (by rw [List.length_map]; omega)).is (by rw [List.map_map, List.map_map]; rfl)))) (fun hb => ss_one (s_ret d_bl ?_)) (fun hb => ss_nil ?_))
        · obtain ⟨l, hm, rfl⟩ := List.mem_map.mp hx
          refine (d_cmp op_ne (fun B H vx vy Q c rx ry q => ⟨by rw [rp_int rx, rp_int ry]; rfl, by rw [rp_int rx, rp_int ry]; exact q _ H (Same.refl H) (.bl _)⟩) (d_lenS B.len (dv 2 rfl) (by have := (hok' l hm).1; omega)) (d_lenS B.len (d_ixT (dv 0 rfl) d_int (atI_nat (j := 0) rfl)) (by have := (hok' g0 List.mem_cons_self).1; omega))).is ?_
          show Dat.bl _ = Dat.bl _
          congr 2
          by_cases z : l.length = g0.length
          · simp [z]
          · simp [z]
            omega
        · obtain ⟨l, hm, rfl⟩ := List.mem_map.mp hx
          exact ⟨l, rfl, hok' l hm⟩
        · have e : isFm (g0 :: gr) = false := by
            unfold isFm
            have z : ((g0 :: gr).all fun l => decide (l.length = ((g0 :: gr).headD []).length)) = false := by
              rw [List.any_map] at hb
              rw [Bool.eq_false_iff]
              intro q
              rw [List.all_eq_true] at q
              obtain ⟨l, hm, hq⟩ := List.any_eq_true.mp hb
              have q := q l hm
              have hq : (!decide (l.length = g0.length)) = true := hq
              have q : decide (l.length = g0.length) = true := q
              rw [q] at hq
              cases hq
            rw [z, Bool.and_false, Bool.false_and]
          show some (Res.ok (.bl false)) = _
          rw [e]
        · have z : ((g0 :: gr).all fun l => decide (l.length = ((g0 :: gr).headD []).length)) = true := by
            rw [List.all_eq_true]
            intro l hm
            rw [List.any_map, Bool.eq_false_iff] at hb
            by_cases q : l.length = g0.length
            · exact decide_eq_true q
            · exact absurd (List.any_eq_true.mpr ⟨l, hm, by show (!decide (l.length = g0.length)) = true; rw [decide_eq_false q]; rfl⟩) hb
          -- people = ''.join(value)
          refine ss_cons (s_set 1 nd (d_join (S := []) (ls := g0 :: gr) (d_str rfl) (dv 0 rfl) (.inl rfl) (by rw [flat_len]; show _ + (gr.length + 1) * 0 ≤ _; omega)) ?_)
          rw [joinL_nil]
          refine ss_one (s_ret (d_and (y := decide (sortN (g0 :: gr).flatten = lets.take (g0 :: gr).flatten.length)) (d_chain op_le op_le o_le o_le d_int (d_lenS B.len (dv 1 rfl) (by omega)) d_int) (fun hx => d_one ?_)) ?_)
          · have hx := Bool.and_eq_true_iff.mp hx
            have h6 : (g0 :: gr).flatten.length ≤ 6 := by
              have z := of_decide_eq_true hx.2
              omega
            refine (d_eq hr.units (d_sortedS B.sorted (dv 1 rfl) (by omega)) (d_listS B.list (d_slS (d_gstr hL rfl) do_none (do_some (d_lenS B.len (dv 1 rfl) (by omega))) (by decide)) ?_) ?_ ?_).is ?_
            · rw [cut_take]
              exact Nat.le_trans (List.length_take_le' _ _) (by decide)
            · refine okn_sig ?_
              rw [List.all_eq_true] at codes ⊢
              exact fun c hc => codes c ((sortN_perm _).mem_iff.mp hc)
            · refine okn_sig ?_
              rw [cut_take, List.all_eq_true]
              intro c hc
              exact (by decide : ∀ c ∈ lets, Nat.blt c 1114112 = true) c (List.mem_of_mem_take hc)
            · show Dat.bl (Dat.eqA _ _) = _
              rw [eq_sig, cut_take]
          · show some (Res.ok (.bl _)) = some (Res.ok (.bl (isFm (g0 :: gr))))
            unfold isFm
            rw [h1, z, ← Bool.decide_and]
            rfl
    · refine ss_cons (s_if (b := true) (t_w (TW.is (w_or (t_not (t_val (d_isi B.isinstance B.tuple (dv 0 rfl) (kit_T _)))) fun _ => w_or (y := true) (t_not (t_chain op_le op_le o_le o_le d_int (d_lenT B.len (dv 0 rfl)) d_int)) fun h => ?_) (by rw [Bool.or_true, Bool.or_true]))) (fun hb => ss_one (s_ret d_bl ?_)) (fun hb => by cases hb))
      · exfalso
        have h := nf h
        have h := of_decide_eq_true (Bool.and_eq_true_iff.mp h).2
        omega
      · have e : isForm (.tup xs) = false := by
          show (match strsOf xs with | some f => isFm f | none => false) = false
          cases h : strsOf xs with
          | none => rfl
          | some g =>
            show isFm g = false
            unfold isFm
            have hg := congrArg List.length (strsOf_some h)
            rw [List.length_map] at hg
            rw [decide_eq_false (by omega)]
            rfl
        show some (Res.ok (.bl false)) = _
        rw [e]
  · have hT' : d.isT = false := Bool.eq_false_iff.mpr hT
    have hdd := okV_d hok
    refine ss_cons (s_if (b := true) (t_w (TW.is (w_or (y := true) (t_not (t_val (d_isi B.isinstance B.tuple (dv 0 rfl) (kit_T _)))) fun h => ?_) (by rw [Bool.or_true]))) (fun hb => ss_one (s_ret d_bl ?_)) (fun hb => by cases hb))
    · exfalso
      rw [hT'] at h
      cases h
    · have e : isForm d = false := by cases d <;> first | rfl | cases hT'
      show some (Res.ok (.bl false)) = _
      rw [e]
where
  cut_take (l : List Nat) (n : Nat) : cutN l none (some (n : Int)) = l.take n := by
    unfold cutN
    rw [HT.sIx_none, HT.sIx_nat, List.drop_zero, Nat.sub_zero]
    rcases Nat.le_total n l.length with h | h
    · rw [Nat.min_eq_left h]
    · rw [Nat.min_eq_right h, List.take_length, List.take_of_length_le h]
  sum_le (a n : Nat) (g : Fm) (h : ∀ l ∈ g, l.length ≤ a) (hn : g.length ≤ n) : (g.map List.length).sum ≤ n * a := by
    have z : (g.map List.length).sum ≤ g.length * a := by
      clear hn
      induction g with
      | nil => simp
      | cons l r ih =>
        have h1 := h l List.mem_cons_self
        have h2 := ih fun l hm => h l (List.mem_cons_of_mem _ hm)
        rw [List.map_cons, List.sum_cons, List.length_cons, Nat.add_mul]
        omega
    exact Nat.le_trans z (Nat.mul_le_mul_right a hn)
end
end G

set_option Elab.async false
set_option linter.all false
set_option maxRecDepth 100000
set_option maxHeartbeats 4000000
namespace G
open PySem PySem.Spec PyProof.Rows L2 TL
/-- the def x stands in the text -/
def At (K : PySem.W.Frag) (mg : Str → Option Value) (x : Str) (st : Stmt) : Prop := ∃ f fd, Fun K x x st f fd ∧ mg x = some (.ref f)
theorem At.c1 {P : Program} {w : World} {K : PySem.W.Frag} {mg : Str → Option Value} {base : Heap} {x : Str} {st : Stmt} {ps : List Str} {C : List Dat → Res → Prop} {k : Nat} (h : At K mg x st)
    (hb : ∀ (kV doc pm : Value) (an : Option Addr) (cdv ct : Value) (us : List Value), us.length = ps.length → bindArgs (PySem.W.fnOf x x (defArgs st) (defBody st) (defScope st) .none kV doc pm an cdv ct) ⟨us, []⟩ = pure (ps.zip us))
    (ok : ∀ f fd, Fun K x x st f fd → FnOk P w K mg base (L2N.CX P w) k f fd ps (spC K C)) : FnC P w K mg base x ps C k := by
  obtain ⟨f, fd, F, g⟩ := h
  exact ⟨f, fd, ok f fd F, g, F.kp, F.binds hb⟩
theorem memF {f : Fm} {l : List Nat} (h : Dat.str l ∈ f.map Dat.str) : l ∈ f := by
  obtain ⟨m, hm, e⟩ := List.mem_map.mp h
  cases e
  exact hm
theorem isFm_len {f : Fm} (h : isFm f = true) : 1 ≤ f.length ∧ f.length ≤ 6 ∧ (∀ l ∈ f, l.length = (f.headD []).length) ∧ 2 ≤ f.flatten.length ∧ f.flatten.length ≤ 6 ∧ sortN f.flatten = lets.take f.flatten.length := by
  unfold isFm at h
  simp only [Bool.and_eq_true, decide_eq_true_eq, List.all_eq_true] at h
  obtain ⟨⟨h1, h2⟩, h3, h4⟩ := h
  exact ⟨by omega, by omega, h2, by omega, by omega, h4⟩
theorem mem_flat {f : Fm} {l : List Nat} (h : l ∈ f) : l.length ≤ f.flatten.length := by
  rw [← flat_len]
  induction f with
  | nil => cases h
  | cons a r ih =>
    rw [List.map_cons, List.sum_cons]
    rcases List.mem_cons.mp h with rfl | h
    · omega
    · have := ih h
      omega
theorem isFm_codes {f : Fm} (h : isFm f = true) : ∀ l ∈ f, ∀ c ∈ l, c ∈ lets := fun l hl c hc => by
  obtain ⟨_, _, _, _, _, h6⟩ := isFm_len h
  have hm : c ∈ f.flatten := List.mem_flatten.mpr ⟨l, hl, hc⟩
  rw [← (sortN_perm _).mem_iff, h6] at hm
  exact List.mem_of_mem_take hm
theorem lets_ok : ∀ c ∈ lets, Nat.blt c 1114112 = true := by decide
theorem okT_F {f : Fm} (h : isFm f = true) : ∀ l ∈ f, okT l := fun l hl => by
  obtain ⟨_, _, _, _, h5, _⟩ := isFm_len h
  refine ⟨by have := mem_flat hl; omega, ?_⟩
  rw [List.all_eq_true]
  exact fun c hc => lets_ok c (isFm_codes h l hl c hc)
theorem okV_F {f : Fm} (h : isFm f = true) : okV (F_ f) := ⟨fun l hl => okT_F h l (memF hl), fun x hx => by
  obtain ⟨l, _, rfl⟩ := List.mem_map.mp hx
  rfl⟩
theorem okn_F {f : Fm} (h : isFm f = true) : okn 1 (F_ f) = true := by
  show (f.map Dat.str).all (okn 0) = true
  rw [List.all_map, List.all_eq_true]
  exact fun l hl => (okT_F h l hl).2
def isOrd : Dat → Bool
  | .str l => decide ((l.length : Int) ≤ 20) && l.all fun c => decide (c ∈ signs)
  | _ => false
section
variable {P : Program} {w : World} {K : PySem.W.Frag} {mg : Str → Option Value} {base : Heap} {IF IO : Addr}
theorem c_is_formation {t : Tok} (B : Bi mg) (hL : mg "LETTERS" = some (.str (mkS lets) t)) (h : At K mg "is_formation" s_is_formation) : FnC P w K mg base "is_formation" ["value"] C_isform 1 :=
  h.c1 (fun _ _ _ _ _ _ us hl => match us, hl with | [_], _ => rfl) fun f fd F => ok_is_formation B hL F
/-! ### are_orders -/
def C_areord : List Dat → Res → Prop := fun as r => ∃ d, as = [d] ∧ okV d ∧ r = .ok (.bl (isOrd d))
abbrev N_aro : List Str := ["value", "sign"]
theorem sc_are_orders : FnScope N_aro ["value"] (defScope s_are_orders) := ⟨rfl, rfl, rfl, by decide +kernel, rfl, by decide +kernel, by decide +kernel⟩
theorem c_are_orders {t : Tok} (B : Bi mg) (hS : mg "SIGNS" = some (.str (mkS signs) t)) (h : At K mg "are_orders" s_are_orders) : FnC P w K mg base "are_orders" ["value"] C_areord 1 := by
  refine h.c1 (fun _ _ _ _ _ _ us hl => match us, hl with | [_], _ => rfl) fun f fd F => fnC_ok F sc_are_orders (fun as r ⟨d, e, _⟩ => by rw [e]; rfl) fun cdv A outer s H E as r W hM hr ⟨d, e, hok, er⟩ => ?_
  subst e er
  have nd := sc_are_orders.nd
  have hdd := okV_d hok
  refine ss_one (s_ret (d_and (y := isOrd d) (d_isi B.isinstance B.str (dv 0 rfl) (kit_S d)) fun hs => ?_) ?_)
  · obtain ⟨l, rfl⟩ := isS_of hs
    refine d_and (d_cmp op_le o_le (d_lenS B.len (dv 0 rfl) (by have := hok.1; omega)) d_int) fun hl => d_one ?_
    refine (d_all (bs := l.map fun c => decide (c ∈ signs)) B.all ((d_lc0 (own := [("sign", 1)]) (is := [1]) (pr := fun _ => True) (bd := bd1 1) (f := fun x => match x with | .str [c] => .bl (decide (c ∈ signs)) | _ => .non) rfl nd (i_str (dv 0 rfl)) (blkOk_by (N := N_aro) (sc := defScope s_are_orders) (by decide +kernel)) (fun _ _ _ _ _ => gt_name nd)
      (fun x hx _ _ _ _ _ => ?_) (fun _ _ => True.intro) (by simp) (by rw [List.length_map]; have := hok.1; omega)).is (by rw [List.map_map, List.map_map]; rfl))).is (by rw [List.all_map]; rfl)
    obtain ⟨c, _, rfl⟩ := List.mem_map.mp hx
    exact d_inSign (dv 1 rfl) (d_gstr hS rfl)
  · show some (Res.ok (.bl _)) = _
    congr 3
    cases d <;> rfl
/-! ### need_formation, need_orders, need_both -/
def needR (b : Bool) (C : Addr) (r : Res) : Res := if b = true then r else .err (.ref C)
def C_needf (IF : Addr) : List Dat → Res → Prop := fun as r => ∃ d, as = [d] ∧ okV d ∧ r = needR (isForm d) IF (.ok .non)
def C_needo (IO : Addr) : List Dat → Res → Prop := fun as r => ∃ d, as = [d] ∧ okV d ∧ r = needR (isOrd d) IO (.ok .non)
def C_needb (IF IO : Addr) : List Dat → Res → Prop := fun as r => ∃ d e, as = [d, e] ∧ okV d ∧ okV e ∧ r = needR (isForm d) IF (needR (isOrd e) IO (.ok .non))
theorem sc_need_formation : FnScope ["formation"] ["formation"] (defScope s_need_formation) := ⟨rfl, rfl, rfl, by decide +kernel, rfl, by decide +kernel, by decide +kernel⟩
theorem sc_need_orders : FnScope ["orders"] ["orders"] (defScope s_need_orders) := ⟨rfl, rfl, rfl, by decide +kernel, rfl, by decide +kernel, by decide +kernel⟩
theorem c_need_formation (G1 : FnC P w K mg base "is_formation" ["value"] C_isform 1) (X1 : ExcF K mg "InvalidFormation" IF) (h : At K mg "need_formation" s_need_formation) : FnC P w K mg base "need_formation" ["formation"] (C_needf IF) 2 := by
  refine h.c1 (fun _ _ _ _ _ _ us hl => match us, hl with | [_], _ => rfl) fun f fd F => fnC_ok F sc_need_formation (fun as r ⟨d, e, _⟩ => by rw [e]; rfl) fun cdv A outer s H E as r W hM hr ⟨d, e, hok, er⟩ => ?_
  subst e er
  refine ss_one (s_if (t_not (t_val (d_call G1 (hr.mono (by decide)) passN (da_one (dv 0 rfl)) ⟨d, rfl, hok, rfl⟩))) (fun hb => ss_one (s_raise X1 tk_cx ?_)) (fun hb => ss_nil ?_))
  · show some (Res.err _) = some (needR (isForm d) IF (.ok .non))
    rw [nt hb]
    rfl
  · show some (Res.ok _) = some (needR (isForm d) IF (.ok .non))
    rw [nf hb]
    rfl
theorem c_need_orders (G1 : FnC P w K mg base "are_orders" ["value"] C_areord 1) (X1 : ExcF K mg "InvalidOrders" IO) (h : At K mg "need_orders" s_need_orders) : FnC P w K mg base "need_orders" ["orders"] (C_needo IO) 2 := by
  refine h.c1 (fun _ _ _ _ _ _ us hl => match us, hl with | [_], _ => rfl) fun f fd F => fnC_ok F sc_need_orders (fun as r ⟨d, e, _⟩ => by rw [e]; rfl) fun cdv A outer s H E as r W hM hr ⟨d, e, hok, er⟩ => ?_
  subst e er
  refine ss_one (s_if (t_not (t_val (d_call G1 (hr.mono (by decide)) passN (da_one (dv 0 rfl)) ⟨d, rfl, hok, rfl⟩))) (fun hb => ss_one (s_raise X1 tk_cx ?_)) (fun hb => ss_nil ?_))
  · show some (Res.err _) = some (needR (isOrd d) IO (.ok .non))
    rw [nt hb]
    rfl
  · show some (Res.ok _) = some (needR (isOrd d) IO (.ok .non))
    rw [nf hb]
    rfl
def sh (f : Fm) : Dat := .tup [.int f.length, .int (f.headD []).length]
def C_shapeof : List Dat → Res → Prop := fun as r => ∃ f : Fm, as = [F_ f] ∧ 1 ≤ f.length ∧ (f.headD []).length ≤ 1000 ∧ r = .ok (sh f)
theorem sc_shape_of : FnScope ["formation"] ["formation"] (defScope s_shape_of) := ⟨rfl, rfl, rfl, by decide +kernel, rfl, by decide +kernel, by decide +kernel⟩
theorem c_shape_of (B : Bi mg) (h : At K mg "shape_of" s_shape_of) : FnC P w K mg base "shape_of" ["formation"] C_shapeof 1 := by
  refine h.c1 (fun _ _ _ _ _ _ us hl => match us, hl with | [_], _ => rfl) fun f fd F => fnC_ok F sc_shape_of (fun as r ⟨d, e, _⟩ => by rw [e]; rfl) fun cdv A outer s H E as r W hM hr ⟨g, e, h1, h2, er⟩ => ?_
  subst e er
  obtain ⟨g0, gr, rfl⟩ : ∃ g0 gr, g = g0 :: gr := by
    cases g with
    | nil => simp at h1
    | cons a b => exact ⟨a, b, rfl⟩
  refine ss_one (s_ret (d_tup (da_cons (d_lenT B.len (dv 0 rfl)) (da_one (d_lenS B.len (d_ixT (dv 0 rfl) d_int (atI_nat (j := 0) rfl)) (by have h2 : g0.length ≤ 1000 := h2; omega)))) (by simp)) ?_)
  show some (Res.ok (.tup [.int (((g0 :: gr).map Dat.str).length : Nat), _])) = _
  rw [List.length_map]
  rfl
end
end G

set_option Elab.async false
set_option linter.all false
set_option maxRecDepth 100000
set_option maxHeartbeats 4000000
namespace G
open PySem PySem.Spec PyProof.Rows L2 TL
theorem Wk.set : ∀ {ρ ρ' : List Sl} (i : Nat) (s : Sl), Wk ρ ρ' → Wk (ρ.set i s) (ρ'.set i s)
  | [], [], _, _, _ => True.intro
  | _ :: _, _ :: _, 0, s, h => ⟨.inr rfl, h.2⟩
  | _ :: _, _ :: _, i + 1, s, h => ⟨h.1, Wk.set i s h.2⟩
theorem Wk.bd2 {ρ ρ' : List Sl} (i j : Nat) (x : Dat) (h : Wk ρ ρ') : Wk (bd2 i j x ρ) (bd2 i j x ρ') := by
  unfold G.bd2
  split
  · exact (h.set i _).set j _
  · exact h
theorem s_forW {X : Cx} {E : XK} {W : Wl} {ρ : List Sl} {P : Out → Prop} {tg iter : Expr} {body : List Stmt} {xs : List Dat} {is : List Nat} {pr : Dat → Prop} {bd : Dat → List Sl → List Sl} {pos : Pos} (ρs : Nat → List Sl) (hp : PassesOwn (model X.prog X.w) X.A X.env X.xe) (hi : I X tg iter ρ xs) (hg : GT X tg is pr bd)
    (hbd : ∀ x ρ ρ', Wk ρ ρ' → Wk (bd x ρ) (bd x ρ')) (hpr : ∀ x ∈ xs, pr x) (h0 : Wk ρ (ρs 0))
    (hs : ∀ (fr : Hp) (i : Nat) (x : Dat), xs[i]? = some x → SS X E (W.fram fr) body (bd x (ρs i)) (Lp (fun ρ2 => Wk ρ2 (ρs (i + 1))) P)) (hd : ∀ ρ', Wk ρ' (ρs xs.length) → P (.nx ρ')) (hc : X.calm = true := by rfl) (hf : ∀ x, foldedSetIterable iter X.env x = pure x := by intro _; rfl) :
    S1 X E W (.For tg iter body [] pos) ρ P :=
  s_for (fun i ρ => Wk ρ (ρs i)) hp hi hg hpr h0 (fun fr i x ρ' hx hR => (hs fr i x hx).weak (hbd x _ _ hR)) hd hc hf
/-! ### slices by a step on short texts -/
theorem cut3_even : ∀ l : List Nat, l.length ≤ 6 → cut3 l none none 2 = evens l
  | [], _ => by
    have h : Builtin.Str.strSliceIndices none none 2 0 = [] := by decide +kernel
    unfold cut3
    show (Builtin.Str.strSliceIndices none none 2 0).filterMap _ = _
    rw [h]
    rfl
  | [a], _ => by
    have h : Builtin.Str.strSliceIndices none none 2 1 = [0] := by decide +kernel
    unfold cut3
    show (Builtin.Str.strSliceIndices none none 2 1).filterMap _ = _
    rw [h]
    rfl
  | [a, b], _ => by
    have h : Builtin.Str.strSliceIndices none none 2 2 = [0] := by decide +kernel
    unfold cut3
    show (Builtin.Str.strSliceIndices none none 2 2).filterMap _ = _
    rw [h]
    rfl
  | [a, b, c], _ => by
    have h : Builtin.Str.strSliceIndices none none 2 3 = [0, 2] := by decide +kernel
    unfold cut3
    show (Builtin.Str.strSliceIndices none none 2 3).filterMap _ = _
    rw [h]
    rfl
  | [a, b, c, d], _ => by
    have h : Builtin.Str.strSliceIndices none none 2 4 = [0, 2] := by decide +kernel
    unfold cut3
    show (Builtin.Str.strSliceIndices none none 2 4).filterMap _ = _
    rw [h]
    rfl
  | [a, b, c, d, e], _ => by
    have h : Builtin.Str.strSliceIndices none none 2 5 = [0, 2, 4] := by decide +kernel
    unfold cut3
    show (Builtin.Str.strSliceIndices none none 2 5).filterMap _ = _
    rw [h]
    rfl
  | [a, b, c, d, e, f], _ => by
    have h : Builtin.Str.strSliceIndices none none 2 6 = [0, 2, 4] := by decide +kernel
    unfold cut3
    show (Builtin.Str.strSliceIndices none none 2 6).filterMap _ = _
    rw [h]
    rfl
  | _ :: _ :: _ :: _ :: _ :: _ :: _ :: _, h => by simp at h
theorem cut3_odd : ∀ l : List Nat, l.length ≤ 6 → cut3 l (some 1) none 2 = odds l
  | [], _ => by
    have h : Builtin.Str.strSliceIndices (some 1) none 2 0 = [] := by decide +kernel
    unfold cut3
    show (Builtin.Str.strSliceIndices (some 1) none 2 0).filterMap _ = _
    rw [h]
    rfl
  | [a], _ => by
    have h : Builtin.Str.strSliceIndices (some 1) none 2 1 = [] := by decide +kernel
    unfold cut3
    show (Builtin.Str.strSliceIndices (some 1) none 2 1).filterMap _ = _
    rw [h]
    rfl
  | [a, b], _ => by
    have h : Builtin.Str.strSliceIndices (some 1) none 2 2 = [1] := by decide +kernel
    unfold cut3
    show (Builtin.Str.strSliceIndices (some 1) none 2 2).filterMap _ = _
    rw [h]
    rfl
  | [a, b, c], _ => by
    have h : Builtin.Str.strSliceIndices (some 1) none 2 3 = [1] := by decide +kernel
    unfold cut3
    show (Builtin.Str.strSliceIndices (some 1) none 2 3).filterMap _ = _
    rw [h]
    rfl
  | [a, b, c, d], _ => by
    have h : Builtin.Str.strSliceIndices (some 1) none 2 4 = [1, 3] := by decide +kernel
    unfold cut3
    show (Builtin.Str.strSliceIndices (some 1) none 2 4).filterMap _ = _
    rw [h]
    rfl
  | [a, b, c, d, e], _ => by
    have h : Builtin.Str.strSliceIndices (some 1) none 2 5 = [1, 3] := by decide +kernel
    unfold cut3
    show (Builtin.Str.strSliceIndices (some 1) none 2 5).filterMap _ = _
    rw [h]
    rfl
  | [a, b, c, d, e, f], _ => by
    have h : Builtin.Str.strSliceIndices (some 1) none 2 6 = [1, 3, 5] := by decide +kernel
    unfold cut3
    show (Builtin.Str.strSliceIndices (some 1) none 2 6).filterMap _ = _
    rw [h]
    rfl
  | _ :: _ :: _ :: _ :: _ :: _ :: _ :: _, h => by simp at h
theorem cut3_rev : ∀ l : List Nat, l.length ≤ 6 → cut3 l none none (-1) = l.reverse
  | [], _ => by
    have h : Builtin.Str.strSliceIndices none none (-1) 0 = [] := by decide +kernel
    unfold cut3
    show (Builtin.Str.strSliceIndices none none (-1) 0).filterMap _ = _
    rw [h]
    rfl
  | [a], _ => by
    have h : Builtin.Str.strSliceIndices none none (-1) 1 = [0] := by decide +kernel
    unfold cut3
    show (Builtin.Str.strSliceIndices none none (-1) 1).filterMap _ = _
    rw [h]
    rfl
  | [a, b], _ => by
    have h : Builtin.Str.strSliceIndices none none (-1) 2 = [1, 0] := by decide +kernel
    unfold cut3
    show (Builtin.Str.strSliceIndices none none (-1) 2).filterMap _ = _
    rw [h]
    rfl
  | [a, b, c], _ => by
    have h : Builtin.Str.strSliceIndices none none (-1) 3 = [2, 1, 0] := by decide +kernel
    unfold cut3
    show (Builtin.Str.strSliceIndices none none (-1) 3).filterMap _ = _
    rw [h]
    rfl
  | [a, b, c, d], _ => by
    have h : Builtin.Str.strSliceIndices none none (-1) 4 = [3, 2, 1, 0] := by decide +kernel
    unfold cut3
    show (Builtin.Str.strSliceIndices none none (-1) 4).filterMap _ = _
    rw [h]
    rfl
  | [a, b, c, d, e], _ => by
    have h : Builtin.Str.strSliceIndices none none (-1) 5 = [4, 3, 2, 1, 0] := by decide +kernel
    unfold cut3
    show (Builtin.Str.strSliceIndices none none (-1) 5).filterMap _ = _
    rw [h]
    rfl
  | [a, b, c, d, e, f], _ => by
    have h : Builtin.Str.strSliceIndices none none (-1) 6 = [5, 4, 3, 2, 1, 0] := by decide +kernel
    unfold cut3
    show (Builtin.Str.strSliceIndices none none (-1) 6).filterMap _ = _
    rw [h]
    rfl
  | _ :: _ :: _ :: _ :: _ :: _ :: _ :: _, h => by simp at h
theorem evens_len : ∀ l : List Nat, (evens l).length ≤ l.length
  | [] => Nat.le_refl _
  | [_] => Nat.le_refl _
  | _ :: _ :: r => by
    have := evens_len r
    show (evens r).length + 1 ≤ r.length + 1 + 1
    omega
theorem odds_len : ∀ l : List Nat, (odds l).length ≤ l.length
  | [] => Nat.le_refl _
  | [_] => Nat.zero_le _
  | _ :: _ :: r => by
    have := odds_len r
    show (odds r).length + 1 ≤ r.length + 1 + 1
    omega
theorem isFm_wid {f : Fm} (h : isFm f = true) : 1 ≤ wid f ∧ wid f ≤ 6 ∧ ∀ l ∈ f, l.length = wid f := by
  obtain ⟨h1, h2, h3, h4, h5, _⟩ := isFm_len h
  cases f with
  | nil => simp at h1
  | cons a r =>
    have z : a.length ≤ (a :: r).flatten.length := mem_flat List.mem_cons_self
    refine ⟨?_, by show a.length ≤ 6; omega, h3⟩
    show 1 ≤ a.length
    rcases Nat.eq_zero_or_pos a.length with q | q
    · exfalso
      have e : (a :: r).flatten.length = 0 := by
        rw [← flat_len]
        have : ∀ l ∈ a :: r, l.length = 0 := fun l hl => (h3 l hl).trans q
        exact sum_zero _ this
      omega
    · exact q
where
  sum_zero (g : Fm) (h : ∀ l ∈ g, l.length = 0) : (g.map List.length).sum = 0 := by
    induction g with
    | nil => rfl
    | cons l r ih =>
      rw [List.map_cons, List.sum_cons, h l List.mem_cons_self, ih fun l hl => h l (List.mem_cons_of_mem _ hl)]
section
variable {P : Program} {w : World} {K : PySem.W.Frag} {mg : Str → Option Value} {base : Heap}
/-! ### file_of -/
def C_file : List Dat → Res → Prop := fun as r => ∃ (f : Fm) (n : Nat), as = [F_ f, .int n] ∧ isFm f = true ∧ n < wid f ∧ r = .ok (.str (fileOf f n))
abbrev N_file : List Str := ["formation", "number", "rank"]
theorem sc_file_of : FnScope N_file ["formation", "number"] (defScope s_file_of) := ⟨rfl, rfl, rfl, by decide +kernel, rfl, by decide +kernel, by decide +kernel⟩
theorem fileOf_getD {n : Nat} : ∀ f : Fm, (∀ l ∈ f, n < l.length) → (f.map fun l => [l.getD n 0]).flatten = fileOf f n
  | [], _ => rfl
  | l :: r, h => by
    have hn := h l List.mem_cons_self
    have ih := fileOf_getD r fun l hl => h l (List.mem_cons_of_mem _ hl)
    unfold fileOf at ih ⊢
    rw [List.map_cons, List.flatten_cons, List.filterMap_cons, List.getElem?_eq_getElem hn, ih]
    show [l.getD n 0] ++ _ = l[n] :: _
    rw [List.getD_eq_getElem?_getD, List.getElem?_eq_getElem hn]
    rfl
theorem c_file_of (B : Bi mg) (h : At K mg "file_of" s_file_of) : FnC P w K mg base "file_of" ["formation", "number"] C_file 1 := by
  refine h.c1 (fun _ _ _ _ _ _ us hl => match us, hl with | [_, _], _ => rfl) fun f fd F => fnC_ok F sc_file_of (fun as r ⟨d, n, e, _⟩ => by rw [e]; rfl) fun cdv A outer s H E as r W hM hr ⟨g, n, e, hg, hn, er⟩ => ?_
  subst e er
  have nd := sc_file_of.nd
  obtain ⟨_, h6, hw⟩ := isFm_wid hg
  obtain ⟨_, h6', _⟩ := isFm_len hg
  refine ss_one (s_ret (d_join (S := []) (ls := g.map fun l => [l.getD n 0]) (d_str rfl) ((d_lc0 (own := [("rank", 2)]) (is := [2]) (pr := fun _ => True) (bd := bd1 2) (f := fun x => match x with | .str l => .str [l.getD n 0] | _ => .non) rfl nd (i_tup (dv 0 rfl)) (blkOk_by (N := N_file) (sc := defScope s_file_of) (by decide +kernel)) (fun _ _ _ _ _ => gt_name nd)
    (fun x hx _ _ _ _ _ => ?_) (fun _ _ => True.intro) (by simp) (by rw [List.length_map]; omega)).is (by rw [List.map_map])) (.inr (by rw [List.map_map]; rfl)) ?_) ?_)
  · obtain ⟨l, hl, rfl⟩ := List.mem_map.mp hx
    have z := hw l hl
    refine d_ixS (dv 2 rfl) (dv 1 rfl) (by omega) (atI_nat ?_)
    rw [List.getD_eq_getElem?_getD, List.getElem?_eq_getElem (show n < l.length by omega)]
    rfl
  · rw [flat_len, List.length_map]
    have e : ((g.map fun l => [l.getD n 0]).flatten).length ≤ 6 := by
      rw [fileOf_getD g fun l hl => by rw [hw l hl]; exact hn]
      exact Nat.le_trans (List.length_filterMap_le _ _) h6'
    show _ + g.length * 0 ≤ _
    omega
  · show some (Res.ok (.str _)) = _
    rw [joinL_nil, fileOf_getD g fun l hl => by rw [hw l hl]; exact hn]
/-! ### singled -/
def C_sgl : List Dat → Res → Prop := fun as r => ∃ f : Fm, as = [F_ f] ∧ isFm f = true ∧ r = .ok (F_ (sglF f))
abbrev N_sgl : List Str := ["formation", "found", "rank"]
theorem sc_singled : FnScope N_sgl ["formation"] (defScope s_singled) := ⟨rfl, rfl, rfl, by decide +kernel, rfl, by decide +kernel, by decide +kernel⟩
theorem sglF_snoc : ∀ (g : Fm) (l : List Nat), sglF (g ++ [l]) = sglF g ++ [evens l, odds l]
  | [], _ => rfl
  | a :: r, l => by
    show evens a :: odds a :: sglF (r ++ [l]) = evens a :: odds a :: (sglF r ++ [evens l, odds l])
    rw [sglF_snoc r l]
theorem sglF_len : ∀ g : Fm, (sglF g).length = 2 * g.length
  | [] => rfl
  | a :: r => by
    show (sglF r).length + 1 + 1 = 2 * (r.length + 1)
    rw [sglF_len r]
    omega
theorem c_singled (B : Bi mg) (h : At K mg "singled" s_singled) : FnC P w K mg base "singled" ["formation"] C_sgl 1 := by
  refine h.c1 (fun _ _ _ _ _ _ us hl => match us, hl with | [_], _ => rfl) fun f fd F => fnC_ok F sc_singled (fun as r ⟨d, e, _⟩ => by rw [e]; rfl) fun cdv A outer s H E as r W hM hr ⟨g, e, hg, er⟩ => ?_
  subst e er
  have nd := sc_singled.nd
  obtain ⟨_, h6, hw⟩ := isFm_wid hg
  obtain ⟨_, h6', _⟩ := isFm_len hg
  refine ss_cons (s_set 1 nd (d_lst da_nil (by simp)) ?_)
  refine ss_cons (s_forW (fun i => [.dt (F_ g), .dt (.lst ((sglF (g.take i)).map Dat.str)), .un]) po_cx (i_tup (dv 0 rfl)) (gt_name nd) (fun x ρ ρ' h => h.set 2 _) (fun _ _ => True.intro) ⟨.inr rfl, .inr rfl, .inr rfl, True.intro⟩ (fun fr i x hx => ?_) (fun ρ' hρ => ?_))
  · rw [List.getElem?_map] at hx
    obtain ⟨l, hl, rfl⟩ := Option.map_eq_some_iff.mp hx
    have hm := hw l (List.mem_of_getElem? hl)
    have e1 := cut3_even l (by omega)
    have e2 := cut3_odd l (by omega)
    refine ss_one (s_set 1 nd (d_addL (dv 1 rfl) (d_lst (da_cons (d_step (dv 2 rfl) do_none do_none d_int (by decide) (by decide) (by rw [e1]; have := evens_len l; omega)) (da_one (d_step (dv 2 rfl) (do_some d_int) do_none d_int (by decide) (by decide) (by rw [e2]; have := odds_len l; omega)))) (by simp)) ?_) ?_)
    · rw [List.length_map, sglF_len]
      have : (g.take i).length ≤ g.length := List.length_take_le' _ _
      simp
      omega
    · refine ⟨.inr rfl, .inr ?_, .inl rfl, True.intro⟩
      show Sl.dt (.lst _) = Sl.dt (.lst _)
      rw [e1, e2, List.take_add_one, hl, show (some l).toList = [l] from rfl, sglF_snoc, List.map_append]
      rfl
  · refine SS.weak ?_ hρ
    rw [List.length_map, List.take_length]
    exact ss_one (s_ret (d_tupleL B.tuple (dv 1 rfl)) rfl)
/-! ### doubled -/
def C_dbl : List Dat → Res → Prop := fun as r => ∃ f : Fm, as = [F_ f] ∧ isFm f = true ∧ f.length % 2 = 0 ∧ r = .ok (F_ (dblF f))
abbrev N_dbl : List Str := ["formation", "found", "number", "made", "place", "sign"]
theorem sc_doubled : FnScope N_dbl ["formation"] (defScope s_doubled) := ⟨rfl, rfl, rfl, by decide +kernel, rfl, by decide +kernel, by decide +kernel⟩
theorem dblF_get : ∀ (g : Fm) (i : Nat) (a b : List Nat), g[2 * i]? = some a → g[2 * i + 1]? = some b → (dblF g)[i]? = some (inter a b)
  | [], i, a, b, h, _ => by simp at h
  | [x], i, a, b, _, h => by simp at h
  | x :: y :: r, 0, a, b, h1, h2 => by
    have h1 : x = a := Option.some.inj h1
    have h2 : y = b := Option.some.inj h2
    subst h1 h2
    rfl
  | x :: y :: r, i + 1, a, b, h1, h2 => by
    have e1 : 2 * (i + 1) = 2 * i + 1 + 1 := by omega
    rw [e1] at h1 h2
    exact dblF_get r i a b h1 h2
theorem dblF_len : ∀ g : Fm, (dblF g).length = g.length / 2
  | [] => rfl
  | [_] => by
    show 0 = 1 / 2
    decide
  | x :: y :: r => by
    show (dblF r).length + 1 = (r.length + 1 + 1) / 2
    rw [dblF_len r]
    omega
theorem inter_take : ∀ (a b : List Nat) (j : Nat) (c d : Nat), a[j]? = some c → b[j]? = some d → (inter a b).take (2 * (j + 1)) = (inter a b).take (2 * j) ++ [c] ++ [d]
  | [], _, j, c, d, h, _ => by simp at h
  | _ :: _, [], j, c, d, _, h => by simp at h
  | x :: a, y :: b, 0, c, d, h1, h2 => by
    have h1 : x = c := Option.some.inj h1
    have h2 : y = d := Option.some.inj h2
    subst h1 h2
    rfl
  | x :: a, y :: b, j + 1, c, d, h1, h2 => by
    have ih := inter_take a b j c d h1 h2
    have e1 : 2 * (j + 1 + 1) = 2 * (j + 1) + 1 + 1 := by omega
    have e2 : 2 * (j + 1) = 2 * j + 1 + 1 := by omega
    rw [e1]
    show x :: y :: (inter a b).take (2 * (j + 1)) = (x :: y :: inter a b).take (2 * (j + 1)) ++ [c] ++ [d]
    rw [ih, e2]
    rfl
theorem inter_len : ∀ (a b : List Nat), a.length = b.length → (inter a b).length = 2 * a.length
  | [], [], _ => rfl
  | x :: a, y :: b, h => by
    show (inter a b).length + 1 + 1 = 2 * (a.length + 1)
    rw [inter_len a b (by simpa using h)]
    omega
theorem c_doubled (B : Bi mg) (h : At K mg "doubled" s_doubled) : FnC P w K mg base "doubled" ["formation"] C_dbl 1 := by
  refine h.c1 (fun _ _ _ _ _ _ us hl => match us, hl with | [_], _ => rfl) fun f fd F => fnC_ok F sc_doubled (fun as r ⟨d, e, _⟩ => by rw [e]; rfl) fun cdv A outer s H E as r W hM hr ⟨g, e, hg, he, er⟩ => ?_
  subst e er
  have nd := sc_doubled.nd
  obtain ⟨_, h6, hw⟩ := isFm_wid hg
  obtain ⟨h1, h6', _⟩ := isFm_len hg
  refine ss_cons (s_newml 1 nd fun a ha => ?_)
  have hR : RgC 0 ((g.map Dat.str).length : Nat) 2 (g.length / 2) := by
    rw [List.length_map]
    have : g.length = 2 ∨ g.length = 4 ∨ g.length = 6 := by omega
    rcases this with q | q | q <;> rw [q] <;> exact ⟨by decide, by decide, by decide, by decide⟩
  refine ss_cons (s_forW (fun i => [.dt (F_ g), .ml a (((dblF g).take i).map Dat.str), .un, .un, .un, .un]) po_cx (i_range3 B.range d_int (d_lenT B.len (dv 0 rfl)) d_int hR (h3 := fun h => pi_range3 (by rfl) B.range h)) (gt_name nd) (fun x ρ ρ' h => h.set 2 _) (fun _ _ => True.intro)
    ⟨.inr rfl, .inr rfl, .inr rfl, .inr rfl, .inr rfl, .inr rfl, True.intro⟩ (fun fr i x hx => ?_) (fun ρ' hρ => ?_))
  · rw [List.getElem?_map] at hx
    obtain ⟨i', hi', rfl⟩ := Option.map_eq_some_iff.mp hx
    have hlt : i < g.length / 2 := by
      have z := (List.getElem?_eq_some_iff.mp hi').1
      rw [List.length_range] at z
      exact z
    have : i' = i := by
      rw [List.getElem?_range hlt] at hi'
      exact (Option.some.inj hi').symm
    subst this
    have e0 : (0 : Int) + (i' : Nat) * 2 = ((2 * i' : Nat) : Int) := by omega
    rw [e0]
    have l1 : 2 * i' < g.length := by omega
    have l2 : 2 * i' + 1 < g.length := by omega
    have g1 : g[2 * i']? = some g[2 * i'] := List.getElem?_eq_getElem l1
    have g2 : g[2 * i' + 1]? = some g[2 * i' + 1] := List.getElem?_eq_getElem l2
    have w1 := hw _ (List.mem_of_getElem? g1)
    have w2 := hw _ (List.mem_of_getElem? g2)
    generalize g[2 * i'] = ra at g1 w1
    generalize g[2 * i' + 1] = rb at g2 w2
    refine ss_cons (s_set 3 nd (d_str (l := []) rfl) ?_)
    refine ss_cons (s_forW (fun j => [.dt (F_ g), .ml a (((dblF g).take i').map Dat.str), .dt (.int ((2 * i' : Nat) : Int)), .dt (.str ((inter ra rb).take (2 * j))), .un, .un]) po_cx
      (i_enumS (l := ra) B.enumerate (d_ixT (dv 0 rfl) (dv 2 rfl) (atI_nat (by rw [List.getElem?_map, g1]; rfl)))) (gt_pair (i := 4) (j := 5) rfl nd (fun h => pg_tup rfl h) (pgs_cons (pg_name (i := 4) nd rfl (.inl rfl)) (pgs_cons (pg_name (i := 5) nd rfl (.inl rfl)) pgs_nil))) (fun x ρ ρ' h => h.bd2 4 5 x) enumD_pair
      ⟨.inr rfl, .inr rfl, .inr rfl, .inr rfl, .inr rfl, .inr rfl, True.intro⟩ (fun fr j x hx => ?_) (fun ρ' hρ => ?_))
    · have hj : j < ra.length := by
        have z := (List.getElem?_eq_some_iff.mp hx).1
        rw [enumD_len, List.length_map] at z
        exact z
      have hc : ra[j]? = some ra[j] := List.getElem?_eq_getElem hj
      have hd : rb[j]? = some (rb[j]'(by omega)) := List.getElem?_eq_getElem (by omega)
      rw [enumD_get (d := .str [ra[j]]) (by rw [List.getElem?_map, hc]; rfl)] at hx
      have hx := Option.some.inj hx
      subst hx
      have hlen : (inter ra rb).length = 2 * ra.length := inter_len ra rb (by omega)
      have htk : ((inter ra rb).take (2 * j)).length ≤ 12 := by
        rw [List.length_take]
        omega
      refine ss_one (s_set 3 nd (d_addS (d_addS (dv 3 rfl) (dv 5 rfl) (by simp; omega)) (d_ixS (l := rb) (d_ixT (dv 0 rfl) (d_add (dv 2 rfl) d_int) ?_) (dv 4 rfl) (by omega) (atI_nat hd)) (by simp; omega)) ?_)
      · have e1 : (((2 * i' : Nat) : Int) + 1) = ((2 * i' + 1 : Nat) : Int) := by omega
        rw [e1]
        exact atI_nat (by rw [List.getElem?_map, g2]; rfl)
      · refine ⟨.inr rfl, .inr rfl, .inr rfl, .inr ?_, .inl rfl, .inl rfl, True.intro⟩
        show Sl.dt (.str _) = Sl.dt (.str _)
        rw [inter_take ra rb j _ _ hc hd]
    · refine SS.weak ?_ hρ
      rw [enumD_len, List.length_map]
      have hfull : (inter ra rb).take (2 * ra.length) = inter ra rb := List.take_of_length_le (by rw [inter_len ra rb (by omega)]; exact Nat.le_refl _)
      rw [hfull]
      refine ss_one (s_append 1 ha (dv 3 rfl) rfl ?_ ?_ (pv 1) fun a b => ps_expr (pe_bm PySem.F.plainAttrs_list PySem.F.slot_list_append PySem.F.type_list_append mt_append a (pa_cons b pa_nil)))
      · rw [List.length_map, List.length_take]
        omega
      · refine ⟨.inr rfl, .inr ?_, .inl rfl, .inl rfl, .inl rfl, .inl rfl, True.intro⟩
        show Sl.ml a _ = Sl.ml a _
        rw [List.take_add_one, dblF_get g i' ra rb g1 g2, List.map_append]
        rfl
  · refine SS.weak ?_ hρ
    rw [List.length_map, List.length_range, ← dblF_len, List.take_length]
    exact SS.freeze (i := 1) rfl (ha.b0 (hM a)) ha.2 (ss_one (s_ret (d_tupleL B.tuple (dv 1 rfl)) rfl))
end
end G

set_option Elab.async false
set_option linter.all false
set_option maxRecDepth 100000
set_option maxHeartbeats 4000000
namespace G
open PySem PySem.Spec PyProof.Rows L2 TL
def optF : Option Fm → Dat
  | none => .non
  | some g => F_ g
theorem F_isN (f : Fm) : (F_ f).isN = false := rfl
theorem F_eq (f g : Fm) : Dat.eq (F_ f) (F_ g) = decide (f = g) := by
  show Dat.eqA (f.map Dat.str) (g.map Dat.str) = _
  induction f generalizing g with
  | nil =>
    cases g with
    | nil => rfl
    | cons b m => rfl
  | cons a l ih =>
    cases g with
    | nil => rfl
    | cons b m =>
      show (decide (a = b) && Dat.eqA (l.map Dat.str) (m.map Dat.str)) = _
      rw [ih m]
      by_cases h1 : a = b <;> by_cases h2 : l = m <;> simp [h1, h2]
theorem okn_c {o : Nat} (h : Nat.blt o 1114112 = true) : okn 9 (.str [o]) = true := by
  show ([o].all fun c => Nat.blt c 1114112) = true
  rw [List.all_cons, h]
  rfl
theorem wid_h (f : Fm) : (f.headD []).length = wid f := rfl
theorem rev_map_str (f : Fm) : (f.map Dat.str).reverse = f.reverse.map Dat.str := by rw [List.map_reverse]
theorem d_neg {X : Cx} {E : XK} {ρ : List Sl} {a : Expr} {i : Int} {pos : Pos} (h : D X E a ρ (.ok (.int i))) : D X E (.UnaryOp .USub a pos) ρ (.ok (.int (-i))) :=
  d_un un_neg (fun B H vx Q c r q => ⟨i, rp_int r, q _ H (Same.refl H) (.int _)⟩) h
theorem cut_1n {α : Type} (l : List α) : cutN l (some 1) none = l.drop 1 := by
  unfold cutN
  have e : HT.sIx l.length 0 (some ((1 : Nat) : Int)) = min 1 l.length := HT.sIx_nat ..
  rw [show (1 : Int) = ((1 : Nat) : Int) from rfl, e, HT.sIx_none]
  cases l with
  | nil => rfl
  | cons a r =>
    have e2 : min 1 (a :: r).length = 1 := by simp
    rw [e2]
    exact List.take_of_length_le (by rw [List.length_drop]; exact Nat.le_refl _)
theorem cut_n1 {α : Type} (l : List α) : cutN l none (some 1) = l.take 1 := by
  unfold cutN
  have e : HT.sIx l.length l.length (some ((1 : Nat) : Int)) = min 1 l.length := HT.sIx_nat ..
  rw [show (1 : Int) = ((1 : Nat) : Int) from rfl, e, HT.sIx_none, List.drop_zero, Nat.sub_zero]
  cases l with
  | nil => rfl
  | cons a r =>
    have e2 : min 1 (a :: r).length = 1 := by simp
    rw [e2]
section
variable {P : Program} {w : World} {K : PySem.W.Frag} {mg : Str → Option Value} {base : Heap} {IF IO IM : Addr}
/-! ### shape -/
def C_shape (IF : Addr) : List Dat → Res → Prop := fun as r => (∃ d, as = [d] ∧ okV d ∧ isForm d = false ∧ r = .err (.ref IF)) ∨ ∃ f : Fm, as = [F_ f] ∧ isFm f = true ∧ r = .ok (sh f)
def C_moved : List Dat → Res → Prop := fun as r => ∃ (f : Fm) (o : Nat), as = [F_ f, .str [o]] ∧ isFm f = true ∧ Nat.blt o 1114112 = true ∧ r = .ok (optF (mvF f o))
abbrev N_mvd : List Str := ["formation", "order", "ranks", "files", "number", "rank"]
theorem sc_moved : FnScope N_mvd ["formation", "order"] (defScope s_moved) := ⟨rfl, rfl, rfl, by decide +kernel, rfl, by decide +kernel, by decide +kernel⟩
theorem eq_c (o k : Nat) : Dat.eq (.str [o]) (.str [k]) = decide (o = k) := by
  show decide ([o] = [k]) = decide (o = k)
  by_cases h : o = k <;> simp [h]
theorem c_moved (B : Bi mg) (G1 : FnC P w K mg base "shape_of" ["formation"] C_shapeof 1) (G2 : FnC P w K mg base "file_of" ["formation", "number"] C_file 1) (G3 : FnC P w K mg base "doubled" ["formation"] C_dbl 1) (G4 : FnC P w K mg base "singled" ["formation"] C_sgl 1)
    (h : At K mg "moved" s_moved) : FnC P w K mg base "moved" ["formation", "order"] C_moved 2 := by
  refine h.c1 (fun _ _ _ _ _ _ us hl => match us, hl with | [_, _], _ => rfl) fun f fd F => fnC_ok F sc_moved (fun as r ⟨d, n, e, _⟩ => by rw [e]; rfl) fun cdv A outer s H E as r W hM hr ⟨g, o, e, hg, ho, er⟩ => ?_
  subst e er
  have nd := sc_moved.nd
  obtain ⟨hw1, hw6, hw⟩ := isFm_wid hg
  obtain ⟨h1, h6, _⟩ := isFm_len hg
  refine ss_cons (s_asg2 (i := 2) (j := 3) (gt_pair rfl nd (fun h => pg_tup rfl h) (pgs_cons (pg_name (i := 2) nd rfl (.inl rfl)) (pgs_cons (pg_name (i := 3) nd rfl (.inl rfl)) pgs_nil)))
    (d_call G1 (hr.mono (by decide)) pa_cx (da_one (dv 0 rfl)) ⟨g, rfl, h1, by rw [wid_h]; omega, rfl⟩) ?_ ?_)
  · -- R
    refine ss_cons (s_if (T.is (t_eq hr.units (dv 1 rfl) (d_str (l := [82]) rfl) (okn_c ho) (by decide)) (eq_c o 82)) (fun hb => ?_) (fun hb => ss_nil ?_))
    · have hb := of_decide_eq_true hb
      subst hb
      refine ss_one (s_ret (d_tupleL B.tuple ((d_lc0 (own := [("number", 4)]) (is := [4]) (pr := fun _ => True) (bd := bd1 4) (f := fun x => match x with | .int i => .str (fileOf g i.toNat) | _ => .non) rfl nd (i_revR B.reversed B.range (dv 3 rfl) ⟨by omega, by rw [wid_h]; omega⟩) (blkOk_by (N := N_mvd) (sc := defScope s_moved) (by decide +kernel)) (fun _ _ _ _ _ => gt_name nd)
        (fun x hx _ _ _ _ _ => ?_) (fun _ _ => True.intro) (by simp) (by rw [List.length_map, List.length_range, wid_h]; omega)).is (by rw [List.map_map])) ) ?_)
      · obtain ⟨k, hk, rfl⟩ := List.mem_map.mp hx
        have hk := List.mem_range.mp hk
        rw [wid_h] at hk ⊢
        have e : ((wid g : Nat) : Int) - 1 - (k : Nat) = ((wid g - 1 - k : Nat) : Int) := by omega
        rw [e]
        exact d_call G2 (hr.mono (by decide)) passN (da_cons (dv 0 rfl) (da_one (dv 4 rfl))) ⟨g, _, rfl, hg, by omega, rfl⟩
      · show some (Res.ok (.tup _)) = some (Res.ok (F_ _))
        congr 3
        rw [List.map_map, wid_h, Int.toNat_natCast]
        refine List.map_congr_left fun k hk => ?_
        have hk := List.mem_range.mp hk
        show Dat.str (fileOf g (((wid g : Nat) : Int) - 1 - (k : Nat)).toNat) = Dat.str (fileOf g (wid g - 1 - k))
        congr 2
        omega
    have n1 := of_decide_eq_false hb
    -- L
    refine ss_cons (s_if (T.is (t_eq hr.units (dv 1 rfl) (d_str (l := [76]) rfl) (okn_c ho) (by decide)) (eq_c o 76)) (fun hb => ?_) (fun hb => ss_nil ?_))
    · have hb := of_decide_eq_true hb
      subst hb
      have er : ∀ k, cut3 (fileOf g k) none none (-1) = (fileOf g k).reverse := fun k => cut3_rev _ (Nat.le_trans (List.length_filterMap_le _ _) h6)
      refine ss_one (s_ret (d_tupleL B.tuple ((d_lc0 (own := [("number", 4)]) (is := [4]) (pr := fun _ => True) (bd := bd1 4) (f := fun x => match x with | .int i => .str (fileOf g i.toNat).reverse | _ => .non) rfl nd (i_range1 B.range (dv 3 rfl) ⟨by omega, by rw [wid_h]; omega⟩) (blkOk_by (N := N_mvd) (sc := defScope s_moved) (by decide +kernel)) (fun _ _ _ _ _ => gt_name nd) (fun x hx _ _ _ _ _ => ?_) (fun _ _ => True.intro) (by simp) (by unfold rangeD; rw [List.length_map, List.length_range, wid_h]; omega)).is (by unfold rangeD; rw [List.map_map]))) ?_)
      · obtain ⟨k, hk, rfl⟩ := List.mem_map.mp hx
        have hk := List.mem_range.mp hk
        rw [wid_h] at hk ⊢
        have e : (0 : Int) + (k : Nat) = ((k : Nat) : Int) := by omega
        rw [e]
        show D _ _ _ _ (.ok (.str (fileOf g k).reverse))
        rw [← er]
        exact d_step (d_call G2 (hr.mono (by decide)) passN (da_cons (dv 0 rfl) (da_one (dv 4 rfl))) ⟨g, k, rfl, hg, by omega, rfl⟩) do_none do_none (d_neg d_int) (by decide) (by decide) (by rw [er, List.length_reverse]; exact Nat.le_trans (List.length_filterMap_le _ _) (by omega))
      · show some (Res.ok (.tup _)) = some (Res.ok (F_ _))
        congr 3
        rw [List.map_map, wid_h, Int.sub_zero, Int.toNat_natCast]
        refine List.map_congr_left fun k hk => ?_
        show Dat.str (fileOf g ((0 : Int) + (k : Nat)).toNat).reverse = Dat.str (fileOf g k).reverse
        congr 3
        omega
    have n2 := of_decide_eq_false hb
    have er : ∀ l ∈ g, cut3 l none none (-1) = l.reverse := fun l hl => cut3_rev _ (by rw [hw l hl]; exact hw6)
    -- A
    refine ss_cons (s_if (T.is (t_eq hr.units (dv 1 rfl) (d_str (l := [65]) rfl) (okn_c ho) (by decide)) (eq_c o 65)) (fun hb => ?_) (fun hb => ss_nil ?_))
    · have hb := of_decide_eq_true hb
      subst hb
      refine ss_one (s_ret (d_tupleL B.tuple ((d_lc0 (own := [("rank", 5)]) (is := [5]) (pr := fun _ => True) (bd := bd1 5) (f := fun x => match x with | .str l => .str l.reverse | _ => .non) rfl nd ((i_revT B.reversed (dv 0 rfl))) (blkOk_by (N := N_mvd) (sc := defScope s_moved) (by decide +kernel)) (fun _ _ _ _ _ => gt_name nd) (fun x hx _ _ _ _ _ => ?_) (fun _ _ => True.intro) (by simp) (by rw [List.length_reverse, List.length_map]; omega)).is (by rw [rev_map_str, List.map_map]))) ?_)
      · obtain ⟨l, hl, rfl⟩ := List.mem_map.mp (List.mem_reverse.mp hx)
        show D _ _ _ _ (.ok (.str l.reverse))
        rw [← er l hl]
        exact d_step (dv 5 rfl) do_none do_none (d_neg d_int) (by decide) (by decide) (by rw [er l hl, List.length_reverse, hw l hl]; omega)
      · show some (Res.ok (.tup _)) = some (Res.ok (F_ _))
        congr 3
        rw [List.map_map]
        rfl
    have n3 := of_decide_eq_false hb
    -- D
    refine ss_cons (s_if (T.is (t_eq hr.units (dv 1 rfl) (d_str (l := [68]) rfl) (okn_c ho) (by decide)) (eq_c o 68)) (fun hb => ?_) (fun hb => ss_nil ?_))
    · have hb := of_decide_eq_true hb
      subst hb
      refine ss_one (s_ret (d_if (x := decide (g.length % 2 = 0)) (T.is (t_eq hr.units (d_mod (by decide) (dv 2 rfl) d_int) d_int rfl rfl) ?_) (fun hd => d_call (r := .ok (optF (mvF g 68))) G3 (hr.mono (by decide)) pa_cx (da_one (dv 0 rfl)) ⟨g, rfl, hg, of_decide_eq_true hd, ?_⟩) (fun hd => d_non.is ?_)) rfl)
      · show decide (((g.length : Nat) : Int) % 2 = 0) = decide (g.length % 2 = 0)
        exact decide_eq_decide.mpr (by omega)
      · show Res.ok (optF (if g.length % 2 = 0 then some (dblF g) else none)) = _
        rw [if_pos (of_decide_eq_true hd)]
        rfl
      · show _ = (optF (if g.length % 2 = 0 then some (dblF g) else none))
        rw [if_neg (of_decide_eq_false hd)]
        rfl
    have n4 := of_decide_eq_false hb
    -- S
    refine ss_cons (s_if (T.is (t_eq hr.units (dv 1 rfl) (d_str (l := [83]) rfl) (okn_c ho) (by decide)) (eq_c o 83)) (fun hb => ?_) (fun hb => ss_nil ?_))
    · have hb := of_decide_eq_true hb
      subst hb
      refine ss_one (s_ret (d_if (x := decide (wid g % 2 = 0)) (T.is (t_eq hr.units (d_mod (by decide) (dv 3 rfl) d_int) d_int rfl rfl) ?_) (fun hd => d_call (r := .ok (optF (mvF g 83))) G4 (hr.mono (by decide)) pa_cx (da_one (dv 0 rfl)) ⟨g, rfl, hg, ?_⟩) (fun hd => d_non.is ?_)) rfl)
      · show decide (((wid g : Nat) : Int) % 2 = 0) = decide (wid g % 2 = 0)
        exact decide_eq_decide.mpr (by omega)
      · show Res.ok (optF (if wid g % 2 = 0 then some (sglF g) else none)) = _
        rw [if_pos (of_decide_eq_true hd)]
        rfl
      · show _ = (optF (if wid g % 2 = 0 then some (sglF g) else none))
        rw [if_neg (of_decide_eq_false hd)]
        rfl
    have n5 := of_decide_eq_false hb
    -- C
    refine ss_cons (s_if (T.is (t_eq hr.units (dv 1 rfl) (d_str (l := [67]) rfl) (okn_c ho) (by decide)) (eq_c o 67)) (fun hb => ?_) (fun hb => ss_nil ?_))
    · have hb := of_decide_eq_true hb
      subst hb
      refine ss_one (s_ret (d_addT (d_slT (dv 0 rfl) (do_some d_int) do_none) (d_slT (dv 0 rfl) do_none (do_some d_int)) ?_) ?_)
      · rw [cut_1n, cut_n1, List.length_drop, List.length_take, List.length_map]
        omega
      · show some (Res.ok (.tup _)) = some (Res.ok (F_ (g.drop 1 ++ g.take 1)))
        rw [cut_1n, cut_n1]
        show _ = some (Res.ok (Dat.tup ((g.drop 1 ++ g.take 1).map Dat.str)))
        rw [List.map_append, List.map_drop, List.map_take]
    have n6 := of_decide_eq_false hb
    -- X
    refine ss_cons (s_if (T.is (t_eq hr.units (dv 1 rfl) (d_str (l := [88]) rfl) (okn_c ho) (by decide)) (eq_c o 88)) (fun hb => ?_) (fun hb => ss_nil ?_))
    · have hb := of_decide_eq_true hb
      subst hb
      refine ss_one (s_ret (d_tupleL B.tuple ((d_lc0 (own := [("rank", 5)]) (is := [5]) (pr := fun _ => True) (bd := bd1 5) (f := fun x => match x with | .str l => .str (l.drop 1 ++ l.take 1) | _ => .non) rfl nd ((i_tup (dv 0 rfl))) (blkOk_by (N := N_mvd) (sc := defScope s_moved) (by decide +kernel)) (fun _ _ _ _ _ => gt_name nd) (fun x hx _ _ _ _ _ => ?_) (fun _ _ => True.intro) (by simp) (by rw [List.length_map]; omega)).is (by rw [List.map_map]))) ?_)
      · obtain ⟨l, hl, rfl⟩ := List.mem_map.mp hx
        have z := hw l hl
        refine (d_addS (d_slS (dv 5 rfl) (do_some d_int) do_none (by omega)) (d_slS (dv 5 rfl) do_none (do_some d_int) (by omega)) ?_).is ?_
        · rw [cut_1n, cut_n1, List.length_drop, List.length_take]
          omega
        · rw [cut_1n, cut_n1]
      · show some (Res.ok (.tup _)) = some (Res.ok (F_ _))
        congr 3
        rw [List.map_map]
        rfl
    have n7 := of_decide_eq_false hb
    have em : mvF g o = some (g.map List.reverse) := by
      unfold mvF
      rw [if_neg n1, if_neg n2, if_neg n3, if_neg n4, if_neg n5, if_neg n6, if_neg n7]
    rw [em]
    refine ss_one (s_ret (d_tupleL B.tuple ((d_lc0 (own := [("rank", 5)]) (is := [5]) (pr := fun _ => True) (bd := bd1 5) (f := fun x => match x with | .str l => .str l.reverse | _ => .non) rfl nd ((i_tup (dv 0 rfl))) (blkOk_by (N := N_mvd) (sc := defScope s_moved) (by decide +kernel)) (fun _ _ _ _ _ => gt_name nd) (fun x hx _ _ _ _ _ => ?_) (fun _ _ => True.intro) (by simp) (by rw [List.length_map]; omega)).is (by rw [List.map_map]))) ?_)
    · obtain ⟨l, hl, rfl⟩ := List.mem_map.mp hx
      show D _ _ _ _ (.ok (.str l.reverse))
      rw [← er l hl]
      exact d_step (dv 5 rfl) do_none do_none (d_neg d_int) (by decide) (by decide) (by rw [er l hl, List.length_reverse, hw l hl]; omega)
    · show some (Res.ok (.tup _)) = some (Res.ok (F_ _))
      congr 3
      rw [List.map_map]
      rfl
  · exact fun a b => ps_asg a b
end
end G

set_option Elab.async false
set_option linter.all false
set_option maxRecDepth 100000
namespace G
/-! every formation is a relabelling of the plain one of its shape -/
def idF (r c : Nat) : Fm := (List.range r).map fun i => (List.range c).map fun j => i * c + j
def hF (f : Fm) : Nat → Nat := fun n => f.flatten.getD n 0
def shps : List (Nat × Nat) := [(1, 2), (2, 1), (1, 3), (3, 1), (2, 2), (1, 4), (4, 1), (1, 5), (5, 1), (2, 3), (3, 2), (1, 6), (6, 1)]
theorem flat_get (c : Nat) : ∀ (f : Fm) (i j : Nat), (∀ l ∈ f, l.length = c) → i < f.length → j < c → f.flatten.getD (i * c + j) 0 = (f.getD i []).getD j 0
  | [], i, j, _, h, _ => by simp at h
  | l :: f, 0, j, hl, _, hj => by
    have e := hl l List.mem_cons_self
    rw [Nat.zero_mul, Nat.zero_add, List.flatten_cons, List.getD_eq_getElem?_getD, List.getElem?_append_left (by omega)]
    rfl
  | l :: f, i + 1, j, hl, hi, hj => by
    have e := hl l List.mem_cons_self
    have ih := flat_get c f i j (fun l hm => hl l (List.mem_cons_of_mem _ hm)) (by simpa using hi) hj
    rw [List.flatten_cons, List.getD_eq_getElem?_getD, List.getElem?_append_right (by rw [e, Nat.add_mul]; omega), e]
    have e2 : (i + 1) * c + j - c = i * c + j := by rw [Nat.add_mul]; omega
    rw [e2, ← List.getD_eq_getElem?_getD, ih]
    rfl
theorem row_eq (l : List Nat) : l = (List.range l.length).map fun j => l.getD j 0 := by
  refine List.ext_getElem? fun i => ?_
  rw [List.getElem?_map]
  by_cases h : i < l.length
  · rw [List.getElem?_range h, List.getElem?_eq_getElem h]
    show some l[i] = some (l.getD i 0)
    rw [List.getD_eq_getElem?_getD, List.getElem?_eq_getElem h]
    rfl
  · rw [List.getElem?_eq_none (by omega), List.getElem?_eq_none (by rw [List.length_range]; omega)]
    rfl
theorem fm_eq {f : Fm} {c : Nat} (hl : ∀ l ∈ f, l.length = c) : f = mapF (hF f) (idF f.length c) := by
  refine List.ext_getElem? fun i => ?_
  unfold mapF idF
  rw [List.getElem?_map, List.getElem?_map]
  by_cases h : i < f.length
  · rw [List.getElem?_range h, List.getElem?_eq_getElem h]
    show some f[i] = some (((List.range c).map fun j => i * c + j).map (hF f))
    congr 1
    rw [List.map_map]
    have e1 : f[i].length = c := hl _ (List.getElem_mem h)
    have e2 := row_eq f[i]
    rw [e1] at e2
    rw [e2]
    refine List.map_congr_left fun j hj => ?_
    have hj := List.mem_range.mp hj
    show _ = f.flatten.getD (i * c + j) 0
    rw [flat_get c f i j hl h hj]
    congr 1
    rw [List.getD_eq_getElem?_getD, List.getElem?_eq_getElem h]
    rfl
  · rw [List.getElem?_eq_none (by omega), List.getElem?_eq_none (by rw [List.length_range]; omega)]
    rfl
theorem flat_n {c : Nat} : ∀ f : Fm, (∀ l ∈ f, l.length = c) → f.flatten.length = f.length * c
  | [], _ => by simp
  | l :: f, h => by
    rw [List.flatten_cons, List.length_append, flat_n f fun l hm => h l (List.mem_cons_of_mem _ hm), h l List.mem_cons_self, List.length_cons, Nat.add_mul]
    omega
theorem shp_mem {r c : Nat} (h1 : 1 ≤ r) (h2 : 1 ≤ c) (h3 : 2 ≤ r * c) (h4 : r * c ≤ 6) : (r, c) ∈ shps := by
  have a : r ≤ 6 := Nat.le_trans (Nat.le_mul_of_pos_right r h2) h4
  have b : c ≤ 6 := Nat.le_trans (Nat.le_mul_of_pos_left c h1) h4
  have z : ∀ r : Fin 7, ∀ c : Fin 7, 1 ≤ r.1 → 1 ≤ c.1 → 2 ≤ r.1 * c.1 → r.1 * c.1 ≤ 6 → (r.1, c.1) ∈ shps := by decide
  exact z ⟨r, by omega⟩ ⟨c, by omega⟩ h1 h2 h3 h4
structure Sh (f : Fm) (r c : Nat) : Prop where
  mem : (r, c) ∈ shps
  len : f.length = r
  wid : wid f = c
  eq : f = mapF (hF f) (idF r c)
  flat : f.flatten.length = r * c
  sort : sortN f.flatten = lets.take (r * c)
theorem isFm_sh {f : Fm} (h : isFm f = true) : Sh f f.length (wid f) := by
  obtain ⟨h1, h2, h3, h4, h5, h6⟩ := isFm_len h
  obtain ⟨w1, w2, w3⟩ := isFm_wid h
  have e := flat_n f w3
  exact ⟨shp_mem h1 w1 (by omega) (by omega), rfl, rfl, fm_eq w3, e, by rw [← e]; exact h6⟩
theorem sortN_perm_eq {l m : List Nat} (h : l.Perm m) : sortN l = sortN m := sortN_uniq ((sortN_perm l).trans h) (sortN_sorted l)
theorem map_range {l : List Nat} : (List.range l.length).map (fun n => l.getD n 0) = l := (row_eq l).symm
/-- a rearrangement of 0 .. n-1 in a good shape -/
def gdF (n : Nat) (g : Fm) : Bool := decide (1 ≤ g.length) && decide (g.length ≤ 6) && (g.all fun l => decide (l.length = (g.headD []).length)) && decide (sortN g.flatten = List.range n)
theorem mapF_flat (h : Nat → Nat) (g : Fm) : (mapF h g).flatten = g.flatten.map h := by
  unfold mapF
  rw [List.map_flatten]
theorem gd_len {n : Nat} {g : Fm} (h : sortN g.flatten = List.range n) : g.flatten.length = n := by
  rw [← (sortN_perm g.flatten).length_eq, h, List.length_range]
theorem isFm_map {f g : Fm} {r c : Nat} (hf : isFm f = true) (s : Sh f r c) (hg : gdF (r * c) g = true) : isFm (mapF (hF f) g) = true := by
  unfold gdF at hg
  simp only [Bool.and_eq_true, decide_eq_true_eq, List.all_eq_true] at hg
  obtain ⟨⟨⟨g1, g2⟩, g3⟩, g4⟩ := hg
  obtain ⟨h1, h2, h3, h4, h5, h6⟩ := isFm_len hf
  have el := gd_len g4
  have ep : ((mapF (hF f) g).flatten).Perm f.flatten := by
    rw [mapF_flat]
    have p : g.flatten.Perm (List.range f.flatten.length) := by
      rw [s.flat, ← g4]
      exact (sortN_perm _).symm
    have q := p.map (hF f)
    rw [show (List.range f.flatten.length).map (hF f) = f.flatten from map_range] at q
    exact q
  unfold isFm
  simp only [Bool.and_eq_true, decide_eq_true_eq, List.all_eq_true]
  have e1 : (mapF (hF f) g).length = g.length := by unfold mapF; rw [List.length_map]
  refine ⟨⟨by rw [e1]; omega, fun l hl => ?_⟩, by rw [ep.length_eq]; omega, by rw [sortN_perm_eq ep, ep.length_eq]; exact h6⟩
  obtain ⟨m, hm, rfl⟩ := List.mem_map.mp hl
  rw [List.length_map, g3 m hm]
  cases g with
  | nil => cases hm
  | cons a b =>
    show a.length = (a.map (hF f)).length
    rw [List.length_map]
theorem mv_other {f : Fm} {o : Nat} (h : o ∉ signs) : mvF f o = mvF f 77 := by
  unfold mvF
  have hh : ∀ k ∈ signs, o ≠ k := fun k hk e => h (e ▸ hk)
  rw [if_neg (hh 82 (by decide)), if_neg (hh 76 (by decide)), if_neg (hh 65 (by decide)), if_neg (hh 68 (by decide)), if_neg (hh 83 (by decide)), if_neg (hh 67 (by decide)), if_neg (hh 88 (by decide))]
  rfl
theorem gd_mv : ∀ s ∈ shps, ∀ o ∈ signs, ((mvF (idF s.1 s.2) o).all (gdF (s.1 * s.2))) = true := by decide +kernel
theorem mv_isFm {f g : Fm} {o : Nat} (hf : isFm f = true) (h : mvF f o = some g) : isFm g = true := by
  have main : ∀ o ∈ signs, mvF f o = some g → isFm g = true := fun o ho h => by
    have s := isFm_sh hf
    have z := gd_mv _ s.mem o ho
    rw [s.eq, mvF_nat] at h
    cases e : mvF (idF f.length (wid f)) o with
    | none =>
      rw [e] at h
      cases h
    | some g0 =>
      rw [e] at h z
      have h := Option.some.inj h
      rw [← h]
      exact isFm_map hf s z
  by_cases ho : o ∈ signs
  · exact main o ho h
  · rw [mv_other ho] at h
    exact main 77 (by decide) h
theorem aft_isFm : ∀ {os : List Nat} {f g : Fm}, isFm f = true → aftF f os = some g → isFm g = true
  | [], f, g, hf, h => by
    have h := Option.some.inj h
    rw [← h]
    exact hf
  | o :: r, f, g, hf, h => by
    have h : (mvF f o).bind (fun g => aftF g r) = some g := h
    cases e : mvF f o with
    | none =>
      rw [e] at h
      cases h
    | some g0 =>
      rw [e] at h
      exact aft_isFm (mv_isFm hf e) h
theorem aft_sh {f : Fm} {r c : Nat} (s : Sh f r c) (os : List Nat) : aftF f os = (aftF (idF r c) os).map (mapF (hF f)) := by
  have e := aftF_nat (hF f) os (idF r c)
  rw [← s.eq] at e
  exact e
/-- orders that bring the plain one to g0 bring f to the relabelled g0 -/
theorem aft_some {f g0 : Fm} {r c : Nat} (s : Sh f r c) {os : List Nat} (h : aftF (idF r c) os = some g0) : aftF f os = some (mapF (hF f) g0) := by
  rw [aft_sh s, h]
  rfl
theorem aft_id {f : Fm} {r c : Nat} (s : Sh f r c) {os : List Nat} (h : aftF (idF r c) os = some (idF r c)) : aftF f os = some f := by
  rw [aft_some s h, ← s.eq]
theorem aft_same {f : Fm} {r c : Nat} (s : Sh f r c) {os os' : List Nat} (h : aftF (idF r c) os = aftF (idF r c) os') : aftF f os = aftF f os' := by
  rw [aft_sh s, aft_sh s, h]
/-! labels differ -/
theorem hF_inj {f : Fm} {r c : Nat} (s : Sh f r c) {i j : Nat} (hi : i < r * c) (hj : j < r * c) (e : hF f i = hF f j) : i = j := by
  have nd : f.flatten.Nodup := by
    rw [← (sortN_perm _).nodup_iff, s.sort]
    exact List.Nodup.sublist (List.take_sublist _ _) (by decide)
  unfold hF at e
  rw [← s.flat] at hi hj
  rw [List.getD_eq_getElem?_getD, List.getD_eq_getElem?_getD, List.getElem?_eq_getElem hi, List.getElem?_eq_getElem hj] at e
  exact (List.getElem_inj nd).mp e
theorem map_inj {f : Fm} {r c : Nat} (s : Sh f r c) : ∀ {l m : List Nat}, (∀ x ∈ l, x < r * c) → (∀ x ∈ m, x < r * c) → l.map (hF f) = m.map (hF f) → l = m
  | [], [], _, _, _ => rfl
  | [], _ :: _, _, _, h => by cases h
  | _ :: _, [], _, _, h => by cases h
  | a :: l, b :: m, hl, hm, h => by
    rw [List.map_cons, List.map_cons] at h
    injection h with h1 h2
    rw [hF_inj s (hl a List.mem_cons_self) (hm b List.mem_cons_self) h1, map_inj s (fun x hx => hl x (List.mem_cons_of_mem _ hx)) (fun x hx => hm x (List.mem_cons_of_mem _ hx)) h2]
def ltF (n : Nat) (g : Fm) : Bool := g.all fun l => l.all fun x => decide (x < n)
theorem mapF_inj {f : Fm} {r c : Nat} (s : Sh f r c) : ∀ {g g' : Fm}, ltF (r * c) g = true → ltF (r * c) g' = true → mapF (hF f) g = mapF (hF f) g' → g = g'
  | [], [], _, _, _ => rfl
  | [], _ :: _, _, _, h => by cases h
  | _ :: _, [], _, _, h => by cases h
  | a :: l, b :: m, hl, hm, h => by
    have h : a.map (hF f) :: mapF (hF f) l = b.map (hF f) :: mapF (hF f) m := h
    injection h with h1 h2
    unfold ltF at hl hm
    rw [List.all_cons, Bool.and_eq_true] at hl hm
    have k : ∀ {a : List Nat}, (a.all fun x => decide (x < r * c)) = true → ∀ x ∈ a, x < r * c := fun h x hx => of_decide_eq_true (List.all_eq_true.mp h x hx)
    rw [map_inj s (k hl.1) (k hm.1) h1, mapF_inj s hl.2 hm.2 h2]
end G

set_option Elab.async false
set_option linter.all false
set_option maxRecDepth 100000
set_option maxHeartbeats 4000000
namespace G
open PySem PySem.Spec PyProof.Rows L2 TL
theorem aftF_app : ∀ (a b : List Nat) (f : Fm), aftF f (a ++ b) = (aftF f a).bind fun g => aftF g b
  | [], b, f => rfl
  | o :: r, b, f => by
    show (mvF f o).bind (fun g => aftF g (r ++ b)) = ((mvF f o).bind fun g => aftF g r).bind fun g => aftF g b
    cases mvF f o with
    | none => rfl
    | some g => exact aftF_app r b g
theorem isOrd_str {os : List Nat} (h : isOrd (.str os) = true) : os.length ≤ 20 ∧ (∀ c ∈ os, c ∈ signs) ∧ okT os := by
  have h : (decide ((os.length : Int) ≤ 20) && os.all fun c => decide (c ∈ signs)) = true := h
  rw [Bool.and_eq_true, List.all_eq_true] at h
  have h1 := of_decide_eq_true h.1
  have h2 : ∀ c ∈ os, c ∈ signs := fun c hc => of_decide_eq_true (h.2 c hc)
  refine ⟨by omega, h2, by omega, ?_⟩
  rw [List.all_eq_true]
  exact fun c hc => (by decide : ∀ c ∈ signs, Nat.blt c 1114112 = true) c (h2 c hc)
theorem isForm_of {d : Dat} (h : isForm d = true) : ∃ f, d = F_ f ∧ isFm f = true := by
  cases d with
  | tup xs =>
    have h : (match strsOf xs with | some f => isFm f | none => false) = true := h
    cases e : strsOf xs with
    | none => rw [e] at h; cases h
    | some f =>
      rw [e] at h
      exact ⟨f, by rw [strsOf_some e], h⟩
  | non => cases h
  | bl b => cases h
  | int i => cases h
  | str l => cases h
  | lst xs => cases h
  | dic k => cases h
  | scr n => cases h
theorem isOrd_of {d : Dat} (h : isOrd d = true) : ∃ os, d = .str os := by cases d <;> first | exact ⟨_, rfl⟩ | cases h
theorem T.weak {X : Cx} {e : Expr} {b : Bool} {ρ ρ' : List Sl} (h : T X e ρ' b) (w : Wk ρ ρ') : T X e ρ b := pt_imp h fun σ H Q ⟨B, c, en, q⟩ => ⟨B, c, en.weak w, q⟩
def Out.ofR : Res → Out
  | .ok d => .rt d
  | .err c => .er c
theorem outR_of (r : Res) : outR (Out.ofR r) = some r := by cases r <;> rfl
theorem s_retR {X : Cx} {E : XK} {W : Wl} {ρ : List Sl} {P : Out → Prop} {e : Expr} {r : Res} {pos : Pos} (h : D X E e ρ r) (q : P (Out.ofR r)) : S1 X E W (.Return (some e) pos) ρ P := by
  cases r with
  | ok d => exact s_ret h q
  | err c => exact s_retE h q
def perfR (IM : Addr) (f : Fm) (os : List Nat) : Res := match aftF f os with
  | none => .err (.ref IM)
  | some g => .ok (F_ g)
section
variable {P : Program} {w : World} {K : PySem.W.Frag} {mg : Str → Option Value} {base : Heap} {IF IO IM : Addr}
/-! ### after -/
def C_after : List Dat → Res → Prop := fun as r => ∃ (f : Fm) (os : List Nat), as = [F_ f, .str os] ∧ isFm f = true ∧ okT os ∧ r = .ok (optF (aftF f os))
abbrev N_aft : List Str := ["formation", "orders", "order"]
theorem sc_after : FnScope N_aft ["formation", "orders"] (defScope s_after) := ⟨rfl, rfl, rfl, by decide +kernel, rfl, by decide +kernel, by decide +kernel⟩
theorem c_after (G1 : FnC P w K mg base "moved" ["formation", "order"] C_moved 2) (h : At K mg "after" s_after) : FnC P w K mg base "after" ["formation", "orders"] C_after 3 := by
  refine h.c1 (fun _ _ _ _ _ _ us hl => match us, hl with | [_, _], _ => rfl) fun f fd F => fnC_ok F sc_after (fun as r ⟨d, n, e, _⟩ => by rw [e]; rfl) fun cdv A outer s H E as r W hM hr ⟨g, os, e, hg, ho, er⟩ => ?_
  subst e er
  have nd := sc_after.nd
  refine ss_cons (s_for (fun i ρ' => ∃ g', aftF g (os.take i) = some g' ∧ isFm g' = true ∧ Wk ρ' [.dt (F_ g'), .dt (.str os), .un]) po_cx (i_str (dv 1 rfl)) (gt_name (i := 2) nd) (fun _ _ => True.intro) ⟨g, rfl, hg, .inr rfl, .inr rfl, .inr rfl, True.intro⟩ (fun fr i x ρ' hx ⟨g', e1, e2, hw⟩ => ?_) (fun ρ' ⟨g', e1, e2, hw⟩ => ?_))
  · rw [List.getElem?_map] at hx
    obtain ⟨c, hc, rfl⟩ := Option.map_eq_some_iff.mp hx
    have hcc : Nat.blt c 1114112 = true := List.all_eq_true.mp ho.2 c (List.mem_of_getElem? hc)
    have et : aftF g (os.take (i + 1)) = mvF g' c := by
      rw [List.take_add_one, hc, show (some c).toList = [c] from rfl, aftF_app, e1]
      show (mvF g' c).bind (fun g => some g) = mvF g' c
      cases mvF g' c <;> rfl
    refine SS.weak (ρ' := [.dt (F_ g'), .dt (.str os), .dt (.str [c])]) ?_ (hw.set 2 _)
    refine ss_cons (s_set 0 nd (d_call G1 (hr.mono (by decide)) pa_cx (da_cons (dv 0 rfl) (da_one (dv 2 rfl))) ⟨g', c, rfl, e2, hcc, rfl⟩) ?_)
    cases hm : mvF g' c with
    | none =>
      refine ss_one (s_if (t_isN (dv 0 rfl)) (fun hb => ss_one (s_ret d_non ?_)) (fun hb => by cases hb))
      show some (Res.ok .non) = some (.ok (optF (aftF g os)))
      have : aftF g os = none := by
        rw [← List.take_append_drop (i + 1) os, aftF_app, et, hm]
        rfl
      rw [this]
      rfl
    | some g2 =>
      refine ss_one (s_if (t_isN (dv 0 rfl)) (fun hb => by cases hb) (fun hb => ss_nil ?_))
      exact ⟨g2, by rw [et, hm], mv_isFm e2 hm, .inr rfl, .inr rfl, .inl rfl, True.intro⟩
  · refine SS.weak ?_ hw
    rw [List.length_map, List.take_length] at e1
    refine ss_one (s_ret (dv 0 rfl) ?_)
    rw [e1]
    rfl
/-! ### performed -/
def C_perf (IM : Addr) : List Dat → Res → Prop := fun as r => ∃ (f : Fm) (os : List Nat), as = [F_ f, .str os] ∧ isFm f = true ∧ okT os ∧ r = perfR IM f os
abbrev N_prf : List Str := ["formation", "orders", "made"]
theorem sc_performed : FnScope N_prf ["formation", "orders"] (defScope s_performed) := ⟨rfl, rfl, rfl, by decide +kernel, rfl, by decide +kernel, by decide +kernel⟩
theorem c_performed (G1 : FnC P w K mg base "after" ["formation", "orders"] C_after 3) (X1 : ExcF K mg "Impossible" IM) (h : At K mg "performed" s_performed) : FnC P w K mg base "performed" ["formation", "orders"] (C_perf IM) 4 := by
  refine h.c1 (fun _ _ _ _ _ _ us hl => match us, hl with | [_, _], _ => rfl) fun f fd F => fnC_ok F sc_performed (fun as r ⟨d, n, e, _⟩ => by rw [e]; rfl) fun cdv A outer s H E as r W hM hr ⟨g, os, e, hg, ho, er⟩ => ?_
  subst e er
  have nd := sc_performed.nd
  refine ss_cons (s_set 2 nd (d_call G1 (hr.mono (by decide)) pa_cx (da_cons (dv 0 rfl) (da_one (dv 1 rfl))) ⟨g, os, rfl, hg, ho, rfl⟩) ?_)
  cases hm : aftF g os with
  | none =>
    refine ss_cons (s_if (t_isN (dv 2 rfl)) (fun hb => ss_one (s_raise X1 tk_cx ?_)) (fun hb => by cases hb))
    show some (Res.err _) = some (perfR IM g os)
    unfold perfR
    rw [hm]
  | some g2 =>
    refine ss_cons (s_if (t_isN (dv 2 rfl)) (fun hb => by cases hb) (fun hb => ss_nil ?_))
    refine ss_one (s_ret (dv 2 rfl) ?_)
    show some (Res.ok _) = some (perfR IM g os)
    unfold perfR
    rw [hm]
    rfl
/-! ### done -/
inductive C_both (IF IO : Addr) (C : Fm → List Nat → Res → Prop) : List Dat → Res → Prop
  | badF (d e : Dat) : okV d → okV e → isForm d = false → C_both IF IO C [d, e] (.err (.ref IF))
  | badO (d e : Dat) : okV d → okV e → isForm d = true → isOrd e = false → C_both IF IO C [d, e] (.err (.ref IO))
  | ok (f : Fm) (os : List Nat) (r : Res) : isFm f = true → isOrd (.str os) = true → C f os r → C_both IF IO C [F_ f, .str os] r
abbrev N_dn : List Str := ["formation", "orders"]
theorem C_both.len {IF IO : Addr} {C : Fm → List Nat → Res → Prop} {as : List Dat} {r : Res} (h : C_both IF IO C as r) : as.length = 2 := by cases h <;> rfl
abbrev C_done (IF IO IM : Addr) : List Dat → Res → Prop := C_both IF IO fun f os r => r = perfR IM f os
end
end G

set_option Elab.async false
set_option linter.all false
set_option maxRecDepth 100000
set_option maxHeartbeats 4000000
namespace G
open PySem PySem.Spec PyProof.Rows L2 TL
section
variable {X : Cx} {E : XK} {W : Wl} {ρ : List Sl} {P : Out → Prop}
/-! ### the dice opened: a list of two known ints -/
theorem upd_self {H : Hp} {a : Addr} {o : HO} (h : H a = some o) : upd H a o = H := by
  funext b
  by_cases e : b = a
  · rw [e, upd_same, h]
  · rw [upd_ne e]
theorem rpA_ints2 {K : PySem.W.Frag} {H : Hp} (c n : Int) : RpA K H [.int c, .int n] [.int c, .int n] := .cons (.int c) (.cons (.int n) .nil)
theorem SS.openDie {s : List Stmt} {i : Nat} {a : Addr} (hi : ρ[i]? = some (.di a)) (k : ∀ c n : Int, SS X E W s (ρ.set i (.ml a [.int c, .int n])) P) : SS X E W s ρ P := by
  refine pss_imp (pss_ex (ι := Int × Int) fun q => k q.1 q.2) fun D σ H ⟨B, w, en, p⟩ => ?_
  obtain ⟨h1, hb, c, n, h0⟩ := en.di hi
  have e := en.write (o := .lst [.int c, .int n]) (s' := .ml a [.int c, .int n]) hi rfl h1 hb ⟨rfl, hb, _, upd_same, rpA_ints2 c n⟩ rfl
  rw [upd_self h0] at e
  exact ⟨(c, n), B, w, e, p⟩
theorem d_ixM {i : Nat} {a : Addr} {ds : List Dat} {x : Str} {b : Expr} {k : Int} {d : Dat} {px pos : Pos} (hi : ρ[i]? = some (.ml a ds)) (hx : PE X (.Name x px) (tVar i)) (hb : D X E b ρ (.ok (.int k))) (h : atI ds k = some d) (hs : PlainIx b := by exact fun _ _ => rfl) : D X E (.Subscript (.Name x px) b pos) ρ (.ok d) :=
  D.of (pe_ix ix_list hx hb hs) fun B σ H Q c en q => by
    obtain ⟨h1, hb, vs, h2, h3⟩ := en.ml hi
    refine ⟨_, h1, B, c, en, fun vy H1 s1 ry => ?_⟩
    obtain ⟨v, e1, e2⟩ := atI_rp (h3.mono (mask_same s1)) h
    exact ⟨a, vs, k, v, rfl, rp_int ry, SqL.of (s1 _ _ h2), e1, q v H1 s1 e2⟩
theorem rpA_int2 {K : PySem.W.Frag} {H : Hp} {vs : List V} {c n : Int} (h : RpA K H vs [.int c, .int n]) : vs = [.int c, .int n] := by
  obtain ⟨v, w, rfl, r1, r2⟩ := rpA_two h
  rw [rp_int r1, rp_int r2]
theorem s_setDie {i : Nat} {a : Addr} {c n z c' n' : Int} {x : Str} {b e : Expr} {k : Int} {j : Nat} {px ps pos : Pos} (hd : Dw W a) (hi : ρ[i]? = some (.ml a [.int c, .int n])) (hx : PE X (.Name x px) (tVar i)) (hb : D X E0 b ρ (.ok (.int k))) (he : D X E e ρ (.ok (.int z))) (hk : ixN 2 k = some j) (hj : ([V.int c, .int n]).set j (.int z) = [V.int c', .int n'])
    (q : P (.nx (ρ.set i (.ml a [.int c', .int n']))))
    (h2 : PE X e (tD X.K E ρ (.ok (.int z))) → PE X (.Name x px) (tVar i) → PE X b (tD X.K E0 ρ (.ok (.int k))) → PS X (.Assign [.Subscript (.Name x px) b ps] e pos) (tAsg (tD X.K E ρ (.ok (.int z))) (gSub (tVar i) (tD X.K E0 ρ (.ok (.int k))) rSetL))) : S1 X E W (.Assign [.Subscript (.Name x px) b ps] e pos) ρ P := by
  refine ps_imp (h2 he hx hb) fun D σ H ⟨B, w, en, p⟩ => ⟨B, w.cov, en, fun v H1 s1 rv => ?_⟩
  obtain ⟨h1, hb, vs, h3, h4⟩ := (en.same s1).ml hi
  have ev := rpA_int2 h4
  subst ev
  rw [rp_int rv]
  refine ⟨_, h1, B, w.cov.same s1, en.same s1, fun vy H2 s2 ry => ?_⟩
  have h3' := s2 _ _ h3
  refine ⟨a, _, k, j, rfl, rp_int ry, h3', hk, ?_⟩
  rw [hj]
  have s12 := s1.trans s2
  exact p.nx _ σ _ B q ((w.same s12).writeD hd hb h3' rfl) ((en.same s12).write hi rfl h1 hb ⟨rfl, hb, _, upd_same, rpA_ints2 c' n'⟩ rfl)
theorem d_pow {a b : Expr} {i j : Int} {pos : Pos} (h : CPow i j) (ha : D X E a ρ (.ok (.int i))) (hb : D X E b ρ (.ok (.int j))) : D X E (.BinOp a .Pow b pos) ρ (.ok (.int (i ^ j.toNat))) := d_op op_pow (op2_I h fun _ => .int _) ha hb
theorem d_mulW {a b : Expr} {i j : Int} {pos : Pos} (h : CMulW i j) (ha : D X E a ρ (.ok (.int i))) (hb : D X E b ρ (.ok (.int j))) : D X E (.BinOp a .Mult b pos) ρ (.ok (.int (i * j))) := d_op op_mulW (op2_I h fun _ => .int _) ha hb
theorem d_fdivW {a b : Expr} {i j : Int} {pos : Pos} (h : CDivW i j) (ha : D X E a ρ (.ok (.int i))) (hb : D X E b ρ (.ok (.int j))) : D X E (.BinOp a .FloorDiv b pos) ρ (.ok (.int (i / j))) := d_op op_fdivW (op2_I h fun _ => .int _) ha hb
theorem d_max2 {a b : Expr} {i j : Int} {p pos : Pos} (hm : X.mg "max" = none) (ha : D X E a ρ (.ok (.int i))) (hb : D X E b ρ (.ok (.int j))) (hc : X.calm = true := by rfl) (hg : Gl X "max" := by rfl) (h1 : starEach [b] X.env = (false, eval b X.env) :: starEach [] X.env := by rfl)
    (he : starEach [a, b] X.env = (false, eval a X.env) :: starEach [b] X.env := by rfl) (hpl : (backTo pos (starEach [b] X.env)).any (·.1) = false := by rfl) : D X E (.Call (.Name "max" p) [a, b] [] pos) ρ (.ok (.int (if j > i then j else i))) :=
  d_callB (call_max2 hc) (fun B H vs Q c r q => by
    obtain ⟨v, w, rfl, r1, r2⟩ := rpA_two r
    exact ⟨i, j, by rw [rp_int r1, rp_int r2], q _ H (Same.refl H) (.int _)⟩) hm (da_cons ha (da_one hb h1) he) (hg := hg) (he := he) (hpl := hpl)
theorem d_min2 {a b : Expr} {i j : Int} {p pos : Pos} (hm : X.mg "min" = none) (ha : D X E a ρ (.ok (.int i))) (hb : D X E b ρ (.ok (.int j))) (hc : X.calm = true := by rfl) (hg : Gl X "min" := by rfl) (h1 : starEach [b] X.env = (false, eval b X.env) :: starEach [] X.env := by rfl)
    (he : starEach [a, b] X.env = (false, eval a X.env) :: starEach [b] X.env := by rfl) (hpl : (backTo pos (starEach [b] X.env)).any (·.1) = false := by rfl) : D X E (.Call (.Name "min" p) [a, b] [] pos) ρ (.ok (.int (if j < i then j else i))) :=
  d_callB (call_min2 hc) (fun B H vs Q c r q => by
    obtain ⟨v, w, rfl, r1, r2⟩ := rpA_two r
    exact ⟨i, j, by rw [rp_int r1, rp_int r2], q _ H (Same.refl H) (.int _)⟩) hm (da_cons ha (da_one hb h1) he) (hg := hg) (he := he) (hpl := hpl)
/-! ### script == [] -/
def pyI (ns : List Int) : List PyData := ns.map PyData.int
theorem dpA_ints {K : PySem.W.Frag} {H : Hp} : ∀ ns : List Int, DpAll K H (ns.map V.int) (pyI ns)
  | [] => .nil
  | n :: ns => .cons (.int n) (dpA_ints ns)
theorem pyI_can : ∀ ns : List Int, PyData.canLayAll0 (pyI ns) = true ∧ PyData.depthAll (pyI ns) = 0
  | [] => ⟨rfl, rfl⟩
  | n :: ns => by
    obtain ⟨a, b⟩ := pyI_can ns
    refine ⟨?_, ?_⟩
    · show (PyData.canLay0 (.int n) && PyData.canLayAll0 (pyI ns)) = true
      rw [a]
      rfl
    · show max 0 (PyData.depthAll (pyI ns)) = 0
      rw [b]
      rfl
theorem t_scrNil {a : Expr} {ns : List Int} {p pos : Pos} (hu : X.A.units + 64 < cLine) (ha : D X E0 a ρ (.ok (.scr ns))) : T X (.Compare a [.Eq] [.List [] p] pos) ρ (decide (ns = [])) :=
  t_cmp (y := .lst []) (op_eqD hu) (fun B H vx vy Q c rx ry q => by
    cases rx with
    | scr h =>
      refine ⟨.list (pyI ns), .list [], .lst ((mask_sub B H).seq h) (dpA_ints ns), (ry.mono (mask_sub B H)).dp (n := 9) (d := .lst []) rfl, ?_, by decide, ?_⟩
      · obtain ⟨a, b⟩ := pyI_can ns
        show (PyData.canLayAll0 (pyI ns) && decide (PyData.depthAll (pyI ns) + 1 ≤ 64)) = true
        rw [a, b]
        rfl
      · have e : PyData.eqv (.list (pyI ns)) (.list []) = decide (ns = []) := by cases ns <;> rfl
        rw [e]
        exact q _ H (Same.refl H) (.bl _)) ha (d_lst da_nil (by simp))
end
section
variable {P : Program} {w : World} {K : PySem.W.Frag} {mg : Str → Option Value} {base : Heap}
/-! ### _law_cell -/
def cellF (ns : List Int) (k : Int) : Int := if ns = [] then k * 7919 else ns.getD (k % (ns.length : Int)).toNat 0 + k / (ns.length : Int) * 104729
def C_cell : List Dat → Res → Prop := fun as r => ∃ (ns : List Int) (k : Int), as = [.scr ns, .int k] ∧ ns.length ≤ 1000 ∧ 0 ≤ k ∧ k < 1000 ∧ r = .ok (.int (cellF ns k))
abbrev N_cell : List Str := ["script", "k"]
theorem sc_cell : FnScope N_cell ["script", "k"] (defScope s__law_cell) := ⟨rfl, rfl, rfl, by decide +kernel, rfl, by decide +kernel, by decide +kernel⟩
theorem c_cell (B : Bi mg) (h : At K mg "_law_cell" s__law_cell) : FnC P w K mg base "_law_cell" ["script", "k"] C_cell 1 := by
  refine h.c1 (fun _ _ _ _ _ _ us hl => match us, hl with | [_, _], _ => rfl) fun f fd F => fnC_ok F sc_cell (fun as r ⟨d, n, e, _⟩ => by rw [e]; rfl) fun cdv A outer s H E as r W hM hr ⟨ns, k, e, hl, h0, h1, er⟩ => ?_
  subst e er
  refine ss_cons (s_if (t_scrNil hr.units (dv 0 rfl)) (fun hb => ss_one (s_ret (d_mul (.inr ⟨by decide, by decide⟩) (dv 1 rfl) d_int) ?_)) (fun hb => ss_nil ?_))
  · show some (Res.ok (.int _)) = _
    unfold cellF
    rw [if_pos (of_decide_eq_true hb)]
  · have hne := of_decide_eq_false hb
    have hpos : 0 < ns.length := List.length_pos_iff.mpr hne
    have hlt : (k % (ns.length : Int)).toNat < ns.length := by
      have := Int.emod_lt_of_pos k (show (0 : Int) < ns.length by omega)
      have := Int.emod_nonneg k (show (ns.length : Int) ≠ 0 by omega)
      omega
    refine ss_one (s_ret (d_add (d_ixR (dv 0 rfl) (d_mod (by omega) (dv 1 rfl) (d_lenR B.len (dv 0 rfl))) (z := ns.getD (k % (ns.length : Int)).toNat 0) ?_) (d_mul (.inr ⟨by decide, by decide⟩) (d_fdiv ⟨by omega, by omega⟩ (dv 1 rfl) (d_lenR B.len (dv 0 rfl))) d_int)) ?_)
    · have e : (k % (ns.length : Int)) = (((k % (ns.length : Int)).toNat : Nat) : Int) := by
        have := Int.emod_nonneg k (show (ns.length : Int) ≠ 0 by omega)
        omega
      rw [e]
      refine atI_nat ?_
      rw [Int.toNat_natCast, List.getD_eq_getElem?_getD, List.getElem?_eq_getElem hlt]
      rfl
    · show some (Res.ok (.int _)) = _
      unfold cellF
      rw [if_neg hne]
/-! ### _law_drawn -/
def m1 (c k : Int) : Int := (c * 6364136223846793005 + (k + 1) * 1442695040888963407) % 340282366920938463463374607431768211507
def m2 (x : Int) : Int := x * x % 340282366920938463463374607431768211297
def m3 (x : Int) : Int := (x % 18446744073709551557 + 1) * (x / 18446744073709551557 + 1) * x
def drawF (c k : Int) : Int := m3 (m2 (m1 c k)) % 340282366920938463463374607431768211507
def C_drawn : List Dat → Res → Prop := fun as r => ∃ c k : Int, as = [.int c, .int k] ∧ r = .ok (.int (drawF c k))
abbrev N_drw : List Str := ["cell", "k", "more"]
theorem sc_drawn : FnScope N_drw ["cell", "k"] (defScope s__law_drawn) := ⟨rfl, rfl, rfl, by decide +kernel, rfl, by decide +kernel, by decide +kernel⟩
theorem emod_abs {x m : Int} {a : Nat} (hm : 0 < m) (ha : m ≤ 2 ^ a) : (x % m).natAbs < 2 ^ a := by
  have h1 := Int.emod_lt_of_pos x hm
  have h2 := Int.emod_nonneg x (show m ≠ 0 by omega)
  have h3 : ((2 ^ a : Nat) : Int) = 2 ^ a := by push_cast; rfl
  omega
theorem c_drawn (h : At K mg "_law_drawn" s__law_drawn) : FnC P w K mg base "_law_drawn" ["cell", "k"] C_drawn 1 := by
  refine h.c1 (fun _ _ _ _ _ _ us hl => match us, hl with | [_, _], _ => rfl) fun f fd F => fnC_ok F sc_drawn (fun as r ⟨d, n, e, _⟩ => by rw [e]; rfl) fun cdv A outer s H E as r W hM hr ⟨c, k, e, er⟩ => ?_
  subst e er
  have nd := sc_drawn.nd
  refine ss_cons (s_set 2 nd (d_mod (by decide) (d_add (d_mul (.inr ⟨by decide, by decide⟩) (dv 0 rfl) d_int) (d_mul (.inr ⟨by decide, by decide⟩) (d_add (dv 1 rfl) d_int) d_int)) d_int) ?_)
  have a1 : (m1 c k).natAbs < 2 ^ 129 := emod_abs (by decide) (by decide)
  refine ss_cons (s_set 2 nd (d_mod (by decide) (d_mulW (i := m1 c k) (j := m1 c k) (wide_mul (a := 129) (b := 129) a1 a1 (by decide) (by decide) (by decide)) (dv 2 rfl) (dv 2 rfl)) d_int) ?_)
  have a2 : (m2 (m1 c k)).natAbs < 2 ^ 128 := emod_abs (by decide) (by decide)
  have p2 : 0 ≤ m2 (m1 c k) := Int.emod_nonneg _ (by decide)
  generalize hx : m2 (m1 c k) = x at a2 p2
  have e0 : (m1 c k) * (m1 c k) % 340282366920938463463374607431768211297 = x := hx
  have b1 : (x % 18446744073709551557 + 1).natAbs < 2 ^ 65 := by
    have h1 := Int.emod_lt_of_pos x (show (0 : Int) < 18446744073709551557 by decide)
    have h2 := Int.emod_nonneg x (show (18446744073709551557 : Int) ≠ 0 by decide)
    have h3 : (2 ^ 65 : Nat) = 36893488147419103232 := by decide
    omega
  have b2 : (x / 18446744073709551557 + 1).natAbs < 2 ^ 129 := by
    have h1 : x / 18446744073709551557 ≤ x := Int.ediv_le_self _ p2
    have h2 : 0 ≤ x / 18446744073709551557 := Int.ediv_nonneg p2 (by decide)
    have h3 : (2 ^ 129 : Nat) = 680564733841876926926749214863536422912 := by decide
    have h4 : (2 ^ 128 : Nat) = 340282366920938463463374607431768211456 := by decide
    omega
  refine ss_cons (s_set 2 nd (d := .int (m3 x)) (d_mulW (wide_mul (a := 194) (b := 128) (wide_lt b1 b2) a2 (by decide) (by decide) (by decide)) (d_mulW (wide_mul b1 b2 (by decide) (by decide) (by decide)) (d_add (d_mod (by decide) ((dv 2 rfl).is (congrArg Dat.int e0)) d_int) d_int) (d_add (d_fdivW ⟨by decide, by decide⟩ ((dv 2 rfl).is (congrArg Dat.int e0)) d_int) d_int)) ((dv 2 rfl).is (congrArg Dat.int e0))) ?_)
  refine ss_one (s_ret (d_mod (by decide) (dv 2 rfl) d_int) ?_)
  show some (Res.ok (.int _)) = _
  unfold drawF
  rw [hx]
/-! ### _law_roll -/
def C_roll : List Dat → (Dat → Prop) → Prop := fun as S => ∃ m : Int, as = [.int m] ∧ 0 < m ∧ m ≤ 1000 ∧ S = fun d => ∃ k : Nat, d = .int k ∧ (k : Int) < m
abbrev N_rol : List Str := ["dice", "many", "told"]
theorem sc_roll : FnScope N_rol ["dice", "many"] (defScope s__law_roll) := ⟨rfl, rfl, rfl, by decide +kernel, rfl, by decide +kernel, by decide +kernel⟩
theorem mod_some {x m : Int} (h : 0 < m) : ∃ k : Nat, Dat.int (x % m) = .int k ∧ (k : Int) < m := by
  have h1 := Int.emod_lt_of_pos x h
  have h2 := Int.emod_nonneg x (show m ≠ 0 by omega)
  exact ⟨(x % m).toNat, by congr 1; omega, by omega⟩
theorem At.d1 {P : Program} {w : World} {K : PySem.W.Frag} {mg : Str → Option Value} {base : Heap} {x : Str} {st : Stmt} {ps : List Str} {C : List Dat → (Dat → Prop) → Prop} {k : Nat} (h : At K mg x st)
    (hb : ∀ (kV doc pm : Value) (an : Option Addr) (cdv ct : Value) (us : List Value), us.length = ps.length → bindArgs (PySem.W.fnOf x x (defArgs st) (defBody st) (defScope st) .none kV doc pm an cdv ct) ⟨us, []⟩ = pure (ps.zip us))
    (ok : ∀ f fd, Fun K x x st f fd → FnOk P w K mg base (L2N.CX P w) k f fd ps (spD K C)) : FnD P w K mg base x ps C k := by
  obtain ⟨f, fd, F, g⟩ := h
  exact ⟨f, fd, ok f fd F, g, F.kp, F.binds hb⟩
theorem c_roll (G1 : FnC P w K mg base "_law_drawn" ["cell", "k"] C_drawn 1) (h : At K mg "_law_roll" s__law_roll) : FnD P w K mg base "_law_roll" ["dice", "many"] C_roll 2 := by
  refine h.d1 (fun _ _ _ _ _ _ us hl => match us, hl with | [_, _], _ => rfl) fun f fd F => fnD_ok F sc_roll (fun as r ⟨m, e, _⟩ => by rw [e]; rfl) (by decide) fun cdv A outer s H E as S W a hM hd hdc hr ⟨m, e, h0, h1, er⟩ => ?_
  subst e er
  have nd := sc_roll.nd
  refine SS.openDie (i := 0) rfl fun c n => ?_
  refine ss_cons (s_if (t_cmp op_ge o_ge (d_ixM (i := 0) rfl (pv 0) d_int (atI_nat (j := 0) rfl)) (d_pow ⟨by decide, by decide, by decide⟩ d_int d_int)) (fun hb => ?_) (fun hb => ss_nil ?_))
  · refine ss_cons (s_set 2 nd (d_mod h0 (d_ixM (i := 0) rfl (pv 0) d_int (atI_nat (j := 0) rfl)) (dv 1 rfl)) ?_)
    refine ss_cons (s_setDie (i := 0) (j := 0) (c' := c / m) (n' := n) hd rfl (pv 0) d_int (d_fdiv ⟨h0, by omega⟩ (d_ixM (i := 0) rfl (pv 0) d_int (atI_nat (j := 0) rfl)) (dv 1 rfl)) rfl rfl ?_ fun a b c => ps_asg a (pg_sub b c set_list))
    exact ss_one (s_ret (dv 2 rfl) ⟨_, rfl, mod_some h0⟩)
  · refine ss_cons (s_setDie (i := 0) (j := 1) (c' := c) (n' := n + 1) hd rfl (pv 0) d_int (d_add (d_ixM (i := 0) rfl (pv 0) d_int (atI_nat (j := 1) rfl)) d_int) rfl rfl ?_ fun a b c => ps_asg a (pg_sub b c set_list))
    exact ss_one (s_ret (d_mod h0 (d_fdiv ⟨by decide, by decide⟩ (d_call G1 (hr.mono (by decide)) pa_cx (da_cons (d_ixM (i := 0) rfl (pv 0) d_int (atI_nat (j := 0) rfl)) (da_one (d_ixM (i := 0) rfl (pv 0) d_int (atI_nat (j := 1) rfl)))) ⟨c, n + 1, rfl, rfl⟩) d_int) (dv 1 rfl)) ⟨_, rfl, mod_some h0⟩)
/-! ### _law_rounds -/
def C_rounds : List Dat → Res → Prop := fun as r => ∃ (ns : List Int) (m : Int), as = [.scr ns, .int m] ∧ ns.length ≤ 1000 ∧ 1 ≤ m ∧ m ≤ 100 ∧ ∃ cs : List Int, cs = ((List.range (max 1 (min m (ns.length : Int))).toNat).map fun k : Nat => cellF ns k) ∧ r = .ok (.lst (cs.map fun c => .lst [.int c, .int 0]))
abbrev N_rnd : List Str := ["script", "most", "k"]
theorem sc_rounds : FnScope N_rnd ["script", "most"] (defScope s__law_rounds) := ⟨rfl, rfl, rfl, by decide +kernel, rfl, by decide +kernel, by decide +kernel⟩
theorem c_rounds (B : Bi mg) (G1 : FnC P w K mg base "_law_cell" ["script", "k"] C_cell 1) (h : At K mg "_law_rounds" s__law_rounds) : FnC P w K mg base "_law_rounds" ["script", "most"] C_rounds 2 := by
  refine h.c1 (fun _ _ _ _ _ _ us hl => match us, hl with | [_, _], _ => rfl) fun f fd F => fnC_ok F sc_rounds (fun as r ⟨d, n, e, _⟩ => by rw [e]; rfl) fun cdv A outer s H E as r W hM hr ⟨ns, m, e, hl, h0, h1, cs, ec, er⟩ => ?_
  subst e er ec
  have nd := sc_rounds.nd
  have e1 : (if (ns.length : Int) < m then (ns.length : Int) else m) = min m (ns.length : Int) := by split <;> omega
  have e2 : (if (if (ns.length : Int) < m then (ns.length : Int) else m) > 1 then (if (ns.length : Int) < m then (ns.length : Int) else m) else 1) = max 1 (min m (ns.length : Int)) := by
    rw [e1]
    split <;> omega
  refine ss_one (s_ret (d_lc0 (own := [("k", 2)]) (is := [2]) (pr := fun _ => True) (bd := bd1 2) (f := fun x => match x with | .int k => .lst [.int (cellF ns k), .int 0] | _ => .non) rfl nd (i_range1 (n := max 1 (min m (ns.length : Int))) B.range ((d_max2 B.max d_int (d_min2 B.min (dv 1 rfl) (d_lenR B.len (dv 0 rfl)))).is (congrArg Dat.int e2)) ⟨by omega, by omega⟩) (blkOk_by (N := N_rnd) (sc := defScope s__law_rounds) (by decide +kernel)) (fun _ _ _ _ _ => gt_name nd)
    (fun x hx _ _ _ _ _ => ?_) (fun _ _ => True.intro) (by simp) (by unfold rangeD; rw [List.length_map, List.length_range]; omega)) ?_)
  · unfold rangeD at hx
    obtain ⟨k, hk, rfl⟩ := List.mem_map.mp hx
    have hk := List.mem_range.mp hk
    exact d_lst (da_cons (d_call G1 (hr.mono (by decide)) passN (da_cons (dv 0 rfl) (da_one (dv 2 rfl))) ⟨ns, _, rfl, hl, by omega, by omega, rfl⟩) (da_one d_int)) (by simp)
  · show some (Res.ok (.lst _)) = some (Res.ok (.lst _))
    congr 3
    unfold rangeD
    rw [List.map_map, List.map_map, Int.sub_zero]
    refine List.map_congr_left fun k _ => ?_
    show Dat.lst [.int (cellF ns (0 + (k : Nat))), .int 0] = Dat.lst [.int (cellF ns (k : Nat)), .int 0]
    rw [Int.zero_add]
end
end G

set_option Elab.async false
set_option linter.all false
set_option maxRecDepth 100000
set_option maxHeartbeats 4000000
namespace G
open PySem PySem.Spec PyProof.Rows L2 TL
def prD (s : Nat × Nat) : Dat := .tup [.int s.1, .int s.2]
def shD : List Dat := shps.map prD
def leD (size : Int) : Dat → Bool
  | .tup [.int a, .int b] => decide (a * b ≤ size)
  | _ => false
theorem shD_pos {size : Int} (h : 2 ≤ size) : (shD.filter (leD size)).map id ≠ [] := by
  intro e
  rw [List.map_id] at e
  have : prD (1, 2) ∈ shD.filter (leD size) := List.mem_filter.mpr ⟨List.mem_map.mpr ⟨(1, 2), by decide, rfl⟩, by show decide ((1 : Int) * 2 ≤ size) = true; exact decide_eq_true (by omega)⟩
  rw [e] at this
  cases this
theorem shD_mem {size : Int} {x : Dat} (h : x ∈ (shD.filter (leD size)).map id) : ∃ s ∈ shps, x = prD s ∧ ((s.1 * s.2 : Nat) : Int) ≤ size := by
  rw [List.map_id] at h
  obtain ⟨h1, h2⟩ := List.mem_filter.mp h
  obtain ⟨s, hs, rfl⟩ := List.mem_map.mp h1
  refine ⟨s, hs, rfl, ?_⟩
  have h2 : decide (((s.1 : Nat) : Int) * (s.2 : Nat) ≤ size) = true := h2
  have h2 := of_decide_eq_true h2
  rw [Int.natCast_mul]
  exact h2
theorem shD_len {size : Int} : ((shD.filter (leD size)).map id).length ≤ 13 := by
  rw [List.length_map]
  exact Nat.le_trans (List.length_filter_le _ _) (by decide)
theorem shps_le : ∀ s ∈ shps, 1 ≤ s.1 ∧ 1 ≤ s.2 ∧ s.1 ≤ 6 ∧ s.2 ≤ 6 ∧ 2 ≤ s.1 * s.2 ∧ s.1 * s.2 ≤ 6 := by decide
theorem isFm_mk {f : Fm} (h1 : 1 ≤ f.length) (h2 : f.length ≤ 6) (h3 : ∀ l ∈ f, l.length = (f.headD []).length) (h4 : 2 ≤ f.flatten.length) (h5 : f.flatten.length ≤ 6) (h6 : sortN f.flatten = lets.take f.flatten.length) : isFm f = true := by
  unfold isFm
  simp only [Bool.and_eq_true, decide_eq_true_eq, List.all_eq_true]
  exact ⟨⟨⟨by omega, by omega⟩, h3⟩, ⟨by omega, by omega⟩, h6⟩
def chunk (p : List Nat) (c r : Nat) : Fm := (List.range r).map fun i => (p.drop (i * c)).take c
theorem chunk_flat (p : List Nat) (c : Nat) : ∀ r, (chunk p c r).flatten = p.take (r * c)
  | 0 => by rw [Nat.zero_mul]; rfl
  | r + 1 => by
    have ih := chunk_flat p c r
    unfold chunk at ih ⊢
    rw [List.range_succ, List.map_append, List.flatten_append, ih, Nat.add_mul, Nat.one_mul, List.take_add]
    simp
theorem lets_sorted (n : Nat) : (lets.take n).Pairwise (· ≤ ·) := List.Pairwise.sublist (List.take_sublist _ _) (by decide)
theorem chunk_isFm {p : List Nat} {r c : Nat} (hs : (r, c) ∈ shps) (hp : p.Perm (lets.take (r * c))) : isFm (chunk p c r) = true ∧ (chunk p c r).length = r ∧ wid (chunk p c r) = c := by
  obtain ⟨a1, a2, a3, a4, a5, a6⟩ := shps_le _ hs
  have hl : p.length = r * c := by
    rw [hp.length_eq, List.length_take]
    exact Nat.min_eq_left a6
  have el : (chunk p c r).length = r := by unfold chunk; rw [List.length_map, List.length_range]
  have rows : ∀ l ∈ chunk p c r, l.length = c := fun l hm => by
    obtain ⟨i, hi, rfl⟩ := List.mem_map.mp hm
    have hi := List.mem_range.mp hi
    rw [List.length_take, List.length_drop, hl]
    have : (i + 1) * c ≤ r * c := Nat.mul_le_mul_right c hi
    rw [Nat.add_mul] at this
    omega
  have hw : wid (chunk p c r) = c := by
    cases e : chunk p c r with
    | nil =>
      rw [e] at el
      simp at el
      omega
    | cons a b => exact rows a (by rw [e]; exact List.mem_cons_self)
  have ef : (chunk p c r).flatten = p := by
    rw [chunk_flat, ← hl, List.take_length]
  refine ⟨isFm_mk (by omega) (by omega) (fun l hm => (rows l hm).trans hw.symm) (by rw [ef, hl]; exact a5) (by rw [ef, hl]; exact a6) ?_, el, hw⟩
  rw [ef, hl]
  exact (sortN_uniq hp.symm (lets_sorted _)).symm
theorem cut_ab {l : List Nat} {a b : Nat} (h : a ≤ l.length) (hb : b ≤ l.length) : cutN l (some (a : Int)) (some (b : Int)) = (l.drop a).take (b - a) := by
  unfold cutN
  rw [HT.sIx_nat, HT.sIx_nat, Nat.min_eq_left h, Nat.min_eq_left hb]
theorem cut_0b {l : List Nat} {b : Nat} (hb : b ≤ l.length) : cutN l none (some (b : Int)) = l.take b := by
  unfold cutN
  rw [HT.sIx_none, HT.sIx_nat, Nat.min_eq_left hb, List.drop_zero, Nat.sub_zero]
theorem cut_an {l : List Nat} {a : Nat} (h : a ≤ l.length) : cutN l (some (a : Int)) none = l.drop a := by
  unfold cutN
  rw [HT.sIx_none, HT.sIx_nat, Nat.min_eq_left h]
  exact List.take_of_length_le (by rw [List.length_drop]; exact Nat.le_refl _)
theorem perm_step {p l : List Nat} {k : Nat} (h : k < l.length) : ((p ++ [l[k]]) ++ (l.take k ++ l.drop (k + 1))).Perm (p ++ l) := by
  have e : l = l.take k ++ l[k] :: l.drop (k + 1) := by
    rw [← List.drop_eq_getElem_cons h, List.take_append_drop]
  rw [List.append_assoc]
  refine List.Perm.append_left p ?_
  conv => rhs; rw [e]
  exact (List.perm_middle (a := l[k]) (l₁ := l.take k) (l₂ := l.drop (k + 1))).symm
theorem str_ne_nil (l : List Nat) : (!Dat.eq (.str l) (.str [])) = decide (l ≠ []) := by
  show (!decide (l = [])) = _
  by_cases h : l = [] <;> simp [h]
section
variable {P : Program} {w : World} {K : PySem.W.Frag} {mg : Str → Option Value} {base : Heap}
def C_anyf : List Dat → (Dat → Prop) → Prop := fun as S => ∃ m : Int, as = [.int m] ∧ 2 ≤ m ∧ m ≤ 6 ∧ S = fun d => ∃ f : Fm, d = F_ f ∧ isFm f = true
abbrev N_anf : List Str := ["dice", "size", "some", "ranks", "files", "people", "left", "at", "pair", "rank"]
theorem sc_anyf : FnScope N_anf ["dice", "size"] (defScope s__law_any_formation) := ⟨rfl, rfl, rfl, by decide +kernel, rfl, by decide +kernel, by decide +kernel⟩
theorem codes_ok {l : List Nat} {n : Nat} {p : List Nat} (h : (p ++ l).Perm (lets.take n)) : okn 9 (.str l) = true := by
  show (l.all fun c => Nat.blt c 1114112) = true
  rw [List.all_eq_true]
  exact fun c hc => lets_ok c (List.mem_of_mem_take (h.mem_iff.mp (List.mem_append_right p hc)))
theorem c_anyf (B : Bi mg) (G1 : FnD P w K mg base "_law_roll" ["dice", "many"] C_roll 2) (h : At K mg "_law_any_formation" s__law_any_formation) : FnD P w K mg base "_law_any_formation" ["dice", "size"] C_anyf 3 := by
  refine h.d1 (fun _ _ _ _ _ _ us hl => match us, hl with | [_, _], _ => rfl) fun f fd F => fnD_ok F sc_anyf (fun as r ⟨m, e, _⟩ => by rw [e]; rfl) (by decide) fun cdv A outer s H E as S W a hM hd hdc hr ⟨m, e, h0, h1, er⟩ => ?_
  subst e er
  have nd := sc_anyf.nd
  refine ss_cons (s_set 2 nd (d := .lst shD) (d_lst (da_cons (d_tup (da_cons d_int (da_one d_int)) (by decide)) (da_cons (d_tup (da_cons d_int (da_one d_int)) (by decide)) (da_cons (d_tup (da_cons d_int (da_one d_int)) (by decide)) (da_cons (d_tup (da_cons d_int (da_one d_int)) (by decide)) (da_cons (d_tup (da_cons d_int (da_one d_int)) (by decide)) (da_cons (d_tup (da_cons d_int (da_one d_int)) (by decide)) (da_cons (d_tup (da_cons d_int (da_one d_int)) (by decide)) (da_cons (d_tup (da_cons d_int (da_one d_int)) (by decide)) (da_cons (d_tup (da_cons d_int (da_one d_int)) (by decide)) (da_cons (d_tup (da_cons d_int (da_one d_int)) (by decide)) (da_cons (d_tup (da_cons d_int (da_one d_int)) (by decide)) (da_cons (d_tup (da_cons d_int (da_one d_int)) (by decide)) (da_cons (d_tup (da_cons d_int (da_one d_int)) (by decide)) da_nil))))))))))))) (by decide)) ?_)
  refine ss_cons (s_setLc1 2 (own := [("pair", 8)]) (is := [8]) (pr := fun _ => True) (bd := bd1 8) (pp := leD m) (f := id) rfl nd (i_list (dv 2 rfl)) (blkOk_by (N := N_anf) (sc := defScope s__law_any_formation) (by decide +kernel)) (fun _ _ _ _ _ => gt_name nd) (fun x hx _ _ _ _ _ => ?_) (fun x hx _ _ _ _ _ _ => dv 8 rfl) (fun _ _ => True.intro) (by simp) (by decide) ?_)
  · obtain ⟨s, hs, rfl⟩ := List.mem_map.mp hx
    obtain ⟨a1, a2, a3, a4, a5, a6⟩ := shps_le s hs
    exact t_cmp op_le o_le (d_mul (.inl ⟨by omega, by omega⟩) (d_ixT (dv 8 rfl) d_int (atI_nat (j := 0) rfl)) (d_ixT (dv 8 rfl) d_int (atI_nat (j := 1) rfl))) (dv 1 rfl)
  have hne := shD_pos h0
  have hlen := shD_len (size := m)
  have hmem := fun x => shD_mem (size := m) (x := x)
  generalize ((shD.filter (leD m)).map id) = xs at hne hlen hmem
  have hpos : 0 < xs.length := List.length_pos_iff.mpr hne
  refine ss_cons (s_asg2DE (i := 3) (j := 4) (S := fun d => d ∈ xs) (gt_pair rfl nd (fun h => pg_tup rfl h) (pgs_cons (pg_name (i := 3) nd rfl (.inl rfl)) (pgs_cons (pg_name (i := 4) nd rfl (.inr rfl)) pgs_nil)))
    (de_ix (S1 := fun d => d = .lst xs) (S2 := fun d => ∃ k : Nat, d = .int k ∧ (k : Int) < (xs.length : Int)) ix_list ?_ (de_pure (E := E0) (dv 2 rfl) rfl) (de_call (i := 0) G1 (hr.mono (by decide)) rfl hd (pv 0) (da_one (d_lenL B.len (dv 2 rfl))) ⟨_, rfl, by omega, by omega, rfl⟩)) ?_ fun a b => ps_asg a b)
  · rintro x y rfl ⟨k, rfl, hk⟩
    have hk' : k < xs.length := by omega
    exact ⟨xs[k], List.getElem_mem hk', o_ixL (atI_nat (List.getElem?_eq_getElem hk'))⟩
  intro d hdm
  obtain ⟨⟨r, c⟩, hs, rfl, hle⟩ := hmem d hdm
  refine ⟨_, _, rfl, ?_⟩
  obtain ⟨a1, a2, a3, a4, a5, a6⟩ := shps_le _ hs
  have a1 : 1 ≤ r := a1
  have a2 : 1 ≤ c := a2
  have a3 : r ≤ 6 := a3
  have a4 : c ≤ 6 := a4
  have a5 : 2 ≤ r * c := a5
  have a6 : r * c ≤ 6 := a6
  have erc : ((r : Nat) : Int) * ((c : Nat) : Int) = ((r * c : Nat) : Int) := (Int.natCast_mul r c).symm
  refine ss_cons (s_asg2 (i := 5) (j := 6) (a := .str []) (b := .str (lets.take (r * c))) (gt_pair rfl nd (fun h => pg_tup rfl h) (pgs_cons (pg_name (i := 5) nd rfl (.inr rfl)) (pgs_cons (pg_name (i := 6) nd rfl (.inl rfl)) pgs_nil))) (d_tup (da_cons (d_str rfl) (da_one ((d_slS (l := lets) (d_str rfl) do_none (do_some (d_mul (.inl ⟨by omega, by omega⟩) (dv 3 rfl) (dv 4 rfl))) (by decide)).is ?_))) (by simp)) ?_ fun a b => ps_asg a b)
  · rw [erc, cut_0b (by exact a6)]
  refine ss_cons (s_while (fun n ρ' => ∃ p l : List Nat, n = l.length ∧ (p ++ l).Perm (lets.take (r * c)) ∧ Wk ρ' [.di a, .un, .un, .dt (.int (r : Nat)), .dt (.int (c : Nat)), .dt (.str p), .dt (.str l), .un, .un, .un]) (lets.take (r * c)).length po_cx ⟨[], lets.take (r * c), rfl, List.Perm.refl _, .inr rfl, .inl rfl, .inl rfl, .inr rfl, .inr rfl, .inr rfl, .inr rfl, .inr rfl, .inr rfl, .inr rfl, True.intro⟩ fun n ρ' ⟨p, l, en, hp, hw⟩ => ?_)
  have hpl : p.length + l.length = r * c := by
    rw [← List.length_append, hp.length_eq, List.length_take]
    exact Nat.min_eq_left a6
  refine ⟨decide (l ≠ []), T.weak (T.is (t_ne hr.units (dv 6 rfl) (d_str (l := []) rfl) (codes_ok hp) (by decide)) (str_ne_nil l)) hw, fun hb => ?_, fun hb => ?_⟩
  · have hl0 : 0 < l.length := List.length_pos_iff.mpr (of_decide_eq_true hb)
    refine SS.weak ?_ hw
    refine ss_cons (s_setDE 7 nd (de_call (i := 0) G1 (hr.mono (by decide)) rfl hd (pv 0) (da_one (d_lenS B.len (dv 6 rfl) (by omega))) ⟨_, rfl, by omega, by omega, rfl⟩) ?_)
    rintro d ⟨k, rfl, hk⟩
    have hk : k < l.length := by omega
    refine ss_one (s_asg2 (i := 5) (j := 6) (a := .str (p ++ [l[k]])) (b := .str (l.take k ++ l.drop (k + 1))) (gt_pair rfl nd (fun h => pg_tup rfl h) (pgs_cons (pg_name (i := 5) nd rfl (.inr rfl)) (pgs_cons (pg_name (i := 6) nd rfl (.inl rfl)) pgs_nil)))
      (d_tup (da_cons (d_addS (dv 5 rfl) (d_ixS (dv 6 rfl) (dv 7 rfl) (by omega) (atI_nat (List.getElem?_eq_getElem hk))) (by simp; omega)) (da_one ((d_addS (d_slS (dv 6 rfl) do_none (do_some (dv 7 rfl)) (by omega)) (d_slS (dv 6 rfl) (do_some (d_add (dv 7 rfl) d_int)) do_none (by omega)) ?_).is ?_))) (by simp)) ?_ fun a b => ps_asg a b)
    · rw [cut_0b (by omega), show ((k : Nat) : Int) + 1 = ((k + 1 : Nat) : Int) from rfl, cut_an (by omega), List.length_take, List.length_drop]
      omega
    · rw [cut_0b (by omega), show ((k : Nat) : Int) + 1 = ((k + 1 : Nat) : Int) from rfl, cut_an (by omega)]
    · refine ⟨(l.take k ++ l.drop (k + 1)).length, ?_, p ++ [l[k]], _, rfl, (perm_step hk).trans hp, .inr rfl, .inl rfl, .inl rfl, .inr rfl, .inr rfl, .inr rfl, .inr rfl, .inl rfl, .inl rfl, .inl rfl, True.intro⟩
      rw [en, List.length_append, List.length_take, List.length_drop]
      omega
  · have hl0 : l = [] := by
      have := of_decide_eq_false hb
      exact Classical.not_not.mp this
    subst hl0
    rw [List.append_nil] at hp
    have hpn : p.length = r * c := by simpa using hpl
    refine SS.weak ?_ hw
    obtain ⟨q1, q2, q3⟩ := chunk_isFm hs hp
    refine ss_one (s_ret (d_tupleL B.tuple (d_lc0 (own := [("rank", 9)]) (is := [9]) (pr := fun _ => True) (bd := bd1 9) (f := fun x => match x with | .int i => .str ((p.drop (i.toNat * c)).take c) | _ => .non) rfl nd (i_range1 B.range (dv 3 rfl) ⟨by omega, by omega⟩) (blkOk_by (N := N_anf) (sc := defScope s__law_any_formation) (by decide +kernel)) (fun _ _ _ _ _ => gt_name nd)
      (fun x hx _ _ _ _ _ => ?_) (fun _ _ => True.intro) (by simp) (by unfold rangeD; rw [List.length_map, List.length_range]; omega))) ⟨_, rfl, chunk p c r, ?_, q1⟩)
    · unfold rangeD at hx
      obtain ⟨i, hi, rfl⟩ := List.mem_map.mp hx
      have hi := List.mem_range.mp hi
      have hi : i < r := by omega
      have e0 : (0 : Int) + (i : Nat) = ((i : Nat) : Int) := by omega
      rw [e0]
      have hm : (i + 1) * c ≤ r * c := Nat.mul_le_mul_right c hi
      rw [Nat.add_mul] at hm
      have e1 : ((i : Nat) : Int) * ((c : Nat) : Int) = ((i * c : Nat) : Int) := (Int.natCast_mul i c).symm
      have e2 : ((i * c : Nat) : Int) + ((c : Nat) : Int) = ((i * c + c : Nat) : Int) := (Int.natCast_add _ _).symm
      refine (d_slS (l := p) (dv 5 rfl) (do_some (d_mul (.inl ⟨by omega, by omega⟩) (dv 9 rfl) (dv 4 rfl))) (do_some (d_add (d_mul (.inl ⟨by omega, by omega⟩) (dv 9 rfl) (dv 4 rfl)) (dv 4 rfl))) (by omega)).is ?_
      rw [e1, e2, cut_ab (by omega) (by omega), Nat.add_sub_cancel_left]
      rfl
    · show Dat.tup _ = Dat.tup _
      congr 1
      unfold rangeD chunk
      rw [List.map_map, List.map_map, Int.sub_zero, Int.toNat_natCast]
      refine List.map_congr_left fun i _ => ?_
      show Dat.str ((p.drop (((0 : Int) + (i : Nat)).toNat * c)).take c) = Dat.str ((p.drop (i * c)).take c)
      rw [Int.zero_add, Int.toNat_natCast]
end
end G

set_option Elab.async false
set_option linter.all false
set_option maxRecDepth 100000
set_option maxHeartbeats 4000000
namespace G
open PySem PySem.Spec PyProof.Rows L2 TL
theorem perf_ok {IM : Addr} {f g : Fm} {os : List Nat} (h : aftF f os = some g) : perfR IM f os = .ok (F_ g) := by
  unfold perfR
  rw [h]
/-! ### the law as a def -/
def spL (K : PySem.W.Frag) (T : List (Addr × Str)) : Sp := fun vs H Q E => ∃ B ns, Cov B H ∧ RpA K (mask B H) vs [.scr ns] ∧ ns.length ≤ 1000 ∧ LamX.Tabs T H ∧ (∀ a, a ∈ tbs T → B a = true) ∧ (∀ a ps, B a = true → H a = some (.tbl ps) → a ∈ tbs T) ∧ ∀ H', Q (.bl true) H'
theorem spL_len {K : PySem.W.Frag} {T : List (Addr × Str)} {vs : List V} {H : Hp} {Q : VK} {E : XK} (h : spL K T vs H Q E) : vs.length = 1 := by
  obtain ⟨B, ns, _, ra, _⟩ := h
  rw [ra.length]
  rfl
theorem bodyL {X : Cx} {E : XK} {T : List (Addr × Str)} {N : List Str} {bd : List Stmt} {vs : List V} {H : Hp} {Q : VK} (h : spL X.K T vs H Q E) (hb : ∀ ns : List Int, ns.length ≤ 1000 → SS X E (W0 T) bd (startρ N [.scr ns]) (fun o => o = .rt (.bl true))) : ∃ t, PSs X bd t ∧ t { nx := fun _ H' => Q .non H', rt := Q } (L2.start N vs) H := by
  obtain ⟨B, ns, cv, ra, hl, hT, h1, h2, q⟩ := h
  refine ⟨_, hb ns hl, B, ⟨fun a o m h => ?_, fun a h => h1 a (of_decide_eq_true h), cv, fun a o h => (by cases h), hT, fun a h => (by cases h), fun a ps hb h => decide_eq_true (h2 a ps hb h)⟩, envR_start ra, ?_⟩
  · rw [show (W0 T).H0 a = none from dwT m] at h
    cases h
  · refine ⟨fun ρ σ H' B' e w en => (by cases e), fun d v H' B' e w r' => ?_, fun c H' B' e w => (by cases e), fun ρ σ H' B' e w en => (by cases e), fun ρ σ H' B' e w en => (by cases e), fun ρ σ d v H' B' e w en r' => (by cases e), fun ρ σ c H' B' e w en => (by cases e)⟩
    have e := Out.rt.inj e
    subst e
    rw [rp_bl r']
    exact q H'
theorem fnL_ok {P : Program} {w : World} {K : PySem.W.Frag} {mg : Str → Option Value} {base : Heap} {x qual : Str} {st : Stmt} {f : Addr} {fd : FuncData} {N : List Str} {k : Nat} {T : List (Addr × Str)} (F : Fun K x qual st f fd) (Sc : FnScope N ["script"] (defScope st))
    (hbody : ∀ (cdv : Value) (A : Around) (outer : List Env) (s : Shared) (H : Hp) (E : XK) (ns : List Int), Room k (A.deeper (envOfC qual (defScope st) s.heap.objs.size f cdv)) → ns.length ≤ 1000 →
      SS (cxOf (L2N.CX P w) P w K mg base N qual (defScope st) f cdv A outer s H E) E (W0 T) (defBody st) (startρ N [.scr ns]) (fun o => o = .rt (.bl true))) : FnOk P w K mg base (L2N.CX P w) (k + 1) f fd ["script"] (spL K T) :=
  okN F Sc (fun vs H Q E h => spL_len h) fun cdv A outer s H vs Q E hr h => bodyL h fun ns hl => hbody cdv A outer s H E ns hr hl
/-- the same, the code object known -/
theorem fnL_okC {P : Program} {w : World} {K : PySem.W.Frag} {mg : Str → Option Value} {base : Heap} {x qual : Str} {st : Stmt} {f : Addr} {oc : Value} {od an : Option Addr} {osl : Array (Option Value)} {kV doc pm cdv ct : Value} {N : List Str} {k : Nat} {T : List (Addr × Str)} (l : K.lookup f = some ⟨oc, od, .func (PySem.W.fnOf x qual (defArgs st) (defBody st) (defScope st) .none kV doc pm an cdv ct), osl⟩)
    (c : PySem.W.codeIn K cdv qual = true) (Sc : FnScope N ["script"] (defScope st))
    (hbody : ∀ (A : Around) (outer : List Env) (s : Shared) (H : Hp) (E : XK) (ns : List Int), Room k (A.deeper (envOfC qual (defScope st) s.heap.objs.size f cdv)) → ns.length ≤ 1000 →
      SS (cxOf (L2N.CX P w) P w K mg base N qual (defScope st) f cdv A outer s H E) E (W0 T) (defBody st) (startρ N [.scr ns]) (fun o => o = .rt (.bl true))) : FnOk P w K mg base (L2N.CX P w) (k + 1) f (PySem.W.fnOf x qual (defArgs st) (defBody st) (defScope st) .none kV doc pm an cdv ct) ["script"] (spL K T) :=
  fn_of l c Sc (fun vs H Q E h => spL_len h) fun A outer s H vs Q E hr h => bodyL h fun ns hl => hbody A outer s H E ns hr hl
/-- a formation's two sizes -/
theorem F_ne {X : Cx} {ρ : List Sl} {a b : Expr} {f g : Fm} {pos : Pos} (hu : X.A.units + 64 < cLine) (ha : D X E0 a ρ (.ok (F_ f))) (hb : D X E0 b ρ (.ok (F_ g))) (hf : isFm f = true) (hg : isFm g = true) : T X (.Compare a [.NotEq] [b] pos) ρ (!decide (f = g)) :=
  T.is (t_ne hu ha hb (okn_mono (by decide) (okn_F hf)) (okn_mono (by decide) (okn_F hg))) (by rw [F_eq])
theorem F_same {X : Cx} {ρ : List Sl} {a b : Expr} {f : Fm} {pos : Pos} (hu : X.A.units + 64 < cLine) (ha : D X E0 a ρ (.ok (F_ f))) (hb : D X E0 b ρ (.ok (F_ f))) (hf : isFm f = true) : T X (.Compare a [.NotEq] [b] pos) ρ false :=
  (F_ne hu ha hb hf hf).is (by simp)
theorem int_ne {X : Cx} {ρ : List Sl} {a b : Expr} {i j : Int} {pos : Pos} (hu : X.A.units + 64 < cLine) (ha : D X E0 a ρ (.ok (.int i))) (hb : D X E0 b ρ (.ok (.int j))) : T X (.Compare a [.NotEq] [b] pos) ρ (!decide (i = j)) := t_ne hu ha hb rfl rfl
theorem int_eq {X : Cx} {ρ : List Sl} {a b : Expr} {i j : Int} {pos : Pos} (hu : X.A.units + 64 < cLine) (ha : D X E0 a ρ (.ok (.int i))) (hb : D X E0 b ρ (.ok (.int j))) : T X (.Compare a [.Eq] [b] pos) ρ (decide (i = j)) := t_eq hu ha hb rfl rfl
theorem sh_ne {X : Cx} {ρ : List Sl} {a b : Expr} {i j k l : Int} {pos : Pos} (hu : X.A.units + 64 < cLine) (ha : D X E0 a ρ (.ok (.tup [.int i, .int j]))) (hb : D X E0 b ρ (.ok (.tup [.int k, .int l]))) : T X (.Compare a [.NotEq] [b] pos) ρ (!(decide (i = k) && decide (j = l))) := (t_ne hu ha hb rfl rfl).is (by
    show (!(decide (i = k) && (decide (j = l) && true))) = _
    rw [Bool.and_true])
end G

set_option Elab.async false
set_option linter.all false
set_option maxRecDepth 100000
set_option maxHeartbeats 4000000
namespace G
open PySem PySem.Spec PyProof.Rows L2 TL L2H HotX LamX
/-! ### _law_term -/
def excB (K : PySem.W.Frag) (c CS : Addr) : Bool :=
  PySem.W.findIn K (.ref c) "__getattribute__" == some (some (.builtin "BaseException.__getattribute__")) && PySem.W.findIn K (.ref c) "__getattr__" == some none && PySem.W.subIn K (.ref c) (.type "BaseException") == some true && PySem.W.hasDictIn K c
  && PySem.W.findIn K (.ref c) "__class__" == some (some (.builtin "object.__class__")) && PySem.W.specialIn K (.builtin "object.__class__") "__get__" == some (some (.builtin "getset_descriptor.__get__")) && PySem.W.takesIn K (.builtin "object.__class__") == some true && PySem.W.mroIn K c (.type "object") == some true
  && PySem.W.kitOne K (.ref c) (.type "ValueError") == some true && PySem.W.exmOne K (.ref c) (.ref CS) == some true
def kitB9 (K : PySem.W.Frag) (cs : List Addr) : Bool := (List.range 9).all fun i => (List.range 9).all fun j => PySem.W.kitOne K (.ref (cs.getD i 0)) (.ref (cs.getD j 0)) == some (decide (i = j))
theorem excB_C {K : PySem.W.Frag} {c CS : Addr} (h : excB K c CS = true) : ExcC K c ∧ PySem.W.kitOne K (.ref c) (.type "ValueError") = some true ∧ PySem.W.exmOne K (.ref c) (.ref CS) = some true := by
  unfold excB at h
  simp only [Bool.and_eq_true, beq_iff_eq] at h
  obtain ⟨⟨⟨⟨⟨⟨⟨⟨⟨h1, h2⟩, h3⟩, h4⟩, h5⟩, h6⟩, h7⟩, h8⟩, h9⟩, h10⟩ := h
  exact ⟨⟨h1, h2, h3, h4, h5, h6, h7, h8⟩, h9, h10⟩
def kinds : List (List Nat) := [[73, 110, 118, 97, 108, 105, 100, 70, 111, 114, 109, 97, 116, 105, 111, 110], [73, 110, 118, 97, 108, 105, 100, 79, 114, 100, 101, 114, 115], [73, 110, 118, 97, 108, 105, 100, 80, 101, 114, 115, 111, 110], [73, 110, 118, 97, 108, 105, 100, 83, 104, 97, 112, 101], [73, 110, 118, 97, 108, 105, 100, 84, 101, 120, 116], [73, 109, 112, 111, 115, 115, 105, 98, 108, 101], [85, 110, 108, 105, 107, 101], [78, 101, 119, 83, 104, 97, 112, 101], [78, 111, 116, 104, 105, 110, 103, 84, 111, 85, 110, 100, 111]]
structure Errs (K : PySem.W.Frag) (mg : Str → Option Value) (cs : List Addr) (CS : Addr) : Prop where
  c0 : mg "InvalidFormation" = some (.ref (cs.getD 0 0))
  c1 : mg "InvalidOrders" = some (.ref (cs.getD 1 0))
  c2 : mg "InvalidPerson" = some (.ref (cs.getD 2 0))
  c3 : mg "InvalidShape" = some (.ref (cs.getD 3 0))
  c4 : mg "InvalidText" = some (.ref (cs.getD 4 0))
  c5 : mg "Impossible" = some (.ref (cs.getD 5 0))
  c6 : mg "Unlike" = some (.ref (cs.getD 6 0))
  c7 : mg "NewShape" = some (.ref (cs.getD 7 0))
  c8 : mg "NothingToUndo" = some (.ref (cs.getD 8 0))
  ve : mg "ValueError" = none
  kit : kitB9 K cs = true
  exc : (cs.all fun c => excB K c CS) = true
  len : cs.length = 9
def Known (cs : List Addr) (C : Addr) (nm : List Nat) : Prop := ∃ i, i < 9 ∧ C = cs.getD i 0 ∧ nm = kinds.getD i []
theorem Errs.k {K : PySem.W.Frag} {mg : Str → Option Value} {cs : List Addr} {CS : Addr} (h : Errs K mg cs CS) {i j : Nat} (hi : i < 9) (hj : j < 9) : PySem.W.kitOne K (.ref (cs.getD i 0)) (.ref (cs.getD j 0)) = some (decide (i = j)) := by
  have z := h.kit
  unfold kitB9 at z
  rw [List.all_eq_true] at z
  have z := z i (List.mem_range.mpr hi)
  rw [List.all_eq_true] at z
  exact beq_iff_eq.mp (z j (List.mem_range.mpr hj))
theorem Errs.x {K : PySem.W.Frag} {mg : Str → Option Value} {cs : List Addr} {CS : Addr} (h : Errs K mg cs CS) {i : Nat} (hi : i < 9) : ExcC K (cs.getD i 0) ∧ PySem.W.kitOne K (.ref (cs.getD i 0)) (.type "ValueError") = some true ∧ PySem.W.exmOne K (.ref (cs.getD i 0)) (.ref CS) = some true := by
  refine excB_C (List.all_eq_true.mp h.exc _ ?_)
  rw [List.getD_eq_getElem?_getD, List.getElem?_eq_getElem (by rw [h.len]; exact hi)]
  exact List.getElem_mem _
abbrev N_trm : List Str := ["e", "flags", "kinds", "flag"]
theorem sc_term : FnScope N_trm ["e"] (defScope s__law_term) := ⟨rfl, rfl, rfl, by decide +kernel, rfl, by decide +kernel, by decide +kernel⟩
def flg (i : Nat) : List Bool := (List.range 9).map fun j => decide (i = j)
theorem flg_sum : ∀ i, i < 9 → sumL ((flg i).map fun b => (if b then 1 else 0 : Int)) ((flg i).map fun b => (if b then 1 else 0 : Int)).length = 1 := by decide +kernel
theorem flg_in : ∀ i, i < 9 → ∀ j, j < 9 → (-(2 ^ 63) ≤ ((flg i).map fun b => (if b then 1 else 0 : Int)).getD j 0 ∧ ((flg i).map fun b => (if b then 1 else 0 : Int)).getD j 0 < 2 ^ 63) ∧ (-(2 ^ 63) ≤ sumL ((flg i).map fun b => (if b then 1 else 0 : Int)) (j + 1) ∧ sumL ((flg i).map fun b => (if b then 1 else 0 : Int)) (j + 1) < 2 ^ 63) := by decide +kernel
theorem flg_at : ∀ i, i < 9 → (flg i)[i]? = some true ∧ ∀ m, m < i → (flg i)[m]? = some false := fun i hi => by
  unfold flg
  refine ⟨?_, fun m hm => ?_⟩
  · rw [List.getElem?_map, List.getElem?_range hi]
    simp
  · rw [List.getElem?_map, List.getElem?_range (by omega)]
    show some (decide (i = m)) = some false
    rw [decide_eq_false (by omega)]
theorem kinds_at : ∀ i, i < 9 → (kinds.map Dat.str)[i]? = some (.str (kinds.getD i [])) := fun i hi => by
  rw [List.getElem?_map, List.getD_eq_getElem?_getD, List.getElem?_eq_getElem (show i < kinds.length from hi)]
  rfl
section
variable {P : Program} {w : World} {K : PySem.W.Frag} {mg : Str → Option Value} {base : Heap} {cs : List Addr} {CS : Addr}
theorem ok_term {f : Addr} {fd : FuncData} (B : Bi mg) (R : Errs K mg cs CS) (F : Fun K "_law_term" "_law_term" s__law_term f fd) : TermOk P w K mg base f 1 (Known cs) := by
  intro A outer s H Q p C nm ⟨i, hi, eC, en⟩ hz hf hr hot hpin e0 ⟨Bm, cv, hQ⟩
  subst eC en
  have hb : Binds K fd ["e"] [] := F.binds (fun _ _ _ _ _ _ us hl => match us, hl with | [_], _ => rfl)
  refine gh_run (k := 0) (vs := [.ref p.1]) (us := [.ref p.1]) F sc_term hr hot hpin e0 hb (.cons rfl .nil) rfl fun cdv hr' => ?_
  obtain ⟨hx, hve, _⟩ := R.x hi
  have hu65 : (A.deeper (envOfC "_law_term" (defScope s__law_term) s.heap.objs.size f cdv)).units + 65 < cLine := by have := hr'.un; omega
  have hu64 := Nat.lt_of_succ_lt hu65
  have nd := sc_term.nd
  let Y := cxH (L2N.CX P w) P w K mg base N_trm "_law_term" (defScope s__law_term) f cdv A outer s H E0 p
  have hot' : HotC Y := ⟨p, hot, List.mem_cons_self⟩
  have hp : p ∈ Y.pn := List.mem_cons_self
  have isC : ∀ {x : Str} {j : Nat} {ρ : List Sl} {p1 p2 p3 pos : Pos}, ρ[0]? = some (.rf p.1) → mg x = some (.ref (cs.getD j 0)) → j < 9 → Gl Y x → (x == ("__debug__" : Str)) = false → D Y E0 (.Call (.Name "isinstance" p1) [.Name "e" p2, .Name x p3] [] pos) ρ (.ok (.bl (decide (i = j)))) := fun {x j ρ p1 p2 p3 pos} h0 hmx hj hgx hdx =>
    d_isE (X := Y) (i := 0) (v := .ref (cs.getD j 0)) (cv := .ref (cs.getD j 0)) hx hz hf hp h0 (pv 0) (pe_glob hgx hmx rfl hdx) (fun u hu => hu) (R.k hi hj) B.isinstance
  let W : Wl := ⟨H, Bm, fun _ => false, fun _ => none, fun _ => True, fun _ _ _ _ => True.intro, cv, fun _ => false, fun _ => true⟩
  have body : SS Y E0 W (defBody s__law_term) [.rf p.1, .un, .un, .un] (fun o => o = .rt (errD (kinds.getD i []))) := by
    refine ss_cons (s_set 1 nd (d_lst (da_cons (isC rfl R.c0 (by decide) rfl (by decide)) (da_cons (isC rfl R.c1 (by decide) rfl (by decide)) (da_one (isC rfl R.c2 (by decide) rfl (by decide))))) (by simp)) ?_)
    refine ss_cons (s_set 1 nd (d_addL (dv 1 rfl) (d_lst (da_cons (isC rfl R.c3 (by decide) rfl (by decide)) (da_cons (isC rfl R.c4 (by decide) rfl (by decide)) (da_one (isC rfl R.c5 (by decide) rfl (by decide))))) (by simp)) (by simp)) ?_)
    refine ss_cons (s_set 1 nd (d_addL (dv 1 rfl) (d_lst (da_cons (isC rfl R.c6 (by decide) rfl (by decide)) (da_cons (isC rfl R.c7 (by decide) rfl (by decide)) (da_one (isC rfl R.c8 (by decide) rfl (by decide))))) (by simp)) (by simp)) ?_)
    refine ss_cons (s_set 2 nd (d_lst (da_cons (d_str (l := kinds.getD 0 []) rfl) (da_cons (d_str (l := kinds.getD 1 []) rfl) (da_cons (d_str (l := kinds.getD 2 []) rfl) (da_cons (d_str (l := kinds.getD 3 []) rfl) (da_cons (d_str (l := kinds.getD 4 []) rfl) (da_one (d_str (l := kinds.getD 5 []) rfl))))))) (by simp)) ?_)
    refine ss_cons (s_set 2 nd (d_addL (dv 2 rfl) (d_lst (da_cons (d_str (l := kinds.getD 6 []) rfl) (da_cons (d_str (l := kinds.getD 7 []) rfl) (da_one (d_str (l := kinds.getD 8 []) rfl)))) (by simp)) (by simp)) ?_)
    have e1 : (Sl.dt (.lst ((flg i).map Dat.bl))) = Sl.dt (.lst (([Dat.bl (decide (i = 0)), .bl (decide (i = 1)), .bl (decide (i = 2))] ++ [Dat.bl (decide (i = 3)), .bl (decide (i = 4)), .bl (decide (i = 5))]) ++ [Dat.bl (decide (i = 6)), .bl (decide (i = 7)), .bl (decide (i = 8))])) := rfl
    refine SS.weak (ρ' := [.rf p.1, .dt (.lst ((flg i).map Dat.bl)), .dt (.lst (kinds.map Dat.str)), .un]) ?_ ⟨.inr rfl, .inr e1.symm, .inr rfl, .inr rfl, True.intro⟩
    refine ss_cons (s_if (b := false) (t_w (w_or (x := false) (y := false) (T.is (int_ne (i := 1) (j := 1) hu64 ((d_sumB (bs := flg i) (i := 1) hot' rfl (by simp [flg]) (fun j hj => flg_in i hi j (by simpa [flg] using hj)) (gh_ints hot' rfl (.inl rfl) B.int (by decide +kernel) (by decide +kernel) rfl (by decide +kernel) rfl rfl (by decide)) B.sum).is (congrArg Dat.int (flg_sum i hi))) d_int) (by simp))
      fun _ => w_or1 (T.is (t_not (t_val (d_isE (X := Y) (i := 0) (v := .ty "ValueError") (cv := .type "ValueError") hx hz hf hp rfl (pv 0) (pe_bltn rfl R.ve (by decide +kernel) rfl) (fun u hu => hu) hve B.isinstance))) rfl))) (fun h => by cases h) (fun _ => ss_nil ?_))
    refine ss_one (s_ret (d_tup (da_cons (d_str (l := errC) rfl) (da_one (d_ixL (dv 2 rfl) (d_indexB (i := 1) (j := i) hu65 rfl (flg_at i hi).1 (flg_at i hi).2 (pv 1) fun a b => pe_bm PySem.F.plainAttrs_list PySem.F.slot_list_index PySem.F.type_list_index (mt_indexD hu65) a (pa_cons b pa_nil)) (atI_nat (kinds_at i hi))))) (by simp)) rfl)
  refine ⟨_, body, Bm, ⟨fun a o _ h => h, fun _ h => h, cv, fun a o h => (by cases h), True.intro, fun a h => (by cases h), fun _ _ _ _ => rfl⟩, ?_, ?_⟩
  · refine EnvR.cons (s := .rf p.1) (o := some (.ref p.1)) (envR_un (n := 3) rfl) rfl fun x hx => ?_
    have hx : x ∈ List.replicate 3 Sl.un := hx
    rw [(List.mem_replicate.mp hx).2]
    rfl
  · refine ⟨fun ρ σ H' B' e w en => (by cases e), fun d v H' B' e w r' => ?_, fun c H' B' e w => (by cases e), fun ρ σ H' B' e w en => (by cases e), fun ρ σ H' B' e w en => (by cases e), fun ρ σ d v H' B' e w en r' => (by cases e), fun ρ σ c H' B' e w en => (by cases e)⟩
    have e := Out.rt.inj e
    subst e
    exact hQ v H' (fun a o h => w.old a o rfl h) (r'.mono (mask_le w.b0))
end
end G

set_option Elab.async false
set_option linter.all false
set_option maxRecDepth 100000
set_option maxHeartbeats 4000000
namespace G
open PySem PySem.Spec PyProof.Rows L2 TL
/-! ### ''.join of signs that the dice choose -/
/-- one sign: l[_law_roll(dice, n)] -/
def tSig (K : PySem.W.Frag) (l : List Nat) (i : Nat) : TE := fun σ H Q => ∃ a, σ[i]? = some (some (.ref a)) ∧ (∃ c n, H a = some (.lst [.int c, .int n])) ∧ ∀ H' x, (∀ b o, b ≠ a → H b = some o → H' b = some o) → (∃ c n, H' a = some (.lst [.int c, .int n])) → x ∈ l → Q (.str (mkS [x])) H'
section
variable {X : Cx} {E : XK} {W : Wl} {ρ : List Sl} {P : Out → Prop}
theorem pe_sig {x dn : Str} {ps : List Str} {k : Nat} {l : List Nat} {i : Nat} {y : Str} {n : Int} {j1 j2 : Nat} {p pd pc pl cpos pos : Pos} (F : FnD X.prog X.w X.K X.mg X.base x ps (fun as S => ∃ m : Int, as = [.int m] ∧ 0 < m ∧ m ≤ 1000 ∧ S = fun d => ∃ k : Nat, d = .int k ∧ (k : Int) < m) k) (hr : Room k X.A) (hx : PE X (.Name dn pd) (tVar i)) (hl : y = mkS l) (hn : (l.length : Int) = n) (h1 : 0 < l.length) (h2 : l.length ≤ 1000)
    (hg : Gl X x := by rfl) (hdb : (x == ("__debug__" : Str)) = false := by decide) (he : starEach [.Name dn pd, .Constant (.int n) j2 pc] X.env = (false, eval (.Name dn pd) X.env) :: starEach [.Constant (.int n) j2 pc] X.env := by rfl) (hpl : (backTo cpos (starEach [.Constant (.int n) j2 pc] X.env)).any (·.1) = false := by rfl) :
    PE X (.Subscript (.Constant (.str y) j1 pl) (.Call (.Name x p) [.Name dn pd, .Constant (.int n) j2 pc] [] cpos) pos) (tSig X.K l i) := by
  obtain ⟨f, fd, f1, f2, f3, f4⟩ := F.ex
  subst hl hn
  refine pe_imp (pe_ix ix_str pe_str (pe_callS (E := fun _ => E0) f1 hr hg f2 f3 f4 (fun σ pins H s e s' I c => passN pins σ H s e s' I c) (pa_cons hx (pa_cons pe_int pa_nil) he) hdb he hpl) (fun _ _ => rfl)) fun σ H Q ⟨a, hσ, hc, q⟩ => ?_
  obtain ⟨c0, n0, h0⟩ := hc
  refine ⟨_, hσ, fun b => decide (b = a), a, [.int (l.length : Nat)], [.int (l.length : Nat)], _, rfl, fun b hb nb => ?_, by simp, ⟨c0, n0, h0⟩, .cons (.int _) .nil, ⟨_, rfl, by omega, by omega, rfl⟩, fun v H' d ⟨k, e, hk⟩ hp hcn rv => ?_⟩
  · rw [of_decide_eq_true hb, h0] at nb
    rcases nb with nb | ⟨_, nb⟩ <;> cases nb
  · subst e
    have hk : k < l.length := by omega
    have ev := rp_int rv
    subst ev
    refine ⟨_, (k : Nat), l[k], rfl, rfl, ?_, atI_nat (by simp [List.getElem?_eq_getElem hk]), q H' l[k] hp hcn (List.getElem_mem hk)⟩
    rw [len_mk]
    exact Nat.le_trans h2 (by decide)
/-- [l[_law_roll(dice, n)] for t in range(e)] -/
theorem de_sigs {elt arg : Expr} {scope : Scope} {own : List (Str × Nat)} {l : List Nat} {i j m : Nat} {a : Addr} {t : Str} {pt p pos rpos : Pos} (hc : X.calm = true) (hN : X.N.Nodup) (hi : ρ[i]? = some (.di a)) (hd : Dw W a) (hij : j ≠ i) (ok : BlkOk X.N X.env.scope scope own) (hown : own.map (·.2) = [j]) (hm : X.mg "range" = none)
    (ha : DEA X W [arg] ρ (fun ds => ∃ k : Nat, ds = [.int k] ∧ k ≤ m)) (hm2 : m ≤ 1000) (hgt : Bk X scope fun Y => PG Y (.Name t pt) (gName j)) (he : Bk X scope fun Y => PE Y elt (tSig X.K l i))
    (hg : Gl X "range" := by rfl) (hs1 : starEach [arg] X.env = [(false, eval arg X.env)] := by rfl) (hs : ∀ x, foldedSetIterable (.Call (.Name "range" p) [arg] [] rpos) X.env x = pure x := by intro _; rfl) :
    DE X W (.ListComp elt [⟨.Name t pt, .Call (.Name "range" p) [arg] [] rpos, [], 0⟩] scope pos) ρ (fun d => ∃ cs : List Nat, d = .lst (cs.map fun c => .str [c]) ∧ cs.length ≤ m ∧ ∀ c ∈ cs, c ∈ l) := by
  refine pe_imp (pe_lc (tt := tYes) hc hN (pi_range1 hg hm ha hs1) ok hgt (fun _ _ _ _ _ => pts_nil) he hs) fun σ H Q ⟨B, w, en, q⟩ => ⟨B, w, en, fun vs H1 B1 ds ⟨k, e, hk⟩ w1 en1 m1 rs => ?_⟩
  subst e
  obtain ⟨v, rfl, rv⟩ := rpA_one rs
  rw [rp_int rv]
  refine ⟨k, rfl, by omega, by omega, fun D nD => ?_⟩
  obtain ⟨hσ, hb, c0, n0, h0⟩ := en1.di hi
  have hDa : D ≠ a := fun z => by
    rw [z, h0] at nD
    cases nD
  rw [hown, Int.toNat_natCast]
  have hsl : ∀ v : V, (((L2.wipe σ [j]).set j (some v)) : L2.St)[i]? = some (some (.ref a)) := fun v => by
    show ((List.set σ j none).set j (some v))[i]? = _
    rw [List.getElem?_set_ne hij, List.getElem?_set_ne hij]
    exact hσ
  refine ⟨fun n mm H => mm = k - n ∧ n ≤ k ∧ ∃ cs : List Nat, cs.length = n ∧ (∀ c ∈ cs, c ∈ l) ∧ H D = some (.lst (cs.map fun c => V.str (mkS [c]))) ∧ (∀ b o, b ≠ a → b ≠ D → H1 b = some o → H b = some o) ∧ ∃ c n, H a = some (.lst [.int c, .int n]),
    ⟨k, by simp, Nat.zero_le _, [], rfl, fun _ h => (by cases h), upd_same, fun b o _ hb e => by rw [upd_ne hb]; exact e, c0, n0, by rw [upd_ne (Ne.symm hDa)]; exact h0⟩, ?_⟩
  rintro n mm H2 ⟨rfl, hn, cs, hl, hcs, hD, hk2, hdi⟩
  by_cases hlt : n < k
  · refine .inr ⟨hlt, fun H' => ∃ cs : List Nat, cs.length = n + 1 ∧ (∀ c ∈ cs, c ∈ l) ∧ H' D = some (.lst (cs.map fun c => V.str (mkS [c]))) ∧ (∀ b o, b ≠ a → b ≠ D → H1 b = some o → H' b = some o) ∧ ∃ c n, H' a = some (.lst [.int c, .int n]), fun H' z => ⟨k - (n + 1), by omega, rfl, hlt, z⟩, fun x H3 y => ?_⟩
    obtain ⟨e1, e2⟩ := y
    subst e1
    refine ⟨by rw [wipe_set (List.mem_singleton.mpr rfl)]; show ((List.set σ j none).set j none) = List.set σ j none; rw [List.set_set], ?_⟩
    unfold tYes
    dsimp only
    rw [if_pos rfl]
    refine ⟨a, hsl _, hdi, fun H4 x4 hp hcn hx => ⟨_, hp D _ hDa hD, by rw [List.length_map, hl]; exact Nat.lt_of_le_of_lt (Nat.le_trans hn (Nat.le_trans hk hm2)) (by decide), cs ++ [x4], by rw [List.length_append, hl]; rfl, fun c hc => ?_, by rw [upd_same, List.map_append]; rfl, fun b o hba hbD e => ?_, ?_⟩⟩
    · rcases List.mem_append.mp hc with z | z
      · exact hcs c z
      · rw [List.mem_singleton.mp z]
        exact hx
    · rw [upd_ne hbD]
      exact hp b o hba (hk2 b o hba hbD e)
    · obtain ⟨c, n, e⟩ := hcn
      exact ⟨c, n, by rw [upd_ne (Ne.symm hDa)]; exact e⟩
  · have en : n = k := by omega
    subst en
    obtain ⟨w2, en2, m2⟩ := dice_step w1 en1 hi hd (fun b o hba e => hk2 b o hba (ne_of_none e nD) e) hdi
    refine .inl ⟨Nat.le_refl _, q _ H2 B1 _ ⟨cs, rfl, by omega, hcs⟩ w2 en2 (m1.trans (Sm.of m2)) (.lst (xs := cs.map fun c => V.str (mkS [c])) ?_ ?_)⟩
    · rw [mask_out (w1.cov.new nD)]
      exact hD
    · exact rp_signs cs
where
  rp_signs {K : PySem.W.Frag} {H : Hp} : ∀ cs : List Nat, RpA K H (cs.map fun c => V.str (mkS [c])) (cs.map fun c => .str [c])
    | [] => .nil
    | c :: r => .cons (.str [c]) (rp_signs r)
end
theorem joinL_one : ∀ cs : List Nat, joinL [] (cs.map fun c => [c]) = cs
  | [] => rfl
  | [c] => rfl
  | c :: d :: r => by
    have ih := joinL_one (d :: r)
    show [c] ++ ([] ++ joinL [] ((d :: r).map fun c => [c])) = c :: d :: r
    rw [ih]
    rfl
theorem de_join0 {X : Cx} {W : Wl} {ρ : List Sl} {S1 S : Dat → Prop} {b : Expr} {jj : Nat} {pl apos pos : Pos} (hb : DE X W b ρ S1) (hS : ∀ d, S1 d → ∃ cs : List Nat, d = .lst (cs.map fun c => .str [c]) ∧ cs.length ≤ 1000 ∧ S (.str cs))
    (hs : starEach [b] X.env = [(false, eval b X.env)] := by rfl) (hline : (apos.endLine == pos.line) = true := by rfl) : DE X W (.Call (.Attribute (.Constant (.str "") jj pl) "join" apos) [b] [] pos) ρ S := by
  refine pe_imp (pe_join pe_str hb hs rfl hline) fun σ H Q ⟨B, w, en, q⟩ => ⟨⟨_, rfl⟩, B, w, en, fun vb H2 B2 d hd w2 en2 m2 rb => ?_⟩
  obtain ⟨cs, e, hl, hs⟩ := hS d hd
  subst e
  have e2 : (cs.map fun c => Dat.str [c]) = (cs.map fun c => [c]).map Dat.str := by rw [List.map_map]; rfl
  rw [e2] at rb
  cases rb with
  | lst h r =>
    rw [rpA_strs r] at h
    refine ⟨mkS [], _, (cs.map fun c => [c]).map fun l => (⟨l.toArray⟩ : Str), rfl, rfl, .inl (SqL.of (mask_sub B2 H2 _ _ h)), ?_, ?_⟩
    · rw [join_len [], List.length_map, List.length_map, len_mk]
      have : ((cs.map fun c => [c]).map List.length).sum = cs.length := by
        clear hl hs h r e2 hd
        induction cs with
        | nil => rfl
        | cons c r ih =>
          show 1 + ((r.map fun c => [c]).map List.length).sum = r.length + 1
          rw [ih]
          omega
      show _ + _ * 0 ≤ _
      rw [this]
      omega
    · rw [join_mk [], joinL_one]
      exact q _ H2 B2 _ hs w2 en2 m2 (.str _)
/-! ### _law_any_orders -/
def C_anyo : List Dat → (Dat → Prop) → Prop := fun as S => ∃ m : Nat, as = [.int m] ∧ m ≤ 20 ∧ S = fun d => ∃ os : List Nat, d = .str os ∧ isOrd (.str os) = true ∧ os.length ≤ m
abbrev N_ano : List Str := ["dice", "many", "turn"]
theorem isOrd_mk {os : List Nat} (h1 : os.length ≤ 20) (h2 : ∀ c ∈ os, c ∈ signs) : isOrd (.str os) = true := by
  show (decide ((os.length : Int) ≤ 20) && os.all fun c => decide (c ∈ signs)) = true
  rw [Bool.and_eq_true, List.all_eq_true]
  exact ⟨decide_eq_true (by omega), fun c hc => decide_eq_true (h2 c hc)⟩
section
variable {P : Program} {w : World} {K : PySem.W.Frag} {mg : Str → Option Value} {base : Heap}
theorem sc_anyo : FnScope N_ano ["dice", "many"] (defScope s__law_any_orders) := ⟨rfl, rfl, rfl, by decide +kernel, rfl, by decide +kernel, by decide +kernel⟩
theorem c_anyo (B : Bi mg) (G1 : FnD P w K mg base "_law_roll" ["dice", "many"] C_roll 2) (h : At K mg "_law_any_orders" s__law_any_orders) : FnD P w K mg base "_law_any_orders" ["dice", "many"] C_anyo 3 := by
  refine h.d1 (fun _ _ _ _ _ _ us hl => match us, hl with | [_, _], _ => rfl) fun f fd F => fnD_ok F sc_anyo (fun as r ⟨m, e, _⟩ => by rw [e]; rfl) (by decide) fun cdv A outer s H E as S W a hM hd hdc hr ⟨m, e, h1, er⟩ => ?_
  subst e er
  have nd := sc_anyo.nd
  refine ss_one (s_retDE (de_join0 (S1 := fun d => ∃ cs : List Nat, d = .lst (cs.map fun c => .str [c]) ∧ cs.length ≤ m ∧ ∀ c ∈ cs, c ∈ signs) (S := fun d => ∃ os : List Nat, d = .str os ∧ isOrd (.str os) = true ∧ os.length ≤ m) ?_ ?_) ?_)
  · exact de_sigs (l := signs) (i := 0) (j := 2) (m := m) (own := [("turn", 2)]) rfl nd rfl hd (by decide) (blkOk_by (N := N_ano) (sc := defScope s__law_any_orders) (by decide +kernel)) rfl B.range
      (dea_cons (de_call (i := 0) G1 (hr.mono (by decide)) rfl hd (pv 0) (da_one (d_add (dv 1 rfl) d_int)) ⟨_, rfl, by omega, by omega, rfl⟩) (dea_nil (S := fun ds => ds = []) rfl) (fun d ds ⟨k, e, hk⟩ e2 => ⟨k, by rw [e, e2], by omega⟩)) (by omega) (fun _ _ _ _ _ => pg_name nd rfl (.inl rfl) (.inr rfl)) fun _ _ _ _ _ => pe_sig (n := 8) G1 (hr.mono (by decide)) (pv 0) rfl rfl (by decide) (by decide)
  · exact fun d ⟨cs, e, h2, h3⟩ => ⟨cs, e, by omega, cs, rfl, isOrd_mk (by omega) h3, h2⟩
  · exact fun d hd => ⟨d, rfl, hd⟩
end
end G

set_option Elab.async false
set_option linter.all false
set_option maxRecDepth 100000
set_option maxHeartbeats 8000000
namespace G
open PySem PySem.Spec PyProof.Rows L2 TL
/-! ### the law's own moves: from which place each sign comes -/
def srcF (o r c row col : Nat) : Nat × Nat :=
  if o = 82 then (col, c - 1 - row) else if o = 76 then (r - 1 - col, row) else if o = 65 then (r - 1 - row, c - 1 - col) else if o = 68 then (2 * row + col % 2, col / 2) else if o = 83 then (row / 2, 2 * col + row % 2)
  else if o = 67 then ((row + 1) % r, col) else if o = 88 then (row, (col + 1) % c) else (row, c - 1 - col)
def highF (o r c : Nat) : Nat := if o = 82 ∨ o = 76 then c else if o = 68 then r / 2 else if o = 83 then 2 * r else r
def wideF (o r c : Nat) : Nat := if o = 82 ∨ o = 76 then r else if o = 68 then 2 * c else if o = 83 then c / 2 else c
def cellO (f : Fm) (o r c row col : Nat) : Nat := (f.getD (srcF o r c row col).1 []).getD (srcF o r c row col).2 0
def lmF (f : Fm) (o : Nat) : Fm := (List.range (highF o f.length (wid f))).map fun row => (List.range (wideF o f.length (wid f))).map fun col => cellO f o f.length (wid f) row col
def forBody0 : List Stmt → Nat → List Stmt
  | l, n => (match l[n]? with
    | some (.For _ _ b _ _) => b
    | _ => [])
abbrev forBody (l : List Stmt) (n : Nat) : List Stmt := forBody0 l n
def canO (o r c : Nat) : Bool := !(decide (o = 68 ∧ r % 2 = 1) || decide (o = 83 ∧ c % 2 = 1))
theorem src_ok : ∀ s ∈ shps, ∀ o ∈ signs, canO o s.1 s.2 = true → ∀ row, row < highF o s.1 s.2 → ∀ col, col < wideF o s.1 s.2 → (srcF o s.1 s.2 row col).1 < s.1 ∧ (srcF o s.1 s.2 row col).2 < s.2 := by decide +kernel
theorem lm_id : ∀ s ∈ shps, ∀ o ∈ signs, mvF (idF s.1 s.2) o = if canO o s.1 s.2 = true then some ((List.range (highF o s.1 s.2)).map fun row => (List.range (wideF o s.1 s.2)).map fun col => (srcF o s.1 s.2 row col).1 * s.2 + (srcF o s.1 s.2 row col).2) else none := by decide +kernel
theorem idF_get {r c i j : Nat} (hi : i < r) (hj : j < c) : ((idF r c).getD i []).getD j 0 = i * c + j := by
  unfold idF
  rw [List.getD_eq_getElem?_getD, List.getD_eq_getElem?_getD, List.getElem?_map, List.getElem?_range hi]
  show (((List.range c).map fun j => i * c + j)[j]?).getD 0 = _
  rw [List.getElem?_map, List.getElem?_range hj]
  rfl
theorem mapF_get {h : Nat → Nat} {g : Fm} {i j : Nat} (hi : i < g.length) (hj : j < (g.getD i []).length) : ((mapF h g).getD i []).getD j 0 = h ((g.getD i []).getD j 0) := by
  unfold mapF
  rw [List.getD_eq_getElem?_getD (l := g.map _), List.getElem?_map, List.getElem?_eq_getElem hi]
  rw [List.getD_eq_getElem?_getD (l := g), List.getElem?_eq_getElem hi] at hj ⊢
  have hj : j < g[i].length := hj
  show (g[i].map h).getD j 0 = h (g[i].getD j 0)
  rw [List.getD_eq_getElem?_getD, List.getD_eq_getElem?_getD, List.getElem?_map, List.getElem?_eq_getElem hj]
  rfl
theorem cell_h {f : Fm} {r c i j : Nat} (s : Sh f r c) (hi : i < r) (hj : j < c) : (f.getD i []).getD j 0 = hF f (i * c + j) := by
  have e := s.eq
  have l1 : i < (idF r c).length := by unfold idF; rw [List.length_map, List.length_range]; exact hi
  have l2 : j < ((idF r c).getD i []).length := by
    unfold idF
    rw [List.getD_eq_getElem?_getD, List.getElem?_map, List.getElem?_range hi]
    show j < ((List.range c).map fun j => i * c + j).length
    rw [List.length_map, List.length_range]
    exact hj
  have z := mapF_get (h := hF f) l1 l2
  rw [← e, idF_get hi hj] at z
  exact z
theorem lm_mv {f : Fm} {o : Nat} (hf : isFm f = true) (ho : o ∈ signs) : mvF f o = if canO o f.length (wid f) = true then some (lmF f o) else none := by
  have s := isFm_sh hf
  have z := lm_id _ s.mem o ho
  have e : mvF f o = (mvF (idF f.length (wid f)) o).map (mapF (hF f)) := by
    have e := mvF_nat (hF f) (idF f.length (wid f)) o
    rw [← s.eq] at e
    exact e
  rw [e, z]
  by_cases hc : canO o f.length (wid f) = true
  · rw [if_pos hc, if_pos hc]
    show some (mapF (hF f) _) = some (lmF f o)
    congr 1
    unfold mapF lmF
    rw [List.map_map]
    refine List.map_congr_left fun row hrow => ?_
    show ((List.range _).map _).map (hF f) = _
    rw [List.map_map]
    refine List.map_congr_left fun col hcol => ?_
    have k := src_ok _ s.mem o ho hc row (List.mem_range.mp hrow) col (List.mem_range.mp hcol)
    exact (cell_h s k.1 k.2).symm
  · rw [if_neg hc, if_neg hc]
    rfl
theorem hw_le : ∀ s ∈ shps, ∀ o ∈ signs, highF o s.1 s.2 ≤ 12 ∧ wideF o s.1 s.2 ≤ 12 := by decide +kernel
section
variable {P : Program} {w : World} {K : PySem.W.Frag} {mg : Str → Option Value} {base : Heap}
def C_lmoved : List Dat → Res → Prop := fun as r => ∃ (f : Fm) (o : Nat), as = [F_ f, .str [o]] ∧ isFm f = true ∧ o ∈ signs ∧ r = .ok (optF (mvF f o))
abbrev N_lmv : List Str := ["formation", "order", "ranks", "files", "wide", "high", "found", "row", "line", "column"]
theorem sc_lmoved : FnScope N_lmv ["formation", "order"] (defScope s__law_moved) := ⟨rfl, rfl, rfl, by decide +kernel, rfl, by decide +kernel, by decide +kernel⟩

theorem cell_at {f : Fm} {r c i j : Nat} (hf : isFm f = true) (hr : f.length = r) (hc : wid f = c) (hi : i < r) (hj : j < c) : ∃ l, f[i]? = some l ∧ l[j]? = some ((f.getD i []).getD j 0) ∧ l.length ≤ 6 := by
  obtain ⟨_, w6, hw⟩ := isFm_wid hf
  have hi' : i < f.length := by omega
  have hl := hw f[i] (List.getElem_mem hi')
  have hj' : j < f[i].length := by omega
  refine ⟨f[i], List.getElem?_eq_getElem hi', ?_, by omega⟩
  rw [List.getD_eq_getElem?_getD (l := f), List.getElem?_eq_getElem hi']
  show _ = some (f[i].getD j 0)
  rw [List.getD_eq_getElem?_getD, List.getElem?_eq_getElem hj']
  rfl

set_option maxHeartbeats 8000000 in
theorem lm_inner_R {f : Addr} {cdv : Value} {A : Around} {outer : List Env} {s : Shared} {H : Hp} {E : XK} {W : Wl} {a : Addr} {g : Fm} {r c row col : Nat} {fd : List Dat} {l : List Nat} {wd hg : Nat} (hr : Room 0 (A.deeper (envOfC "_law_moved" (defScope s__law_moved) s.heap.objs.size f cdv))) (hg0 : isFm g = true) (e1 : g.length = r) (e2 : wid g = c) (hll : l.length ≤ 100)
    (h1 : col < r) (h2 : c - 1 - row < c) (hrc : 1 ≤ r ∧ 1 ≤ c ∧ row ≤ 12 ∧ col ≤ 12) (hok : row < c) : SS (cxOf (L2N.CX P w) P w K mg base N_lmv "_law_moved" (defScope s__law_moved) f cdv A outer s H E) E W (forBody (forBody0 (defBody s__law_moved) 7) 1) [.dt (F_ g), .dt (.str [82]), .dt (.int (r : Nat)), .dt (.int (c : Nat)), .dt (.int (wd : Nat)), .dt (.int (hg : Nat)), .ml a fd, .dt (.int (row : Nat)), .dt (.str l), .dt (.int (col : Nat))]
      (fun o => o = .nx [.dt (F_ g), .dt (.str [82]), .dt (.int (r : Nat)), .dt (.int (c : Nat)), .dt (.int (wd : Nat)), .dt (.int (hg : Nat)), .ml a fd, .dt (.int (row : Nat)), .dt (.str (l ++ [(g.getD (col) []).getD (c - 1 - row) 0])), .dt (.int (col : Nat))]) := by
  have nd := sc_lmoved.nd
  obtain ⟨ln, q1, q2, q3⟩ := cell_at (i := col) (j := c - 1 - row) hg0 e1 e2 h1 h2
  refine ss_cons (s_if (T.is (t_eq hr.units (dv 1 rfl) (d_str (l := [82]) rfl) (by decide) (by decide)) (show _ = true by decide)) (fun _ => ss_one (s_set 8 nd (d_addS (dv 8 rfl) (d_ixS (l := ln) (d_ixT (dv 0 rfl) (D.is (dv 9 rfl) (congrArg Dat.int (show _ = ((col : Nat) : Int) by omega))) (atI_nat (by rw [List.getElem?_map, q1]; rfl))) (D.is (d_sub (d_sub (dv 3 rfl) d_int) (dv 7 rfl)) (congrArg Dat.int (show _ = ((c - 1 - row : Nat) : Int) by omega))) (by omega) (atI_nat q2)) (by simp; omega)) ?_)) (fun h => by cases h))
  refine ss_cons (s_if (T.is (t_eq hr.units (dv 1 rfl) (d_str (l := [76]) rfl) (by decide) (by decide)) (show _ = false by decide)) (fun h => by cases h) (fun _ => ss_nil ?_))
  refine ss_cons (s_if (T.is (t_eq hr.units (dv 1 rfl) (d_str (l := [65]) rfl) (by decide) (by decide)) (show _ = false by decide)) (fun h => by cases h) (fun _ => ss_nil ?_))
  refine ss_cons (s_if (T.is (t_eq hr.units (dv 1 rfl) (d_str (l := [68]) rfl) (by decide) (by decide)) (show _ = false by decide)) (fun h => by cases h) (fun _ => ss_nil ?_))
  refine ss_cons (s_if (T.is (t_eq hr.units (dv 1 rfl) (d_str (l := [83]) rfl) (by decide) (by decide)) (show _ = false by decide)) (fun h => by cases h) (fun _ => ss_nil ?_))
  refine ss_cons (s_if (T.is (t_eq hr.units (dv 1 rfl) (d_str (l := [67]) rfl) (by decide) (by decide)) (show _ = false by decide)) (fun h => by cases h) (fun _ => ss_nil ?_))
  refine ss_cons (s_if (T.is (t_eq hr.units (dv 1 rfl) (d_str (l := [88]) rfl) (by decide) (by decide)) (show _ = false by decide)) (fun h => by cases h) (fun _ => ss_nil ?_))
  refine ss_one (s_if (T.is (t_eq hr.units (dv 1 rfl) (d_str (l := [77]) rfl) (by decide) (by decide)) (show _ = false by decide)) (fun h => by cases h) (fun _ => ss_nil ?_))
  rfl
set_option maxHeartbeats 8000000 in
theorem lm_inner_L {f : Addr} {cdv : Value} {A : Around} {outer : List Env} {s : Shared} {H : Hp} {E : XK} {W : Wl} {a : Addr} {g : Fm} {r c row col : Nat} {fd : List Dat} {l : List Nat} {wd hg : Nat} (hr : Room 0 (A.deeper (envOfC "_law_moved" (defScope s__law_moved) s.heap.objs.size f cdv))) (hg0 : isFm g = true) (e1 : g.length = r) (e2 : wid g = c) (hll : l.length ≤ 100)
    (h1 : r - 1 - col < r) (h2 : row < c) (hrc : 1 ≤ r ∧ 1 ≤ c ∧ row ≤ 12 ∧ col ≤ 12) (hok : col < r) : SS (cxOf (L2N.CX P w) P w K mg base N_lmv "_law_moved" (defScope s__law_moved) f cdv A outer s H E) E W (forBody (forBody0 (defBody s__law_moved) 7) 1) [.dt (F_ g), .dt (.str [76]), .dt (.int (r : Nat)), .dt (.int (c : Nat)), .dt (.int (wd : Nat)), .dt (.int (hg : Nat)), .ml a fd, .dt (.int (row : Nat)), .dt (.str l), .dt (.int (col : Nat))]
      (fun o => o = .nx [.dt (F_ g), .dt (.str [76]), .dt (.int (r : Nat)), .dt (.int (c : Nat)), .dt (.int (wd : Nat)), .dt (.int (hg : Nat)), .ml a fd, .dt (.int (row : Nat)), .dt (.str (l ++ [(g.getD (r - 1 - col) []).getD (row) 0])), .dt (.int (col : Nat))]) := by
  have nd := sc_lmoved.nd
  obtain ⟨ln, q1, q2, q3⟩ := cell_at (i := r - 1 - col) (j := row) hg0 e1 e2 h1 h2
  refine ss_cons (s_if (T.is (t_eq hr.units (dv 1 rfl) (d_str (l := [82]) rfl) (by decide) (by decide)) (show _ = false by decide)) (fun h => by cases h) (fun _ => ss_nil ?_))
  refine ss_cons (s_if (T.is (t_eq hr.units (dv 1 rfl) (d_str (l := [76]) rfl) (by decide) (by decide)) (show _ = true by decide)) (fun _ => ss_one (s_set 8 nd (d_addS (dv 8 rfl) (d_ixS (l := ln) (d_ixT (dv 0 rfl) (D.is (d_sub (d_sub (dv 2 rfl) d_int) (dv 9 rfl)) (congrArg Dat.int (show _ = ((r - 1 - col : Nat) : Int) by omega))) (atI_nat (by rw [List.getElem?_map, q1]; rfl))) (D.is (dv 7 rfl) (congrArg Dat.int (show _ = ((row : Nat) : Int) by omega))) (by omega) (atI_nat q2)) (by simp; omega)) ?_)) (fun h => by cases h))
  refine ss_cons (s_if (T.is (t_eq hr.units (dv 1 rfl) (d_str (l := [65]) rfl) (by decide) (by decide)) (show _ = false by decide)) (fun h => by cases h) (fun _ => ss_nil ?_))
  refine ss_cons (s_if (T.is (t_eq hr.units (dv 1 rfl) (d_str (l := [68]) rfl) (by decide) (by decide)) (show _ = false by decide)) (fun h => by cases h) (fun _ => ss_nil ?_))
  refine ss_cons (s_if (T.is (t_eq hr.units (dv 1 rfl) (d_str (l := [83]) rfl) (by decide) (by decide)) (show _ = false by decide)) (fun h => by cases h) (fun _ => ss_nil ?_))
  refine ss_cons (s_if (T.is (t_eq hr.units (dv 1 rfl) (d_str (l := [67]) rfl) (by decide) (by decide)) (show _ = false by decide)) (fun h => by cases h) (fun _ => ss_nil ?_))
  refine ss_cons (s_if (T.is (t_eq hr.units (dv 1 rfl) (d_str (l := [88]) rfl) (by decide) (by decide)) (show _ = false by decide)) (fun h => by cases h) (fun _ => ss_nil ?_))
  refine ss_one (s_if (T.is (t_eq hr.units (dv 1 rfl) (d_str (l := [77]) rfl) (by decide) (by decide)) (show _ = false by decide)) (fun h => by cases h) (fun _ => ss_nil ?_))
  rfl
set_option maxHeartbeats 8000000 in
theorem lm_inner_A {f : Addr} {cdv : Value} {A : Around} {outer : List Env} {s : Shared} {H : Hp} {E : XK} {W : Wl} {a : Addr} {g : Fm} {r c row col : Nat} {fd : List Dat} {l : List Nat} {wd hg : Nat} (hr : Room 0 (A.deeper (envOfC "_law_moved" (defScope s__law_moved) s.heap.objs.size f cdv))) (hg0 : isFm g = true) (e1 : g.length = r) (e2 : wid g = c) (hll : l.length ≤ 100)
    (h1 : r - 1 - row < r) (h2 : c - 1 - col < c) (hrc : 1 ≤ r ∧ 1 ≤ c ∧ row ≤ 12 ∧ col ≤ 12) (hok : row < r ∧ col < c) : SS (cxOf (L2N.CX P w) P w K mg base N_lmv "_law_moved" (defScope s__law_moved) f cdv A outer s H E) E W (forBody (forBody0 (defBody s__law_moved) 7) 1) [.dt (F_ g), .dt (.str [65]), .dt (.int (r : Nat)), .dt (.int (c : Nat)), .dt (.int (wd : Nat)), .dt (.int (hg : Nat)), .ml a fd, .dt (.int (row : Nat)), .dt (.str l), .dt (.int (col : Nat))]
      (fun o => o = .nx [.dt (F_ g), .dt (.str [65]), .dt (.int (r : Nat)), .dt (.int (c : Nat)), .dt (.int (wd : Nat)), .dt (.int (hg : Nat)), .ml a fd, .dt (.int (row : Nat)), .dt (.str (l ++ [(g.getD (r - 1 - row) []).getD (c - 1 - col) 0])), .dt (.int (col : Nat))]) := by
  have nd := sc_lmoved.nd
  obtain ⟨ln, q1, q2, q3⟩ := cell_at (i := r - 1 - row) (j := c - 1 - col) hg0 e1 e2 h1 h2
  refine ss_cons (s_if (T.is (t_eq hr.units (dv 1 rfl) (d_str (l := [82]) rfl) (by decide) (by decide)) (show _ = false by decide)) (fun h => by cases h) (fun _ => ss_nil ?_))
  refine ss_cons (s_if (T.is (t_eq hr.units (dv 1 rfl) (d_str (l := [76]) rfl) (by decide) (by decide)) (show _ = false by decide)) (fun h => by cases h) (fun _ => ss_nil ?_))
  refine ss_cons (s_if (T.is (t_eq hr.units (dv 1 rfl) (d_str (l := [65]) rfl) (by decide) (by decide)) (show _ = true by decide)) (fun _ => ss_one (s_set 8 nd (d_addS (dv 8 rfl) (d_ixS (l := ln) (d_ixT (dv 0 rfl) (D.is (d_sub (d_sub (dv 2 rfl) d_int) (dv 7 rfl)) (congrArg Dat.int (show _ = ((r - 1 - row : Nat) : Int) by omega))) (atI_nat (by rw [List.getElem?_map, q1]; rfl))) (D.is (d_sub (d_sub (dv 3 rfl) d_int) (dv 9 rfl)) (congrArg Dat.int (show _ = ((c - 1 - col : Nat) : Int) by omega))) (by omega) (atI_nat q2)) (by simp; omega)) ?_)) (fun h => by cases h))
  refine ss_cons (s_if (T.is (t_eq hr.units (dv 1 rfl) (d_str (l := [68]) rfl) (by decide) (by decide)) (show _ = false by decide)) (fun h => by cases h) (fun _ => ss_nil ?_))
  refine ss_cons (s_if (T.is (t_eq hr.units (dv 1 rfl) (d_str (l := [83]) rfl) (by decide) (by decide)) (show _ = false by decide)) (fun h => by cases h) (fun _ => ss_nil ?_))
  refine ss_cons (s_if (T.is (t_eq hr.units (dv 1 rfl) (d_str (l := [67]) rfl) (by decide) (by decide)) (show _ = false by decide)) (fun h => by cases h) (fun _ => ss_nil ?_))
  refine ss_cons (s_if (T.is (t_eq hr.units (dv 1 rfl) (d_str (l := [88]) rfl) (by decide) (by decide)) (show _ = false by decide)) (fun h => by cases h) (fun _ => ss_nil ?_))
  refine ss_one (s_if (T.is (t_eq hr.units (dv 1 rfl) (d_str (l := [77]) rfl) (by decide) (by decide)) (show _ = false by decide)) (fun h => by cases h) (fun _ => ss_nil ?_))
  rfl
set_option maxHeartbeats 8000000 in
theorem lm_inner_D {f : Addr} {cdv : Value} {A : Around} {outer : List Env} {s : Shared} {H : Hp} {E : XK} {W : Wl} {a : Addr} {g : Fm} {r c row col : Nat} {fd : List Dat} {l : List Nat} {wd hg : Nat} (hr : Room 0 (A.deeper (envOfC "_law_moved" (defScope s__law_moved) s.heap.objs.size f cdv))) (hg0 : isFm g = true) (e1 : g.length = r) (e2 : wid g = c) (hll : l.length ≤ 100)
    (h1 : 2 * row + col % 2 < r) (h2 : col / 2 < c) (hrc : 1 ≤ r ∧ 1 ≤ c ∧ row ≤ 12 ∧ col ≤ 12) (hok : True) : SS (cxOf (L2N.CX P w) P w K mg base N_lmv "_law_moved" (defScope s__law_moved) f cdv A outer s H E) E W (forBody (forBody0 (defBody s__law_moved) 7) 1) [.dt (F_ g), .dt (.str [68]), .dt (.int (r : Nat)), .dt (.int (c : Nat)), .dt (.int (wd : Nat)), .dt (.int (hg : Nat)), .ml a fd, .dt (.int (row : Nat)), .dt (.str l), .dt (.int (col : Nat))]
      (fun o => o = .nx [.dt (F_ g), .dt (.str [68]), .dt (.int (r : Nat)), .dt (.int (c : Nat)), .dt (.int (wd : Nat)), .dt (.int (hg : Nat)), .ml a fd, .dt (.int (row : Nat)), .dt (.str (l ++ [(g.getD (2 * row + col % 2) []).getD (col / 2) 0])), .dt (.int (col : Nat))]) := by
  have nd := sc_lmoved.nd
  obtain ⟨ln, q1, q2, q3⟩ := cell_at (i := 2 * row + col % 2) (j := col / 2) hg0 e1 e2 h1 h2
  refine ss_cons (s_if (T.is (t_eq hr.units (dv 1 rfl) (d_str (l := [82]) rfl) (by decide) (by decide)) (show _ = false by decide)) (fun h => by cases h) (fun _ => ss_nil ?_))
  refine ss_cons (s_if (T.is (t_eq hr.units (dv 1 rfl) (d_str (l := [76]) rfl) (by decide) (by decide)) (show _ = false by decide)) (fun h => by cases h) (fun _ => ss_nil ?_))
  refine ss_cons (s_if (T.is (t_eq hr.units (dv 1 rfl) (d_str (l := [65]) rfl) (by decide) (by decide)) (show _ = false by decide)) (fun h => by cases h) (fun _ => ss_nil ?_))
  refine ss_cons (s_if (T.is (t_eq hr.units (dv 1 rfl) (d_str (l := [68]) rfl) (by decide) (by decide)) (show _ = true by decide)) (fun _ => ss_one (s_set 8 nd (d_addS (dv 8 rfl) (d_ixS (l := ln) (d_ixT (dv 0 rfl) (D.is (d_add (d_mul (.inl ⟨by decide, by decide⟩) d_int (dv 7 rfl)) (d_mod (by decide) (dv 9 rfl) d_int)) (congrArg Dat.int (show _ = ((2 * row + col % 2 : Nat) : Int) by omega))) (atI_nat (by rw [List.getElem?_map, q1]; rfl))) (D.is (d_fdiv ⟨by decide, by decide⟩ (dv 9 rfl) d_int) (congrArg Dat.int (show _ = ((col / 2 : Nat) : Int) by omega))) (by omega) (atI_nat q2)) (by simp; omega)) ?_)) (fun h => by cases h))
  refine ss_cons (s_if (T.is (t_eq hr.units (dv 1 rfl) (d_str (l := [83]) rfl) (by decide) (by decide)) (show _ = false by decide)) (fun h => by cases h) (fun _ => ss_nil ?_))
  refine ss_cons (s_if (T.is (t_eq hr.units (dv 1 rfl) (d_str (l := [67]) rfl) (by decide) (by decide)) (show _ = false by decide)) (fun h => by cases h) (fun _ => ss_nil ?_))
  refine ss_cons (s_if (T.is (t_eq hr.units (dv 1 rfl) (d_str (l := [88]) rfl) (by decide) (by decide)) (show _ = false by decide)) (fun h => by cases h) (fun _ => ss_nil ?_))
  refine ss_one (s_if (T.is (t_eq hr.units (dv 1 rfl) (d_str (l := [77]) rfl) (by decide) (by decide)) (show _ = false by decide)) (fun h => by cases h) (fun _ => ss_nil ?_))
  rfl
set_option maxHeartbeats 8000000 in
theorem lm_inner_S {f : Addr} {cdv : Value} {A : Around} {outer : List Env} {s : Shared} {H : Hp} {E : XK} {W : Wl} {a : Addr} {g : Fm} {r c row col : Nat} {fd : List Dat} {l : List Nat} {wd hg : Nat} (hr : Room 0 (A.deeper (envOfC "_law_moved" (defScope s__law_moved) s.heap.objs.size f cdv))) (hg0 : isFm g = true) (e1 : g.length = r) (e2 : wid g = c) (hll : l.length ≤ 100)
    (h1 : row / 2 < r) (h2 : 2 * col + row % 2 < c) (hrc : 1 ≤ r ∧ 1 ≤ c ∧ row ≤ 12 ∧ col ≤ 12) (hok : True) : SS (cxOf (L2N.CX P w) P w K mg base N_lmv "_law_moved" (defScope s__law_moved) f cdv A outer s H E) E W (forBody (forBody0 (defBody s__law_moved) 7) 1) [.dt (F_ g), .dt (.str [83]), .dt (.int (r : Nat)), .dt (.int (c : Nat)), .dt (.int (wd : Nat)), .dt (.int (hg : Nat)), .ml a fd, .dt (.int (row : Nat)), .dt (.str l), .dt (.int (col : Nat))]
      (fun o => o = .nx [.dt (F_ g), .dt (.str [83]), .dt (.int (r : Nat)), .dt (.int (c : Nat)), .dt (.int (wd : Nat)), .dt (.int (hg : Nat)), .ml a fd, .dt (.int (row : Nat)), .dt (.str (l ++ [(g.getD (row / 2) []).getD (2 * col + row % 2) 0])), .dt (.int (col : Nat))]) := by
  have nd := sc_lmoved.nd
  obtain ⟨ln, q1, q2, q3⟩ := cell_at (i := row / 2) (j := 2 * col + row % 2) hg0 e1 e2 h1 h2
  refine ss_cons (s_if (T.is (t_eq hr.units (dv 1 rfl) (d_str (l := [82]) rfl) (by decide) (by decide)) (show _ = false by decide)) (fun h => by cases h) (fun _ => ss_nil ?_))
  refine ss_cons (s_if (T.is (t_eq hr.units (dv 1 rfl) (d_str (l := [76]) rfl) (by decide) (by decide)) (show _ = false by decide)) (fun h => by cases h) (fun _ => ss_nil ?_))
  refine ss_cons (s_if (T.is (t_eq hr.units (dv 1 rfl) (d_str (l := [65]) rfl) (by decide) (by decide)) (show _ = false by decide)) (fun h => by cases h) (fun _ => ss_nil ?_))
  refine ss_cons (s_if (T.is (t_eq hr.units (dv 1 rfl) (d_str (l := [68]) rfl) (by decide) (by decide)) (show _ = false by decide)) (fun h => by cases h) (fun _ => ss_nil ?_))
  refine ss_cons (s_if (T.is (t_eq hr.units (dv 1 rfl) (d_str (l := [83]) rfl) (by decide) (by decide)) (show _ = true by decide)) (fun _ => ss_one (s_set 8 nd (d_addS (dv 8 rfl) (d_ixS (l := ln) (d_ixT (dv 0 rfl) (D.is (d_fdiv ⟨by decide, by decide⟩ (dv 7 rfl) d_int) (congrArg Dat.int (show _ = ((row / 2 : Nat) : Int) by omega))) (atI_nat (by rw [List.getElem?_map, q1]; rfl))) (D.is (d_add (d_mul (.inl ⟨by decide, by decide⟩) d_int (dv 9 rfl)) (d_mod (by decide) (dv 7 rfl) d_int)) (congrArg Dat.int (show _ = ((2 * col + row % 2 : Nat) : Int) by omega))) (by omega) (atI_nat q2)) (by simp; omega)) ?_)) (fun h => by cases h))
  refine ss_cons (s_if (T.is (t_eq hr.units (dv 1 rfl) (d_str (l := [67]) rfl) (by decide) (by decide)) (show _ = false by decide)) (fun h => by cases h) (fun _ => ss_nil ?_))
  refine ss_cons (s_if (T.is (t_eq hr.units (dv 1 rfl) (d_str (l := [88]) rfl) (by decide) (by decide)) (show _ = false by decide)) (fun h => by cases h) (fun _ => ss_nil ?_))
  refine ss_one (s_if (T.is (t_eq hr.units (dv 1 rfl) (d_str (l := [77]) rfl) (by decide) (by decide)) (show _ = false by decide)) (fun h => by cases h) (fun _ => ss_nil ?_))
  rfl
set_option maxHeartbeats 8000000 in
theorem lm_inner_C {f : Addr} {cdv : Value} {A : Around} {outer : List Env} {s : Shared} {H : Hp} {E : XK} {W : Wl} {a : Addr} {g : Fm} {r c row col : Nat} {fd : List Dat} {l : List Nat} {wd hg : Nat} (hr : Room 0 (A.deeper (envOfC "_law_moved" (defScope s__law_moved) s.heap.objs.size f cdv))) (hg0 : isFm g = true) (e1 : g.length = r) (e2 : wid g = c) (hll : l.length ≤ 100)
    (h1 : (row + 1) % r < r) (h2 : col < c) (hrc : 1 ≤ r ∧ 1 ≤ c ∧ row ≤ 12 ∧ col ≤ 12) (hok : True) : SS (cxOf (L2N.CX P w) P w K mg base N_lmv "_law_moved" (defScope s__law_moved) f cdv A outer s H E) E W (forBody (forBody0 (defBody s__law_moved) 7) 1) [.dt (F_ g), .dt (.str [67]), .dt (.int (r : Nat)), .dt (.int (c : Nat)), .dt (.int (wd : Nat)), .dt (.int (hg : Nat)), .ml a fd, .dt (.int (row : Nat)), .dt (.str l), .dt (.int (col : Nat))]
      (fun o => o = .nx [.dt (F_ g), .dt (.str [67]), .dt (.int (r : Nat)), .dt (.int (c : Nat)), .dt (.int (wd : Nat)), .dt (.int (hg : Nat)), .ml a fd, .dt (.int (row : Nat)), .dt (.str (l ++ [(g.getD ((row + 1) % r) []).getD (col) 0])), .dt (.int (col : Nat))]) := by
  have nd := sc_lmoved.nd
  obtain ⟨ln, q1, q2, q3⟩ := cell_at (i := (row + 1) % r) (j := col) hg0 e1 e2 h1 h2
  refine ss_cons (s_if (T.is (t_eq hr.units (dv 1 rfl) (d_str (l := [82]) rfl) (by decide) (by decide)) (show _ = false by decide)) (fun h => by cases h) (fun _ => ss_nil ?_))
  refine ss_cons (s_if (T.is (t_eq hr.units (dv 1 rfl) (d_str (l := [76]) rfl) (by decide) (by decide)) (show _ = false by decide)) (fun h => by cases h) (fun _ => ss_nil ?_))
  refine ss_cons (s_if (T.is (t_eq hr.units (dv 1 rfl) (d_str (l := [65]) rfl) (by decide) (by decide)) (show _ = false by decide)) (fun h => by cases h) (fun _ => ss_nil ?_))
  refine ss_cons (s_if (T.is (t_eq hr.units (dv 1 rfl) (d_str (l := [68]) rfl) (by decide) (by decide)) (show _ = false by decide)) (fun h => by cases h) (fun _ => ss_nil ?_))
  refine ss_cons (s_if (T.is (t_eq hr.units (dv 1 rfl) (d_str (l := [83]) rfl) (by decide) (by decide)) (show _ = false by decide)) (fun h => by cases h) (fun _ => ss_nil ?_))
  refine ss_cons (s_if (T.is (t_eq hr.units (dv 1 rfl) (d_str (l := [67]) rfl) (by decide) (by decide)) (show _ = true by decide)) (fun _ => ss_one (s_set 8 nd (d_addS (dv 8 rfl) (d_ixS (l := ln) (d_ixT (dv 0 rfl) (D.is (d_mod (by omega) (d_add (dv 7 rfl) d_int) (dv 2 rfl)) (congrArg Dat.int (show _ = (((row + 1) % r : Nat) : Int) from (Int.natCast_emod (row + 1) r).symm))) (atI_nat (by rw [List.getElem?_map, q1]; rfl))) (D.is (dv 9 rfl) (congrArg Dat.int (show _ = ((col : Nat) : Int) by omega))) (by omega) (atI_nat q2)) (by simp; omega)) ?_)) (fun h => by cases h))
  refine ss_cons (s_if (T.is (t_eq hr.units (dv 1 rfl) (d_str (l := [88]) rfl) (by decide) (by decide)) (show _ = false by decide)) (fun h => by cases h) (fun _ => ss_nil ?_))
  refine ss_one (s_if (T.is (t_eq hr.units (dv 1 rfl) (d_str (l := [77]) rfl) (by decide) (by decide)) (show _ = false by decide)) (fun h => by cases h) (fun _ => ss_nil ?_))
  rfl
set_option maxHeartbeats 8000000 in
theorem lm_inner_X {f : Addr} {cdv : Value} {A : Around} {outer : List Env} {s : Shared} {H : Hp} {E : XK} {W : Wl} {a : Addr} {g : Fm} {r c row col : Nat} {fd : List Dat} {l : List Nat} {wd hg : Nat} (hr : Room 0 (A.deeper (envOfC "_law_moved" (defScope s__law_moved) s.heap.objs.size f cdv))) (hg0 : isFm g = true) (e1 : g.length = r) (e2 : wid g = c) (hll : l.length ≤ 100)
    (h1 : row < r) (h2 : (col + 1) % c < c) (hrc : 1 ≤ r ∧ 1 ≤ c ∧ row ≤ 12 ∧ col ≤ 12) (hok : True) : SS (cxOf (L2N.CX P w) P w K mg base N_lmv "_law_moved" (defScope s__law_moved) f cdv A outer s H E) E W (forBody (forBody0 (defBody s__law_moved) 7) 1) [.dt (F_ g), .dt (.str [88]), .dt (.int (r : Nat)), .dt (.int (c : Nat)), .dt (.int (wd : Nat)), .dt (.int (hg : Nat)), .ml a fd, .dt (.int (row : Nat)), .dt (.str l), .dt (.int (col : Nat))]
      (fun o => o = .nx [.dt (F_ g), .dt (.str [88]), .dt (.int (r : Nat)), .dt (.int (c : Nat)), .dt (.int (wd : Nat)), .dt (.int (hg : Nat)), .ml a fd, .dt (.int (row : Nat)), .dt (.str (l ++ [(g.getD (row) []).getD ((col + 1) % c) 0])), .dt (.int (col : Nat))]) := by
  have nd := sc_lmoved.nd
  obtain ⟨ln, q1, q2, q3⟩ := cell_at (i := row) (j := (col + 1) % c) hg0 e1 e2 h1 h2
  refine ss_cons (s_if (T.is (t_eq hr.units (dv 1 rfl) (d_str (l := [82]) rfl) (by decide) (by decide)) (show _ = false by decide)) (fun h => by cases h) (fun _ => ss_nil ?_))
  refine ss_cons (s_if (T.is (t_eq hr.units (dv 1 rfl) (d_str (l := [76]) rfl) (by decide) (by decide)) (show _ = false by decide)) (fun h => by cases h) (fun _ => ss_nil ?_))
  refine ss_cons (s_if (T.is (t_eq hr.units (dv 1 rfl) (d_str (l := [65]) rfl) (by decide) (by decide)) (show _ = false by decide)) (fun h => by cases h) (fun _ => ss_nil ?_))
  refine ss_cons (s_if (T.is (t_eq hr.units (dv 1 rfl) (d_str (l := [68]) rfl) (by decide) (by decide)) (show _ = false by decide)) (fun h => by cases h) (fun _ => ss_nil ?_))
  refine ss_cons (s_if (T.is (t_eq hr.units (dv 1 rfl) (d_str (l := [83]) rfl) (by decide) (by decide)) (show _ = false by decide)) (fun h => by cases h) (fun _ => ss_nil ?_))
  refine ss_cons (s_if (T.is (t_eq hr.units (dv 1 rfl) (d_str (l := [67]) rfl) (by decide) (by decide)) (show _ = false by decide)) (fun h => by cases h) (fun _ => ss_nil ?_))
  refine ss_cons (s_if (T.is (t_eq hr.units (dv 1 rfl) (d_str (l := [88]) rfl) (by decide) (by decide)) (show _ = true by decide)) (fun _ => ss_one (s_set 8 nd (d_addS (dv 8 rfl) (d_ixS (l := ln) (d_ixT (dv 0 rfl) (D.is (dv 7 rfl) (congrArg Dat.int (show _ = ((row : Nat) : Int) by omega))) (atI_nat (by rw [List.getElem?_map, q1]; rfl))) (D.is (d_mod (by omega) (d_add (dv 9 rfl) d_int) (dv 3 rfl)) (congrArg Dat.int (show _ = (((col + 1) % c : Nat) : Int) from (Int.natCast_emod (col + 1) c).symm))) (by omega) (atI_nat q2)) (by simp; omega)) ?_)) (fun h => by cases h))
  refine ss_one (s_if (T.is (t_eq hr.units (dv 1 rfl) (d_str (l := [77]) rfl) (by decide) (by decide)) (show _ = false by decide)) (fun h => by cases h) (fun _ => ss_nil ?_))
  rfl
set_option maxHeartbeats 8000000 in
theorem lm_inner_M {f : Addr} {cdv : Value} {A : Around} {outer : List Env} {s : Shared} {H : Hp} {E : XK} {W : Wl} {a : Addr} {g : Fm} {r c row col : Nat} {fd : List Dat} {l : List Nat} {wd hg : Nat} (hr : Room 0 (A.deeper (envOfC "_law_moved" (defScope s__law_moved) s.heap.objs.size f cdv))) (hg0 : isFm g = true) (e1 : g.length = r) (e2 : wid g = c) (hll : l.length ≤ 100)
    (h1 : row < r) (h2 : c - 1 - col < c) (hrc : 1 ≤ r ∧ 1 ≤ c ∧ row ≤ 12 ∧ col ≤ 12) (hok : col < c) : SS (cxOf (L2N.CX P w) P w K mg base N_lmv "_law_moved" (defScope s__law_moved) f cdv A outer s H E) E W (forBody (forBody0 (defBody s__law_moved) 7) 1) [.dt (F_ g), .dt (.str [77]), .dt (.int (r : Nat)), .dt (.int (c : Nat)), .dt (.int (wd : Nat)), .dt (.int (hg : Nat)), .ml a fd, .dt (.int (row : Nat)), .dt (.str l), .dt (.int (col : Nat))]
      (fun o => o = .nx [.dt (F_ g), .dt (.str [77]), .dt (.int (r : Nat)), .dt (.int (c : Nat)), .dt (.int (wd : Nat)), .dt (.int (hg : Nat)), .ml a fd, .dt (.int (row : Nat)), .dt (.str (l ++ [(g.getD (row) []).getD (c - 1 - col) 0])), .dt (.int (col : Nat))]) := by
  have nd := sc_lmoved.nd
  obtain ⟨ln, q1, q2, q3⟩ := cell_at (i := row) (j := c - 1 - col) hg0 e1 e2 h1 h2
  refine ss_cons (s_if (T.is (t_eq hr.units (dv 1 rfl) (d_str (l := [82]) rfl) (by decide) (by decide)) (show _ = false by decide)) (fun h => by cases h) (fun _ => ss_nil ?_))
  refine ss_cons (s_if (T.is (t_eq hr.units (dv 1 rfl) (d_str (l := [76]) rfl) (by decide) (by decide)) (show _ = false by decide)) (fun h => by cases h) (fun _ => ss_nil ?_))
  refine ss_cons (s_if (T.is (t_eq hr.units (dv 1 rfl) (d_str (l := [65]) rfl) (by decide) (by decide)) (show _ = false by decide)) (fun h => by cases h) (fun _ => ss_nil ?_))
  refine ss_cons (s_if (T.is (t_eq hr.units (dv 1 rfl) (d_str (l := [68]) rfl) (by decide) (by decide)) (show _ = false by decide)) (fun h => by cases h) (fun _ => ss_nil ?_))
  refine ss_cons (s_if (T.is (t_eq hr.units (dv 1 rfl) (d_str (l := [83]) rfl) (by decide) (by decide)) (show _ = false by decide)) (fun h => by cases h) (fun _ => ss_nil ?_))
  refine ss_cons (s_if (T.is (t_eq hr.units (dv 1 rfl) (d_str (l := [67]) rfl) (by decide) (by decide)) (show _ = false by decide)) (fun h => by cases h) (fun _ => ss_nil ?_))
  refine ss_cons (s_if (T.is (t_eq hr.units (dv 1 rfl) (d_str (l := [88]) rfl) (by decide) (by decide)) (show _ = false by decide)) (fun h => by cases h) (fun _ => ss_nil ?_))
  refine ss_one (s_if (T.is (t_eq hr.units (dv 1 rfl) (d_str (l := [77]) rfl) (by decide) (by decide)) (show _ = true by decide)) (fun _ => ss_one (s_set 8 nd (d_addS (dv 8 rfl) (d_ixS (l := ln) (d_ixT (dv 0 rfl) (D.is (dv 7 rfl) (congrArg Dat.int (show _ = ((row : Nat) : Int) by omega))) (atI_nat (by rw [List.getElem?_map, q1]; rfl))) (D.is (d_sub (d_sub (dv 3 rfl) d_int) (dv 9 rfl)) (congrArg Dat.int (show _ = ((c - 1 - col : Nat) : Int) by omega))) (by omega) (atI_nat q2)) (by simp; omega)) ?_)) (fun h => by cases h))
  rfl
end
end G

set_option Elab.async false
set_option linter.all false
set_option maxRecDepth 100000
set_option maxHeartbeats 8000000
namespace G
open PySem PySem.Spec PyProof.Rows L2 TL
theorem t_inSign {X : Cx} {ρ : List Sl} {a b : Expr} {c : Nat} {l : List Nat} {pos : Pos} (ha : D X E0 a ρ (.ok (.str [c]))) (hb : D X E0 b ρ (.ok (.str l))) (hm : behindInMarks .In b = false := by rfl) : T X (.Compare a [.In] [b] pos) ρ (decide (c ∈ l)) :=
  t_cmp op_in_sign (fun B H vx vy Q cv rx ry q => ⟨c, _, rp_str rx, rp_str ry, by simpa using q _ H (Same.refl H) (.bl _)⟩) ha hb hm
theorem rangeD_get {n i : Nat} {x : Dat} (h : (rangeD 0 (n : Nat))[i]? = some x) : x = .int (i : Nat) ∧ i < n := by
  unfold rangeD at h
  rw [List.getElem?_map, Int.sub_zero, Int.toNat_natCast] at h
  obtain ⟨k, hk, e⟩ := Option.map_eq_some_iff.mp h
  have hl := (List.getElem?_eq_some_iff.mp hk).1
  rw [List.length_range] at hl
  rw [List.getElem?_range hl] at hk
  have hk := Option.some.inj hk
  subst hk
  exact ⟨by rw [← e, Int.zero_add], hl⟩
theorem rangeD_len {n : Nat} : (rangeD 0 (n : Nat)).length = n := by
  unfold rangeD
  rw [List.length_map, List.length_range, Int.sub_zero, Int.toNat_natCast]
theorem map_take_succ {α : Type} (f : Nat → α) {n j : Nat} (h : j < n) : ((List.range n).map f).take (j + 1) = ((List.range n).map f).take j ++ [f j] := by
  rw [List.take_add_one, List.getElem?_map, List.getElem?_range h]
  rfl
section
variable {P : Program} {w : World} {K : PySem.W.Frag} {mg : Str → Option Value} {base : Heap}
abbrev lmX (P : Program) (w : World) (K : PySem.W.Frag) (mg : Str → Option Value) (base : Heap) (f : Addr) (cdv : Value) (A : Around) (outer : List Env) (s : Shared) (H : Hp) (E : XK) : Cx := cxOf (L2N.CX P w) P w K mg base N_lmv "_law_moved" (defScope s__law_moved) f cdv A outer s H E
theorem lm_loops {f : Addr} {cdv : Value} {A : Around} {outer : List Env} {s : Shared} {H : Hp} {E : XK} {W : Wl} {g : Fm} {o : Nat} (B : Bi mg) (hM : ∀ a, W.M a = false) (hh : highF o g.length (wid g) ≤ 12) (hw : wideF o g.length (wid g) ≤ 12)
    (inner : ∀ (W : Wl) (a : Addr) (row col : Nat) (fd : List Dat) (l : List Nat), l.length ≤ 100 → row < highF o g.length (wid g) → col < wideF o g.length (wid g) → SS (lmX P w K mg base f cdv A outer s H E) E W (forBody (forBody0 (defBody s__law_moved) 7) 1)
      [.dt (F_ g), .dt (.str [o]), .dt (.int (g.length : Nat)), .dt (.int (wid g : Nat)), .dt (.int (wideF o g.length (wid g) : Nat)), .dt (.int (highF o g.length (wid g) : Nat)), .ml a fd, .dt (.int (row : Nat)), .dt (.str l), .dt (.int (col : Nat))]
      (fun out => out = .nx [.dt (F_ g), .dt (.str [o]), .dt (.int (g.length : Nat)), .dt (.int (wid g : Nat)), .dt (.int (wideF o g.length (wid g) : Nat)), .dt (.int (highF o g.length (wid g) : Nat)), .ml a fd, .dt (.int (row : Nat)), .dt (.str (l ++ [cellO g o g.length (wid g) row col])), .dt (.int (col : Nat))])) :
    SS (lmX P w K mg base f cdv A outer s H E) E W ((defBody s__law_moved).drop 6) [.dt (F_ g), .dt (.str [o]), .dt (.int (g.length : Nat)), .dt (.int (wid g : Nat)), .dt (.int (wideF o g.length (wid g) : Nat)), .dt (.int (highF o g.length (wid g) : Nat)), .un, .un, .un, .un] (fun out => outR out = some (.ok (F_ (lmF g o)))) := by
  have nd := sc_lmoved.nd
  generalize hH : highF o g.length (wid g) = hi at *
  generalize hW : wideF o g.length (wid g) = wi at *
  have elm : lmF g o = (List.range hi).map fun row => (List.range wi).map fun col => cellO g o g.length (wid g) row col := by
    unfold lmF
    rw [hH, hW]
  refine ss_cons (s_newml 6 nd fun a ha => ?_)
  refine ss_cons (s_forW (fun i => [.dt (F_ g), .dt (.str [o]), .dt (.int (g.length : Nat)), .dt (.int (wid g : Nat)), .dt (.int (wi : Nat)), .dt (.int (hi : Nat)), .ml a (((lmF g o).take i).map Dat.str), .un, .un, .un]) po_cx (i_range1 B.range (dv 5 rfl) ⟨by omega, by omega⟩) (gt_name (i := 7) nd) (fun x ρ ρ' h => h.set 7 _) (fun _ _ => True.intro)
    ⟨.inr rfl, .inr rfl, .inr rfl, .inr rfl, .inr rfl, .inr rfl, .inr rfl, .inr rfl, .inr rfl, .inr rfl, True.intro⟩ (fun fr i x hx => ?_) (fun ρ' hρ => ?_))
  · obtain ⟨rfl, hi'⟩ := rangeD_get hx
    refine ss_cons (s_set 8 nd (d_str (l := []) rfl) ?_)
    refine ss_cons (s_forW (fun j => [.dt (F_ g), .dt (.str [o]), .dt (.int (g.length : Nat)), .dt (.int (wid g : Nat)), .dt (.int (wi : Nat)), .dt (.int (hi : Nat)), .ml a (((lmF g o).take i).map Dat.str), .dt (.int (i : Nat)), .dt (.str (((List.range wi).map fun col => cellO g o g.length (wid g) i col).take j)), .un]) po_cx (i_range1 B.range (dv 4 rfl) ⟨by omega, by omega⟩) (gt_name (i := 9) nd) (fun x ρ ρ' h => h.set 9 _) (fun _ _ => True.intro)
      ⟨.inr rfl, .inr rfl, .inr rfl, .inr rfl, .inr rfl, .inr rfl, .inr rfl, .inr rfl, .inr rfl, .inr rfl, True.intro⟩ (fun fr j x hx => ?_) (fun ρ' hρ => ?_))
    · obtain ⟨rfl, hj⟩ := rangeD_get hx
      refine SS.mono (inner _ a i j _ _ (by rw [List.length_take]; omega) hi' hj) fun out e => ?_
      subst e
      refine ⟨.inr rfl, .inr rfl, .inr rfl, .inr rfl, .inr rfl, .inr rfl, .inr rfl, .inr rfl, .inr ?_, .inl rfl, True.intro⟩
      rw [map_take_succ _ hj]
    · refine SS.weak ?_ hρ
      rw [rangeD_len]
      have full : ((List.range wi).map fun col => cellO g o g.length (wid g) i col).take wi = (List.range wi).map fun col => cellO g o g.length (wid g) i col := List.take_of_length_le (by rw [List.length_map, List.length_range]; exact Nat.le_refl _)
      rw [full]
      refine ss_one (s_append 6 ha (dv 8 rfl) rfl ?_ ?_ (pv 6) fun a b => ps_expr (pe_bm PySem.F.plainAttrs_list PySem.F.slot_list_append PySem.F.type_list_append mt_append a (pa_cons b pa_nil)))
      · rw [List.length_map, List.length_take]
        omega
      · refine ⟨.inr rfl, .inr rfl, .inr rfl, .inr rfl, .inr rfl, .inr rfl, .inr ?_, .inl rfl, .inl rfl, .inl rfl, True.intro⟩
        show Sl.ml a _ = Sl.ml a _
        rw [elm, map_take_succ _ hi', List.map_append]
        rfl
  · refine SS.weak ?_ hρ
    have full : (lmF g o).take hi = lmF g o := List.take_of_length_le (by rw [elm, List.length_map, List.length_range]; exact Nat.le_refl _)
    rw [rangeD_len, full]
    exact SS.freeze (i := 6) rfl (ha.b0 (hM a)) ha.2 (ss_one (s_ret (d_tupleL B.tuple (dv 6 rfl)) rfl))
theorem c_lmoved (B : Bi mg) (h : At K mg "_law_moved" s__law_moved) : FnC P w K mg base "_law_moved" ["formation", "order"] C_lmoved 1 := by
  refine h.c1 (fun _ _ _ _ _ _ us hl => match us, hl with | [_, _], _ => rfl) fun f fd F => fnC_ok F sc_lmoved (fun as r ⟨d, n, e, _⟩ => by rw [e]; rfl) fun cdv A outer s H E as r W hM hr ⟨g, o, e, hg, ho, er⟩ => ?_
  subst e er
  have nd := sc_lmoved.nd
  have S := isFm_sh hg
  obtain ⟨a1, a2, a3, a4, a5, a6⟩ := shps_le _ S.mem
  have a1 : 1 ≤ g.length := a1
  have a2 : 1 ≤ wid g := a2
  have a3 : g.length ≤ 6 := a3
  have a4 : wid g ≤ 6 := a4
  have hwl := hw_le _ S.mem o ho
  have so := src_ok _ S.mem o ho
  rw [lm_mv hg ho]
  obtain ⟨g0, gr, eg⟩ : ∃ g0 gr, g = g0 :: gr := by
    cases g with
    | nil => simp at a1
    | cons a b => exact ⟨a, b, rfl⟩
  have e0 : (F_ g) = .tup (Dat.str g0 :: gr.map Dat.str) := by rw [eg]; rfl
  have ew : wid g = g0.length := by rw [eg]; rfl
  refine ss_cons (s_par (i := 2) (j := 3) (u := .int (g.length : Nat)) (v := .int (wid g : Nat)) (fun h => ps_par rfl nd rfl rfl (by decide) rfl rfl h rfl) (da_cons ((d_lenT B.len (dv 0 rfl)).is (by rw [List.length_map])) (da_one ((d_lenS (l := g0) B.len (d_ixT (xs := g.map Dat.str) (dv 0 rfl) d_int (atI_nat (j := 0) (by rw [eg]; rfl))) (by omega)).is (by rw [ew])))) ?_)
  refine ss_cons (s_par (i := 4) (j := 5) (u := .int (wid g : Nat)) (v := .int (g.length : Nat)) (fun h => ps_par rfl nd rfl rfl (by decide) rfl rfl h rfl) (da_cons (dv 3 rfl) (da_one (dv 2 rfl))) ?_)
  have hs : o = 65 ∨ o = 67 ∨ o = 68 ∨ o = 76 ∨ o = 77 ∨ o = 82 ∨ o = 83 ∨ o = 88 := by simpa [signs] using ho
  rcases hs with rfl | rfl | rfl | rfl | rfl | rfl | rfl | rfl
  · -- A
    refine ss_cons (s_if (T.is (t_inSign (l := [82, 76]) (dv 1 rfl) (d_str rfl)) (show _ = false by decide)) (fun h => by cases h) (fun _ => ss_nil ?_))
    refine ss_cons (s_if (T.is (t_eq hr.units (dv 1 rfl) (d_str (l := [68]) rfl) (by decide) (by decide)) (show _ = false by decide)) (fun h => by cases h) (fun _ => ss_nil ?_))
    refine ss_cons (s_if (T.is (t_eq hr.units (dv 1 rfl) (d_str (l := [83]) rfl) (by decide) (by decide)) (show _ = false by decide)) (fun h => by cases h) (fun _ => ss_nil ?_))
    refine ss_cons (s_if (b := false) (t_w (w_or (x := false) (y := false) (t_w (w_and (y := false) (T.is (t_eq hr.units (dv 1 rfl) (d_str (l := [68]) rfl) (by decide) (by decide)) (show _ = false by decide)) fun h => by cases h)) fun _ => w_or1 (t_w (w_and (y := false) (T.is (t_eq hr.units (dv 1 rfl) (d_str (l := [83]) rfl) (by decide) (by decide)) (show _ = false by decide)) fun h => by cases h)))) (fun h => by cases h) (fun _ => ss_nil ?_))
    have hc : canO 65 g.length (wid g) = true := by unfold canO; simp
    rw [if_pos hc]
    refine SS.weak (lm_loops (o := 65) B hM hwl.1 hwl.2 fun W a row col fd l hl hrow hcol => lm_inner_A hr hg rfl rfl hl (so hc row hrow col hcol).1 (so hc row hrow col hcol).2 ⟨a1, a2, Nat.le_trans (Nat.le_of_lt hrow) hwl.1, Nat.le_trans (Nat.le_of_lt hcol) hwl.2⟩ ⟨hrow, hcol⟩) ?_
    exact ⟨.inr rfl, .inr rfl, .inr rfl, .inr rfl, .inr rfl, .inr rfl, .inr rfl, .inr rfl, .inr rfl, .inr rfl, True.intro⟩
  · -- C
    refine ss_cons (s_if (T.is (t_inSign (l := [82, 76]) (dv 1 rfl) (d_str rfl)) (show _ = false by decide)) (fun h => by cases h) (fun _ => ss_nil ?_))
    refine ss_cons (s_if (T.is (t_eq hr.units (dv 1 rfl) (d_str (l := [68]) rfl) (by decide) (by decide)) (show _ = false by decide)) (fun h => by cases h) (fun _ => ss_nil ?_))
    refine ss_cons (s_if (T.is (t_eq hr.units (dv 1 rfl) (d_str (l := [83]) rfl) (by decide) (by decide)) (show _ = false by decide)) (fun h => by cases h) (fun _ => ss_nil ?_))
    refine ss_cons (s_if (b := false) (t_w (w_or (x := false) (y := false) (t_w (w_and (y := false) (T.is (t_eq hr.units (dv 1 rfl) (d_str (l := [68]) rfl) (by decide) (by decide)) (show _ = false by decide)) fun h => by cases h)) fun _ => w_or1 (t_w (w_and (y := false) (T.is (t_eq hr.units (dv 1 rfl) (d_str (l := [83]) rfl) (by decide) (by decide)) (show _ = false by decide)) fun h => by cases h)))) (fun h => by cases h) (fun _ => ss_nil ?_))
    have hc : canO 67 g.length (wid g) = true := by unfold canO; simp
    rw [if_pos hc]
    refine SS.weak (lm_loops (o := 67) B hM hwl.1 hwl.2 fun W a row col fd l hl hrow hcol => lm_inner_C hr hg rfl rfl hl (so hc row hrow col hcol).1 (so hc row hrow col hcol).2 ⟨a1, a2, Nat.le_trans (Nat.le_of_lt hrow) hwl.1, Nat.le_trans (Nat.le_of_lt hcol) hwl.2⟩ trivial) ?_
    exact ⟨.inr rfl, .inr rfl, .inr rfl, .inr rfl, .inr rfl, .inr rfl, .inr rfl, .inr rfl, .inr rfl, .inr rfl, True.intro⟩
  · -- D
    refine ss_cons (s_if (T.is (t_inSign (l := [82, 76]) (dv 1 rfl) (d_str rfl)) (show _ = false by decide)) (fun h => by cases h) (fun _ => ss_nil ?_))
    refine ss_cons (s_if (T.is (t_eq hr.units (dv 1 rfl) (d_str (l := [68]) rfl) (by decide) (by decide)) (show _ = true by decide)) (fun _ => ss_one (s_par (i := 4) (j := 5) (u := .int ((2 * wid g : Nat) : Int)) (v := .int ((g.length / 2 : Nat) : Int)) (fun h => ps_par rfl nd rfl rfl (by decide) rfl rfl h rfl) (da_cons (D.is (d_mul (.inl ⟨by decide, by decide⟩) d_int (dv 3 rfl)) (congrArg Dat.int (by omega))) (da_one (D.is (d_fdiv ⟨by decide, by decide⟩ (dv 2 rfl) d_int) (congrArg Dat.int (by omega))))) ?_)) (fun h => by cases h))
    refine ss_cons (s_if (T.is (t_eq hr.units (dv 1 rfl) (d_str (l := [83]) rfl) (by decide) (by decide)) (show _ = false by decide)) (fun h => by cases h) (fun _ => ss_nil ?_))
    refine ss_cons (s_if (t_w (TW.is (w_or (y := false) (t_w (w_and (T.is (t_eq hr.units (dv 1 rfl) (d_str (l := [68]) rfl) (by decide) (by decide)) (show _ = true by decide)) fun _ => w_and1 (int_eq hr.units (d_mod (by decide) (dv 2 rfl) d_int) d_int))) fun _ => w_or1 (t_w (w_and (y := false) (T.is (t_eq hr.units (dv 1 rfl) (d_str (l := [83]) rfl) (by decide) (by decide)) (show _ = false by decide)) fun h => by cases h))) (show _ = decide (g.length % 2 = 1) by rw [Bool.true_and, Bool.or_false]; exact decide_eq_decide.mpr (by omega)))) (fun h => ss_one (s_ret d_non ?_)) (fun h => ss_nil ?_))
    · have h := of_decide_eq_true h
      rw [if_neg (by unfold canO; simp [h])]
      rfl
    have hno := of_decide_eq_false h
    have hc : canO 68 g.length (wid g) = true := by unfold canO; simp; omega
    rw [if_pos hc]
    refine SS.weak (lm_loops (o := 68) B hM hwl.1 hwl.2 fun W a row col fd l hl hrow hcol => lm_inner_D hr hg rfl rfl hl (so hc row hrow col hcol).1 (so hc row hrow col hcol).2 ⟨a1, a2, Nat.le_trans (Nat.le_of_lt hrow) hwl.1, Nat.le_trans (Nat.le_of_lt hcol) hwl.2⟩ trivial) ?_
    exact ⟨.inr rfl, .inr rfl, .inr rfl, .inr rfl, .inr rfl, .inr rfl, .inr rfl, .inr rfl, .inr rfl, .inr rfl, True.intro⟩
  · -- L
    refine ss_cons (s_if (T.is (t_inSign (l := [82, 76]) (dv 1 rfl) (d_str rfl)) (show _ = true by decide)) (fun _ => ss_one (s_par (i := 4) (j := 5) (u := .int (g.length : Nat)) (v := .int (wid g : Nat)) (fun h => ps_par rfl nd rfl rfl (by decide) rfl rfl h rfl) (da_cons (dv 2 rfl) (da_one (dv 3 rfl))) ?_)) (fun h => by cases h))
    refine ss_cons (s_if (T.is (t_eq hr.units (dv 1 rfl) (d_str (l := [68]) rfl) (by decide) (by decide)) (show _ = false by decide)) (fun h => by cases h) (fun _ => ss_nil ?_))
    refine ss_cons (s_if (T.is (t_eq hr.units (dv 1 rfl) (d_str (l := [83]) rfl) (by decide) (by decide)) (show _ = false by decide)) (fun h => by cases h) (fun _ => ss_nil ?_))
    refine ss_cons (s_if (b := false) (t_w (w_or (x := false) (y := false) (t_w (w_and (y := false) (T.is (t_eq hr.units (dv 1 rfl) (d_str (l := [68]) rfl) (by decide) (by decide)) (show _ = false by decide)) fun h => by cases h)) fun _ => w_or1 (t_w (w_and (y := false) (T.is (t_eq hr.units (dv 1 rfl) (d_str (l := [83]) rfl) (by decide) (by decide)) (show _ = false by decide)) fun h => by cases h)))) (fun h => by cases h) (fun _ => ss_nil ?_))
    have hc : canO 76 g.length (wid g) = true := by unfold canO; simp
    rw [if_pos hc]
    refine SS.weak (lm_loops (o := 76) B hM hwl.1 hwl.2 fun W a row col fd l hl hrow hcol => lm_inner_L hr hg rfl rfl hl (so hc row hrow col hcol).1 (so hc row hrow col hcol).2 ⟨a1, a2, Nat.le_trans (Nat.le_of_lt hrow) hwl.1, Nat.le_trans (Nat.le_of_lt hcol) hwl.2⟩ (by have z : col < g.length := hcol; exact z)) ?_
    exact ⟨.inr rfl, .inr rfl, .inr rfl, .inr rfl, .inr rfl, .inr rfl, .inr rfl, .inr rfl, .inr rfl, .inr rfl, True.intro⟩
  · -- M
    refine ss_cons (s_if (T.is (t_inSign (l := [82, 76]) (dv 1 rfl) (d_str rfl)) (show _ = false by decide)) (fun h => by cases h) (fun _ => ss_nil ?_))
    refine ss_cons (s_if (T.is (t_eq hr.units (dv 1 rfl) (d_str (l := [68]) rfl) (by decide) (by decide)) (show _ = false by decide)) (fun h => by cases h) (fun _ => ss_nil ?_))
    refine ss_cons (s_if (T.is (t_eq hr.units (dv 1 rfl) (d_str (l := [83]) rfl) (by decide) (by decide)) (show _ = false by decide)) (fun h => by cases h) (fun _ => ss_nil ?_))
    refine ss_cons (s_if (b := false) (t_w (w_or (x := false) (y := false) (t_w (w_and (y := false) (T.is (t_eq hr.units (dv 1 rfl) (d_str (l := [68]) rfl) (by decide) (by decide)) (show _ = false by decide)) fun h => by cases h)) fun _ => w_or1 (t_w (w_and (y := false) (T.is (t_eq hr.units (dv 1 rfl) (d_str (l := [83]) rfl) (by decide) (by decide)) (show _ = false by decide)) fun h => by cases h)))) (fun h => by cases h) (fun _ => ss_nil ?_))
    have hc : canO 77 g.length (wid g) = true := by unfold canO; simp
    rw [if_pos hc]
    refine SS.weak (lm_loops (o := 77) B hM hwl.1 hwl.2 fun W a row col fd l hl hrow hcol => lm_inner_M hr hg rfl rfl hl (so hc row hrow col hcol).1 (so hc row hrow col hcol).2 ⟨a1, a2, Nat.le_trans (Nat.le_of_lt hrow) hwl.1, Nat.le_trans (Nat.le_of_lt hcol) hwl.2⟩ hcol) ?_
    exact ⟨.inr rfl, .inr rfl, .inr rfl, .inr rfl, .inr rfl, .inr rfl, .inr rfl, .inr rfl, .inr rfl, .inr rfl, True.intro⟩
  · -- R
    refine ss_cons (s_if (T.is (t_inSign (l := [82, 76]) (dv 1 rfl) (d_str rfl)) (show _ = true by decide)) (fun _ => ss_one (s_par (i := 4) (j := 5) (u := .int (g.length : Nat)) (v := .int (wid g : Nat)) (fun h => ps_par rfl nd rfl rfl (by decide) rfl rfl h rfl) (da_cons (dv 2 rfl) (da_one (dv 3 rfl))) ?_)) (fun h => by cases h))
    refine ss_cons (s_if (T.is (t_eq hr.units (dv 1 rfl) (d_str (l := [68]) rfl) (by decide) (by decide)) (show _ = false by decide)) (fun h => by cases h) (fun _ => ss_nil ?_))
    refine ss_cons (s_if (T.is (t_eq hr.units (dv 1 rfl) (d_str (l := [83]) rfl) (by decide) (by decide)) (show _ = false by decide)) (fun h => by cases h) (fun _ => ss_nil ?_))
    refine ss_cons (s_if (b := false) (t_w (w_or (x := false) (y := false) (t_w (w_and (y := false) (T.is (t_eq hr.units (dv 1 rfl) (d_str (l := [68]) rfl) (by decide) (by decide)) (show _ = false by decide)) fun h => by cases h)) fun _ => w_or1 (t_w (w_and (y := false) (T.is (t_eq hr.units (dv 1 rfl) (d_str (l := [83]) rfl) (by decide) (by decide)) (show _ = false by decide)) fun h => by cases h)))) (fun h => by cases h) (fun _ => ss_nil ?_))
    have hc : canO 82 g.length (wid g) = true := by unfold canO; simp
    rw [if_pos hc]
    refine SS.weak (lm_loops (o := 82) B hM hwl.1 hwl.2 fun W a row col fd l hl hrow hcol => lm_inner_R hr hg rfl rfl hl (so hc row hrow col hcol).1 (so hc row hrow col hcol).2 ⟨a1, a2, Nat.le_trans (Nat.le_of_lt hrow) hwl.1, Nat.le_trans (Nat.le_of_lt hcol) hwl.2⟩ (by have z : row < wid g := hrow; exact z)) ?_
    exact ⟨.inr rfl, .inr rfl, .inr rfl, .inr rfl, .inr rfl, .inr rfl, .inr rfl, .inr rfl, .inr rfl, .inr rfl, True.intro⟩
  · -- S
    refine ss_cons (s_if (T.is (t_inSign (l := [82, 76]) (dv 1 rfl) (d_str rfl)) (show _ = false by decide)) (fun h => by cases h) (fun _ => ss_nil ?_))
    refine ss_cons (s_if (T.is (t_eq hr.units (dv 1 rfl) (d_str (l := [68]) rfl) (by decide) (by decide)) (show _ = false by decide)) (fun h => by cases h) (fun _ => ss_nil ?_))
    refine ss_cons (s_if (T.is (t_eq hr.units (dv 1 rfl) (d_str (l := [83]) rfl) (by decide) (by decide)) (show _ = true by decide)) (fun _ => ss_one (s_par (i := 4) (j := 5) (u := .int ((wid g / 2 : Nat) : Int)) (v := .int ((2 * g.length : Nat) : Int)) (fun h => ps_par rfl nd rfl rfl (by decide) rfl rfl h rfl) (da_cons (D.is (d_fdiv ⟨by decide, by decide⟩ (dv 3 rfl) d_int) (congrArg Dat.int (by omega))) (da_one (D.is (d_mul (.inl ⟨by decide, by decide⟩) d_int (dv 2 rfl)) (congrArg Dat.int (by omega))))) ?_)) (fun h => by cases h))
    refine ss_cons (s_if (t_w (TW.is (w_or (x := false) (t_w (w_and (y := false) (T.is (t_eq hr.units (dv 1 rfl) (d_str (l := [68]) rfl) (by decide) (by decide)) (show _ = false by decide)) fun h => by cases h)) fun _ => w_or1 (t_w (w_and (T.is (t_eq hr.units (dv 1 rfl) (d_str (l := [83]) rfl) (by decide) (by decide)) (show _ = true by decide)) fun _ => w_and1 (int_eq hr.units (d_mod (by decide) (dv 3 rfl) d_int) d_int)))) (show _ = decide (wid g % 2 = 1) by rw [Bool.true_and, Bool.false_or]; exact decide_eq_decide.mpr (by omega)))) (fun h => ss_one (s_ret d_non ?_)) (fun h => ss_nil ?_))
    · have h := of_decide_eq_true h
      rw [if_neg (by unfold canO; simp [h])]
      rfl
    have hno := of_decide_eq_false h
    have hc : canO 83 g.length (wid g) = true := by unfold canO; simp; omega
    rw [if_pos hc]
    refine SS.weak (lm_loops (o := 83) B hM hwl.1 hwl.2 fun W a row col fd l hl hrow hcol => lm_inner_S hr hg rfl rfl hl (so hc row hrow col hcol).1 (so hc row hrow col hcol).2 ⟨a1, a2, Nat.le_trans (Nat.le_of_lt hrow) hwl.1, Nat.le_trans (Nat.le_of_lt hcol) hwl.2⟩ trivial) ?_
    exact ⟨.inr rfl, .inr rfl, .inr rfl, .inr rfl, .inr rfl, .inr rfl, .inr rfl, .inr rfl, .inr rfl, .inr rfl, True.intro⟩
  · -- X
    refine ss_cons (s_if (T.is (t_inSign (l := [82, 76]) (dv 1 rfl) (d_str rfl)) (show _ = false by decide)) (fun h => by cases h) (fun _ => ss_nil ?_))
    refine ss_cons (s_if (T.is (t_eq hr.units (dv 1 rfl) (d_str (l := [68]) rfl) (by decide) (by decide)) (show _ = false by decide)) (fun h => by cases h) (fun _ => ss_nil ?_))
    refine ss_cons (s_if (T.is (t_eq hr.units (dv 1 rfl) (d_str (l := [83]) rfl) (by decide) (by decide)) (show _ = false by decide)) (fun h => by cases h) (fun _ => ss_nil ?_))
    refine ss_cons (s_if (b := false) (t_w (w_or (x := false) (y := false) (t_w (w_and (y := false) (T.is (t_eq hr.units (dv 1 rfl) (d_str (l := [68]) rfl) (by decide) (by decide)) (show _ = false by decide)) fun h => by cases h)) fun _ => w_or1 (t_w (w_and (y := false) (T.is (t_eq hr.units (dv 1 rfl) (d_str (l := [83]) rfl) (by decide) (by decide)) (show _ = false by decide)) fun h => by cases h)))) (fun h => by cases h) (fun _ => ss_nil ?_))
    have hc : canO 88 g.length (wid g) = true := by unfold canO; simp
    rw [if_pos hc]
    refine SS.weak (lm_loops (o := 88) B hM hwl.1 hwl.2 fun W a row col fd l hl hrow hcol => lm_inner_X hr hg rfl rfl hl (so hc row hrow col hcol).1 (so hc row hrow col hcol).2 ⟨a1, a2, Nat.le_trans (Nat.le_of_lt hrow) hwl.1, Nat.le_trans (Nat.le_of_lt hcol) hwl.2⟩ trivial) ?_
    exact ⟨.inr rfl, .inr rfl, .inr rfl, .inr rfl, .inr rfl, .inr rfl, .inr rfl, .inr rfl, .inr rfl, .inr rfl, True.intro⟩
/-! ### _law_led -/
def C_lled : List Dat → Res → Prop := fun as r => ∃ (f : Fm) (os : List Nat), as = [F_ f, .str os] ∧ isFm f = true ∧ os.length ≤ 1000 ∧ (∀ c ∈ os, c ∈ signs) ∧ r = .ok (optF (aftF f os))
abbrev N_lld : List Str := ["formation", "orders", "order"]
theorem sc_lled : FnScope N_lld ["formation", "orders"] (defScope s__law_led) := ⟨rfl, rfl, rfl, by decide +kernel, rfl, by decide +kernel, by decide +kernel⟩
theorem aft_snoc (f : Fm) (os : List Nat) (o : Nat) : aftF f (os ++ [o]) = (aftF f os).bind fun g => mvF g o := by
  rw [aftF_app]
  cases aftF f os with
  | none => rfl
  | some g =>
    show (mvF g o).bind (fun g => some g) = mvF g o
    cases mvF g o <;> rfl
theorem c_lled (G1 : FnC P w K mg base "_law_moved" ["formation", "order"] C_lmoved 1) (h : At K mg "_law_led" s__law_led) : FnC P w K mg base "_law_led" ["formation", "orders"] C_lled 2 := by
  refine h.c1 (fun _ _ _ _ _ _ us hl => match us, hl with | [_, _], _ => rfl) fun f fd F => fnC_ok F sc_lled (fun as r ⟨d, n, e, _⟩ => by rw [e]; rfl) fun cdv A outer s H E as r W hM hr ⟨g, os, e, hg, h1, ho, er⟩ => ?_
  subst e er
  have nd := sc_lled.nd
  refine ss_cons (s_forW (fun i => [.dt (optF (aftF g (os.take i))), .dt (.str os), .un]) po_cx (i_str (dv 1 rfl)) (gt_name (i := 2) nd) (fun x ρ ρ' h => h.set 2 _) (fun _ _ => True.intro) ⟨.inr rfl, .inr rfl, .inr rfl, True.intro⟩ (fun fr i x hx => ?_) (fun ρ' hρ => ?_))
  · rw [List.getElem?_map] at hx
    obtain ⟨c, hc, rfl⟩ := Option.map_eq_some_iff.mp hx
    have hcs := ho c (List.mem_of_getElem? hc)
    have et : aftF g (os.take (i + 1)) = (aftF g (os.take i)).bind fun g => mvF g c := by
      rw [List.take_add_one, hc, show (some c).toList = [c] from rfl, aft_snoc]
    cases hm : aftF g (os.take i) with
    | none =>
      refine ss_one (s_set 0 nd (d_if (r := .ok .non) (t_isN (dv 0 rfl)) (fun _ => d_non) (fun h => by cases h)) ?_)
      refine ⟨.inr ?_, .inr rfl, .inl rfl, True.intro⟩
      rw [et, hm]
      rfl
    | some g2 =>
      refine ss_one (s_set 0 nd (d_if (r := .ok (optF (mvF g2 c))) (t_isN (dv 0 rfl)) (fun h => by cases h) (fun _ => d_call G1 (hr.mono (by decide)) pa_cx (da_cons (dv 0 rfl) (da_one (dv 2 rfl))) ⟨g2, c, rfl, aft_isFm hg hm, hcs, rfl⟩)) ?_)
      refine ⟨.inr ?_, .inr rfl, .inl rfl, True.intro⟩
      rw [et, hm]
      rfl
  · refine SS.weak ?_ hρ
    rw [List.length_map, List.take_length]
    exact ss_one (s_ret (dv 0 rfl) rfl)
end
end G

set_option Elab.async false
set_option linter.all false
set_option maxRecDepth 100000
set_option maxHeartbeats 4000000
namespace G
open PySem PySem.Spec PyProof.Rows L2 TL
/-! ### can -/
theorem optF_isN (o : Option Fm) : (!(optF o).isN) = o.isSome := by cases o <;> rfl
section
variable {P : Program} {w : World} {K : PySem.W.Frag} {mg : Str → Option Value} {base : Heap} {IF IO IM : Addr}
abbrev C_can (IF IO : Addr) : List Dat → Res → Prop := C_both IF IO fun f os r => r = .ok (.bl (aftF f os).isSome)
end
/-! people stay the same -/
theorem mv_perm {f g : Fm} {o : Nat} (hf : isFm f = true) (h : mvF f o = some g) : g.flatten.Perm f.flatten := by
  have main : ∀ o ∈ signs, mvF f o = some g → g.flatten.Perm f.flatten := fun o ho h => by
    have s := isFm_sh hf
    have z := gd_mv _ s.mem o ho
    rw [s.eq, mvF_nat] at h
    cases e : mvF (idF f.length (wid f)) o with
    | none =>
      rw [e] at h
      cases h
    | some g0 =>
      rw [e] at h z
      have h := Option.some.inj h
      have z : gdF (f.length * wid f) g0 = true := z
      unfold gdF at z
      simp only [Bool.and_eq_true, decide_eq_true_eq] at z
      rw [← h, mapF_flat]
      have p : g0.flatten.Perm (List.range f.flatten.length) := by
        rw [s.flat, ← z.2]
        exact (sortN_perm _).symm
      have q := p.map (hF f)
      rw [show (List.range f.flatten.length).map (hF f) = f.flatten from map_range] at q
      exact q
  by_cases ho : o ∈ signs
  · exact main o ho h
  · rw [mv_other ho] at h
    exact main 77 (by decide) h
theorem aft_perm : ∀ {os : List Nat} {f g : Fm}, isFm f = true → aftF f os = some g → g.flatten.Perm f.flatten
  | [], f, g, hf, h => by
    have h := Option.some.inj h
    rw [← h]
  | o :: r, f, g, hf, h => by
    have h : (mvF f o).bind (fun g => aftF g r) = some g := h
    cases e : mvF f o with
    | none =>
      rw [e] at h
      cases h
    | some g0 =>
      rw [e] at h
      exact (aft_perm (mv_isFm hf e) h).trans (mv_perm hf e)
end G

set_option Elab.async false
set_option linter.all false
set_option maxRecDepth 100000
set_option maxHeartbeats 4000000
namespace G
open PySem PySem.Spec PyProof.Rows L2 TL
/-! ### need_shape, in_sequence, first -/
def okI : Dat → Bool
  | .int i => decide (1 ≤ i) && decide (i ≤ 6)
  | _ => false
def isShp : Dat → Dat → Bool
  | .int r, .int c => okI (.int r) && okI (.int c) && (decide (2 ≤ r * c) && decide (r * c ≤ 6))
  | _, _ => false
def ifTest : List Stmt → Expr
  | .If c _ _ _ :: _ => c
  | _ => .Constant .none 0 ⟨0, 0, 0, 0⟩
section
variable {P : Program} {w : World} {K : PySem.W.Frag} {mg : Str → Option Value} {base : Heap} {IS IO IF : Addr}
def C_needsh (IS : Addr) : List Dat → Res → Prop := fun as r => ∃ d e, as = [d, e] ∧ (d.isD = false ∧ e.isD = false) ∧ r = needR (isShp d e) IS (.ok .non)
abbrev N_nsh : List Str := ["ranks", "files", "one"]
theorem isI_or {d : Dat} (h : d.isI = true) : (∃ i, d = .int i) ∨ ∃ b, d = .bl b := by
  cases d <;> first | exact .inl ⟨_, rfl⟩ | exact .inr ⟨_, rfl⟩ | cases h
theorem isShp_ok {d e : Dat} (h : isShp d e = true) : okI d = true ∧ okI e = true := by
  cases d with
  | int r =>
    cases e with
    | int c =>
      have h : (okI (.int r) && okI (.int c) && (decide (2 ≤ r * c) && decide (r * c ≤ 6))) = true := h
      rw [Bool.and_eq_true, Bool.and_eq_true] at h
      exact h.1
    | _ => cases h
  | _ => cases h
theorem isShp_d {d e : Dat} (h : isShp d e = true) : d.isD = false ∧ e.isD = false := by
  have z := isShp_ok h
  exact ⟨by cases d <;> first | rfl | (exact (Bool.noConfusion z.1)), by cases e <;> first | rfl | (exact (Bool.noConfusion z.2))⟩
theorem okI_int {d : Dat} (h : okI d = true) : ∃ i : Int, d = .int i ∧ 1 ≤ i ∧ i ≤ 6 := by
  cases d with
  | int i =>
    have h : (decide (1 ≤ i) && decide (i ≤ 6)) = true := h
    rw [Bool.and_eq_true] at h
    exact ⟨i, rfl, of_decide_eq_true h.1, of_decide_eq_true h.2⟩
  | _ => cases h
def fstF (r c : Nat) : Fm := chunk lets c r
theorem fst_ok : ∀ s ∈ shps, isFm (fstF s.1 s.2) = true ∧ (fstF s.1 s.2).length = s.1 ∧ wid (fstF s.1 s.2) = s.2 := by decide +kernel
theorem isShp_nat {d e : Dat} (h : isShp d e = true) : ∃ r c : Nat, d = .int r ∧ e = .int c ∧ (r, c) ∈ shps := by
  obtain ⟨h1, h2⟩ := isShp_ok h
  obtain ⟨r, rfl, r1, r2⟩ := okI_int h1
  obtain ⟨c, rfl, c1, c2⟩ := okI_int h2
  have h : (okI (.int r) && okI (.int c) && (decide (2 ≤ r * c) && decide (r * c ≤ 6))) = true := h
  rw [h1, h2, Bool.true_and, Bool.true_and, Bool.and_eq_true] at h
  have p1 := of_decide_eq_true h.1
  have p2 := of_decide_eq_true h.2
  refine ⟨r.toNat, c.toNat, by congr 1; omega, by congr 1; omega, ?_⟩
  have e : ((r.toNat * c.toNat : Nat) : Int) = r * c := by
    rw [Int.natCast_mul, Int.toNat_of_nonneg (by omega), Int.toNat_of_nonneg (by omega)]
  exact shp_mem (by omega) (by omega) (by omega) (by omega)
theorem isShp_of {r c : Nat} (h : (r, c) ∈ shps) : isShp (.int r) (.int c) = true := by
  have z : ∀ s ∈ shps, isShp (.int s.1) (.int s.2) = true := by decide +kernel
  exact z _ h
def C_inseq : List Dat → Res → Prop := fun as x => ∃ r c : Nat, as = [.int r, .int c] ∧ (r, c) ∈ shps ∧ x = .ok (F_ (fstF r c))
abbrev N_isq : List Str := ["ranks", "files", "rank"]
def C_first (IS : Addr) : List Dat → Res → Prop := fun as x => (∃ d e, as = [d, e] ∧ (d.isD = false ∧ e.isD = false) ∧ isShp d e = false ∧ x = .err (.ref IS)) ∨ ∃ r c : Nat, as = [.int r, .int c] ∧ (r, c) ∈ shps ∧ x = .ok (F_ (fstF r c))
abbrev N_fst : List Str := ["ranks", "files"]
def sameF (r c : Nat) (o1 o2 : List Nat) : Bool := (aftF (fstF r c) o1).isSome && decide (aftF (fstF r c) o1 = aftF (fstF r c) o2)
inductive C_same (IS IO : Addr) : List Dat → Res → Prop
  | badS (d e x y : Dat) : d.isD = false ∧ e.isD = false → isShp d e = false → C_same IS IO [d, e, x, y] (.err (.ref IS))
  | bad1 (d e x y : Dat) : isShp d e = true → okV x → isOrd x = false → C_same IS IO [d, e, x, y] (.err (.ref IO))
  | bad2 (d e x y : Dat) : isShp d e = true → okV x → okV y → isOrd x = true → isOrd y = false → C_same IS IO [d, e, x, y] (.err (.ref IO))
  | ok (r c : Nat) (o1 o2 : List Nat) : (r, c) ∈ shps → isOrd (.str o1) = true → isOrd (.str o2) = true → C_same IS IO [.int r, .int c, .str o1, .str o2] (.ok (.bl (sameF r c o1 o2)))
theorem C_same.len {IS IO : Addr} {as : List Dat} {r : Res} (h : C_same IS IO as r) : as.length = 4 := by cases h <;> rfl
abbrev N_sme : List Str := ["ranks", "files", "orders", "more", "made"]
theorem okn_opt {f : Fm} {os : List Nat} (hf : isFm f = true) : okn 9 (optF (aftF f os)) = true := by
  cases e : aftF f os with
  | none => rfl
  | some g => exact okn_mono (by decide) (okn_F (aft_isFm hf e))
theorem opt_eq (g : Fm) (b : Option Fm) : Dat.eq (F_ g) (optF b) = decide (some g = b) := by
  cases b with
  | none => rfl
  | some g2 =>
    show Dat.eq (F_ g) (F_ g2) = _
    rw [F_eq]
    exact decide_eq_decide.mpr ⟨fun h => by rw [h], fun h => Option.some.inj h⟩
end
end G

set_option Elab.async false
set_option linter.all false
set_option maxRecDepth 100000
namespace G
/-! what one formation shows holds for all of its shape -/
theorem fst_map : ∀ s ∈ shps, fstF s.1 s.2 = mapF (fun n => n + 97) (idF s.1 s.2) := by decide +kernel
theorem lets_lt : ∀ n, n < 7 → ∀ y ∈ lets.take n, y < 97 + n := by decide +kernel
theorem lt_aft {r c : Nat} {os : List Nat} {g0 : Fm} (hs : (r, c) ∈ shps) (h : aftF (idF r c) os = some g0) : ltF (r * c) g0 = true := by
  have hf := (fst_ok _ hs).1
  have hl := (fst_ok _ hs).2.1
  have hw := (fst_ok _ hs).2.2
  have e : aftF (fstF r c) os = some (mapF (fun n => n + 97) g0) := by
    rw [fst_map _ hs]
    show aftF (mapF _ (idF r c)) os = _
    rw [aftF_nat, h]
    rfl
  have hg := aft_isFm hf e
  have s := isFm_sh hf
  have fl : (fstF r c).flatten.length = r * c := by
    have z := s.flat
    rw [show (fstF r c).length = r from hl, show wid (fstF r c) = c from hw] at z
    exact z
  obtain ⟨_, _, _, a4, a5, a6⟩ := shps_le _ hs
  unfold ltF
  rw [List.all_eq_true]
  intro l hm
  rw [List.all_eq_true]
  intro x hx
  have m1 : x + 97 ∈ (mapF (fun n => n + 97) g0).flatten := by
    rw [mapF_flat]
    exact List.mem_map_of_mem (List.mem_flatten.mpr ⟨l, hm, hx⟩)
  have srt := (isFm_len hg).2.2.2.2.2
  rw [← (sortN_perm _).mem_iff, srt, (aft_perm hf e).length_eq, fl] at m1
  have a6 : r * c ≤ 6 := a6
  have := lets_lt (r * c) (by omega) _ m1
  exact decide_eq_true (by omega)
theorem aft_eq {f : Fm} {r c : Nat} (s : Sh f r c) (o1 o2 : List Nat) : (aftF f o1 = aftF f o2) ↔ (aftF (idF r c) o1 = aftF (idF r c) o2) := by
  rw [aft_sh s, aft_sh s]
  refine ⟨fun h => ?_, fun h => by rw [h]⟩
  cases e1 : aftF (idF r c) o1 with
  | none =>
    cases e2 : aftF (idF r c) o2 with
    | none => rfl
    | some g2 =>
      rw [e1, e2] at h
      cases h
  | some g1 =>
    cases e2 : aftF (idF r c) o2 with
    | none =>
      rw [e1, e2] at h
      cases h
    | some g2 =>
      rw [e1, e2] at h
      have h := Option.some.inj h
      rw [mapF_inj s (lt_aft s.mem e1) (lt_aft s.mem e2) h]
theorem aft_eq2 {f g : Fm} {r c : Nat} (s : Sh f r c) (s2 : Sh g r c) (o1 o2 : List Nat) : decide (aftF f o1 = aftF f o2) = decide (aftF g o1 = aftF g o2) := decide_eq_decide.mpr ((aft_eq s o1 o2).trans (aft_eq s2 o1 o2).symm)
theorem some_eq2 {f g : Fm} {r c : Nat} (s : Sh f r c) (s2 : Sh g r c) (os : List Nat) : (aftF f os).isSome = (aftF g os).isSome := by
  rw [aft_sh s, aft_sh s2]
  cases aftF (idF r c) os <;> rfl
end G

set_option Elab.async false
set_option linter.all false
set_option maxRecDepth 100000
set_option maxHeartbeats 2000000
namespace G
open PySem PySem.Spec PyProof.Rows L2 TL LamX
theorem okn_err {nm : List Nat} (h : (nm.all fun c => Nat.blt c 1114112) = true) : okn 9 (errD nm) = true := by
  show ((errC.all fun c => Nat.blt c 1114112) && ((nm.all fun c => Nat.blt c 1114112) && true)) = true
  rw [h]
  rfl
theorem kinds_ok : ∀ i, i < 9 → ((kinds.getD i []).all fun c => Nat.blt c 1114112) = true := by decide +kernel
theorem aft_one (f : Fm) (o : Nat) : aftF f [o] = mvF f o := by
  show (mvF f o).bind (fun g => some g) = mvF f o
  cases mvF f o <;> rfl
theorem some_sh {f : Fm} {r c : Nat} (s : Sh f r c) (os : List Nat) : (aftF f os).isSome = (aftF (idF r c) os).isSome := by
  rw [aft_sh s]
  cases aftF (idF r c) os <;> rfl
theorem bl_ne {a b : Bool} (h : a = b) : (!Dat.eq (.bl a) (.bl b)) = false := by
  subst h
  cases a <;> rfl
theorem no_ne {x y : Dat} (h : x = y) (ok : okn 9 x = true) : (!Dat.eq x y) = false := by
  subst h
  rw [Dat.eq_refl x ok]
  rfl
theorem okF {f : Fm} (h : isFm f = true) : okn 9 (F_ f) = true := okn_mono (by decide) (okn_F h)
/-! tests whose answer hangs on the dice -/
def tEX (K : PySem.W.Frag) (W : Wl) (ρ : List Sl) (S : Bool → Prop) : TT := fun σ H Q => ∃ B, Wd W B H ∧ EnvR K B H σ ρ ∧ ∀ b H' B', S b → Wd W B' H' → EnvR K B' H' σ ρ → Sm (mask B H) (mask B' H') → Q b H'
abbrev TX (X : Cx) (W : Wl) (e : Expr) (ρ : List Sl) (S : Bool → Prop) : Prop := PT X e (tEX X.K W ρ S)
section
variable {X : Cx} {E : XK} {W : Wl} {ρ : List Sl} {P : Out → Prop}
theorem tx_cmp {a b : Expr} {op : CmpOp} {r : R2} {S1 S2 : Dat → Prop} {S : Bool → Prop} {pos : Pos} (hr : OpR X (compareOp op) r) (ho : ∀ x y, S1 x → S2 y → ∃ z, S z ∧ Op2 X.K r x y (.bl z)) (ha : DE X W a ρ S1) (hb : DE X W b ρ S2) (hm : behindInMarks op b = false := by first | exact nomark _ | rfl) : TX X W (.Compare a [op] [b] pos) ρ S :=
  pt_imp (pt_cmpR hr ha hb hm) fun σ H Q ⟨B, w, en, q⟩ => ⟨B, w, en, fun vx H1 B1 x h1 w1 en1 m1 rx => ⟨B1, w1, en1, fun vy H2 B2 y h2 w2 en2 m2 ry => by
    obtain ⟨z, hz, oz⟩ := ho x y h1 h2
    exact oz B2 H2 vx vy _ w2.cov (rx.monoN m2) ry fun v H3 s3 rv => ⟨z, rp_bl rv, q z H3 B2 hz (w2.same s3) (en2.same s3) ((m1.trans m2).trans (Sm.of (mask_same s3)))⟩⟩⟩
theorem tx_eq {a b : Expr} {S1 S2 : Dat → Prop} {S : Bool → Prop} {pos : Pos} (hu : X.A.units + 64 < cLine) (ho : ∀ x y, S1 x → S2 y → okn 9 x = true ∧ okn 9 y = true ∧ S (Dat.eq x y)) (ha : DE X W a ρ S1) (hb : DE X W b ρ S2) : TX X W (.Compare a [.Eq] [b] pos) ρ S :=
  tx_cmp (op_eqD hu) (fun x y h1 h2 => let ⟨k1, k2, k3⟩ := ho x y h1 h2; ⟨_, k3, o_eqD k1 k2⟩) ha hb
theorem s_ifX {c : Expr} {th el : List Stmt} {S : Bool → Prop} {pos : Pos} (t : TX X W c ρ S) (h1 : S true → SS X E W th ρ P) (h2 : S false → SS X E W el ρ P) : S1 X E W (.If c th el pos) ρ P := by
  refine ps_imp (ps_if t (pss_ex (ι := PLift (S true)) (t := fun _ => tS X.K E W ρ P) fun q => h1 q.down) (pss_ex (ι := PLift (S false)) (t := fun _ => tS X.K E W ρ P) fun q => h2 q.down)) fun D σ H ⟨B, w, en, p⟩ => ⟨B, w, en, fun b H1 B1 hb w1 en1 m1 => ?_⟩
  cases b with
  | true => exact iteT ⟨⟨hb⟩, B1, w1, en1, p⟩
  | false => exact iteF ⟨⟨hb⟩, B1, w1, en1, p⟩
end
/-! a formation's sizes -/
section
variable {X : Cx} {E : XK} {W : Wl} {ρ : List Sl} {P : Out → Prop}
theorem d_ranks {a : Expr} {g : Fm} {p pos : Pos} (hm : X.mg "len" = none) (ha : D X E a ρ (.ok (F_ g))) (hg : Gl X "len" := by rfl) (he : starEach [a] X.env = (false, eval a X.env) :: starEach [] X.env := by rfl) : D X E (.Call (.Name "len" p) [a] [] pos) ρ (.ok (.int (g.length : Nat))) :=
  (d_lenT hm ha hg he).is (by rw [List.length_map])
theorem d_rank {a b : Expr} {g : Fm} {i : Nat} {l : List Nat} {pos : Pos} (h : g[i]? = some l) (ha : D X E a ρ (.ok (F_ g))) (hb : D X E b ρ (.ok (.int (i : Nat)))) (hs : PlainIx b := by exact fun _ _ => rfl) : D X E (.Subscript a b pos) ρ (.ok (.str l)) :=
  d_ixT (xs := g.map Dat.str) ha hb (atI_nat (j := i) (by rw [List.getElem?_map, h]; rfl)) hs
theorem d_files {a : Expr} {g : Fm} {j : Nat} {p p2 p3 pos : Pos} (hm : X.mg "len" = none) (hf : isFm g = true) (ha : D X E a ρ (.ok (F_ g))) (hg : Gl X "len" := by rfl) (he : starEach [.Subscript a (.Constant (.int 0) j p2) p3] X.env = (false, eval (.Subscript a (.Constant (.int 0) j p2) p3) X.env) :: starEach [] X.env := by rfl) : D X E (.Call (.Name "len" p) [.Subscript a (.Constant (.int 0) j p2) p3] [] pos) ρ (.ok (.int (wid g : Nat))) := by
  have h1 := (isFm_len hf).1
  have h2 := (isFm_wid hf)
  cases g with
  | nil => simp at h1
  | cons l r =>
    have e : wid (l :: r) = l.length := rfl
    have h3 := (isFm_len hf).2.2.2.2.1
    have h4 : l.length ≤ 6 := by
      have z := h3
      rw [List.flatten_cons, List.length_append] at z
      omega
    rw [e]
    exact d_lenS hm (d_rank (i := 0) rfl ha d_int) (by omega) hg he
/-- one of a written list, by the dice -/
theorem de_pick {a b : Expr} {xs : List Dat} {m : Int} {pos : Pos} (ha : DE X W a ρ (fun d => d = .lst xs)) (hb : DE X W b ρ (fun d => ∃ k : Nat, d = .int k ∧ (k : Int) < m)) (hm : m = xs.length) (hs : PlainIx b := by exact fun _ _ => rfl) : DE X W (.Subscript a b pos) ρ (fun d => d ∈ xs) :=
  de_ix ix_list (fun x y e1 ⟨k, e2, hk⟩ => by
    subst e1 e2
    have hl : k < xs.length := by omega
    exact ⟨xs[k], List.getElem_mem hl, o_ixL (atI_nat (List.getElem?_eq_getElem hl))⟩) ha hb hs
theorem de_pickS {a b : Expr} {l : List Nat} {m : Int} {pos : Pos} (ha : DE X W a ρ (fun d => d = .str l)) (hb : DE X W b ρ (fun d => ∃ k : Nat, d = .int k ∧ (k : Int) < m)) (hm : m = l.length) (hl : l.length ≤ 100000) (hs : PlainIx b := by exact fun _ _ => rfl) : DE X W (.Subscript a b pos) ρ (fun d => ∃ c ∈ l, d = .str [c]) :=
  de_ix ix_str (fun x y e1 ⟨k, e2, hk⟩ => by
    subst e1 e2
    have hk : k < l.length := by omega
    exact ⟨_, ⟨l[k], List.getElem_mem hk, rfl⟩, o_ixS hl (atI_nat (List.getElem?_eq_getElem hk))⟩) ha hb hs
theorem de_addS {a b : Expr} {S1 S2 : List Nat → Prop} {S : Dat → Prop} {pos : Pos} (ha : DE X W a ρ (fun d => ∃ l, d = .str l ∧ S1 l)) (hb : DE X W b ρ (fun d => ∃ l, d = .str l ∧ S2 l)) (h : ∀ l m, S1 l → S2 m → l.length + m.length ≤ 100000 ∧ S (.str (l ++ m))) : DE X W (.BinOp a .Add b pos) ρ S :=
  de_op op_add_str (fun x y ⟨l, e1, h1⟩ ⟨m, e2, h2⟩ => by
    subst e1 e2
    refine ⟨_, (h l m h1 h2).2, fun B H vx vy Q c rx ry q => ⟨_, _, rp_str rx, rp_str ry, ?_, ?_⟩⟩
    · rw [len_mk, len_mk]
      exact Nat.le_trans (h l m h1 h2).1 (by decide)
    · rw [mk_app]
      exact q _ H (Same.refl H) (.str _)) ha hb
end
theorem optF_eq (a b : Option Fm) : Dat.eq (optF a) (optF b) = decide (a = b) := by
  cases a with
  | none => cases b <;> rfl
  | some g =>
    cases b with
    | none => rfl
    | some g2 =>
      show Dat.eq (F_ g) (F_ g2) = _
      rw [F_eq]
      exact decide_eq_decide.mpr ⟨fun h => by rw [h], fun h => Option.some.inj h⟩
theorem de_mono {X : Cx} {W : Wl} {e : Expr} {ρ : List Sl} {S S' : Dat → Prop} (h : DE X W e ρ S') (k : ∀ d, S' d → S d) : DE X W e ρ S := pe_imp h fun σ H Q ⟨B, w, en, q⟩ => ⟨B, w, en, fun v H' B' d hd => q v H' B' d (k d hd)⟩
section
variable {X : Cx} {E : XK} {W : Wl} {ρ : List Sl} {P : Out → Prop}
theorem te_or {a b : Expr} {rest : List Expr} {x y : Bool} {pos : Pos} (h : TE1 X W a ρ x) (h2 : x = false → TEW X W (.BoolOp .Or (b :: rest) pos) ρ y) : TEW X W (.BoolOp .Or (a :: b :: rest) pos) ρ (x || y) := by
  cases x with
  | true =>
    refine pw_imp (pw_or h pw_no) fun σ H Q ⟨B, w, en, q⟩ => ⟨B, w, en, fun H1 B1 w1 en1 m1 => ?_⟩
    refine iteT ?_
    exact q H1 B1 w1 en1 m1
  | false =>
    refine pw_imp (pw_or h (h2 rfl)) fun σ H Q ⟨B, w, en, q⟩ => ⟨B, w, en, fun H1 B1 w1 en1 m1 => ?_⟩
    refine iteF ?_
    exact ⟨B1, w1, en1, fun H2 B2 w2 en2 m2 => q H2 B2 w2 en2 (m1.trans m2)⟩
end
/-! is True, is False -/
theorem op_isB2 {X : Cx} : OpR X (compareOp .Is) (fun x y H Q => ∃ b, y = .bl b ∧ ((∃ a, x = .bl a ∧ Q (.bl (decide (a = b))) H) ∨ ∃ r, x = .ref r ∧ Q (.bl false) H)) := by
  intro pins s σ H x y v u Q I rx ry h
  obtain ⟨b, rfl, h⟩ := h
  cases (show u = Value.bool b from ry)
  rcases h with ⟨a, rfl, q⟩ | ⟨r, rfl, q⟩
  · cases (show v = Value.bool a from rx)
    by_cases e : a = b
    · subst e
      exact wpAny_is_self rfl ⟨.bl true, H, I, rfl, by simpa using q⟩
    · exact wpAny_is_other rfl (fun z => e (Value.bool.inj z)) ⟨.bl false, H, I, rfl, by simpa [e] using q⟩
  · cases (show v = Value.ref r from rx)
    exact wpAny_is_other rfl (fun z => by cases z) ⟨.bl false, H, I, rfl, q⟩
theorem t_isB {X : Cx} {ρ : List Sl} {a : Expr} {x b : Bool} {j : Nat} {p pos : Pos} (ha : D X E0 a ρ (.ok (.bl x))) : T X (.Compare a [.Is] [.Constant (.bool b) j p] pos) ρ (decide (x = b)) :=
  t_cmp op_isB2 (fun B H vx vy Q c rx ry q => ⟨b, rp_bl ry, .inl ⟨x, rp_bl rx, q _ H (Same.refl H) (.bl _)⟩⟩) ha (d_bl (E := E0))
theorem t_isBT {X : Cx} {ρ : List Sl} {a : Expr} {xs : List Dat} {b : Bool} {j : Nat} {p pos : Pos} (ha : D X E0 a ρ (.ok (.tup xs))) : T X (.Compare a [.Is] [.Constant (.bool b) j p] pos) ρ false :=
  t_cmp op_isB2 (fun B H vx vy Q c rx ry q => by
    cases rx with
    | tup h r => exact ⟨b, rp_bl ry, .inr ⟨_, rfl, q _ H (Same.refl H) (.bl _)⟩⟩) ha (d_bl (E := E0))
end G

set_option Elab.async false
set_option linter.all false
set_option maxRecDepth 100000
set_option maxHeartbeats 4000000
namespace G
open PySem PySem.Spec PyProof.Rows L2 TL LamX
theorem sc_told : FnScope ["deed", "e"] ["deed"] (defScope s__law_told) := ⟨rfl, rfl, rfl, by decide +kernel, rfl, by decide +kernel, by decide +kernel⟩
theorem told_mk {K : PySem.W.Frag} {mg : Str → Option Value} {g CS ft : Addr} {oc : Value} {od an : Option Addr} {osl : Array (Option Value)} {kV doc pm cdv ct : Value} (l : K.lookup g = some ⟨oc, od, .func (PySem.W.fnOf "_law_told" "_law_told" (defArgs s__law_told) (defBody s__law_told) (defScope s__law_told) .none kV doc pm an cdv ct), osl⟩) (c : PySem.W.codeIn K cdv "_law_told" = true)
    (kT : PySem.W.keepIn K (.ref g) = true) (gT : mg "_law_told" = some (.ref g)) (gD : mg "DrillError" = some (.ref CS)) (gM : mg "_law_term" = some (.ref ft)) (kM : PySem.W.keepIn K (.ref ft) = true) : ToldF K mg g CS ft :=
  ⟨⟨_, _, _, _, _, _, _, _, _, _, _, _, _, _, _, _, _, _, _, _, _, _, _, l, c, (fun_mk (st := s__law_told) l c kT).binds (fun _ _ _ _ _ _ us hl => match us, hl with | [_], _ => rfl), sc_told, rfl, rfl, rfl, rfl, rfl⟩, gT, kT, gD, gM, kM⟩
/-- the start of a law with one table -/
theorem end_lawT {K : PySem.W.Frag} {H : Hp} {a Pt : Addr} {q : Str} {ns : List Int} (hl : ns.length ≤ 63) (hT : H Pt = some (.tbl #[])) (hS : SqL K H a (ns.map V.int)) : spL K [(Pt, q)] [.ref a] H (fun v _ => v = .bl true) fun _ _ _ => False := by
  have out : ∀ (o : HO), H a = some o → (∀ ps, o ≠ .tbl ps) → mask (fun b => decide (b = Pt)) H a = some o := fun o h n => by
    rw [mask_out]
    · exact h
    · refine decide_eq_false fun z => ?_
      rw [z, hT] at h
      exact n _ (Option.some.inj h).symm
  refine ⟨fun b => decide (b = Pt), ns, fun b hb n => ?_, .cons (.scr ?_) .nil, by omega, fun p hp => ?_, fun b hb => ?_, fun b ps hb _ => ?_, fun _ => rfl⟩
  · rw [of_decide_eq_true hb, hT] at n
    rcases n with n | ⟨_, n⟩ <;> cases n
  · rcases hS with (h | ⟨o, h⟩) | h
    · exact .inl (.inl (out _ h fun _ z => by cases z))
    · exact .inl (.inr ⟨o, out _ h fun _ z => by cases z⟩)
    · exact .inr h
  · rw [List.mem_singleton.mp hp]
    exact TabS.nil hT
  · exact decide_eq_true (List.mem_singleton.mp hb)
  · exact List.mem_singleton.mpr (of_decide_eq_true hb)
end G

set_option Elab.async false
set_option linter.all false
set_option maxRecDepth 100000
set_option maxHeartbeats 4000000
namespace G
open PySem PySem.Spec PyProof.Rows L2 TL
/-! ### dicts whose keys are formations -/
def kF (g : Fm) : List Key := g.map fun l => Sum.inr (mkS l)
theorem kF_map (g : Fm) : (kF g).map kV = (g.map fun l => (⟨l.toArray⟩ : Str)).map V.str := by
  unfold kF
  rw [List.map_map, List.map_map]
  rfl
theorem mkS_inj {l m : List Nat} (h : mkS l = mkS m) : l = m := by
  have e1 := congrArg (fun s : Str => s.cps.toList) h
  simpa using e1
theorem kF_inj : ∀ {f g : Fm}, kF f = kF g → f = g
  | [], [], _ => rfl
  | [], _ :: _, h => by cases h
  | _ :: _, [], h => by cases h
  | a :: f, b :: g, h => by
    have h : (Sum.inr (mkS a) : Key) :: kF f = Sum.inr (mkS b) :: kF g := h
    injection h with h1 h2
    rw [mkS_inj (Sum.inr.inj h1), kF_inj h2]
theorem rp_F {K : PySem.W.Frag} {H : Hp} {v : V} {g : Fm} (h : Rp K H v (F_ g)) : ∃ b, v = .ref b ∧ H b = some (.tup ((kF g).map kV)) := by
  cases h with
  | @tup a vs _ h r =>
    rw [rpA_strs r, ← kF_map] at h
    exact ⟨a, rfl, h⟩
theorem rp_ofF {K : PySem.W.Frag} {H : Hp} {b : Addr} {g : Fm} (h : H b = some (.tup ((kF g).map kV))) : Rp K H (.ref b) (F_ g) := by
  rw [kF_map] at h
  refine .tup h ?_
  induction g with
  | nil => exact .nil
  | cons l g ih =>
    have z : ∀ g : Fm, RpA K H ((g.map fun l => (⟨l.toArray⟩ : Str)).map V.str) (g.map Dat.str) := fun g => by
      induction g with
      | nil => exact .nil
      | cons a r ih => exact .cons (.str a) ih
    exact z _
section
variable {X : Cx} {E : XK} {W : Wl} {ρ : List Sl} {P : Out → Prop}
/-! {k: v} -/
def tDispT (tk tv : TE) : TE := fun σ H Q => ∀ p, H p = none → tk σ (upd H p (.dT [])) fun x H1 => tv σ H1 fun y H2 => H2 p = some (.dT []) ∧ ∃ (k : List Key) (b : Addr), x = .ref b ∧ H2 b = some (.tup (k.map kV)) ∧ Q (.ref p) (upd H2 p (.dT [(k, y)]))
def onePair (R : V → V → Hp → Prop) : List (V × V) → Hp → Prop
  | [(x, y)], H => R x y H
  | _, _ => False
theorem onePair_of {R : V → V → Hp → Prop} : ∀ {ps : List (V × V)} {H : Hp}, onePair R ps H → ∃ x y, ps = [(x, y)] ∧ R x y H
  | [], _, h => h.elim
  | [(x, y)], _, h => ⟨x, y, rfl, h⟩
  | _ :: _ :: _, _, h => h.elim
theorem pe_dispT {k v : Expr} {tk tv : TE} {pos : Pos} (hu : X.A.units + 1 < cLine) (hk : PE X k tk) (hv : PE X v tv) : PE X (.Dict [some k] [v] pos) (tDispT tk tv) := by
  refine ⟨fun pins s σ H Q I q => ?_⟩
  have hn := I.hok.fresh (Nat.le_refl s.heap.objs.size)
  have I1 := I.laid (a := s.heap.objs.size) (o := .dT []) (h' := s.heap.push { cls := .type "dict", data := .dict #[] }) (t' := s.toks) (fun _ _ q => Heap.get?_push_of_some _ q) (Nat.le_refl _) (dt_empty s.heap I.big)
  refine wpAny_Dict_any rfl rfl (by simp) (by simp) (thn ((pps_cons (pos := pos) hk hv pps_nil).run pins _ σ _ (onePair fun x y H2 => H2 s.heap.objs.size = some (.dT []) ∧ ∃ (k : List Key) (b : Addr), x = .ref b ∧ H2 b = some (.tup (k.map kV)) ∧ Q (.ref s.heap.objs.size) (upd H2 s.heap.objs.size (.dT [(k, y)]))) I1 (q _ hn)) fun ws s2 ⟨ps, H2, I2, rel, z⟩ => ?_)
  obtain ⟨x, y, ep, e, kk, b, ex, eb, q2⟩ := onePair_of z
  subst ep ex
  cases rel with
  | @cons p q' ps qs hr t =>
    cases t
    obtain ⟨u, r⟩ := q'
    obtain ⟨ru, rv⟩ := hr
    obtain rfl : u = Value.ref b := ru
    obtain ⟨z, hd, xs, rl, dd⟩ := dt_of I2.hok e
    cases rl
    unfold storeAll
    rw [List.forIn_cons]
    refine wpAny_bind (wpAny_bind (wpAny_dictSet_heap (hsz := by show (0 : Nat) ≤ _; omega) (knd := tupleKind (mixKind X.prog X.w)) (Nat.lt_of_succ_lt hu) (key_of I2.hok eb) dd fun h' dd' hs => wpAny_pure ?_))
    show wpAny _ _ (forIn [] _ _) _ _ _
    rw [List.forIn_nil]
    refine wpAny_pure ?_
    obtain ⟨q, es, ep, hq, h2, h3, h4, _, h5⟩ := dd'
    refine ⟨.ref s.heap.objs.size, _, ?_, rfl, q2⟩
    refine d_write I2 (by rw [e]; exact True.intro) hs ⟨q, hq⟩ ⟨by show (1 : Nat) ≤ sizeLine; decide, hd, _, (KT.put (H := H2) (kvs := []) (xs := []) .nil kk eb rv).keeps fun c ys ec => ?_, q, es, ep, hq, h2, h3, h4, h5⟩
    rw [upd_ne (ne_of ec e (fun z => nomatch z))]
    exact ec
/-! a thing is written no more -/
def tFrz (t : TE) : TE := fun σ H Q => t σ H fun v H1 => ∃ d u, v = .ref d ∧ H1 d = some u ∧ Mut (some u) ∧ ∀ od, Q v (upd H1 d (.frz od u))
theorem pe_frz {e : Expr} {t : TE} (h : PE X e t) : PE X e (tFrz t) := ⟨fun pins s σ H Q I q => thn (h.run pins s σ H _ I q) fun u s1 ⟨x, H1, I1, r, d, ho, ex, hd, mu, q2⟩ => let ⟨od, I2⟩ := I1.lock hd mu; ⟨x, _, I2, r, q2 od⟩⟩
theorem EnvR.md {K : PySem.W.Frag} {B : Addr → Bool} {H : Hp} {σ : L2.St} {ρ : List Sl} {i : Nat} {a : Addr} {kvs : List (List Key × V)} (e : EnvR K B H σ ρ) (h : ρ[i]? = some (.md a kvs)) : σ[i]? = some (some (.ref a)) ∧ B a = true ∧ H a = some (.dT kvs) := by
  obtain ⟨o, h1, h2⟩ := e.at_ i _ h
  cases o with
  | none => exact h2.elim
  | some v =>
    obtain ⟨e1, e2, e3⟩ := h2
    rw [e1] at h1
    exact ⟨h1, e2, e3⟩
/-- return d, d a dict of one's own -/
theorem s_retMd {i : Nat} {x : Str} {a : Addr} {kvs : List (List Key × V)} {px pos : Pos} (hi : ρ[i]? = some (.md a kvs)) (hx : PE X (.Name x px) (tVar i)) (hr : Wr W a) (hM : W.M a = false) (q : P (.rt (.dic kvs))) : S1 X E W (.Return (some (.Name x px)) pos) ρ P :=
  ps_imp (ps_ret (pe_frz hx)) fun D σ H ⟨B, w, en, p⟩ => by
    obtain ⟨h1, hb, h3⟩ := en.md hi
    refine ⟨_, h1, a, .dT kvs, rfl, h3, True.intro, fun od => ?_⟩
    refine p.rt (.dic kvs) _ _ (fun b => B b && !decide (b = a)) q ((w.write hr hb h3 rfl rfl).freeze (hr.b0 hM) hr.2) (.dic (od := od) ?_)
    rw [mask_out (by simp), upd_same]
/-- d[k] -/
theorem d_getMd {i : Nat} {x : Str} {e : Expr} {g : Fm} {a : Addr} {kvs : List (List Key × V)} {v : V} {d : Dat} {px pos : Pos} (hu : X.A.units + 64 < cLine) (hi : ρ[i]? = some (.md a kvs)) (hx : PE X (.Name x px) (tVar i)) (he : D X E e ρ (.ok (F_ g))) (hv : valV kvs (kF g) = some v) (hd : ∀ H, Rp X.K H v d)
    (hs : NoSl e := by exact fun _ _ => rfl) : D X E (.Subscript (.Name x px) e pos) ρ (.ok d) :=
  D.of (pe_dget (by omega) hx he hs) fun B σ H Q c en q => by
    obtain ⟨h1, hb, h3⟩ := en.md hi
    refine ⟨_, h1, B, c, en, fun vy H2 s2 ry => ?_⟩
    obtain ⟨b, rfl, hk⟩ := rp_F ry
    exact ⟨a, v, rfl, by rw [← hv]; exact DGet.t (s2 _ _ h3) (mask_sub B H2 _ _ hk), q v H2 s2 (hd _)⟩
/-- k not in d -/
theorem t_notinMd {i : Nat} {x : Str} {e : Expr} {g : Fm} {a : Addr} {kvs : List (List Key × V)} {px pos : Pos} (hu : X.A.units + 64 < cLine) (hi : ρ[i]? = some (.md a kvs)) (hx : PE X (.Name x px) (tVar i)) (he : D X E0 e ρ (.ok (F_ g))) : T X (.Compare e [.NotIn] [.Name x px] pos) ρ (!(valV kvs (kF g)).isSome) :=
  pt_imp (pt_cmp (pc_dnotin (by omega) he hx) rfl) fun σ H Q ⟨B, c, en, q⟩ => ⟨B, c, en, fun vy H1 s1 ry => by
    obtain ⟨h1, hb, h3⟩ := en.md hi
    obtain ⟨b, rfl, hk⟩ := rp_F ry
    exact ⟨_, h1, a, _, rfl, DGet.t (s1 _ _ h3) (mask_sub B H1 _ _ hk), _, rfl, q H1 s1⟩⟩
/-- d[k] = e -/
theorem s_putMd (i : Nat) {x : Str} {k e : Expr} {g : Fm} {a : Addr} {kvs : List (List Key × V)} {u : V} {d : Dat} {px p2 pos : Pos} (hu : X.A.units + 64 < cLine) (hi : ρ[i]? = some (.md a kvs)) (hr : Wr W a) (hx : PE X (.Name x px) (tVar i)) (hk : D X E k ρ (.ok (F_ g))) (he : D X E e ρ (.ok d)) (hval : ∀ H w, Rp X.K H w d → w = u) (hl : kvs.length < 100000)
    (q : P (.nx (ρ.set i (.md a (putK kvs (kF g) u))))) (hs : swapsWith e (some (.Subscript (.Name x px) k p2)) pos.line X.env = pure false := by rfl) : S1 X E W (.Assign [.Subscript (.Name x px) k p2] e pos) ρ P :=
  ps_imp (ps_dput (by omega) hx hk he hs) fun D σ H ⟨B, w, en, p⟩ => ⟨B, w.cov, en, fun v H1 s1 rv => by
    obtain ⟨h1, hb, h3⟩ := (en.same s1).md hi
    refine ⟨_, h1, B, (w.same s1).cov, en.same s1, fun vy H2 s2 ry => ?_⟩
    obtain ⟨b, rfl, hkk⟩ := rp_F ry
    have ev := hval _ _ rv
    subst ev
    refine ⟨a, _, rfl, DPut.t (s2 _ _ h3) (mask_sub B H2 _ _ hkk) (Nat.lt_trans hl (by decide)), ?_⟩
    exact p.nx _ σ _ B q (((w.same s1).same s2).write hr hb (s2 _ _ h3) rfl rfl) (((en.same s1).same s2).write hi rfl h1 hb ⟨rfl, hb, upd_same⟩ rfl)⟩
/-! the start: x, y = {k: v}, e -/
theorem same_two {H H2 : Hp} {p : Addr} {o o2 : HO} (s : Same (upd H p o2) H2) (np : H p = none) : Same (upd H p o) (upd H2 p o) := fun b x e => by
  by_cases h : b = p
  · rw [h, upd_same] at e ⊢
    exact e
  · rw [upd_ne h] at e ⊢
    exact s _ _ (by rw [upd_ne h]; exact e)
theorem EnvR.fresh {K : PySem.W.Frag} {B : Addr → Bool} {H : Hp} {σ : L2.St} {ρ : List Sl} {p : Addr} {o : HO} (e : EnvR K B H σ ρ) (np : H p = none) : EnvR K (fun a => B a || decide (a = p)) (upd H p o) σ ρ := by
  refine e.grow (fun a h => by rw [h]; rfl) (same_upd np) fun a x h => ?_
  obtain ⟨h1, h2⟩ := mask_some h
  have ne : a ≠ p := ne_of_none h2 np
  rw [mask_out (by rw [h1, decide_eq_false ne]; rfl), upd_ne ne]
  exact h2
/-- the reading of {k: v}, then of what stands behind it -/
theorem disp_run {k v : Expr} {g : Fm} {dv : Dat} {u : V} {B : Addr → Bool} {σ : L2.St} {H : Hp} {Q : VK} (w : Wd W B H) (en : EnvR X.K B H σ ρ) (hval : ∀ H w, Rp X.K H w dv → w = u)
    (q : ∀ p H', H p = none → Wd W (fun a => B a || decide (a = p)) H' → EnvR X.K (fun a => B a || decide (a = p)) H' σ ρ → Wr W p → Same (upd H p (.dT [(kF g, u)])) H' → Q (.ref p) H') : tDispT (tD X.K E ρ (.ok (F_ g))) (tD X.K E ρ (.ok dv)) σ H Q := fun p np => by
  have w1 : Wd W (fun a => B a || decide (a = p)) (upd H p (.dT [])) := w.own np rfl
  have hr := w.new np
  have hbp : (B p || decide (p = p)) = true := by simp
  refine ⟨_, w1.cov, en.fresh np, fun vx H1 s1 rx => ⟨_, w1.cov.same s1, (en.fresh np).same s1, fun vy H2 s2 ry => ?_⟩⟩
  have hp : H2 p = some (.dT []) := s2 _ _ (s1 _ _ upd_same)
  obtain ⟨b, rfl, hk⟩ := rp_F rx
  have ev := hval _ _ ry
  subst ev
  have w2 := ((w1.same s1).same s2).write (o := .dT [(kF g, vy)]) hr hbp hp rfl rfl
  refine ⟨hp, kF g, b, rfl, s2 _ _ (mask_sub _ H1 _ _ hk), q p _ np w2 ?_ hr (same_two (s1.trans s2) np)⟩
  exact (en.fresh (o := .dT [(kF g, vy)]) np).same (same_two (s1.trans s2) np)
theorem s_parMd {i j : Nat} {x y : Str} {k v b : Expr} {g : Fm} {dv db : Dat} {u : V} {px py pt pd : Pos} {kt k2 : Nat} {pt2 pos : Pos} (hu : X.A.units + 64 < cLine) (h2 : ∀ ta, PA X [.Dict [some k] [v] pd, b] ta → PS X (.Assign [.Tuple [.Name x px, .Name y py] kt pt] (.Tuple [.Dict [some k] [v] pd, b] k2 pt2) pos) (tPar i j ta))
    (hk : D X E k ρ (.ok (F_ g))) (hv : D X E v ρ (.ok dv)) (hval : ∀ H w, Rp X.K H w dv → w = u) (hb : D X E b ρ (.ok db)) (q : ∀ a, Wr W a → P (.nx ((ρ.set i (.md a [(kF g, u)])).set j (.dt db))))
    (hs1 : starEach [.Dict [some k] [v] pd, b] X.env = (false, eval (.Dict [some k] [v] pd) X.env) :: starEach [b] X.env := by rfl) (hs2 : starEach [b] X.env = (false, eval b X.env) :: starEach [] X.env := by rfl) : S1 X E W (.Assign [.Tuple [.Name x px, .Name y py] kt pt] (.Tuple [.Dict [some k] [v] pd, b] k2 pt2) pos) ρ P :=
  ps_imp (h2 _ (pa_cons (pe_dispT (by omega) hk hv) (pa_cons hb pa_nil hs2) hs1)) fun D σ H ⟨B, w, en, p⟩ => by
  unfold tPar tCons
  show tDispT (tD X.K E ρ (.ok (F_ g))) (tD X.K E ρ (.ok dv)) σ H _
  refine disp_run (u := u) (k := k) (v := v) w en hval fun a H' na w' en' hr s' => ?_
  exact ⟨_, w'.cov, en', fun vb H4 s4 rb => ⟨_, _, rfl, p.nx _ _ H4 _ (q a hr) (w'.same s4) (EnvR.setD (EnvR.same (en.own w.cov na i (s := .md a [(kF g, u)]) (o := .dT [(kF g, u)]) ⟨rfl, by simp, upd_same⟩) (s'.trans s4)) j rb)⟩⟩
theorem s_par3Md {i j l : Nat} {x y z : Str} {k v b c : Expr} {g : Fm} {dv db dc : Dat} {u : V} {px py pz pt pd : Pos} {kt k2 : Nat} {pt2 pos : Pos} (hu : X.A.units + 64 < cLine) (h2 : ∀ ta, PA X [.Dict [some k] [v] pd, b, c] ta → PS X (.Assign [.Tuple [.Name x px, .Name y py, .Name z pz] kt pt] (.Tuple [.Dict [some k] [v] pd, b, c] k2 pt2) pos) (tPar3 i j l ta))
    (hk : D X E k ρ (.ok (F_ g))) (hv : D X E v ρ (.ok dv)) (hval : ∀ H w, Rp X.K H w dv → w = u) (hb : D X E b ρ (.ok db)) (hc : D X E c ρ (.ok dc)) (q : ∀ a, Wr W a → P (.nx (((ρ.set i (.md a [(kF g, u)])).set j (.dt db)).set l (.dt dc))))
    (hs1 : starEach [.Dict [some k] [v] pd, b, c] X.env = (false, eval (.Dict [some k] [v] pd) X.env) :: starEach [b, c] X.env := by rfl) (hs2 : starEach [b, c] X.env = (false, eval b X.env) :: starEach [c] X.env := by rfl) (hs3 : starEach [c] X.env = (false, eval c X.env) :: starEach [] X.env := by rfl) : S1 X E W (.Assign [.Tuple [.Name x px, .Name y py, .Name z pz] kt pt] (.Tuple [.Dict [some k] [v] pd, b, c] k2 pt2) pos) ρ P :=
  ps_imp (h2 _ (pa_cons (pe_dispT (by omega) hk hv) (pa_cons hb (pa_cons hc pa_nil hs3) hs2) hs1)) fun D σ H ⟨B, w, en, p⟩ => by
  unfold tPar3 tCons
  show tDispT (tD X.K E ρ (.ok (F_ g))) (tD X.K E ρ (.ok dv)) σ H _
  refine disp_run (u := u) (k := k) (v := v) w en hval fun a H' na w' en' hr s' => ?_
  exact ⟨_, w'.cov, en', fun vb H4 s4 rb => ⟨_, w'.cov.same s4, en'.same s4, fun vc H5 s5 rc => ⟨_, _, _, rfl, p.nx _ _ H5 _ (q a hr) ((w'.same s4).same s5) (EnvR.setD (EnvR.setD (EnvR.same (en.own w.cov na i (s := .md a [(kF g, u)]) (o := .dT [(kF g, u)]) ⟨rfl, by simp, upd_same⟩) ((s'.trans s4).trans s5)) j (rb.mono (mask_same s5))) l rc)⟩⟩⟩
/-- x, y = e, []: the list to grow -/
theorem s_parMl {i j : Nat} {x y : Str} {a : Expr} {da : Dat} {px py pt pl : Pos} {kt k2 : Nat} {pt2 pos : Pos} (h2 : ∀ ta, PA X [a, .List [] pl] ta → PS X (.Assign [.Tuple [.Name x px, .Name y py] kt pt] (.Tuple [a, .List [] pl] k2 pt2) pos) (tPar i j ta))
    (ha : D X E a ρ (.ok da)) (q : ∀ p, Wr W p → P (.nx ((ρ.set i (.dt da)).set j (.ml p []))))
    (hs1 : starEach [a, .List [] pl] X.env = (false, eval a X.env) :: starEach [.List [] pl] X.env := by rfl) (hs2 : starEach [.List [] pl] X.env = (false, eval (.List [] pl) X.env) :: starEach [] X.env := by rfl) : S1 X E W (.Assign [.Tuple [.Name x px, .Name y py] kt pt] (.Tuple [a, .List [] pl] k2 pt2) pos) ρ P :=
  ps_imp (h2 _ (pa_cons ha (pa_cons (pe_lst pa_nil) pa_nil hs2) hs1)) fun D σ H ⟨B, w, en, p⟩ => ⟨B, w.cov, en, fun va H1 s1 ra => ⟨Nat.zero_le _, fun d nd => ⟨_, _, rfl, p.nx _ _ _ _ (q d ((w.same s1).new nd)) ((w.same s1).own nd rfl) (((en.same s1).setD i ra).own (w.same s1).cov nd j ⟨rfl, by simp, [], upd_same, .nil⟩)⟩⟩⟩
/-! ### a dict that is read -/
theorem rp_dic {K : PySem.W.Frag} {H : Hp} {v : V} {kvs : List (List Key × V)} (h : Rp K H v (.dic kvs)) : ∃ a od, v = .ref a ∧ H a = some (.frz od (.dT kvs)) := by
  cases h with
  | dic h => exact ⟨_, _, rfl, h⟩
theorem dg_dic {H : Hp} {a b : Addr} {od : Obj} {kvs : List (List Key × V)} {g : Fm} (h : H a = some (.frz od (.dT kvs))) (hb : H b = some (.tup ((kF g).map kV))) : DGet H a (.ref b) (valV kvs (kF g)) := .inr ⟨kvs, kF g, b, .inr ⟨od, h⟩, rfl, hb, rfl⟩
theorem d_getDic {o e : Expr} {g : Fm} {kvs : List (List Key × V)} {v : V} {d : Dat} {pos : Pos} (hu : X.A.units + 64 < cLine) (ho : D X E o ρ (.ok (.dic kvs))) (he : D X E e ρ (.ok (F_ g))) (hv : valV kvs (kF g) = some v) (hd : ∀ H, Rp X.K H v d) (hs : NoSl e := by exact fun _ _ => rfl) : D X E (.Subscript o e pos) ρ (.ok d) :=
  D.of (pe_dget (by omega) ho he hs) fun B σ H Q c en q => ⟨B, c, en, fun vx H1 s1 rx => ⟨B, c.same s1, en.same s1, fun vy H2 s2 ry => by
    obtain ⟨a, od, rfl, ha⟩ := rp_dic rx
    obtain ⟨b, rfl, hk⟩ := rp_F ry
    exact ⟨a, v, rfl, by rw [← hv]; exact dg_dic (s2 _ _ (mask_sub B H1 _ _ ha)) (mask_sub B H2 _ _ hk), q v H2 (s1.trans s2) (hd _)⟩⟩⟩
theorem d_notinDic {o e : Expr} {g : Fm} {kvs : List (List Key × V)} {pos : Pos} (hu : X.A.units + 64 < cLine) (ho : D X E o ρ (.ok (.dic kvs))) (he : D X E e ρ (.ok (F_ g))) (hm : behindInMarks .NotIn o = false := by rfl) : D X E (.Compare e [.NotIn] [o] pos) ρ (.ok (.bl (!(valV kvs (kF g)).isSome))) :=
  D.of (pe_cmp (pc_dnotin (by omega) he ho) hm) fun B σ H Q c en q => ⟨B, c, en, fun vy H1 s1 ry => ⟨B, c.same s1, en.same s1, fun vx H2 s2 rx => by
    obtain ⟨a, od, rfl, ha⟩ := rp_dic rx
    obtain ⟨b, rfl, hk⟩ := rp_F ry
    exact ⟨a, _, rfl, dg_dic (mask_sub B H2 _ _ ha) (s2 _ _ (mask_sub B H1 _ _ hk)), q _ H2 (s1.trans s2) (.bl _)⟩⟩⟩
theorem t_notinDic {o e : Expr} {g : Fm} {kvs : List (List Key × V)} {pos : Pos} (hu : X.A.units + 64 < cLine) (ho : D X E0 o ρ (.ok (.dic kvs))) (he : D X E0 e ρ (.ok (F_ g))) (hm : behindInMarks .NotIn o = false := by rfl) : T X (.Compare e [.NotIn] [o] pos) ρ (!(valV kvs (kF g)).isSome) :=
  pt_imp (pt_cmp (pc_dnotin (by omega) he ho) hm) fun σ H Q ⟨B, c, en, q⟩ => ⟨B, c, en, fun vy H1 s1 ry => ⟨B, c.same s1, en.same s1, fun vx H2 s2 rx => by
    obtain ⟨a, od, rfl, ha⟩ := rp_dic rx
    obtain ⟨b, rfl, hk⟩ := rp_F ry
    exact ⟨a, _, rfl, dg_dic (mask_sub B H2 _ _ ha) (s2 _ _ (mask_sub B H1 _ _ hk)), _, rfl, q H2 (s1.trans s2)⟩⟩⟩
/-- d.get(k, x) -/
theorem d_getM {o e f : Expr} {g : Fm} {kvs : List (List Key × V)} {df d : Dat} {apos cpos : Pos} (hu : X.A.units + 64 < cLine) (ho : D X E o ρ (.ok (.dic kvs))) (he : D X E e ρ (.ok (F_ g))) (hf : D X E f ρ (.ok df)) (hd : ∀ H w, Rp X.K H w df → Rp X.K H ((valV kvs (kF g)).getD w) d) (m : M2 X o "get" apos e f cpos := by exact ⟨rfl, rfl, rfl, rfl⟩) : D X E (.Call (.Attribute o "get" apos) [e, f] [] cpos) ρ (.ok d) :=
  D.of (pe_dget2 (by omega) ho he hf m) fun B σ H Q c en q => ⟨B, c, en, fun vx H1 s1 rx => by
    obtain ⟨a, od, rfl, ha⟩ := rp_dic rx
    refine ⟨a, rfl, .inr ⟨kvs, .inr ⟨od, mask_sub B H1 _ _ ha⟩⟩, B, c.same s1, en.same s1, fun vy H2 s2 ry => ⟨B, (c.same s1).same s2, (en.same s1).same s2, fun vz H3 s3 rz => ?_⟩⟩
    obtain ⟨b, rfl, hk⟩ := rp_F ry
    exact ⟨_, dg_dic (s3 _ _ (s2 _ _ (mask_sub B H1 _ _ ha))) (s3 _ _ (mask_sub B H2 _ _ hk)), q _ H3 ((s1.trans s2).trans s3) (hd _ _ rz)⟩⟩
/-- len(d) -/
def rLenF : List V → Hp → VK → Prop := fun xs H Q => ∃ (p : Addr) (kvs : List (List Key × V)), xs = [.ref p] ∧ Rd H p (.dT kvs) ∧ Q (.int ((kvs.length : Nat) : Int)) H
theorem call_len_dF : CallR X (.builtin "len") rLenF := by
  intro pins s σ H xs us Q I r h
  obtain ⟨p, kvs, rfl, hp, q⟩ := h
  obtain ⟨u, rfl, rx⟩ := vals1 r
  obtain rfl : u = .ref p := rx
  obtain ⟨z, hd, ys, rel, dd⟩ := dt_rd I.hok hp
  have hl : kvs.length = ys.length := Paired.length rel
  refine call_len_dictH hd dd (by rw [← hl]; have := z; rw [sizeLine_eq] at this; omega) ⟨.int ((ys.length : Nat) : Int), H, I.kept (t' := _) fun b o q => q, ⟨_, rfl⟩, ?_⟩
  rw [← hl]
  exact q
theorem d_lenDic {a : Expr} {kvs : List (List Key × V)} {p pos : Pos} (hm : X.mg "len" = none) (ha : D X E a ρ (.ok (.dic kvs))) (hg : Gl X "len" := by rfl) (he : starEach [a] X.env = (false, eval a X.env) :: starEach [] X.env := by rfl) : D X E (.Call (.Name "len" p) [a] [] pos) ρ (.ok (.int kvs.length)) :=
  d_callB call_len_dF (fun B H vs Q c r q => by
    obtain ⟨v, rfl, rv⟩ := rpA_one r
    obtain ⟨a, od, rfl, h⟩ := rp_dic rv
    exact ⟨a, kvs, rfl, .inr ⟨od, mask_sub B H _ _ h⟩, q _ H (Same.refl H) (.int _)⟩) hm (da_one ha he) PySem.boot_len hg (he := he)
end
end G

set_option Elab.async false
set_option linter.all false
set_option maxRecDepth 100000
set_option maxHeartbeats 4000000
namespace G
open PySem PySem.Spec PyProof.Rows L2 TL LamX
/-! ### objects of one's own: the attributes ns at a -/
def oN (C dx : Addr) (ns : List Str) : List V → HO := fun vs => .ins C dx (ns.zip vs)
theorem oN_tbl {C dx : Addr} {ns : List Str} {vs : List V} : ∀ ps, oN C dx ns vs ≠ .tbl ps := fun ps z => by
  unfold oN at z
  cases z
theorem oN_te {C dx : Addr} {ns : List Str} {vs : List V} : teO (oN C dx ns vs) = false := rfl
theorem look_zip : ∀ {ns : List Str} {vs : List V} {j : Nat} {f : Str} {v : V}, ns.Nodup → ns[j]? = some f → vs[j]? = some v → (ns.zip vs).lookup f = some v
  | [], _, _, _, _, _, h, _ => by simp at h
  | _ :: _, [], _, _, _, _, _, h => by simp at h
  | a :: ns, u :: vs, 0, f, v, _, h1, h2 => by
    have h1 : a = f := Option.some.inj h1
    have h2 : u = v := Option.some.inj h2
    subst h1 h2
    rw [List.zip_cons_cons, List.lookup_cons_self]
  | a :: ns, u :: vs, j + 1, f, v, nd, h1, h2 => by
    rw [List.nodup_cons] at nd
    have h1 : ns[j]? = some f := h1
    have h2 : vs[j]? = some v := h2
    have ne : (f == a) = false := by
      rw [Bool.eq_false_iff]
      intro z
      rw [beq_iff_eq] at z
      exact nd.1 (z ▸ List.mem_of_getElem? h1)
    rw [List.zip_cons_cons, List.lookup_cons, ne]
    exact look_zip nd.2 h1 h2
theorem look_none : ∀ {ns : List Str} {vs : List V} {f : Str}, f ∉ ns → (ns.zip vs).lookup f = none
  | [], _, _, _ => rfl
  | _ :: _, [], _, _ => rfl
  | a :: ns, u :: vs, f, h => by
    have ne : (f == a) = false := by
      rw [Bool.eq_false_iff]
      intro z
      rw [beq_iff_eq] at z
      exact h (z ▸ List.mem_cons_self)
    rw [List.zip_cons_cons, List.lookup_cons, ne]
    exact look_none fun z => h (List.mem_cons_of_mem _ z)
theorem putF_new : ∀ {ns : List Str} {vs : List V} {f : Str} {v : V}, ns.length = vs.length → f ∉ ns → putF f v (ns.zip vs) = (ns ++ [f]).zip (vs ++ [v])
  | [], [], f, v, _, _ => rfl
  | [], _ :: _, _, _, h, _ => by simp at h
  | _ :: _, [], _, _, h, _ => by simp at h
  | a :: ns, u :: vs, f, v, h, hf => by
    have ne : ¬ a = f := fun z => hf (z ▸ List.mem_cons_self)
    show (if a = f then _ else (a, u) :: putF f v (ns.zip vs)) = _
    rw [if_neg ne, putF_new (by simpa using h) fun z => hf (List.mem_cons_of_mem _ z)]
    rfl
theorem putF_old : ∀ {ns : List Str} {vs : List V} {j : Nat} {f : Str} {v : V}, ns.Nodup → ns.length = vs.length → ns[j]? = some f → putF f v (ns.zip vs) = ns.zip (vs.set j v)
  | [], _, _, _, _, _, _, h => by simp at h
  | _ :: _, [], _, _, _, _, h, _ => by simp at h
  | a :: ns, u :: vs, 0, f, v, _, _, h1 => by
    have h1 : a = f := Option.some.inj h1
    show (if a = f then (a, v) :: ns.zip vs else _) = _
    rw [if_pos h1]
    rfl
  | a :: ns, u :: vs, j + 1, f, v, nd, hl, h1 => by
    rw [List.nodup_cons] at nd
    have h1 : ns[j]? = some f := h1
    have ne : ¬ a = f := fun z => nd.1 (z ▸ List.mem_of_getElem? h1)
    show (if a = f then _ else (a, u) :: putF f v (ns.zip vs)) = _
    rw [if_neg ne, putF_old nd.2 (by simpa using hl) h1]
    rfl
theorem RpA.set {K : PySem.W.Frag} {H : Hp} : ∀ {vs : List V} {ds : List Dat} {v : V} {d : Dat} (j : Nat), RpA K H vs ds → Rp K H v d → RpA K H (vs.set j v) (ds.set j d)
  | _, _, _, _, _, .nil, _ => .nil
  | _, _, _, _, 0, .cons _ a, h => .cons h a
  | _, _, _, _, j + 1, .cons x a, h => .cons x (RpA.set j a h)
theorem EnvR.mg {K : PySem.W.Frag} {B : Addr → Bool} {H : Hp} {σ : L2.St} {ρ : List Sl} {i : Nat} {a : Addr} {o : List V → HO} {ds : List Dat} (e : EnvR K B H σ ρ) (h : ρ[i]? = some (.mg a o ds)) : σ[i]? = some (some (.ref a)) ∧ B a = true ∧ ∃ vs, H a = some (o vs) ∧ RpA K (mask B H) vs ds := by
  obtain ⟨oo, h1, h2⟩ := e.at_ i _ h
  cases oo with
  | none => exact h2.elim
  | some v =>
    obtain ⟨e1, e2, vs, e3, _, e4⟩ := h2
    rw [e1] at h1
    exact ⟨h1, e2, vs, e3, e4⟩
section
variable {X : Cx} {E : XK} {W : Wl} {ρ : List Sl} {P : Out → Prop}
/-- x.f -/
theorem d_fld (i j : Nat) {x f : Str} {a C dx : Addr} {ns : List Str} {ds : List Dat} {d : Dat} {px pos : Pos} (hi : ρ[i]? = some (.mg a (oN C dx ns) ds)) (hx : PE X (.Name x px) (tVar i)) (hC : Cls X.K C) (hn : NoAttr X.K C f) (nd : ns.Nodup) (h1 : ns[j]? = some f) (h2 : ds[j]? = some d)
    (hb : attributeBase (.Name x px) f X.env (eval (.Name x px) X.env) = eval (.Name x px) X.env := by rfl) : D X E (.Attribute (.Name x px) f pos) ρ (.ok d) :=
  D.of (pe_fld hx hb) fun B σ H Q c en q => by
    obtain ⟨e1, hb, vs, h3, h4⟩ := en.mg hi
    obtain ⟨v, hv, rv⟩ := h4.get h2
    exact ⟨_, e1, a, C, dx, _, v, rfl, h3, hC, hn, look_zip nd h1 hv, q v H (Same.refl H) rv⟩
/-- x.f = e, an attribute that is there -/
theorem s_fld (i j : Nat) {x f : Str} {e : Expr} {a C dx : Addr} {ns : List Str} {ds : List Dat} {d : Dat} {px pf pos : Pos} (hi : ρ[i]? = some (.mg a (oN C dx ns) ds)) (hr : Wr W a) (hx : PE X (.Name x px) (tVar i)) (he : D X E e ρ (.ok d)) (hC : Cls X.K C) (hn : NoAttr X.K C f) (nd : ns.Nodup) (hl : ns.length = ds.length) (hl2 : ns.length < 1000) (h1 : ns[j]? = some f)
    (q : P (.nx (ρ.set i (.mg a (oN C dx ns) (ds.set j d))))) (hs : swapsWith e (some (.Attribute (.Name x px) f pf)) pos.line X.env = pure false := by rfl) : S1 X E W (.Assign [.Attribute (.Name x px) f pf] e pos) ρ P :=
  ps_imp (ps_fld hx he hs) fun D σ H ⟨B, w, en, p⟩ => ⟨B, w.cov, en, fun v H1 s1 rv => by
    obtain ⟨e1, hb, vs, h3, h4⟩ := (en.same s1).mg hi
    have lv : ns.length = vs.length := by rw [hl, h4.length]
    refine ⟨_, e1, a, C, dx, _, rfl, h3, hC, hn, ?_, ?_⟩
    · rw [List.length_zip]
      omega
    · rw [putF_old nd lv h1]
      refine p.nx _ σ _ B q ((w.same s1).write hr hb h3 rfl rfl) ((en.same s1).write hi rfl e1 hb ⟨rfl, hb, vs.set j v, upd_same, oN_tbl, ?_⟩ rfl)
      rw [mask_upd hb]
      exact h4.set j rv⟩
/-- x.f = e, a new attribute -/
theorem s_fldN (i : Nat) {x f : Str} {e : Expr} {a C dx : Addr} {ns : List Str} {ds : List Dat} {d : Dat} {px pf pos : Pos} (hi : ρ[i]? = some (.mg a (oN C dx ns) ds)) (hr : Wr W a) (hx : PE X (.Name x px) (tVar i)) (he : D X E e ρ (.ok d)) (hC : Cls X.K C) (hn : NoAttr X.K C f) (hf : f ∉ ns) (hl : ns.length = ds.length) (hl2 : ns.length < 1000)
    (q : P (.nx (ρ.set i (.mg a (oN C dx (ns ++ [f])) (ds ++ [d]))))) (hs : swapsWith e (some (.Attribute (.Name x px) f pf)) pos.line X.env = pure false := by rfl) : S1 X E W (.Assign [.Attribute (.Name x px) f pf] e pos) ρ P :=
  ps_imp (ps_fld hx he hs) fun D σ H ⟨B, w, en, p⟩ => ⟨B, w.cov, en, fun v H1 s1 rv => by
    obtain ⟨e1, hb, vs, h3, h4⟩ := (en.same s1).mg hi
    have lv : ns.length = vs.length := by rw [hl, h4.length]
    refine ⟨_, e1, a, C, dx, _, rfl, h3, hC, hn, ?_, ?_⟩
    · rw [List.length_zip]
      omega
    · rw [putF_new lv hf]
      refine p.nx _ σ _ B q ((w.same s1).write hr hb h3 rfl rfl) ((en.same s1).write hi rfl e1 hb ⟨rfl, hb, vs ++ [v], upd_same, oN_tbl, ?_⟩ rfl)
      rw [mask_upd hb]
      exact h4.append (.cons rv .nil)⟩
/-! ### endings that tell the slots -/
theorem s_retE2 {e : Expr} {d : Dat} {pos : Pos} (h : D X E e ρ (.ok d)) (q : P (.re ρ d)) : S1 X E W (.Return (some e) pos) ρ P :=
  ps_imp (ps_ret h) fun D σ H ⟨B, w, en, p⟩ => ⟨B, w.cov, en, fun v H' s r => p.re ρ σ d v H' B q (w.same s) (en.same s) r⟩
theorem s_exprEE {e : Expr} {c : Value} {pos : Pos} (h : D X E e ρ (.err c)) (q : P (.ee ρ c)) (hs : swapsWith e none pos.line X.env = pure false := by rfl) : S1 X E W (.Expr e pos) ρ P :=
  ps_imp (ps_expr h hs) fun D σ H ⟨B, w, en, p⟩ => ⟨B, w.cov, en, fun H' s => p.ee ρ σ c H' B q (w.same s) (en.same s)⟩
theorem s_setEE {x : Str} {i : Nat} {e : Expr} {c : Value} {pos pos' : Pos} (hN : X.N.Nodup) (h : D X E e ρ (.err c)) (q : P (.ee ρ c)) (hi : X.N[i]? = some x := by rfl) (hx : Loc X.env.scope x := by first | exact Or.inl rfl | exact Or.inr rfl)
    (hs : swapsWith e (some (.Name x pos')) pos.line X.env = pure false := by rfl) (hf : X.fn x = true ∨ X.env.scope.names.lookup x = some .local := by first | exact .inl rfl | exact .inr rfl | assumption) : S1 X E W (.Assign [.Name x pos'] e pos) ρ P :=
  ps_imp (ps_set hN hi hx h hs hf) fun D σ H ⟨B, w, en, p⟩ => ⟨B, w.cov, en, fun H' s => p.ee ρ σ c H' B q (w.same s) (en.same s)⟩
theorem s_raiseE {x m : Str} {j : Nat} {C : Addr} {p p2 pos pos2 : Pos} (F : ExcF X.K X.mg x C) (tk : L2N.Takes X (fun cls d _ H => E cls d H)) (q : P (.ee ρ (.ref C))) (hc : X.calm = true := by rfl) (hg : Gl X x := by rfl) (hdb : (x == ("__debug__" : Str)) = false := by decide) :
    S1 X E W (.Raise (some (.Call (.Name x p) [.Constant (.str m) j p2] [] pos)) none pos2) ρ P :=
  ps_imp (L2N.ps_raise hc tk (L2N.pmk_own PySem.F.excBase_ValueError F.x F.g F.k (raises_own F.b F.t) hg hdb)) fun D σ H ⟨B, w, en, pp⟩ => pp.ee ρ σ _ H B q w en
end
/-! ### defs of an object: the first argument is the object itself -/
def Ok1 (K : PySem.W.Frag) (B : Addr → Bool) (H : Hp) (a C dx : Addr) (ns : List Str) (ds : List Dat) : Prop := ∃ us, H a = some (oN C dx ns us) ∧ RpA K (mask B H) us ds
def spM (K : PySem.W.Frag) (C : Addr) (ns : List Str) (Cm : List Dat → List Dat → Res → List Dat → Prop) : Sp := fun vs H Q E => ∃ B a dx ds vs' as r ds', vs = V.ref a :: vs' ∧ Cov B H ∧ B a = true ∧ Ok1 K B H a C dx ns ds ∧ RpA K (mask B H) vs' as ∧ Cm ds as r ds' ∧
  match r with
  | .ok d => ∀ v H', (∀ b o, b ≠ a → H b = some o → H' b = some o) → Ok1 K B H' a C dx ns ds' → Rp K (mask B H') v d → Q v H'
  | .err c => ∀ H', (∀ b o, b ≠ a → H b = some o → H' b = some o) → Ok1 K B H' a C dx ns ds' → E c none H'
structure FnM (P : Program) (w : World) (K : PySem.W.Frag) (mg : Str → Option Value) (base : Heap) (C : Addr) (ns : List Str) (m : Str) (ps : List Str) (Cm : List Dat → List Dat → Res → List Dat → Prop) (k : Nat) : Prop where
  ex : ∃ f fd, FnOk P w K mg base (L2N.CX P w) k f fd ps (spM K C ns Cm) ∧ Meth K C m f ∧ Binds K fd ps []
def startM (N : List Str) (s : Sl) (as : List Dat) : List Sl := s :: (as.map Sl.dt ++ List.replicate (N.length - 1 - as.length) Sl.un)
def outM (a : Addr) (o : List V → HO) (r : Res) (ds' : List Dat) : Out → Prop
  | .re ρ d => r = .ok d ∧ ρ[0]? = some (.mg a o ds')
  | .ee ρ c => r = .err c ∧ ρ[0]? = some (.mg a o ds')
  | .nx ρ => r = .ok .non ∧ ρ[0]? = some (.mg a o ds')
  | _ => False
section
variable {P : Program} {w : World} {K : PySem.W.Frag} {mg : Str → Option Value} {base : Heap}
theorem fnM_ok {x qual : Str} {st : Stmt} {f : Addr} {fd : FuncData} {N ps ns : List Str} {k : Nat} {C : Addr} {Cm : List Dat → List Dat → Res → List Dat → Prop} (F : Fun K x qual st f fd) (Sc : FnScope N ps (defScope st)) (len : ∀ ds as r ds', Cm ds as r ds' → as.length + 1 = ps.length) (hN : 1 ≤ N.length)
    (hbody : ∀ (cdv : Value) (A : Around) (outer : List Env) (s : Shared) (H : Hp) (E : XK) (W : Wl) (a dx : Addr) (ds as : List Dat) (r : Res) (ds' : List Dat), Wr W a → Room k (A.deeper (envOfC qual (defScope st) s.heap.objs.size f cdv)) → Cm ds as r ds' →
      SS (cxOf (L2N.CX P w) P w K mg base N qual (defScope st) f cdv A outer s H E) E W (defBody st) (startM N (.mg a (oN C dx ns) ds) as) (outM a (oN C dx ns) r ds')) : FnOk P w K mg base (L2N.CX P w) (k + 1) f fd ps (spM K C ns Cm) := by
  refine okN F Sc (fun vs H Q E h => ?_) (fun cdv A outer s H vs Q E hr h => ?_)
  · obtain ⟨B, a, dx, ds, vs', as, r, ds', rfl, _, _, _, ra, hc, _⟩ := h
    rw [List.length_cons, ra.length]
    exact len _ _ _ _ hc
  · obtain ⟨B, a, dx, ds, vs', as, r, ds', rfl, cv, hb, ⟨us, hu, hru⟩, ra, hc, q⟩ := h
    have hb' := hbody cdv A outer s H E ⟨H, B, fun b => decide (b = a), fun _ => none, fun _ => True, fun _ _ _ _ => True.intro, cv, fun _ => false, fun _ => true⟩ a dx ds as r ds' ⟨fun m => by simp at m, rfl⟩ hr hc
    refine ⟨_, hb', B, ⟨fun a o _ h => h, fun _ h => h, cv, fun a o h => (by cases h), True.intro, fun b hbd => (by cases hbd), fun _ _ _ _ => rfl⟩, ?_, ?_⟩
    · have e := envR_start (N := N.drop 1) ra
      have e2 := e.cons (s := .mg a (oN C dx ns) ds) (o := some (.ref a)) ⟨rfl, hb, us, hu, oN_tbl, hru⟩ startρ_own
      have z : L2.start N (.ref a :: vs') = some (V.ref a) :: L2.start (N.drop 1) vs' := by
        unfold L2.start
        rw [List.map_cons, List.cons_append, List.length_cons, List.length_drop, Nat.sub_sub, Nat.add_comm 1]
      have z2 : startM N (.mg a (oN C dx ns) ds) as = .mg a (oN C dx ns) ds :: startρ (N.drop 1) as := by
        unfold startM startρ
        rw [List.length_drop]
      rw [z, z2]
      exact e2
    · have fin : ∀ {ρ : List Sl} {σ : L2.St} {H' : Hp} {B' : Addr → Bool}, Wd ⟨H, B, fun b => decide (b = a), fun _ => none, fun _ => True, fun _ _ _ _ => True.intro, cv, fun _ => false, fun _ => true⟩ B' H' → EnvR K B' H' σ ρ → ρ[0]? = some (.mg a (oN C dx ns) ds') → (∀ b o, b ≠ a → H b = some o → H' b = some o) ∧ Ok1 K B H' a C dx ns ds' := fun {ρ σ H' B'} w en hρ => by
        obtain ⟨_, _, us', h3, h4⟩ := en.mg hρ
        exact ⟨fun b o ne h => w.old b o (decide_eq_false ne) h, us', h3, h4.mono (mask_le w.b0)⟩
      refine ⟨fun ρ σ H' B' e w en => ?_, fun d v H' B' e w r' => e.elim, fun c H' B' e w => e.elim, fun ρ σ H' B' e w en => e.elim, fun ρ σ H' B' e w en => e.elim, fun ρ σ d v H' B' e w en r' => ?_, fun ρ σ c H' B' e w en => ?_⟩
      · obtain ⟨e1, e2⟩ := e
        subst e1
        obtain ⟨f1, f2⟩ := fin w en e2
        exact q .non H' f1 f2 .non
      · obtain ⟨e1, e2⟩ := e
        subst e1
        obtain ⟨f1, f2⟩ := fin w en e2
        exact q v H' f1 f2 (r'.mono (mask_le w.b0))
      · obtain ⟨e1, e2⟩ := e
        subst e1
        obtain ⟨f1, f2⟩ := fin w en e2
        exact q H' f1 f2
/-! methods that change nothing -/
def spP (K : PySem.W.Frag) (C : Addr) (ns : List Str) (Cp : List Dat → Dat → Prop) : Sp := fun vs H Q _ => ∃ B a dx ds d, vs = [V.ref a] ∧ Cov B H ∧ B a = true ∧ Ok1 K B H a C dx ns ds ∧ Cp ds d ∧ ∀ v H', Same H H' → Rp K (mask B H') v d → Q v H'
theorem fnP_ok {x qual : Str} {st : Stmt} {f : Addr} {fd : FuncData} {N ps ns : List Str} {k : Nat} {C : Addr} {Cp : List Dat → Dat → Prop} (F : Fun K x qual st f fd) (Sc : FnScope N ps (defScope st)) (hps : ps.length = 1) (hN : 1 ≤ N.length)
    (hbody : ∀ (cdv : Value) (A : Around) (outer : List Env) (s : Shared) (H : Hp) (E : XK) (W : Wl) (a dx : Addr) (ds : List Dat) (d : Dat), Room k (A.deeper (envOfC qual (defScope st) s.heap.objs.size f cdv)) → Cp ds d →
      SS (cxOf (L2N.CX P w) P w K mg base N qual (defScope st) f cdv A outer s H E) E W (defBody st) (startM N (.mg a (oN C dx ns) ds) []) (fun o => o = .rt d)) : FnOk P w K mg base (L2N.CX P w) (k + 1) f fd ps (spP K C ns Cp) := by
  refine okN F Sc (fun vs H Q E h => ?_) (fun cdv A outer s H vs Q E hr h => ?_)
  · obtain ⟨B, a, dx, ds, d, rfl, _⟩ := h
    rw [hps]
    rfl
  · obtain ⟨B, a, dx, ds, d, rfl, cv, hb, ⟨us, hu, hru⟩, hc, q⟩ := h
    have hb' := hbody cdv A outer s H E ⟨H, B, fun b => false, fun _ => none, fun _ => True, fun _ _ _ _ => True.intro, cv, fun _ => false, fun _ => true⟩ a dx ds d hr hc
    refine ⟨_, hb', B, ⟨fun a o _ h => h, fun _ h => h, cv, fun a o h => (by cases h), True.intro, fun b hbd => (by cases hbd), fun _ _ _ _ => rfl⟩, ?_, ?_⟩
    · have e := envR_start (K := K) (B := B) (H := H) (N := N.drop 1) (vs := []) (as := []) .nil
      have e2 := e.cons (s := .mg a (oN C dx ns) ds) (o := some (.ref a)) ⟨rfl, hb, us, hu, oN_tbl, hru⟩ startρ_own
      have z : L2.start N [.ref a] = some (V.ref a) :: L2.start (N.drop 1) [] := by
        unfold L2.start
        rw [List.map_cons, List.cons_append, List.length_cons, List.length_drop, Nat.sub_sub, Nat.add_comm 1]
      have z2 : startM N (.mg a (oN C dx ns) ds) [] = .mg a (oN C dx ns) ds :: startρ (N.drop 1) [] := by
        unfold startM startρ
        rw [List.length_drop]
      rw [z, z2]
      exact e2
    · refine ⟨fun ρ σ H' B' e w en => (by cases e), fun d' v H' B' e w r' => ?_, fun c H' B' e w => (by cases e), fun ρ σ H' B' e w en => (by cases e), fun ρ σ H' B' e w en => (by cases e), fun ρ σ d v H' B' e w en r' => (by cases e), fun ρ σ c H' B' e w en => (by cases e)⟩
      cases e
      exact q v H' (fun b o h => w.old b o rfl h) (r'.mono (mask_le w.b0))
end
/-! ### a step of an owned object -/
theorem own_step {K : PySem.W.Frag} {W : Wl} {B : Addr → Bool} {H H' : Hp} {σ : L2.St} {ρ : List Sl} {i : Nat} {a C dx : Addr} {ns : List Str} {ds ds' : List Dat} (w : Wd W B H) (en : EnvR K B H σ ρ) (hi : ρ[i]? = some (.mg a (oN C dx ns) ds)) (hr : Wr W a) (hp : ∀ b o, b ≠ a → H b = some o → H' b = some o) (hc : Ok1 K B H' a C dx ns ds') :
    Wd W B H' ∧ EnvR K B H' σ (ρ.set i (.mg a (oN C dx ns) ds')) ∧ Same (mask B H) (mask B H') := by
  obtain ⟨h1, hb, vs0, h0, _⟩ := en.mg hi
  obtain ⟨us, hu, hru⟩ := hc
  have s : Same (upd H a (oN C dx ns us)) H' := fun b o e => by
    by_cases z : b = a
    · rw [z, upd_same] at e
      rw [z, hu, e]
    · rw [upd_ne z] at e
      exact hp b o z e
  have m := mask_same (B := B) s
  rw [mask_upd hb] at m
  have w1 := (w.write (o := oN C dx ns us) hr hb h0 rfl rfl).same s
  refine ⟨w1, ?_, m⟩
  have hl := (List.getElem?_eq_some_iff.mp hi).1
  have e0 := en.write (o := oN C dx ns us) (s' := .mg a (fun _ => oN C dx ns us) []) hi rfl h1 hb ⟨rfl, hb, [], upd_same, oN_tbl, .nil⟩ rfl
  exact EnvR.mk (by rw [List.length_set, en.len]) (fun j x hj => by
      by_cases hij : i = j
      · subst hij
        rw [List.getElem?_set_self hl] at hj
        have hj := Option.some.inj hj
        subst hj
        exact ⟨_, h1, rfl, hb, us, hu, oN_tbl, hru⟩
      · have hj2 : (ρ.set i (.mg a (fun _ => oN C dx ns us) []))[j]? = some x := by
          rw [List.getElem?_set_ne hij] at hj ⊢
          exact hj
        exact (e0.same s).at_ j x hj2) (fun j k sj sk v hjk hj hk oj ok vj => by
      have tr : ∀ (j : Nat) (sj : Sl), (ρ.set i (.mg a (oN C dx ns) ds'))[j]? = some sj → sj.own = true → ∃ sj', ρ[j]? = some sj' ∧ sj'.own = true := fun j sj hj oj => by
        by_cases hij : i = j
        · subst hij
          exact ⟨_, hi, rfl⟩
        · rw [List.getElem?_set_ne hij] at hj
          exact ⟨sj, hj, oj⟩
      obtain ⟨sj', hj', oj'⟩ := tr j sj hj oj
      obtain ⟨sk', hk', ok'⟩ := tr k sk hk ok
      exact en.sep j k sj' sk' v hjk hj' hk' oj' ok' vj)
end G

set_option Elab.async false
set_option linter.all false
set_option maxRecDepth 100000
set_option maxHeartbeats 4000000
namespace G
open PySem PySem.Spec PyProof.Rows L2 TL LamX L2H HotX
/-! ### expressions that may change the slots -/
def tX (K : PySem.W.Frag) (E : XK) (W : Wl) (ρ : List Sl) (S : Res → List Sl → Prop) : TE := fun σ H Q => ∃ B, Wd W B H ∧ EnvR K B H σ ρ ∧ (∀ v H' B' d ρ', S (.ok d) ρ' → Wd W B' H' → EnvR K B' H' σ ρ' → Sm (mask B H) (mask B' H') → Rp K (mask B' H') v d → Q v H') ∧
  ∀ c H' B' ρ', S (.err c) ρ' → Wd W B' H' → EnvR K B' H' σ ρ' → Sm (mask B H) (mask B' H') → E c none H'
abbrev DX (X : Cx) (E : XK) (W : Wl) (e : Expr) (ρ : List Sl) (S : Res → List Sl → Prop) : Prop := PE X e (tX X.K E W ρ S)
section
variable {X : Cx} {E : XK} {W : Wl} {ρ : List Sl} {P : Out → Prop} {S : Res → List Sl → Prop}
theorem dx_pure {e : Expr} {d : Dat} (h : D X E e ρ (.ok d)) (hs : S (.ok d) ρ) : DX X E W e ρ S :=
  pe_imp h fun σ H Q ⟨B, w, en, q1, _⟩ => ⟨B, w.cov, en, fun v H' s r => q1 v H' B d ρ hs (w.same s) (en.same s) (Sm.of (mask_same s)) r⟩
theorem dx_errD {e : Expr} {c : Value} (h : D X E e ρ (.err c)) (hs : S (.err c) ρ) : DX X E W e ρ S :=
  pe_imp h fun σ H Q ⟨B, w, en, _, q2⟩ => ⟨B, w.cov, en, fun H' s => q2 c H' B ρ hs (w.same s) (en.same s) (Sm.of (mask_same s))⟩
theorem dx_meth (i : Nat) {x m : Str} {a C dx : Addr} {ns ps : List Str} {ds as ds' : List Dat} {r : Res} {Cm : List Dat → List Dat → Res → List Dat → Prop} {k : Nat} {e : Expr} {es : List Expr} {px apos pos : Pos} {pl : Sem Bool} (F : FnM X.prog X.w X.K X.mg X.base C ns m ps Cm k) (hr : Room k X.A) (hp : Passes (L2N.CX X.prog X.w) X E) (hC : Cls X.K C) (hi : ρ[i]? = some (.mg a (oN C dx ns) ds)) (hw : Wr W a) (hx : PE X (.Name x px) (tVar i))
    (ha : DA X E (e :: es) ρ (.ok as)) (hm : m ∉ ns) (hc : Cm ds as r ds') (hS : S r (ρ.set i (.mg a (oN C dx ns) ds'))) (hst : starEach (e :: es) X.env = (false, eval e X.env) :: starEach es X.env := by rfl) (hpl : (backTo pos (starEach es X.env)).any (·.1) = false := by rfl)
    (ht : eval (.Call (.Attribute (.Name x px) m apos) (e :: es) [] pos) X.env = (do let ov ← eval (.Name x px) X.env; standAt apos.atName; let (f, first) ← holding [ov] (getMethod ov m pl); callWith pos f first (backTo pos (starEach (e :: es) X.env)) (backToKw pos (keywordEach [] X.env))) := by rfl) :
    DX X E W (.Call (.Attribute (.Name x px) m apos) (e :: es) [] pos) ρ S := by
  obtain ⟨f, fd, h1, h2, h3⟩ := F.ex
  refine pe_imp (pe_meth (pl := pl) hx hC h2 h1 hr h3 .nil hp ha hst hpl ht) fun σ H Q ⟨B, w, en, q1, q2⟩ => ?_
  obtain ⟨e1, hb, vs, h3, h4⟩ := en.mg hi
  refine ⟨_, e1, a, dx, _, rfl, h3, look_none hm, B, w.cov, en, fun us H2 s2 rs => ?_⟩
  show spM X.K C ns Cm (V.ref a :: (us ++ [])) H2 Q E
  rw [List.append_nil]
  refine ⟨B, a, dx, ds, us, as, r, ds', rfl, w.cov.same s2, hb, ⟨vs, s2 _ _ h3, h4.mono (mask_same s2)⟩, rs, hc, ?_⟩
  cases r with
  | ok d =>
    intro v H' hp' hok rv
    obtain ⟨w', en', m'⟩ := own_step (w.same s2) (en.same s2) hi hw hp' hok
    exact q1 v H' B d _ hS w' en' (Sm.of ((mask_same s2).trans m')) rv
  | err c =>
    intro H' hp' hok
    obtain ⟨w', en', m'⟩ := own_step (w.same s2) (en.same s2) hi hw hp' hok
    exact q2 c H' B _ hS w' en' (Sm.of ((mask_same s2).trans m'))
theorem dx_meth0 (i : Nat) {x m : Str} {a C dx : Addr} {ns ps : List Str} {ds ds' : List Dat} {r : Res} {Cm : List Dat → List Dat → Res → List Dat → Prop} {k : Nat} {px apos pos : Pos} {pl : Sem Bool} (F : FnM X.prog X.w X.K X.mg X.base C ns m ps Cm k) (hr : Room k X.A) (hp : Passes (L2N.CX X.prog X.w) X E) (hC : Cls X.K C) (hi : ρ[i]? = some (.mg a (oN C dx ns) ds)) (hw : Wr W a) (hx : PE X (.Name x px) (tVar i))
    (hm : m ∉ ns) (hc : Cm ds [] r ds') (hS : S r (ρ.set i (.mg a (oN C dx ns) ds')))
    (ht : eval (.Call (.Attribute (.Name x px) m apos) [] [] pos) X.env = (do let ov ← eval (.Name x px) X.env; standAt apos.atName; let (f, first) ← holding [ov] (getMethod ov m pl); callWith pos f first (backTo pos (starEach [] X.env)) (backToKw pos (keywordEach [] X.env))) := by rfl) :
    DX X E W (.Call (.Attribute (.Name x px) m apos) [] [] pos) ρ S := by
  obtain ⟨f, fd, h1, h2, h3⟩ := F.ex
  refine pe_imp (pe_meth0 (pl := pl) hx hC h2 h1 hr h3 .nil hp ht) fun σ H Q ⟨B, w, en, q1, q2⟩ => ?_
  obtain ⟨e1, hb, vs, h3, h4⟩ := en.mg hi
  refine ⟨_, e1, a, dx, _, rfl, h3, look_none hm, ?_⟩
  refine ⟨B, a, dx, ds, [], [], r, ds', rfl, w.cov, hb, ⟨vs, h3, h4⟩, .nil, hc, ?_⟩
  cases r with
  | ok d =>
    intro v H' hp' hok rv
    obtain ⟨w', en', m'⟩ := own_step w en hi hw hp' hok
    exact q1 v H' B d _ hS w' en' (Sm.of m') rv
  | err c =>
    intro H' hp' hok
    obtain ⟨w', en', m'⟩ := own_step w en hi hw hp' hok
    exact q2 c H' B _ hS w' en' (Sm.of m')
/-- a method that only looks -/
theorem d_methP (i : Nat) {x m : Str} {a C dx : Addr} {ns ps : List Str} {ds : List Dat} {d : Dat} {Cp : List Dat → Dat → Prop} {k : Nat} {f : Addr} {fd : FuncData} {px apos pos : Pos} {pl : Sem Bool} (F : FnOk X.prog X.w X.K X.mg X.base (L2N.CX X.prog X.w) k f fd ps (spP X.K C ns Cp)) (M : Meth X.K C m f) (Bn : Binds X.K fd ps []) (hr : Room k X.A) (hp : Passes (L2N.CX X.prog X.w) X E) (hC : Cls X.K C) (hi : ρ[i]? = some (.mg a (oN C dx ns) ds)) (hx : PE X (.Name x px) (tVar i))
    (hm : m ∉ ns) (hc : Cp ds d)
    (ht : eval (.Call (.Attribute (.Name x px) m apos) [] [] pos) X.env = (do let ov ← eval (.Name x px) X.env; standAt apos.atName; let (f, first) ← holding [ov] (getMethod ov m pl); callWith pos f first (backTo pos (starEach [] X.env)) (backToKw pos (keywordEach [] X.env))) := by rfl) :
    D X E (.Call (.Attribute (.Name x px) m apos) [] [] pos) ρ (.ok d) := by
  refine D.of (pe_meth0 (pl := pl) hx hC M F hr Bn .nil hp ht) fun B σ H Q cv en q => ?_
  obtain ⟨e1, hb, vs, h3, h4⟩ := en.mg hi
  exact ⟨_, e1, a, dx, _, rfl, h3, look_none hm, B, a, dx, ds, d, rfl, cv, hb, ⟨vs, h3, h4⟩, hc, q⟩
end
/-! ### len of an object -/
def rLenO (sp : Sp) (K : PySem.W.Frag) (f : Addr) : List V → Hp → VK → Prop := fun xs H Q => ∃ a C dx fs, xs = [V.ref a] ∧ H a = some (.ins C dx fs) ∧ PySem.W.findIn K (.ref C) "__len__" = some (some (.ref f)) ∧ sp [V.ref a] H (fun v H' => ∃ n : Int, v = .int n ∧ (0 ≤ n ∧ n < 2 ^ 63) ∧ Q (.int n) H') E0
theorem cr_lenO {X : Cx} {k : Nat} {f : Addr} {fd : FuncData} {ps : List Str} {sp : Sp} (F : FnOk X.prog X.w X.K X.mg X.base (L2N.CX X.prog X.w) k f fd ps sp) (Bn : Binds X.K fd ps []) (hps : ps.length = 1) (hr : Room (k + 1) X.A) (hf : PySem.W.isFn X.K (.ref f) = true) : CallR X (.builtin "len") (rLenO sp X.K f) := by
  intro pins s σ H xs us Q I r ⟨a, C, dx, fs, e, ha, hs, q⟩
  subst e
  rw [Vals.ref1 r]
  obtain ⟨m, hF⟩ := I.fr
  obtain ⟨mA, OM, _⟩ := ins_get I.hok ha
  obtain ⟨od, O, _⟩ := OM.look
  refine PySem.W.len_K hF I.ok.mod.kin O hs hf ?_
  refine wpAny_call (codeAny_mono (F.run X.A.in1 X.stack s H ⟨[.ref a], []⟩ [.ref a] [.ref a] _ E0 hr.in1 I.env0.in1 (Bn s [.ref a] I.kIn (by rw [hps]; rfl)) (.cons rfl .nil) q) fun r s' hq => ?_)
  cases r with
  | error e =>
    obtain ⟨_, _, _, _, _, _, _, _, _, _, _, _, z⟩ := hq
    exact z.elim
  | ok fl =>
    cases fl with
    | ret u =>
      obtain ⟨v, H', I', rv, n, e, hn, q'⟩ := I.after hq
      subst e
      obtain ⟨t, rfl⟩ := rv
      exact ⟨hn, .int n, H', I'.tok _, ⟨_, rfl⟩, q'⟩
    | next => exact False.elim hq
    | brk => exact False.elim hq
    | cont => exact False.elim hq
theorem d_lenO {X : Cx} {E : XK} {ρ : List Sl} (i : Nat) {x : Str} {a C dx : Addr} {ns ps : List Str} {ds : List Dat} {n : Nat} {Cp : List Dat → Dat → Prop} {k : Nat} {f : Addr} {fd : FuncData} {px p pos : Pos} (F : FnOk X.prog X.w X.K X.mg X.base (L2N.CX X.prog X.w) k f fd ps (spP X.K C ns Cp)) (M : Meth X.K C "__len__" f) (Bn : Binds X.K fd ps []) (hps : ps.length = 1) (hr : Room (k + 1) X.A) (hml : X.mg "len" = none) (hi : ρ[i]? = some (.mg a (oN C dx ns) ds)) (hx : PE X (.Name x px) (tVar i)) (hn : n ≤ 1000000) (hc : Cp ds (.int n))
    (hg : Gl X "len" := by rfl) (he : starEach [.Name x px] X.env = (false, eval (.Name x px) X.env) :: starEach [] X.env := by rfl) : D X E (.Call (.Name "len" p) [.Name x px] [] pos) ρ (.ok (.int n)) := by
  refine D.of (pe_callB (cr_lenO F Bn hps hr M.fn) hg hml (show bootBuiltins "len" = some (.builtin "len") by decide +kernel) (pa_cons hx pa_nil he) (by decide) (by decide) he rfl) fun B σ H Q cv en q => ?_
  obtain ⟨e1, hb, vs, h3, h4⟩ := en.mg hi
  refine ⟨_, e1, a, C, dx, _, rfl, h3, M.at_, B, a, dx, ds, .int n, rfl, cv, hb, ⟨vs, h3, h4⟩, hc, fun v H' s rv => ?_⟩
  rw [rp_int rv]
  exact ⟨n, rfl, ⟨by omega, by omega⟩, q _ H' s (.int _)⟩
/-! ### worlds that bear new code objects -/
structure WSm (T : List (Addr × Str)) (W : Wl) : Prop where
  sm : ∀ {B : Addr → Bool} {H H1 : Hp}, Wd W B H → Sm H H1 → Tabs T H1 → Wd W B H1
  tabs : ∀ {B : Addr → Bool} {H : Hp}, Wd W B H → Tabs T H
theorem wsm_WT {T : List (Addr × Str)} {fr : Hp} {dc : Addr → Bool} : WSm T (WT T fr dc) := ⟨fun w e h => w.sm e h, fun w => w.iv⟩
theorem dx_told {X : Cx} {E1 : XK} {T : List (Addr × Str)} {W : Wl} {ρ : List Sl} {S S' : Res → List Sl → Prop} {g CS ft c P : Addr} {k kt : Nat} {Kn : Addr → List Nat → Prop} {params : Arguments} {body : Expr} {scope : Scope} {p lpos pos : Pos} (hW : WSm T W) (F : ToldF X.K X.mg g CS ft) (hTm : TermOk X.prog X.w X.K X.mg X.base ft kt Kn)
    (TB : TabB X.base X.mg c P) (hcode : X.env.code = .ref c) (hmT : (P, X.env.qual ++ "<lambda>") ∈ T) (hu : ∀ p ∈ T, p.1 = P → p.2 = X.env.qual ++ "<lambda>") (hr : Room (k + 2) X.A) (hkt : kt ≤ k + 1)
    (hbody : ∀ (A : Around) (outer : List Env) (s : Shared) (H : Hp) (E : XK) (f c' : Addr), Room k (A.deeper (lamEnv X scope s.heap.objs.size f c')) → DX (lamN X A outer s H E scope f c') E W body ρ S)
    (h1 : ∀ d ρ', S (.ok d) ρ' → S' (.ok d) ρ') (h2 : ∀ c ρ', S (.err c) ρ' → ∃ C nm, c = .ref C ∧ Kn C nm ∧ PySem.W.exmOne X.K (.ref C) (.ref CS) = some true ∧ S' (.ok (errD nm)) ρ')
    (L : LamS X.env.scope scope := by exact lamS_by (by decide +kernel)) (hdef : defaultsOf params X.env = ([], []) := by rfl) (hbind : ∀ (q : Str) (cl : List (Str × Addr)) (pm cv ctv : Value), bindArgs (PySem.W.kla_fn "<lambda>" q params body scope cl pm cv ctv) ⟨[], []⟩ = pure [] := by intros; rfl) (hg : Gl X "_law_told" := by rfl) :
    DX X E1 W (.Call (.Name "_law_told" p) [.Lambda params body scope lpos] [] pos) ρ S' := by
  refine pe_imp (gh_told (t := fun E => tX X.K E W ρ S) F hTm hg TB hcode hmT hu hr hkt L hdef hbind hbody) fun σ H Q ⟨B, w, en, q1, q2⟩ => ⟨hW.tabs w, fun H1 eN T1 => ?_⟩
  have w1 := hW.sm w eN T1
  have en1 := en.sm eN
  refine ⟨B, w1, en1, fun v H' B' d ρ' hS w' en' m' r => q1 v H' B' d ρ' (h1 d ρ' hS) w' en' ((mask_sm eN).trans m') r, fun c H' B' ρ' hS w' en' m' => ?_⟩
  obtain ⟨C, nm, e1, hK, hx, hs⟩ := h2 c ρ' hS
  exact ⟨C, nm, e1, rfl, hK, hx, B', w'.cov, fun v H'' s2 rv => q1 v H'' B' (errD nm) ρ' hs (w'.same s2) (en'.same s2) (((mask_sm eN).trans m').trans (Sm.of (mask_same s2))) rv⟩
/-! ### statements and tests -/
def tXT (K : PySem.W.Frag) (W : Wl) (ρ ρ' : List Sl) (b : Bool) : TT := fun σ H Q => ∃ B, Wd W B H ∧ EnvR K B H σ ρ ∧ ∀ H' B', Wd W B' H' → EnvR K B' H' σ ρ' → Q b H'
section
variable {X : Cx} {E : XK} {W : Wl} {ρ ρ1 : List Sl} {P : Out → Prop} {S : Res → List Sl → Prop}
theorem s_retDX {e : Expr} {pos : Pos} (h : DX X E W e ρ S) (q : ∀ d ρ', S (.ok d) ρ' → P (.re ρ' d)) (qe : ∀ c ρ', S (.err c) ρ' → P (.ee ρ' c)) : S1 X E W (.Return (some e) pos) ρ P :=
  ps_imp (ps_ret h) fun D σ H ⟨B, w, en, p⟩ => ⟨B, w, en, fun v H' B' d ρ' hS w' en' m' r => p.re ρ' σ d v H' B' (q d ρ' hS) w' en' r, fun c H' B' ρ' hS w' en' m' => p.ee ρ' σ c H' B' (qe c ρ' hS) w' en'⟩
theorem s_setDX (i : Nat) {x : Str} {e : Expr} {pos pos' : Pos} (hN : X.N.Nodup) (h : DX X E W e ρ S) (q : ∀ d ρ', S (.ok d) ρ' → P (.nx (ρ'.set i (.dt d)))) (qe : ∀ c ρ', S (.err c) ρ' → P (.ee ρ' c)) (hi : X.N[i]? = some x := by rfl) (hx : Loc X.env.scope x := by first | exact Or.inl rfl | exact Or.inr rfl)
    (hs : swapsWith e (some (.Name x pos')) pos.line X.env = pure false := by rfl) (hf : X.fn x = true ∨ X.env.scope.names.lookup x = some .local := by first | exact .inl rfl | exact .inr rfl | assumption) : S1 X E W (.Assign [.Name x pos'] e pos) ρ P :=
  ps_imp (ps_set hN hi hx h hs hf) fun D σ H ⟨B, w, en, p⟩ => ⟨B, w, en, fun v H' B' d ρ' hS w' en' m' r => p.nx _ _ H' B' (q d ρ' hS) w' (en'.setD i r), fun c H' B' ρ' hS w' en' m' => p.ee ρ' σ c H' B' (qe c ρ' hS) w' en'⟩
/-- a != b, a may change the slots -/
theorem xt_ne {a b : Expr} {x y : Dat} {pos : Pos} (hu : X.A.units + 64 < cLine) (ha : DX X E0 W a ρ (fun r ρ' => r = .ok x ∧ ρ' = ρ1)) (hb : D X E0 b ρ1 (.ok y)) (hx : okn 9 x = true) (hy : okn 9 y = true) : PT X (.Compare a [.NotEq] [b] pos) (tXT X.K W ρ ρ1 (!Dat.eq x y)) :=
  pt_imp (pt_cmpR (op_neD hu) ha hb (nomark _)) fun σ H Q ⟨B, w, en, q⟩ => ⟨B, w, en, fun vx H1 B1 d ρ' hS w1 en1 m1 rx => by
    obtain ⟨e1, e2⟩ := hS
    cases e1
    subst e2
    exact ⟨B1, w1.cov, en1, fun vy H2 s2 ry => o_neD hx hy B1 H2 vx vy _ (w1.cov.same s2) (rx.mono (mask_same s2)) ry fun v H3 s3 rv => ⟨_, rp_bl rv, q H3 B1 ((w1.same s2).same s3) ((en1.same s2).same s3)⟩⟩, fun c H' B' ρ' hS => by
    obtain ⟨e1, _⟩ := hS
    cases e1⟩
theorem xt_is {c : Expr} {b b' : Bool} (h : PT X c (tXT X.K W ρ ρ1 b)) (q : b = b') : PT X c (tXT X.K W ρ ρ1 b') := q ▸ h
theorem xt_or {a b : Expr} {pos : Pos} (ha : PT X a (tXT X.K W ρ ρ1 false)) (hb : T X b ρ1 false) : PT X (.BoolOp .Or [a, b] pos) (tXT X.K W ρ ρ1 false) := by
  refine PW.pt (pw_imp (pw_or ha (pw_or1 hb)) fun σ H Q ⟨B, w, en, q⟩ => ⟨B, w, en, fun H1 B1 w1 en1 => ?_⟩)
  refine iteF ?_
  exact ⟨B1, w1.cov, en1, fun H2 s2 => q H2 B1 (w1.same s2) (en1.same s2)⟩
theorem s_ifXT {c : Expr} {th el : List Stmt} {pos : Pos} (t : PT X c (tXT X.K W ρ ρ1 false)) (h : SS X E W el ρ1 P) : S1 X E W (.If c th el pos) ρ P := by
  refine ps_imp (ps_if t pss_never h) fun D σ H ⟨B, w, en, p⟩ => ⟨B, w, en, fun H1 B1 w1 en1 => ?_⟩
  exact iteF ⟨B1, w1, en1, p⟩
end
end G

set_option Elab.async false
set_option linter.all false
set_option maxRecDepth 100000
set_option maxHeartbeats 4000000
namespace G
open PySem PySem.Spec PyProof.Rows L2 TL LamX
def clsBody : Stmt → List Stmt
  | .ClassDef _ _ _ b _ _ _ _ _ _ _ => b
  | _ => []
def mthS (j : Nat) : Stmt := (clsBody s_Drill).getD j (.Pass ⟨0, 0, 0, 0⟩)
abbrev fldN : List Str := ["now", "earlier", "undone"]
def stD (f : Fm) (e u : List Fm) : List Dat := [F_ f, .lst (e.map F_), .lst (u.map F_)]
theorem okL {e : List Fm} (h : ∀ g ∈ e, isFm g = true) : okn 9 (.lst (e.map F_)) = true := by
  show (e.map F_).all (okn 8) = true
  rw [List.all_eq_true]
  intro x hx
  obtain ⟨g, hg, rfl⟩ := List.mem_map.mp hx
  exact okn_mono (by decide) (okn_F (h g hg))
theorem at_last {α : Type} (l : List α) (x : α) : atI (l ++ [x]) (-1) = some x := by
  unfold atI ixN
  rw [List.length_append]
  have e : ([x] : List α).length = 1 := rfl
  rw [if_neg (by decide), e]
  have h : -(((l.length + 1 : Nat) : Int)) ≤ -1 := by omega
  first
    | rw [if_pos h]
    | simp only [h, if_true]
  show (l ++ [x])[((-1 : Int) + ((l.length + 1 : Nat) : Int)).toNat]? = some x
  rw [show ((-1 : Int) + ((l.length + 1 : Nat) : Int)).toNat = l.length by omega, List.getElem?_append_right (Nat.le_refl _), Nat.sub_self]
  rfl
theorem cut_last {α : Type} (l : List α) (x : α) : cutN (l ++ [x]) none (some (-1)) = l := by
  unfold cutN
  rw [HT.sIx_none, List.drop_zero, Nat.sub_zero, List.length_append]
  have e : HT.sIx (l.length + [x].length) (l.length + [x].length) (some (-1)) = l.length := by
    show (if (-1 : Int) < 0 then ((-1 : Int) + ((l.length + 1 : Nat) : Int)).toNat else min (-1 : Int).toNat (l.length + 1)) = l.length
    rw [if_pos (by decide)]
    omega
  rw [e, List.take_left]
theorem map_snoc (e : List Fm) (g : Fm) : (e ++ [g]).map F_ = e.map F_ ++ [F_ g] := by rw [List.map_append]; rfl
structure DrC (K : PySem.W.Frag) (C : Addr) : Prop where
  cl : Cls K C
  n0 : NoAttr K C "now"
  n1 : NoAttr K C "earlier"
  n2 : NoAttr K C "undone"
def MAt (K : PySem.W.Frag) (C : Addr) (m qual : Str) (st : Stmt) : Prop := ∃ f fd, Fun K m qual st f fd ∧ Meth K C m f
theorem ndF : fldN.Nodup := by decide +kernel
inductive C_order (IO IM : Addr) : List Dat → List Dat → Res → List Dat → Prop
  | badO (f : Fm) (e u : List Fm) (x : Dat) : okV x → isOrd x = false → C_order IO IM (stD f e u) [x] (.err (.ref IO)) (stD f e u)
  | imp (f : Fm) (e u : List Fm) (os : List Nat) : isFm f = true → isOrd (.str os) = true → aftF f os = none → C_order IO IM (stD f e u) [.str os] (.err (.ref IM)) (stD f e u)
  | ok (f : Fm) (e u : List Fm) (os : List Nat) (g : Fm) : isFm f = true → isOrd (.str os) = true → aftF f os = some g → e.length ≤ 1000 → C_order IO IM (stD f e u) [.str os] (.ok (F_ g)) (stD g (e ++ [f]) [])
inductive C_undo' (NU : Addr) : List Dat → List Dat → Res → List Dat → Prop
  | no (f : Fm) (u : List Fm) : C_undo' NU (stD f [] u) [] (.err (.ref NU)) (stD f [] u)
  | ok (f g : Fm) (e u : List Fm) : isFm g = true → (∀ k ∈ e, isFm k = true) → u.length ≤ 1000 → C_undo' NU (stD f (e ++ [g]) u) [] (.ok (F_ g)) (stD g e (u ++ [f]))
inductive C_redo (NU : Addr) : List Dat → List Dat → Res → List Dat → Prop
  | no (f : Fm) (e : List Fm) : C_redo NU (stD f e []) [] (.err (.ref NU)) (stD f e [])
  | ok (f g : Fm) (e u : List Fm) : isFm g = true → (∀ k ∈ u, isFm k = true) → e.length ≤ 1000 → C_redo NU (stD f e (u ++ [g])) [] (.ok (F_ g)) (stD g (e ++ [f]) u)
def C_fmn : List Dat → Dat → Prop := fun ds d => ∃ f e u, ds = stD f e u ∧ d = F_ f
def C_len : List Dat → Dat → Prop := fun ds d => ∃ f e u, ds = stD f e u ∧ d = .int (e.length : Nat)
section
variable {P : Program} {w : World} {K : PySem.W.Frag} {mg : Str → Option Value} {base : Heap} {C IF IO IM NU : Addr}
theorem sc_order : FnScope ["self", "orders", "made"] ["self", "orders"] (defScope (mthS 1)) := ⟨rfl, rfl, rfl, by decide +kernel, rfl, by decide +kernel, by decide +kernel⟩
theorem sc_fmn : FnScope ["self"] ["self"] (defScope (mthS 2)) := ⟨rfl, rfl, rfl, by decide +kernel, rfl, by decide +kernel, by decide +kernel⟩
theorem sc_undoM : FnScope ["self"] ["self"] (defScope (mthS 3)) := ⟨rfl, rfl, rfl, by decide +kernel, rfl, by decide +kernel, by decide +kernel⟩
theorem sc_redoM : FnScope ["self"] ["self"] (defScope (mthS 4)) := ⟨rfl, rfl, rfl, by decide +kernel, rfl, by decide +kernel, by decide +kernel⟩
theorem sc_lenM : FnScope ["self"] ["self"] (defScope (mthS 5)) := ⟨rfl, rfl, rfl, by decide +kernel, rfl, by decide +kernel, by decide +kernel⟩
theorem c_order (R : DrC K C) (G1 : FnC P w K mg base "need_orders" ["orders"] (C_needo IO) 2) (G2 : FnC P w K mg base "performed" ["formation", "orders"] (C_perf IM) 4) (h : MAt K C "order" "Drill.order" (mthS 1)) : FnM P w K mg base C fldN "order" ["self", "orders"] (C_order IO IM) 5 := by
  obtain ⟨fa, fd, F, M⟩ := h
  refine ⟨fa, fd, fnM_ok F sc_order (fun ds as r ds' z => by cases z <;> rfl) (by decide) fun cdv A outer s H E W a dx ds as r ds' hw hr z => ?_, M, F.binds fun _ _ _ _ _ _ us hl => match us, hl with | [_, _], _ => rfl⟩
  have nd := sc_order.nd
  cases z with
  | badO f e u x hx ho =>
    exact ss_cons (s_exprEE (d_call G1 (hr.mono (by decide)) pa_cx (da_one (dv 1 rfl)) ⟨x, rfl, hx, by rw [ho]; rfl⟩) ⟨rfl, rfl⟩)
  | imp f e u os hf ho hn =>
    refine ss_cons (s_expr (d := .non) (d_call G1 (hr.mono (by decide)) pa_cx (da_one (dv 1 rfl)) ⟨_, rfl, (isOrd_str ho).2.2, by rw [ho]; rfl⟩) ?_)
    exact ss_cons (s_setEE (i := 2) nd (d_call G2 (hr.mono (by decide)) pa_cx (da_cons (d_fld 0 0 rfl (pv 0) R.cl R.n0 ndF rfl rfl) (da_one (dv 1 rfl))) ⟨f, os, rfl, hf, (isOrd_str ho).2.2, by unfold perfR; rw [hn]⟩) ⟨rfl, rfl⟩)
  | ok f e u os g hf ho hn hl =>
    refine ss_cons (s_expr (d := .non) (d_call G1 (hr.mono (by decide)) pa_cx (da_one (dv 1 rfl)) ⟨_, rfl, (isOrd_str ho).2.2, by rw [ho]; rfl⟩) ?_)
    refine ss_cons (s_set 2 nd (d := F_ g) (d_call G2 (hr.mono (by decide)) pa_cx (da_cons (d_fld 0 0 rfl (pv 0) R.cl R.n0 ndF rfl rfl) (da_one (dv 1 rfl))) ⟨f, os, rfl, hf, (isOrd_str ho).2.2, by unfold perfR; rw [hn]⟩) ?_)
    refine ss_cons (s_fld 0 1 (d := .lst (e.map F_ ++ [F_ f])) rfl hw (pv 0) (d_addL (d_fld 0 1 rfl (pv 0) R.cl R.n1 ndF rfl rfl) (d_lst (da_one (d_fld 0 0 rfl (pv 0) R.cl R.n0 ndF rfl rfl)) (by simp)) (by rw [List.length_map]; show e.length + 1 ≤ _; omega)) R.cl R.n1 ndF rfl (by decide) rfl ?_)
    refine ss_cons (s_fld 0 2 (d := .lst []) rfl hw (pv 0) (d_lst da_nil (by simp)) R.cl R.n2 ndF rfl (by decide) rfl ?_)
    refine ss_cons (s_fld 0 0 (d := F_ g) rfl hw (pv 0) (dv 2 rfl) R.cl R.n0 ndF rfl (by decide) rfl ?_)
    refine ss_one (s_retE2 (dv 2 rfl) ⟨rfl, ?_⟩)
    show some (Sl.mg a _ [F_ g, .lst (e.map F_ ++ [F_ f]), .lst []]) = some (Sl.mg a _ (stD g (e ++ [f]) []))
    rw [← map_snoc]
    rfl
theorem c_undoM (R : DrC K C) (X1 : ExcF K mg "NothingToUndo" NU) (h : MAt K C "undo" "Drill.undo" (mthS 3)) : FnM P w K mg base C fldN "undo" ["self"] (C_undo' NU) 1 := by
  obtain ⟨fa, fd, F, M⟩ := h
  refine ⟨fa, fd, fnM_ok F sc_undoM (fun ds as r ds' z => by cases z <;> rfl) (by decide) fun cdv A outer s H E W a dx ds as r ds' hw hr z => ?_, M, F.binds fun _ _ _ _ _ _ us hl => match us, hl with | [_], _ => rfl⟩
  have nd := sc_undoM.nd
  cases z with
  | no f u =>
    exact ss_cons (s_if (b := true) (T.is (t_eq hr.units (d_fld 0 1 rfl (pv 0) R.cl R.n1 ndF rfl rfl) (d_lst da_nil (by simp)) rfl rfl) rfl) (fun _ => ss_one (s_raiseE X1 tk_cx ⟨rfl, rfl⟩)) (fun h => by cases h))
  | ok f g e u hg he hl =>
    have ok1 : okn 9 (.lst ((e ++ [g]).map F_)) = true := okL fun k hk => (List.mem_append.mp hk).elim (he k) fun z => by rw [List.mem_singleton.mp z]; exact hg
    refine ss_cons (s_if (b := false) (T.is (t_eq hr.units (d_fld 0 1 rfl (pv 0) R.cl R.n1 ndF rfl rfl) (d_lst da_nil (by simp)) ok1 rfl) ?_) (fun h => by cases h) (fun _ => ss_nil ?_))
    · cases e <;> rfl
    refine ss_cons (s_fld 0 2 (d := .lst (u.map F_ ++ [F_ f])) rfl hw (pv 0) (d_addL (d_fld 0 2 rfl (pv 0) R.cl R.n2 ndF rfl rfl) (d_lst (da_one (d_fld 0 0 rfl (pv 0) R.cl R.n0 ndF rfl rfl)) (by simp)) (by rw [List.length_map]; show u.length + 1 ≤ _; omega)) R.cl R.n2 ndF rfl (by decide) rfl ?_)
    refine ss_cons (s_fld 0 0 (d := F_ g) rfl hw (pv 0) (d_ixL (d_fld 0 1 rfl (pv 0) R.cl R.n1 ndF rfl rfl) (d_neg d_int) (by rw [map_snoc]; exact at_last _ _)) R.cl R.n0 ndF rfl (by decide) rfl ?_)
    refine ss_cons (s_fld 0 1 (d := .lst (e.map F_)) rfl hw (pv 0) ((d_slL (d_fld 0 1 rfl (pv 0) R.cl R.n1 ndF rfl rfl) do_none (do_some (d_neg d_int))).is (by rw [map_snoc]; exact congrArg Dat.lst (cut_last _ _))) R.cl R.n1 ndF rfl (by decide) rfl ?_)
    refine ss_one (s_retE2 (d_fld 0 0 rfl (pv 0) R.cl R.n0 ndF rfl rfl) ⟨rfl, ?_⟩)
    show some (Sl.mg a _ [F_ g, .lst (e.map F_), .lst (u.map F_ ++ [F_ f])]) = some (Sl.mg a _ (stD g e (u ++ [f])))
    rw [← map_snoc]
    rfl
theorem c_redoM (R : DrC K C) (X1 : ExcF K mg "NothingToUndo" NU) (h : MAt K C "redo" "Drill.redo" (mthS 4)) : FnM P w K mg base C fldN "redo" ["self"] (C_redo NU) 1 := by
  obtain ⟨fa, fd, F, M⟩ := h
  refine ⟨fa, fd, fnM_ok F sc_redoM (fun ds as r ds' z => by cases z <;> rfl) (by decide) fun cdv A outer s H E W a dx ds as r ds' hw hr z => ?_, M, F.binds fun _ _ _ _ _ _ us hl => match us, hl with | [_], _ => rfl⟩
  have nd := sc_redoM.nd
  cases z with
  | no f e =>
    exact ss_cons (s_if (b := true) (T.is (t_eq hr.units (d_fld 0 2 rfl (pv 0) R.cl R.n2 ndF rfl rfl) (d_lst da_nil (by simp)) rfl rfl) rfl) (fun _ => ss_one (s_raiseE X1 tk_cx ⟨rfl, rfl⟩)) (fun h => by cases h))
  | ok f g e u hg hu hl =>
    have ok1 : okn 9 (.lst ((u ++ [g]).map F_)) = true := okL fun k hk => (List.mem_append.mp hk).elim (hu k) fun z => by rw [List.mem_singleton.mp z]; exact hg
    refine ss_cons (s_if (b := false) (T.is (t_eq hr.units (d_fld 0 2 rfl (pv 0) R.cl R.n2 ndF rfl rfl) (d_lst da_nil (by simp)) ok1 rfl) ?_) (fun h => by cases h) (fun _ => ss_nil ?_))
    · cases u <;> rfl
    refine ss_cons (s_fld 0 1 (d := .lst (e.map F_ ++ [F_ f])) rfl hw (pv 0) (d_addL (d_fld 0 1 rfl (pv 0) R.cl R.n1 ndF rfl rfl) (d_lst (da_one (d_fld 0 0 rfl (pv 0) R.cl R.n0 ndF rfl rfl)) (by simp)) (by rw [List.length_map]; show e.length + 1 ≤ _; omega)) R.cl R.n1 ndF rfl (by decide) rfl ?_)
    refine ss_cons (s_fld 0 0 (d := F_ g) rfl hw (pv 0) (d_ixL (d_fld 0 2 rfl (pv 0) R.cl R.n2 ndF rfl rfl) (d_neg d_int) (by rw [map_snoc]; exact at_last _ _)) R.cl R.n0 ndF rfl (by decide) rfl ?_)
    refine ss_cons (s_fld 0 2 (d := .lst (u.map F_)) rfl hw (pv 0) ((d_slL (d_fld 0 2 rfl (pv 0) R.cl R.n2 ndF rfl rfl) do_none (do_some (d_neg d_int))).is (by rw [map_snoc]; exact congrArg Dat.lst (cut_last _ _))) R.cl R.n2 ndF rfl (by decide) rfl ?_)
    refine ss_one (s_retE2 (d_fld 0 0 rfl (pv 0) R.cl R.n0 ndF rfl rfl) ⟨rfl, ?_⟩)
    show some (Sl.mg a _ [F_ g, .lst (e.map F_ ++ [F_ f]), .lst (u.map F_)]) = some (Sl.mg a _ (stD g (e ++ [f]) u))
    rw [← map_snoc]
    rfl
structure FnP (P : Program) (w : World) (K : PySem.W.Frag) (mg : Str → Option Value) (base : Heap) (C : Addr) (m : Str) (Cp : List Dat → Dat → Prop) (k : Nat) : Prop where
  ex : ∃ f fd, FnOk P w K mg base (L2N.CX P w) k f fd ["self"] (spP K C fldN Cp) ∧ Meth K C m f ∧ Binds K fd ["self"] []
theorem c_fmn (R : DrC K C) (h : MAt K C "formation" "Drill.formation" (mthS 2)) : FnP P w K mg base C "formation" C_fmn 1 := by
  obtain ⟨fa, fd, F, M⟩ := h
  refine ⟨fa, fd, fnP_ok F sc_fmn rfl (by decide) fun cdv A outer s H E W a dx ds d hr ⟨f, e, u, e1, e2⟩ => ?_, M, F.binds fun _ _ _ _ _ _ us hl => match us, hl with | [_], _ => rfl⟩
  subst e1 e2
  exact ss_one (s_ret (d_fld 0 0 rfl (pv 0) R.cl R.n0 ndF rfl rfl) rfl)
theorem c_lenM (B : Bi mg) (R : DrC K C) (h : MAt K C "__len__" "Drill.__len__" (mthS 5)) : FnP P w K mg base C "__len__" C_len 1 := by
  obtain ⟨fa, fd, F, M⟩ := h
  refine ⟨fa, fd, fnP_ok F sc_lenM rfl (by decide) fun cdv A outer s H E W a dx ds d hr ⟨f, e, u, e1, e2⟩ => ?_, M, F.binds fun _ _ _ _ _ _ us hl => match us, hl with | [_], _ => rfl⟩
  subst e1 e2
  exact ss_one (s_ret ((d_lenL B.len (d_fld 0 1 rfl (pv 0) R.cl R.n1 ndF rfl rfl)).is (by rw [List.length_map])) rfl)
end
end G

set_option Elab.async false
set_option linter.all false
set_option maxRecDepth 100000
set_option maxHeartbeats 4000000
namespace G
open PySem PySem.Spec PyProof.Rows L2 TL LamX L2H HotX
/-! ### steps of an owned object, tables may grow -/
theorem own_stepG {K : PySem.W.Frag} {T : List (Addr × Str)} {W : Wl} {B : Addr → Bool} {H H' : Hp} {σ : L2.St} {ρ : List Sl} {i : Nat} {a C dx : Addr} {ns : List Str} {o0 : List V → HO} {ds ds' : List Dat} (up : ∀ {B : Addr → Bool} {H H1 : Hp}, Wd W B H → Sm H H1 → Tabs T H1 → Wd W B H1) (w : Wd W B H) (en : EnvR K B H σ ρ) (hi : ρ[i]? = some (.mg a o0 ds)) (h00 : ∀ vs, teO (o0 vs) = false) (hr : Wr W a)
    (hp : ∀ b o, b ≠ a → H b = some o → (∀ ps, o ≠ .tbl ps) → H' b = some o) (hT : Tabs T H') (hc : Ok1 K B H' a C dx ns ds') :
    Wd W B H' ∧ EnvR K B H' σ (ρ.set i (.mg a (oN C dx ns) ds')) ∧ Sm (mask B H) (mask B H') := by
  obtain ⟨h1, hb, vs0, h0, _⟩ := en.mg hi
  obtain ⟨us, hu, hru⟩ := hc
  have s : Sm (upd H a (oN C dx ns us)) H' := fun b o e n => by
    by_cases z : b = a
    · rw [z, upd_same] at e
      rw [z, hu, e]
    · rw [upd_ne z] at e
      exact hp b o z e n
  have m := mask_sm (B := B) s
  rw [mask_upd hb] at m
  have w1 := up (w.write (o := oN C dx ns us) hr hb h0 (h00 _) rfl) s hT
  refine ⟨w1, ?_, m⟩
  have hl := (List.getElem?_eq_some_iff.mp hi).1
  have e0 := en.write (o := oN C dx ns us) (s' := .mg a (fun _ => oN C dx ns us) []) hi rfl h1 hb ⟨rfl, hb, [], upd_same, oN_tbl, .nil⟩ rfl
  exact EnvR.mk (by rw [List.length_set, en.len]) (fun j x hj => by
      by_cases hij : i = j
      · subst hij
        rw [List.getElem?_set_self hl] at hj
        have hj := Option.some.inj hj
        subst hj
        exact ⟨_, h1, rfl, hb, us, hu, oN_tbl, hru⟩
      · have hj2 : (ρ.set i (.mg a (fun _ => oN C dx ns us) []))[j]? = some x := by
          rw [List.getElem?_set_ne hij] at hj ⊢
          exact hj
        exact (e0.sm s).at_ j x hj2) (fun j k sj sk v hjk hj hk oj ok vj => by
      have tr : ∀ (j : Nat) (sj : Sl), (ρ.set i (.mg a (oN C dx ns) ds'))[j]? = some sj → sj.own = true → ∃ sj', ρ[j]? = some sj' ∧ sj'.own = true := fun j sj hj oj => by
        by_cases hij : i = j
        · subst hij
          exact ⟨_, hi, rfl⟩
        · rw [List.getElem?_set_ne hij] at hj
          exact ⟨sj, hj, oj⟩
      obtain ⟨sj', hj', oj'⟩ := tr j sj hj oj
      obtain ⟨sk', hk', ok'⟩ := tr k sk hk ok
      exact en.sep j k sj' sk' v hjk hj' hk' oj' ok' vj)
theorem own_step0 {K : PySem.W.Frag} {W : Wl} {B : Addr → Bool} {H H' : Hp} {σ : L2.St} {ρ : List Sl} {i : Nat} {a C dx : Addr} {ns : List Str} {o0 : List V → HO} {ds ds' : List Dat} (w : Wd W B H) (en : EnvR K B H σ ρ) (hi : ρ[i]? = some (.mg a o0 ds)) (h00 : ∀ vs, teO (o0 vs) = false) (hr : Wr W a) (hp : ∀ b o, b ≠ a → H b = some o → H' b = some o) (hc : Ok1 K B H' a C dx ns ds') :
    Wd W B H' ∧ EnvR K B H' σ (ρ.set i (.mg a (oN C dx ns) ds')) := by
  obtain ⟨h1, hb, vs0, h0, _⟩ := en.mg hi
  obtain ⟨us, hu, hru⟩ := hc
  have s : Same (upd H a (oN C dx ns us)) H' := fun b o e => by
    by_cases z : b = a
    · rw [z, upd_same] at e
      rw [z, hu, e]
    · rw [upd_ne z] at e
      exact hp b o z e
  have w1 := (w.write (o := oN C dx ns us) hr hb h0 (h00 _) rfl).same s
  refine ⟨w1, ?_⟩
  have hl := (List.getElem?_eq_some_iff.mp hi).1
  have e0 := en.write (o := oN C dx ns us) (s' := .mg a (fun _ => oN C dx ns us) []) hi rfl h1 hb ⟨rfl, hb, [], upd_same, oN_tbl, .nil⟩ rfl
  exact EnvR.mk (by rw [List.length_set, en.len]) (fun j x hj => by
      by_cases hij : i = j
      · subst hij
        rw [List.getElem?_set_self hl] at hj
        have hj := Option.some.inj hj
        subst hj
        exact ⟨_, h1, rfl, hb, us, hu, oN_tbl, hru⟩
      · have hj2 : (ρ.set i (.mg a (fun _ => oN C dx ns us) []))[j]? = some x := by
          rw [List.getElem?_set_ne hij] at hj ⊢
          exact hj
        exact (e0.same s).at_ j x hj2) (fun j k sj sk v hjk hj hk oj ok vj => by
      have tr : ∀ (j : Nat) (sj : Sl), (ρ.set i (.mg a (oN C dx ns) ds'))[j]? = some sj → sj.own = true → ∃ sj', ρ[j]? = some sj' ∧ sj'.own = true := fun j sj hj oj => by
        by_cases hij : i = j
        · subst hij
          exact ⟨_, hi, rfl⟩
        · rw [List.getElem?_set_ne hij] at hj
          exact ⟨sj, hj, oj⟩
      obtain ⟨sj', hj', oj'⟩ := tr j sj hj oj
      obtain ⟨sk', hk', ok'⟩ := tr k sk hk ok
      exact en.sep j k sj' sk' v hjk hj' hk' oj' ok' vj)
/-! ### __init__ -/
def spI (K : PySem.W.Frag) (C : Addr) (Ci : List Dat → Except Value (List Dat) → Prop) : Sp := fun vs H Q E => ∃ B a dx vs' as r, vs = V.ref a :: vs' ∧ Cov B H ∧ B a = true ∧ H a = some (.ins C dx []) ∧ RpA K (mask B H) vs' as ∧ Ci as r ∧
  match r with
  | .ok ds' => ∀ H', (∀ b o, b ≠ a → H b = some o → H' b = some o) → Ok1 K B H' a C dx fldN ds' → Q .non H'
  | .error c => ∀ H', (∀ b o, b ≠ a → H b = some o → H' b = some o) → E c none H'
def C_init (IF : Addr) : List Dat → Except Value (List Dat) → Prop := fun as r => (∃ d, as = [d] ∧ okV d ∧ isForm d = false ∧ r = .error (.ref IF)) ∨ ∃ f : Fm, as = [F_ f] ∧ isFm f = true ∧ r = .ok (stD f [] [])
structure FnI (P : Program) (w : World) (K : PySem.W.Frag) (mg : Str → Option Value) (base : Heap) (C : Addr) (Ci : List Dat → Except Value (List Dat) → Prop) (k : Nat) : Prop where
  ex : ∃ f fd, FnOk P w K mg base (L2N.CX P w) k f fd ["self", "formation"] (spI K C Ci) ∧ Mk K C f ∧ Binds K fd ["self", "formation"] []
def outI (a : Addr) (C dx : Addr) (r : Except Value (List Dat)) : Out → Prop
  | .nx ρ => ∃ ds', r = .ok ds' ∧ ρ[0]? = some (.mg a (oN C dx fldN) ds')
  | .er c => r = .error c
  | _ => False
section
variable {P : Program} {w : World} {K : PySem.W.Frag} {mg : Str → Option Value} {base : Heap} {C IF : Addr}
theorem sc_init : FnScope ["self", "formation"] ["self", "formation"] (defScope (mthS 0)) := ⟨rfl, rfl, rfl, by decide +kernel, rfl, by decide +kernel, by decide +kernel⟩
theorem c_init (R : DrC K C) (G1 : FnC P w K mg base "need_formation" ["formation"] (C_needf IF) 2) {f : Addr} {fd : FuncData} (F : Fun K "__init__" "Drill.__init__" (mthS 0) f fd) (M : Mk K C f) : FnI P w K mg base C (C_init IF) 3 := by
  refine ⟨f, fd, ?_, M, F.binds fun _ _ _ _ _ _ us hl => match us, hl with | [_, _], _ => rfl⟩
  refine okN F sc_init (fun vs H Q E h => ?_) (fun cdv A outer s H vs Q E hr h => ?_)
  · obtain ⟨B, a, dx, vs', as, r, rfl, _, _, _, ra, hc, _⟩ := h
    rw [List.length_cons, ra.length]
    rcases hc with ⟨d, e, _⟩ | ⟨d, e, _⟩ <;> rw [e] <;> rfl
  · obtain ⟨B, a, dx, vs', as, r, rfl, cv, hb, hu, ra, hc, q⟩ := h
    have nd := sc_init.nd
    have hw : Wr ⟨H, B, fun b => decide (b = a), fun _ => none, fun _ => True, fun _ _ _ _ => True.intro, cv, fun _ => false, fun _ => true⟩ a := ⟨fun m => by simp at m, rfl⟩
    have body : SS (cxOf (L2N.CX P w) P w K mg base ["self", "formation"] "Drill.__init__" (defScope (mthS 0)) f cdv A outer s H E) E ⟨H, B, fun b => decide (b = a), fun _ => none, fun _ => True, fun _ _ _ _ => True.intro, cv, fun _ => false, fun _ => true⟩ (defBody (mthS 0)) (startM ["self", "formation"] (.mg a (oN C dx []) []) as) (outI a C dx r) := by
      rcases hc with ⟨d, e, hd, h1, er⟩ | ⟨g, e, hg, er⟩
      · subst e er
        exact ss_cons (s_exprE (d_call G1 (hr.mono (by decide)) pa_cx (da_one (dv 1 rfl)) ⟨d, rfl, hd, by rw [h1]; rfl⟩) rfl)
      · subst e er
        refine ss_cons (s_expr (d := .non) (d_call G1 (hr.mono (by decide)) pa_cx (da_one (dv 1 rfl)) ⟨_, rfl, okV_F hg, by rw [isForm_F, hg]; rfl⟩) ?_)
        refine ss_cons (s_fldN 0 (ns := []) (d := F_ g) rfl hw (pv 0) (dv 1 rfl) R.cl R.n0 (by simp) rfl (by decide) ?_)
        refine ss_cons (s_fldN 0 (ns := ["now"]) (d := .lst []) rfl hw (pv 0) (d_lst da_nil (by simp)) R.cl R.n1 (by decide +kernel) rfl (by decide) ?_)
        refine ss_one (s_fldN 0 (ns := ["now", "earlier"]) (d := .lst []) rfl hw (pv 0) (d_lst da_nil (by simp)) R.cl R.n2 (by decide +kernel) rfl (by decide) ?_)
        exact ⟨_, rfl, rfl⟩
    refine ⟨_, body, B, ⟨fun a o _ h => h, fun _ h => h, cv, fun a o h => (by cases h), True.intro, fun b hbd => (by cases hbd), fun _ _ _ _ => rfl⟩, ?_, ?_⟩
    · have e := envR_start (N := ["formation"]) ra
      have e2 := e.cons (s := .mg a (oN C dx []) []) (o := some (.ref a)) ⟨rfl, hb, [], hu, oN_tbl, .nil⟩ startρ_own
      have z : L2.start ["self", "formation"] (.ref a :: vs') = some (V.ref a) :: L2.start ["formation"] vs' := by
        show some (V.ref a) :: (vs'.map some ++ List.replicate (2 - (vs'.length + 1)) none) = some (V.ref a) :: (vs'.map some ++ List.replicate (1 - vs'.length) none)
        rw [show 2 - (vs'.length + 1) = 1 - vs'.length by omega]
      rw [z]
      exact e2
    · have old : ∀ {H' : Hp} {B' : Addr → Bool}, Wd ⟨H, B, fun b => decide (b = a), fun _ => none, fun _ => True, fun _ _ _ _ => True.intro, cv, fun _ => false, fun _ => true⟩ B' H' → ∀ b o, b ≠ a → H b = some o → H' b = some o := fun w b o ne h => w.old b o (decide_eq_false ne) h
      refine ⟨fun ρ σ H' B' e w en => ?_, fun d v H' B' e w r' => e.elim, fun c H' B' e w => ?_, fun ρ σ H' B' e w en => e.elim, fun ρ σ H' B' e w en => e.elim, fun ρ σ d v H' B' e w en r' => e.elim, fun ρ σ c H' B' e w en => e.elim⟩
      · obtain ⟨ds', e1, e2⟩ := e
        subst e1
        obtain ⟨_, _, us', h3, h4⟩ := en.mg e2
        exact q H' (old w) ⟨us', h3, h4.mono (mask_le w.b0)⟩
      · have e : r = .error c := e
        subst e
        exact q H' (old w)
end
section
variable {X : Cx} {E : XK} {W : Wl} {ρ : List Sl} {P : Out → Prop}
theorem mk_sub {B : Addr → Bool} {H1 : Hp} {x dx C : Addr} (nx : H1 x = none) (nd : H1 dx = none) : Same (mask B H1) (mask (fun b => B b || decide (b = x)) (upd (upd H1 dx (.own x)) x (.ins C dx []))) := fun b o h => by
  obtain ⟨h1, h2⟩ := mask_some h
  have n1 : b ≠ x := ne_of_none h2 nx
  have n2 : b ≠ dx := ne_of_none h2 nd
  rw [mask_out (by rw [h1, decide_eq_false n1]; rfl), upd_ne n1, upd_ne n2]
  exact h2
theorem mk_cov {B : Addr → Bool} {H1 : Hp} {x dx C : Addr} (c : Cov B H1) (nx : H1 x = none) (nd : H1 dx = none) (ne : dx ≠ x) : Cov (fun b => B b || decide (b = x)) (upd (upd H1 dx (.own x)) x (.ins C dx [])) := fun b hb n => by
  by_cases e : b = x
  · rw [e, upd_same] at n
    rcases n with n | ⟨_, n⟩ <;> cases n
  · have hb : (B b || decide (b = x)) = true := hb
    rw [decide_eq_false e, Bool.or_false] at hb
    rw [upd_ne e] at n
    by_cases e2 : b = dx
    · rw [e2] at hb
      exact c dx hb (.inl nd)
    · rw [upd_ne e2] at n
      exact c b hb n
/-- C(e), refused -/
theorem d_makeE {Ci : List Dat → Except Value (List Dat) → Prop} {k : Nat} {x : Str} {C : Addr} {e : Expr} {as : List Dat} {c : Value} {p pos : Pos} (F : FnI X.prog X.w X.K X.mg X.base C Ci k) (hr : Room (k + 1) X.A) (hm : X.mg x = some (.ref C)) (hp : Passes (L2N.CX X.prog X.w) X E) (ha : DA X E [e] ρ (.ok as)) (hc : Ci as (.error c))
    (hg : Gl X x := by rfl) (hdb : (x == ("__debug__" : Str)) = false := by decide) (he : starEach [e] X.env = (false, eval e X.env) :: starEach [] X.env := by rfl) : D X E (.Call (.Name x p) [e] [] pos) ρ (.err c) := by
  obtain ⟨f, fd, h1, h2, h3⟩ := F.ex
  refine D.ofR (pe_make h2 h1 hr hg hm h3 .nil hp ha hdb he rfl) fun B σ H Q cv en q => ⟨B, cv, en, fun vs H1 s1 rs y dx ny nd ne => ?_⟩
  rw [List.append_nil]
  refine ⟨_, y, dx, vs, as, .error c, rfl, mk_cov (cv.same s1) ny nd ne, by simp, upd_same, rs.mono (mk_sub ny nd), hc, fun H' hp => q H' fun b o h => ?_⟩
  have h' := s1 _ _ h
  have n1 : b ≠ y := ne_of_none h' ny
  have n2 : b ≠ dx := ne_of_none h' nd
  exact hp b o n1 (by rw [upd_ne n1, upd_ne n2]; exact h')
/-- x, y, z = C(e), [], [] -/
theorem s_drill {i j l : Nat} {Ci : List Dat → Except Value (List Dat) → Prop} {k : Nat} {x : Str} {C : Addr} {e tg : Expr} {as ds' : List Dat} {p pos p1 p2 pt pos2 : Pos} {kt : Nat} (hi : i < ρ.length) (hg : PG X tg (gTup X.K 3 (gCons (gName i) (gCons (gName j) (gCons (gName l) gNil))))) (F : FnI X.prog X.w X.K X.mg X.base C Ci k) (hr : Room (k + 1) X.A) (hm : X.mg x = some (.ref C)) (hp : Passes (L2N.CX X.prog X.w) X E) (ha : DA X E [e] ρ (.ok as)) (hc : Ci as (.ok ds'))
    (q : ∀ a dx, Wr W a → P (.nx (((ρ.set i (.mg a (oN C dx fldN) ds')).set j (.dt (.lst []))).set l (.dt (.lst [])))))
    (h2 : ∀ {te : TE} {g : TG}, PE X (.Tuple [.Call (.Name x p) [e] [] pos, .List [] p1, .List [] p2] kt pt) te → PG X tg g → PS X (.Assign [tg] (.Tuple [.Call (.Name x p) [e] [] pos, .List [] p1, .List [] p2] kt pt) pos2) (tAsg te g))
    (hgl : Gl X x := by rfl) (hdb : (x == ("__debug__" : Str)) = false := by decide) (he : starEach [e] X.env = (false, eval e X.env) :: starEach [] X.env := by rfl) (hs1 : starEach [.Call (.Name x p) [e] [] pos, .List [] p1, .List [] p2] X.env = (false, eval (.Call (.Name x p) [e] [] pos) X.env) :: starEach [.List [] p1, .List [] p2] X.env := by rfl) (hs2 : starEach [.List [] p1, .List [] p2] X.env = (false, eval (.List [] p1) X.env) :: starEach [.List [] p2] X.env := by rfl) (hs3 : starEach [.List [] p2] X.env = (false, eval (.List [] p2) X.env) :: starEach [] X.env := by rfl) :
    S1 X E W (.Assign [tg] (.Tuple [.Call (.Name x p) [e] [] pos, .List [] p1, .List [] p2] kt pt) pos2) ρ P := by
  obtain ⟨f, fd, g1, g2, g3⟩ := F.ex
  refine ps_imp (h2 (pe_tup (pa_cons (pe_make g2 g1 hr hgl hm g3 .nil hp ha hdb he rfl) (pa_cons (pe_lst pa_nil) (pa_cons (pe_lst pa_nil) pa_nil hs3) hs2) hs1)) hg) fun D σ H ⟨B, w, en, pp⟩ => ?_
  refine ⟨B, w.cov, en, fun vs H1 s1 rs y dx ny nd ne => ?_⟩
  rw [List.append_nil]
  have w1 := w.same s1
  have e1 := en.same s1
  have wy := w1.new ny
  have sdx : Same H1 (upd H1 dx (.own y)) := same_upd nd
  have ny2 : (upd H1 dx (.own y)) y = none := by rw [upd_ne (Ne.symm ne)]; exact ny
  have w3 := (w1.same sdx).own (o := .ins C dx []) ny2 rfl
  have e3 := (e1.same sdx).own (o := .ins C dx []) (s := .mg y (oN C dx []) []) (w1.same sdx).cov ny2 i ⟨rfl, by simp, [], upd_same, oN_tbl, .nil⟩
  refine ⟨_, y, dx, vs, as, .ok ds', rfl, mk_cov w1.cov ny nd ne, by simp, upd_same, rs.mono (mk_sub ny nd), hc, fun H2 hp2 hok => ⟨rfl, ?_⟩⟩
  obtain ⟨w4, e4⟩ := own_step0 (o0 := oN C dx []) w3 e3 (by rw [List.getElem?_set_self hi]) (fun _ => rfl) wy hp2 hok
  rw [List.set_set] at e4
  refine ⟨Nat.zero_le _, fun q1 n1 => ⟨Nat.zero_le _, fun q2 n2 => ⟨by show 3 ≤ sizeLine; decide, fun q3 n3 => ?_⟩⟩⟩
  have sa : Same H2 (upd H2 q1 (.lst [])) := same_upd n1
  have sb : Same (upd H2 q1 (.lst [])) (upd (upd H2 q1 (.lst [])) q2 (.lst [])) := same_upd n2
  have sc : Same (upd (upd H2 q1 (.lst [])) q2 (.lst [])) (upd (upd (upd H2 q1 (.lst [])) q2 (.lst [])) q3 (.tup [.ref y, .ref q1, .ref q2])) := same_upd n3
  refine ⟨q3, _, rfl, SqT.of upd_same, rfl, _, _, rfl, _, _, rfl, _, _, rfl, rfl, ?_⟩
  refine pp.nx _ _ _ _ (q y dx wy) (w4.same ((sa.trans sb).trans sc)) ((((e4.same ((sa.trans sb).trans sc)).setD j ?_)).setD l ?_)
  · refine .lst ?_ .nil
    rw [mask_out (w4.cov.new n1)]
    exact (sb.trans sc) _ _ upd_same
  · refine .lst ?_ .nil
    rw [mask_out ((w4.cov.same sa).new n2)]
    exact sc _ _ upd_same
end
/-! ### worlds of defs that make lambdas -/
def isTb : Option HO → Bool
  | some (.tbl _) => true
  | _ => false
theorem wsm_gen {T : List (Addr × Str)} {W : Wl} (hM : ∀ b o, W.M b = false → W.H0 b = some o → ∀ ps, o ≠ .tbl ps) (hI : ∀ H, Tabs T H → W.Iv H) (hI2 : ∀ H, W.Iv H → Tabs T H) (hT : ∀ b, W.tT b = true → b ∈ tbs T) : WSm T W := by
  refine ⟨fun {B H H1} w e hT1 => ?_, fun w => hI2 _ w.iv⟩
  have isT : ∀ o : HO, (∃ ps, o = .tbl ps) ∨ ∀ ps, o ≠ .tbl ps := fun o => by
    cases o with
    | tbl ps => exact .inl ⟨ps, rfl⟩
    | _ => exact .inr fun _ z => by cases z
  refine ⟨fun a o m h => e _ _ (w.old a o m h) (hM a o m h), w.b0, fun a hb n => ?_, w.fr.trans (mask_sm e), hI _ hT1, fun a h => ?_, fun a ps hb h => ?_⟩
  · cases q : H a with
    | none => exact w.cov a hb (.inl q)
    | some o =>
      rcases isT o with ⟨ps, rfl⟩ | z
      · obtain ⟨p, hp, rfl⟩ := List.mem_map.mp (hT a (w.tb a ps hb q))
        obtain ⟨ps', h, _⟩ := hT1 p hp
        rw [h] at n
        rcases n with n | ⟨_, n⟩ <;> cases n
      · rw [e _ _ q z] at n
        exact w.cov a hb (by rw [q]; exact n)
  · obtain ⟨h1, c, n, h2⟩ := w.di a h
    exact ⟨h1, c, n, e _ _ h2 fun _ z => by cases z⟩
  · cases q : H a with
    | none => exact absurd (Or.inl q) (w.cov a hb)
    | some o =>
      rcases isT o with ⟨ps', rfl⟩ | z
      · exact w.tb a ps' hb q
      · rw [e _ _ q z] at h
        exact absurd (Option.some.inj h) (z ps)
def WM (T : List (Addr × Str)) (H : Hp) (B M0 dc : Addr → Bool) (cv : Cov B H) : Wl :=
  ⟨H, B, fun b => M0 b || isTb (H b), fun _ => none, Tabs T, fun H H' k h p hp => (by
    obtain ⟨ps, h1, h2, h3⟩ := h p hp
    exact ⟨ps, k _ _ h1 rfl, h2, fun pos cv hc => let ⟨c, e, h⟩ := h3 pos cv hc; ⟨c, e, k _ _ h rfl⟩⟩), cv, dc, fun b => decide (b ∈ tbs T)⟩
theorem wsm_WM {T : List (Addr × Str)} {H : Hp} {B M0 dc : Addr → Bool} {cv : Cov B H} : WSm T (WM T H B M0 dc cv) :=
  wsm_gen (fun b o m h ps z => by
    have m : (M0 b || isTb (H b)) = false := m
    have h : H b = some o := h
    rw [h, z, Bool.or_eq_false_iff] at m
    cases m.2) (fun _ h => h) (fun _ h => h) fun b h => of_decide_eq_true h
theorem WM_old {T : List (Addr × Str)} {H H' : Hp} {B B' M0 dc : Addr → Bool} {cv : Cov B H} (w : Wd (WM T H B M0 dc cv) B' H') {b : Addr} {o : HO} (hm : M0 b = false) (h : H b = some o) (n : ∀ ps, o ≠ .tbl ps) : H' b = some o := by
  refine w.old b o ?_ h
  show (M0 b || isTb (H b)) = false
  rw [hm, h]
  cases o <;> first | rfl | exact absurd rfl (n _)
end G

set_option Elab.async false
set_option linter.all false
set_option maxRecDepth 100000
set_option maxHeartbeats 4000000
namespace G
open PySem PySem.Spec PyProof.Rows L2 TL LamX L2H HotX
structure WS2 (T : List (Addr × Str)) (W : Wl) : Prop extends WSm T W where
  own : ∀ {B : Addr → Bool} {H : Hp}, Wd W B H → ∀ p ∈ tbs T, B p = true
  tb : ∀ {B : Addr → Bool} {H : Hp}, Wd W B H → ∀ b ps, B b = true → H b = some (.tbl ps) → b ∈ tbs T
theorem ws2_WT {T : List (Addr × Str)} {fr : Hp} {dc : Addr → Bool} : WS2 T (WT T fr dc) := ⟨wsm_WT, fun w p hp => w.b0 p (decide_eq_true hp), fun w b ps hb h => of_decide_eq_true (w.tb b ps hb h)⟩
theorem ws2_WM {T : List (Addr × Str)} {H : Hp} {B M0 dc : Addr → Bool} {cv : Cov B H} (h : ∀ p ∈ tbs T, B p = true) : WS2 T (WM T H B M0 dc cv) := ⟨wsm_WM, fun w p hp => w.b0 p (h p hp), fun w b ps hb h => of_decide_eq_true (w.tb b ps hb h)⟩
/-! ### _law_done -/
def nOrder : List Nat := [111, 114, 100, 101, 114]
def nUndo : List Nat := [117, 110, 100, 111]
def nRedo : List Nat := [114, 101, 100, 111]
inductive C_ldone : List Dat → List Dat → Dat → List Dat → Prop
  | ordN (f : Fm) (e u : List Fm) (os : List Nat) : isFm f = true → isOrd (.str os) = true → aftF f os = none → C_ldone (stD f e u) [.str nOrder, .str os] (errD (kinds.getD 5 [])) (stD f e u)
  | ord (f : Fm) (e u : List Fm) (os : List Nat) (g : Fm) : isFm f = true → isOrd (.str os) = true → aftF f os = some g → e.length ≤ 1000 → C_ldone (stD f e u) [.str nOrder, .str os] (F_ g) (stD g (e ++ [f]) [])
  | undN (f : Fm) (u : List Fm) (os : List Nat) : C_ldone (stD f [] u) [.str nUndo, .str os] (errD (kinds.getD 8 [])) (stD f [] u)
  | und (f g : Fm) (e u : List Fm) (os : List Nat) : isFm g = true → (∀ k ∈ e, isFm k = true) → u.length ≤ 1000 → C_ldone (stD f (e ++ [g]) u) [.str nUndo, .str os] (F_ g) (stD g e (u ++ [f]))
  | redN (f : Fm) (e : List Fm) (os : List Nat) : C_ldone (stD f e []) [.str nRedo, .str os] (errD (kinds.getD 8 [])) (stD f e [])
  | red (f g : Fm) (e u : List Fm) (os : List Nat) : isFm g = true → (∀ k ∈ u, isFm k = true) → e.length ≤ 1000 → C_ldone (stD f e (u ++ [g])) [.str nRedo, .str os] (F_ g) (stD g (e ++ [f]) u)
def spMT (K : PySem.W.Frag) (T : List (Addr × Str)) (C : Addr) (Cm : List Dat → List Dat → Dat → List Dat → Prop) : Sp := fun vs H Q _ => ∃ B a dx ds vs' as d ds', vs = V.ref a :: vs' ∧ Cov B H ∧ B a = true ∧ Ok1 K B H a C dx fldN ds ∧ RpA K (mask B H) vs' as ∧ Tabs T H ∧ (∀ p ∈ tbs T, B p = true) ∧ (∀ b ps, B b = true → H b = some (.tbl ps) → b ∈ tbs T) ∧ Cm ds as d ds' ∧
  ∀ v H', (∀ b o, b ≠ a → H b = some o → (∀ ps, o ≠ .tbl ps) → H' b = some o) → Tabs T H' → Ok1 K B H' a C dx fldN ds' → Rp K (mask B H') v d → Q v H'
structure FnMT (P : Program) (w : World) (K : PySem.W.Frag) (mg : Str → Option Value) (base : Heap) (x : Str) (ps : List Str) (T : List (Addr × Str)) (C : Addr) (Cm : List Dat → List Dat → Dat → List Dat → Prop) (k : Nat) : Prop where
  ex : ∃ f fd, FnOk P w K mg base (L2N.CX P w) k f fd ps (spMT K T C Cm) ∧ mg x = some (.ref f) ∧ PySem.W.keepIn K (.ref f) = true ∧ Binds K fd ps []
abbrev qLamD : Str := (envOfC "_law_done" (defScope s__law_done) 0 0 .none).qual ++ "<lambda>"
abbrev N_ld : List Str := ["drill", "name", "orders"]
theorem sc_ldone : FnScope N_ld ["drill", "name", "orders"] (defScope s__law_done) := ⟨rfl, rfl, rfl, by decide +kernel, rfl, by decide +kernel, by decide +kernel⟩
def outD (a : Addr) (o : List V → HO) (d : Dat) (ds' : List Dat) : Out → Prop
  | .re ρ d' => d' = d ∧ ρ[0]? = some (.mg a o ds')
  | _ => False
section
variable {P : Program} {w : World} {K : PySem.W.Frag} {mg : Str → Option Value} {base : Heap} {C IF IO IM NU : Addr}
theorem c_ldone {T : List (Addr × Str)} {cs : List Addr} {CS f c0 Pd gT ft : Addr} {oc : Value} {od an : Option Addr} {osl : Array (Option Value)} {kV doc pm ct : Value} (B0 : Bi mg) (R : DrC K C) (Er : Errs K mg cs CS) (TF : ToldF K mg gT CS ft) (TM : TermOk P w K mg base ft 1 (Known cs)) (TB : TabB base mg c0 Pd) (hmT : (Pd, qLamD) ∈ T) (huT : ∀ p ∈ T, p.1 = Pd → p.2 = qLamD)
    (G1 : FnM P w K mg base C fldN "order" ["self", "orders"] (C_order IO (cs.getD 5 0)) 5) (G2 : FnM P w K mg base C fldN "undo" ["self"] (C_undo' (cs.getD 8 0)) 1) (G3 : FnM P w K mg base C fldN "redo" ["self"] (C_redo (cs.getD 8 0)) 1)
    (l : K.lookup f = some ⟨oc, od, .func (PySem.W.fnOf "_law_done" "_law_done" (defArgs s__law_done) (defBody s__law_done) (defScope s__law_done) .none kV doc pm an (.ref c0) ct), osl⟩) (hcd : PySem.W.codeIn K (.ref c0) "_law_done" = true) (hk : PySem.W.keepIn K (.ref f) = true) (hg : mg "_law_done" = some (.ref f)) : FnMT P w K mg base "_law_done" ["drill", "name", "orders"] T C C_ldone 8 := by
  have kn5 : Known cs (cs.getD 5 0) (kinds.getD 5 []) := ⟨5, by decide, rfl, rfl⟩
  obtain ⟨_, _, x5⟩ := Er.x (i := 5) (by decide)
  have kn8 : Known cs (cs.getD 8 0) (kinds.getD 8 []) := ⟨8, by decide, rfl, rfl⟩
  obtain ⟨_, _, x8⟩ := Er.x (i := 8) (by decide)
  refine ⟨f, _, fn_of l hcd sc_ldone (fun vs H Q E h => ?_) (fun A outer s H vs Q E hr h => ?_), hg, hk, (fun_mk (st := s__law_done) l hcd hk).binds fun _ _ _ _ _ _ us hl => match us, hl with | [_, _, _], _ => rfl⟩
  · obtain ⟨B, a, dx, ds, vs', as, d, ds', rfl, _, _, _, ra, _, _, _, hc, _⟩ := h
    rw [List.length_cons, ra.length]
    cases hc <;> rfl
  · obtain ⟨B, a, dx, ds, vs', as, d, ds', rfl, cv, hb, ⟨us, hu, hru⟩, ra, hT, hT1, hT2, hc, q⟩ := h
    have hw : Wr (WM T H B (fun b => decide (b = a)) (fun _ => false) cv) a := ⟨fun m => by
      have m : (decide (a = a) || isTb (H a)) = false := m
      simp at m, rfl⟩
    have nd := sc_ldone.nd
    have body : SS (cxOf (L2N.CX P w) P w K mg base N_ld "_law_done" (defScope s__law_done) f (.ref c0) A outer s H E) E (WM T H B (fun b => decide (b = a)) (fun _ => false) cv) (defBody s__law_done) (startM N_ld (.mg a (oN C dx fldN) ds) as) (outD a (oN C dx fldN) d ds') := by
      cases hc with
      | ordN f1 e u os hf ho hn =>
        refine ss_cons (s_if (b := true) (G.T.is (t_eq hr.units (dv 1 rfl) (d_str (l := nOrder) rfl) rfl rfl) rfl) (fun _ => ss_one (s_retDX (S := fun r ρ' => r = .ok (errD (kinds.getD 5 [])) ∧ ρ'[0]? = some (.mg a (oN C dx fldN) (stD f1 e u))) (dx_told (k := 5) (kt := 1) (S := fun r ρ' => r = .err (.ref (cs.getD 5 0)) ∧ ρ'[0]? = some (.mg a (oN C dx fldN) (stD f1 e u))) wsm_WM TF TM TB rfl hmT huT hr (by decide) (fun A outer s H E f c' hr2 => dx_meth 0 G1 (hr2.mono (by decide)) pa_lam R.cl rfl hw (pv 0) (da_one (dv 2 rfl)) (by decide +kernel) (.imp f1 e u os hf ho hn) ⟨rfl, rfl⟩) (fun d ρ' h => by cases h.1) (fun c ρ' h => ⟨_, _, (Res.err.inj h.1), kn5, x5, rfl, h.2⟩) (L := lamS_by (sc := defScope s__law_done) (by decide +kernel))) (fun d ρ' h => ⟨Res.ok.inj h.1, h.2⟩) (fun c ρ' h => by cases h.1))) (fun h => by cases h))
      | ord f1 e u os g1 hf ho hn hl =>
        refine ss_cons (s_if (b := true) (G.T.is (t_eq hr.units (dv 1 rfl) (d_str (l := nOrder) rfl) rfl rfl) rfl) (fun _ => ss_one (s_retDX (S := fun r ρ' => r = .ok (F_ g1) ∧ ρ'[0]? = some (.mg a (oN C dx fldN) (stD g1 (e ++ [f1]) []))) (dx_told (k := 5) (kt := 1) (S := fun r ρ' => r = .ok (F_ g1) ∧ ρ'[0]? = some (.mg a (oN C dx fldN) (stD g1 (e ++ [f1]) []))) wsm_WM TF TM TB rfl hmT huT hr (by decide) (fun A outer s H E f c' hr2 => dx_meth 0 G1 (hr2.mono (by decide)) pa_lam R.cl rfl hw (pv 0) (da_one (dv 2 rfl)) (by decide +kernel) (.ok f1 e u os g1 hf ho hn hl) ⟨rfl, rfl⟩) (fun d ρ' h => h) (fun c ρ' h => by cases h.1) (L := lamS_by (sc := defScope s__law_done) (by decide +kernel))) (fun d ρ' h => ⟨Res.ok.inj h.1, h.2⟩) (fun c ρ' h => by cases h.1))) (fun h => by cases h))
      | undN f1 u os =>
        refine ss_cons (s_if (b := false) (G.T.is (t_eq hr.units (dv 1 rfl) (d_str (l := nOrder) rfl) rfl rfl) rfl) (fun h => by cases h) (fun _ => ss_nil ?_))
        refine ss_cons (s_if (b := true) (G.T.is (t_eq hr.units (dv 1 rfl) (d_str (l := nUndo) rfl) rfl rfl) rfl) (fun _ => ss_one (s_retDX (S := fun r ρ' => r = .ok (errD (kinds.getD 8 [])) ∧ ρ'[0]? = some (.mg a (oN C dx fldN) (stD f1 [] u))) (dx_told (k := 5) (kt := 1) (S := fun r ρ' => r = .err (.ref (cs.getD 8 0)) ∧ ρ'[0]? = some (.mg a (oN C dx fldN) (stD f1 [] u))) wsm_WM TF TM TB rfl hmT huT hr (by decide) (fun A outer s H E f c' hr2 => dx_meth0 0 G2 (hr2.mono (by decide)) pa_lam R.cl rfl hw (pv 0) (by decide +kernel) (.no f1 u) ⟨rfl, rfl⟩) (fun d ρ' h => by cases h.1) (fun c ρ' h => ⟨_, _, (Res.err.inj h.1), kn8, x8, rfl, h.2⟩) (L := lamS_by (sc := defScope s__law_done) (by decide +kernel))) (fun d ρ' h => ⟨Res.ok.inj h.1, h.2⟩) (fun c ρ' h => by cases h.1))) (fun h => by cases h))
      | und f1 g1 e u os hg he hl =>
        refine ss_cons (s_if (b := false) (G.T.is (t_eq hr.units (dv 1 rfl) (d_str (l := nOrder) rfl) rfl rfl) rfl) (fun h => by cases h) (fun _ => ss_nil ?_))
        refine ss_cons (s_if (b := true) (G.T.is (t_eq hr.units (dv 1 rfl) (d_str (l := nUndo) rfl) rfl rfl) rfl) (fun _ => ss_one (s_retDX (S := fun r ρ' => r = .ok (F_ g1) ∧ ρ'[0]? = some (.mg a (oN C dx fldN) (stD g1 e (u ++ [f1])))) (dx_told (k := 5) (kt := 1) (S := fun r ρ' => r = .ok (F_ g1) ∧ ρ'[0]? = some (.mg a (oN C dx fldN) (stD g1 e (u ++ [f1])))) wsm_WM TF TM TB rfl hmT huT hr (by decide) (fun A outer s H E f c' hr2 => dx_meth0 0 G2 (hr2.mono (by decide)) pa_lam R.cl rfl hw (pv 0) (by decide +kernel) (.ok f1 g1 e u hg he hl) ⟨rfl, rfl⟩) (fun d ρ' h => h) (fun c ρ' h => by cases h.1) (L := lamS_by (sc := defScope s__law_done) (by decide +kernel))) (fun d ρ' h => ⟨Res.ok.inj h.1, h.2⟩) (fun c ρ' h => by cases h.1))) (fun h => by cases h))
      | redN f1 e os =>
        refine ss_cons (s_if (b := false) (G.T.is (t_eq hr.units (dv 1 rfl) (d_str (l := nOrder) rfl) rfl rfl) rfl) (fun h => by cases h) (fun _ => ss_nil ?_))
        refine ss_cons (s_if (b := false) (G.T.is (t_eq hr.units (dv 1 rfl) (d_str (l := nUndo) rfl) rfl rfl) rfl) (fun h => by cases h) (fun _ => ss_nil ?_))
        exact ss_one (s_retDX (S := fun r ρ' => r = .ok (errD (kinds.getD 8 [])) ∧ ρ'[0]? = some (.mg a (oN C dx fldN) (stD f1 e []))) (dx_told (k := 5) (kt := 1) (S := fun r ρ' => r = .err (.ref (cs.getD 8 0)) ∧ ρ'[0]? = some (.mg a (oN C dx fldN) (stD f1 e []))) wsm_WM TF TM TB rfl hmT huT hr (by decide) (fun A outer s H E f c' hr2 => dx_meth0 0 G3 (hr2.mono (by decide)) pa_lam R.cl rfl hw (pv 0) (by decide +kernel) (.no f1 e) ⟨rfl, rfl⟩) (fun d ρ' h => by cases h.1) (fun c ρ' h => ⟨_, _, (Res.err.inj h.1), kn8, x8, rfl, h.2⟩) (L := lamS_by (sc := defScope s__law_done) (by decide +kernel))) (fun d ρ' h => ⟨Res.ok.inj h.1, h.2⟩) (fun c ρ' h => by cases h.1))
      | red f1 g1 e u os hg hu2 hl =>
        refine ss_cons (s_if (b := false) (G.T.is (t_eq hr.units (dv 1 rfl) (d_str (l := nOrder) rfl) rfl rfl) rfl) (fun h => by cases h) (fun _ => ss_nil ?_))
        refine ss_cons (s_if (b := false) (G.T.is (t_eq hr.units (dv 1 rfl) (d_str (l := nUndo) rfl) rfl rfl) rfl) (fun h => by cases h) (fun _ => ss_nil ?_))
        exact ss_one (s_retDX (S := fun r ρ' => r = .ok (F_ g1) ∧ ρ'[0]? = some (.mg a (oN C dx fldN) (stD g1 (e ++ [f1]) u))) (dx_told (k := 5) (kt := 1) (S := fun r ρ' => r = .ok (F_ g1) ∧ ρ'[0]? = some (.mg a (oN C dx fldN) (stD g1 (e ++ [f1]) u))) wsm_WM TF TM TB rfl hmT huT hr (by decide) (fun A outer s H E f c' hr2 => dx_meth0 0 G3 (hr2.mono (by decide)) pa_lam R.cl rfl hw (pv 0) (by decide +kernel) (.ok f1 g1 e u hg hu2 hl) ⟨rfl, rfl⟩) (fun d ρ' h => h) (fun c ρ' h => by cases h.1) (L := lamS_by (sc := defScope s__law_done) (by decide +kernel))) (fun d ρ' h => ⟨Res.ok.inj h.1, h.2⟩) (fun c ρ' h => by cases h.1))
    refine ⟨_, body, B, ⟨fun a o _ h => h, fun _ h => h, cv, fun a o h => (by cases h), hT, fun b hbd => (by cases hbd), fun b ps hb h => decide_eq_true (hT2 b ps hb h)⟩, ?_, ?_⟩
    · have e := envR_start (N := N_ld.drop 1) ra
      have e2 := e.cons (s := .mg a (oN C dx fldN) ds) (o := some (.ref a)) ⟨rfl, hb, us, hu, oN_tbl, hru⟩ startρ_own
      have z : L2.start N_ld (.ref a :: vs') = some (V.ref a) :: L2.start (N_ld.drop 1) vs' := by
        show some (V.ref a) :: (vs'.map some ++ List.replicate (3 - (vs'.length + 1)) none) = some (V.ref a) :: (vs'.map some ++ List.replicate (2 - vs'.length) none)
        rw [show 3 - (vs'.length + 1) = 2 - vs'.length by omega]
      rw [z]
      exact e2
    · refine ⟨fun ρ σ H' B' e w en => e.elim, fun d v H' B' e w r' => e.elim, fun c H' B' e w => e.elim, fun ρ σ H' B' e w en => e.elim, fun ρ σ H' B' e w en => e.elim, fun ρ σ d' v H' B' e w en r' => ?_, fun ρ σ c H' B' e w en => e.elim⟩
      obtain ⟨e1, e2⟩ := e
      subst e1
      obtain ⟨_, _, us', h3, h4⟩ := en.mg e2
      exact q v H' (fun b o ne h n => WM_old w (decide_eq_false ne) h n) w.iv ⟨us', h3, h4.mono (mask_le w.b0)⟩ (r'.mono (mask_le w.b0))
end
theorem dx_callMT {X : Cx} {E : XK} {W : Wl} {ρ : List Sl} {S : Res → List Sl → Prop} {T : List (Addr × Str)} (i : Nat) {x dn : Str} {ps : List Str} {a C dx : Addr} {Cm : List Dat → List Dat → Dat → List Dat → Prop} {k : Nat} {es : List Expr} {ds as ds' : List Dat} {d : Dat} {p pd pos : Pos} (hW : WS2 T W) (F : FnMT X.prog X.w X.K X.mg X.base x ps T C Cm k) (hr : Room k X.A) (hi : ρ[i]? = some (.mg a (oN C dx fldN) ds)) (hw : Wr W a) (hx : PE X (.Name dn pd) (tVar i)) (ha : DA X E0 es ρ (.ok as)) (hc : Cm ds as d ds') (hS : S (.ok d) (ρ.set i (.mg a (oN C dx fldN) ds')))
    (hg : Gl X x := by rfl) (hdb : (x == ("__debug__" : Str)) = false := by decide) (he : starEach (.Name dn pd :: es) X.env = (false, eval (.Name dn pd) X.env) :: starEach es X.env := by rfl) (hpl : (backTo pos (starEach es X.env)).any (·.1) = false := by rfl) : DX X E W (.Call (.Name x p) (.Name dn pd :: es) [] pos) ρ S := by
  obtain ⟨f, fd, h1, h2, h3, h4⟩ := F.ex
  refine pe_imp (pe_callS (E := fun _ => E0) h1 hr hg h2 h3 h4 (fun σ pins H s e s' I c => passN pins σ H s e s' I c) (pa_cons hx ha he) hdb he hpl) fun σ H Q ⟨B, w, en, q1, _⟩ => ?_
  obtain ⟨e1, hb, us, h3, h4⟩ := en.mg hi
  refine ⟨_, e1, B, w.cov, en, fun vs H1 s1 rs => ⟨B, a, dx, ds, vs, as, d, ds', rfl, w.cov.same s1, hb, ⟨us, s1 _ _ h3, h4.mono (mask_same s1)⟩, rs, hW.tabs (w.same s1), hW.own (w.same s1), hW.tb (w.same s1), hc, fun v H' hp hT hok rv => ?_⟩⟩
  obtain ⟨w', en', m'⟩ := own_stepG (T := T) hW.sm (w.same s1) (en.same s1) hi (fun _ => rfl) hw hp hT hok
  exact q1 v H' B d _ hS w' en' ((Sm.of (mask_same s1)).trans m') rv
end G

set_option Elab.async false
set_option linter.all false
set_option maxRecDepth 100000
set_option maxHeartbeats 4000000
namespace G
open PySem PySem.Spec PyProof.Rows L2 TL LamX L2H HotX
/-! ### _law_turn -/
structure Gd (n : Nat) (f : Fm) (e u : List Fm) : Prop where
  mf : isFm f = true
  me : ∀ g ∈ e, isFm g = true
  mu : ∀ g ∈ u, isFm g = true
  le : e.length ≤ n
  lu : u.length ≤ n
theorem mem_snoc {e : List Fm} {f : Fm} (h : ∀ g ∈ e, isFm g = true) (hf : isFm f = true) : ∀ g ∈ e ++ [f], isFm g = true := fun g hg => (List.mem_append.mp hg).elim (h g) fun z => by rw [List.mem_singleton.mp z]; exact hf
theorem len_snoc (e : List Fm) (f : Fm) : (e ++ [f]).length = e.length + 1 := by rw [List.length_append]; rfl
theorem Gd.more {n : Nat} {f : Fm} {e u : List Fm} (h : Gd n f e u) : Gd (n + 1) f e u := ⟨h.mf, h.me, h.mu, Nat.le_succ_of_le h.le, Nat.le_succ_of_le h.lu⟩
theorem Gd.ord {n : Nat} {f g : Fm} {e u : List Fm} (h : Gd n f e u) (hg : isFm g = true) : Gd (n + 1) g (e ++ [f]) [] := ⟨hg, mem_snoc h.me h.mf, (fun _ z => (by cases z)), (by rw [len_snoc]; exact Nat.succ_le_succ h.le), Nat.zero_le _⟩
theorem Gd.und {n : Nat} {f g : Fm} {e u : List Fm} (h : Gd n f (e ++ [g]) u) : Gd (n + 1) g e (u ++ [f]) := ⟨h.me g (by simp), (fun k hk => h.me k (List.mem_append_left _ hk)), mem_snoc h.mu h.mf, (by have := h.le; rw [len_snoc] at this; omega), (by rw [len_snoc]; exact Nat.succ_le_succ h.lu)⟩
theorem Gd.red {n : Nat} {f g : Fm} {e u : List Fm} (h : Gd n f e (u ++ [g])) : Gd (n + 1) g (e ++ [f]) u := ⟨h.mu g (by simp), mem_snoc h.me h.mf, (fun k hk => h.mu k (List.mem_append_left _ hk)), (by rw [len_snoc]; exact Nat.succ_le_succ h.le), (by have := h.lu; rw [len_snoc] at this; omega)⟩
theorem snoc_cases {α : Type} (l : List α) : l = [] ∨ ∃ r x, l = r ++ [x] := by
  rcases List.eq_nil_or_concat l with h | ⟨r, x, h⟩
  · exact .inl h
  · exact .inr ⟨r, x, by simpa using h⟩
theorem opt_cs {α : Type} (o : Option α) : o = none ∨ ∃ p, o = some p := by cases o <;> simp
def spTn (K : PySem.W.Frag) (T : List (Addr × Str)) (C : Addr) : Sp := fun vs H Q _ => ∃ B a1 a2 dx n f e u vs', vs = V.ref a1 :: V.ref a2 :: vs' ∧ a1 ≠ a2 ∧ Cov B H ∧ B a1 = true ∧ B a2 = true ∧ (∃ c n, H a1 = some (.lst [.int c, .int n])) ∧ Ok1 K B H a2 C dx fldN (stD f e u) ∧ RpA K (mask B H) vs' (stD f e u) ∧ Gd n f e u ∧ n ≤ 900 ∧ Tabs T H ∧ (∀ p ∈ tbs T, B p = true) ∧ (∀ b ps, B b = true → H b = some (.tbl ps) → b ∈ tbs T) ∧
  ∀ v H' made f' e' u', okn 9 made = true → Gd (n + 1) f' e' u' → (∀ b o, b ≠ a1 → b ≠ a2 → H b = some o → (∀ ps, o ≠ .tbl ps) → H' b = some o) → (∃ c n, H' a1 = some (.lst [.int c, .int n])) → Tabs T H' → Ok1 K B H' a2 C dx fldN (stD f' e' u') → Rp K (mask B H') v (.tup (made :: made :: stD f' e' u')) → Q v H'
structure FnT (P : Program) (w : World) (K : PySem.W.Frag) (mg : Str → Option Value) (base : Heap) (T : List (Addr × Str)) (C : Addr) (k : Nat) : Prop where
  ex : ∃ f fd, FnOk P w K mg base (L2N.CX P w) k f fd ["dice", "drill", "formation", "earlier", "undone"] (spTn K T C) ∧ mg "_law_turn" = some (.ref f) ∧ PySem.W.keepIn K (.ref f) = true ∧ Binds K fd ["dice", "drill", "formation", "earlier", "undone"] []
theorem EnvR.consO {K : PySem.W.Frag} {B : Addr → Bool} {H : Hp} {σ : L2.St} {ρ : List Sl} {s : Sl} {o : Option V} (e : EnvR K B H σ ρ) (h : SlOk K B H s o) (hno : ∀ (j : Nat) (sj : Sl) (v : V), ρ[j]? = some sj → sj.own = true → σ[j]? = some (some v) → o ≠ some v) : EnvR K B H (o :: σ) (s :: ρ) := by
  refine ⟨by rw [List.length_cons, List.length_cons, e.len], fun i x hx => ?_, fun i j si sj v hij hi hj oi oj vi => ?_⟩
  · cases i with
    | zero =>
      have hx := Option.some.inj hx
      subst hx
      exact ⟨o, rfl, h⟩
    | succ i => exact e.at_ i x hx
  · cases i with
    | zero =>
      cases j with
      | zero => exact absurd rfl hij
      | succ j =>
        have vi : o = some v := Option.some.inj vi
        intro z
        exact hno j sj v hj oj z vi
    | succ i =>
      cases j with
      | zero =>
        intro z
        have z : o = some v := Option.some.inj z
        exact hno i si v hi oi vi z
      | succ j => exact e.sep i j si sj v (fun z => hij (by rw [z])) hi hj oi oj vi
abbrev N_lt : List Str := ["dice", "drill", "formation", "earlier", "undone", "name", "orders", "made", "behind", "rest"]
theorem sc_lturn : FnScope N_lt ["dice", "drill", "formation", "earlier", "undone"] (defScope s__law_turn) := ⟨rfl, rfl, rfl, by decide +kernel, rfl, by decide +kernel, by decide +kernel⟩
def outT (a2 : Addr) (o : List V → HO) (n : Nat) : Out → Prop
  | .re ρ d => ∃ made f' e' u', d = .tup (made :: made :: stD f' e' u') ∧ ρ[1]? = some (.mg a2 o (stD f' e' u')) ∧ okn 9 made = true ∧ Gd (n + 1) f' e' u'
  | _ => False
section
variable {P : Program} {w : World} {K : PySem.W.Frag} {mg : Str → Option Value} {base : Heap} {C : Addr}
theorem c_lturn {T : List (Addr × Str)} (B0 : Bi mg) (R : DrC K C) (G1 : FnD P w K mg base "_law_roll" ["dice", "many"] C_roll 2) (G2 : FnD P w K mg base "_law_any_orders" ["dice", "many"] C_anyo 3) (G3 : FnMT P w K mg base "_law_done" ["drill", "name", "orders"] T C C_ldone 8) (G4 : FnC P w K mg base "_law_led" ["formation", "orders"] C_lled 2) (h : At K mg "_law_turn" s__law_turn) : FnT P w K mg base T C 9 := by
  obtain ⟨f, fd, F, hg⟩ := h
  refine ⟨f, fd, okN F sc_lturn (fun vs H Q E h => ?_) (fun cdv A outer s H vs Q E hr h => ?_), hg, F.kp, F.binds fun _ _ _ _ _ _ us hl => match us, hl with | [_, _, _, _, _], _ => rfl⟩
  · obtain ⟨B, a1, a2, dx, n, f, e, u, vs', rfl, _, _, _, _, _, _, ra, _⟩ := h
    rw [List.length_cons, List.length_cons, ra.length]
    rfl
  · obtain ⟨B, a1, a2, dx, n, f1, e, u, vs', rfl, ne, cv, hb1, hb2, hdi, ⟨us, hu, hru⟩, ra, gd, hn, hT, hT1, hT2, q⟩ := h
    have hM1 : ∀ b, (decide (b = a1) || decide (b = a2)) = false → b ≠ a1 ∧ b ≠ a2 := fun b h => by
      rw [Bool.or_eq_false_iff] at h
      exact ⟨of_decide_eq_false h.1, of_decide_eq_false h.2⟩
    have hd1 : Dw (WM T H B (fun b => decide (b = a1) || decide (b = a2)) (fun b => decide (b = a1)) cv) a1 := fun m => by
      have m : ((decide (a1 = a1) || decide (a1 = a2)) || isTb (H a1)) = false := m
      simp at m
    have hw : Wr (WM T H B (fun b => decide (b = a1) || decide (b = a2)) (fun b => decide (b = a1)) cv) a2 := ⟨fun m => by
      have m : ((decide (a2 = a1) || decide (a2 = a2)) || isTb (H a2)) = false := m
      simp at m, decide_eq_false (Ne.symm ne)⟩
    have ws : WS2 T (WM T H B (fun b => decide (b = a1) || decide (b = a2)) (fun b => decide (b = a1)) cv) := ws2_WM hT1
    have nd := sc_lturn.nd
    have le := gd.le
    have lu := gd.lu
    have body : SS (cxOf (L2N.CX P w) P w K mg base N_lt "_law_turn" (defScope s__law_turn) f cdv A outer s H E) E (WM T H B (fun b => decide (b = a1) || decide (b = a2)) (fun b => decide (b = a1)) cv) (defBody s__law_turn) [.di a1, .mg a2 (oN C dx fldN) (stD f1 e u), .dt (F_ f1), .dt (.lst (e.map F_)), .dt (.lst (u.map F_)), .un, .un, .un, .un, .un] (outT a2 (oN C dx fldN) n) := by
      refine ss_cons (s_setDE 5 nd (de_pick (m := 7) (xs := [.str nOrder, .str nOrder, .str nOrder, .str nUndo, .str nUndo, .str nRedo, .str nRedo]) (de_pure (E := E0) (d_lst (da_cons (d_str (l := nOrder) rfl) (da_cons (d_str (l := nOrder) rfl) (da_cons (d_str (l := nOrder) rfl) (da_cons (d_str (l := nUndo) rfl) (da_cons (d_str (l := nUndo) rfl) (da_cons (d_str (l := nRedo) rfl) (da_one (d_str (l := nRedo) rfl)))))))) (by decide)) rfl) (de_call (i := 0) G1 (hr.mono (by decide)) rfl hd1 (pv 0) (da_one d_int) ⟨7, rfl, by decide, by decide, rfl⟩) rfl) ?_)
      intro d hd
      refine ss_cons (s_setDE 6 nd (de_call (i := 0) G2 (hr.mono (by decide)) rfl hd1 (pv 0) (da_one d_int) ⟨3, rfl, by decide, rfl⟩) ?_)
      rintro d2 ⟨os, rfl, ho, hom⟩
      obtain ⟨o20, osig, oT⟩ := isOrd_str ho
      have hnm : d = .str nOrder ∨ d = .str nUndo ∨ d = .str nRedo := by
        simp only [List.mem_cons, List.not_mem_nil, or_false] at hd
        rcases hd with h | h | h | h | h | h | h
        · exact .inl h
        · exact .inl h
        · exact .inl h
        · exact .inr (.inl h)
        · exact .inr (.inl h)
        · exact .inr (.inr h)
        · exact .inr (.inr h)
      rcases hnm with rfl | rfl | rfl
      · -- order
        rcases opt_cs (aftF f1 os) with hq | ⟨g1, hq⟩
        · refine ss_cons (s_setDX 7 nd (S := fun r ρ' => r = .ok (errD (kinds.getD 5 [])) ∧ ρ' = [.di a1, .mg a2 (oN C dx fldN) (stD f1 e u), .dt (F_ f1), .dt (.lst (e.map F_)), .dt (.lst (u.map F_)), .dt (.str nOrder), .dt (.str os), .un, .un, .un]) (dx_callMT 1 ws G3 (hr.mono (by decide)) rfl hw (pv 1) (da_cons (dv 5 rfl) (da_one (dv 6 rfl))) (.ordN f1 e u os gd.mf ho hq) ⟨rfl, rfl⟩) (fun d ρ' h => ?_) (fun c ρ' h => by cases h.1))
          obtain ⟨e1, e2⟩ := h
          cases e1
          subst e2
          refine ss_cons (s_if (b := true) (G.T.is (t_eq hr.units (dv 5 rfl) (d_str (l := nOrder) rfl) rfl rfl) rfl) (fun _ => ?_) (fun h => by cases h))
          refine ss_cons (s_set 8 nd (d := .non) (d_call G4 (hr.mono (by decide)) pa_cx (da_cons (dv 2 rfl) (da_one (dv 6 rfl))) ⟨f1, os, rfl, gd.mf, by omega, osig, by rw [hq]; rfl⟩) ?_)
          refine ss_cons (s_if (b := true) (G.T.is (t_isN (dv 8 rfl)) rfl) (fun _ => ss_one (s_retE2 (d_tup (da_cons (dv 7 rfl) (da_cons (d_tup (da_cons (d_str (l := errC) rfl) (da_one (d_str (l := kinds.getD 5 []) rfl))) (by simp)) (da_cons (dv 2 rfl) (da_cons (dv 3 rfl) (da_one (dv 4 rfl)))))) (by simp)) ?_)) (fun h => by cases h))
          exact ⟨_, f1, e, u, rfl, rfl, okn_err (kinds_ok 5 (by decide)), gd.more⟩
        · refine ss_cons (s_setDX 7 nd (S := fun r ρ' => r = .ok (F_ g1) ∧ ρ' = [.di a1, .mg a2 (oN C dx fldN) (stD g1 (e ++ [f1]) []), .dt (F_ f1), .dt (.lst (e.map F_)), .dt (.lst (u.map F_)), .dt (.str nOrder), .dt (.str os), .un, .un, .un]) (dx_callMT 1 ws G3 (hr.mono (by decide)) rfl hw (pv 1) (da_cons (dv 5 rfl) (da_one (dv 6 rfl))) (.ord f1 e u os g1 gd.mf ho hq (by omega)) ⟨rfl, rfl⟩) (fun d ρ' h => ?_) (fun c ρ' h => by cases h.1))
          obtain ⟨e1, e2⟩ := h
          cases e1
          subst e2
          have hg1 := aft_isFm gd.mf hq
          refine ss_cons (s_if (b := true) (G.T.is (t_eq hr.units (dv 5 rfl) (d_str (l := nOrder) rfl) rfl rfl) rfl) (fun _ => ?_) (fun h => by cases h))
          refine ss_cons (s_set 8 nd (d := F_ g1) (d_call G4 (hr.mono (by decide)) pa_cx (da_cons (dv 2 rfl) (da_one (dv 6 rfl))) ⟨f1, os, rfl, gd.mf, by omega, osig, by rw [hq]; rfl⟩) ?_)
          refine ss_cons (s_if (b := false) (G.T.is (t_isN (dv 8 rfl)) rfl) (fun h => by cases h) (fun _ => ss_nil ?_))
          refine ss_one (s_retE2 (d_tup (da_cons (dv 7 rfl) (da_cons (dv 8 rfl) (da_cons (dv 8 rfl) (da_cons (d_addL (dv 3 rfl) (d_lst (da_one (dv 2 rfl)) (by simp)) (by rw [List.length_map]; show e.length + 1 ≤ _; omega)) (da_one (d_lst da_nil (by simp))))))) (by simp)) ?_)
          exact ⟨F_ g1, g1, e ++ [f1], [], (by unfold stD; rw [map_snoc]; try rfl), rfl, okF hg1, gd.ord hg1⟩
      · -- nUndo
        have hml : ∀ g ∈ e, isFm g = true := gd.me
        rcases snoc_cases e with rfl | ⟨e0, g1, rfl⟩
        · refine ss_cons (s_setDX 7 nd (S := fun r ρ' => r = .ok (errD (kinds.getD 8 [])) ∧ ρ' = [.di a1, .mg a2 (oN C dx fldN) (stD f1 [] u), .dt (F_ f1), .dt (.lst ([].map F_)), .dt (.lst (u.map F_)), .dt (.str nUndo), .dt (.str os), .un, .un, .un]) (dx_callMT 1 ws G3 (hr.mono (by decide)) rfl hw (pv 1) (da_cons (dv 5 rfl) (da_one (dv 6 rfl))) (.undN f1 u os) ⟨rfl, rfl⟩) (fun d ρ' h => ?_) (fun c ρ' h => by cases h.1))
          obtain ⟨e1, e2⟩ := h
          cases e1
          subst e2
          refine ss_cons (s_if (b := false) (G.T.is (t_eq hr.units (dv 5 rfl) (d_str (l := nOrder) rfl) rfl rfl) rfl) (fun h => by cases h) (fun _ => ss_nil ?_))
          refine ss_cons (s_set 9 nd (d := .lst []) (d_if (G.T.is (t_eq hr.units (dv 5 rfl) (d_str (l := nUndo) rfl) rfl rfl) rfl) (fun _ => dv 3 rfl) (fun h => by cases h)) ?_)
          refine ss_cons (s_if (b := true) (G.T.is (t_eq hr.units (dv 9 rfl) (d_lst da_nil (by simp)) rfl rfl) rfl) (fun _ => ss_one (s_retE2 (d_tup (da_cons (dv 7 rfl) (da_cons (d_tup (da_cons (d_str (l := errC) rfl) (da_one (d_str (l := kinds.getD 8 []) rfl))) (by simp)) (da_cons (dv 2 rfl) (da_cons (dv 3 rfl) (da_one (dv 4 rfl)))))) (by simp)) ?_)) (fun h => by cases h))
          exact ⟨_, f1, [], u, rfl, rfl, okn_err (kinds_ok 8 (by decide)), gd.more⟩
        · have hg1 : isFm g1 = true := hml g1 (by simp)
          have hm0 : ∀ k ∈ e0, isFm k = true := fun k hk => hml k (List.mem_append_left _ hk)
          refine ss_cons (s_setDX 7 nd (S := fun r ρ' => r = .ok (F_ g1) ∧ ρ' = [.di a1, .mg a2 (oN C dx fldN) (stD g1 e0 (u ++ [f1])), .dt (F_ f1), .dt (.lst ((e0 ++ [g1]).map F_)), .dt (.lst (u.map F_)), .dt (.str nUndo), .dt (.str os), .un, .un, .un]) (dx_callMT 1 ws G3 (hr.mono (by decide)) rfl hw (pv 1) (da_cons (dv 5 rfl) (da_one (dv 6 rfl))) (.und f1 g1 e0 u os hg1 hm0 (by omega)) ⟨rfl, rfl⟩) (fun d ρ' h => ?_) (fun c ρ' h => by cases h.1))
          obtain ⟨e1, e2⟩ := h
          cases e1
          subst e2
          refine ss_cons (s_if (b := false) (G.T.is (t_eq hr.units (dv 5 rfl) (d_str (l := nOrder) rfl) rfl rfl) rfl) (fun h => by cases h) (fun _ => ss_nil ?_))
          refine ss_cons (s_set 9 nd (d := .lst ((e0 ++ [g1]).map F_)) (d_if (G.T.is (t_eq hr.units (dv 5 rfl) (d_str (l := nUndo) rfl) rfl rfl) rfl) (fun _ => dv 3 rfl) (fun h => by cases h)) ?_)
          refine ss_cons (s_if (b := false) (G.T.is (t_eq hr.units (dv 9 rfl) (d_lst da_nil (by simp)) (okL hml) rfl) (by cases e0 <;> rfl)) (fun h => by cases h) (fun _ => ss_nil ?_))
          refine ss_cons (s_if (b := true) (G.T.is (t_eq hr.units (dv 5 rfl) (d_str (l := nUndo) rfl) rfl rfl) rfl) (fun _ => ss_one (s_retE2 (d_tup (da_cons (dv 7 rfl) (da_cons (d_ixL (dv 9 rfl) (d_neg d_int) (by rw [map_snoc]; exact at_last _ _)) (da_cons (d_ixL (dv 9 rfl) (d_neg d_int) (by rw [map_snoc]; exact at_last _ _)) (da_cons ((d_slL (dv 3 rfl) do_none (do_some (d_neg d_int))).is (show _ = Dat.lst (e0.map F_) by rw [map_snoc]; exact congrArg Dat.lst (cut_last _ _))) (da_one (d_addL (dv 4 rfl) (d_lst (da_one (dv 2 rfl)) (by simp)) (by rw [List.length_map]; show u.length + 1 ≤ _; omega))))))) (by simp)) ?_)) (fun h => by cases h))
          exact ⟨F_ g1, g1, e0, u ++ [f1], (by unfold stD; rw [map_snoc]; try rfl), rfl, okF hg1, gd.und⟩
      · -- nRedo
        have hml : ∀ g ∈ u, isFm g = true := gd.mu
        rcases snoc_cases u with rfl | ⟨u0, g1, rfl⟩
        · refine ss_cons (s_setDX 7 nd (S := fun r ρ' => r = .ok (errD (kinds.getD 8 [])) ∧ ρ' = [.di a1, .mg a2 (oN C dx fldN) (stD f1 e []), .dt (F_ f1), .dt (.lst (e.map F_)), .dt (.lst ([].map F_)), .dt (.str nRedo), .dt (.str os), .un, .un, .un]) (dx_callMT 1 ws G3 (hr.mono (by decide)) rfl hw (pv 1) (da_cons (dv 5 rfl) (da_one (dv 6 rfl))) (.redN f1 e os) ⟨rfl, rfl⟩) (fun d ρ' h => ?_) (fun c ρ' h => by cases h.1))
          obtain ⟨e1, e2⟩ := h
          cases e1
          subst e2
          refine ss_cons (s_if (b := false) (G.T.is (t_eq hr.units (dv 5 rfl) (d_str (l := nOrder) rfl) rfl rfl) rfl) (fun h => by cases h) (fun _ => ss_nil ?_))
          refine ss_cons (s_set 9 nd (d := .lst []) (d_if (G.T.is (t_eq hr.units (dv 5 rfl) (d_str (l := nUndo) rfl) rfl rfl) rfl) (fun h => by cases h) (fun _ => dv 4 rfl)) ?_)
          refine ss_cons (s_if (b := true) (G.T.is (t_eq hr.units (dv 9 rfl) (d_lst da_nil (by simp)) rfl rfl) rfl) (fun _ => ss_one (s_retE2 (d_tup (da_cons (dv 7 rfl) (da_cons (d_tup (da_cons (d_str (l := errC) rfl) (da_one (d_str (l := kinds.getD 8 []) rfl))) (by simp)) (da_cons (dv 2 rfl) (da_cons (dv 3 rfl) (da_one (dv 4 rfl)))))) (by simp)) ?_)) (fun h => by cases h))
          exact ⟨_, f1, e, [], rfl, rfl, okn_err (kinds_ok 8 (by decide)), gd.more⟩
        · have hg1 : isFm g1 = true := hml g1 (by simp)
          have hm0 : ∀ k ∈ u0, isFm k = true := fun k hk => hml k (List.mem_append_left _ hk)
          refine ss_cons (s_setDX 7 nd (S := fun r ρ' => r = .ok (F_ g1) ∧ ρ' = [.di a1, .mg a2 (oN C dx fldN) (stD g1 (e ++ [f1]) u0), .dt (F_ f1), .dt (.lst (e.map F_)), .dt (.lst ((u0 ++ [g1]).map F_)), .dt (.str nRedo), .dt (.str os), .un, .un, .un]) (dx_callMT 1 ws G3 (hr.mono (by decide)) rfl hw (pv 1) (da_cons (dv 5 rfl) (da_one (dv 6 rfl))) (.red f1 g1 e u0 os hg1 hm0 (by omega)) ⟨rfl, rfl⟩) (fun d ρ' h => ?_) (fun c ρ' h => by cases h.1))
          obtain ⟨e1, e2⟩ := h
          cases e1
          subst e2
          refine ss_cons (s_if (b := false) (G.T.is (t_eq hr.units (dv 5 rfl) (d_str (l := nOrder) rfl) rfl rfl) rfl) (fun h => by cases h) (fun _ => ss_nil ?_))
          refine ss_cons (s_set 9 nd (d := .lst ((u0 ++ [g1]).map F_)) (d_if (G.T.is (t_eq hr.units (dv 5 rfl) (d_str (l := nUndo) rfl) rfl rfl) rfl) (fun h => by cases h) (fun _ => dv 4 rfl)) ?_)
          refine ss_cons (s_if (b := false) (G.T.is (t_eq hr.units (dv 9 rfl) (d_lst da_nil (by simp)) (okL hml) rfl) (by cases u0 <;> rfl)) (fun h => by cases h) (fun _ => ss_nil ?_))
          refine ss_cons (s_if (b := false) (G.T.is (t_eq hr.units (dv 5 rfl) (d_str (l := nUndo) rfl) rfl rfl) rfl) (fun h => by cases h) (fun _ => ss_nil ?_))
          refine ss_one (s_retE2 (d_tup (da_cons (dv 7 rfl) (da_cons (d_ixL (dv 9 rfl) (d_neg d_int) (by rw [map_snoc]; exact at_last _ _)) (da_cons (d_ixL (dv 9 rfl) (d_neg d_int) (by rw [map_snoc]; exact at_last _ _)) (da_cons (d_addL (dv 3 rfl) (d_lst (da_one (dv 2 rfl)) (by simp)) (by rw [List.length_map]; show e.length + 1 ≤ _; omega)) (da_one ((d_slL (dv 4 rfl) do_none (do_some (d_neg d_int))).is (show _ = Dat.lst (u0.map F_) by rw [map_snoc]; exact congrArg Dat.lst (cut_last _ _)))))))) (by simp)) ?_)
          exact ⟨F_ g1, g1, e ++ [f1], u0, (by unfold stD; rw [map_snoc]; try rfl), rfl, okF hg1, gd.red⟩
    refine ⟨_, body, B, ⟨fun a o _ h => h, fun _ h => h, cv, fun a o h => (by cases h), hT, fun b hbd => ?_, fun b ps hb h => decide_eq_true (hT2 b ps hb h)⟩, ?_, ?_⟩
    · have z := of_decide_eq_true hbd
      subst z
      exact ⟨hb1, hdi⟩
    · have e0 := envR_start (N := N_lt.drop 2) ra
      have e2 := e0.cons (s := .mg a2 (oN C dx fldN) (stD f1 e u)) (o := some (.ref a2)) ⟨rfl, hb2, us, hu, oN_tbl, hru⟩ startρ_own
      have e3 := e2.consO (s := .di a1) (o := some (.ref a1)) ⟨rfl, hb1, hdi⟩ (fun j sj v hj oj vj z => by
        cases j with
        | zero =>
          have vj : some (V.ref a2) = some v := Option.some.inj vj
          rw [← vj] at z
          injection z with z
          injection z with z
          exact ne z
        | succ j =>
          have hj : (startρ (N_lt.drop 2) (stD f1 e u))[j]? = some sj := hj
          rw [startρ_own sj (List.mem_of_getElem? hj)] at oj
          cases oj)
      have lv : vs'.length = 3 := by rw [ra.length]; rfl
      have z : L2.start N_lt (.ref a1 :: .ref a2 :: vs') = some (V.ref a1) :: some (V.ref a2) :: L2.start (N_lt.drop 2) vs' := by
        show some (V.ref a1) :: some (V.ref a2) :: (vs'.map some ++ List.replicate (10 - (vs'.length + 1 + 1)) none) = some (V.ref a1) :: some (V.ref a2) :: (vs'.map some ++ List.replicate (8 - vs'.length) none)
        rw [lv]
      rw [z]
      exact e3
    · refine ⟨fun ρ σ H' B' e w en => e.elim, fun d v H' B' e w r' => e.elim, fun c H' B' e w => e.elim, fun ρ σ H' B' e w en => e.elim, fun ρ σ H' B' e w en => e.elim, fun ρ σ d' v H' B' ee w en r' => ?_, fun ρ σ c H' B' e w en => e.elim⟩
      obtain ⟨made, f', e', u', e1, e2, e3, e4⟩ := ee
      subst e1
      obtain ⟨_, _, us', h3, h4⟩ := en.mg e2
      refine q v H' made f' e' u' e3 e4 (fun b o n1 n2 h nt => WM_old w ?_ h nt) (w.di a1 (decide_eq_true rfl)).2 w.iv ⟨us', h3, h4.mono (mask_le w.b0)⟩ (r'.mono (mask_le w.b0))
      show (decide (b = a1) || decide (b = a2)) = false
      rw [decide_eq_false n1, decide_eq_false n2]
      rfl
end
end G

set_option Elab.async false
set_option linter.all false
set_option maxRecDepth 100000
set_option maxHeartbeats 4000000
namespace G
open PySem PySem.Spec PyProof.Rows L2 TL LamX L2H HotX
/-- the call of _law_turn -/
theorem dx_turn {X : Cx} {E : XK} {W : Wl} {ρ : List Sl} {S : Res → List Sl → Prop} {T : List (Addr × Str)} (i1 i2 : Nat) {y1 y2 : Str} {a1 a2 C dx : Addr} {k n : Nat} {es : List Expr} {f : Fm} {e u : List Fm} {p p1 p2 pos : Pos} (hW : WS2 T W) (F : FnT X.prog X.w X.K X.mg X.base T C k) (hr : Room k X.A) (hi1 : ρ[i1]? = some (.di a1)) (hi2 : ρ[i2]? = some (.mg a2 (oN C dx fldN) (stD f e u))) (hii : i1 ≠ i2) (hd : Dw W a1) (hw : Wr W a2) (hx1 : PE X (.Name y1 p1) (tVar i1)) (hx2 : PE X (.Name y2 p2) (tVar i2)) (ha : DA X E0 es ρ (.ok (stD f e u))) (gd : Gd n f e u) (hn : n ≤ 900)
    (hS : ∀ made f' e' u', okn 9 made = true → Gd (n + 1) f' e' u' → S (.ok (.tup (made :: made :: stD f' e' u'))) (ρ.set i2 (.mg a2 (oN C dx fldN) (stD f' e' u'))))
    (hg : Gl X "_law_turn" := by rfl) (he : starEach (.Name y1 p1 :: .Name y2 p2 :: es) X.env = (false, eval (.Name y1 p1) X.env) :: starEach (.Name y2 p2 :: es) X.env := by rfl) (he2 : starEach (.Name y2 p2 :: es) X.env = (false, eval (.Name y2 p2) X.env) :: starEach es X.env := by rfl) (hpl : (backTo pos (starEach (.Name y2 p2 :: es) X.env)).any (·.1) = false := by rfl) : DX X E W (.Call (.Name "_law_turn" p) (.Name y1 p1 :: .Name y2 p2 :: es) [] pos) ρ S := by
  obtain ⟨f0, fd, h1, h2, h3, h4⟩ := F.ex
  refine pe_imp (pe_callS (E := fun _ => E0) h1 hr hg h2 h3 h4 (fun σ pins H s e s' I c => passN pins σ H s e s' I c) (pa_cons hx1 (pa_cons hx2 ha he2) he) (by decide) he hpl) fun σ H Q ⟨B, w, en, q1, _⟩ => ?_
  obtain ⟨e1, hb1, c0, n0, h0⟩ := en.di hi1
  obtain ⟨e2, hb2, us, h3, h4⟩ := en.mg hi2
  have ne : a1 ≠ a2 := fun z => en.sep i1 i2 _ _ (.ref a1) hii hi1 hi2 rfl rfl e1 (by rw [z]; exact e2)
  refine ⟨_, e1, _, e2, B, w.cov, en, fun vs H1 s1 rs => ?_⟩
  refine ⟨B, a1, a2, dx, n, f, e, u, vs, rfl, ne, w.cov.same s1, hb1, hb2, ⟨c0, n0, s1 _ _ h0⟩, ⟨us, s1 _ _ h3, h4.mono (mask_same s1)⟩, rs, gd, hn, hW.tabs (w.same s1), hW.own (w.same s1), hW.tb (w.same s1), fun v H' made f' e' u' hmd hgd hp hdi hT hok rv => ?_⟩
  obtain ⟨c, m, hc⟩ := hdi
  obtain ⟨w2, en2, m2⟩ := dice_step (H' := upd H1 a1 (.lst [.int c, .int m])) (w.same s1) (en.same s1) hi1 hd (fun b o nb h => by rw [upd_ne nb]; exact h) ⟨c, m, upd_same⟩
  obtain ⟨w3, en3, m3⟩ := own_stepG (T := T) hW.sm w2 en2 hi2 (fun _ => rfl) hw (fun b o nb h nt => by
    by_cases z : b = a1
    · rw [z, upd_same] at h
      rw [z, hc, h]
    · rw [upd_ne z] at h
      exact hp b o z nb h nt) hT hok
  exact q1 v H' B _ _ (hS made f' e' u' hmd hgd) w3 en3 (((Sm.of (mask_same s1)).trans (Sm.of m2)).trans m3) rv
theorem rpA_five {K : PySem.W.Frag} {H : Hp} {vs : List V} {a b c d e : Dat} (h : RpA K H vs [a, b, c, d, e]) : ∃ va vb vc vd ve, vs = [va, vb, vc, vd, ve] ∧ Rp K H va a ∧ Rp K H vb b ∧ Rp K H vc c ∧ Rp K H vd d ∧ Rp K H ve e := by
  cases h with
  | cons h1 h =>
    cases h with
    | cons h2 h =>
      cases h with
      | cons h3 h =>
        cases h with
        | cons h4 h =>
          cases h with
          | cons h5 h =>
            cases h
            exact ⟨_, _, _, _, _, rfl, h1, h2, h3, h4, h5⟩
/-- a, b, c, d, e = x -/
theorem s_asg5 {X : Cx} {E : XK} {W : Wl} {ρ : List Sl} {P : Out → Prop} {S : Res → List Sl → Prop} {i1 i2 i3 i4 i5 : Nat} {e tg : Expr} {pos : Pos} (hg : PG X tg (gTup X.K 5 (gCons (gName i1) (gCons (gName i2) (gCons (gName i3) (gCons (gName i4) (gCons (gName i5) gNil))))))) (h : DX X E W e ρ S) (q : ∀ d ρ', S (.ok d) ρ' → ∃ x1 x2 x3 x4 x5, d = .tup [x1, x2, x3, x4, x5] ∧ P (.nx (((((ρ'.set i1 (.dt x1)).set i2 (.dt x2)).set i3 (.dt x3)).set i4 (.dt x4)).set i5 (.dt x5)))) (qe : ∀ c ρ', ¬ S (.err c) ρ')
    (h2 : ∀ {te : TE} {g : TG}, PE X e te → PG X tg g → PS X (.Assign [tg] e pos) (tAsg te g)) : S1 X E W (.Assign [tg] e pos) ρ P :=
  ps_imp (h2 h hg) fun D σ H ⟨B, w, en, p⟩ => ⟨B, w, en, fun v H' B' d ρ' hS w' en' m' r => by
    obtain ⟨x1, x2, x3, x4, x5, e, hP⟩ := q d ρ' hS
    subst e
    cases r with
    | @tup ad vs _ hs ra =>
      obtain ⟨v1, v2, v3, v4, v5, rfl, r1, r2, r3, r4, r5⟩ := rpA_five ra
      exact ⟨ad, _, rfl, sqt_mono (mask_sub B' H') (SqT.of hs), rfl, _, _, rfl, _, _, rfl, _, _, rfl, _, _, rfl, _, _, rfl, rfl, p.nx _ _ H' B' hP w' (((((en'.setD i1 r1).setD i2 r2).setD i3 r3).setD i4 r4).setD i5 r5)⟩, fun c H' B' ρ' hS => (qe c ρ' hS).elim⟩
/-- the start of a law with two tables -/
theorem end_lawT2 {K : PySem.W.Frag} {H : Hp} {a Pt Pd : Addr} {q q2 : Str} {ns : List Int} (hl : ns.length ≤ 63) (hT : H Pt = some (.tbl #[])) (hT2 : H Pd = some (.tbl #[])) (hS : SqL K H a (ns.map V.int)) : spL K [(Pt, q), (Pd, q2)] [.ref a] H (fun v _ => v = .bl true) fun _ _ _ => False := by
  have tb : ∀ b, (decide (b = Pt) || decide (b = Pd)) = true → H b = some (.tbl #[]) := fun b hb => by
    rcases Bool.or_eq_true_iff.mp hb with z | z
    · rw [of_decide_eq_true z]; exact hT
    · rw [of_decide_eq_true z]; exact hT2
  have out : ∀ (o : HO), H a = some o → (∀ ps, o ≠ .tbl ps) → mask (fun b => decide (b = Pt) || decide (b = Pd)) H a = some o := fun o h n => by
    rw [mask_out]
    · exact h
    · rw [Bool.eq_false_iff]
      intro z
      rw [tb a z] at h
      exact n _ (Option.some.inj h).symm
  refine ⟨fun b => decide (b = Pt) || decide (b = Pd), ns, fun b hb n => ?_, .cons (.scr ?_) .nil, by omega, fun p hp => ?_, fun b hb => ?_, fun b ps hb _ => ?_, fun _ => rfl⟩
  · rw [tb b hb] at n
    rcases n with n | ⟨_, n⟩ <;> cases n
  · rcases hS with (h | ⟨o, h⟩) | h
    · exact .inl (.inl (out _ h fun _ z => by cases z))
    · exact .inl (.inr ⟨o, out _ h fun _ z => by cases z⟩)
    · exact .inr h
  · rcases List.mem_cons.mp hp with z | z
    · rw [z]; exact TabS.nil hT
    · rw [List.mem_singleton.mp z]; exact TabS.nil hT2
  · rcases List.mem_cons.mp hb with z | z
    · show (decide (b = Pt) || decide (b = Pd)) = true
      rw [decide_eq_true z]
      rfl
    · show (decide (b = Pt) || decide (b = Pd)) = true
      rw [decide_eq_true (List.mem_singleton.mp z), Bool.or_true]
  · rcases Bool.or_eq_true_iff.mp hb with z | z
    · exact List.mem_cons.mpr (.inl (of_decide_eq_true z))
    · exact List.mem_cons.mpr (.inr (List.mem_singleton.mpr (of_decide_eq_true z)))
end G

set_option Elab.async false
set_option linter.all false
set_option maxRecDepth 100000
set_option maxHeartbeats 4000000
namespace G
open PySem PySem.Spec PyProof.Rows L2 TL LamX
abbrev N_law : List Str := ["script", "dice", "formation", "drill", "earlier", "undone", "turn", "made", "due", "bad"]
theorem sc_law : FnScope N_law ["script"] (defScope s_law) := ⟨rfl, rfl, rfl, by decide +kernel, rfl, by decide +kernel, by decide +kernel⟩
abbrev qLam : Str := (envOfC "law" (defScope s_law) 0 0 .none).qual ++ "<lambda>"
def badR : List Dat := [.non, .str [120], .str (repL [82] 21), .int 5, .tup [.str [82]]]
theorem badR_ok : ∀ x ∈ badR, okV x ∧ isOrd x = false := by
  intro x hx
  simp only [badR, List.mem_cons, List.not_mem_nil, or_false] at hx
  rcases hx with rfl | rfl | rfl | rfl | rfl <;> refine ⟨?_, ?_⟩ <;> first | rfl | decide | (simp [okV, okT, Dat.isD]; done) | exact True.intro | exact ⟨by decide, by decide⟩
theorem okV_abc : okV (F_ [[97, 98], [99]]) := by
  refine ⟨fun l hl => ?_, fun x hx => ?_⟩
  · have hl : Dat.str l ∈ [Dat.str [97, 98], Dat.str [99]] := hl
    rcases List.mem_cons.mp hl with h | h
    · injection h with h
      rw [h]
      exact ⟨by decide, by decide⟩
    · have h := List.mem_singleton.mp h
      injection h with h
      rw [h]
      exact ⟨by decide, by decide⟩
  · have hx : x ∈ [Dat.str [97, 98], Dat.str [99]] := hx
    rcases List.mem_cons.mp hx with h | h
    · rw [h]; rfl
    · rw [List.mem_singleton.mp h]; rfl
section
variable {P : Program} {w : World} {K : PySem.W.Frag} {mg : Str → Option Value} {base : Heap}
theorem ok_law {f c0 Pt gT ft CS : Addr} {cs : List Addr} {oc : Value} {od an : Option Addr} {osl : Array (Option Value)} {kV doc pm ct : Value} (B : Bi mg) (R : Errs K mg cs CS) (TF : ToldF K mg gT CS ft) (TM : TermOk P w K mg base ft 1 (Known cs)) (TB : TabB base mg c0 Pt) {C Pd : Addr} (DC : DrC K C) (mD : mg "Drill" = some (.ref C)) (hPP : Pt ≠ Pd) (GI : FnI P w K mg base C (C_init (cs.getD 0 0)) 3) (GO : FnM P w K mg base C fldN "order" ["self", "orders"] (C_order (cs.getD 1 0) (cs.getD 5 0)) 5) (GF : FnP P w K mg base C "formation" C_fmn 1) (GL : FnP P w K mg base C "__len__" C_len 1) (GT : FnT P w K mg base [(Pt, qLam), (Pd, qLamD)] C 9)
    (G__law_rounds : FnC P w K mg base "_law_rounds" ["script", "most"] C_rounds 2) (G__law_any_formation : FnD P w K mg base "_law_any_formation" ["dice", "size"] C_anyf 3)
    (l : K.lookup f = some ⟨oc, od, .func (PySem.W.fnOf "law" "law" (defArgs s_law) (defBody s_law) (defScope s_law) .none kV doc pm an (.ref c0) ct), osl⟩) (hcd : PySem.W.codeIn K (.ref c0) "law" = true) : FnOk P w K mg base (L2N.CX P w) 10 f (PySem.W.fnOf "law" "law" (defArgs s_law) (defBody s_law) (defScope s_law) .none kV doc pm an (.ref c0) ct) ["script"] (spL K [(Pt, qLam), (Pd, qLamD)]) := by
  refine fnL_okC l hcd sc_law fun A outer s H E ns hr hl => ?_
  have nd := sc_law.nd
  refine ss_cons (s_forDice (T := [(Pt, qLam), (Pd, qLamD)]) 1 po_cx nd rfl (d_call G__law_rounds (hr.mono (by decide)) passN (da_cons (dv 0 rfl) (da_one d_int)) ⟨ns, 3, rfl, hl, by decide, by decide, _, rfl, rfl⟩) (fun fr dc a hdc => ?_) (ss_one (s_ret d_bl rfl)))
  refine ss_cons (s_setDE 2 nd (de_call (i := 1) G__law_any_formation (hr.mono (by decide)) rfl dwT (pv 1) (da_one d_int) ⟨6, rfl, by decide, by decide, rfl⟩) ?_)
  rintro d ⟨g, rfl, hg⟩
  have kn0 : Known cs (cs.getD 0 0) (kinds.getD 0 []) := ⟨0, by decide, rfl, rfl⟩
  obtain ⟨_, _, x0⟩ := R.x (i := 0) (by decide)
  have kn1 : Known cs (cs.getD 1 0) (kinds.getD 1 []) := ⟨1, by decide, rfl, rfl⟩
  obtain ⟨_, _, x1⟩ := R.x (i := 1) (by decide)
  have hmT : (Pt, qLam) ∈ [(Pt, qLam), (Pd, qLamD)] := List.mem_cons_self
  have huT : ∀ p ∈ [(Pt, qLam), (Pd, qLamD)], p.1 = Pt → p.2 = qLam := fun p hp e => by
    rcases List.mem_cons.mp hp with z | z
    · rw [z]
    · rw [List.mem_singleton.mp z] at e
      exact absurd e.symm hPP
  obtain ⟨ff, ffd, gf1, gf2, gf3⟩ := GF.ex
  obtain ⟨fl, fld, gl1, gl2, gl3⟩ := GL.ex
  refine ss_cons (s_drill (i := 3) (j := 4) (l := 5) (show 3 < 10 by decide) (pg_tup rfl (pgs_cons (pg_name (i := 3) nd rfl (.inr rfl)) (pgs_cons (pg_name (i := 4) nd rfl (.inl rfl)) (pgs_cons (pg_name (i := 5) nd rfl (.inl rfl)) pgs_nil)))) GI (hr.mono (by decide)) mD pa_cx (da_one (dv 2 rfl)) (.inr ⟨g, rfl, hg, rfl⟩) (fun da dx hda => ?_) (fun a b => ps_asg a b))
  refine ss_cons (s_for (fun i ρ => ∃ f e u, Gd i f e u ∧ Wk ρ [.un, .di a, .dt (F_ f), .mg da (oN C dx fldN) (stD f e u), .dt (.lst (e.map F_)), .dt (.lst (u.map F_)), .un, .un, .un, .un]) po_cx (i_range1 B.range d_int ⟨by decide, by decide⟩) (gt_name (i := 6) nd) (fun _ _ => True.intro) ⟨g, [], [], ⟨hg, (fun _ z => (by cases z)), (fun _ z => (by cases z)), Nat.zero_le _, Nat.zero_le _⟩, ⟨.inl rfl, .inr rfl, .inr rfl, .inr rfl, .inr rfl, .inr rfl, .inl rfl, .inl rfl, .inl rfl, .inl rfl, True.intro⟩⟩ (fun fr i x ρ' hx hR => ?_) (fun ρ' hR => ?_))
  · obtain ⟨f1, e1, u1, gd, hwk⟩ := hR
    have hi16 : i < 16 := (rangeD_get (n := 16) hx).2
    refine SS.weak ?_ (hwk.set 6 _)
    refine ss_cons (s_asg5 (i1 := 7) (i2 := 8) (i3 := 2) (i4 := 4) (i5 := 5) (S := fun r ρ' => ∃ made f' e' u', okn 9 made = true ∧ Gd (i + 1) f' e' u' ∧ r = .ok (.tup (made :: made :: stD f' e' u')) ∧ ρ' = [.un, .di a, .dt (F_ f1), (.mg da (oN C dx fldN) (stD f' e' u')), .dt (.lst (e1.map F_)), .dt (.lst (u1.map F_)), .dt x, .un, .un, .un]) (pg_tup rfl (pgs_cons (pg_name (i := 7) nd rfl (.inl rfl)) (pgs_cons (pg_name (i := 8) nd rfl (.inl rfl)) (pgs_cons (pg_name (i := 2) nd rfl (.inl rfl)) (pgs_cons (pg_name (i := 4) nd rfl (.inl rfl)) (pgs_cons (pg_name (i := 5) nd rfl (.inl rfl)) pgs_nil)))))) (dx_turn 1 3 ws2_WT GT (hr.mono (by decide)) rfl rfl (by decide) dwT hda (pv 1) (pv 3) (da_cons (dv 2 rfl) (da_cons (dv 4 rfl) (da_one (dv 5 rfl)))) gd (by omega) (fun made f' e' u' h1 h2 => ⟨made, f', e', u', h1, h2, rfl, rfl⟩)) (fun d ρ' ⟨made, f', e', u', h1, h2, h3, h4⟩ => ?_) (fun c ρ' ⟨made, f', e', u', h1, h2, h3, h4⟩ => by cases h3) (fun a b => ps_asg a b))
    cases h3
    subst h4
    refine ⟨_, _, _, _, _, rfl, ?_⟩
    have okf := okF h2.mf
    have le := h2.le
    refine ss_one (s_if (b := false) (t_w (w_or (x := false) (y := false) (T.is (t_ne hr.units (dv 7 rfl) (dv 8 rfl) h1 h1) (no_ne rfl h1)) fun _ => w_or (x := false) (y := false) (T.is (t_ne hr.units (d_methP 3 (d := F_ f') gf1 gf2 gf3 (hr.mono (by decide)) passN DC.cl rfl (pv 3) (by decide +kernel) ⟨f', e', u', rfl, rfl⟩) (dv 2 rfl) okf okf) (no_ne rfl okf)) fun _ => w_or1 (T.is (int_ne hr.units (d_lenO 3 (n := e'.length) gl1 gl2 gl3 rfl (hr.mono (by decide)) B.len rfl (pv 3) (by omega) ⟨f', e', u', rfl, rfl⟩) (d_lenL B.len (dv 4 rfl))) (by rw [List.length_map, decide_eq_true rfl]; rfl)))) (fun h => by cases h) (fun _ => ss_nil ?_))
    exact ⟨f', e', u', h2, ⟨.inl rfl, .inr rfl, .inr rfl, .inr rfl, .inr rfl, .inr rfl, .inl rfl, .inl rfl, .inl rfl, .inl rfl, True.intro⟩⟩
  obtain ⟨f1, e1, u1, gd, hwk⟩ := hR
  have gd : Gd 16 f1 e1 u1 := gd
  have okf := okF gd.mf
  have le := gd.le
  refine SS.weak ?_ hwk
  refine ss_cons (s_forW (fun i => [.un, .di a, .dt (F_ f1), .mg da (oN C dx fldN) (stD f1 e1 u1), .dt (.lst (e1.map F_)), .dt (.lst (u1.map F_)), .un, .un, .un, .un]) po_cx (i_list (xs := badR) (D.is (d_lst (da_cons d_non (da_cons (d_str (l := [120]) rfl) (da_cons (d_mulS (d_str (l := [82]) rfl) d_int (by decide) (by decide) (by decide)) (da_cons d_int (da_one (d_tup (da_one (d_str (l := [82]) rfl)) (by first | (simp; done) | decide))))))) (by first | (simp; done) | decide)) rfl)) (gt_name (i := 9) nd) (fun x ρ ρ' h => h.set 9 _) (fun _ _ => True.intro) ⟨.inl rfl, .inr rfl, .inr rfl, .inr rfl, .inr rfl, .inr rfl, .inl rfl, .inl rfl, .inl rfl, .inl rfl, True.intro⟩ (fun fr i x hx => ?_) (fun ρ' hρ => ?_))
  · obtain ⟨kx, fx⟩ := badR_ok x (List.mem_of_getElem? hx)
    refine ss_one (s_ifXT (ρ1 := [.un, .di a, .dt (F_ f1), .mg da (oN C dx fldN) (stD f1 e1 u1), .dt (.lst (e1.map F_)), .dt (.lst (u1.map F_)), .un, .un, .un, .dt x]) (xt_is (xt_ne (x := errD (kinds.getD 1 [])) (y := errD (kinds.getD 1 [])) hr.units (dx_told (T := [(Pt, qLam), (Pd, qLamD)]) (k := 5) (kt := 1) (S := fun r ρ' => r = .err (.ref (cs.getD 1 0)) ∧ ρ' = [.un, .di a, .dt (F_ f1), .mg da (oN C dx fldN) (stD f1 e1 u1), .dt (.lst (e1.map F_)), .dt (.lst (u1.map F_)), .un, .un, .un, .dt x]) wsm_WT TF TM TB rfl hmT huT (hr.mono (by decide)) (by decide) (fun A outer s H E f c' hr2 => dx_meth 3 GO (hr2.mono (by decide)) pa_lam DC.cl rfl hda (pv 3) (da_one (dv 9 rfl)) (by decide +kernel) (.badO f1 e1 u1 x kx fx) ⟨rfl, rfl⟩) (fun d ρ' h => by cases h.1) (fun c ρ' h => ⟨_, _, (Res.err.inj h.1), kn1, x1, rfl, h.2⟩) (L := lamS_by (sc := defScope s_law) (by decide +kernel))) (d_tup (da_cons (d_str (l := errC) rfl) (da_one (d_str (l := kinds.getD 1 []) rfl))) (by simp)) (okn_err (kinds_ok 1 (by decide))) (okn_err (kinds_ok 1 (by decide)))) (by decide)) (ss_nil ?_))
    exact ⟨.inl rfl, .inr rfl, .inr rfl, .inr rfl, .inr rfl, .inr rfl, .inl rfl, .inl rfl, .inl rfl, .inl rfl, True.intro⟩
  refine SS.weak ?_ hρ
  refine ss_cons (s_ifDE (b := false) (TE1.is (te_ne (x := errD (kinds.getD 0 [])) (y := errD (kinds.getD 0 [])) hr.units (de_told (k := 5) (kt := 1) (L := lamS_by (sc := defScope s_law) (by decide +kernel)) (r := .err (.ref (cs.getD 0 0))) TF TM TB rfl hmT huT (hr.mono (by decide)) (by decide) (fun A outer s H E f c' hr2 => d_makeE GI (hr2.mono (by decide)) mD pa_lam (da_one (d_tup (da_cons (d_str (l := [97, 98]) rfl) (da_one (d_str (l := [99]) rfl))) (by simp))) (.inl ⟨_, rfl, okV_abc, by decide, rfl⟩)) ⟨_, _, rfl, kn0, x0, rfl⟩) (de_pure (E := E0) (d_tup (da_cons (d_str (l := errC) rfl) (da_one (d_str (l := kinds.getD 0 []) rfl))) (by simp)) rfl) (okn_err (kinds_ok 0 (by decide))) (okn_err (kinds_ok 0 (by decide)))) (by decide)) (fun h => by cases h) (fun _ => ss_nil ?_))
  refine ss_cons (s_if (b := false) (T.is (t_ne hr.units (d_methP 3 (d := F_ f1) gf1 gf2 gf3 (hr.mono (by decide)) passN DC.cl rfl (pv 3) (by decide +kernel) ⟨f1, e1, u1, rfl, rfl⟩) (dv 2 rfl) okf okf) (no_ne rfl okf)) (fun h => by cases h) (fun _ => ss_nil ?_))
  refine ss_one (s_ifXT (ρ1 := [.un, .di a, .dt (F_ f1), .mg da (oN C dx fldN) (stD f1 (e1 ++ [f1]) []), .dt (.lst (e1.map F_)), .dt (.lst (u1.map F_)), .un, .un, .un, .un]) (xt_or (xt_is (xt_ne (x := F_ f1) (y := F_ f1) hr.units (dx_meth 3 GO (hr.mono (by decide)) passN DC.cl rfl hda (pv 3) (da_one (d_str (l := []) rfl)) (by decide +kernel) (.ok f1 e1 u1 [] f1 gd.mf (by decide) rfl (by omega)) ⟨rfl, rfl⟩) (dv 2 rfl) okf okf) (no_ne rfl okf)) (T.is (int_ne hr.units (d_lenO 3 (n := (e1 ++ [f1]).length) gl1 gl2 gl3 rfl (hr.mono (by decide)) B.len rfl (pv 3) (by rw [len_snoc]; omega) ⟨f1, e1 ++ [f1], [], rfl, rfl⟩) (d_add (d_lenL B.len (dv 4 rfl)) d_int)) (by rw [List.length_map, len_snoc, decide_eq_true (by omega)]; rfl))) (ss_nil ?_))
  rfl
end
end G

set_option Elab.async false
set_option linter.all false
set_option maxRecDepth 100000
namespace G
open PySem PySem.Spec PyProof.Rows L2 TL LamX
set_option maxHeartbeats 4000000 in
theorem all_mk {l : PySem.W.OpenLaw} {w : World} {K : PySem.W.Frag} {h : Heap} {mg : Str → Option Value} {fa : Addr} (X : K.In h) (G : h.Ns mainGlobals mg) (hfa : mg "law" = some (.ref fa))
    {f0 : Addr} {od0 an0 : Option Addr} {sl0 : Array (Option Value)} {oc0 kV0 dc0 pm0 cd0 ct0 : Value}
    {f1 : Addr} {od1 an1 : Option Addr} {sl1 : Array (Option Value)} {oc1 kV1 dc1 pm1 cd1 ct1 : Value}
    {f2 : Addr} {od2 an2 : Option Addr} {sl2 : Array (Option Value)} {oc2 kV2 dc2 pm2 cd2 ct2 : Value}
    {f3 : Addr} {od3 an3 : Option Addr} {sl3 : Array (Option Value)} {oc3 kV3 dc3 pm3 cd3 ct3 : Value}
    {f4 : Addr} {od4 an4 : Option Addr} {sl4 : Array (Option Value)} {oc4 kV4 dc4 pm4 cd4 ct4 : Value}
    {f5 : Addr} {od5 an5 : Option Addr} {sl5 : Array (Option Value)} {oc5 kV5 dc5 pm5 cd5 ct5 : Value}
    {f6 : Addr} {od6 an6 : Option Addr} {sl6 : Array (Option Value)} {oc6 kV6 dc6 pm6 cd6 ct6 : Value}
    {f7 : Addr} {od7 an7 : Option Addr} {sl7 : Array (Option Value)} {oc7 kV7 dc7 pm7 cd7 ct7 : Value}
    {f8 : Addr} {od8 an8 : Option Addr} {sl8 : Array (Option Value)} {oc8 kV8 dc8 pm8 cd8 ct8 : Value}
    {f9 : Addr} {od9 an9 : Option Addr} {sl9 : Array (Option Value)} {oc9 kV9 dc9 pm9 cd9 ct9 : Value}
    {f10 : Addr} {od10 an10 : Option Addr} {sl10 : Array (Option Value)} {oc10 kV10 dc10 pm10 cd10 ct10 : Value}
    {f11 : Addr} {od11 an11 : Option Addr} {sl11 : Array (Option Value)} {oc11 kV11 dc11 pm11 cd11 ct11 : Value}
    {f12 : Addr} {od12 an12 : Option Addr} {sl12 : Array (Option Value)} {oc12 kV12 dc12 pm12 cd12 ct12 : Value}
    {f13 : Addr} {od13 an13 : Option Addr} {sl13 : Array (Option Value)} {oc13 kV13 dc13 pm13 cd13 ct13 : Value}
    {f14 : Addr} {od14 an14 : Option Addr} {sl14 : Array (Option Value)} {oc14 kV14 dc14 pm14 cd14 ct14 : Value}
    {f15 : Addr} {od15 an15 : Option Addr} {sl15 : Array (Option Value)} {oc15 kV15 dc15 pm15 cd15 ct15 : Value}
    {f16 : Addr} {od16 an16 : Option Addr} {sl16 : Array (Option Value)} {oc16 kV16 dc16 pm16 cd16 ct16 : Value}
    {f17 : Addr} {od17 an17 : Option Addr} {sl17 : Array (Option Value)} {oc17 kV17 dc17 pm17 cd17 ct17 : Value}
    {f18 : Addr} {od18 an18 : Option Addr} {sl18 : Array (Option Value)} {oc18 kV18 dc18 pm18 cd18 ct18 : Value}
    {f19 : Addr} {od19 an19 : Option Addr} {sl19 : Array (Option Value)} {oc19 kV19 dc19 pm19 cd19 ct19 : Value}
    {f20 : Addr} {od20 an20 : Option Addr} {sl20 : Array (Option Value)} {oc20 kV20 dc20 pm20 cd20 ct20 : Value}
    {f21 : Addr} {od21 an21 : Option Addr} {sl21 : Array (Option Value)} {oc21 kV21 dc21 pm21 ct21 : Value}
    {f22 : Addr} {od22 an22 : Option Addr} {sl22 : Array (Option Value)} {oc22 kV22 dc22 pm22 cd22 ct22 : Value}
    {f23 : Addr} {od23 an23 : Option Addr} {sl23 : Array (Option Value)} {oc23 kV23 dc23 pm23 ct23 : Value}
    {x0 : Addr}
    {x1 : Addr}
    {x2 : Addr}
    {x3 : Addr}
    {x4 : Addr}
    {x5 : Addr}
    {x6 : Addr}
    {x7 : Addr}
    {x8 : Addr}
    {CS cL Pt cD Pd CC : Addr}
    {tLETTERS : Tok}
    {tSIGNS : Tok}
    {mf0 : Addr} {mod0 man0 : Option Addr} {msl0 : Array (Option Value)} {moc0 mkV0 mdc0 mpm0 mcd0 mct0 : Value}
    {mf1 : Addr} {mod1 man1 : Option Addr} {msl1 : Array (Option Value)} {moc1 mkV1 mdc1 mpm1 mcd1 mct1 : Value}
    {mf2 : Addr} {mod2 man2 : Option Addr} {msl2 : Array (Option Value)} {moc2 mkV2 mdc2 mpm2 mcd2 mct2 : Value}
    {mf3 : Addr} {mod3 man3 : Option Addr} {msl3 : Array (Option Value)} {moc3 mkV3 mdc3 mpm3 mcd3 mct3 : Value}
    {mf4 : Addr} {mod4 man4 : Option Addr} {msl4 : Array (Option Value)} {moc4 mkV4 mdc4 mpm4 mcd4 mct4 : Value}
    {mf5 : Addr} {mod5 man5 : Option Addr} {msl5 : Array (Option Value)} {moc5 mkV5 mdc5 mpm5 mcd5 mct5 : Value}
    (a0 : PySem.W.nsIn K mainGlobals "is_formation" = some (some (.ref f0))) (l0 : K.lookup f0 = some ⟨oc0, od0, .func (PySem.W.fnOf "is_formation" "is_formation" (defArgs s_is_formation) (defBody s_is_formation) (defScope s_is_formation) .none kV0 dc0 pm0 an0 (cd0) ct0), sl0⟩) (c0 : PySem.W.codeIn K (cd0) "is_formation" = true) (k0 : PySem.W.keepIn K (.ref f0) = true)
    (a1 : PySem.W.nsIn K mainGlobals "are_orders" = some (some (.ref f1))) (l1 : K.lookup f1 = some ⟨oc1, od1, .func (PySem.W.fnOf "are_orders" "are_orders" (defArgs s_are_orders) (defBody s_are_orders) (defScope s_are_orders) .none kV1 dc1 pm1 an1 (cd1) ct1), sl1⟩) (c1 : PySem.W.codeIn K (cd1) "are_orders" = true) (k1 : PySem.W.keepIn K (.ref f1) = true)
    (a2 : PySem.W.nsIn K mainGlobals "need_formation" = some (some (.ref f2))) (l2 : K.lookup f2 = some ⟨oc2, od2, .func (PySem.W.fnOf "need_formation" "need_formation" (defArgs s_need_formation) (defBody s_need_formation) (defScope s_need_formation) .none kV2 dc2 pm2 an2 (cd2) ct2), sl2⟩) (c2 : PySem.W.codeIn K (cd2) "need_formation" = true) (k2 : PySem.W.keepIn K (.ref f2) = true)
    (a3 : PySem.W.nsIn K mainGlobals "need_orders" = some (some (.ref f3))) (l3 : K.lookup f3 = some ⟨oc3, od3, .func (PySem.W.fnOf "need_orders" "need_orders" (defArgs s_need_orders) (defBody s_need_orders) (defScope s_need_orders) .none kV3 dc3 pm3 an3 (cd3) ct3), sl3⟩) (c3 : PySem.W.codeIn K (cd3) "need_orders" = true) (k3 : PySem.W.keepIn K (.ref f3) = true)
    (a4 : PySem.W.nsIn K mainGlobals "shape_of" = some (some (.ref f4))) (l4 : K.lookup f4 = some ⟨oc4, od4, .func (PySem.W.fnOf "shape_of" "shape_of" (defArgs s_shape_of) (defBody s_shape_of) (defScope s_shape_of) .none kV4 dc4 pm4 an4 (cd4) ct4), sl4⟩) (c4 : PySem.W.codeIn K (cd4) "shape_of" = true) (k4 : PySem.W.keepIn K (.ref f4) = true)
    (a5 : PySem.W.nsIn K mainGlobals "file_of" = some (some (.ref f5))) (l5 : K.lookup f5 = some ⟨oc5, od5, .func (PySem.W.fnOf "file_of" "file_of" (defArgs s_file_of) (defBody s_file_of) (defScope s_file_of) .none kV5 dc5 pm5 an5 (cd5) ct5), sl5⟩) (c5 : PySem.W.codeIn K (cd5) "file_of" = true) (k5 : PySem.W.keepIn K (.ref f5) = true)
    (a6 : PySem.W.nsIn K mainGlobals "doubled" = some (some (.ref f6))) (l6 : K.lookup f6 = some ⟨oc6, od6, .func (PySem.W.fnOf "doubled" "doubled" (defArgs s_doubled) (defBody s_doubled) (defScope s_doubled) .none kV6 dc6 pm6 an6 (cd6) ct6), sl6⟩) (c6 : PySem.W.codeIn K (cd6) "doubled" = true) (k6 : PySem.W.keepIn K (.ref f6) = true)
    (a7 : PySem.W.nsIn K mainGlobals "singled" = some (some (.ref f7))) (l7 : K.lookup f7 = some ⟨oc7, od7, .func (PySem.W.fnOf "singled" "singled" (defArgs s_singled) (defBody s_singled) (defScope s_singled) .none kV7 dc7 pm7 an7 (cd7) ct7), sl7⟩) (c7 : PySem.W.codeIn K (cd7) "singled" = true) (k7 : PySem.W.keepIn K (.ref f7) = true)
    (a8 : PySem.W.nsIn K mainGlobals "moved" = some (some (.ref f8))) (l8 : K.lookup f8 = some ⟨oc8, od8, .func (PySem.W.fnOf "moved" "moved" (defArgs s_moved) (defBody s_moved) (defScope s_moved) .none kV8 dc8 pm8 an8 (cd8) ct8), sl8⟩) (c8 : PySem.W.codeIn K (cd8) "moved" = true) (k8 : PySem.W.keepIn K (.ref f8) = true)
    (a9 : PySem.W.nsIn K mainGlobals "after" = some (some (.ref f9))) (l9 : K.lookup f9 = some ⟨oc9, od9, .func (PySem.W.fnOf "after" "after" (defArgs s_after) (defBody s_after) (defScope s_after) .none kV9 dc9 pm9 an9 (cd9) ct9), sl9⟩) (c9 : PySem.W.codeIn K (cd9) "after" = true) (k9 : PySem.W.keepIn K (.ref f9) = true)
    (a10 : PySem.W.nsIn K mainGlobals "performed" = some (some (.ref f10))) (l10 : K.lookup f10 = some ⟨oc10, od10, .func (PySem.W.fnOf "performed" "performed" (defArgs s_performed) (defBody s_performed) (defScope s_performed) .none kV10 dc10 pm10 an10 (cd10) ct10), sl10⟩) (c10 : PySem.W.codeIn K (cd10) "performed" = true) (k10 : PySem.W.keepIn K (.ref f10) = true)
    (a11 : PySem.W.nsIn K mainGlobals "_law_cell" = some (some (.ref f11))) (l11 : K.lookup f11 = some ⟨oc11, od11, .func (PySem.W.fnOf "_law_cell" "_law_cell" (defArgs s__law_cell) (defBody s__law_cell) (defScope s__law_cell) .none kV11 dc11 pm11 an11 (cd11) ct11), sl11⟩) (c11 : PySem.W.codeIn K (cd11) "_law_cell" = true) (k11 : PySem.W.keepIn K (.ref f11) = true)
    (a12 : PySem.W.nsIn K mainGlobals "_law_drawn" = some (some (.ref f12))) (l12 : K.lookup f12 = some ⟨oc12, od12, .func (PySem.W.fnOf "_law_drawn" "_law_drawn" (defArgs s__law_drawn) (defBody s__law_drawn) (defScope s__law_drawn) .none kV12 dc12 pm12 an12 (cd12) ct12), sl12⟩) (c12 : PySem.W.codeIn K (cd12) "_law_drawn" = true) (k12 : PySem.W.keepIn K (.ref f12) = true)
    (a13 : PySem.W.nsIn K mainGlobals "_law_roll" = some (some (.ref f13))) (l13 : K.lookup f13 = some ⟨oc13, od13, .func (PySem.W.fnOf "_law_roll" "_law_roll" (defArgs s__law_roll) (defBody s__law_roll) (defScope s__law_roll) .none kV13 dc13 pm13 an13 (cd13) ct13), sl13⟩) (c13 : PySem.W.codeIn K (cd13) "_law_roll" = true) (k13 : PySem.W.keepIn K (.ref f13) = true)
    (a14 : PySem.W.nsIn K mainGlobals "_law_rounds" = some (some (.ref f14))) (l14 : K.lookup f14 = some ⟨oc14, od14, .func (PySem.W.fnOf "_law_rounds" "_law_rounds" (defArgs s__law_rounds) (defBody s__law_rounds) (defScope s__law_rounds) .none kV14 dc14 pm14 an14 (cd14) ct14), sl14⟩) (c14 : PySem.W.codeIn K (cd14) "_law_rounds" = true) (k14 : PySem.W.keepIn K (.ref f14) = true)
    (a15 : PySem.W.nsIn K mainGlobals "_law_term" = some (some (.ref f15))) (l15 : K.lookup f15 = some ⟨oc15, od15, .func (PySem.W.fnOf "_law_term" "_law_term" (defArgs s__law_term) (defBody s__law_term) (defScope s__law_term) .none kV15 dc15 pm15 an15 (cd15) ct15), sl15⟩) (c15 : PySem.W.codeIn K (cd15) "_law_term" = true) (k15 : PySem.W.keepIn K (.ref f15) = true)
    (a16 : PySem.W.nsIn K mainGlobals "_law_told" = some (some (.ref f16))) (l16 : K.lookup f16 = some ⟨oc16, od16, .func (PySem.W.fnOf "_law_told" "_law_told" (defArgs s__law_told) (defBody s__law_told) (defScope s__law_told) .none kV16 dc16 pm16 an16 (cd16) ct16), sl16⟩) (c16 : PySem.W.codeIn K (cd16) "_law_told" = true) (k16 : PySem.W.keepIn K (.ref f16) = true)
    (a17 : PySem.W.nsIn K mainGlobals "_law_any_formation" = some (some (.ref f17))) (l17 : K.lookup f17 = some ⟨oc17, od17, .func (PySem.W.fnOf "_law_any_formation" "_law_any_formation" (defArgs s__law_any_formation) (defBody s__law_any_formation) (defScope s__law_any_formation) .none kV17 dc17 pm17 an17 (cd17) ct17), sl17⟩) (c17 : PySem.W.codeIn K (cd17) "_law_any_formation" = true) (k17 : PySem.W.keepIn K (.ref f17) = true)
    (a18 : PySem.W.nsIn K mainGlobals "_law_any_orders" = some (some (.ref f18))) (l18 : K.lookup f18 = some ⟨oc18, od18, .func (PySem.W.fnOf "_law_any_orders" "_law_any_orders" (defArgs s__law_any_orders) (defBody s__law_any_orders) (defScope s__law_any_orders) .none kV18 dc18 pm18 an18 (cd18) ct18), sl18⟩) (c18 : PySem.W.codeIn K (cd18) "_law_any_orders" = true) (k18 : PySem.W.keepIn K (.ref f18) = true)
    (a19 : PySem.W.nsIn K mainGlobals "_law_moved" = some (some (.ref f19))) (l19 : K.lookup f19 = some ⟨oc19, od19, .func (PySem.W.fnOf "_law_moved" "_law_moved" (defArgs s__law_moved) (defBody s__law_moved) (defScope s__law_moved) .none kV19 dc19 pm19 an19 (cd19) ct19), sl19⟩) (c19 : PySem.W.codeIn K (cd19) "_law_moved" = true) (k19 : PySem.W.keepIn K (.ref f19) = true)
    (a20 : PySem.W.nsIn K mainGlobals "_law_led" = some (some (.ref f20))) (l20 : K.lookup f20 = some ⟨oc20, od20, .func (PySem.W.fnOf "_law_led" "_law_led" (defArgs s__law_led) (defBody s__law_led) (defScope s__law_led) .none kV20 dc20 pm20 an20 (cd20) ct20), sl20⟩) (c20 : PySem.W.codeIn K (cd20) "_law_led" = true) (k20 : PySem.W.keepIn K (.ref f20) = true)
    (a21 : PySem.W.nsIn K mainGlobals "_law_done" = some (some (.ref f21))) (l21 : K.lookup f21 = some ⟨oc21, od21, .func (PySem.W.fnOf "_law_done" "_law_done" (defArgs s__law_done) (defBody s__law_done) (defScope s__law_done) .none kV21 dc21 pm21 an21 (.ref cD) ct21), sl21⟩) (c21 : PySem.W.codeIn K (.ref cD) "_law_done" = true) (k21 : PySem.W.keepIn K (.ref f21) = true)
    (a22 : PySem.W.nsIn K mainGlobals "_law_turn" = some (some (.ref f22))) (l22 : K.lookup f22 = some ⟨oc22, od22, .func (PySem.W.fnOf "_law_turn" "_law_turn" (defArgs s__law_turn) (defBody s__law_turn) (defScope s__law_turn) .none kV22 dc22 pm22 an22 (cd22) ct22), sl22⟩) (c22 : PySem.W.codeIn K (cd22) "_law_turn" = true) (k22 : PySem.W.keepIn K (.ref f22) = true)
    (a23 : PySem.W.nsIn K mainGlobals "law" = some (some (.ref f23))) (l23 : K.lookup f23 = some ⟨oc23, od23, .func (PySem.W.fnOf "law" "law" (defArgs s_law) (defBody s_law) (defScope s_law) .none kV23 dc23 pm23 an23 (.ref cL) ct23), sl23⟩) (c23 : PySem.W.codeIn K (.ref cL) "law" = true) (k23 : PySem.W.keepIn K (.ref f23) = true)
    (gx0 : PySem.W.nsIn K mainGlobals "InvalidFormation" = some (some (.ref x0)))
    (gx1 : PySem.W.nsIn K mainGlobals "InvalidOrders" = some (some (.ref x1)))
    (gx2 : PySem.W.nsIn K mainGlobals "InvalidPerson" = some (some (.ref x2)))
    (gx3 : PySem.W.nsIn K mainGlobals "InvalidShape" = some (some (.ref x3)))
    (gx4 : PySem.W.nsIn K mainGlobals "InvalidText" = some (some (.ref x4)))
    (gx5 : PySem.W.nsIn K mainGlobals "Impossible" = some (some (.ref x5)))
    (gx6 : PySem.W.nsIn K mainGlobals "Unlike" = some (some (.ref x6)))
    (gx7 : PySem.W.nsIn K mainGlobals "NewShape" = some (some (.ref x7)))
    (gx8 : PySem.W.nsIn K mainGlobals "NothingToUndo" = some (some (.ref x8)))
    (gCS : PySem.W.nsIn K mainGlobals "DrillError" = some (some (.ref CS)))
    (ex0 : PySem.W.excIn K x0 [.type "ValueError", .type "Exception", .type "BaseException", .type "object"] "ValueError.__new__" = true) (ek0 : PySem.W.keepIn K (.ref x0) = true) (eb0 : PySem.W.subIn K (.ref x0) (.type "BaseException") = some true) (et0 : PySem.W.typeIn K (.ref x0) = some (.type "type"))
    (ex1 : PySem.W.excIn K x1 [.type "ValueError", .type "Exception", .type "BaseException", .type "object"] "ValueError.__new__" = true) (ek1 : PySem.W.keepIn K (.ref x1) = true) (eb1 : PySem.W.subIn K (.ref x1) (.type "BaseException") = some true) (et1 : PySem.W.typeIn K (.ref x1) = some (.type "type"))
    (ex5 : PySem.W.excIn K x5 [.type "ValueError", .type "Exception", .type "BaseException", .type "object"] "ValueError.__new__" = true) (ek5 : PySem.W.keepIn K (.ref x5) = true) (eb5 : PySem.W.subIn K (.ref x5) (.type "BaseException") = some true) (et5 : PySem.W.typeIn K (.ref x5) = some (.type "type"))
    (ex8 : PySem.W.excIn K x8 [.type "ValueError", .type "Exception", .type "BaseException", .type "object"] "ValueError.__new__" = true) (ek8 : PySem.W.keepIn K (.ref x8) = true) (eb8 : PySem.W.subIn K (.ref x8) (.type "BaseException") = some true) (et8 : PySem.W.typeIn K (.ref x8) = some (.type "type"))
    (sLETTERS : PySem.W.nsIn K mainGlobals "LETTERS" = some (some (.str "abcdef" tLETTERS)))
    (sSIGNS : PySem.W.nsIn K mainGlobals "SIGNS" = some (some (.str "ACDLMRSX" tSIGNS)))
    (z_len : PySem.W.nsIn K mainGlobals "len" = some none)
    (z_isinstance : PySem.W.nsIn K mainGlobals "isinstance" = some none)
    (z_tuple : PySem.W.nsIn K mainGlobals "tuple" = some none)
    (z_str : PySem.W.nsIn K mainGlobals "str" = some none)
    (z_int : PySem.W.nsIn K mainGlobals "int" = some none)
    (z_bool : PySem.W.nsIn K mainGlobals "bool" = some none)
    (z_all : PySem.W.nsIn K mainGlobals "all" = some none)
    (z_any : PySem.W.nsIn K mainGlobals "any" = some none)
    (z_sorted : PySem.W.nsIn K mainGlobals "sorted" = some none)
    (z_list : PySem.W.nsIn K mainGlobals "list" = some none)
    (z_range : PySem.W.nsIn K mainGlobals "range" = some none)
    (z_reversed : PySem.W.nsIn K mainGlobals "reversed" = some none)
    (z_enumerate : PySem.W.nsIn K mainGlobals "enumerate" = some none)
    (z_max : PySem.W.nsIn K mainGlobals "max" = some none)
    (z_min : PySem.W.nsIn K mainGlobals "min" = some none)
    (z_set : PySem.W.nsIn K mainGlobals "set" = some none)
    (z_abs : PySem.W.nsIn K mainGlobals "abs" = some none)
    (z_sum : PySem.W.nsIn K mainGlobals "sum" = some none)
    (z_ValueError : PySem.W.nsIn K mainGlobals "ValueError" = some none)
    (kit9 : kitB9 K [x0, x1, x2, x3, x4, x5, x6, x7, x8] = true)
    (xb0 : excB K x0 CS = true)
    (xb1 : excB K x1 CS = true)
    (xb2 : excB K x2 CS = true)
    (xb3 : excB K x3 CS = true)
    (xb4 : excB K x4 CS = true)
    (xb5 : excB K x5 CS = true)
    (xb6 : excB K x6 CS = true)
    (xb7 : excB K x7 CS = true)
    (xb8 : excB K x8 CS = true)
    (gDr : PySem.W.nsIn K mainGlobals "Drill" = some (some (.ref CC))) (cpg : PySem.W.plainGet K CC Str.empty = true) (chd : PySem.W.hasDictIn K CC = true) (cpo : PySem.W.plainOver K CC = true) (csa : PySem.W.findIn K (.ref CC) "__setattr__" = some (some (.builtin "object.__setattr__"))) (cn0 : PySem.W.findIn K (.ref CC) "now" = some none) (cn1 : PySem.W.findIn K (.ref CC) "earlier" = some none) (cn2 : PySem.W.findIn K (.ref CC) "undone" = some none) (cmk : PySem.W.makesIn K CC = true) (ckp : PySem.W.keepIn K (.ref CC) = true)
    (ma0 : PySem.W.findIn K (.ref CC) "__init__" = some (some (.ref mf0))) (ml0 : K.lookup mf0 = some ⟨moc0, mod0, .func (PySem.W.fnOf "__init__" "Drill.__init__" (defArgs (mthS 0)) (defBody (mthS 0)) (defScope (mthS 0)) .none mkV0 mdc0 mpm0 man0 mcd0 mct0), msl0⟩) (mc0 : PySem.W.codeIn K mcd0 "Drill.__init__" = true) (mk0 : PySem.W.keepIn K (.ref mf0) = true) (mi0 : PySem.W.isFn K (.ref mf0) = true)
    (ma1 : PySem.W.findIn K (.ref CC) "order" = some (some (.ref mf1))) (ml1 : K.lookup mf1 = some ⟨moc1, mod1, .func (PySem.W.fnOf "order" "Drill.order" (defArgs (mthS 1)) (defBody (mthS 1)) (defScope (mthS 1)) .none mkV1 mdc1 mpm1 man1 mcd1 mct1), msl1⟩) (mc1 : PySem.W.codeIn K mcd1 "Drill.order" = true) (mk1 : PySem.W.keepIn K (.ref mf1) = true) (mi1 : PySem.W.isFn K (.ref mf1) = true)
    (ma2 : PySem.W.findIn K (.ref CC) "formation" = some (some (.ref mf2))) (ml2 : K.lookup mf2 = some ⟨moc2, mod2, .func (PySem.W.fnOf "formation" "Drill.formation" (defArgs (mthS 2)) (defBody (mthS 2)) (defScope (mthS 2)) .none mkV2 mdc2 mpm2 man2 mcd2 mct2), msl2⟩) (mc2 : PySem.W.codeIn K mcd2 "Drill.formation" = true) (mk2 : PySem.W.keepIn K (.ref mf2) = true) (mi2 : PySem.W.isFn K (.ref mf2) = true)
    (ma3 : PySem.W.findIn K (.ref CC) "undo" = some (some (.ref mf3))) (ml3 : K.lookup mf3 = some ⟨moc3, mod3, .func (PySem.W.fnOf "undo" "Drill.undo" (defArgs (mthS 3)) (defBody (mthS 3)) (defScope (mthS 3)) .none mkV3 mdc3 mpm3 man3 mcd3 mct3), msl3⟩) (mc3 : PySem.W.codeIn K mcd3 "Drill.undo" = true) (mk3 : PySem.W.keepIn K (.ref mf3) = true) (mi3 : PySem.W.isFn K (.ref mf3) = true)
    (ma4 : PySem.W.findIn K (.ref CC) "redo" = some (some (.ref mf4))) (ml4 : K.lookup mf4 = some ⟨moc4, mod4, .func (PySem.W.fnOf "redo" "Drill.redo" (defArgs (mthS 4)) (defBody (mthS 4)) (defScope (mthS 4)) .none mkV4 mdc4 mpm4 man4 mcd4 mct4), msl4⟩) (mc4 : PySem.W.codeIn K mcd4 "Drill.redo" = true) (mk4 : PySem.W.keepIn K (.ref mf4) = true) (mi4 : PySem.W.isFn K (.ref mf4) = true)
    (ma5 : PySem.W.findIn K (.ref CC) "__len__" = some (some (.ref mf5))) (ml5 : K.lookup mf5 = some ⟨moc5, mod5, .func (PySem.W.fnOf "__len__" "Drill.__len__" (defArgs (mthS 5)) (defBody (mthS 5)) (defScope (mthS 5)) .none mkV5 mdc5 mpm5 man5 mcd5 mct5), msl5⟩) (mc5 : PySem.W.codeIn K mcd5 "Drill.__len__" = true) (mk5 : PySem.W.keepIn K (.ref mf5) = true) (mi5 : PySem.W.isFn K (.ref mf5) = true)
    (tP : h.get? Pt = some { cls := .none, data := .fields #[] }) (tD : h.get? Pd = some { cls := .none, data := .fields #[] }) (nP : K.lookup Pt = none) (nD : K.lookup Pd = none) (hP : PySem.W.codeHdIn K cL Pt = true) (hD : PySem.W.codeHdIn K cD Pd = true) (hPP : Pt ≠ Pd) : LawAtS l w K (L2N.CX l.prog w) 10 63 "script" mg fa h := by
  have e := hfa.symm.trans (PySem.W.mg_of X G a23)
  cases e
  have h_is_formation : At K mg "is_formation" s_is_formation := ⟨f0, _, fun_mk (st := s_is_formation) l0 c0 k0, PySem.W.mg_of X G a0⟩
  have h_are_orders : At K mg "are_orders" s_are_orders := ⟨f1, _, fun_mk (st := s_are_orders) l1 c1 k1, PySem.W.mg_of X G a1⟩
  have h_need_formation : At K mg "need_formation" s_need_formation := ⟨f2, _, fun_mk (st := s_need_formation) l2 c2 k2, PySem.W.mg_of X G a2⟩
  have h_need_orders : At K mg "need_orders" s_need_orders := ⟨f3, _, fun_mk (st := s_need_orders) l3 c3 k3, PySem.W.mg_of X G a3⟩
  have h_shape_of : At K mg "shape_of" s_shape_of := ⟨f4, _, fun_mk (st := s_shape_of) l4 c4 k4, PySem.W.mg_of X G a4⟩
  have h_file_of : At K mg "file_of" s_file_of := ⟨f5, _, fun_mk (st := s_file_of) l5 c5 k5, PySem.W.mg_of X G a5⟩
  have h_doubled : At K mg "doubled" s_doubled := ⟨f6, _, fun_mk (st := s_doubled) l6 c6 k6, PySem.W.mg_of X G a6⟩
  have h_singled : At K mg "singled" s_singled := ⟨f7, _, fun_mk (st := s_singled) l7 c7 k7, PySem.W.mg_of X G a7⟩
  have h_moved : At K mg "moved" s_moved := ⟨f8, _, fun_mk (st := s_moved) l8 c8 k8, PySem.W.mg_of X G a8⟩
  have h_after : At K mg "after" s_after := ⟨f9, _, fun_mk (st := s_after) l9 c9 k9, PySem.W.mg_of X G a9⟩
  have h_performed : At K mg "performed" s_performed := ⟨f10, _, fun_mk (st := s_performed) l10 c10 k10, PySem.W.mg_of X G a10⟩
  have h__law_cell : At K mg "_law_cell" s__law_cell := ⟨f11, _, fun_mk (st := s__law_cell) l11 c11 k11, PySem.W.mg_of X G a11⟩
  have h__law_drawn : At K mg "_law_drawn" s__law_drawn := ⟨f12, _, fun_mk (st := s__law_drawn) l12 c12 k12, PySem.W.mg_of X G a12⟩
  have h__law_roll : At K mg "_law_roll" s__law_roll := ⟨f13, _, fun_mk (st := s__law_roll) l13 c13 k13, PySem.W.mg_of X G a13⟩
  have h__law_rounds : At K mg "_law_rounds" s__law_rounds := ⟨f14, _, fun_mk (st := s__law_rounds) l14 c14 k14, PySem.W.mg_of X G a14⟩
  have h__law_term : At K mg "_law_term" s__law_term := ⟨f15, _, fun_mk (st := s__law_term) l15 c15 k15, PySem.W.mg_of X G a15⟩
  have h__law_told : At K mg "_law_told" s__law_told := ⟨f16, _, fun_mk (st := s__law_told) l16 c16 k16, PySem.W.mg_of X G a16⟩
  have h__law_any_formation : At K mg "_law_any_formation" s__law_any_formation := ⟨f17, _, fun_mk (st := s__law_any_formation) l17 c17 k17, PySem.W.mg_of X G a17⟩
  have h__law_any_orders : At K mg "_law_any_orders" s__law_any_orders := ⟨f18, _, fun_mk (st := s__law_any_orders) l18 c18 k18, PySem.W.mg_of X G a18⟩
  have h__law_moved : At K mg "_law_moved" s__law_moved := ⟨f19, _, fun_mk (st := s__law_moved) l19 c19 k19, PySem.W.mg_of X G a19⟩
  have h__law_led : At K mg "_law_led" s__law_led := ⟨f20, _, fun_mk (st := s__law_led) l20 c20 k20, PySem.W.mg_of X G a20⟩
  have h__law_turn : At K mg "_law_turn" s__law_turn := ⟨f22, _, fun_mk (st := s__law_turn) l22 c22 k22, PySem.W.mg_of X G a22⟩
  have X_0 : ExcF K mg "InvalidFormation" x0 := ⟨PySem.W.mg_of X G gx0, ex0, ek0, eb0, et0⟩
  have X_1 : ExcF K mg "InvalidOrders" x1 := ⟨PySem.W.mg_of X G gx1, ex1, ek1, eb1, et1⟩
  have X_5 : ExcF K mg "Impossible" x5 := ⟨PySem.W.mg_of X G gx5, ex5, ek5, eb5, et5⟩
  have X_8 : ExcF K mg "NothingToUndo" x8 := ⟨PySem.W.mg_of X G gx8, ex8, ek8, eb8, et8⟩
  have mLETTERS := PySem.W.mg_of X G sLETTERS
  have mSIGNS := PySem.W.mg_of X G sSIGNS
  have B : Bi mg := ⟨PySem.W.mg_none_of X G z_len, PySem.W.mg_none_of X G z_isinstance, PySem.W.mg_none_of X G z_tuple, PySem.W.mg_none_of X G z_str, PySem.W.mg_none_of X G z_int, PySem.W.mg_none_of X G z_bool, PySem.W.mg_none_of X G z_all, PySem.W.mg_none_of X G z_any, PySem.W.mg_none_of X G z_sorted, PySem.W.mg_none_of X G z_list, PySem.W.mg_none_of X G z_range, PySem.W.mg_none_of X G z_reversed, PySem.W.mg_none_of X G z_enumerate, PySem.W.mg_none_of X G z_max, PySem.W.mg_none_of X G z_min, PySem.W.mg_none_of X G z_set, PySem.W.mg_none_of X G z_abs, PySem.W.mg_none_of X G z_sum⟩
  have R : Errs K mg [x0, x1, x2, x3, x4, x5, x6, x7, x8] CS := ⟨PySem.W.mg_of X G gx0, PySem.W.mg_of X G gx1, PySem.W.mg_of X G gx2, PySem.W.mg_of X G gx3, PySem.W.mg_of X G gx4, PySem.W.mg_of X G gx5, PySem.W.mg_of X G gx6, PySem.W.mg_of X G gx7, PySem.W.mg_of X G gx8, PySem.W.mg_none_of X G z_ValueError, kit9, by simp [xb0, xb1, xb2, xb3, xb4, xb5, xb6, xb7, xb8], rfl⟩
  have TF := told_mk l16 c16 k16 (PySem.W.mg_of X G a16) (PySem.W.mg_of X G gCS) (PySem.W.mg_of X G a15) k15
  have DC : DrC K CC := ⟨⟨cpg, chd, cpo, csa⟩, cn0, cn1, cn2⟩
  have two : ∀ {Q : Addr × Addr → Prop}, Q (cL, Pt) → Q (cD, Pd) → ∀ p ∈ [(cL, Pt), (cD, Pd)], Q p := fun {Q} h1 h2 p hp => by
    rcases List.mem_cons.mp hp with z | z
    · rw [z]; exact h1
    · rw [List.mem_singleton.mp z]; exact h2
  refine ⟨PySem.W.fnOf "law" "law" (defArgs s_law) (defBody s_law) (defScope s_law) .none kV23 dc23 pm23 an23 (.ref cL) ct23, [(cL, Pt), (cD, Pd)], spL K [(Pt, qLam), (Pd, qLamD)], two tP tD, two nP nD, two (PySem.W.codeHd_of_K X hP) (PySem.W.codeHd_of_K X hD), fun s v => .of_eq rfl, fun H a ns hl _ hH hS => end_lawT2 hl (hH _ List.mem_cons_self) (hH _ (List.mem_cons_of_mem _ (List.mem_singleton.mpr rfl))) hS, fun base _ _ hTB => ?_⟩
  have TB := hTB _ List.mem_cons_self
  have TBD := hTB _ (List.mem_cons_of_mem _ (List.mem_singleton.mpr rfl))
  have TM := ok_term (P := l.prog) (w := w) (base := base) B R (fun_mk (st := s__law_term) l15 c15 k15)
  have q__law_cell := c_cell (P := l.prog) (w := w) (base := base) B h__law_cell
  have q__law_rounds := c_rounds B q__law_cell h__law_rounds
  have q__law_drawn := c_drawn (P := l.prog) (w := w) (base := base) h__law_drawn
  have q__law_roll := c_roll q__law_drawn h__law_roll
  have q__law_any_formation := c_anyf B q__law_roll h__law_any_formation
  have q__law_any_orders := c_anyo B q__law_roll h__law_any_orders
  have q_is_formation := c_is_formation (P := l.prog) (w := w) (base := base) B (show mg "LETTERS" = some (.str (mkS lets) tLETTERS) from mLETTERS) h_is_formation
  have q_need_formation := c_need_formation q_is_formation X_0 h_need_formation
  have q_are_orders := c_are_orders (P := l.prog) (w := w) (base := base) B (show mg "SIGNS" = some (.str (mkS signs) tSIGNS) from mSIGNS) h_are_orders
  have q_need_orders := c_need_orders q_are_orders X_1 h_need_orders
  have q_shape_of := c_shape_of (P := l.prog) (w := w) (base := base) B h_shape_of
  have q_file_of := c_file_of (P := l.prog) (w := w) (base := base) B h_file_of
  have q_doubled := c_doubled (P := l.prog) (w := w) (base := base) B h_doubled
  have q_singled := c_singled (P := l.prog) (w := w) (base := base) B h_singled
  have q_moved := c_moved B q_shape_of q_file_of q_doubled q_singled h_moved
  have q_after := c_after q_moved h_after
  have q_performed := c_performed q_after X_5 h_performed
  have q__law_moved := c_lmoved (P := l.prog) (w := w) (base := base) B h__law_moved
  have q__law_led := c_lled q__law_moved h__law_led
  have GI := c_init DC q_need_formation (fun_mk (st := mthS 0) ml0 mc0 mk0) ⟨cmk, ma0, mi0, ckp⟩
  have GO := c_order DC q_need_orders q_performed ⟨_, _, fun_mk (st := mthS 1) ml1 mc1 mk1, ⟨ma1, mi1, mk1⟩⟩
  have GF := c_fmn (P := l.prog) (w := w) (mg := mg) (base := base) DC ⟨_, _, fun_mk (st := mthS 2) ml2 mc2 mk2, ⟨ma2, mi2, mk2⟩⟩
  have GU := c_undoM (P := l.prog) (w := w) (base := base) DC X_8 ⟨_, _, fun_mk (st := mthS 3) ml3 mc3 mk3, ⟨ma3, mi3, mk3⟩⟩
  have GR := c_redoM (P := l.prog) (w := w) (base := base) DC X_8 ⟨_, _, fun_mk (st := mthS 4) ml4 mc4 mk4, ⟨ma4, mi4, mk4⟩⟩
  have GL := c_lenM (P := l.prog) (w := w) (base := base) B DC ⟨_, _, fun_mk (st := mthS 5) ml5 mc5 mk5, ⟨ma5, mi5, mk5⟩⟩
  have hmD : (Pd, qLamD) ∈ [(Pt, qLam), (Pd, qLamD)] := List.mem_cons_of_mem _ (List.mem_singleton.mpr rfl)
  have huD : ∀ p ∈ [(Pt, qLam), (Pd, qLamD)], p.1 = Pd → p.2 = qLamD := fun p hp e => by
    rcases List.mem_cons.mp hp with z | z
    · rw [z] at e
      exact absurd e hPP
    · rw [List.mem_singleton.mp z]
  have GD := c_ldone (T := [(Pt, qLam), (Pd, qLamD)]) (cs := [x0, x1, x2, x3, x4, x5, x6, x7, x8]) B DC R TF TM TBD hmD huD GO GU GR l21 c21 k21 (PySem.W.mg_of X G a21)
  have GT := c_lturn B DC q__law_roll q__law_any_orders GD q__law_led h__law_turn
  exact ok_law B R TF TM TB DC (PySem.W.mg_of X G gDr) hPP GI GO GF GL GT q__law_rounds q__law_any_formation l23 c23

end G
open PySem PySem.W PyProof.Rows
set_option maxHeartbeats 0 in
theorem PySem.Challenge.cw_drillgrids_k19_whole_drills_holds : PySem.Challenge.rw_drillgrids_k19_whole_drills.Holds := by
  w_on; o_law; k_head; (case hw => w_witness2)
  k_fill
  refine LamX.walk_ofTs (l := PySem.Challenge.rw_drillgrids_k19_whole_drills) (n := 63) (k := 10) (x := "script") (CX := fun w => L2N.CX PySem.Challenge.rw_drillgrids_k19_whole_drills.prog w) rfl (by decide) rfl ⟨rfl, by decide, by decide⟩ (fun w h Y => PySem.W.km_in_of Y) ?F (fun _ _ _ _ _ ⟨_, _, _, _, _, _, _, _, _, _, _, _, h⟩ => h)
  case F =>
    intro w mg fa h Y KX NS hmg
    refine' G.all_mk KX NS hmg ?a0 ?l0 ?c0 ?k0 ?a1 ?l1 ?c1 ?k1 ?a2 ?l2 ?c2 ?k2 ?a3 ?l3 ?c3 ?k3 ?a4 ?l4 ?c4 ?k4 ?a5 ?l5 ?c5 ?k5 ?a6 ?l6 ?c6 ?k6 ?a7 ?l7 ?c7 ?k7 ?a8 ?l8 ?c8 ?k8 ?a9 ?l9 ?c9 ?k9 ?a10 ?l10 ?c10 ?k10 ?a11 ?l11 ?c11 ?k11 ?a12 ?l12 ?c12 ?k12 ?a13 ?l13 ?c13 ?k13 ?a14 ?l14 ?c14 ?k14 ?a15 ?l15 ?c15 ?k15 ?a16 ?l16 ?c16 ?k16 ?a17 ?l17 ?c17 ?k17 ?a18 ?l18 ?c18 ?k18 ?a19 ?l19 ?c19 ?k19 ?a20 ?l20 ?c20 ?k20 ?a21 ?l21 ?c21 ?k21 ?a22 ?l22 ?c22 ?k22 ?a23 ?l23 ?c23 ?k23 ?gx0 ?gx1 ?gx2 ?gx3 ?gx4 ?gx5 ?gx6 ?gx7 ?gx8 ?gCS ?ex0 ?ek0 ?eb0 ?et0 ?ex1 ?ek1 ?eb1 ?et1 ?ex5 ?ek5 ?eb5 ?et5 ?ex8 ?ek8 ?eb8 ?et8 ?sLETTERS ?sSIGNS ?z_len ?z_isinstance ?z_tuple ?z_str ?z_int ?z_bool ?z_all ?z_any ?z_sorted ?z_list ?z_range ?z_reversed ?z_enumerate ?z_max ?z_min ?z_set ?z_abs ?z_sum ?z_ValueError ?kit9 ?xb0 ?xb1 ?xb2 ?xb3 ?xb4 ?xb5 ?xb6 ?xb7 ?xb8 ?gDr ?cpg ?chd ?cpo ?csa ?cn0 ?cn1 ?cn2 ?cmk ?ckp ?ma0 ?ml0 ?mc0 ?mk0 ?mi0 ?ma1 ?ml1 ?mc1 ?mk1 ?mi1 ?ma2 ?ml2 ?mc2 ?mk2 ?mi2 ?ma3 ?ml3 ?mc3 ?mk3 ?mi3 ?ma4 ?ml4 ?mc4 ?mk4 ?mi4 ?ma5 ?ml5 ?mc5 ?mk5 ?mi5 ?tP ?tD ?nP ?nD ?hP ?hD ?hPP
    (case a0 => k_is)
    (case l0 => k_is)
    (case c0 => k_is)
    (case k0 => k_is)
    (case a1 => k_is)
    (case l1 => k_is)
    (case c1 => k_is)
    (case k1 => k_is)
    (case a2 => k_is)
    (case l2 => k_is)
    (case c2 => k_is)
    (case k2 => k_is)
    (case a3 => k_is)
    (case l3 => k_is)
    (case c3 => k_is)
    (case k3 => k_is)
    (case a4 => k_is)
    (case l4 => k_is)
    (case c4 => k_is)
    (case k4 => k_is)
    (case a5 => k_is)
    (case l5 => k_is)
    (case c5 => k_is)
    (case k5 => k_is)
    (case a6 => k_is)
    (case l6 => k_is)
    (case c6 => k_is)
    (case k6 => k_is)
    (case a7 => k_is)
    (case l7 => k_is)
    (case c7 => k_is)
    (case k7 => k_is)
    (case a8 => k_is)
    (case l8 => k_is)
    (case c8 => k_is)
    (case k8 => k_is)
    (case a9 => k_is)
    (case l9 => k_is)
    (case c9 => k_is)
    (case k9 => k_is)
    (case a10 => k_is)
    (case l10 => k_is)
    (case c10 => k_is)
    (case k10 => k_is)
    (case a11 => k_is)
    (case l11 => k_is)
    (case c11 => k_is)
    (case k11 => k_is)
    (case a12 => k_is)
    (case l12 => k_is)
    (case c12 => k_is)
    (case k12 => k_is)
    (case a13 => k_is)
    (case l13 => k_is)
    (case c13 => k_is)
    (case k13 => k_is)
    (case a14 => k_is)
    (case l14 => k_is)
    (case c14 => k_is)
    (case k14 => k_is)
    (case a15 => k_is)
    (case l15 => k_is)
    (case c15 => k_is)
    (case k15 => k_is)
    (case a16 => k_is)
    (case l16 => k_is)
    (case c16 => k_is)
    (case k16 => k_is)
    (case a17 => k_is)
    (case l17 => k_is)
    (case c17 => k_is)
    (case k17 => k_is)
    (case a18 => k_is)
    (case l18 => k_is)
    (case c18 => k_is)
    (case k18 => k_is)
    (case a19 => k_is)
    (case l19 => k_is)
    (case c19 => k_is)
    (case k19 => k_is)
    (case a20 => k_is)
    (case l20 => k_is)
    (case c20 => k_is)
    (case k20 => k_is)
    (case a21 => k_is)
    (case l21 => k_is)
    (case c21 => k_is)
    (case k21 => k_is)
    (case a22 => k_is)
    (case l22 => k_is)
    (case c22 => k_is)
    (case k22 => k_is)
    (case a23 => k_is)
    (case l23 => k_is)
    (case c23 => k_is)
    (case k23 => k_is)
    (case gx0 => k_is)
    (case gx1 => k_is)
    (case gx2 => k_is)
    (case gx3 => k_is)
    (case gx4 => k_is)
    (case gx5 => k_is)
    (case gx6 => k_is)
    (case gx7 => k_is)
    (case gx8 => k_is)
    (case gCS => k_is)
    (case ex0 => k_exc)
    (case ek0 => k_is)
    (case eb0 => k_is)
    (case et0 => k_is)
    (case ex1 => k_exc)
    (case ek1 => k_is)
    (case eb1 => k_is)
    (case et1 => k_is)
    (case ex5 => k_exc)
    (case ek5 => k_is)
    (case eb5 => k_is)
    (case et5 => k_is)
    (case ex8 => k_exc)
    (case ek8 => k_is)
    (case eb8 => k_is)
    (case et8 => k_is)
    (case sLETTERS => k_is)
    (case sSIGNS => k_is)
    (case z_len => k_is)
    (case z_isinstance => k_is)
    (case z_tuple => k_is)
    (case z_str => k_is)
    (case z_int => k_is)
    (case z_bool => k_is)
    (case z_all => k_is)
    (case z_any => k_is)
    (case z_sorted => k_is)
    (case z_list => k_is)
    (case z_range => k_is)
    (case z_reversed => k_is)
    (case z_enumerate => k_is)
    (case z_max => k_is)
    (case z_min => k_is)
    (case z_set => k_is)
    (case z_abs => k_is)
    (case z_sum => k_is)
    (case z_ValueError => k_is)
    (case kit9 => kernel_rfl)
    (case xb0 => kernel_rfl)
    (case xb1 => kernel_rfl)
    (case xb2 => kernel_rfl)
    (case xb3 => kernel_rfl)
    (case xb4 => kernel_rfl)
    (case xb5 => kernel_rfl)
    (case xb6 => kernel_rfl)
    (case xb7 => kernel_rfl)
    (case xb8 => kernel_rfl)
    (case gDr => k_is)
    (case cpg => k_is)
    (case chd => k_is)
    (case cpo => k_is)
    (case csa => k_is)
    (case cn0 => k_is)
    (case cn1 => k_is)
    (case cn2 => k_is)
    (case cmk => k_is)
    (case ckp => k_is)
    (case ma0 => k_is)
    (case ml0 => k_is)
    (case mc0 => k_is)
    (case mk0 => k_is)
    (case mi0 => k_is)
    (case ma1 => k_is)
    (case ml1 => k_is)
    (case mc1 => k_is)
    (case mk1 => k_is)
    (case mi1 => k_is)
    (case ma2 => k_is)
    (case ml2 => k_is)
    (case mc2 => k_is)
    (case mk2 => k_is)
    (case mi2 => k_is)
    (case ma3 => k_is)
    (case ml3 => k_is)
    (case mc3 => k_is)
    (case mk3 => k_is)
    (case mi3 => k_is)
    (case ma4 => k_is)
    (case ml4 => k_is)
    (case mc4 => k_is)
    (case mk4 => k_is)
    (case mi4 => k_is)
    (case ma5 => k_is)
    (case ml5 => k_is)
    (case mc5 => k_is)
    (case mk5 => k_is)
    (case mi5 => k_is)
    (case tP => exact PySem.W.km_tabs_of Y _ (List.mem_cons_of_mem _ (List.mem_cons_self ..)))
    (case tD => exact PySem.W.km_tabs_of Y _ (List.mem_cons_self ..))
    (case nP => first | k_is | kernel_rfl)
    (case nD => first | k_is | kernel_rfl)
    (case hP => first | k_is | kernel_rfl)
    (case hD => first | k_is | kernel_rfl)
    (case hPP => decide)

