import PyProof.Rows.All
import Wide.All
import OpenK.AllK
import Wide.FinOn
import HandS.Base
import HandS.Call
import HandS.List
import HandS.Comp
import HandS.Ends
import HandS.Words
import HandS.WordsList
import HandS.Exc
import HandS.ExcOwn
import HandS.TryOnly
import HandS.WordsExc
import HandS.Defaults
import HandS.HeadHook1
import HandS.HeadHook2
import HandS.Wide
import HandS.Style
import HandS.TupAny
import HandS.Gcd
import HandS.IsInst
import HandS.Codes
import HandS.Zip
import HandS.Conv
import HandS.CallSlots
import HandS.ClsMeth
import HandS.HeadNt
import HandS.HeadEnd
import HandS.Head3
import HandS.Steps
import HandS.Iter
import KE.KTupSum
import PySem.Challenge.RW_goodturns_k71_teeth_by_turns
set_option Elab.async false
set_option linter.all false
set_option maxRecDepth 100000
set_option maxHeartbeats 4000000
/-! Pu: a value semantics over the hand layer. Data without a heap, environments by slots, readings as functions. -/
namespace Pu
open PySem PySem.Spec PyProof.Rows L2

/-! ### data -/
inductive D where
  | non | bl (b : Bool) | int (i : Int) | str (s : Str)
  | lst (xs : List D) | tup (xs : List D)
  | ins (c : Str) (ns : List Str) (xs : List D)
  | scr (ns : List Int)

def Ex (H H' : Hp) : Prop := ∀ a o, H a = some o → H' a = some o
theorem Ex.refl (H : Hp) : Ex H H := fun _ _ h => h
theorem Ex.trans {H H1 H2 : Hp} (a : Ex H H1) (b : Ex H1 H2) : Ex H H2 := fun x o h => b x o (a x o h)
theorem Ex.new {H : Hp} {p : Addr} {o : HO} (h : H p = none) : Ex H (upd H p o) := fun a u e => by
  rw [upd_ne (ne_of_none e h)]
  exact e
theorem Ex.upd2 {S H : Hp} {p : Addr} {o : HO} (e : Ex S H) : Ex (upd S p o) (upd H p o) := fun a u h => by
  by_cases hp : a = p
  · subst hp
    rw [upd_same] at h ⊢
    exact h
  · rw [upd_ne hp] at h ⊢
    exact e a u h
theorem Ex.updR {S H : Hp} {p : Addr} {o : HO} (e : Ex S H) (h : S p = none) : Ex S (upd H p o) := fun a u q => by
  rw [upd_ne (ne_of_none q h)]
  exact e a u q
theorem ex_sql {K : PySem.W.Frag} {H H' : Hp} {a : Addr} {xs : List V} (e : Ex H H') (h : SqL K H a xs) : SqL K H' a xs := by
  rcases h with (h | ⟨o, h⟩) | h
  · exact .inl (.inl (e _ _ h))
  · exact .inl (.inr ⟨o, e _ _ h⟩)
  · exact .inr h
theorem ex_sqt {K : PySem.W.Frag} {H H' : Hp} {a : Addr} {xs : List V} (e : Ex H H') (h : SqT K H a xs) : SqT K H' a xs := by
  rcases h with (h | ⟨o, h⟩) | h
  · exact .inl (.inl (e _ _ h))
  · exact .inl (.inr ⟨o, e _ _ h⟩)
  · exact .inr h

/-! ### a value in a heap stands for a datum -/
mutual
def Rep (K : PySem.W.Frag) (S : Hp) : D → V → Prop
  | .non, v => v = .non
  | .bl b, v => v = .bl b
  | .int i, v => v = .int i
  | .str s, v => v = .str s
  | .lst ds, v => ∃ a ws, v = .ref a ∧ S a = some (.lst ws) ∧ Reps K S ds ws
  | .tup ds, v => ∃ a ws, v = .ref a ∧ SqT K S a ws ∧ Reps K S ds ws
  | .ins c ns ds, v => ∃ a dx ws, v = .ref a ∧ S a = some (.ins (He.ga K c) dx (ns.zip ws)) ∧ ns.length = ws.length ∧ Reps K S ds ws
  | .scr ns, v => ∃ a, v = .ref a ∧ SqL K S a (ns.map V.int)
def Reps (K : PySem.W.Frag) (S : Hp) : List D → List V → Prop
  | [], ws => ws = []
  | d :: ds, ws => ∃ v us, ws = v :: us ∧ Rep K S d v ∧ Reps K S ds us
end
mutual
theorem Rep.mono {K : PySem.W.Frag} {S S' : Hp} (e : Ex S S') : ∀ {d : D} {v : V}, Rep K S d v → Rep K S' d v
  | .non, v, h => h
  | .bl b, v, h => h
  | .int i, v, h => h
  | .str s, v, h => h
  | .lst ds, v, h => by
    obtain ⟨a, ws, e1, e2, e3⟩ := h
    exact ⟨a, ws, e1, e _ _ e2, Reps.mono e e3⟩
  | .tup ds, v, h => by
    obtain ⟨a, ws, e1, e2, e3⟩ := h
    exact ⟨a, ws, e1, ex_sqt e e2, Reps.mono e e3⟩
  | .ins c ns ds, v, h => by
    obtain ⟨a, dx, ws, e1, e2, e3, e4⟩ := h
    exact ⟨a, dx, ws, e1, e _ _ e2, e3, Reps.mono e e4⟩
  | .scr ns, v, h => by
    obtain ⟨a, e1, e2⟩ := h
    exact ⟨a, e1, ex_sql e e2⟩
theorem Reps.mono {K : PySem.W.Frag} {S S' : Hp} (e : Ex S S') : ∀ {ds : List D} {ws : List V}, Reps K S ds ws → Reps K S' ds ws
  | [], ws, h => h
  | d :: ds, ws, h => by
    obtain ⟨v, us, e1, e2, e3⟩ := h
    exact ⟨v, us, e1, Rep.mono e e2, Reps.mono e e3⟩
end
section
variable {K : PySem.W.Frag} {S : Hp}
theorem Reps.length : ∀ {ds : List D} {ws : List V}, Reps K S ds ws → ws.length = ds.length
  | [], ws, h => by
    have e : ws = [] := h
    subst e
    rfl
  | d :: ds, ws, h => by
    obtain ⟨v, us, e1, _, e3⟩ := h
    subst e1
    simp [Reps.length e3]
theorem Reps.nil : Reps K S [] [] := rfl
theorem Reps.cons {d : D} {ds : List D} {v : V} {ws : List V} (h : Rep K S d v) (t : Reps K S ds ws) : Reps K S (d :: ds) (v :: ws) := ⟨v, ws, rfl, h, t⟩
theorem Reps.get : ∀ {ds : List D} {ws : List V} {i : Nat} {v : V}, Reps K S ds ws → ws[i]? = some v → ∃ d, ds[i]? = some d ∧ Rep K S d v
  | [], ws, i, v, h, e => by
    have e1 : ws = [] := h
    subst e1
    simp at e
  | d :: ds, ws, 0, v, h, e => by
    obtain ⟨u, us, e1, e2, _⟩ := h
    subst e1
    simp at e
    subst e
    exact ⟨d, rfl, e2⟩
  | d :: ds, ws, i + 1, v, h, e => by
    obtain ⟨u, us, e1, _, e3⟩ := h
    subst e1
    obtain ⟨d', q1, q2⟩ := Reps.get (i := i) e3 (by simpa using e)
    exact ⟨d', by simpa using q1, q2⟩
theorem Reps.getD : ∀ {ds : List D} {ws : List V} {i : Nat} {d : D}, Reps K S ds ws → ds[i]? = some d → ∃ v, ws[i]? = some v ∧ Rep K S d v := fun {ds ws i d} h e => by
  have hl := h.length
  have hi : i < ds.length := (List.getElem?_eq_some_iff.mp e).1
  have hw : i < ws.length := by omega
  obtain ⟨d', q1, q2⟩ := Reps.get (i := i) (v := ws[i]) h (List.getElem?_eq_getElem hw)
  rw [e] at q1
  cases q1
  exact ⟨_, List.getElem?_eq_getElem hw, q2⟩
theorem Reps.append : ∀ {ds es : List D} {ws us : List V}, Reps K S ds ws → Reps K S es us → Reps K S (ds ++ es) (ws ++ us)
  | [], es, ws, us, h, t => by
    have e : ws = [] := h
    subst e
    exact t
  | d :: ds, es, ws, us, h, t => by
    obtain ⟨v, vs, e1, e2, e3⟩ := h
    subst e1
    exact .cons e2 (Reps.append e3 t)
theorem Reps.take : ∀ {ds : List D} {ws : List V} (n : Nat), Reps K S ds ws → Reps K S (ds.take n) (ws.take n)
  | _, _, 0, _ => by simp [Reps]
  | [], ws, n + 1, h => by
    have e : ws = [] := h
    subst e
    exact .nil
  | d :: ds, ws, n + 1, h => by
    obtain ⟨v, vs, e1, e2, e3⟩ := h
    subst e1
    exact .cons e2 (Reps.take n e3)
theorem Reps.drop : ∀ {ds : List D} {ws : List V} (n : Nat), Reps K S ds ws → Reps K S (ds.drop n) (ws.drop n)
  | _, _, 0, h => by simpa using h
  | [], ws, n + 1, h => by
    have e : ws = [] := h
    subst e
    exact .nil
  | d :: ds, ws, n + 1, h => by
    obtain ⟨v, vs, e1, e2, e3⟩ := h
    subst e1
    simpa using Reps.drop n e3
theorem Reps.reverse : ∀ {ds : List D} {ws : List V}, Reps K S ds ws → Reps K S ds.reverse ws.reverse
  | [], ws, h => by
    have e : ws = [] := h
    subst e
    exact .nil
  | d :: ds, ws, h => by
    obtain ⟨v, vs, e1, e2, e3⟩ := h
    subst e1
    rw [List.reverse_cons, List.reverse_cons]
    exact (Reps.reverse e3).append (.cons e2 .nil)
theorem Reps.set {d : D} {v : V} (hd : Rep K S d v) : ∀ {ds : List D} {ws : List V} (i : Nat), Reps K S ds ws → Reps K S (ds.set i d) (ws.set i v)
  | [], ws, i, h => by
    have e : ws = [] := h
    subst e
    exact .nil
  | d' :: ds, ws, 0, h => by
    obtain ⟨u, vs, e1, e2, e3⟩ := h
    subst e1
    exact .cons hd e3
  | d' :: ds, ws, i + 1, h => by
    obtain ⟨u, vs, e1, e2, e3⟩ := h
    subst e1
    exact .cons e2 (Reps.set hd i e3)
theorem Reps.eraseIdx : ∀ {ds : List D} {ws : List V} (i : Nat), Reps K S ds ws → Reps K S (ds.eraseIdx i) (ws.eraseIdx i)
  | [], ws, i, h => by
    have e : ws = [] := h
    subst e
    exact .nil
  | d' :: ds, ws, 0, h => by
    obtain ⟨u, vs, e1, e2, e3⟩ := h
    subst e1
    exact e3
  | d' :: ds, ws, i + 1, h => by
    obtain ⟨u, vs, e1, e2, e3⟩ := h
    subst e1
    exact .cons e2 (Reps.eraseIdx i e3)
end

/-! ### slots -/
inductive Sl where
  | un | im (d : D) | ow (ds : List D) | xo (ds : List D) | pl (k : Nat) (ds : List D) | se (k : Nat) (c : Str) (ns : List Str) (ds : List D)
abbrev Env := List Sl
def Sl.mu : Sl → Bool
  | .ow _ => true
  | .xo _ => true
  | .pl _ _ => true
  | .se _ _ _ _ => true
  | _ => false
structure Fr where
  K : PySem.W.Frag
  pl : List Addr
  xs : List Addr
  H0 : Hp
  S0 : Hp
/-- what may change: the handed lists, the own lists of what runs around -/
def Fr.mut (F : Fr) (a : Addr) : Prop := a ∈ F.pl ∨ a ∈ F.xs
structure FrOk (F : Fr) : Prop where
  sub : Ex F.S0 F.H0
  pls : ∀ a, F.mut a → F.S0 a = none ∧ ∃ o, F.H0 a = some o
def SlOk (F : Fr) (S H : Hp) : Sl → Option (Option V) → Prop
  | .un, _ => True
  | .im d, o => ∃ v, o = some (some v) ∧ Rep F.K S d v
  | .ow ds, o => ∃ a ws, o = some (some (.ref a)) ∧ H a = some (.lst ws) ∧ F.H0 a = none ∧ S a = none ∧ Reps F.K S ds ws
  | .xo ds, o => ∃ a ws, o = some (some (.ref a)) ∧ a ∈ F.xs ∧ H a = some (.lst ws) ∧ Reps F.K S ds ws
  | .pl k ds, o => ∃ a ws, o = some (some (.ref a)) ∧ F.pl[k]? = some a ∧ H a = some (.lst ws) ∧ Reps F.K S ds ws
  | .se k c ns ds, o => ∃ a dx ws, o = some (some (.ref a)) ∧ F.pl[k]? = some a ∧ H a = some (.ins (He.ga F.K c) dx (ns.zip ws)) ∧ ns.length = ws.length ∧ Reps F.K S ds ws
abbrev at_ (E : Env) (i : Nat) : Sl := E.getD i .un
structure Sto (F : Fr) (S H : Hp) (σ : L2.St) (E : Env) : Prop where
  sub : Ex S H
  sub0 : Ex F.S0 S
  new : ∀ a o, S a = some o → F.S0 a = some o ∨ F.H0 a = none
  keep : ∀ a o, F.H0 a = some o → ¬ F.mut a → H a = some o
  plH : ∀ a, F.mut a → ∃ o, H a = some o
  len : σ.length = E.length
  slot : ∀ i, SlOk F S H (at_ E i) σ[i]?
  sep : ∀ i j a, (at_ E i).mu = true → (at_ E j).mu = true → σ[i]? = some (some (.ref a)) → σ[j]? = some (some (.ref a)) → i = j
/-- p is no slot's own list -/
def NoSl (σ : L2.St) (E : Env) (p : Addr) : Prop := ∀ i, (at_ E i).mu = true → σ[i]? ≠ some (some (.ref p))
section
variable {F : Fr} {S H : Hp} {σ : L2.St} {E : Env}
theorem Sto.plS (s : Sto F S H σ E) (fo : FrOk F) {a : Addr} (h : F.mut a) : S a = none := by
  cases q : S a with
  | none => rfl
  | some o =>
    obtain ⟨h1, o', h2⟩ := fo.pls a h
    rcases s.new a o q with z | z
    · rw [h1] at z
      cases z
    · rw [h2] at z
      cases z
/-- the address of a slot's own object -/
theorem Sto.muAt (s : Sto F S H σ E) (fo : FrOk F) {i : Nat} {a : Addr} (hm : (at_ E i).mu = true) (hv : σ[i]? = some (some (.ref a))) : S a = none ∧ (∃ o, H a = some o) ∧ (F.H0 a = none ∨ F.mut a) := by
  have h := s.slot i
  cases e : at_ E i with
  | un => rw [e] at hm; cases hm
  | im d => rw [e] at hm; cases hm
  | ow ds =>
    rw [e] at h
    obtain ⟨b, ws, q1, q2, q3, q4, _⟩ := h
    rw [hv] at q1
    cases q1
    exact ⟨q4, ⟨_, q2⟩, .inl q3⟩
  | xo ds =>
    rw [e] at h
    obtain ⟨b, ws, q1, q2, q3, _⟩ := h
    rw [hv] at q1
    cases q1
    exact ⟨s.plS fo (.inr q2), ⟨_, q3⟩, .inr (.inr q2)⟩
  | pl k ds =>
    rw [e] at h
    obtain ⟨b, ws, q1, q2, q3, _⟩ := h
    rw [hv] at q1
    cases q1
    have hb : F.mut _ := .inl (List.mem_of_getElem? q2)
    exact ⟨s.plS fo hb, ⟨_, q3⟩, .inr hb⟩
  | se k c ns ds =>
    rw [e] at h
    obtain ⟨b, dx, ws, q1, q2, q3, _⟩ := h
    rw [hv] at q1
    cases q1
    have hb : F.mut _ := .inl (List.mem_of_getElem? q2)
    exact ⟨s.plS fo hb, ⟨_, q3⟩, .inr hb⟩
theorem Sto.noSl_of_none (s : Sto F S H σ E) (fo : FrOk F) {p : Addr} (h : H p = none) : NoSl σ E p := fun i hm hv => by
  obtain ⟨_, ⟨o, q⟩, _⟩ := s.muAt fo hm hv
  rw [h] at q
  cases q
theorem Sto.H0_none (s : Sto F S H σ E) {p : Addr} (h : H p = none) : F.H0 p = none := by
  cases q : F.H0 p with
  | none => rfl
  | some o =>
    by_cases hp : F.mut p
    · obtain ⟨o', q'⟩ := s.plH p hp
      rw [h] at q'
      cases q'
    · have := s.keep p o q hp
      rw [h] at this
      cases this
theorem Sto.S_none (s : Sto F S H σ E) {p : Addr} (h : H p = none) : S p = none := by
  cases q : S p with
  | none => rfl
  | some o =>
    have := s.sub p o q
    rw [h] at this
    cases this
theorem SlOk.grow {S' H' : Hp} {x : Sl} {o : Option (Option V)} (h : SlOk F S H x o) (eS : Ex S S') (hH : ∀ a, o = some (some (.ref a)) → x.mu = true → H' a = H a ∧ S' a = none) : SlOk F S' H' x o := by
  cases x with
  | un => trivial
  | im d =>
    obtain ⟨v, q1, q2⟩ := h
    exact ⟨v, q1, q2.mono eS⟩
  | ow ds =>
    obtain ⟨a, ws, q1, q2, q3, q4, q5⟩ := h
    obtain ⟨z1, z2⟩ := hH a q1 rfl
    exact ⟨a, ws, q1, z1.trans q2, q3, z2, q5.mono eS⟩
  | xo ds =>
    obtain ⟨a, ws, q1, q2, q3, q4⟩ := h
    obtain ⟨z1, z2⟩ := hH a q1 rfl
    exact ⟨a, ws, q1, q2, z1.trans q3, q4.mono eS⟩
  | pl k ds =>
    obtain ⟨a, ws, q1, q2, q3, q4⟩ := h
    obtain ⟨z1, z2⟩ := hH a q1 rfl
    exact ⟨a, ws, q1, q2, z1.trans q3, q4.mono eS⟩
  | se k c ns ds =>
    obtain ⟨a, dx, ws, q1, q2, q3, q4, q5⟩ := h
    obtain ⟨z1, z2⟩ := hH a q1 rfl
    exact ⟨a, dx, ws, q1, q2, z1.trans q3, q4, q5.mono eS⟩
/-- a new object, known to none -/
theorem Sto.alloc (s : Sto F S H σ E) (fo : FrOk F) {p : Addr} {o : HO} (h : H p = none) : Sto F S (upd H p o) σ E where
  sub := s.sub.updR (s.S_none h)
  sub0 := s.sub0
  new := s.new
  keep := fun a u q n => (Ex.new h) a u (s.keep a u q n)
  plH := fun a q => let ⟨u, z⟩ := s.plH a q; ⟨u, (Ex.new h) a u z⟩
  len := s.len
  slot := fun i => (s.slot i).grow (Ex.refl S) fun a q m => by
    obtain ⟨z1, ⟨u, z2⟩, _⟩ := s.muAt fo m q
    exact ⟨upd_ne (ne_of_none z2 h), z1⟩
  sep := s.sep
/-- it is from now on as it is -/
theorem Sto.freeze (s : Sto F S H σ E) (fo : FrOk F) {p : Addr} {o : HO} (h : H p = some o) (h0 : F.H0 p = none) (hS : S p = none) (hn : NoSl σ E p) : Sto F (upd S p o) H σ E where
  sub := fun a u q => by
    by_cases e : a = p
    · subst e
      rw [upd_same] at q
      cases q
      exact h
    · rw [upd_ne e] at q
      exact s.sub a u q
  sub0 := s.sub0.trans (Ex.new hS)
  new := fun a u q => by
    by_cases e : a = p
    · subst e
      exact .inr h0
    · rw [upd_ne e] at q
      exact s.new a u q
  keep := s.keep
  plH := s.plH
  len := s.len
  slot := fun i => (s.slot i).grow (Ex.new hS) fun a q m => by
    refine ⟨rfl, ?_⟩
    have ne : a ≠ p := fun e => hn i m (by rw [← e]; exact q)
    rw [upd_ne ne]
    exact (s.muAt fo m q).1
  sep := s.sep
/-- slot i is set -/
theorem at_set {E : Env} {i j : Nat} {x : Sl} (hi : i < E.length) : at_ (E.set i x) j = if j = i then x else at_ E j := by
  unfold at_
  rw [List.getD_eq_getElem?_getD, List.getD_eq_getElem?_getD, List.getElem?_set]
  by_cases h : i = j
  · subst h
    rw [if_pos rfl, if_pos rfl, if_pos hi]
    rfl
  · rw [if_neg h, if_neg (Ne.symm h)]
theorem st_set {σ : L2.St} {i j : Nat} {v : V} (hi : i < σ.length) : (σ.set i (some v))[j]? = if j = i then some (some v) else σ[j]? := by
  rw [List.getElem?_set]
  by_cases h : i = j
  · subst h
    rw [if_pos rfl, if_pos rfl, if_pos hi]
  · rw [if_neg h, if_neg (Ne.symm h)]
theorem Sto.setSlot (s : Sto F S H σ E) {i : Nat} {x : Sl} {v : V} (hi : i < E.length) (hx : SlOk F S H x (some (some v))) (hn : x.mu = true → ∀ a, v = .ref a → NoSl σ E a) : Sto F S H (σ.set i (some v)) (E.set i x) where
  sub := s.sub
  sub0 := s.sub0
  new := s.new
  keep := s.keep
  plH := s.plH
  len := by rw [List.length_set, List.length_set]; exact s.len
  slot := fun j => by
    rw [at_set hi, st_set (by rw [s.len]; exact hi)]
    by_cases h : j = i
    · rw [if_pos h, if_pos h]
      exact hx
    · rw [if_neg h, if_neg h]
      exact s.slot j
  sep := fun j k a m1 m2 v1 v2 => by
    rw [at_set hi] at m1 m2
    rw [st_set (by rw [s.len]; exact hi)] at v1 v2
    by_cases h1 : j = i
    · rw [if_pos h1] at m1 v1
      by_cases h2 : k = i
      · rw [h1, h2]
      · rw [if_neg h2] at m2 v2
        have e : v = .ref a := by
          have z := Option.some.inj v1
          exact Option.some.inj z
        exact absurd v2 (hn m1 a e k m2)
    · rw [if_neg h1] at m1 v1
      by_cases h2 : k = i
      · rw [if_pos h2] at m2 v2
        have e : v = .ref a := by
          have z := Option.some.inj v2
          exact Option.some.inj z
        exact absurd v1 (hn m2 a e j m1)
      · rw [if_neg h2] at m2 v2
        exact s.sep j k a m1 m2 v1 v2
/-- the object of slot i is changed: the list at a becomes ws' -/
theorem Sto.change (s : Sto F S H σ E) (fo : FrOk F) {i : Nat} {a : Addr} {o : HO} {x' : Sl} (hi : i < E.length) (hm : (at_ E i).mu = true) (hv : σ[i]? = some (some (.ref a))) (hx : SlOk F S (upd H a o) x' (some (some (.ref a)))) (hmu : x'.mu = true) : Sto F S (upd H a o) σ (E.set i x') := by
  obtain ⟨z1, ⟨u, z2⟩, z3⟩ := s.muAt fo hm hv
  refine ⟨s.sub.updR z1, s.sub0, s.new, fun b w q n => ?_, fun b q => ?_, by rw [List.length_set]; exact s.len, fun j => ?_, fun j k b m1 m2 v1 v2 => ?_⟩
  · have ne : b ≠ a := fun e => by
      subst e
      rcases z3 with z | z
      · rw [q] at z
        cases z
      · exact n z
    rw [upd_ne ne]
    exact s.keep b w q n
  · by_cases e : b = a
    · exact ⟨o, by rw [e, upd_same]⟩
    · rw [upd_ne e]
      exact s.plH b q
  · rw [at_set hi]
    by_cases h : j = i
    · rw [if_pos h, h, hv]
      exact hx
    · rw [if_neg h]
      refine (s.slot j).grow (Ex.refl S) fun b q m => ?_
      have ne : b ≠ a := fun e => h (s.sep j i a m hm (by rw [← e]; exact q) hv)
      exact ⟨upd_ne ne, (s.muAt fo m q).1⟩
  · rw [at_set hi] at m1 m2
    refine s.sep j k b ?_ ?_ v1 v2
    · by_cases h : j = i
      · rw [h]; exact hm
      · rw [if_neg h] at m1; exact m1
    · by_cases h : k = i
      · rw [h]; exact hm
      · rw [if_neg h] at m2; exact m2
/-- slot i's own list is own no more: it stands as it is -/
theorem Sto.fixSlot (s : Sto F S H σ E) (fo : FrOk F) {i : Nat} {ds : List D} (hi : i < E.length) (he : at_ E i = .ow ds) : ∃ S', Ex S S' ∧ Sto F S' H σ (E.set i (.im (.lst ds))) ∧ (∀ v, σ[i]? = some (some v) → Rep F.K S' (.lst ds) v) := by
  have h := s.slot i
  rw [he] at h
  obtain ⟨a, ws, q1, q2, q3, q4, q5⟩ := h
  have hm : (at_ E i).mu = true := by rw [he]; rfl
  have r : Rep F.K (upd S a (.lst ws)) (.lst ds) (.ref a) := ⟨a, ws, rfl, upd_same, q5.mono (Ex.new q4)⟩
  refine ⟨upd S a (.lst ws), Ex.new q4, ⟨fun b u q => ?_, s.sub0.trans (Ex.new q4), fun b u q => ?_, s.keep, s.plH, by rw [List.length_set]; exact s.len, fun j => ?_, fun j k b m1 m2 v1 v2 => ?_⟩, fun v hv => ?_⟩
  · by_cases e : b = a
    · subst e
      rw [upd_same] at q
      cases q
      exact q2
    · rw [upd_ne e] at q
      exact s.sub b u q
  · by_cases e : b = a
    · subst e
      exact .inr q3
    · rw [upd_ne e] at q
      exact s.new b u q
  · rw [at_set hi]
    by_cases h : j = i
    · rw [if_pos h, h, q1]
      exact ⟨_, rfl, r⟩
    · rw [if_neg h]
      refine (s.slot j).grow (Ex.new q4) fun b q m => ⟨rfl, ?_⟩
      have ne : b ≠ a := fun e => h (s.sep j i a m hm (by rw [← e]; exact q) q1)
      rw [upd_ne ne]
      exact (s.muAt fo m q).1
  · rw [at_set hi] at m1 m2
    by_cases h : j = i
    · rw [if_pos h] at m1; cases m1
    · by_cases h2 : k = i
      · rw [if_pos h2] at m2; cases m2
      · rw [if_neg h] at m1
        rw [if_neg h2] at m2
        exact s.sep j k b m1 m2 v1 v2
  · rw [q1] at hv
    cases hv
    exact r
end
end Pu
set_option Elab.async false
set_option linter.all false
set_option maxRecDepth 100000
set_option maxHeartbeats 4000000
/-! Pu: outcomes, what a reading must do. -/
namespace Pu
open PySem PySem.Spec PyProof.Rows L2

/-- an exception: its class by name, its fields -/
structure Xc where
  c : Str
  ns : List Str
  xs : List D
inductive Out (α : Type) where
  | ok (a : α) (E : Env) | exc (x : Xc) (E : Env) | stuck
abbrev M (α : Type) := Env → Out α
/-- a value: a datum, or what slot i holds -/
inductive R where
  | im (d : D) | sl (i : Nat)
inductive Rt where
  | im (d : D) | ow (ds : List D)
inductive Fl where
  | nx | rt (r : Rt) | bk | ct
def Out.map {α β : Type} (f : α → β) : Out α → Out β
  | .ok a E => .ok (f a) E
  | .exc x E => .exc x E
  | .stuck => .stuck
def mP {α : Type} (a : α) : M α := fun E => .ok a E
def mB {α β : Type} (m : M α) (k : α → M β) : M β := fun E => match m E with
  | .ok a E' => k a E'
  | .exc x E' => .exc x E'
  | .stuck => .stuck
def mO {α : Type} (o : Option α) : M α := fun E => match o with
  | some a => .ok a E
  | none => .stuck
def rdR (E : Env) : R → Option D
  | .im d => some d
  | .sl i => match at_ E i with
    | .im d => some d
    | .ow ds => some (.lst ds)
    | .xo ds => some (.lst ds)
    | .pl _ ds => some (.lst ds)
    | _ => none
def mRd (r : R) : M D := fun E => match rdR E r with
  | some d => .ok d E
  | none => .stuck
def XOk (K : PySem.W.Frag) (S : Hp) (x : Xc) (cls : Value) (d : Option Addr) : Prop :=
  cls = .ref (He.ga K x.c) ∧ (x.ns = [] ∨ ∃ dd ws, d = some dd ∧ S dd = some (.xd (x.ns.zip ws)) ∧ x.ns.length = ws.length ∧ Reps K S x.xs ws)
theorem XOk.mono {K : PySem.W.Frag} {S S' : Hp} {x : Xc} {cls : Value} {d : Option Addr} (e : Ex S S') (h : XOk K S x cls d) : XOk K S' x cls d := by
  obtain ⟨h1, h2⟩ := h
  refine ⟨h1, ?_⟩
  rcases h2 with h2 | ⟨dd, ws, q1, q2, q3, q4⟩
  · exact .inl h2
  · exact .inr ⟨dd, ws, q1, e _ _ q2, q3, q4.mono e⟩
def RepR (F : Fr) (S : Hp) (σ : L2.St) : R → V → Prop
  | .im d, v => Rep F.K S d v
  | .sl i, v => σ[i]? = some (some v)
theorem RepR.mono {F : Fr} {S S' : Hp} {σ : L2.St} (e : Ex S S') : ∀ {r : R} {v : V}, RepR F S σ r v → RepR F S' σ r v
  | .im _, _, h => Rep.mono e h
  | .sl _, _, h => h
/-- as it is read now: a list may be a slot's own -/
def RdOk (K : PySem.W.Frag) (S H : Hp) : D → V → Prop
  | .lst ds, v => ∃ a ws, v = .ref a ∧ H a = some (.lst ws) ∧ Reps K S ds ws
  | d, v => Rep K S d v
theorem RdOk.of {K : PySem.W.Frag} {S H : Hp} (e : Ex S H) : ∀ {d : D} {v : V}, Rep K S d v → RdOk K S H d v
  | .lst ds, v, h => by
    obtain ⟨a, ws, q1, q2, q3⟩ := h
    exact ⟨a, ws, q1, e _ _ q2, q3⟩
  | .non, _, h => h
  | .bl _, _, h => h
  | .int _, _, h => h
  | .str _, _, h => h
  | .tup _, _, h => h
  | .ins _ _ _, _, h => h
  | .scr _, _, h => h
section
variable {F : Fr} {S H : Hp} {σ : L2.St} {E : Env}
theorem rd_ok (s : Sto F S H σ E) {r : R} {v : V} {d : D} (h : RepR F S σ r v) (e : rdR E r = some d) : RdOk F.K S H d v := by
  cases r with
  | im d' =>
    cases e
    exact .of s.sub h
  | sl i =>
    have z := s.slot i
    have hv : σ[i]? = some (some v) := h
    cases q : at_ E i with
    | un => simp only [rdR, q] at e; cases e
    | im d' =>
      simp only [rdR, q] at e
      rw [q] at z
      cases e
      obtain ⟨u, q1, q2⟩ := z
      rw [hv] at q1
      cases q1
      exact .of s.sub q2
    | ow ds =>
      simp only [rdR, q] at e
      rw [q] at z
      cases e
      obtain ⟨a, ws, q1, q2, _, _, q5⟩ := z
      rw [hv] at q1
      cases q1
      exact ⟨a, ws, rfl, q2, q5⟩
    | xo ds =>
      simp only [rdR, q] at e
      rw [q] at z
      cases e
      obtain ⟨a, ws, q1, _, q2, q5⟩ := z
      rw [hv] at q1
      cases q1
      exact ⟨a, ws, rfl, q2, q5⟩
    | pl k ds =>
      simp only [rdR, q] at e
      rw [q] at z
      cases e
      obtain ⟨a, ws, q1, _, q2, q5⟩ := z
      rw [hv] at q1
      cases q1
      exact ⟨a, ws, rfl, q2, q5⟩
    | se k c ns ds => simp only [rdR, q] at e; cases e
end
/-! ### what a reading must do -/
def OkE (F : Fr) (S : Hp) (σ : L2.St) (W : WX) (o : Out R) (Q : VK) : Prop := match o with
  | .ok r E' => ∀ S' H' v, Ex S S' → Sto F S' H' σ E' → RepR F S' σ r v → Q v H'
  | .exc x E' => ∀ S' H' cls d, Ex S S' → Sto F S' H' σ E' → XOk F.K S' x cls d → W cls d σ H'
  | .stuck => False
structure SimE (K : PySem.W.Frag) (W : WX) (t : TE) (m : M R) : Prop where
  run : ∀ (F : Fr) (S H : Hp) (σ : L2.St) (E : Env) (Q : VK), F.K = K → FrOk F → Sto F S H σ E → OkE F S σ W (m E) Q → t σ H Q
/-- a new list -/
def OkL (F : Fr) (S : Hp) (σ : L2.St) (W : WX) (o : Out (List D)) (Q : VK) : Prop := match o with
  | .ok ds E' => ∀ S' H' p ws, Ex S S' → Sto F S' H' σ E' → H' p = some (.lst ws) → Reps F.K S' ds ws → F.H0 p = none → S' p = none → NoSl σ E' p → Q (.ref p) H'
  | .exc x E' => ∀ S' H' cls d, Ex S S' → Sto F S' H' σ E' → XOk F.K S' x cls d → W cls d σ H'
  | .stuck => False
structure SimL (K : PySem.W.Frag) (W : WX) (t : TE) (m : M (List D)) : Prop where
  run : ∀ (F : Fr) (S H : Hp) (σ : L2.St) (E : Env) (Q : VK), F.K = K → FrOk F → Sto F S H σ E → OkL F S σ W (m E) Q → t σ H Q
def OkT (F : Fr) (S : Hp) (σ : L2.St) (W : WX) (o : Out Bool) (Q : Bool → Hp → Prop) : Prop := match o with
  | .ok b E' => ∀ S' H', Ex S S' → Sto F S' H' σ E' → Q b H'
  | .exc x E' => ∀ S' H' cls d, Ex S S' → Sto F S' H' σ E' → XOk F.K S' x cls d → W cls d σ H'
  | .stuck => False
structure SimT (K : PySem.W.Frag) (W : WX) (t : TT) (m : M Bool) : Prop where
  run : ∀ (F : Fr) (S H : Hp) (σ : L2.St) (E : Env) (Q : Bool → Hp → Prop), F.K = K → FrOk F → Sto F S H σ E → OkT F S σ W (m E) Q → t σ H Q
inductive RepRs (F : Fr) (S : Hp) (σ : L2.St) : List R → List V → Prop
  | nil : RepRs F S σ [] []
  | cons {r v rs vs} : RepR F S σ r v → RepRs F S σ rs vs → RepRs F S σ (r :: rs) (v :: vs)
def OkA (F : Fr) (S : Hp) (σ : L2.St) (W : WX) (o : Out (List R)) (Q : List V → Hp → Prop) : Prop := match o with
  | .ok rs E' => ∀ S' H' vs, Ex S S' → Sto F S' H' σ E' → RepRs F S' σ rs vs → Q vs H'
  | .exc x E' => ∀ S' H' cls d, Ex S S' → Sto F S' H' σ E' → XOk F.K S' x cls d → W cls d σ H'
  | .stuck => False
structure SimA (K : PySem.W.Frag) (W : WX) (t : TA) (m : M (List R)) : Prop where
  run : ∀ (F : Fr) (S H : Hp) (σ : L2.St) (E : Env) (Q : List V → Hp → Prop), F.K = K → FrOk F → Sto F S H σ E → OkA F S σ W (m E) Q → t σ H Q
def RtOk (F : Fr) (S H : Hp) : Rt → V → Prop
  | .im d, v => Rep F.K S d v
  | .ow ds, v => ∃ a ws, v = .ref a ∧ H a = some (.lst ws) ∧ Reps F.K S ds ws ∧ F.H0 a = none ∧ S a = none
def OkS (F : Fr) (S : Hp) (W : WX) (o : Out Fl) (D : Ends) : Prop := match o with
  | .ok .nx E' => ∀ S' H' σ', Ex S S' → Sto F S' H' σ' E' → D.nx σ' H'
  | .ok (.rt r) E' => ∀ S' H' σ' v, Ex S S' → Sto F S' H' σ' E' → RtOk F S' H' r v → D.rt v H'
  | .ok .bk E' => ∀ S' H' σ', Ex S S' → Sto F S' H' σ' E' → D.bk σ' H'
  | .ok .ct E' => ∀ S' H' σ', Ex S S' → Sto F S' H' σ' E' → D.ct σ' H'
  | .exc x E' => ∀ S' H' σ' cls d, Ex S S' → Sto F S' H' σ' E' → XOk F.K S' x cls d → W cls d σ' H'
  | .stuck => False
structure SimS (K : PySem.W.Frag) (W : WX) (t : TS) (m : M Fl) : Prop where
  run : ∀ (F : Fr) (S H : Hp) (σ : L2.St) (E : Env) (D : Ends), F.K = K → FrOk F → Sto F S H σ E → OkS F S W (m E) D → t D σ H
section
variable {F : Fr} {S S1 : Hp} {σ : L2.St} {W : WX}
theorem OkE.mono {o : Out R} {Q : VK} (e : Ex S S1) (h : OkE F S σ W o Q) : OkE F S1 σ W o Q := by
  cases o with
  | ok r E' => exact fun S' H' v e' => h S' H' v (e.trans e')
  | exc x E' => exact fun S' H' cls d e' => h S' H' cls d (e.trans e')
  | stuck => exact h
theorem OkL.mono {o : Out (List D)} {Q : VK} (e : Ex S S1) (h : OkL F S σ W o Q) : OkL F S1 σ W o Q := by
  cases o with
  | ok r E' => exact fun S' H' p ws e' => h S' H' p ws (e.trans e')
  | exc x E' => exact fun S' H' cls d e' => h S' H' cls d (e.trans e')
  | stuck => exact h
theorem OkT.mono {o : Out Bool} {Q : Bool → Hp → Prop} (e : Ex S S1) (h : OkT F S σ W o Q) : OkT F S1 σ W o Q := by
  cases o with
  | ok r E' => exact fun S' H' e' => h S' H' (e.trans e')
  | exc x E' => exact fun S' H' cls d e' => h S' H' cls d (e.trans e')
  | stuck => exact h
theorem OkA.mono {o : Out (List R)} {Q : List V → Hp → Prop} (e : Ex S S1) (h : OkA F S σ W o Q) : OkA F S1 σ W o Q := by
  cases o with
  | ok r E' => exact fun S' H' vs e' => h S' H' vs (e.trans e')
  | exc x E' => exact fun S' H' cls d e' => h S' H' cls d (e.trans e')
  | stuck => exact h
theorem OkS.mono {o : Out Fl} {D : Ends} (e : Ex S S1) (h : OkS F S W o D) : OkS F S1 W o D := by
  cases o with
  | ok f E' =>
    cases f with
    | nx => exact fun S' H' σ' e' => h S' H' σ' (e.trans e')
    | rt r => exact fun S' H' σ' v e' => h S' H' σ' v (e.trans e')
    | bk => exact fun S' H' σ' e' => h S' H' σ' (e.trans e')
    | ct => exact fun S' H' σ' e' => h S' H' σ' (e.trans e')
  | exc x E' => exact fun S' H' σ' cls d e' => h S' H' σ' cls d (e.trans e')
  | stuck => exact h
theorem RepRs.mono {rs : List R} {vs : List V} (e : Ex S S1) (h : RepRs F S σ rs vs) : RepRs F S1 σ rs vs := by
  induction h with
  | nil => exact .nil
  | cons a _ ih => exact .cons (a.mono e) ih
end
/-! ### binding -/
/-- behind an expression comes k -/
theorem OkE.bind {F : Fr} {S H : Hp} {σ : L2.St} {E : Env} {W : WX} {K : PySem.W.Frag} {t : TE} {m : M R} (s : SimE K W t m) (hK : F.K = K) (fo : FrOk F) (st : Sto F S H σ E)
    {Q : VK} (hok : ∀ r E', m E = .ok r E' → ∀ S' H' v, Ex S S' → Sto F S' H' σ E' → RepR F S' σ r v → Q v H')
    (hex : ∀ x E', m E = .exc x E' → ∀ S' H' cls d, Ex S S' → Sto F S' H' σ E' → XOk F.K S' x cls d → W cls d σ H') (hst : m E ≠ .stuck) : t σ H Q := by
  refine s.run F S H σ E Q hK fo st ?_
  cases e : m E with
  | ok r E' => exact hok r E' e
  | exc x E' => exact hex x E' e
  | stuck => exact absurd e hst
/-! ### names, constants -/
def mVar (i : Nat) : M R := fun E => match at_ E i with
  | .im d => .ok (.im d) E
  | .un => .stuck
  | _ => .ok (.sl i) E
def mC (d : D) : M R := fun E => .ok (.im d) E
section
variable {K : PySem.W.Frag} {W : WX}
theorem sim_var (i : Nat) : SimE K W (tVar i) (mVar i) := ⟨fun F S H σ E Q hK fo st h => by
  have z := st.slot i
  unfold mVar at h
  cases q : at_ E i with
  | un => rw [q] at h; exact h.elim
  | im d =>
    rw [q] at h z
    obtain ⟨v, q1, q2⟩ := z
    exact ⟨v, q1, h S H v (Ex.refl S) st q2⟩
  | ow ds =>
    rw [q] at h z
    obtain ⟨a, ws, q1, _⟩ := z
    exact ⟨_, q1, h S H _ (Ex.refl S) st q1⟩
  | xo ds =>
    rw [q] at h z
    obtain ⟨a, ws, q1, _⟩ := z
    exact ⟨_, q1, h S H _ (Ex.refl S) st q1⟩
  | pl k ds =>
    rw [q] at h z
    obtain ⟨a, ws, q1, _⟩ := z
    exact ⟨_, q1, h S H _ (Ex.refl S) st q1⟩
  | se k c ns ds =>
    rw [q] at h z
    obtain ⟨a, dx, ws, q1, _⟩ := z
    exact ⟨_, q1, h S H _ (Ex.refl S) st q1⟩⟩
theorem sim_c {v : V} {d : D} (h : ∀ K S, Rep K S d v) : SimE K W (tC v) (mC d) := ⟨fun F S H σ E Q hK fo st q => q S H v (Ex.refl S) st (h _ _)⟩
theorem sim_int {i : Int} : SimE K W (tC (.int i)) (mC (.int i)) := sim_c fun _ _ => rfl
theorem sim_bl {i : Bool} : SimE K W (tC (.bl i)) (mC (.bl i)) := sim_c fun _ _ => rfl
theorem sim_non : SimE K W (tC .non) (mC .non) := sim_c fun _ _ => rfl
theorem sim_str {i : Str} : SimE K W (tC (.str i)) (mC (.str i)) := sim_c fun _ _ => rfl
/-! ### two operands -/
def mR2 (a b : M R) (k : D → D → M R) : M R := mB a fun x => mB b fun y => mB (mRd x) fun d => mB (mRd y) fun e => k d e
/-- r gives a value that is known -/
def Op2V (r : R2) (f : D → D → Option D) : Prop := ∀ (K : PySem.W.Frag) (S H : Hp) (x y : V) (d e z : D) (Q : VK), Ex S H → RdOk K S H d x → RdOk K S H e y → f d e = some z → (∀ v, Rep K S z v → Q v H) → r x y H Q
def mOp2 (f : D → D → Option D) (a b : M R) : M R := mR2 a b fun d e => mB (mO (f d e)) fun z => mP (.im z)
theorem OkE.two {F : Fr} {S H : Hp} {σ : L2.St} {E : Env} {Q : VK} {ta tb : TE} {ma mb : M R} {k : D → D → M R} {r : R2} (sa : SimE K W ta ma) (sb : SimE K W tb mb) (hK : F.K = K) (fo : FrOk F) (st : Sto F S H σ E) (h : OkE F S σ W (mR2 ma mb k E) Q)
    (hr : ∀ S' H' E' x y d e, Ex S S' → Sto F S' H' σ E' → RdOk F.K S' H' d x → RdOk F.K S' H' e y → OkE F S' σ W (k d e E') Q → r x y H' Q) : tOp r ta tb σ H Q := by
  unfold mR2 mB at h
  refine OkE.bind sa hK fo st ?_ ?_ ?_
  · intro ra E1 e1 S1 H1 x x1 st1 rx
    rw [e1] at h
    dsimp only at h
    refine OkE.bind sb hK fo st1 ?_ ?_ ?_
    · intro rb E2 e2 S2 H2 y x2 st2 ry
      rw [e2] at h
      dsimp only at h
      unfold mRd at h
      cases q1 : rdR E2 ra with
      | none => rw [q1] at h; exact h.elim
      | some d =>
        rw [q1] at h
        dsimp only at h
        cases q2 : rdR E2 rb with
        | none => rw [q2] at h; exact h.elim
        | some e =>
          rw [q2] at h
          exact hr S2 H2 E2 x y d e (x1.trans x2) st2 (rd_ok st2 (rx.mono x2) q1) (rd_ok st2 ry q2) (h.mono (x1.trans x2))
    · intro xx E2 e2 S2 H2 cls d x2 st2 rx2
      rw [e2] at h
      exact h S2 H2 cls d (x1.trans x2) st2 rx2
    · intro e2
      rw [e2] at h
      exact h
  · intro xx E2 e2 S2 H2 cls d x2 st2 rx2
    rw [e2] at h
    exact h S2 H2 cls d x2 st2 rx2
  · intro e2
    rw [e2] at h
    exact h
theorem sim_op2 {r : R2} {f : D → D → Option D} {ta tb : TE} {ma mb : M R} (hr : Op2V r f) (sa : SimE K W ta ma) (sb : SimE K W tb mb) : SimE K W (tOp r ta tb) (mOp2 f ma mb) := ⟨fun F S H σ E Q hK fo st h =>
  OkE.two sa sb hK fo st h fun S' H' E' x y d e ex st' dx ey h' => by
    unfold mB mO at h'
    cases q : f d e with
    | none => rw [q] at h'; exact h'.elim
    | some z =>
      rw [q] at h'
      exact hr F.K S' H' x y d e z Q st'.sub dx ey q fun v rv => h' S' H' v (Ex.refl S') st' rv⟩
end
end Pu
set_option Elab.async false
set_option linter.all false
set_option maxRecDepth 100000
set_option maxHeartbeats 4000000
/-! Pu: tests, statements, loops. -/
namespace Pu
open PySem PySem.Spec PyProof.Rows L2
section
variable {K : PySem.W.Frag} {W : WX}
/-! ### binds, for readings -/
theorem OkL.bind {F : Fr} {S H : Hp} {σ : L2.St} {E : Env} {t : TE} {m : M (List D)} (s : SimL K W t m) (hK : F.K = K) (fo : FrOk F) (st : Sto F S H σ E)
    {Q : VK} (hok : ∀ ds E', m E = .ok ds E' → ∀ S' H' p ws, Ex S S' → Sto F S' H' σ E' → H' p = some (.lst ws) → Reps F.K S' ds ws → F.H0 p = none → S' p = none → NoSl σ E' p → Q (.ref p) H')
    (hex : ∀ x E', m E = .exc x E' → ∀ S' H' cls d, Ex S S' → Sto F S' H' σ E' → XOk F.K S' x cls d → W cls d σ H') (hst : m E ≠ .stuck) : t σ H Q := by
  refine s.run F S H σ E Q hK fo st ?_
  cases e : m E with
  | ok r E' => exact hok r E' e
  | exc x E' => exact hex x E' e
  | stuck => exact absurd e hst
theorem OkT.bind {F : Fr} {S H : Hp} {σ : L2.St} {E : Env} {t : TT} {m : M Bool} (s : SimT K W t m) (hK : F.K = K) (fo : FrOk F) (st : Sto F S H σ E)
    {Q : Bool → Hp → Prop} (hok : ∀ b E', m E = .ok b E' → ∀ S' H', Ex S S' → Sto F S' H' σ E' → Q b H')
    (hex : ∀ x E', m E = .exc x E' → ∀ S' H' cls d, Ex S S' → Sto F S' H' σ E' → XOk F.K S' x cls d → W cls d σ H') (hst : m E ≠ .stuck) : t σ H Q := by
  refine s.run F S H σ E Q hK fo st ?_
  cases e : m E with
  | ok r E' => exact hok r E' e
  | exc x E' => exact hex x E' e
  | stuck => exact absurd e hst
theorem OkA.bind {F : Fr} {S H : Hp} {σ : L2.St} {E : Env} {t : TA} {m : M (List R)} (s : SimA K W t m) (hK : F.K = K) (fo : FrOk F) (st : Sto F S H σ E)
    {Q : List V → Hp → Prop} (hok : ∀ rs E', m E = .ok rs E' → ∀ S' H' vs, Ex S S' → Sto F S' H' σ E' → RepRs F S' σ rs vs → Q vs H')
    (hex : ∀ x E', m E = .exc x E' → ∀ S' H' cls d, Ex S S' → Sto F S' H' σ E' → XOk F.K S' x cls d → W cls d σ H') (hst : m E ≠ .stuck) : t σ H Q := by
  refine s.run F S H σ E Q hK fo st ?_
  cases e : m E with
  | ok r E' => exact hok r E' e
  | exc x E' => exact hex x E' e
  | stuck => exact absurd e hst
/-! ### tests -/
def mBool (m : M R) : M Bool := mB m fun r => match r with
  | .im (.bl b) => mP b
  | _ => fun _ => .stuck
def mCond {α : Type} (k : Bool) (a b : M α) : M α := match k with
  | true => a
  | false => b
def mNotT (m : M Bool) : M Bool := mB m fun b => mP (!b)
def mAndT (a b : M Bool) : M Bool := mB a fun c => mCond c b (mP false)
def mOrT (a b : M Bool) : M Bool := mB a fun c => mCond c (mP true) b
def mOfT (m : M Bool) : M R := mB m fun b => mP (.im (.bl b))
theorem simT_B {t : TE} {m : M R} (s : SimE K W t m) : SimT K W (tB t) (mBool m) := ⟨fun F S H σ E Q hK fo st h => by
  unfold mBool mB at h
  refine OkE.bind (Q := fun x H1 => ∃ c, x = .bl c ∧ Q c H1) s hK fo st (fun r E1 e1 S1 H1 v x1 st1 rv => ?_) (fun x E1 e1 S1 H1 cls d x1 st1 rx => ?_) fun e1 => ?_
  · rw [e1] at h
    dsimp only at h
    cases r with
    | sl i => exact h.elim
    | im d =>
      cases d with
      | bl b =>
        have ev : v = .bl b := rv
        exact ⟨b, ev, h S1 H1 x1 st1⟩
      | _ => exact h.elim
  · rw [e1] at h
    exact h S1 H1 cls d x1 st1 rx
  · rw [e1] at h
    exact h⟩
theorem simT_test {t : TE} {m : M R} (s : SimE K W t m) : SimT K W (tTest t) (mBool m) := simT_B s
theorem OkT.then {F : Fr} {S H : Hp} {σ : L2.St} {E : Env} {t : TT} {m : M Bool} {k : Bool → M Bool} (s : SimT K W t m) (hK : F.K = K) (fo : FrOk F) (st : Sto F S H σ E)
    {Q Q' : Bool → Hp → Prop} (h : OkT F S σ W (mB m k E) Q) (hq : ∀ b E' S' H', Ex S S' → Sto F S' H' σ E' → OkT F S' σ W (k b E') Q → Q' b H') : t σ H Q' := by
  unfold mB at h
  refine OkT.bind s hK fo st (fun b E1 e1 S1 H1 x1 st1 => ?_) (fun x E1 e1 S1 H1 cls d x1 st1 rx => ?_) fun e1 => ?_
  · rw [e1] at h
    exact hq b E1 S1 H1 x1 st1 (OkT.mono x1 h)
  · rw [e1] at h
    exact h S1 H1 cls d x1 st1 rx
  · rw [e1] at h
    exact h
theorem simT_not {t : TT} {m : M Bool} (s : SimT K W t m) : SimT K W (tNot t) (mNotT m) := ⟨fun F S H σ E Q hK fo st h =>
  OkT.then s hK fo st h fun b E' S' H' _ st' q => q S' H' (Ex.refl S') st'⟩
theorem simT_and {t u : TT} {m n : M Bool} (s : SimT K W t m) (s2 : SimT K W u n) : SimT K W (tAnd t u) (mAndT m n) := ⟨fun F S H σ E Q hK fo st h =>
  OkT.then s hK fo st h fun b E' S' H' _ st' q => by
    cases b with
    | true => exact s2.run F S' H' σ E' Q hK fo st' q
    | false => exact q S' H' (Ex.refl S') st'⟩
theorem simT_or {t u : TT} {m n : M Bool} (s : SimT K W t m) (s2 : SimT K W u n) : SimT K W (tOr t u) (mOrT m n) := ⟨fun F S H σ E Q hK fo st h =>
  OkT.then s hK fo st h fun b E' S' H' _ st' q => by
    cases b with
    | true => exact q S' H' (Ex.refl S') st'
    | false => exact s2.run F S' H' σ E' Q hK fo st' q⟩
/-! ### and, or, not, if as values -/
def mAndV (a : M R) (b : M R) : M R := mB (mBool a) fun c => mCond c b (mP (.im (.bl false)))
def mOrV (a : M R) (b : M R) : M R := mB (mBool a) fun c => mCond c (mP (.im (.bl true))) b
def mNotV (a : M R) : M R := mB (mBool a) fun c => mP (.im (.bl (!c)))
def mIfE (c : M Bool) (a b : M R) : M R := mB c fun k => mCond k a b
theorem OkT.thenE {F : Fr} {S H : Hp} {σ : L2.St} {E : Env} {t : TT} {m : M Bool} {k : Bool → M R} (s : SimT K W t m) (hK : F.K = K) (fo : FrOk F) (st : Sto F S H σ E)
    {Q : VK} {Q' : Bool → Hp → Prop} (h : OkE F S σ W (mB m k E) Q) (hq : ∀ b E' S' H', Ex S S' → Sto F S' H' σ E' → OkE F S' σ W (k b E') Q → Q' b H') : t σ H Q' := by
  unfold mB at h
  refine OkT.bind s hK fo st (fun b E1 e1 S1 H1 x1 st1 => ?_) (fun x E1 e1 S1 H1 cls d x1 st1 rx => ?_) fun e1 => ?_
  · rw [e1] at h
    exact hq b E1 S1 H1 x1 st1 (OkE.mono x1 h)
  · rw [e1] at h
    exact h S1 H1 cls d x1 st1 rx
  · rw [e1] at h
    exact h
theorem sim_andV {t u : TE} {m n : M R} (s : SimE K W t m) (s2 : SimE K W u n) : SimE K W (tAndV t u) (mAndV m n) := ⟨fun F S H σ E Q hK fo st h =>
  OkT.thenE (Q' := fun c H1 => if c = true then u σ H1 Q else Q (.bl false) H1) (simT_B s) hK fo st h fun b E' S' H' _ st' q => by
    cases b with
    | true => exact s2.run F S' H' σ E' Q hK fo st' q
    | false => exact q S' H' _ (Ex.refl S') st' rfl⟩
theorem sim_orV {t u : TE} {m n : M R} (s : SimE K W t m) (s2 : SimE K W u n) : SimE K W (tOrV t u) (mOrV m n) := ⟨fun F S H σ E Q hK fo st h =>
  OkT.thenE (Q' := fun c H1 => if c = true then Q (.bl true) H1 else u σ H1 Q) (simT_B s) hK fo st h fun b E' S' H' _ st' q => by
    cases b with
    | true => exact q S' H' _ (Ex.refl S') st' rfl
    | false => exact s2.run F S' H' σ E' Q hK fo st' q⟩
theorem sim_notV {t : TE} {m : M R} (s : SimE K W t m) : SimE K W (tNotV t) (mNotV m) := ⟨fun F S H σ E Q hK fo st h =>
  OkT.thenE (Q' := fun c H1 => Q (.bl (!c)) H1) (simT_B s) hK fo st h fun b E' S' H' _ st' q => q S' H' _ (Ex.refl S') st' rfl⟩
theorem sim_ifE {c : TT} {t u : TE} {mc : M Bool} {m n : M R} (sc : SimT K W c mc) (s : SimE K W t m) (s2 : SimE K W u n) : SimE K W (tIf c t u) (mIfE mc m n) := ⟨fun F S H σ E Q hK fo st h =>
  OkT.thenE (Q' := fun c H1 => if c = true then t σ H1 Q else u σ H1 Q) sc hK fo st h fun b E' S' H' _ st' q => by
    cases b with
    | true => exact s.run F S' H' σ E' Q hK fo st' q
    | false => exact s2.run F S' H' σ E' Q hK fo st' q⟩
/-! ### argument lists -/
def mA0 : M (List R) := mP []
def mA1 (m : M R) (r : M (List R)) : M (List R) := mB m fun x => mB r fun xs => mP (x :: xs)
theorem simA_nil : SimA K W tNil mA0 := ⟨fun F S H σ E Q hK fo st h => h S H [] (Ex.refl S) st .nil⟩
theorem simA_cons {t : TE} {u : TA} {m : M R} {n : M (List R)} (s : SimE K W t m) (s2 : SimA K W u n) : SimA K W (tCons t u) (mA1 m n) := ⟨fun F S H σ E Q hK fo st h => by
  unfold mA1 mB at h
  refine OkE.bind (Q := fun x H1 => u σ H1 fun xs H2 => Q (x :: xs) H2) s hK fo st (fun r E1 e1 S1 H1 v x1 st1 rv => ?_) (fun x E1 e1 S1 H1 cls d x1 st1 rx => ?_) fun e1 => ?_
  · rw [e1] at h
    dsimp only at h
    refine OkA.bind s2 hK fo st1 (fun rs E2 e2 S2 H2 vs x2 st2 rvs => ?_) (fun x E2 e2 S2 H2 cls d x2 st2 rx => ?_) fun e2 => ?_
    · rw [e2] at h
      exact h S2 H2 (v :: vs) (x1.trans x2) st2 (.cons (rv.mono x2) rvs)
    · rw [e2] at h
      exact h S2 H2 cls d (x1.trans x2) st2 rx
    · rw [e2] at h
      exact h
  · rw [e1] at h
    exact h S1 H1 cls d x1 st1 rx
  · rw [e1] at h
    exact h⟩
/-! ### targets -/
/-- slot i := d -/
def setIm (i : Nat) (d : D) (E : Env) : Option Env := match E[i]? with
  | none => none
  | some (.pl _ _) => none
  | some (.se _ _ _ _) => none
  | some (.xo _) => none
  | some _ => some (E.set i (.im d))
def setOw (i : Nat) (ds : List D) (E : Env) : Option Env := match E[i]? with
  | none => none
  | some (.pl _ _) => none
  | some (.se _ _ _ _) => none
  | some (.xo _) => none
  | some _ => some (E.set i (.ow ds))
theorem setIm_lt {i : Nat} {d : D} {E E' : Env} (h : setIm i d E = some E') : i < E.length ∧ E' = E.set i (.im d) := by
  unfold setIm at h
  split at h <;> first | cases h | skip
  rename_i e
  exact ⟨(List.getElem?_eq_some_iff.mp e).1, rfl⟩
theorem setOw_lt {i : Nat} {d : List D} {E E' : Env} (h : setOw i d E = some E') : i < E.length ∧ E' = E.set i (.ow d) := by
  unfold setOw at h
  split at h <;> first | cases h | skip
  rename_i e
  exact ⟨(List.getElem?_eq_some_iff.mp e).1, rfl⟩
structure SimG (K : PySem.W.Frag) (g : TG) (bd : D → Env → Option Env) : Prop where
  run : ∀ (F : Fr) (S H : Hp) (σ : L2.St) (E E' : Env) (d : D) (v : V) (Q : L2.St → Hp → Prop), F.K = K → FrOk F → Sto F S H σ E → Rep F.K S d v → bd d E = some E' → (∀ σ' H', Sto F S H' σ' E' → σ'.length = σ.length → Q σ' H') → g v σ H Q
structure SimGs (K : PySem.W.Frag) (g : TGs) (n : Nat) (bd : List D → Env → Option Env) : Prop where
  run : ∀ (F : Fr) (S H : Hp) (σ : L2.St) (E E' : Env) (ds : List D) (vs : List V) (Q : L2.St → Hp → Prop), F.K = K → FrOk F → Sto F S H σ E → Reps F.K S ds vs → bd ds E = some E' → (∀ σ' H', Sto F S H' σ' E' → σ'.length = σ.length → Q σ' H') → g vs σ H Q
  len : ∀ ds E E', bd ds E = some E' → ds.length = n
theorem simG_name (i : Nat) : SimG K (gName i) (setIm i) := ⟨fun F S H σ E E' d v Q hK fo st r h k => by
  obtain ⟨hi, e⟩ := setIm_lt h
  subst e
  exact k _ H (st.setSlot hi ⟨v, rfl, r⟩ fun m => nomatch m) (List.length_set ..)⟩
def bNil (ds : List D) (E : Env) : Option Env := match ds with
  | [] => some E
  | _ :: _ => none
def bCons (b : D → Env → Option Env) (r : List D → Env → Option Env) (ds : List D) (E : Env) : Option Env := match ds with
  | [] => none
  | d :: ds => (b d E).bind (r ds)
def bTup (b : List D → Env → Option Env) (d : D) (E : Env) : Option Env := match d with
  | .tup ds => b ds E
  | _ => none
theorem simGs_nil : SimGs K gNil 0 bNil := ⟨fun F S H σ E E' ds vs Q hK fo st r h k => by
  cases ds with
  | cons _ _ => cases h
  | nil =>
    cases h
    have e : vs = [] := r
    exact ⟨e, k σ H st rfl⟩, fun ds E E' h => by
  cases ds with
  | cons _ _ => cases h
  | nil => rfl⟩
theorem simGs_cons {t : TG} {u : TGs} {n : Nat} {b : D → Env → Option Env} {r : List D → Env → Option Env} (s : SimG K t b) (s2 : SimGs K u n r) : SimGs K (gCons t u) (n + 1) (bCons b r) := ⟨fun F S H σ E E' ds vs Q hK fo st rr h k => by
  cases ds with
  | nil => cases h
  | cons d ds =>
    obtain ⟨v, us, e, r1, r2⟩ := rr
    obtain ⟨E1, h1, h2⟩ := Option.bind_eq_some_iff.mp h
    exact ⟨v, us, e, s.run F S H σ E E1 d v _ hK fo st r1 h1 fun σ1 H1 st1 l1 => s2.run F S H1 σ1 E1 E' ds us Q hK fo st1 r2 h2 fun σ2 H2 st2 l2 => k σ2 H2 st2 (l2.trans l1)⟩, fun ds E E' h => by
  cases ds with
  | nil => cases h
  | cons d ds =>
    obtain ⟨E1, h1, h2⟩ := Option.bind_eq_some_iff.mp h
    rw [List.length_cons, s2.len ds E1 E' h2]⟩
theorem simG_tup {t : TGs} {n : Nat} {b : List D → Env → Option Env} (s : SimGs K t n b) : SimG K (gTup K n t) (bTup b) := ⟨fun F S H σ E E' d v Q hK fo st r h k => by
  cases d with
  | tup ds =>
    obtain ⟨a, ws, e, r1, r2⟩ := r
    exact ⟨a, ws, e, hK ▸ ex_sqt st.sub r1, r2.length.trans (s.len ds E E' h), s.run F S H σ E E' ds ws Q hK fo st r2 h k⟩
  | _ => cases h⟩
/-! ### statements -/
def mNx : M Fl := mP .nx
def mSeq (a b : M Fl) : M Fl := fun E => match a E with
  | .ok .nx E' => b E'
  | o => o
def mIm (r : R) : M D := match r with
  | .im d => mP d
  | .sl _ => fun _ => .stuck
def mAsg (m : M R) (bd : D → Env → Option Env) : M Fl := mB m fun r => mB (mIm r) fun d E => match bd d E with
  | some E' => .ok .nx E'
  | none => .stuck
def mAsgL (m : M (List D)) (i : Nat) : M Fl := mB m fun ds E => match setOw i ds E with
  | some E' => .ok .nx E'
  | none => .stuck
def mRet (m : M R) : M Fl := mB m fun r E => match r with
  | .im d => .ok (.rt (.im d)) E
  | .sl i => match at_ E i with
    | .ow ds => .ok (.rt (.ow ds)) E
    | _ => .stuck
def mRetL (m : M (List D)) : M Fl := mB m fun ds => mP (.rt (.ow ds))
def mDrop (m : M R) : M Fl := mB m fun _ => mP .nx
def mIfS (c : M Bool) (a b : M Fl) : M Fl := mB c fun k => mCond k a b
def mPar (i j : Nat) (a b : M R) : M Fl := mB a fun x => mB b fun y => mB (mIm x) fun d => mB (mIm y) fun e E => match (setIm i d E).bind (setIm j e) with
  | some E' => .ok .nx E'
  | none => .stuck
theorem simS_nx : SimS K W tNext mNx := ⟨fun F S H σ E D hK fo st h => h S H σ (Ex.refl S) st⟩
theorem simS_bk : SimS K W tBreak (mP .bk) := ⟨fun F S H σ E D hK fo st h => h S H σ (Ex.refl S) st⟩
theorem simS_ct : SimS K W tCont (mP .ct) := ⟨fun F S H σ E D hK fo st h => h S H σ (Ex.refl S) st⟩
theorem simS_never : SimS K W tNever (fun _ => .stuck) := ⟨fun F S H σ E D hK fo st h => h⟩
theorem simS_seq {t u : TS} {m n : M Fl} (s : SimS K W t m) (s2 : SimS K W u n) : SimS K W (tSeq t u) (mSeq m n) := ⟨fun F S H σ E D hK fo st h => by
  refine s.run F S H σ E { D with nx := u D } hK fo st ?_
  unfold mSeq at h
  cases e : m E with
  | stuck => rw [e] at h; exact h
  | exc x E' => rw [e] at h; exact h
  | ok f E' =>
    rw [e] at h
    cases f with
    | nx => exact fun S' H' σ' ex st' => s2.run F S' H' σ' E' D hK fo st' (OkS.mono ex h)
    | rt r => exact h
    | bk => exact h
    | ct => exact h⟩
theorem OkE.thenS {F : Fr} {S H : Hp} {σ : L2.St} {E : Env} {t : TE} {m : M R} {k : R → M Fl} (s : SimE K W t m) (hK : F.K = K) (fo : FrOk F) (st : Sto F S H σ E)
    {D : Ends} {Q' : VK} (h : OkS F S W (mB m k E) D) (hq : ∀ r E' S' H' v, Ex S S' → Sto F S' H' σ E' → RepR F S' σ r v → OkS F S' W (k r E') D → Q' v H') : t σ H Q' := by
  unfold mB at h
  refine OkE.bind s hK fo st (fun r E1 e1 S1 H1 v x1 st1 rv => ?_) (fun x E1 e1 S1 H1 cls d x1 st1 rx => ?_) fun e1 => ?_
  · rw [e1] at h
    exact hq r E1 S1 H1 v x1 st1 rv (OkS.mono x1 h)
  · rw [e1] at h
    exact h S1 H1 σ cls d x1 st1 rx
  · rw [e1] at h
    exact h
theorem OkT.thenS {F : Fr} {S H : Hp} {σ : L2.St} {E : Env} {t : TT} {m : M Bool} {k : Bool → M Fl} (s : SimT K W t m) (hK : F.K = K) (fo : FrOk F) (st : Sto F S H σ E)
    {D : Ends} {Q' : Bool → Hp → Prop} (h : OkS F S W (mB m k E) D) (hq : ∀ b E' S' H', Ex S S' → Sto F S' H' σ E' → OkS F S' W (k b E') D → Q' b H') : t σ H Q' := by
  unfold mB at h
  refine OkT.bind s hK fo st (fun r E1 e1 S1 H1 x1 st1 => ?_) (fun x E1 e1 S1 H1 cls d x1 st1 rx => ?_) fun e1 => ?_
  · rw [e1] at h
    exact hq r E1 S1 H1 x1 st1 (OkS.mono x1 h)
  · rw [e1] at h
    exact h S1 H1 σ cls d x1 st1 rx
  · rw [e1] at h
    exact h
theorem simS_asg {te : TE} {g : TG} {m : M R} {bd : D → Env → Option Env} (s : SimE K W te m) (sg : SimG K g bd) : SimS K W (tAsg te g) (mAsg m bd) := ⟨fun F S H σ E D hK fo st h =>
  OkE.thenS (Q' := fun x H1 => g x σ H1 D.nx) s hK fo st h fun r E' S' H' v ex st' rv q => by
    cases r with
    | sl i => exact q.elim
    | im d =>
      unfold mIm mB mP at q
      dsimp only at q
      cases e : bd d E' with
      | none => rw [e] at q; exact q.elim
      | some E2 =>
        rw [e] at q
        exact sg.run F S' H' σ E' E2 d v _ hK fo st' rv e fun σ2 H2 st2 _ => q S' H2 σ2 (Ex.refl S') st2⟩
theorem simS_asgL {te : TE} {i : Nat} {m : M (List D)} (s : SimL K W te m) : SimS K W (tAsg te (gName i)) (mAsgL m i) := ⟨fun F S H σ E D hK fo st h => by
  unfold mAsgL mB at h
  refine OkL.bind (Q := fun x H1 => gName i x σ H1 D.nx) s hK fo st (fun ds E1 e1 S1 H1 p ws x1 st1 hp rs h0 hS hn => ?_) (fun x E1 e1 S1 H1 cls d x1 st1 rx => ?_) fun e1 => ?_
  · rw [e1] at h
    dsimp only at h
    cases e : setOw i ds E1 with
    | none => rw [e] at h; exact h.elim
    | some E2 =>
      rw [e] at h
      obtain ⟨hi, e2⟩ := setOw_lt e
      subst e2
      exact h S1 H1 _ x1 (st1.setSlot hi ⟨p, ws, rfl, hp, h0, hS, rs⟩ fun _ a ea => by cases ea; exact hn)
  · rw [e1] at h
    exact h S1 H1 σ cls d x1 st1 rx
  · rw [e1] at h
    exact h⟩
theorem simS_ret {te : TE} {m : M R} (s : SimE K W te m) : SimS K W (tRet te) (mRet m) := ⟨fun F S H σ E D hK fo st h =>
  OkE.thenS (Q' := D.rt) s hK fo st h fun r E' S' H' v ex st' rv q => by
    cases r with
    | im d => exact q S' H' σ v (Ex.refl S') st' rv
    | sl i =>
      have z := st'.slot i
      have hv : σ[i]? = some (some v) := rv
      dsimp only at q
      cases e : at_ E' i with
      | ow ds =>
        rw [e] at q z
        obtain ⟨a, ws, q1, q2, q3, q4, q5⟩ := z
        rw [hv] at q1
        cases q1
        exact q S' H' σ _ (Ex.refl S') st' ⟨a, ws, rfl, q2, q5, q3, q4⟩
      | _ => rw [e] at q; exact q.elim⟩
theorem simS_retL {te : TE} {m : M (List D)} (s : SimL K W te m) : SimS K W (tRet te) (mRetL m) := ⟨fun F S H σ E D hK fo st h => by
  unfold mRetL mB at h
  refine OkL.bind (Q := D.rt) s hK fo st (fun ds E1 e1 S1 H1 p ws x1 st1 hp rs h0 hS hn => ?_) (fun x E1 e1 S1 H1 cls d x1 st1 rx => ?_) fun e1 => ?_
  · rw [e1] at h
    exact h S1 H1 σ _ x1 st1 ⟨p, ws, rfl, hp, rs, h0, hS⟩
  · rw [e1] at h
    exact h S1 H1 σ cls d x1 st1 rx
  · rw [e1] at h
    exact h⟩
theorem simS_retN : SimS K W tRetN (mP (.rt (.im .non))) := ⟨fun F S H σ E D hK fo st h => h S H σ .non (Ex.refl S) st rfl⟩
theorem simS_drop {te : TE} {m : M R} (s : SimE K W te m) : SimS K W (tDrop te) (mDrop m) := ⟨fun F S H σ E D hK fo st h =>
  OkE.thenS (Q' := fun _ H1 => D.nx σ H1) s hK fo st h fun r E' S' H' v ex st' rv q => q S' H' σ (Ex.refl S') st'⟩
theorem simS_if {c : TT} {t u : TS} {mc : M Bool} {m n : M Fl} (sc : SimT K W c mc) (s : SimS K W t m) (s2 : SimS K W u n) : SimS K W (tIfS c t u) (mIfS mc m n) := ⟨fun F S H σ E D hK fo st h =>
  OkT.thenS (Q' := fun b H1 => if b = true then t D σ H1 else u D σ H1) sc hK fo st h fun b E' S' H' _ st' q => by
    cases b with
    | true => exact s.run F S' H' σ E' D hK fo st' q
    | false => exact s2.run F S' H' σ E' D hK fo st' q⟩
theorem simS_par {i j : Nat} {ta tb : TE} {a b : M R} (s : SimE K W ta a) (s2 : SimE K W tb b) : SimS K W (tPar i j (tCons ta (tCons tb tNil))) (mPar i j a b) := ⟨fun F S H σ E D hK fo st h => by
  refine OkE.thenS (Q' := fun x H1 => tCons tb tNil σ H1 fun xs H2 => ∃ v w, x :: xs = [v, w] ∧ D.nx ((σ.set i (some v)).set j (some w)) H2) s hK fo st h fun r E' S' H' v ex st' rv q => ?_
  refine OkE.thenS (Q' := fun y H2 => ∃ v' w, [v, y] = [v', w] ∧ D.nx ((σ.set i (some v')).set j (some w)) H2) s2 hK fo st' q fun r2 E2 S2 H2 w ex2 st2 rw2 q2 => ?_
  cases r with
  | sl i => exact q2.elim
  | im d =>
    cases r2 with
    | sl i => exact q2.elim
    | im e =>
      unfold mIm mB mP at q2
      dsimp only at q2
      cases e1 : (setIm i d E2).bind (setIm j e) with
      | none => rw [e1] at q2; exact q2.elim
      | some E4 =>
        rw [e1] at q2
        obtain ⟨E3, h1, h2⟩ := Option.bind_eq_some_iff.mp e1
        obtain ⟨l1, z1⟩ := setIm_lt h1
        obtain ⟨l2, z2⟩ := setIm_lt h2
        have st3 := st2.setSlot (x := .im d) l1 ⟨v, rfl, Rep.mono ex2 rv⟩ fun m => nomatch m
        rw [← z1] at st3
        have st4 := st3.setSlot (x := .im e) l2 ⟨w, rfl, rw2⟩ fun m => nomatch m
        rw [← z2] at st4
        exact ⟨v, w, rfl, q2 S2 H2 _ (Ex.refl S2) st4⟩⟩
/-! ### loops -/
def whileN (c : M Bool) (b : M Fl) : Nat → M Fl
  | 0 => fun _ => .stuck
  | n + 1 => mB c fun k => match k with
    | false => mP .nx
    | true => fun E => match b E with
      | .ok .nx E' => whileN c b n E'
      | .ok .ct E' => whileN c b n E'
      | .ok .bk E' => .ok .nx E'
      | o => o
def mWhile (μ : Env → Nat) (c : M Bool) (b : M Fl) : M Fl := fun E => whileN c b (μ E) E
theorem simS_while {c : TT} {tb : TS} {mc : M Bool} {b : M Fl} (μ : Env → Nat) (sc : SimT K W c mc) (sb : SimS K W tb b) : SimS K W (tWhile c tb) (mWhile μ mc b) := ⟨fun F S0 H σ E D hK fo st h => by
  refine ⟨fun n σ H => ∃ S E, Ex S0 S ∧ Sto F S H σ E ∧ OkS F S W (whileN mc b n E) D, ⟨μ E, S0, E, Ex.refl S0, st, h⟩, ?_⟩
  rintro m σ H ⟨S, E, ex, st, h⟩
  cases m with
  | zero => exact h.elim
  | succ m =>
    refine OkT.thenS (Q' := fun b H1 => if b = true then ∃ N : L2.St → Hp → Prop, (∀ σ' H', N σ' H' → ∃ m', m' < m + 1 ∧ _) ∧ tb { D with nx := N, ct := N, bk := D.nx } σ H1 else D.nx σ H1) sc hK fo st h fun k E1 S1 H1 ex1 st1 q => ?_
    cases k with
    | false => exact q S1 H1 σ (Ex.refl S1) st1
    | true =>
      refine ⟨fun σ H => ∃ S E, Ex S0 S ∧ Sto F S H σ E ∧ OkS F S W (whileN mc b m E) D, fun σ' H' z => ⟨m, Nat.lt_succ_self m, z⟩, ?_⟩
      refine sb.run F S1 H1 σ E1 _ hK fo st1 ?_
      dsimp only at q
      cases e : b E1 with
      | stuck => rw [e] at q; exact q
      | exc x E' => rw [e] at q; exact q
      | ok f E' =>
        rw [e] at q
        cases f with
        | nx => exact fun S2 H2 σ2 ex2 st2 => ⟨S2, E', (ex.trans ex1).trans ex2, st2, OkS.mono ex2 q⟩
        | ct => exact fun S2 H2 σ2 ex2 st2 => ⟨S2, E', (ex.trans ex1).trans ex2, st2, OkS.mono ex2 q⟩
        | bk => exact q
        | rt r => exact q⟩
def forL (bd : D → Env → Option Env) (b : M Fl) : List D → M Fl
  | [] => mP .nx
  | d :: ds => fun E => match bd d E with
    | none => .stuck
    | some E1 => match b E1 with
      | .ok .nx E' => forL bd b ds E'
      | .ok .ct E' => forL bd b ds E'
      | .ok .bk E' => .ok .nx E'
      | o => o
/-- what is walked: the data, one by one -/
def itemsOf : D → Option (List D)
  | .lst ds => some ds
  | .tup ds => some ds
  | .scr ns => some (ns.map D.int)
  | _ => none
def mFor (it : M (List D)) (bd : D → Env → Option Env) (b : M Fl) : M Fl := mB it fun ds => forL bd b ds
/-- one turn of a walk -/
theorem for_turn {g : TG} {tb : TS} {bd : D → Env → Option Env} {b : M Fl} (sg : SimG K g bd) (sb : SimS K W tb b) {F : Fr} (hK : F.K = K) (fo : FrOk F) {S0 S H : Hp} {σ : L2.St} {E : Env} {D' : Ends} {d : D} {ds : List D} {v : V} {N : L2.St → Hp → Prop}
    (ex : Ex S0 S) (st : Sto F S H σ E) (rv : Rep F.K S d v) (h : OkS F S W (forL bd b (d :: ds) E) D')
    (hN : ∀ S' H' σ' E', Ex S0 S' → Sto F S' H' σ' E' → OkS F S' W (forL bd b ds E') D' → N σ' H') : g v σ H fun σ2 H2 => tb { D' with nx := N, ct := N, bk := D'.nx } σ2 H2 := by
  unfold forL at h
  cases e : bd d E with
  | none => rw [e] at h; exact h.elim
  | some E1 =>
    rw [e] at h
    dsimp only at h
    refine sg.run F S H σ E E1 d v _ hK fo st rv e fun σ1 H1 st1 _ => ?_
    refine sb.run F S H1 σ1 E1 _ hK fo st1 ?_
    cases e2 : b E1 with
    | stuck => rw [e2] at h; exact h
    | exc x E' => rw [e2] at h; exact h
    | ok f E' =>
      rw [e2] at h
      cases f with
      | nx => exact fun S2 H2 σ2 ex2 st2 => hN S2 H2 σ2 E' (ex.trans ex2) st2 (OkS.mono ex2 h)
      | ct => exact fun S2 H2 σ2 ex2 st2 => hN S2 H2 σ2 E' (ex.trans ex2) st2 (OkS.mono ex2 h)
      | bk => exact h
      | rt r => exact h
/-- what is walked, and how the walk's turns read it -/
structure SimI (K : PySem.W.Frag) (W : WX) (wi : TI) (it : M (List D)) : Prop where
  run : ∀ (F : Fr) (S0 H : Hp) (σ : L2.St) (E : Env) (Z : L2.St → Hp → Prop) (G : Nat → L2.St → Hp → Prop) (Rr : It → Hp → Prop), F.K = K → FrOk F → Sto F S0 H σ E →
    (match it E with
    | .ok ds E' => ∀ (J : It) S H', Ex S0 S → Sto F S H' σ E' →
        (∀ (i : Nat) (H2 : Hp) S2, Ex S S2 → Ex S2 H2 → (i = ds.length → J.stop i H2) ∧ ∀ d, ds[i]? = some d → J.go i H2 ∧ ∀ x H3, J.yld i H2 x H3 → H3 = H2 ∧ Rep F.K S2 d x) → Rr J H'
    | .exc x E' => ∀ S' H' cls d, Ex S0 S' → Sto F S' H' σ E' → XOk F.K S' x cls d → W cls d σ H'
    | .stuck => False) → wi σ H Rr
theorem simS_for {wi : TI} {g : TG} {tb : TS} {it : M (List D)} {bd : D → Env → Option Env} {b : M Fl} (si : SimI K W wi it) (sg : SimG K g bd) (sb : SimS K W tb b) : SimS K W (tFor wi g tb) (mFor it bd b) := ⟨fun F S0 H σ E D' hK fo st h => by
  refine si.run F S0 H σ E (fun _ _ => True) (fun _ _ _ => True) _ hK fo st ?_
  unfold mFor mB at h
  cases e : it E with
  | stuck => rw [e] at h; exact h
  | exc x E' => rw [e] at h; exact fun S' H' cls d ex st' rx => h S' H' σ cls d ex st' rx
  | ok ds E1 =>
    rw [e] at h
    intro J S1 H1 ex1 st1 rd
    refine ⟨fun i m σ H => m = ds.length - i ∧ i ≤ ds.length ∧ ∃ S E, Ex S1 S ∧ Sto F S H σ E ∧ OkS F S W (forL bd b (ds.drop i) E) D', ⟨ds.length, by simp, Nat.zero_le _, S1, E1, Ex.refl S1, st1, OkS.mono ex1 h⟩, ?_⟩
    rintro i m σ H ⟨em, hi, S, E, ex, st, q⟩
    obtain ⟨r1, r2⟩ := rd i H S ex st.sub
    by_cases hlt : i < ds.length
    · have ed : ds[i]? = some ds[i] := List.getElem?_eq_getElem hlt
      obtain ⟨g1, g2⟩ := r2 _ ed
      refine .inr ⟨g1, fun σ' H' => ∃ S E, Ex S1 S ∧ Sto F S H' σ' E ∧ OkS F S W (forL bd b (ds.drop (i + 1)) E) D', fun σ' H' z => ⟨ds.length - (i + 1), by omega, rfl, hlt, z⟩, fun x H3 y => ?_⟩
      obtain ⟨z1, z2⟩ := g2 x H3 y
      subst z1
      have ec : ds.drop i = ds[i] :: ds.drop (i + 1) := List.drop_eq_getElem_cons hlt
      rw [ec] at q
      exact for_turn sg sb hK fo ex st z2 q fun S' H' σ' E' ex' st' h' => ⟨S', E', ex', st', h'⟩
    · have ei : i = ds.length := by omega
      have ec : ds.drop i = [] := by rw [ei]; exact List.drop_length
      rw [ec] at q
      exact .inl ⟨r1 ei, q S H σ (Ex.refl S) st⟩⟩
/-- over a list, a tuple that stands -/
def mItL (m : M R) : M (List D) := mB m fun r => match r with
  | .im (.lst ds) => mP ds
  | .im (.scr ns) => mP (ns.map D.int)
  | _ => fun _ => .stuck
def mItT (m : M R) : M (List D) := mB m fun r => match r with
  | .im (.tup ds) => mP ds
  | _ => fun _ => .stuck
theorem Reps.ints (ns : List Int) (S : Hp) : Reps K S (ns.map D.int) (ns.map V.int) := by
  induction ns with
  | nil => exact .nil
  | cons n ns ih => exact .cons rfl ih
theorem simI_list {tl : TE} {m : M R} (s : SimE K W tl m) : SimI K W (iList K tl) (mItL m) := ⟨fun F S0 H σ E _ _ Rr hK fo st h => by
  unfold mItL mB at h
  refine OkE.bind (Q := fun x H1 => ∃ a, x = .ref a ∧ (∃ xs, SqL K H1 a xs) ∧ Rr (Itl K a) H1) s hK fo st (fun r E1 e1 S1 H1 v x1 st1 rv => ?_) (fun x E1 e1 S1 H1 cls d x1 st1 rx => ?_) fun e1 => ?_
  · rw [e1] at h
    dsimp only at h
    have key : ∀ (a : Addr) (ds : List D) (ws : List V), SqL F.K S1 a ws → Reps F.K S1 ds ws → ∀ (i : Nat) (H2 : Hp) S2, Ex S1 S2 → Ex S2 H2 → (i = ds.length → (Itl K a).stop i H2) ∧ ∀ d, ds[i]? = some d → (Itl K a).go i H2 ∧ ∀ x H3, (Itl K a).yld i H2 x H3 → H3 = H2 ∧ Rep F.K S2 d x := by
      intro a ds ws sq rs i H2 S2 ex1 ex2
      have sq2 : SqL K H2 a ws := hK ▸ ex_sql (ex1.trans ex2) sq
      refine ⟨fun ei => ⟨ws, sq2, by rw [rs.length, ei]; exact Nat.le_refl _⟩, fun d ed => ?_⟩
      obtain ⟨v, q1, q2⟩ := rs.getD ed
      refine ⟨⟨ws, v, sq2, q1⟩, fun x H3 y => ?_⟩
      obtain ⟨y1, y2⟩ := y
      have y3 := y2 ws sq2
      rw [q1] at y3
      cases y3
      exact ⟨y1, q2.mono ex1⟩
    cases r with
    | sl i => exact h.elim
    | im d =>
      cases d with
      | lst ds =>
        obtain ⟨a, ws, q1, q2, q3⟩ := rv
        exact ⟨a, q1, ⟨ws, .of (st1.sub _ _ q2)⟩, h (Itl K a) S1 H1 x1 st1 (key a ds ws (.of q2) q3)⟩
      | scr ns =>
        obtain ⟨a, q1, q2⟩ := rv
        exact ⟨a, q1, ⟨_, hK ▸ ex_sql st1.sub q2⟩, h (Itl K a) S1 H1 x1 st1 (key a _ _ q2 (Reps.ints ns S1))⟩
      | _ => exact h.elim
  · rw [e1] at h
    exact h S1 H1 cls d x1 st1 rx
  · rw [e1] at h
    exact h⟩
theorem simI_tup {tl : TE} {m : M R} (s : SimE K W tl m) : SimI K W (iTup K tl) (mItT m) := ⟨fun F S0 H σ E _ _ Rr hK fo st h => by
  unfold mItT mB at h
  refine OkE.bind (Q := fun x H1 => ∃ a, x = .ref a ∧ (∃ xs, SqT K H1 a xs) ∧ Rr (Itt K a) H1) s hK fo st (fun r E1 e1 S1 H1 v x1 st1 rv => ?_) (fun x E1 e1 S1 H1 cls d x1 st1 rx => ?_) fun e1 => ?_
  · rw [e1] at h
    dsimp only at h
    cases r with
    | sl i => exact h.elim
    | im d =>
      cases d with
      | tup ds =>
        obtain ⟨a, ws, q1, q2, q3⟩ := rv
        refine ⟨a, q1, ⟨ws, hK ▸ ex_sqt st1.sub q2⟩, h (Itt K a) S1 H1 x1 st1 fun i H2 S2 ex1 ex2 => ?_⟩
        have sq2 : SqT K H2 a ws := hK ▸ ex_sqt (ex1.trans ex2) q2
        refine ⟨fun ei => ⟨ws, sq2, by rw [q3.length, ei]; exact Nat.le_refl _⟩, fun d ed => ?_⟩
        obtain ⟨v, z1, z2⟩ := q3.getD ed
        refine ⟨⟨ws, v, sq2, z1⟩, fun x H3 y => ?_⟩
        obtain ⟨y1, y2⟩ := y
        have y3 := y2 ws sq2
        rw [z1] at y3
        cases y3
        exact ⟨y1, z2.mono ex1⟩
      | _ => exact h.elim
  · rw [e1] at h
    exact h S1 H1 cls d x1 st1 rx
  · rw [e1] at h
    exact h⟩
/-- the ints of a range -/
def rangeD (lo hi : Int) : List D := (List.range (hi - lo).toNat).map fun (k : Nat) => D.int (lo + (k : Int))
@[irreducible] def inRng (i : Int) : Bool := Nat.ble i.natAbs 2305843009213693952
theorem inRng_iff {i : Int} (h : inRng i = true) : -(2 ^ 62) ≤ i ∧ i < 2 ^ 62 := by
  unfold inRng at h
  have := Nat.le_of_ble_eq_true h
  omega
def mItR (lo hi : Int) : M (List D) := mCond (inRng lo && inRng hi) (mP (rangeD lo hi)) fun _ => .stuck
def mItR1 (m : M R) : M (List D) := mB m fun r => match r with
  | .im (.int j) => mItR 0 j
  | _ => fun _ => .stuck
def mItR2 (m n : M R) : M (List D) := mB m fun r => mB n fun r2 => match r, r2 with
  | .im (.int i), .im (.int j) => mItR i j
  | _, _ => fun _ => .stuck
theorem range_key {F : Fr} {S1 : Hp} (lo hi : Int) : ∀ (i : Nat) (H2 : Hp) S2, Ex S1 S2 → Ex S2 H2 → (i = (rangeD lo hi).length → (Itr lo (hi - lo).toNat).stop i H2) ∧ ∀ d, (rangeD lo hi)[i]? = some d → (Itr lo (hi - lo).toNat).go i H2 ∧ ∀ x H3, (Itr lo (hi - lo).toNat).yld i H2 x H3 → H3 = H2 ∧ Rep F.K S2 d x := by
  intro i H2 S2 _ _
  have hl : (rangeD lo hi).length = (hi - lo).toNat := by unfold rangeD; rw [List.length_map, List.length_range]
  refine ⟨fun ei => by show (hi - lo).toNat ≤ i; omega, fun d ed => ?_⟩
  have hi' : i < (hi - lo).toNat := by
    have z := (List.getElem?_eq_some_iff.mp ed).1
    omega
  have ed2 : d = .int (lo + (i : Int)) := by
    unfold rangeD at ed
    rw [List.getElem?_map, List.getElem?_range hi'] at ed
    exact (Option.some.inj ed).symm
  refine ⟨hi', fun x H3 y => ⟨y.1, ?_⟩⟩
  rw [ed2]
  exact y.2
theorem simI_range1 {tl : TE} {m : M R} (s : SimE K W tl m) : SimI K W (iRng1 (tCons tl tNil)) (mItR1 m) := ⟨fun F S0 H σ E _ _ Rr hK fo st h => by
  unfold mItR1 mB at h
  refine OkE.bind (Q := fun x H1 => ∃ j : Int, [x] = [.int j] ∧ -(2 ^ 62) ≤ j ∧ j < 2 ^ 62 ∧ Rr (Itr 0 j.toNat) H1) s hK fo st (fun r E1 e1 S1 H1 v x1 st1 rv => ?_) (fun x E1 e1 S1 H1 cls d x1 st1 rx => ?_) fun e1 => ?_
  · rw [e1] at h
    dsimp only at h
    cases r with
    | sl i => exact h.elim
    | im d =>
      cases d with
      | int j =>
        have ev : v = .int j := rv
        dsimp only at h
        unfold mItR at h
        cases q : (inRng 0 && inRng j) with
        | false => rw [q] at h; exact h.elim
        | true =>
          rw [q] at h
          have q2 : -(2 ^ 62) ≤ j ∧ j < 2 ^ 62 := inRng_iff (Bool.and_eq_true_iff.mp q).2
          refine ⟨j, by rw [ev], q2.1, q2.2, ?_⟩
          have e0 : (j - 0).toNat = j.toNat := by rw [Int.sub_zero]
          have := h (Itr 0 (j - 0).toNat) S1 H1 x1 st1 (range_key 0 j)
          rw [e0] at this
          exact this
      | _ => exact h.elim
  · rw [e1] at h
    exact h S1 H1 cls d x1 st1 rx
  · rw [e1] at h
    exact h⟩
theorem simI_range2 {tl tl2 : TE} {m n : M R} (s : SimE K W tl m) (s2 : SimE K W tl2 n) : SimI K W (iRng2 (tCons tl (tCons tl2 tNil))) (mItR2 m n) := ⟨fun F S0 H σ E _ _ Rr hK fo st h => by
  unfold mItR2 mB at h
  refine OkE.bind (Q := fun x H1 => tCons tl2 tNil σ H1 fun xs H2 => ∃ i j : Int, x :: xs = [.int i, .int j] ∧ (-(2 ^ 62) ≤ i ∧ i < 2 ^ 62 ∧ -(2 ^ 62) ≤ j ∧ j < 2 ^ 62) ∧ Rr (Itr i (j - i).toNat) H2) s hK fo st (fun r E1 e1 S1 H1 v x1 st1 rv => ?_) (fun x E1 e1 S1 H1 cls d x1 st1 rx => ?_) fun e1 => ?_
  · rw [e1] at h
    dsimp only at h
    refine OkE.bind (Q := fun y H2 => ∃ i j : Int, [v, y] = [.int i, .int j] ∧ (-(2 ^ 62) ≤ i ∧ i < 2 ^ 62 ∧ -(2 ^ 62) ≤ j ∧ j < 2 ^ 62) ∧ Rr (Itr i (j - i).toNat) H2) s2 hK fo st1 (fun r2 E2 e2 S2 H2 v2 x2 st2 rv2 => ?_) (fun x E1 e1 S1 H1 cls d x2 st1 rx => ?_) fun e2 => ?_
    · rw [e2] at h
      dsimp only at h
      cases r with
      | sl i => exact h.elim
      | im d =>
        cases d with
        | int i =>
          cases r2 with
          | sl i => exact h.elim
          | im d =>
            cases d with
            | int j =>
              have ev : v = .int i := rv
              have ev2 : v2 = .int j := rv2
              dsimp only at h
              unfold mItR at h
              cases q : (inRng i && inRng j) with
              | false => rw [q] at h; exact h.elim
              | true =>
                rw [q] at h
                have q1 : -(2 ^ 62) ≤ i ∧ i < 2 ^ 62 := inRng_iff (Bool.and_eq_true_iff.mp q).1
                have q2 : -(2 ^ 62) ≤ j ∧ j < 2 ^ 62 := inRng_iff (Bool.and_eq_true_iff.mp q).2
                exact ⟨i, j, by rw [ev, ev2], ⟨q1.1, q1.2, q2.1, q2.2⟩, h (Itr i (j - i).toNat) S2 H2 (x1.trans x2) st2 (range_key i j)⟩
            | _ => exact h.elim
        | _ => exact h.elim
    · rw [e1] at h
      exact h S1 H1 cls d (x1.trans x2) st1 rx
    · rw [e2] at h
      exact h
  · rw [e1] at h
    exact h S1 H1 cls d x1 st1 rx
  · rw [e1] at h
    exact h⟩
end
end Pu
set_option Elab.async false
set_option linter.all false
set_option maxRecDepth 100000
set_option maxHeartbeats 4000000
/-! Pu: operators, displays, indices, built-ins on data. -/
namespace Pu
open PySem PySem.Spec PyProof.Rows L2
/-! ### ints -/
def oI2 (f : Int → Int → Option D) (d e : D) : Option D := match d, e with
  | .int i, .int j => f i j
  | _, _ => none
theorem op2_int {r : R2} {f : Int → Int → Option D} (h : ∀ (i j : Int) (z : D) (H : Hp) (Q : VK), f i j = some z → (∀ v, (∀ K S, Rep K S z v) → Q v H) → r (.int i) (.int j) H Q) : Op2V r (oI2 f) := fun K S H x y d e z Q ex rx ry hf k => by
  cases d with
  | int i =>
    cases e with
    | int j =>
      have e1 : x = .int i := rx
      have e2 : y = .int j := ry
      subst e1
      subst e2
      exact h i j z H Q hf fun v hv => k v (hv K S)
    | _ => cases hf
  | _ => cases hf
def oAdd := oI2 fun i j => some (.int (i + j))
def oSub := oI2 fun i j => some (.int (i - j))
@[irreducible] def mulOk (i j : Int) : Bool := decide (i.natAbs.log2 + j.natAbs.log2 < 1000000) || (Nat.ble i.natAbs 9223372036854775808 || Nat.ble j.natAbs 9223372036854775808)
@[irreducible] def fdivOk (j : Int) : Bool := decide (j ≠ 0) && decide (j.natAbs.log2 < 9000)
def ifO {α : Type} (b : Bool) (a : α) : Option α := match b with
  | true => some a
  | false => none
theorem ifO_some {α : Type} {b : Bool} {a z : α} (h : ifO b a = some z) : b = true ∧ a = z := by
  cases b with
  | true => exact ⟨rfl, Option.some.inj h⟩
  | false => cases h
def oMul := oI2 fun i j => ifO (mulOk i j) (.int (i * j))
def oFdiv := oI2 fun i j => ifO (fdivOk j) (.int (i.fdiv j))
def oMod := oI2 fun i j => ifO (decide (j ≠ 0)) (.int (i.fmod j))
def oLt := oI2 fun i j => some (.bl (decide (i < j)))
def oLe := oI2 fun i j => some (.bl (decide (i ≤ j)))
def oGt := oI2 fun i j => some (.bl (decide (j < i)))
def oGe := oI2 fun i j => some (.bl (decide (j ≤ i)))
def CMulP (i j : Int) : Prop := mulOk i j = true
theorem CMulP.ok {i j : Int} (h : CMulP i j) : IntMulOk i j := by
  unfold CMulP mulOk at h
  rcases Bool.or_eq_true_iff.mp h with h | h
  · have h' : i.natAbs.log2 + j.natAbs.log2 < 1000000 := of_decide_eq_true h
    exact CMulW.ok h'
  · rcases Bool.or_eq_true_iff.mp h with h | h
    · exact CMul.ok (.inl (by have := Nat.le_of_ble_eq_true h; omega))
    · exact CMul.ok (.inr (by have := Nat.le_of_ble_eq_true h; omega))
def CDivP (_ j : Int) : Prop := fdivOk j = true
theorem fdiv_iff {j : Int} (h : fdivOk j = true) : j ≠ 0 ∧ j.natAbs.log2 < 9000 := by
  unfold fdivOk at h
  exact ⟨of_decide_eq_true (Bool.and_eq_true_iff.mp h).1, of_decide_eq_true (Bool.and_eq_true_iff.mp h).2⟩
section
variable {X : Cx}
theorem op_mulP : OpR X (binaryOp .Mult) (rI CMulP fun i j => .int (i * j)) := opI fun _ _ _ _ _ _ _ hc q => mul_int q hc.ok
theorem op_fdivP : OpR X (binaryOp .FloorDiv) (rI CDivP fun i j => .int (i.fdiv j)) := opI fun _ _ _ _ _ _ _ hc q =>
  floordiv_int (fdiv_iff hc).1 q (.inl (PyProof.noPylong_of_log2 (fdiv_iff hc).2))
end
theorem op2_add : Op2V (rI0 fun i j => .int (i + j)) oAdd := op2_int fun i j z H Q h k => by
  cases h
  exact ⟨i, j, rfl, rfl, k _ fun _ _ => rfl⟩
theorem op2_sub : Op2V (rI0 fun i j => .int (i - j)) oSub := op2_int fun i j z H Q h k => by
  cases h
  exact ⟨i, j, rfl, rfl, k _ fun _ _ => rfl⟩
theorem op2_mul : Op2V (rI CMulP fun i j => .int (i * j)) oMul := op2_int fun i j z H Q h k => by
  obtain ⟨h1, h2⟩ := ifO_some h
  subst h2
  exact ⟨i, j, rfl, rfl, h1, k _ fun _ _ => rfl⟩
theorem op2_fdiv : Op2V (rI CDivP fun i j => .int (i.fdiv j)) oFdiv := op2_int fun i j z H Q h k => by
  obtain ⟨h1, h2⟩ := ifO_some h
  subst h2
  exact ⟨i, j, rfl, rfl, h1, k _ fun _ _ => rfl⟩
theorem op2_mod : Op2V (rI (fun _ j => j ≠ 0) fun i j => .int (i.fmod j)) oMod := op2_int fun i j z H Q h k => by
  obtain ⟨h1, h2⟩ := ifO_some h
  subst h2
  exact ⟨i, j, rfl, rfl, of_decide_eq_true h1, k _ fun _ _ => rfl⟩
theorem op2_lt : Op2V (rI0 fun i j => .bl (decide (i < j))) oLt := op2_int fun i j z H Q h k => by
  cases h
  exact ⟨i, j, rfl, rfl, k _ fun _ _ => rfl⟩
theorem op2_le : Op2V (rI0 fun i j => .bl (decide (i ≤ j))) oLe := op2_int fun i j z H Q h k => by
  cases h
  exact ⟨i, j, rfl, rfl, k _ fun _ _ => rfl⟩
theorem op2_gt : Op2V (rI0 fun i j => .bl (decide (j < i))) oGt := op2_int fun i j z H Q h k => by
  cases h
  exact ⟨i, j, rfl, rfl, k _ fun _ _ => rfl⟩
theorem op2_ge : Op2V (rI0 fun i j => .bl (decide (j ≤ i))) oGe := op2_int fun i j z H Q h k => by
  cases h
  exact ⟨i, j, rfl, rfl, k _ fun _ _ => rfl⟩
/-! ### == -/
def eqS (d e : D) : Option Bool := match d, e with
  | .int i, .int j => some (decide (i = j))
  | .bl i, .bl j => some (decide (i = j))
  | .str i, .str j => some (decide (i = j))
  | .non, .non => some true
  | .non, .int _ => some false
  | .int _, .non => some false
  | _, _ => none
def oEqS (d e : D) : Option D := (eqS d e).map D.bl
def oNeS (d e : D) : Option D := (eqS d e).map fun b => D.bl (!b)
theorem eqS_scal {K : PySem.W.Frag} {S H : Hp} {x y : V} {d e : D} {b : Bool} (rx : RdOk K S H d x) (ry : RdOk K S H e y) (h : eqS d e = some b) : scal x y = true ∧ decide (x = y) = b := by
  unfold eqS at h
  split at h <;> first | cases h | skip
  · have e1 : x = .int _ := rx
    have e2 : y = .int _ := ry
    subst e1
    subst e2
    exact ⟨rfl, by rw [Bool.eq_iff_iff]; simp⟩
  · have e1 : x = .bl _ := rx
    have e2 : y = .bl _ := ry
    subst e1
    subst e2
    exact ⟨rfl, by rw [Bool.eq_iff_iff]; simp⟩
  · have e1 : x = .str _ := rx
    have e2 : y = .str _ := ry
    subst e1
    subst e2
    exact ⟨rfl, by rw [Bool.eq_iff_iff]; simp⟩
  · have e1 : x = .non := rx
    have e2 : y = .non := ry
    subst e1
    subst e2
    exact ⟨rfl, rfl⟩
  · have e1 : x = .non := rx
    have e2 : y = .int _ := ry
    subst e1
    subst e2
    exact ⟨rfl, rfl⟩
  · have e1 : x = .int _ := rx
    have e2 : y = .non := ry
    subst e1
    subst e2
    exact ⟨rfl, rfl⟩
theorem op2_eqS : Op2V rEq oEqS := fun K S H x y d e z Q ex rx ry h k => by
  obtain ⟨b, h1, h2⟩ := Option.map_eq_some_iff.mp h
  obtain ⟨q1, q2⟩ := eqS_scal rx ry h1
  refine ⟨q1, k _ ?_⟩
  rw [q2, ← h2] <;> rfl
theorem op2_neS : Op2V rNe oNeS := fun K S H x y d e z Q ex rx ry h k => by
  obtain ⟨b, h1, h2⟩ := Option.map_eq_some_iff.mp h
  obtain ⟨q1, q2⟩ := eqS_scal rx ry h1
  refine ⟨q1, k _ ?_⟩
  rw [q2, ← h2] <;> rfl
/- plain data -/
mutual
def toPy : D → Option PyData
  | .non => some .none
  | .bl b => some (.bool b)
  | .int i => some (.int i)
  | .str s => some (.str s)
  | .lst ds => (toPys ds).map PyData.list
  | .tup ds => (toPys ds).map PyData.tuple
  | .ins _ _ _ => none
  | .scr ns => some (.list (ns.map PyData.int))
def toPys : List D → Option (List PyData)
  | [] => some []
  | d :: ds => match toPy d, toPys ds with
    | some p, some ps => some (p :: ps)
    | _, _ => none
end
mutual
theorem dp_of {K : PySem.W.Frag} {H : Hp} : ∀ {d : D} {v : V} {p : PyData}, Rep K H d v → toPy d = some p → Dp K H v p
  | .non, v, p, h, e => by
    have e1 : v = .non := h
    subst e1
    cases e
    exact .non
  | .bl b, v, p, h, e => by
    have e1 : v = .bl b := h
    subst e1
    cases e
    exact .bl b
  | .int i, v, p, h, e => by
    have e1 : v = .int i := h
    subst e1
    cases e
    exact .int i
  | .str s, v, p, h, e => by
    have e1 : v = .str s := h
    subst e1
    cases e
    exact .str s
  | .lst ds, v, p, h, e => by
    obtain ⟨a, ws, e1, e2, e3⟩ := h
    subst e1
    obtain ⟨ps, h1, h2⟩ := Option.map_eq_some_iff.mp (show (toPys ds).map PyData.list = some p from e)
    rw [← h2]
    exact .lst (.of e2) (dps_of e3 h1)
  | .tup ds, v, p, h, e => by
    obtain ⟨a, ws, e1, e2, e3⟩ := h
    subst e1
    obtain ⟨ps, h1, h2⟩ := Option.map_eq_some_iff.mp (show (toPys ds).map PyData.tuple = some p from e)
    rw [← h2]
    exact .tup e2 (dps_of e3 h1)
  | .ins _ _ _, v, p, h, e => by cases e
  | .scr ns, v, p, h, e => by
    obtain ⟨a, e1, e2⟩ := h
    subst e1
    have e3 : p = .list (ns.map PyData.int) := (Option.some.inj e).symm
    rw [e3]
    refine .lst e2 ?_
    clear e2 e e3
    induction ns with
    | nil => exact .nil
    | cons n ns ih => exact .cons (.int n) ih
theorem dps_of {K : PySem.W.Frag} {H : Hp} : ∀ {ds : List D} {ws : List V} {ps : List PyData}, Reps K H ds ws → toPys ds = some ps → DpAll K H ws ps
  | [], ws, ps, h, e => by
    have e1 : ws = [] := h
    subst e1
    cases e
    exact .nil
  | d :: ds, ws, ps, h, e => by
    obtain ⟨v, us, e1, e2, e3⟩ := h
    subst e1
    unfold toPys at e
    cases q1 : toPy d with
    | none => rw [q1] at e; cases e
    | some p1 =>
      cases q2 : toPys ds with
      | none => rw [q1, q2] at e; cases e
      | some p2 =>
        rw [q1, q2] at e
        cases e
        exact .cons (dp_of e2 q1) (dps_of e3 q2)
end
theorem rd_dp {K : PySem.W.Frag} {S H : Hp} {d : D} {v : V} {p : PyData} (ex : Ex S H) (h : RdOk K S H d v) (e : toPy d = some p) : Dp K H v p := by
  cases d with
  | lst ds =>
    obtain ⟨a, ws, e1, e2, e3⟩ := h
    exact dp_of (d := .lst ds) ⟨a, ws, e1, e2, e3.mono ex⟩ e
  | _ => exact dp_of (Rep.mono ex h) e
def eqD (d e : D) : Option Bool := match toPy d, toPy e with
  | some p, some q => ifO (SeqAt.shaped p && SeqAt.shaped q) (PyData.eqv p q)
  | _, _ => none
def oEqD (d e : D) : Option D := (eqD d e).map D.bl
def oNeD (d e : D) : Option D := (eqD d e).map fun b => D.bl (!b)
def Op2K (r : PySem.W.Frag → R2) (f : D → D → Option D) : Prop := ∀ (K : PySem.W.Frag) (S H : Hp) (x y : V) (d e z : D) (Q : VK), Ex S H → RdOk K S H d x → RdOk K S H e y → f d e = some z → (∀ v, Rep K S z v → Q v H) → r K x y H Q
theorem sim_op2K {K : PySem.W.Frag} {W : WX} {r : PySem.W.Frag → R2} {f : D → D → Option D} {ta tb : TE} {ma mb : M R} (hr : Op2K r f) (sa : SimE K W ta ma) (sb : SimE K W tb mb) : SimE K W (tOp (r K) ta tb) (mOp2 f ma mb) := ⟨fun F S H σ E Q hK fo st h =>
  OkE.two sa sb hK fo st h fun S' H' E' x y d e ex st' dx ey h' => by
    unfold mB mO at h'
    cases q : f d e with
    | none => rw [q] at h'; exact h'.elim
    | some z =>
      rw [q] at h'
      have := hr F.K S' H' x y d e z Q st'.sub dx ey q fun v rv => h' S' H' v (Ex.refl S') st' rv
      exact hK ▸ this⟩
theorem eqD_dp {K : PySem.W.Frag} {S H : Hp} {x y : V} {d e : D} {b : Bool} (ex : Ex S H) (rx : RdOk K S H d x) (ry : RdOk K S H e y) (h : eqD d e = some b) :
    ∃ p q, Dp K H x p ∧ Dp K H y q ∧ SeqAt.shaped p = true ∧ SeqAt.shaped q = true ∧ PyData.eqv p q = b := by
  unfold eqD at h
  cases q1 : toPy d with
  | none => rw [q1] at h; cases h
  | some p =>
    cases q2 : toPy e with
    | none => rw [q1, q2] at h; cases h
    | some q =>
      rw [q1, q2] at h
      obtain ⟨h1, h2⟩ := ifO_some h
      obtain ⟨h3, h4⟩ := Bool.and_eq_true_iff.mp h1
      exact ⟨p, q, rd_dp ex rx q1, rd_dp ex ry q2, h3, h4, h2⟩
theorem op2_eqD : Op2K rEqD oEqD := fun K S H x y d e z Q ex rx ry h k => by
  obtain ⟨b, h1, h2⟩ := Option.map_eq_some_iff.mp h
  obtain ⟨p, q, q1, q2, q3, q4, q5⟩ := eqD_dp ex rx ry h1
  refine ⟨p, q, q1, q2, q3, q4, k _ ?_⟩
  rw [q5, ← h2] <;> rfl
theorem op2_neD : Op2K rNeD oNeD := fun K S H x y d e z Q ex rx ry h k => by
  obtain ⟨b, h1, h2⟩ := Option.map_eq_some_iff.mp h
  obtain ⟨p, q, q1, q2, q3, q4, q5⟩ := eqD_dp ex rx ry h1
  refine ⟨p, q, q1, q2, q3, q4, k _ ?_⟩
  rw [q5, ← h2] <;> rfl
/-! ### items -/
theorem atI_reps {K : PySem.W.Frag} {S : Hp} {ds : List D} {ws : List V} {i : Int} {d : D} (r : Reps K S ds ws) (h : atI ds i = some d) : ∃ w, atI ws i = some w ∧ Rep K S d w := by
  unfold atI at h ⊢
  rw [r.length]
  obtain ⟨j, h1, h2⟩ := Option.bind_eq_some_iff.mp h
  rw [h1]
  exact r.getD h2
def oIxL (d e : D) : Option D := match d, e with
  | .lst ds, .int i => atI ds i
  | .scr ns, .int i => (atI ns i).map D.int
  | _, _ => none
def oIxT (d e : D) : Option D := match d, e with
  | .tup ds, .int i => atI ds i
  | _, _ => none
theorem op2_ixL : Op2K rIxL oIxL := fun K S H x y d e z Q ex rx ry h k => by
  cases d with
  | lst ds =>
    cases e with
    | int i =>
      obtain ⟨a, ws, e1, e2, e3⟩ := rx
      have ey : y = .int i := ry
      obtain ⟨w, q1, q2⟩ := atI_reps e3 h
      exact ⟨a, ws, i, w, e1, ey, .of e2, q1, k w q2⟩
    | _ => cases h
  | scr ns =>
    cases e with
    | int i =>
      obtain ⟨a, e1, e2⟩ := rx
      have ey : y = .int i := ry
      obtain ⟨n, q1, q2⟩ := Option.map_eq_some_iff.mp h
      refine ⟨a, _, i, .int n, e1, ey, ex_sql ex e2, ?_, k _ (by rw [← q2] <;> rfl)⟩
      unfold atI at q1 ⊢
      rw [List.length_map]
      obtain ⟨j, h1, h2⟩ := Option.bind_eq_some_iff.mp q1
      rw [h1]
      show (ns.map V.int)[j]? = _
      rw [List.getElem?_map, h2]
      rfl
    | _ => cases h
  | _ => cases h
theorem op2_ixT : Op2K rIxT oIxT := fun K S H x y d e z Q ex rx ry h k => by
  cases d with
  | tup ds =>
    cases e with
    | int i =>
      obtain ⟨a, ws, e1, e2, e3⟩ := rx
      have ey : y = .int i := ry
      obtain ⟨w, q1, q2⟩ := atI_reps e3 h
      exact ⟨a, ws, i, w, e1, ey, ex_sqt ex e2, q1, k w q2⟩
    | _ => cases h
  | _ => cases h
/-! ### one operand -/
def mOp1 (f : D → Option D) (a : M R) : M R := mB a fun x => mB (mRd x) fun d => mB (mO (f d)) fun z => mP (.im z)
def Op1 (r : V → Hp → VK → Prop) (f : D → Option D) : Prop := ∀ (K : PySem.W.Frag) (S H : Hp) (x : V) (d z : D) (Q : VK), Ex S H → RdOk K S H d x → f d = some z → (∀ v, Rep K S z v → Q v H) → r x H Q
section
variable {K : PySem.W.Frag} {W : WX}
theorem OkE.one {F : Fr} {S H : Hp} {σ : L2.St} {E : Env} {Q : VK} {ta : TE} {ma : M R} {k : D → M R} {r : V → Hp → VK → Prop} (sa : SimE K W ta ma) (hK : F.K = K) (fo : FrOk F) (st : Sto F S H σ E) (h : OkE F S σ W (mB ma (fun x => mB (mRd x) k) E) Q)
    (hr : ∀ S' H' E' x d, Ex S S' → Sto F S' H' σ E' → RdOk F.K S' H' d x → OkE F S' σ W (k d E') Q → r x H' Q) : ta σ H fun x H1 => r x H1 Q := by
  unfold mB at h
  refine OkE.bind (Q := fun x H1 => r x H1 Q) sa hK fo st ?_ ?_ ?_
  · intro ra E1 e1 S1 H1 x x1 st1 rx
    rw [e1] at h
    dsimp only at h
    unfold mRd at h
    cases q1 : rdR E1 ra with
    | none => rw [q1] at h; exact h.elim
    | some d =>
      rw [q1] at h
      exact hr S1 H1 E1 x d x1 st1 (rd_ok st1 rx q1) (h.mono x1)
  · intro xx E2 e2 S2 H2 cls d x2 st2 rx2
    rw [e2] at h
    exact h S2 H2 cls d x2 st2 rx2
  · intro e2
    rw [e2] at h
    exact h
theorem sim_op1 {r : V → Hp → VK → Prop} {f : D → Option D} {ta : TE} {ma : M R} (hr : Op1 r f) (sa : SimE K W ta ma) : SimE K W (tUn r ta) (mOp1 f ma) := ⟨fun F S H σ E Q hK fo st h =>
  OkE.one (r := r) sa hK fo st h fun S' H' E' x d ex st' dx h' => by
    unfold mB mO at h'
    cases q : f d with
    | none => rw [q] at h'; exact h'.elim
    | some z =>
      rw [q] at h'
      exact hr F.K S' H' x d z Q st'.sub dx q fun v rv => h' S' H' v (Ex.refl S') st' rv⟩
def oNeg (d : D) : Option D := match d with
  | .int i => some (.int (-i))
  | _ => none
theorem op1_neg : Op1 (rU fun i => .int (-i)) oNeg := fun K S H x d z Q ex rx h k => by
  cases d with
  | int i =>
    cases h
    exact ⟨i, rx, k _ rfl⟩
  | _ => cases h
/-! ### a new list -/
def mL2 (f : D → D → Option (List D)) (a b : M R) : M (List D) := mB a fun x => mB b fun y => mB (mRd x) fun d => mB (mRd y) fun e => mO (f d e)
def Op2L (r : R2) (f : D → D → Option (List D)) : Prop := ∀ (K : PySem.W.Frag) (S H : Hp) (x y : V) (d e : D) (zs : List D) (Q : VK), Ex S H → RdOk K S H d x → RdOk K S H e y → f d e = some zs → (∀ p ws, H p = none → Reps K S zs ws → Q (.ref p) (upd H p (.lst ws))) → r x y H Q
/-- a list laid now -/
theorem OkL.laid {F : Fr} {S H : Hp} {σ : L2.St} {E : Env} {Q : VK} {zs : List D} {ws : List V} {p : Addr} (fo : FrOk F) (st : Sto F S H σ E) (hp : H p = none) (rs : Reps F.K S zs ws) (h : OkL F S σ W (.ok zs E) Q) : Q (.ref p) (upd H p (.lst ws)) :=
  h S _ p ws (Ex.refl S) (st.alloc fo hp) upd_same rs (st.H0_none hp) (st.S_none hp) (st.noSl_of_none fo hp)
theorem simL_op2 {r : R2} {f : D → D → Option (List D)} {ta tb : TE} {ma mb : M R} (hr : Op2L r f) (sa : SimE K W ta ma) (sb : SimE K W tb mb) : SimL K W (tOp r ta tb) (mL2 f ma mb) := ⟨fun F S H σ E Q hK fo st h => by
  unfold mL2 mB at h
  refine OkE.bind (Q := fun x H1 => tb σ H1 fun y H2 => r x y H2 Q) sa hK fo st ?_ ?_ ?_
  · intro ra E1 e1 S1 H1 x x1 st1 rx
    rw [e1] at h
    dsimp only at h
    refine OkE.bind (Q := fun y H2 => r x y H2 Q) sb hK fo st1 ?_ ?_ ?_
    · intro rb E2 e2 S2 H2 y x2 st2 ry
      rw [e2] at h
      dsimp only at h
      unfold mRd at h
      cases q1 : rdR E2 ra with
      | none => rw [q1] at h; exact h.elim
      | some d =>
        rw [q1] at h
        dsimp only at h
        cases q2 : rdR E2 rb with
        | none => rw [q2] at h; exact h.elim
        | some e =>
          rw [q2] at h
          dsimp only at h
          unfold mO at h
          cases q3 : f d e with
          | none => rw [q3] at h; exact h.elim
          | some zs =>
            rw [q3] at h
            exact hr F.K S2 H2 x y d e zs Q st2.sub (rd_ok st2 (rx.mono x2) q1) (rd_ok st2 ry q2) q3 fun p ws hp rs => OkL.laid fo st2 hp rs (OkL.mono (x1.trans x2) h)
    · intro xx E2 e2 S2 H2 cls d x2 st2 rx2
      rw [e2] at h
      exact h S2 H2 cls d (x1.trans x2) st2 rx2
    · intro e2
      rw [e2] at h
      exact h
  · intro xx E2 e2 S2 H2 cls d x2 st2 rx2
    rw [e2] at h
    exact h S2 H2 cls d x2 st2 rx2
  · intro e2
    rw [e2] at h
    exact h⟩
@[irreducible] def szOk (n : Nat) : Bool := decide (n ≤ sizeLine)
theorem sz_le {n : Nat} (h : szOk n = true) : n ≤ sizeLine := by
  unfold szOk at h
  exact of_decide_eq_true h
@[irreducible] def repOk (k : Int) : Bool := Nat.ble k.natAbs 4611686018427387904
theorem rep_iff {k : Int} (h : repOk k = true) : -(2 ^ 63) ≤ k ∧ k < 2 ^ 63 := by
  unfold repOk at h
  have := Nat.le_of_ble_eq_true h
  omega
def oCat (d e : D) : Option (List D) := match d, e with
  | .lst xs, .lst ys => ifO (szOk (xs.length + ys.length)) (xs ++ ys)
  | _, _ => none
theorem op2_cat : Op2L rCat oCat := fun K S H x y d e zs Q ex rx ry h k => by
  cases d with
  | lst xs =>
    cases e with
    | lst ys =>
      obtain ⟨a, ws, e1, e2, e3⟩ := rx
      obtain ⟨b, us, f1, f2, f3⟩ := ry
      obtain ⟨h1, h2⟩ := ifO_some h
      subst h2
      exact ⟨a, b, ws, us, e1, f1, e2, f2, by rw [e3.length, f3.length]; exact sz_le h1, fun p hp => k p _ hp (e3.append f3)⟩
    | _ => cases h
  | _ => cases h
def oRep (d e : D) : Option (List D) := match d, e with
  | .lst xs, .int k => ifO (repOk k && szOk (xs.length * k.toNat)) (List.replicate k.toNat xs).flatten
  | _, _ => none
theorem Reps.rep {S : Hp} {xs : List D} {ws : List V} (h : Reps K S xs ws) : ∀ n : Nat, Reps K S (List.replicate n xs).flatten (List.replicate n ws).flatten
  | 0 => .nil
  | n + 1 => by
    rw [List.replicate_succ, List.replicate_succ, List.flatten_cons, List.flatten_cons]
    exact h.append (Reps.rep h n)
theorem op2_rep : Op2L rRep oRep := fun K S H x y d e zs Q ex rx ry h k => by
  cases d with
  | lst xs =>
    cases e with
    | int n =>
      obtain ⟨a, ws, e1, e2, e3⟩ := rx
      have ey : y = .int n := ry
      obtain ⟨h1, h2⟩ := ifO_some h
      subst h2
      obtain ⟨h3, h4⟩ := Bool.and_eq_true_iff.mp h1
      have h5 := rep_iff h3
      exact ⟨a, n, ws, e1, ey, e2, h5.1, h5.2, by rw [e3.length]; exact sz_le h4, fun p hp => k p _ hp (e3.rep _)⟩
    | _ => cases h
  | _ => cases h
/-- a new list is let stand -/
def mFz (m : M (List D)) : M R := mB m fun ds => mP (.im (.lst ds))
theorem sim_fz {t : TE} {m : M (List D)} (s : SimL K W t m) : SimE K W t (mFz m) := ⟨fun F S H σ E Q hK fo st h => by
  unfold mFz mB at h
  refine OkL.bind s hK fo st (fun ds E1 e1 S1 H1 p ws x1 st1 hp rs h0 hS hn => ?_) (fun x E1 e1 S1 H1 cls d x1 st1 rx => ?_) fun e1 => ?_
  · rw [e1] at h
    exact h _ H1 (.ref p) (x1.trans (Ex.new hS)) (st1.freeze fo hp h0 hS hn) ⟨p, ws, rfl, upd_same, rs.mono (Ex.new hS)⟩
  · rw [e1] at h
    exact h S1 H1 cls d x1 st1 rx
  · rw [e1] at h
    exact h⟩
/-- slot i's own list is let stand -/
def mFix (i : Nat) : M R := fun E => match at_ E i with
  | .ow ds => .ok (.im (.lst ds)) (E.set i (.im (.lst ds)))
  | .im d => .ok (.im d) E
  | _ => .stuck
theorem at_lt {E : Env} {i : Nat} {x : Sl} (h : at_ E i = x) (hx : x ≠ .un) : i < E.length := by
  by_cases q : i < E.length
  · exact q
  · exfalso
    apply hx
    rw [← h]
    unfold at_
    rw [List.getD_eq_getElem?_getD, List.getElem?_eq_none_iff.mpr (by omega)]
    rfl
theorem sim_fix (i : Nat) : SimE K W (tVar i) (mFix i) := ⟨fun F S H σ E Q hK fo st h => by
  have z := st.slot i
  unfold mFix at h
  cases q : at_ E i with
  | ow ds =>
    rw [q] at h z
    obtain ⟨a, ws, q1, _⟩ := z
    obtain ⟨S', x1, st', rv⟩ := st.fixSlot fo (at_lt q (by intro z; cases z)) q
    exact ⟨_, q1, h S' H _ x1 st' (rv _ q1)⟩
  | im d =>
    rw [q] at h z
    obtain ⟨v, q1, q2⟩ := z
    exact ⟨v, q1, h S H v (Ex.refl S) st q2⟩
  | _ => rw [q] at h; exact h.elim⟩
/-! ### displays -/
def imAll : List R → Option (List D)
  | [] => some []
  | .im d :: rs => (imAll rs).map (d :: ·)
  | .sl _ :: _ => none
theorem imAll_reps {F : Fr} {S : Hp} {σ : L2.St} : ∀ {rs : List R} {vs : List V} {ds : List D}, RepRs F S σ rs vs → imAll rs = some ds → Reps F.K S ds vs
  | [], vs, ds, h, e => by
    cases h
    cases e
    exact .nil
  | .im d :: rs, vs, ds, h, e => by
    cases h with
    | cons a b =>
      obtain ⟨es, h1, h2⟩ := Option.map_eq_some_iff.mp e
      rw [← h2]
      exact .cons a (imAll_reps b h1)
  | .sl _ :: _, vs, ds, h, e => by cases e
def mLst (m : M (List R)) : M (List D) := mB m fun rs => mB (mO (imAll rs)) fun ds => mO (ifO (szOk ds.length) ds)
def mTup (m : M (List R)) : M R := mB m fun rs => mB (mO (imAll rs)) fun ds => mO (ifO (szOk ds.length) (.im (.tup ds)))
theorem simL_lst {t : TA} {m : M (List R)} (s : SimA K W t m) : SimL K W (tLst t) (mLst m) := ⟨fun F S H σ E Q hK fo st h => by
  unfold mLst mB at h
  refine OkA.bind (Q := fun xs H1 => xs.length ≤ sizeLine ∧ ∀ p, H1 p = none → Q (.ref p) (upd H1 p (.lst xs))) s hK fo st (fun rs E1 e1 S1 H1 vs x1 st1 rvs => ?_) (fun x E1 e1 S1 H1 cls d x1 st1 rx => ?_) fun e1 => ?_
  · rw [e1] at h
    dsimp only at h
    unfold mO at h
    cases q : imAll rs with
    | none => rw [q] at h; exact h.elim
    | some ds =>
      rw [q] at h
      dsimp only at h
      have rr := imAll_reps rvs q
      cases q2 : szOk ds.length with
      | false => rw [q2] at h; exact h.elim
      | true =>
        rw [q2] at h
        exact ⟨by rw [rr.length]; exact sz_le q2, fun p hp => OkL.laid (W := W) fo st1 hp rr (OkL.mono x1 h)⟩
  · rw [e1] at h
    exact h S1 H1 cls d x1 st1 rx
  · rw [e1] at h
    exact h⟩
/-- a tuple laid now -/
theorem OkE.laidT {F : Fr} {S H : Hp} {σ : L2.St} {E : Env} {Q : VK} {zs : List D} {ws : List V} {p : Addr} (fo : FrOk F) (st : Sto F S H σ E) (hp : H p = none) (rs : Reps F.K S zs ws) (h : OkE F S σ W (.ok (.im (.tup zs)) E) Q) : Q (.ref p) (upd H p (.tup ws)) := by
  have st1 := st.alloc (o := .tup ws) fo hp
  have st2 := st1.freeze fo upd_same (st.H0_none hp) (st.S_none hp) (st.noSl_of_none fo hp)
  exact h _ _ _ (Ex.new (st.S_none hp)) st2 ⟨p, ws, rfl, .of upd_same, rs.mono (Ex.new (st.S_none hp))⟩
theorem sim_tup {t : TA} {m : M (List R)} (s : SimA K W t m) : SimE K W (tTup t) (mTup m) := ⟨fun F S H σ E Q hK fo st h => by
  unfold mTup mB at h
  refine OkA.bind (Q := fun xs H1 => xs.length ≤ sizeLine ∧ ∀ p, H1 p = none → Q (.ref p) (upd H1 p (.tup xs))) s hK fo st (fun rs E1 e1 S1 H1 vs x1 st1 rvs => ?_) (fun x E1 e1 S1 H1 cls d x1 st1 rx => ?_) fun e1 => ?_
  · rw [e1] at h
    dsimp only at h
    unfold mO at h
    cases q : imAll rs with
    | none => rw [q] at h; exact h.elim
    | some ds =>
      rw [q] at h
      dsimp only at h
      have rr := imAll_reps rvs q
      cases q2 : szOk ds.length with
      | false => rw [q2] at h; exact h.elim
      | true =>
        rw [q2] at h
        exact ⟨by rw [rr.length]; exact sz_le q2, fun p hp => OkE.laidT (W := W) fo st1 hp rr (OkE.mono x1 h)⟩
  · rw [e1] at h
    exact h S1 H1 cls d x1 st1 rx
  · rw [e1] at h
    exact h⟩
/-! ### slices -/
structure SimO (K : PySem.W.Frag) (W : WX) (t : TO) (m : M (Option Int)) : Prop where
  run : ∀ (F : Fr) (S H : Hp) (σ : L2.St) (E : Env) (Q : Option Int → Hp → Prop), F.K = K → FrOk F → Sto F S H σ E →
    (match m E with
    | .ok o E' => ∀ S' H', Ex S S' → Sto F S' H' σ E' → Q o H'
    | .exc x E' => ∀ S' H' cls d, Ex S S' → Sto F S' H' σ E' → XOk F.K S' x cls d → W cls d σ H'
    | .stuck => False) → t σ H Q
def mNoPart : M (Option Int) := mP none
def mPart (m : M R) : M (Option Int) := mB m fun r => match r with
  | .im (.int i) => mP (some i)
  | _ => fun _ => .stuck
theorem simO_no : SimO K W tNoPart mNoPart := ⟨fun F S H σ E Q hK fo st h => h S H (Ex.refl S) st⟩
theorem simO_part {t : TE} {m : M R} (s : SimE K W t m) : SimO K W (tPart t) (mPart m) := ⟨fun F S H σ E Q hK fo st h => by
  unfold mPart mB at h
  refine OkE.bind (Q := fun x H1 => ∃ i, x = .int i ∧ Q (some i) H1) s hK fo st (fun r E1 e1 S1 H1 v x1 st1 rv => ?_) (fun x E1 e1 S1 H1 cls d x1 st1 rx => ?_) fun e1 => ?_
  · rw [e1] at h
    dsimp only at h
    cases r with
    | sl i => exact h.elim
    | im d =>
      cases d with
      | int i =>
        have ev : v = .int i := rv
        exact ⟨i, ev, h S1 H1 x1 st1⟩
      | _ => exact h.elim
  · rw [e1] at h
    exact h S1 H1 cls d x1 st1 rx
  · rw [e1] at h
    exact h⟩
def cutD (xs : List D) (lo hi : Option Int) : List D := (xs.drop (HT.sIx xs.length 0 lo)).take (HT.sIx xs.length xs.length hi - HT.sIx xs.length 0 lo)
theorem Reps.cut {S : Hp} {xs : List D} {ws : List V} (h : Reps K S xs ws) (lo hi : Option Int) : Reps K S (cutD xs lo hi) (cutV ws lo hi) := by
  unfold cutD cutV
  rw [h.length]
  exact (h.drop _).take _
def mSlL (m : M R) (lo hi : M (Option Int)) : M (List D) := mB m fun r => mB lo fun l => mB hi fun u => mB (mRd r) fun d => match d with
  | .lst ds => mP (cutD ds l u)
  | _ => fun _ => .stuck
def mSlT (m : M R) (lo hi : M (Option Int)) : M R := mB m fun r => mB lo fun l => mB hi fun u => mB (mRd r) fun d => match d with
  | .tup ds => mP (.im (.tup (cutD ds l u)))
  | _ => fun _ => .stuck
theorem simL_sl {te : TE} {tl th : TO} {m : M R} {lo hi : M (Option Int)} (s : SimE K W te m) (sl : SimO K W tl lo) (sh : SimO K W th hi) : SimL K W (tSl (rSlL K) te tl th) (mSlL m lo hi) := ⟨fun F S H σ E Q hK fo st h => by
  unfold mSlL mB at h
  refine OkE.bind (Q := fun x H1 => tl σ H1 fun l H2 => th σ H2 fun u H3 => rSlL K x l u H3 Q) s hK fo st (fun r E1 e1 S1 H1 v x1 st1 rv => ?_) (fun x E1 e1 S1 H1 cls d x1 st1 rx => ?_) fun e1 => ?_
  · rw [e1] at h
    dsimp only at h
    refine sl.run F S1 H1 σ E1 _ hK fo st1 ?_
    cases e2 : lo E1 with
    | stuck => rw [e2] at h; exact h
    | exc x E' => rw [e2] at h; exact fun S' H' cls d ex st' rx => h S' H' cls d (x1.trans ex) st' rx
    | ok l E2 =>
      rw [e2] at h
      dsimp only at h
      intro S2 H2 x2 st2
      refine sh.run F S2 H2 σ E2 _ hK fo st2 ?_
      cases e3 : hi E2 with
      | stuck => rw [e3] at h; exact h
      | exc x E' => rw [e3] at h; exact fun S' H' cls d ex st' rx => h S' H' cls d ((x1.trans x2).trans ex) st' rx
      | ok u E3 =>
        rw [e3] at h
        dsimp only at h
        intro S3 H3 x3 st3
        unfold mRd at h
        cases q1 : rdR E3 r with
        | none => rw [q1] at h; exact h.elim
        | some d =>
          rw [q1] at h
          dsimp only at h
          cases d with
          | lst ds =>
            obtain ⟨a, ws, q2, q3, q4⟩ := rd_ok st3 (rv.mono (x2.trans x3)) q1
            exact ⟨a, ws, q2, .of q3, fun p hp => OkL.laid (W := W) fo st3 hp (q4.cut l u) (OkL.mono ((x1.trans x2).trans x3) h)⟩
          | _ => exact h.elim
  · rw [e1] at h
    exact h S1 H1 cls d x1 st1 rx
  · rw [e1] at h
    exact h⟩
theorem cut_whole {xs : List D} {lo hi : Option Int} (h : HT.sIx xs.length 0 lo = 0 ∧ HT.sIx xs.length xs.length hi = xs.length) : cutD xs lo hi = xs := by
  unfold cutD
  rw [h.1, h.2]
  simp
theorem sim_slT {te : TE} {tl th : TO} {m : M R} {lo hi : M (Option Int)} (s : SimE K W te m) (sl : SimO K W tl lo) (sh : SimO K W th hi) : SimE K W (tSl (rSlA K) te tl th) (mSlT m lo hi) := ⟨fun F S H σ E Q hK fo st h => by
  unfold mSlT mB at h
  refine OkE.bind (Q := fun x H1 => tl σ H1 fun l H2 => th σ H2 fun u H3 => rSlA K x l u H3 Q) s hK fo st (fun r E1 e1 S1 H1 v x1 st1 rv => ?_) (fun x E1 e1 S1 H1 cls d x1 st1 rx => ?_) fun e1 => ?_
  · rw [e1] at h
    dsimp only at h
    refine sl.run F S1 H1 σ E1 _ hK fo st1 ?_
    cases e2 : lo E1 with
    | stuck => rw [e2] at h; exact h
    | exc x E' => rw [e2] at h; exact fun S' H' cls d ex st' rx => h S' H' cls d (x1.trans ex) st' rx
    | ok l E2 =>
      rw [e2] at h
      dsimp only at h
      intro S2 H2 x2 st2
      refine sh.run F S2 H2 σ E2 _ hK fo st2 ?_
      cases e3 : hi E2 with
      | stuck => rw [e3] at h; exact h
      | exc x E' => rw [e3] at h; exact fun S' H' cls d ex st' rx => h S' H' cls d ((x1.trans x2).trans ex) st' rx
      | ok u E3 =>
        rw [e3] at h
        dsimp only at h
        intro S3 H3 x3 st3
        unfold mRd at h
        cases q1 : rdR E3 r with
        | none => rw [q1] at h; exact h.elim
        | some d =>
          rw [q1] at h
          dsimp only at h
          cases d with
          | tup ds =>
            obtain ⟨a, ws, q2, q3, q4⟩ := rd_ok st3 (rv.mono (x2.trans x3)) q1
            have xx := (x1.trans x2).trans x3
            refine ⟨a, ws, q2, hK ▸ ex_sqt st3.sub q3, fun w => ?_, fun _ p hp => OkE.laidT (W := W) fo st3 hp (q4.cut l u) (OkE.mono xx h)⟩
            rw [q4.length] at w
            refine h S3 H3 _ xx st3 ⟨a, ws, rfl, q3, ?_⟩
            rw [cut_whole w]
            exact q4
          | _ => exact h.elim
  · rw [e1] at h
    exact h S1 H1 cls d x1 st1 rx
  · rw [e1] at h
    exact h⟩
def mRev (m : M R) : M (List D) := mB m fun r => mB (mRd r) fun d => match d with
  | .lst ds => mP ds.reverse
  | _ => fun _ => .stuck
theorem simL_rev {te : TE} {m : M R} (s : SimE K W te m) : SimL K W (tRevL K te) (mRev m) := ⟨fun F S H σ E Q hK fo st h => by
  unfold mRev mB at h
  refine OkE.bind (Q := fun x H1 => ∃ a xs, x = .ref a ∧ SqL K H1 a xs ∧ ∀ p, H1 p = none → Q (.ref p) (upd H1 p (.lst xs.reverse))) s hK fo st (fun r E1 e1 S1 H1 v x1 st1 rv => ?_) (fun x E1 e1 S1 H1 cls d x1 st1 rx => ?_) fun e1 => ?_
  · rw [e1] at h
    dsimp only at h
    unfold mRd at h
    cases q1 : rdR E1 r with
    | none => rw [q1] at h; exact h.elim
    | some d =>
      rw [q1] at h
      dsimp only at h
      cases d with
      | lst ds =>
        obtain ⟨a, ws, q2, q3, q4⟩ := rd_ok st1 rv q1
        exact ⟨a, ws, q2, .of q3, fun p hp => OkL.laid (W := W) fo st1 hp q4.reverse (OkL.mono x1 h)⟩
      | _ => exact h.elim
  · rw [e1] at h
    exact h S1 H1 cls d x1 st1 rx
  · rw [e1] at h
    exact h⟩
/-! ### built-ins -/
def rdAll (E : Env) : List R → Option (List D)
  | [] => some []
  | r :: rs => match rdR E r, rdAll E rs with
    | some d, some ds => some (d :: ds)
    | _, _ => none
inductive RdOks (K : PySem.W.Frag) (S H : Hp) : List D → List V → Prop
  | nil : RdOks K S H [] []
  | cons {d v ds vs} : RdOk K S H d v → RdOks K S H ds vs → RdOks K S H (d :: ds) (v :: vs)
theorem rdAll_ok {F : Fr} {S H : Hp} {σ : L2.St} {E : Env} (st : Sto F S H σ E) : ∀ {rs : List R} {vs : List V} {ds : List D}, RepRs F S σ rs vs → rdAll E rs = some ds → RdOks F.K S H ds vs
  | [], vs, ds, h, e => by
    cases h
    cases e
    exact .nil
  | r :: rs, vs, ds, h, e => by
    cases h with
    | cons a b =>
      unfold rdAll at e
      cases q1 : rdR E r with
      | none => rw [q1] at e; cases e
      | some d =>
        cases q2 : rdAll E rs with
        | none => rw [q1, q2] at e; cases e
        | some es =>
          rw [q1, q2] at e
          cases e
          exact .cons (rd_ok st a q1) (rdAll_ok st b q2)
def mRds (rs : List R) : M (List D) := fun E => match rdAll E rs with
  | some ds => .ok ds E
  | none => .stuck
def mCB (f : List D → Option D) (m : M (List R)) : M R := mB m fun rs => mB (mRds rs) fun ds => mB (mO (f ds)) fun z => mP (.im z)
def mCL (f : List D → Option (List D)) (m : M (List R)) : M (List D) := mB m fun rs => mB (mRds rs) fun ds => mO (f ds)
def OpC (r : PySem.W.Frag → List V → Hp → VK → Prop) (f : List D → Option D) : Prop := ∀ (K : PySem.W.Frag) (S H : Hp) (xs : List V) (ds : List D) (z : D) (Q : VK), Ex S H → RdOks K S H ds xs → f ds = some z → (∀ v, Rep K S z v → Q v H) → r K xs H Q
def OpCL (r : PySem.W.Frag → List V → Hp → VK → Prop) (f : List D → Option (List D)) : Prop := ∀ (K : PySem.W.Frag) (S H : Hp) (xs : List V) (ds zs : List D) (Q : VK), Ex S H → RdOks K S H ds xs → f ds = some zs → (∀ p ws, H p = none → Reps K S zs ws → Q (.ref p) (upd H p (.lst ws))) → r K xs H Q
theorem sim_cb {r : PySem.W.Frag → List V → Hp → VK → Prop} {f : List D → Option D} {t : TA} {m : M (List R)} (hr : OpC r f) (s : SimA K W t m) : SimE K W (tCB (r K) t) (mCB f m) := ⟨fun F S H σ E Q hK fo st h => by
  unfold mCB mB at h
  refine OkA.bind (Q := fun vs H1 => r K vs H1 Q) s hK fo st (fun rs E1 e1 S1 H1 vs x1 st1 rvs => ?_) (fun x E1 e1 S1 H1 cls d x1 st1 rx => ?_) fun e1 => ?_
  · rw [e1] at h
    dsimp only at h
    unfold mRds at h
    cases q : rdAll E1 rs with
    | none => rw [q] at h; exact h.elim
    | some ds =>
      rw [q] at h
      dsimp only at h
      unfold mO at h
      cases q2 : f ds with
      | none => rw [q2] at h; exact h.elim
      | some z =>
        rw [q2] at h
        have := hr F.K S1 H1 vs ds z Q st1.sub (rdAll_ok st1 rvs q) q2 fun v rv => h S1 H1 v x1 st1 rv
        exact hK ▸ this
  · rw [e1] at h
    exact h S1 H1 cls d x1 st1 rx
  · rw [e1] at h
    exact h⟩
theorem simL_cb {r : PySem.W.Frag → List V → Hp → VK → Prop} {f : List D → Option (List D)} {t : TA} {m : M (List R)} (hr : OpCL r f) (s : SimA K W t m) : SimL K W (tCB (r K) t) (mCL f m) := ⟨fun F S H σ E Q hK fo st h => by
  unfold mCL mB at h
  refine OkA.bind (Q := fun vs H1 => r K vs H1 Q) s hK fo st (fun rs E1 e1 S1 H1 vs x1 st1 rvs => ?_) (fun x E1 e1 S1 H1 cls d x1 st1 rx => ?_) fun e1 => ?_
  · rw [e1] at h
    dsimp only at h
    unfold mRds at h
    cases q : rdAll E1 rs with
    | none => rw [q] at h; exact h.elim
    | some ds =>
      rw [q] at h
      dsimp only at h
      unfold mO at h
      cases q2 : f ds with
      | none => rw [q2] at h; exact h.elim
      | some zs =>
        rw [q2] at h
        have := hr F.K S1 H1 vs ds zs Q st1.sub (rdAll_ok st1 rvs q) q2 fun p ws hp rs => OkL.laid (W := W) fo st1 hp rs (OkL.mono x1 h)
        exact hK ▸ this
  · rw [e1] at h
    exact h S1 H1 cls d x1 st1 rx
  · rw [e1] at h
    exact h⟩
end
/-- a list or a tuple, as it is read -/
theorem rd_seq {K : PySem.W.Frag} {S H : Hp} {d : D} {v : V} {ds : List D} (ex : Ex S H) (h : RdOk K S H d v) (e : itemsOf d = some ds) : ∃ p ws, v = .ref p ∧ (SqL K H p ws ∨ SqT K H p ws) ∧ Reps K S ds ws := by
  cases d with
  | lst xs =>
    cases e
    obtain ⟨a, ws, q1, q2, q3⟩ := h
    exact ⟨a, ws, q1, .inl (.of q2), q3⟩
  | tup xs =>
    cases e
    obtain ⟨a, ws, q1, q2, q3⟩ := h
    exact ⟨a, ws, q1, .inr (ex_sqt ex q2), q3⟩
  | scr ns =>
    cases e
    obtain ⟨a, q1, q2⟩ := h
    exact ⟨a, _, q1, .inl (ex_sql ex q2), Reps.ints ns S⟩
  | _ => cases e
def oLen (ds : List D) : Option D := match ds with
  | [d] => (itemsOf d).map fun xs => D.int (xs.length : Int)
  | _ => none
def rLen2 (K : PySem.W.Frag) : List V → Hp → VK → Prop := fun xs H Q => ∃ p ys, xs = [.ref p] ∧ (SqL K H p ys ∨ SqT K H p ys) ∧ Q (.int ys.length) H
theorem opc_len : OpC rLen2 oLen := fun K S H xs ds z Q ex rs h k => by
  cases rs with
  | nil => cases h
  | cons r rr =>
    cases rr with
    | cons _ _ => cases h
    | nil =>
      obtain ⟨es, h1, h2⟩ := Option.map_eq_some_iff.mp h
      obtain ⟨p, ws, q1, q2, q3⟩ := rd_seq ex r h1
      refine ⟨p, ws, by rw [q1], q2, k _ ?_⟩
      rw [← h2, q3.length]
      rfl
def oInt1 (f : Int → Option D) (ds : List D) : Option D := match ds with
  | [.int i] => f i
  | _ => none
def oInt2 (f : Int → Int → Option D) (ds : List D) : Option D := match ds with
  | [.int i, .int j] => f i j
  | _ => none
theorem opc_int1 {r : List V → Hp → VK → Prop} {f : Int → Option D} (h : ∀ (i : Int) (z : D) (H : Hp) (Q : VK), f i = some z → (∀ v, (∀ K S, Rep K S z v) → Q v H) → r [.int i] H Q) : OpC (fun _ => r) (oInt1 f) := fun K S H xs ds z Q ex rs hf k => by
  unfold oInt1 at hf
  split at hf
  · rename_i i
    cases rs with
    | cons a b =>
      cases b
      have e : _ = V.int i := a
      subst e
      exact h i z H Q hf fun v hv => k v (hv K S)
  · cases hf
theorem opc_int2 {r : List V → Hp → VK → Prop} {f : Int → Int → Option D} (h : ∀ (i j : Int) (z : D) (H : Hp) (Q : VK), f i j = some z → (∀ v, (∀ K S, Rep K S z v) → Q v H) → r [.int i, .int j] H Q) : OpC (fun _ => r) (oInt2 f) := fun K S H xs ds z Q ex rs hf k => by
  unfold oInt2 at hf
  split at hf
  · rename_i i j
    cases rs with
    | cons a b =>
      cases b with
      | cons a' b' =>
        cases b'
        have e : _ = V.int i := a
        have e' : _ = V.int j := a'
        subst e
        subst e'
        exact h i j z H Q hf fun v hv => k v (hv K S)
  · cases hf
def oAbs := oInt1 fun i => some (.int (if i < 0 then -i else i))
def oMax2 := oInt2 fun i j => some (.int (if j > i then j else i))
def oMin2 := oInt2 fun i j => some (.int (if j < i then j else i))
def oGcd := oInt2 fun i j => some (.int ((Nat.gcd i.natAbs j.natAbs : Nat) : Int))
def oInt := oInt1 fun i => some (.int i)
theorem opc_abs : OpC (fun _ xs H Q => ∃ i, xs = [.int i] ∧ Q (.int (if i < 0 then -i else i)) H) oAbs := opc_int1 fun i z H Q h k => by
  cases h
  exact ⟨i, rfl, k _ fun _ _ => rfl⟩
theorem opc_max2 : OpC (fun _ xs H Q => ∃ i j, xs = [.int i, .int j] ∧ Q (.int (if j > i then j else i)) H) oMax2 := opc_int2 fun i j z H Q h k => by
  cases h
  exact ⟨i, j, rfl, k _ fun _ _ => rfl⟩
theorem opc_min2 : OpC (fun _ xs H Q => ∃ i j, xs = [.int i, .int j] ∧ Q (.int (if j < i then j else i)) H) oMin2 := opc_int2 fun i j z H Q h k => by
  cases h
  exact ⟨i, j, rfl, k _ fun _ _ => rfl⟩
theorem opc_gcd : OpC (fun _ => rGcd) oGcd := opc_int2 fun i j z H Q h k => by
  cases h
  exact ⟨i, j, rfl, k _ fun _ _ => rfl⟩
theorem opc_int : OpC (fun _ xs H Q => (∃ i, xs = [.int i] ∧ Q (.int i) H) ∨ ∃ k, xs = [.bl k] ∧ Q (.int (if k then 1 else 0)) H) oInt := opc_int1 fun i z H Q h k => by
  cases h
  exact .inl ⟨i, rfl, k _ fun _ _ => rfl⟩
/-- all ints -/
def intsOf : List D → Option (List Int)
  | [] => some []
  | .int i :: ds => (intsOf ds).map (i :: ·)
  | _ :: _ => none
theorem ints_reps {K : PySem.W.Frag} {S : Hp} : ∀ {ds : List D} {ws : List V} {ns : List Int}, Reps K S ds ws → intsOf ds = some ns → ws = ns.map V.int
  | [], ws, ns, h, e => by
    cases e
    exact h
  | d :: ds, ws, ns, h, e => by
    obtain ⟨v, us, e1, e2, e3⟩ := h
    cases d with
    | int i =>
      obtain ⟨ms, h1, h2⟩ := Option.map_eq_some_iff.mp (show (intsOf ds).map (i :: ·) = some ns from e)
      have ev : v = .int i := e2
      rw [← h2, e1, ev, ints_reps e3 h1]
      rfl
    | _ => cases e
def oSum (ds : List D) : Option D := match ds with
  | [.lst xs] => (intsOf xs).map fun ns => D.int ns.sum
  | _ => none
theorem opc_sum : OpC rSum oSum := fun K S H xs ds z Q ex rs h k => by
  unfold oSum at h
  split at h
  · rename_i es
    cases rs with
    | cons a b =>
      cases b
      obtain ⟨p, ws, q1, q2, q3⟩ := a
      obtain ⟨ns, h1, h2⟩ := Option.map_eq_some_iff.mp h
      have ew := ints_reps q3 h1
      subst ew
      exact ⟨p, ns, by rw [q1], .of q2, k _ (by rw [← h2] <;> rfl)⟩
  · cases h
def oListOf (ds : List D) : Option (List D) := match ds with
  | [d] => itemsOf d
  | _ => none
def rListOf (K : PySem.W.Frag) : List V → Hp → VK → Prop := fun xs H Q => ∃ p ys, xs = [.ref p] ∧ (SqL K H p ys ∨ SqT K H p ys) ∧ ∀ l, H l = none → Q (.ref l) (upd H l (.lst ys))
theorem opcl_list : OpCL rListOf oListOf := fun K S H xs ds zs Q ex rs h k => by
  cases rs with
  | nil => cases h
  | cons r rr =>
    cases rr with
    | cons _ _ => cases h
    | nil =>
      obtain ⟨p, ws, q1, q2, q3⟩ := rd_seq ex r h
      exact ⟨p, ws, by rw [q1], q2, fun l hl => k l ws hl q3⟩
end Pu
set_option Elab.async false
set_option linter.all false
set_option maxRecDepth 100000
set_option maxHeartbeats 4000000
/-! Pu: own lists changed, fields, comprehensions, calls. -/
namespace Pu
open PySem PySem.Spec PyProof.Rows L2
/-! ### own lists -/
def ownOf : Sl → Option (List D)
  | .ow ds => some ds
  | .xo ds => some ds
  | .pl _ ds => some ds
  | _ => none
def putOwn : Sl → List D → Sl
  | .ow _, ds => .ow ds
  | .xo _, ds => .xo ds
  | .pl k _, ds => .pl k ds
  | x, _ => x
section
variable {F : Fr} {S H : Hp} {σ : L2.St} {E : Env}
theorem Sto.own (s : Sto F S H σ E) (fo : FrOk F) {i : Nat} {ds : List D} (h : ownOf (at_ E i) = some ds) : i < E.length ∧ (at_ E i).mu = true ∧ ∃ a ws, σ[i]? = some (some (.ref a)) ∧ H a = some (.lst ws) ∧ Reps F.K S ds ws ∧
    ∀ (S' H' : Hp) ds' ws', S' a = none → H' a = some (.lst ws') → Reps F.K S' ds' ws' → SlOk F S' H' (putOwn (at_ E i) ds') (some (some (.ref a))) ∧ (putOwn (at_ E i) ds').mu = true := by
  have z := s.slot i
  cases q : at_ E i with
  | ow es =>
    rw [q] at h z
    cases h
    obtain ⟨a, ws, q1, q2, q3, q4, q5⟩ := z
    exact ⟨at_lt q (by intro z; cases z), rfl, a, ws, q1, q2, q5, fun S' H' ds' ws' hS hH r => ⟨⟨a, ws', rfl, hH, q3, hS, r⟩, rfl⟩⟩
  | xo es =>
    rw [q] at h z
    cases h
    obtain ⟨a, ws, q1, q2, q3, q4⟩ := z
    exact ⟨at_lt q (by intro z; cases z), rfl, a, ws, q1, q3, q4, fun S' H' ds' ws' hS hH r => ⟨⟨a, ws', rfl, q2, hH, r⟩, rfl⟩⟩
  | pl k es =>
    rw [q] at h z
    cases h
    obtain ⟨a, ws, q1, q2, q3, q4⟩ := z
    exact ⟨at_lt q (by intro z; cases z), rfl, a, ws, q1, q3, q4, fun S' H' ds' ws' hS hH r => ⟨⟨a, ws', rfl, q2, hH, r⟩, rfl⟩⟩
  | _ => rw [q] at h; cases h
end
/-- a method changes slot i's own list: from its data and the arguments the result and the new data -/
def mMut (i : Nat) (f : List D → List D → Option (D × List D)) (m : M (List R)) : M R := fun E0 => match ownOf (at_ E0 i) with
  | none => .stuck
  | some _ => mB m (fun rs => mB (mO (imAll rs)) fun as E => match ownOf (at_ E i) with
    | none => .stuck
    | some ds => match f ds as with
      | none => .stuck
      | some (z, ds') => .ok (.im z) (E.set i (putOwn (at_ E i) ds'))) E0
def OpM (r : V → List V → Hp → VK → Prop) (f : List D → List D → Option (D × List D)) : Prop := ∀ (K : PySem.W.Frag) (S H : Hp) (a : Addr) (ws vs : List V) (ds as : List D) (z : D) (ds' : List D) (Q : VK), Ex S H → H a = some (.lst ws) → Reps K S ds ws → Reps K S as vs → f ds as = some (z, ds') →
  (∀ v ws', Rep K S z v → Reps K S ds' ws' → Q v (upd H a (.lst ws'))) → r (.ref a) vs H Q
section
variable {K : PySem.W.Frag} {W : WX}
theorem mut_core {F : Fr} {S H : Hp} {σ : L2.St} {E : Env} {Q : VK} {r : V → List V → Hp → VK → Prop} {f : List D → List D → Option (D × List D)} (hr : OpM r f) (fo : FrOk F) (st : Sto F S H σ E) {i : Nat} {a : Addr} {vs : List V} {as : List D}
    (ha : σ[i]? = some (some (.ref a))) (rs : Reps F.K S as vs) (h : OkE F S σ W (match ownOf (at_ E i) with
    | none => .stuck
    | some ds => match f ds as with
      | none => .stuck
      | some (z, ds') => .ok (.im z) (E.set i (putOwn (at_ E i) ds'))) Q) : r (.ref a) vs H Q := by
  cases q : ownOf (at_ E i) with
  | none => rw [q] at h; exact h.elim
  | some ds =>
    rw [q] at h
    dsimp only at h
    obtain ⟨hi, hm, b, ws, q1, q2, q3, q4⟩ := st.own fo q
    rw [ha] at q1
    cases q1
    cases q5 : f ds as with
    | none => rw [q5] at h; exact h.elim
    | some zd =>
      obtain ⟨z, ds'⟩ := zd
      rw [q5] at h
      refine hr F.K S H a ws vs ds as z ds' Q st.sub q2 q3 rs q5 fun v ws' rv rws => ?_
      obtain ⟨z1, z2⟩ := q4 S (upd H a (.lst ws')) ds' ws' (st.muAt fo hm ha).1 upd_same rws
      exact h S _ v (Ex.refl S) (st.change fo hi hm ha z1 z2) rv
theorem sim_mut {r : V → List V → Hp → VK → Prop} {f : List D → List D → Option (D × List D)} {i : Nat} {t : TA} {m : M (List R)} (hr : OpM r f) (s : SimA K W t m) : SimE K W (tBM K "list" r (tVar i) t) (mMut i f m) := ⟨fun F S H σ E Q hK fo st h => by
  unfold mMut at h
  cases q : ownOf (at_ E i) with
  | none => rw [q] at h; exact h.elim
  | some ds =>
    rw [q] at h
    obtain ⟨hi, hm, a, ws, q1, q2, q3, q4⟩ := st.own fo q
    refine ⟨_, q1, .inl ⟨rfl, ws, .of q2⟩, ?_⟩
    dsimp only at h
    unfold mB at h
    refine OkA.bind (Q := fun xs H2 => r (.ref a) xs H2 Q) s hK fo st (fun rs E1 e1 S1 H1 vs x1 st1 rvs => ?_) (fun x E1 e1 S1 H1 cls d x1 st1 rx => ?_) fun e1 => ?_
    · rw [e1] at h
      dsimp only at h
      unfold mO at h
      cases q5 : imAll rs with
      | none => rw [q5] at h; exact h.elim
      | some as =>
        rw [q5] at h
        exact mut_core (W := W) hr fo st1 q1 (imAll_reps rvs q5) (OkE.mono x1 h)
    · rw [e1] at h
      exact h S1 H1 cls d x1 st1 rx
    · rw [e1] at h
      exact h⟩
theorem sim_mut0 {r : V → List V → Hp → VK → Prop} {f : List D → List D → Option (D × List D)} {i : Nat} (hr : OpM r f) : SimE K W (tBM0 K "list" r (tVar i)) (mMut i f mA0) := ⟨fun F S H σ E Q hK fo st h => by
  have h2 := (sim_mut (i := i) hr (simA_nil (K := K) (W := W))).run F S H σ E Q hK fo st h
  exact h2⟩
def fApp (ds as : List D) : Option (D × List D) := match as with
  | [d] => ifO (decide (ds.length < sizeLine)) (.non, ds ++ [d])
  | _ => none
theorem opm_app : OpM rAppend fApp := fun K S H a ws vs ds as z ds' Q ex ha r1 r2 h k => by
  unfold fApp at h
  split at h
  · rename_i d
    obtain ⟨h1, h2⟩ := ifO_some h
    cases h2
    obtain ⟨v, us, e1, e2, e3⟩ := r2
    have e4 : us = [] := e3
    subst e4
    subst e1
    exact ⟨a, ws, v, rfl, rfl, ha, by rw [r1.length]; exact of_decide_eq_true h1, k _ _ rfl (r1.append (.cons e2 .nil))⟩
  · cases h
def fExt (ds as : List D) : Option (D × List D) := match as with
  | [.lst es] => ifO (szOk (ds.length + es.length)) (.non, ds ++ es)
  | _ => none
theorem opm_ext : OpM rExtend fExt := fun K S H a ws vs ds as z ds' Q ex ha r1 r2 h k => by
  unfold fExt at h
  split at h
  · rename_i es
    obtain ⟨h1, h2⟩ := ifO_some h
    cases h2
    obtain ⟨v, us, e1, ⟨b, zs, f1, f2, f3⟩, e3⟩ := r2
    have e4 : us = [] := e3
    subst e4
    subst e1
    subst f1
    exact ⟨a, b, ws, zs, rfl, rfl, ha, ex _ _ f2, by rw [r1.length, f3.length]; exact sz_le h1, k _ _ rfl (r1.append f3)⟩
  · cases h
def fPopAt (ds as : List D) : Option (D × List D) := match as with
  | [.int i] => if -(2 ^ 63) ≤ i ∧ i < 2 ^ 63 then (seqIndex? i ds.length).bind fun k => ds[k]?.map fun d => (d, ds.eraseIdx k) else none
  | _ => none
theorem opm_popAt : OpM rPopAt fPopAt := fun K S H a ws vs ds as z ds' Q ex ha r1 r2 h k => by
  unfold fPopAt at h
  split at h
  · rename_i i
    split at h
    · rename_i hi
      obtain ⟨j, h1, h2⟩ := Option.bind_eq_some_iff.mp h
      obtain ⟨d, h3, h4⟩ := Option.map_eq_some_iff.mp h2
      cases h4
      obtain ⟨v, us, e1, e2, e3⟩ := r2
      have e4 : us = [] := e3
      have e5 : v = .int i := e2
      subst e4
      subst e5
      subst e1
      obtain ⟨w, q1, q2⟩ := r1.getD h3
      exact ⟨a, ws, i, j, w, rfl, rfl, ha, hi.1, hi.2, by rw [r1.length]; exact h1, q1, k _ _ q2 (r1.eraseIdx j)⟩
    · cases h
  · cases h
def fPop (ds as : List D) : Option (D × List D) := match as with
  | [] => ds[ds.length - 1]?.map fun d => (d, ds.dropLast)
  | _ => none
theorem Reps.dropLast {S : Hp} {ds : List D} {ws : List V} (h : Reps K S ds ws) : Reps K S ds.dropLast ws.dropLast := by
  rw [List.dropLast_eq_take, List.dropLast_eq_take, h.length]
  exact h.take _
theorem opm_pop : OpM rPop fPop := fun K S H a ws vs ds as z ds' Q ex ha r1 r2 h k => by
  unfold fPop at h
  split at h
  · obtain ⟨d, h3, h4⟩ := Option.map_eq_some_iff.mp h
    cases h4
    have e4 : vs = [] := r2
    subst e4
    obtain ⟨w, q1, q2⟩ := r1.getD h3
    exact ⟨a, ws, w, rfl, rfl, ha, by rw [r1.length]; exact q1, k _ _ q2 r1.dropLast⟩
  · cases h
/-- xs[j] = e -/
def mSetIt (i : Nat) (m mi : M R) : M Fl := mB m fun r => mB (mIm r) fun d E0 => match ownOf (at_ E0 i) with
  | none => .stuck
  | some _ => mB mi (fun r2 => mB (mIm r2) fun e E => match ownOf (at_ E i), e with
    | some ds, .int k => match ixN ds.length k with
      | some j => .ok .nx (E.set i (putOwn (at_ E i) (ds.set j d)))
      | none => .stuck
    | _, _ => .stuck) E0
theorem simS_setIt {i : Nat} {te ti : TE} {m mi : M R} (s : SimE K W te m) (si : SimE K W ti mi) : SimS K W (tAsg te (gSub (tVar i) ti rSetL)) (mSetIt i m mi) := ⟨fun F S H σ E D hK fo st h =>
  OkE.thenS (Q' := fun x H1 => gSub (tVar i) ti rSetL x σ H1 D.nx) s hK fo st h fun r E1 S1 H1 v x1 st1 rv q => by
    cases r with
    | sl _ => exact q.elim
    | im d =>
      unfold mIm mB mP at q
      dsimp only at q
      cases q5 : ownOf (at_ E1 i) with
      | none => rw [q5] at q; exact q.elim
      | some ds0 =>
        rw [q5] at q
        dsimp only at q
        obtain ⟨hi, hm, a, ws, q1, q2, q3, q4⟩ := st1.own fo q5
        refine ⟨_, q1, ?_⟩
        refine OkE.thenS (Q' := fun y H2 => rSetL (.ref a) y v H2 fun H3 => D.nx σ H3) si hK fo st1 q fun r2 E2 S2 H2 y x2 st2 ry q6 => ?_
        cases r2 with
        | sl _ => exact q6.elim
        | im e =>
          dsimp only at q6
          cases q7 : ownOf (at_ E2 i) with
          | none => rw [q7] at q6; exact q6.elim
          | some ds =>
            rw [q7] at q6
            cases e with
            | int k =>
              dsimp only at q6
              obtain ⟨hi2, hm2, b, ws2, p1, p2, p3, p4⟩ := st2.own fo q7
              rw [q1] at p1
              cases p1
              have ey : y = .int k := ry
              cases q8 : ixN ds.length k with
              | none => rw [q8] at q6; exact q6.elim
              | some j =>
                rw [q8] at q6
                refine ⟨a, ws2, k, j, rfl, ey, p2, by rw [p3.length]; exact q8, ?_⟩
                have rr := p3.set (Rep.mono x2 rv) j
                obtain ⟨z1, z2⟩ := p4 S2 (upd H2 a (.lst (ws2.set j v))) _ _ (st2.muAt fo hm2 q1).1 upd_same rr
                exact q6 S2 _ σ (Ex.refl S2) (st2.change fo hi2 hm2 q1 z1 z2)
            | _ => exact q6.elim⟩
/-! ### fields -/
def lookF (ns : List Str) (ds : List D) (f : Str) : Option D := (ns.zip ds).lookup f
theorem lookF_reps {S : Hp} {f : Str} : ∀ {ns : List Str} {ds : List D} {ws : List V} {d : D}, Reps K S ds ws → lookF ns ds f = some d → ∃ w, (ns.zip ws).lookup f = some w ∧ Rep K S d w
  | [], ds, ws, d, r, h => by cases h
  | n :: ns, [], ws, d, r, h => by cases h
  | n :: ns, d' :: ds, ws, d, r, h => by
    obtain ⟨v, us, e1, e2, e3⟩ := r
    subst e1
    unfold lookF at h
    rw [List.zip_cons_cons, List.lookup_cons] at h
    rw [List.zip_cons_cons, List.lookup_cons]
    cases q : f == n with
    | true =>
      rw [q] at h
      cases h
      exact ⟨v, rfl, e2⟩
    | false =>
      rw [q] at h
      exact lookF_reps (ns := ns) e3 h
def mObj (r : R) : M (Str × List Str × List D) := fun E => match r with
  | .im (.ins c ns ds) => .ok (c, ns, ds) E
  | .im _ => .stuck
  | .sl i => match at_ E i with
    | .se _ c ns ds => .ok (c, ns, ds) E
    | _ => .stuck
def inCs (cs : List Str) (c : Str) : Bool := cs.any fun x => decide (x = c)
def mFld (cs : List Str) (f : Str) (m : M R) : M R := mB m fun r => mB (mObj r) fun o => mCond (inCs cs o.1) (mO ((lookF o.2.1 o.2.2 f).map R.im)) fun _ => .stuck
theorem obj_ok {F : Fr} {S H : Hp} {σ : L2.St} {E E' : Env} (st : Sto F S H σ E) {r : R} {v : V} {o : Str × List Str × List D} (rv : RepR F S σ r v) (h : mObj r E = .ok o E') : E' = E ∧ ∃ a dx ws, v = .ref a ∧ H a = some (.ins (He.ga F.K o.1) dx (o.2.1.zip ws)) ∧ Reps F.K S o.2.2 ws := by
  cases r with
  | im d =>
    cases d with
    | ins c ns ds =>
      cases h
      obtain ⟨a, dx, ws, q1, q2, q3, q4⟩ := rv
      exact ⟨rfl, a, dx, ws, q1, st.sub _ _ q2, q4⟩
    | _ => cases h
  | sl i =>
    have z := st.slot i
    have hv : σ[i]? = some (some v) := rv
    cases q : at_ E i with
    | se k c ns ds =>
      simp only [mObj, q] at h
      rw [q] at z
      cases h
      obtain ⟨a, dx, ws, q1, q2, q3, q4, q5⟩ := z
      rw [hv] at q1
      cases q1
      exact ⟨rfl, a, dx, ws, rfl, q3, q5⟩
    | _ => simp only [mObj, q] at h; cases h
theorem sim_fld {t : TE} {m : M R} {cs : List Str} {f : Str} (hc : ∀ c ∈ cs, Cls K (He.ga K c) ∧ NoAttr K (He.ga K c) f) (s : SimE K W t m) : SimE K W (tFld K t f) (mFld cs f m) := ⟨fun F S H σ E Q hK fo st h => by
  unfold mFld mB at h
  refine OkE.bind (Q := fun x H1 => ∃ a C dx fs v, x = .ref a ∧ H1 a = some (.ins C dx fs) ∧ Cls K C ∧ NoAttr K C f ∧ fs.lookup f = some v ∧ Q v H1) s hK fo st (fun r E1 e1 S1 H1 v x1 st1 rv => ?_) (fun x E1 e1 S1 H1 cls d x1 st1 rx => ?_) fun e1 => ?_
  · rw [e1] at h
    dsimp only at h
    cases q : mObj r E1 with
    | stuck => rw [q] at h; exact h.elim
    | exc x E' =>
      exfalso
      unfold mObj at q
      split at q <;> first | cases q | (split at q <;> cases q)
    | ok o E2 =>
      rw [q] at h
      obtain ⟨eE, a, dx, ws, p1, p2, p3⟩ := obj_ok st1 rv q
      subst eE
      dsimp only at h
      cases q2 : inCs cs o.1 with
      | false => rw [q2] at h; exact h.elim
      | true =>
        rw [q2] at h
        unfold mCond mO at h
        dsimp only at h
        cases q3 : lookF o.2.1 o.2.2 f with
        | none => rw [q3] at h; exact h.elim
        | some d =>
          rw [q3] at h
          obtain ⟨w, p4, p5⟩ := lookF_reps p3 q3
          obtain ⟨x, hx, ex⟩ := List.any_eq_true.mp q2
          have exx : x = o.1 := of_decide_eq_true ex
          obtain ⟨c1, c2⟩ := hc o.1 (exx ▸ hx)
          exact ⟨a, _, dx, _, w, p1, p2, hK ▸ c1, hK ▸ c2, p4, h S1 H1 w x1 st1 p5⟩
  · rw [e1] at h
    exact h S1 H1 cls d x1 st1 rx
  · rw [e1] at h
    exact h⟩
theorem putF_new {f : Str} {y : V} : ∀ {ns : List Str} {ws : List V}, f ∉ ns → ns.length = ws.length → putF f y (ns.zip ws) = (ns ++ [f]).zip (ws ++ [y])
  | [], [], _, _ => rfl
  | n :: ns, [], _, h => by cases h
  | [], w :: ws, _, h => by cases h
  | n :: ns, w :: ws, hn, h => by
    have h1 : n ≠ f := fun e => hn (by rw [e]; exact List.mem_cons_self)
    have h2 : f ∉ ns := fun e => hn (List.mem_cons_of_mem _ e)
    show (if n = f then (n, y) :: ns.zip ws else (n, w) :: putF f y (ns.zip ws)) = _
    rw [if_neg h1, putF_new h2 (by simpa using h)]
    rfl
/-- self.f = d -/
def setSe (cs : List Str) (i : Nat) (f : Str) (d : D) (E : Env) : Option Env := match at_ E i with
  | .se k c ns ds => if f ∈ ns then none else if ns.length < 1000 then ifO (inCs cs c) (E.set i (.se k c (ns ++ [f]) (ds ++ [d]))) else none
  | _ => none
theorem setSe_ok {F : Fr} {S H : Hp} {σ : L2.St} {E E' : Env} (fo : FrOk F) (st : Sto F S H σ E) {cs : List Str} {i : Nat} {f : Str} {d : D} {v : V} (rv : Rep F.K S d v) (h : setSe cs i f d E = some E') :
    ∃ a c dx fs, σ[i]? = some (some (.ref a)) ∧ H a = some (.ins (He.ga F.K c) dx fs) ∧ fs.length < 1000 ∧ c ∈ cs ∧ Sto F S (upd H a (.ins (He.ga F.K c) dx (putF f v fs))) σ E' := by
  have z := st.slot i
  unfold setSe at h
  cases q : at_ E i with
  | se k c ns ds =>
    rw [q] at h z
    dsimp only at h
    obtain ⟨a, dx, ws, q1, q2, q3, q4, q5⟩ := z
    split at h
    · cases h
    · rename_i hn
      split at h
      · rename_i hl
        obtain ⟨h1, h2⟩ := ifO_some h
        subst h2
        obtain ⟨x, hx, ex⟩ := List.any_eq_true.mp h1
        have exx : x = c := of_decide_eq_true ex
        refine ⟨a, c, dx, _, q1, q3, ?_, exx ▸ hx, ?_⟩
        · rw [List.length_zip]
          omega
        · refine st.change fo (at_lt q (by intro z; cases z)) (by rw [q]; rfl) q1 ⟨a, dx, ws ++ [v], rfl, q2, ?_, ?_, q5.append (.cons rv .nil)⟩ rfl
          · rw [upd_same, putF_new hn q4]
          · rw [List.length_append, List.length_append, q4]
            rfl
      · cases h
  | _ => rw [q] at h; cases h
def mFldSet (cs : List Str) (i : Nat) (f : Str) (m : M R) : M Fl := mB m fun r => mB (mIm r) fun d E => match setSe cs i f d E with
  | some E' => .ok .nx E'
  | none => .stuck
theorem simS_fld {i : Nat} {f : Str} {te : TE} {m : M R} {cs : List Str} (hc : ∀ c ∈ cs, Cls K (He.ga K c) ∧ NoAttr K (He.ga K c) f) (s : SimE K W te m) : SimS K W (sFld K (tVar i) te f) (mFldSet cs i f m) := ⟨fun F S H σ E D hK fo st h =>
  OkE.thenS (Q' := fun y H1 => tVar i σ H1 fun x H2 => ∃ a C dx fs, x = .ref a ∧ H2 a = some (.ins C dx fs) ∧ Cls K C ∧ NoAttr K C f ∧ fs.length < 1000 ∧ D.nx σ (upd H2 a (.ins C dx (putF f y fs)))) s hK fo st h fun r E1 S1 H1 v x1 st1 rv q => by
    cases r with
    | sl _ => exact q.elim
    | im d =>
      unfold mIm mB mP at q
      dsimp only at q
      cases q5 : setSe cs i f d E1 with
      | none => rw [q5] at q; exact q.elim
      | some E2 =>
        rw [q5] at q
        obtain ⟨a, c, dx, fs, q1, q2, q3, q4, q6⟩ := setSe_ok fo st1 rv q5
        obtain ⟨c1, c2⟩ := hc c q4
        exact ⟨_, q1, a, _, dx, fs, rfl, q2, hK ▸ c1, hK ▸ c2, q3, q S1 _ σ (Ex.refl S1) q6⟩⟩
/-- o.f = .. as a target -/
def gFld (K : PySem.W.Frag) (to : TE) (f : Str) : TG := fun v σ H Q => to σ H fun x H1 => ∃ a C dx fs, x = .ref a ∧ H1 a = some (.ins C dx fs) ∧ Cls K C ∧ NoAttr K C f ∧ fs.length < 1000 ∧ Q σ (upd H1 a (.ins C dx (putF f v fs)))
theorem simG_fld {i : Nat} {f : Str} {cs : List Str} (hc : ∀ c ∈ cs, Cls K (He.ga K c) ∧ NoAttr K (He.ga K c) f) : SimG K (gFld K (tVar i) f) (setSe cs i f) := ⟨fun F S H σ E E' d v Q hK fo st rv h k => by
  obtain ⟨a, c, dx, fs, q1, q2, q3, q4, q6⟩ := setSe_ok fo st rv h
  obtain ⟨c1, c2⟩ := hc c q4
  exact ⟨_, q1, a, _, dx, fs, rfl, q2, hK ▸ c1, hK ▸ c2, q3, k σ _ q6 rfl⟩⟩
end
section
variable {X : Cx}
theorem pg_fld {o : Expr} {f : Str} {pos : Pos} {to : TE} (ho : PE X o to) : PG X (.Attribute o f pos) (gFld X.K to f) := by
  refine ⟨fun pins s σ H v u Q I r h => ?_⟩
  rw [PySem.assign_Attribute]
  refine wpAny_bind (wpAny_holding (thn (ho.run pins s σ H _ I h) fun ov s1 ⟨x, H1, I1, rx, a, C, dx, fs, ex, ea, c, n, l, q⟩ => ?_))
  subst ex
  obtain rfl : ov = Value.ref a := rx
  refine wpAny_bind (wpAny_standAt (wpAny_bind (wpAny_holding (setattr_ok I1 ea c n l r fun s3 I3 => ?_))))
  exact wpAny_release ⟨σ, _, I3, q⟩
end
/-! ### tuple(..), isinstance -/
section
variable {K : PySem.W.Frag} {W : WX}
def rTupOf (K : PySem.W.Frag) : List V → Hp → VK → Prop := fun xs H Q => ∃ p ys, xs = [.ref p] ∧ ((SqL K H p ys ∧ ∀ l, H l = none → Q (.ref l) (upd H l (.tup ys))) ∨ (SqT K H p ys ∧ Q (.ref p) H))
def mTupOf (m : M (List R)) : M R := mB m fun rs => mB (mRds rs) fun ds => match ds with
  | [.lst xs] => mP (.im (.tup xs))
  | [.tup xs] => mP (.im (.tup xs))
  | _ => fun _ => .stuck
theorem sim_tupOf {t : TA} {m : M (List R)} (s : SimA K W t m) : SimE K W (tCB (rTupOf K) t) (mTupOf m) := ⟨fun F S H σ E Q hK fo st h => by
  unfold mTupOf mB at h
  refine OkA.bind (Q := fun vs H1 => rTupOf K vs H1 Q) s hK fo st (fun rs E1 e1 S1 H1 vs x1 st1 rvs => ?_) (fun x E1 e1 S1 H1 cls d x1 st1 rx => ?_) fun e1 => ?_
  · rw [e1] at h
    dsimp only at h
    unfold mRds at h
    cases q : rdAll E1 rs with
    | none => rw [q] at h; exact h.elim
    | some ds =>
      rw [q] at h
      dsimp only at h
      have rr := rdAll_ok st1 rvs q
      cases rr with
      | nil => exact h.elim
      | cons a b =>
        rename_i d v ds' vs'
        cases b with
        | cons _ _ => cases d <;> exact h.elim
        | nil =>
          cases d with
          | lst xs =>
            obtain ⟨p, ws, q1, q2, q3⟩ := a
            exact ⟨p, ws, by rw [q1], .inl ⟨.of q2, fun l hl => OkE.laidT (W := W) fo st1 hl q3 (OkE.mono x1 h)⟩⟩
          | tup xs =>
            obtain ⟨p, ws, q1, q2, q3⟩ := a
            exact ⟨p, ws, by rw [q1], .inr ⟨hK ▸ ex_sqt st1.sub q2, h S1 H1 _ x1 st1 ⟨p, ws, rfl, q2, q3⟩⟩⟩
          | _ => exact h.elim
  · rw [e1] at h
    exact h S1 H1 cls d x1 st1 rx
  · rw [e1] at h
    exact h⟩
/-- the kind of a datum: a built-in class, an own one -/
inductive Kd where
  | ty (n : String) | own (c : Str)
def kdOf : D → Option Kd
  | .non => some (.ty "NoneType")
  | .bl _ => some (.ty "bool")
  | .int _ => some (.ty "int")
  | .str _ => some (.ty "str")
  | .lst _ => some (.ty "list")
  | .tup _ => some (.ty "tuple")
  | .ins c _ _ => some (.own c)
  | .scr _ => some (.ty "list")
def Kd.v (K : PySem.W.Frag) : Kd → Value
  | .ty n => .type n
  | .own c => .ref (He.ga K c)
/-- what an own class must have for isinstance -/
structure InsF (K : PySem.W.Frag) (C : Addr) : Prop where
  cl : Cls K C
  ha : PySem.W.findIn K (.ref C) "__class__" = some (some (.builtin "object.__class__"))
  hn : PySem.W.specialIn K (.builtin "object.__class__") "__get__" = some (some (.builtin "getset_descriptor.__get__"))
  htk : PySem.W.takesIn K (.builtin "object.__class__") = some true
  hm : PySem.W.mroIn K C (.type "object") = some true
def mIsi (f : Kd → Option Bool) (m : M R) : M R := mB m fun r => mB (mRd r) fun d => mB (mO ((kdOf d).bind f)) fun b => mP (.im (.bl b))
theorem tyx_of {S H : Hp} {d : D} {v : V} {k : Kd} (ex : Ex S H) (hi : ∀ c, k = .own c → InsF K (He.ga K c)) (r : RdOk K S H d v) (h : kdOf d = some k) : TyX K H v (k.v K) := by
  cases d with
  | non => cases h; have e : v = .non := r; subst e; exact .base .non
  | bl b => cases h; have e : v = .bl b := r; subst e; exact .base (.bl b)
  | int b => cases h; have e : v = .int b := r; subst e; exact .base (.int b)
  | str b => cases h; have e : v = .str b := r; subst e; exact .base (.str b)
  | lst xs =>
    cases h
    obtain ⟨a, ws, e1, e2, _⟩ := r
    subst e1
    exact .base (.lst e2)
  | tup xs =>
    cases h
    obtain ⟨a, ws, e1, e2, _⟩ := r
    subst e1
    rcases ex_sqt ex e2 with (q | ⟨o, q⟩) | ⟨o, its, n, q1, q2, _⟩
    · exact .base (.tup q)
    · exact .fTuple q
    · exact .kTuple q1 q2
  | ins c ns ds =>
    cases h
    obtain ⟨a, dx, ws, e1, e2, _⟩ := r
    subst e1
    obtain ⟨f1, f2, f3, f4, f5⟩ := hi c rfl
    exact .base (.ins (ex _ _ e2) f1 f2 f3 f4 f5)
  | scr ns =>
    cases h
    obtain ⟨a, e1, e2⟩ := r
    subst e1
    rcases ex_sql ex e2 with (q | ⟨o, q⟩) | ⟨o, its, n, q1, q2, _⟩
    · exact .base (.lst q)
    · exact .base (.frz q)
    · exact .kList q1 q2
theorem sim_isi {t : TE} {m : M R} {cv : V} {u : Value} {f : Kd → Option Bool} (hcv : ClsV cv u) (hf : ∀ k b, f k = some b → PySem.W.kitOne K (k.v K) u = some b ∧ ∀ c, k = .own c → InsF K (He.ga K c)) (s : SimE K W t m) : SimE K W (tCB (rIsi K) (tCons t (tCons (tC cv) tNil))) (mIsi f m) := ⟨fun F S H σ E Q hK fo st h => by
  unfold mIsi at h
  refine OkE.one (r := fun x H1 Q => rIsi K [x, cv] H1 Q) s hK fo st h fun S' H' E' x d ex st' dx h' => ?_
  unfold mB mO at h'
  cases q : (kdOf d).bind f with
  | none => rw [q] at h'; exact h'.elim
  | some b =>
    rw [q] at h'
    obtain ⟨k, h1, h2⟩ := Option.bind_eq_some_iff.mp q
    obtain ⟨f1, f2⟩ := hf k b h2
    subst hK
    exact ⟨x, cv, _, u, b, rfl, hcv, tyx_of st'.sub f2 dx h1, f1, h' S' H' _ (Ex.refl S') st' rfl⟩⟩
end
end Pu
set_option Elab.async false
set_option linter.all false
set_option maxRecDepth 100000
set_option maxHeartbeats 4000000
/-! Pu: defs: what they promise, how they are called. -/
namespace Pu
open PySem PySem.Spec PyProof.Rows L2
/-- an argument: a datum, or a list that the def may change -/
inductive Ag where
  | im (d : D) | mu (ds : List D)
inductive Cr where
  | ok (r : Rt) (mus : List (List D)) | exc (x : Xc) (mus : List (List D)) | stuck
def ArgsOk (K : PySem.W.Frag) (S H : Hp) : List Addr → List V → List Ag → Prop
  | pl, v :: vs, .im d :: as => Rep K S d v ∧ ArgsOk K S H pl vs as
  | a :: pl, v :: vs, .mu ds :: as => v = .ref a ∧ (∃ ws, H a = some (.lst ws) ∧ Reps K S ds ws) ∧ ArgsOk K S H pl vs as
  | [], [], [] => True
  | _, _, _ => False
def MusOk (K : PySem.W.Frag) (S H : Hp) : List Addr → List (List D) → Prop
  | [], [] => True
  | a :: pl, ds :: mus => (∃ ws, H a = some (.lst ws) ∧ Reps K S ds ws) ∧ MusOk K S H pl mus
  | _, _ => False
/-- behind a call -/
structure Aft (S H : Hp) (pl : List Addr) (S' H' : Hp) : Prop where
  exS : Ex S S'
  exH : Ex S' H'
  new : ∀ a o, S' a = some o → S a = some o ∨ H a = none
  keep : ∀ a o, H a = some o → a ∉ pl → H' a = some o
  plH : ∀ a ∈ pl, ∃ o, H' a = some o
def RtC (K : PySem.W.Frag) (H S' H' : Hp) : Rt → V → Prop
  | .im d, v => Rep K S' d v
  | .ow ds, v => ∃ a ws, v = .ref a ∧ H' a = some (.lst ws) ∧ Reps K S' ds ws ∧ H a = none ∧ S' a = none
def CrOk (K : PySem.W.Frag) (S H : Hp) (pl : List Addr) (Q : VK) (X : XK) (c : Cr) : Prop := match c with
  | .ok r mus => ∀ v S' H', Aft S H pl S' H' → MusOk K S' H' pl mus → RtC K H S' H' r v → Q v H'
  | .exc x mus => ∀ cls d S' H', Aft S H pl S' H' → MusOk K S' H' pl mus → XOk K S' x cls d → X cls d H'
  | .stuck => False
/-- a def's promise: as the function p on data -/
def spF (K : PySem.W.Frag) (np : Nat) (p : List Ag → Cr) : Sp := fun vs H Q X => vs.length = np ∧ ∃ S ags pl, Ex S H ∧ ArgsOk K S H pl vs ags ∧ pl.Nodup ∧ (∀ a ∈ pl, S a = none) ∧ CrOk K S H pl Q X (p ags)
/-- the first slots -/
def entryE : Nat → List Ag → Env
  | _, [] => []
  | k, .im d :: as => .im d :: entryE k as
  | k, .mu ds :: as => .pl k ds :: entryE (k + 1) as
def plKs : Env → List Nat
  | [] => []
  | .pl k _ :: E => k :: plKs E
  | _ :: E => plKs E
def plDs : Env → List (List D)
  | [] => []
  | .pl _ ds :: E => ds :: plDs E
  | _ :: E => plDs E
def finE (E0 E' : Env) (c : List (List D) → Cr) : Cr := match decide (plKs E' = plKs E0) with
  | true => c (plDs E')
  | false => .stuck
/-- the def as a function on data: np parameters, nl other slots -/
def runFn (np nl : Nat) (m : M Fl) (ags : List Ag) : Cr := match decide (ags.length = np) with
  | false => .stuck
  | true => match m (entryE 0 ags ++ List.replicate nl .un) with
    | .ok .nx E' => finE (entryE 0 ags ++ List.replicate nl .un) E' (.ok (.im .non))
    | .ok (.rt r) E' => finE (entryE 0 ags ++ List.replicate nl .un) E' (.ok r)
    | .ok _ _ => .stuck
    | .exc x E' => finE (entryE 0 ags ++ List.replicate nl .un) E' (.exc x)
    | .stuck => .stuck
section
variable {K : PySem.W.Frag}
theorem ArgsOk.len {S H : Hp} : ∀ {pl : List Addr} {vs : List V} {as : List Ag}, ArgsOk K S H pl vs as → vs.length = as.length
  | pl, [], [], _ => rfl
  | pl, v :: vs, .im d :: as, h => by
    cases pl with
    | nil => exact congrArg Nat.succ (ArgsOk.len (show ArgsOk K S H [] vs as from h.2))
    | cons a pl => exact congrArg Nat.succ (ArgsOk.len (show ArgsOk K S H (a :: pl) vs as from h.2))
  | a :: pl, v :: vs, .mu ds :: as, h => congrArg Nat.succ (ArgsOk.len h.2.2)
  | [], v :: vs, .mu ds :: as, h => h.elim
  | [], [], _ :: _, h => by
    rename_i a _
    cases a <;> exact h.elim
  | _ :: _, [], _ :: _, h => by
    rename_i a _
    cases a <;> exact h.elim
  | [], _ :: _, [], h => h.elim
  | _ :: _, _ :: _, [], h => h.elim
/-- one slot of the entry -/
theorem entry_slot {S H : Hp} {pl0 : List Addr} : ∀ {as : List Ag} {vs : List V} {pl : List Addr} {k : Nat}, ArgsOk K S H pl vs as → pl0.drop k = pl → ∀ i : Nat, i < as.length → SlOk ⟨K, pl0, [], H, S⟩ S H (at_ (entryE k as) i) (vs[i]?.map some)
  | [], vs, pl, k, _, _, i, hi => absurd hi (Nat.not_lt_zero i)
  | .im d :: as, v :: vs, pl, k, h, hd, 0, _ => by
    cases pl with
    | nil => exact ⟨v, rfl, h.1⟩
    | cons a pl => exact ⟨v, rfl, h.1⟩
  | .im d :: as, v :: vs, pl, k, h, hd, i + 1, hi => by
    have h2 : ArgsOk K S H pl vs as := by
      cases pl with
      | nil => exact h.2
      | cons a pl => exact h.2
    have := entry_slot (k := k) h2 hd i (by simpa using hi)
    simpa [entryE, at_] using this
  | .mu ds :: as, v :: vs, a :: pl, k, h, hd, 0, _ => by
    obtain ⟨e, ⟨ws, h1, h2⟩, _⟩ := h
    refine ⟨a, ws, by rw [e]; rfl, ?_, h1, h2⟩
    show pl0[k]? = some a
    have e2 : (pl0.drop k)[0]? = some a := by rw [hd]; rfl
    simpa using e2
  | .mu ds :: as, v :: vs, a :: pl, k, h, hd, i + 1, hi => by
    have hd2 : pl0.drop (k + 1) = pl := by
      have e : pl0.drop (k + 1) = (pl0.drop k).drop 1 := by rw [List.drop_drop]
      rw [e, hd]
      rfl
    have := entry_slot (k := k + 1) h.2.2 hd2 i (by simpa using hi)
    simpa [entryE, at_] using this
  | .mu ds :: as, v :: vs, [], k, h, hd, i, hi => h.elim
  | .im d :: as, [], [], k, h, hd, i, hi => h.elim
  | .im d :: as, [], _ :: _, k, h, hd, i, hi => h.elim
  | .mu d :: as, [], [], k, h, hd, i, hi => h.elim
  | .mu d :: as, [], _ :: _, k, h, hd, i, hi => h.elim
theorem entry_len : ∀ (as : List Ag) (k : Nat), (entryE k as).length = as.length
  | [], _ => rfl
  | .im d :: as, k => congrArg Nat.succ (entry_len as k)
  | .mu ds :: as, k => congrArg Nat.succ (entry_len as (k + 1))
/-- the mutable slots of the entry: each its own address, by its number -/
theorem entry_mu {S H : Hp} {pl0 : List Addr} : ∀ {as : List Ag} {vs : List V} {pl : List Addr} {k : Nat}, ArgsOk K S H pl vs as → pl0.drop k = pl → ∀ i : Nat, (at_ (entryE k as) i).mu = true → ∃ j a ds, k ≤ j ∧ at_ (entryE k as) i = .pl j ds ∧ vs[i]? = some (.ref a) ∧ pl0[j]? = some a
  | [], vs, pl, k, _, _, i, hm => by cases i <;> cases hm
  | .im d :: as, v :: vs, pl, k, h, hd, 0, hm => by cases hm
  | .im d :: as, v :: vs, pl, k, h, hd, i + 1, hm => by
    have h2 : ArgsOk K S H pl vs as := by
      cases pl with
      | nil => exact h.2
      | cons a pl => exact h.2
    obtain ⟨j, a, ds, h3, h4, h5, h6⟩ := entry_mu (k := k) h2 hd i hm
    exact ⟨j, a, ds, h3, h4, h5, h6⟩
  | .mu ds :: as, v :: vs, a :: pl, k, h, hd, 0, hm => by
    refine ⟨k, a, ds, Nat.le_refl k, rfl, by rw [h.1]; rfl, ?_⟩
    have e2 : (pl0.drop k)[0]? = some a := by rw [hd]; rfl
    simpa using e2
  | .mu ds :: as, v :: vs, a :: pl, k, h, hd, i + 1, hm => by
    have hd2 : pl0.drop (k + 1) = pl := by
      have e : pl0.drop (k + 1) = (pl0.drop k).drop 1 := by rw [List.drop_drop]
      rw [e, hd]
      rfl
    obtain ⟨j, b, es, h3, h4, h5, h6⟩ := entry_mu (k := k + 1) h.2.2 hd2 i hm
    exact ⟨j, b, es, by omega, h4, h5, h6⟩
  | .mu ds :: as, v :: vs, [], k, h, hd, i, hi => h.elim
  | .im d :: as, [], [], k, h, hd, i, hi => h.elim
  | .im d :: as, [], _ :: _, k, h, hd, i, hi => h.elim
  | .mu d :: as, [], [], k, h, hd, i, hi => h.elim
  | .mu d :: as, [], _ :: _, k, h, hd, i, hi => h.elim
theorem entry_inj {S H : Hp} {pl0 : List Addr} : ∀ {as : List Ag} {vs : List V} {pl : List Addr} {k : Nat}, ArgsOk K S H pl vs as → pl0.drop k = pl → ∀ (i i' j : Nat) ds ds', at_ (entryE k as) i = .pl j ds → at_ (entryE k as) i' = .pl j ds' → i = i'
  | [], vs, pl, k, _, _, i, i', j, ds, ds', h1, _ => by cases i <;> cases h1
  | .im d :: as, v :: vs, pl, k, h, hd, 0, i', j, ds, ds', h1, _ => by cases h1
  | .im d :: as, v :: vs, pl, k, h, hd, i + 1, 0, j, ds, ds', _, h2 => by cases h2
  | .im d :: as, v :: vs, pl, k, h, hd, i + 1, i' + 1, j, ds, ds', h1, h2 => by
    have h3 : ArgsOk K S H pl vs as := by
      cases pl with
      | nil => exact h.2
      | cons a pl => exact h.2
    exact congrArg Nat.succ (entry_inj (k := k) h3 hd i i' j ds ds' h1 h2)
  | .mu es :: as, v :: vs, a :: pl, k, h, hd, i, i', j, ds, ds', h1, h2 => by
    have hd2 : pl0.drop (k + 1) = pl := by
      have e : pl0.drop (k + 1) = (pl0.drop k).drop 1 := by rw [List.drop_drop]
      rw [e, hd]
      rfl
    cases i with
    | zero =>
      cases i' with
      | zero => rfl
      | succ i' =>
        have e1 : k = j := by
          have z : Sl.pl k es = Sl.pl j ds := h1
          cases z
          rfl
        have h2' : at_ (entryE (k + 1) as) i' = .pl j ds' := h2
        obtain ⟨j', b, fs, q1, q2, _⟩ := entry_mu (k := k + 1) h.2.2 hd2 i' (by rw [h2']; rfl)
        rw [h2'] at q2
        cases q2
        omega
    | succ i =>
      cases i' with
      | zero =>
        have e1 : k = j := by
          have z : Sl.pl k es = Sl.pl j ds' := h2
          cases z
          rfl
        have h1' : at_ (entryE (k + 1) as) i = .pl j ds := h1
        obtain ⟨j', b, fs, q1, q2, _⟩ := entry_mu (k := k + 1) h.2.2 hd2 i (by rw [h1']; rfl)
        rw [h1'] at q2
        cases q2
        omega
      | succ i' => exact congrArg Nat.succ (entry_inj (k := k + 1) h.2.2 hd2 i i' j ds ds' h1 h2)
  | .mu ds :: as, v :: vs, [], k, h, hd, i, i', j, _, _, _, _ => h.elim
  | .im d :: as, [], [], k, h, hd, i, i', j, _, _, _, _ => h.elim
  | .im d :: as, [], _ :: _, k, h, hd, i, i', j, _, _, _, _ => h.elim
  | .mu d :: as, [], [], k, h, hd, i, i', j, _, _, _, _ => h.elim
  | .mu d :: as, [], _ :: _, k, h, hd, i, i', j, _, _, _, _ => h.elim
theorem args_pl {S H : Hp} : ∀ {as : List Ag} {vs : List V} {pl : List Addr}, ArgsOk K S H pl vs as → ∀ a ∈ pl, ∃ o, H a = some o
  | .im d :: as, v :: vs, pl, h, a, ha => by
    have h2 : ArgsOk K S H pl vs as := by
      cases pl with
      | nil => exact h.2
      | cons a pl => exact h.2
    exact args_pl h2 a ha
  | .mu ds :: as, v :: vs, b :: pl, h, a, ha => by
    rcases List.mem_cons.mp ha with e | ha
    · obtain ⟨_, ⟨ws, h1, _⟩, _⟩ := h
      exact ⟨_, by rw [e]; exact h1⟩
    · exact args_pl h.2.2 a ha
  | [], [], [], _, a, ha => by cases ha
  | .mu ds :: as, v :: vs, [], h, a, ha => h.elim
  | [], _ :: _, [], h, a, ha => h.elim
  | [], [], _ :: _, h, a, ha => h.elim
  | [], _ :: _, _ :: _, h, a, ha => h.elim
  | .im d :: as, [], [], h, a, ha => h.elim
  | .im d :: as, [], _ :: _, h, a, ha => h.elim
  | .mu d :: as, [], [], h, a, ha => h.elim
  | .mu d :: as, [], _ :: _, h, a, ha => h.elim
/-- the state at a def's entry -/
theorem sto_start {S H : Hp} {pl : List Addr} {vs : List V} {as : List Ag} {N : List Str} {nl : Nat} (ex : Ex S H) (h : ArgsOk K S H pl vs as) (nd : pl.Nodup) (hN : N.length = vs.length + nl) :
    Sto ⟨K, pl, [], H, S⟩ S H (L2.start N vs) (entryE 0 as ++ List.replicate nl .un) := by
  have hl := h.len
  have el := entry_len as 0
  have hs : ∀ i, i < as.length → (L2.start N vs)[i]? = vs[i]?.map some := fun i hi => by
    unfold L2.start
    rw [List.getElem?_append_left (by rw [List.length_map]; omega), List.getElem?_map]
  have ha : ∀ i, i < as.length → at_ (entryE 0 as ++ List.replicate nl .un) i = at_ (entryE 0 as) i := fun i hi => by
    unfold at_
    rw [List.getD_eq_getElem?_getD, List.getD_eq_getElem?_getD, List.getElem?_append_left (by omega)]
  have hu : ∀ i, ¬ i < as.length → at_ (entryE 0 as ++ List.replicate nl .un) i = .un := fun i hi => by
    unfold at_
    rw [List.getD_eq_getElem?_getD, List.getElem?_append_right (by omega)]
    rw [List.getElem?_replicate]
    split <;> rfl
  refine ⟨ex, Ex.refl S, fun a o q => .inl q, fun a o q _ => q, fun a q => ?_, ?_, fun i => ?_, fun i j a m1 m2 v1 v2 => ?_⟩
  · rcases q with q | q
    · exact args_pl h a q
    · cases q
  · unfold L2.start
    rw [List.length_append, List.length_append, List.length_map, List.length_replicate, List.length_replicate, el]
    omega
  · by_cases hi : i < as.length
    · rw [ha i hi, hs i hi]
      exact entry_slot h rfl i hi
    · rw [hu i hi]
      trivial
  · have hi : i < as.length := by
      refine Decidable.byContradiction fun q => ?_
      rw [hu i q] at m1
      cases m1
    have hj : j < as.length := by
      refine Decidable.byContradiction fun q => ?_
      rw [hu j q] at m2
      cases m2
    rw [ha i hi] at m1
    rw [ha j hj] at m2
    obtain ⟨k1, a1, d1, _, p1, p2, p3⟩ := entry_mu (k := 0) h (pl0 := pl) rfl i m1
    obtain ⟨k2, a2, d2, _, r1, r2, r3⟩ := entry_mu (k := 0) h (pl0 := pl) rfl j m2
    rw [hs i hi, p2] at v1
    rw [hs j hj, r2] at v2
    cases v1
    cases v2
    have ek : k1 = k2 := by
      obtain ⟨l1, l3⟩ := (List.getElem?_eq_some_iff.mp p3)
      obtain ⟨l2, l4⟩ := (List.getElem?_eq_some_iff.mp r3)
      have pw := List.pairwise_iff_getElem.mp nd
      rcases Nat.lt_trichotomy k1 k2 with q | q | q
      · exact absurd (l3.trans l4.symm) (pw k1 k2 l1 l2 q)
      · exact q
      · exact absurd (l4.trans l3.symm) (pw k2 k1 l2 l1 q)
    subst ek
    exact entry_inj h (pl0 := pl) rfl i j k1 d1 d2 p1 r1
/-- the handed lists at the end -/
theorem mus_of {F : Fr} {S H : Hp} : ∀ {E : Env} {σ : L2.St} {pl : List Addr} {k : Nat}, (∀ i, SlOk F S H (at_ E i) σ[i]?) → plKs E = List.range' k pl.length → F.pl.drop k = pl → MusOk F.K S H pl (plDs E)
  | [], σ, pl, k, _, h, hd => by
    cases pl with
    | nil => trivial
    | cons a pl => cases h
  | .pl j ds :: E, σ, pl, k, hs, h, hd => by
    cases pl with
    | nil => cases h
    | cons a pl =>
      have h1 : j :: plKs E = k :: List.range' (k + 1) pl.length := h
      injection h1 with h2 h3
      subst h2
      have z := hs 0
      obtain ⟨b, ws, q1, q2, q3, q4⟩ := z
      have e2 : F.pl[j]? = some a := by
        have e3 : (F.pl.drop j)[0]? = some a := by rw [hd]; rfl
        simpa using e3
      rw [e2] at q2
      cases q2
      have hd2 : F.pl.drop (j + 1) = pl := by
        have e : F.pl.drop (j + 1) = (F.pl.drop j).drop 1 := by rw [List.drop_drop]
        rw [e, hd]
        rfl
      refine ⟨⟨ws, q3, q4⟩, mus_of (E := E) (σ := σ.drop 1) (fun i => ?_) h3 hd2⟩
      have := hs (i + 1)
      rw [List.getElem?_drop, Nat.add_comm 1 i]
      exact this
  | .un :: E, σ, pl, k, hs, h, hd => mus_of (E := E) (σ := σ.drop 1) (fun i => by have := hs (i + 1); rw [List.getElem?_drop, Nat.add_comm 1 i]; exact this) h hd
  | .im d :: E, σ, pl, k, hs, h, hd => mus_of (E := E) (σ := σ.drop 1) (fun i => by have := hs (i + 1); rw [List.getElem?_drop, Nat.add_comm 1 i]; exact this) h hd
  | .ow d :: E, σ, pl, k, hs, h, hd => mus_of (E := E) (σ := σ.drop 1) (fun i => by have := hs (i + 1); rw [List.getElem?_drop, Nat.add_comm 1 i]; exact this) h hd
  | .xo d :: E, σ, pl, k, hs, h, hd => mus_of (E := E) (σ := σ.drop 1) (fun i => by have := hs (i + 1); rw [List.getElem?_drop, Nat.add_comm 1 i]; exact this) h hd
  | .se _ _ _ _ :: E, σ, pl, k, hs, h, hd => mus_of (E := E) (σ := σ.drop 1) (fun i => by have := hs (i + 1); rw [List.getElem?_drop, Nat.add_comm 1 i]; exact this) h hd
theorem entry_ks {S H : Hp} : ∀ {as : List Ag} {vs : List V} {pl : List Addr} (k nl : Nat), ArgsOk K S H pl vs as → plKs (entryE k as ++ List.replicate nl .un) = List.range' k pl.length
  | .im d :: as, v :: vs, pl, k, nl, h => by
    have h2 : ArgsOk K S H pl vs as := by
      cases pl with
      | nil => exact h.2
      | cons a pl => exact h.2
    show plKs (entryE k as ++ List.replicate nl .un) = _
    exact entry_ks k nl h2
  | .mu ds :: as, v :: vs, b :: pl, k, nl, h => by
    show k :: plKs (entryE (k + 1) as ++ List.replicate nl .un) = k :: List.range' (k + 1) pl.length
    rw [entry_ks (k + 1) nl h.2.2]
  | [], [], [], k, nl, _ => by
    show plKs (List.replicate nl .un) = []
    induction nl with
    | zero => rfl
    | succ n ih => exact ih
  | .mu ds :: as, v :: vs, [], k, nl, h => h.elim
  | [], _ :: _, [], k, nl, h => h.elim
  | [], [], _ :: _, k, nl, h => h.elim
  | [], _ :: _, _ :: _, k, nl, h => h.elim
  | .im d :: as, [], [], k, nl, h => h.elim
  | .im d :: as, [], _ :: _, k, nl, h => h.elim
  | .mu d :: as, [], [], k, nl, h => h.elim
  | .mu d :: as, [], _ :: _, k, nl, h => h.elim
theorem aft_of {S H S' H' : Hp} {pl : List Addr} {σ : L2.St} {E : Env} (st : Sto ⟨K, pl, [], H, S⟩ S' H' σ E) : Aft S H pl S' H' :=
  ⟨st.sub0, st.sub, st.new, fun a o q n => st.keep a o q fun z => z.elim n fun z => (nomatch z), fun a q => st.plH a (.inl q)⟩
/-- THE BODY keeps the promise -/
theorem body_ok {np nl : Nat} {N : List Str} {t : TS} {m : M Fl} {vs : List V} {H : Hp} {Q : VK} {X : XK} (s : SimS K (fun cls d _ H => X cls d H) t m) (hN : N.length = np + nl) (h : spF K np (runFn np nl m) vs H Q X) :
    t { nx := fun _ H' => Q .non H', rt := Q } (L2.start N vs) H := by
  obtain ⟨hl, S, ags, pl, ex, ha, nd, hS, hc⟩ := h
  have el := ha.len
  unfold runFn at hc
  have e1 : decide (ags.length = np) = true := decide_eq_true (by omega)
  rw [e1] at hc
  dsimp only at hc
  have fo : FrOk ⟨K, pl, [], H, S⟩ := ⟨ex, fun a q => by
    rcases q with q | q
    · exact ⟨hS a q, args_pl ha a q⟩
    · cases q⟩
  have st := sto_start (N := N) (nl := nl) ex ha nd (by omega)
  refine s.run ⟨K, pl, [], H, S⟩ S H _ _ _ rfl fo st ?_
  have ek := entry_ks (K := K) 0 nl ha
  generalize entryE 0 ags ++ List.replicate nl .un = E0 at hc ek ⊢
  have fin : ∀ (E' : Env) (c : List (List D) → Cr), CrOk K S H pl Q X (finE E0 E' c) → ∃ mus, plDs E' = mus ∧ CrOk K S H pl Q X (c mus) ∧ ∀ S' H' σ', Sto ⟨K, pl, [], H, S⟩ S' H' σ' E' → MusOk K S' H' pl mus := by
    intro E' c z
    unfold finE at z
    cases q : decide (plKs E' = plKs E0) with
    | false => rw [q] at z; exact z.elim
    | true =>
      rw [q] at z
      exact ⟨_, rfl, z, fun S' H' σ' st' => mus_of (F := ⟨K, pl, [], H, S⟩) (k := 0) st'.slot ((of_decide_eq_true q).trans ek) rfl⟩
  cases e2 : m E0 with
  | stuck => rw [e2] at hc; exact hc
  | exc x E' =>
    rw [e2] at hc
    obtain ⟨mus, _, z1, z2⟩ := fin E' _ hc
    exact fun S' H' σ' cls d ex' st' rx => z1 cls d S' H' (aft_of st') (z2 S' H' σ' st') rx
  | ok f E' =>
    rw [e2] at hc
    cases f with
    | nx =>
      obtain ⟨mus, _, z1, z2⟩ := fin E' _ hc
      exact fun S' H' σ' ex' st' => z1 .non S' H' (aft_of st') (z2 S' H' σ' st') rfl
    | rt r =>
      obtain ⟨mus, _, z1, z2⟩ := fin E' _ hc
      refine fun S' H' σ' v ex' st' rv => z1 v S' H' (aft_of st') (z2 S' H' σ' st') ?_
      cases r with
      | im d => exact rv
      | ow ds =>
        obtain ⟨a, ws, q1, q2, q3, q4, q5⟩ := rv
        exact ⟨a, ws, q1, q2, q3, q4, q5⟩
    | bk => exact hc.elim
    | ct => exact hc.elim
end
end Pu
set_option Elab.async false
set_option linter.all false
set_option maxRecDepth 100000
set_option maxHeartbeats 4000000
/-! Pu: calls of defs, methods, classes. -/
namespace Pu
open PySem PySem.Spec PyProof.Rows L2
section
variable {K : PySem.W.Frag} {W : WX} {F : Fr} {S H S' H' : Hp} {σ : L2.St} {E : Env}
/-- behind a call that was handed no own list -/
theorem Sto.after0 (st : Sto F S H σ E) (fo : FrOk F) (a : Aft S H [] S' H') : Sto F S' H' σ E := by
  have kp : ∀ b o, H b = some o → H' b = some o := fun b o q => a.keep b o q fun z => nomatch z
  refine ⟨a.exH, st.sub0.trans a.exS, fun b o q => ?_, fun b o q n => kp b o (st.keep b o q n), fun b q => ?_, st.len, fun i => ?_, st.sep⟩
  · rcases a.new b o q with z | z
    · exact st.new b o z
    · exact .inr (st.H0_none z)
  · obtain ⟨o, z⟩ := st.plH b q
    exact ⟨o, kp b o z⟩
  · refine (st.slot i).grow a.exS fun b q m => ?_
    obtain ⟨z1, ⟨o, z2⟩, _⟩ := st.muAt fo m q
    refine ⟨(kp b o z2).trans z2.symm, ?_⟩
    cases z : S' b with
    | none => rfl
    | some u =>
      rcases a.new b u z with y | y
      · rw [z1] at y
        cases y
      · rw [z2] at y
        cases y
/-- behind a call that was handed slot j's own list -/
theorem Sto.after1 (st : Sto F S H σ E) (fo : FrOk F) {j : Nat} {b : Addr} {ds0 ds' : List D} {ws' : List V} (a : Aft S H [b] S' H') (hj : ownOf (at_ E j) = some ds0) (hv : σ[j]? = some (some (.ref b))) (hb : H' b = some (.lst ws')) (rs : Reps F.K S' ds' ws') :
    Sto F S' H' σ (E.set j (putOwn (at_ E j) ds')) := by
  obtain ⟨hi, hm, b2, ws, q1, q2, q3, q4⟩ := st.own fo hj
  rw [hv] at q1
  cases q1
  obtain ⟨m1, ⟨mo, m2⟩, m3⟩ := st.muAt fo hm hv
  have kp : ∀ c o, c ≠ b → H c = some o → H' c = some o := fun c o n q => a.keep c o q fun z => n (List.mem_singleton.mp z)
  have S'n : ∀ c o, S c = none → H c = some o → S' c = none := fun c o z1 z2 => by
    cases z : S' c with
    | none => rfl
    | some u =>
      rcases a.new c u z with y | y
      · rw [z1] at y
        cases y
      · rw [z2] at y
        cases y
  obtain ⟨p1, p2⟩ := q4 S' H' ds' ws' (S'n b _ m1 q2) hb rs
  refine ⟨a.exH, st.sub0.trans a.exS, fun c o q => ?_, fun c o q n => ?_, fun c q => ?_, by rw [List.length_set]; exact st.len, fun i => ?_, fun i k c n1 n2 v1 v2 => ?_⟩
  · rcases a.new c o q with z | z
    · exact st.new c o z
    · exact .inr (st.H0_none z)
  · refine kp c o (fun e => ?_) (st.keep c o q n)
    subst e
    rcases m3 with z | z
    · rw [q] at z
      cases z
    · exact n z
  · obtain ⟨o, z⟩ := st.plH c q
    by_cases e : c = b
    · exact ⟨_, by rw [e]; exact hb⟩
    · exact ⟨o, kp c o e z⟩
  · rw [at_set hi]
    by_cases h : i = j
    · rw [if_pos h, h, hv]
      exact p1
    · rw [if_neg h]
      refine (st.slot i).grow a.exS fun c q m => ?_
      obtain ⟨z1, ⟨o, z2⟩, _⟩ := st.muAt fo m q
      have ne : c ≠ b := fun e => h (st.sep i j b m hm (by rw [← e]; exact q) hv)
      exact ⟨(kp c o ne z2).trans z2.symm, S'n c o z1 z2⟩
  · rw [at_set hi] at n1 n2
    refine st.sep i k c ?_ ?_ v1 v2
    · by_cases h : i = j
      · rw [h]; exact hm
      · rw [if_neg h] at n1; exact n1
    · by_cases h : k = j
      · rw [h]; exact hm
      · rw [if_neg h] at n2; exact n2
theorem args_im : ∀ {ds : List D} {vs : List V}, Reps K S ds vs → ArgsOk K S H [] vs (ds.map Ag.im)
  | [], vs, h => by
    have e : vs = [] := h
    subst e
    trivial
  | d :: ds, vs, h => by
    obtain ⟨v, us, e1, e2, e3⟩ := h
    subst e1
    exact ⟨e2, args_im e3⟩
theorem noSl_new (st : Sto F S H σ E) (fo : FrOk F) {E' : Env} {a : Addr} (h : H a = none) (hE : ∀ i, (at_ E' i).mu = true → (at_ E i).mu = true) : NoSl σ E' a := fun i m q => st.noSl_of_none fo h i (hE i m) q
/-! ### what a call gives -/
def crV (c : Cr) (E : Env) : Out R := match c with
  | .ok (.im d) [] => .ok (.im d) E
  | .ok (.ow ds) [] => .ok (.im (.lst ds)) E
  | .exc x [] => .exc x E
  | _ => .stuck
def crL (c : Cr) (E : Env) : Out (List D) := match c with
  | .ok (.ow ds) [] => .ok ds E
  | .exc x [] => .exc x E
  | _ => .stuck
def crV1 (j : Nat) (c : Cr) (E : Env) : Out R := match c with
  | .ok (.im d) [ds'] => .ok (.im d) (E.set j (putOwn (at_ E j) ds'))
  | .ok (.ow ds) [ds'] => .ok (.im (.lst ds)) (E.set j (putOwn (at_ E j) ds'))
  | .exc x [ds'] => .exc x (E.set j (putOwn (at_ E j) ds'))
  | _ => .stuck
def crL1 (j : Nat) (c : Cr) (E : Env) : Out (List D) := match c with
  | .ok (.ow ds) [ds'] => .ok ds (E.set j (putOwn (at_ E j) ds'))
  | .exc x [ds'] => .exc x (E.set j (putOwn (at_ E j) ds'))
  | _ => .stuck
/-- the callee's promise, from a state -/
theorem call_core {Q : VK} {np : Nat} {p : List Ag → Cr} {vs : List V} {ds : List D} (fo : FrOk F) (st : Sto F S H σ E) (rs : Reps F.K S ds vs) (hn : vs.length = np) (h : OkE F S σ W (crV (p (ds.map Ag.im)) E) Q) :
    spF F.K np p vs H Q (fun cls d H' => W cls d σ H') := by
  refine ⟨hn, S, _, [], st.sub, args_im rs, List.nodup_nil, fun a z => (nomatch z), ?_⟩
  cases e : p (ds.map Ag.im) with
  | stuck => rw [e] at h; exact h
  | exc x mus =>
    rw [e] at h
    cases mus with
    | cons _ _ => exact h.elim
    | nil => exact fun cls d S' H' a _ rx => h S' H' cls d a.exS (st.after0 fo a) rx
  | ok r mus =>
    rw [e] at h
    cases mus with
    | cons _ _ => cases r <;> exact h.elim
    | nil =>
      cases r with
      | im d => exact fun v S' H' a _ rv => h S' H' v a.exS (st.after0 fo a) rv
      | ow es =>
        intro v S' H' a _ rv
        obtain ⟨b, ws, q1, q2, q3, q4, q5⟩ := rv
        have st' := st.after0 fo a
        have st2 := st'.freeze fo q2 (st.H0_none q4) q5 (st.noSl_of_none fo q4)
        exact h _ H' v (a.exS.trans (Ex.new q5)) st2 ⟨b, ws, q1, upd_same, q3.mono (Ex.new q5)⟩
theorem callL_core {Q : VK} {np : Nat} {p : List Ag → Cr} {vs : List V} {ds : List D} (fo : FrOk F) (st : Sto F S H σ E) (rs : Reps F.K S ds vs) (hn : vs.length = np) (h : OkL F S σ W (crL (p (ds.map Ag.im)) E) Q) :
    spF F.K np p vs H Q (fun cls d H' => W cls d σ H') := by
  refine ⟨hn, S, _, [], st.sub, args_im rs, List.nodup_nil, fun a z => (nomatch z), ?_⟩
  cases e : p (ds.map Ag.im) with
  | stuck => rw [e] at h; exact h
  | exc x mus =>
    rw [e] at h
    cases mus with
    | cons _ _ => exact h.elim
    | nil => exact fun cls d S' H' a _ rx => h S' H' cls d a.exS (st.after0 fo a) rx
  | ok r mus =>
    rw [e] at h
    cases mus with
    | cons _ _ => cases r <;> exact h.elim
    | nil =>
      cases r with
      | im d => exact h.elim
      | ow es =>
        intro v S' H' a _ rv
        obtain ⟨b, ws, q1, q2, q3, q4, q5⟩ := rv
        rw [q1]
        exact h S' H' b ws a.exS (st.after0 fo a) q2 q3 (st.H0_none q4) q5 (st.noSl_of_none fo q4)
theorem mu_put {j : Nat} {ds0 ds' : List D} (hi : j < E.length) (h : ownOf (at_ E j) = some ds0) : ∀ i, (at_ (E.set j (putOwn (at_ E j) ds')) i).mu = true → (at_ E i).mu = true := fun i m => by
  rw [at_set hi] at m
  by_cases e : i = j
  · rw [e]
    cases q : at_ E j with
    | ow _ => rfl
    | xo _ => rfl
    | pl _ _ => rfl
    | _ => rw [q] at h; cases h
  · rw [if_neg e] at m
    exact m
theorem call1_core {Q : VK} {np : Nat} {p : List Ag → Cr} {vs : List V} {ds ds0 : List D} {j : Nat} {u : V} (fo : FrOk F) (st : Sto F S H σ E) (hj : ownOf (at_ E j) = some ds0) (hu : σ[j]? = some (some u)) (rs : Reps F.K S ds vs) (hn : (u :: vs).length = np) (h : OkE F S σ W (crV1 j (p (.mu ds0 :: ds.map Ag.im)) E) Q) :
    spF F.K np p (u :: vs) H Q (fun cls d H' => W cls d σ H') := by
  obtain ⟨hi, hm, b, ws, q1, q2, q3, _⟩ := st.own fo hj
  have eu : u = .ref b := by
    rw [hu] at q1
    exact Option.some.inj (Option.some.inj q1)
  subst eu
  refine ⟨hn, S, .mu ds0 :: ds.map Ag.im, [b], st.sub, ⟨rfl, ⟨ws, q2, q3⟩, args_im rs⟩, List.nodup_cons.mpr ⟨fun z => (nomatch z), List.nodup_nil⟩, fun a z => by rw [List.mem_singleton.mp z]; exact (st.muAt fo hm q1).1, ?_⟩
  cases e : p (.mu ds0 :: ds.map Ag.im) with
  | stuck => rw [e] at h; exact h
  | exc x mus =>
    rw [e] at h
    cases mus with
    | nil => exact h.elim
    | cons m1 mr =>
      cases mr with
      | cons _ _ => exact h.elim
      | nil =>
        intro cls d S' H' a mo rx
        obtain ⟨⟨us, r1, r2⟩, _⟩ := mo
        exact h S' H' cls d a.exS (st.after1 fo a hj q1 r1 r2) rx
  | ok r mus =>
    rw [e] at h
    cases mus with
    | nil => cases r <;> exact h.elim
    | cons m1 mr =>
      cases mr with
      | cons _ _ => cases r <;> exact h.elim
      | nil =>
        cases r with
        | im d =>
          intro v S' H' a mo rv
          obtain ⟨⟨us, r1, r2⟩, _⟩ := mo
          exact h S' H' v a.exS (st.after1 fo a hj q1 r1 r2) rv
        | ow es =>
          intro v S' H' a mo rv
          obtain ⟨⟨us, r1, r2⟩, _⟩ := mo
          obtain ⟨c, zs, p1, p2, p3, p4, p5⟩ := rv
          have st' := st.after1 fo a hj q1 r1 r2
          have st2 := st'.freeze fo p2 (st.H0_none p4) p5 (noSl_new st fo p4 (mu_put hi hj))
          exact h _ H' v (a.exS.trans (Ex.new p5)) st2 ⟨c, zs, p1, upd_same, p3.mono (Ex.new p5)⟩
theorem callL1_core {Q : VK} {np : Nat} {p : List Ag → Cr} {vs : List V} {ds ds0 : List D} {j : Nat} {u : V} (fo : FrOk F) (st : Sto F S H σ E) (hj : ownOf (at_ E j) = some ds0) (hu : σ[j]? = some (some u)) (rs : Reps F.K S ds vs) (hn : (u :: vs).length = np) (h : OkL F S σ W (crL1 j (p (.mu ds0 :: ds.map Ag.im)) E) Q) :
    spF F.K np p (u :: vs) H Q (fun cls d H' => W cls d σ H') := by
  obtain ⟨hi, hm, b, ws, q1, q2, q3, _⟩ := st.own fo hj
  have eu : u = .ref b := by
    rw [hu] at q1
    exact Option.some.inj (Option.some.inj q1)
  subst eu
  refine ⟨hn, S, .mu ds0 :: ds.map Ag.im, [b], st.sub, ⟨rfl, ⟨ws, q2, q3⟩, args_im rs⟩, List.nodup_cons.mpr ⟨fun z => (nomatch z), List.nodup_nil⟩, fun a z => by rw [List.mem_singleton.mp z]; exact (st.muAt fo hm q1).1, ?_⟩
  cases e : p (.mu ds0 :: ds.map Ag.im) with
  | stuck => rw [e] at h; exact h
  | exc x mus =>
    rw [e] at h
    cases mus with
    | nil => exact h.elim
    | cons m1 mr =>
      cases mr with
      | cons _ _ => exact h.elim
      | nil =>
        intro cls d S' H' a mo rx
        obtain ⟨⟨us, r1, r2⟩, _⟩ := mo
        exact h S' H' cls d a.exS (st.after1 fo a hj q1 r1 r2) rx
  | ok r mus =>
    rw [e] at h
    cases mus with
    | nil => cases r <;> exact h.elim
    | cons m1 mr =>
      cases mr with
      | cons _ _ => cases r <;> exact h.elim
      | nil =>
        cases r with
        | im d => exact h.elim
        | ow es =>
          intro v S' H' a mo rv
          obtain ⟨⟨us, r1, r2⟩, _⟩ := mo
          obtain ⟨c, zs, p1, p2, p3, p4, p5⟩ := rv
          rw [p1]
          exact h S' H' c zs a.exS (st.after1 fo a hj q1 r1 r2) p2 p3 (st.H0_none p4) p5 (noSl_new st fo p4 (mu_put hi hj))
/-! ### the readings of calls -/
/-- f(..): dds the defaults that fill up -/
def mCall (p : List Ag → Cr) (dds : List D) (m : M (List R)) : M R := mB m fun rs => mB (mO (imAll rs)) fun ds E => crV (p ((ds ++ dds).map Ag.im)) E
def mCallL (p : List Ag → Cr) (dds : List D) (m : M (List R)) : M (List D) := mB m fun rs => mB (mO (imAll rs)) fun ds E => crL (p ((ds ++ dds).map Ag.im)) E
/-- f(xs, ..), xs slot j's own list that f may change -/
def mArg1 (j : Nat) (rs : List R) : Option (List D) := match rs with
  | .sl i :: rs => match decide (i = j) with
    | true => imAll rs
    | false => none
  | _ => none
def mCall1 (j : Nat) (p : List Ag → Cr) (dds : List D) (m : M (List R)) : M R := mB m fun rs => mB (mO (mArg1 j rs)) fun ds E => match ownOf (at_ E j) with
  | some ds0 => crV1 j (p (.mu ds0 :: (ds ++ dds).map Ag.im)) E
  | none => .stuck
def mCallL1 (j : Nat) (p : List Ag → Cr) (dds : List D) (m : M (List R)) : M (List D) := mB m fun rs => mB (mO (mArg1 j rs)) fun ds E => match ownOf (at_ E j) with
  | some ds0 => crL1 j (p (.mu ds0 :: (ds ++ dds).map Ag.im)) E
  | none => .stuck
/-- the promise holds of calls of so many arguments alone -/
def Ary (p : List Ag → Cr) (np : Nat) : Prop := ∀ ags, ags.length ≠ np → p ags = .stuck
theorem ary_run {np nl : Nat} {m : M Fl} : Ary (runFn np nl m) np := fun ags h => by
  unfold runFn
  rw [decide_eq_false h]
theorem sim_call {np : Nat} {p : List Ag → Cr} {dvs : List V} {dds : List D} {t : TA} {m : M (List R)} (ar : Ary p np) (hd : ∀ S, Reps K S dds dvs) (s : SimA K W t m) : SimE K W (tCallSD (spF K np p) dvs (WE W) t) (mCall p dds m) := ⟨fun F S H σ E Q hK fo st h => by
  unfold mCall mB at h
  refine OkA.bind (Q := fun vs H1 => spF K np p (vs ++ dvs) H1 Q (WE W σ)) s hK fo st (fun rs E1 e1 S1 H1 vs x1 st1 rvs => ?_) (fun x E1 e1 S1 H1 cls d x1 st1 rx => ?_) fun e1 => ?_
  · rw [e1] at h
    dsimp only at h
    unfold mO at h
    cases q : imAll rs with
    | none => rw [q] at h; exact h.elim
    | some ds =>
      rw [q] at h
      subst hK
      have rr := (imAll_reps rvs q).append (hd S1)
      by_cases hn : (ds ++ dds).length = np
      · exact call_core fo st1 rr (by rw [rr.length]; exact hn) (OkE.mono x1 h)
      · have z := ar ((ds ++ dds).map Ag.im) (by rw [List.length_map]; exact hn)
        have h' : OkE F S σ W (crV (p ((ds ++ dds).map Ag.im)) E1) Q := h
        rw [z] at h'
        exact h'.elim
  · rw [e1] at h
    exact h S1 H1 cls d x1 st1 rx
  · rw [e1] at h
    exact h⟩
theorem simL_call {np : Nat} {p : List Ag → Cr} {dvs : List V} {dds : List D} {t : TA} {m : M (List R)} (ar : Ary p np) (hd : ∀ S, Reps K S dds dvs) (s : SimA K W t m) : SimL K W (tCallSD (spF K np p) dvs (WE W) t) (mCallL p dds m) := ⟨fun F S H σ E Q hK fo st h => by
  unfold mCallL mB at h
  refine OkA.bind (Q := fun vs H1 => spF K np p (vs ++ dvs) H1 Q (WE W σ)) s hK fo st (fun rs E1 e1 S1 H1 vs x1 st1 rvs => ?_) (fun x E1 e1 S1 H1 cls d x1 st1 rx => ?_) fun e1 => ?_
  · rw [e1] at h
    dsimp only at h
    unfold mO at h
    cases q : imAll rs with
    | none => rw [q] at h; exact h.elim
    | some ds =>
      rw [q] at h
      subst hK
      have rr := (imAll_reps rvs q).append (hd S1)
      by_cases hn : (ds ++ dds).length = np
      · exact callL_core fo st1 rr (by rw [rr.length]; exact hn) (OkL.mono x1 h)
      · have z := ar ((ds ++ dds).map Ag.im) (by rw [List.length_map]; exact hn)
        have h' : OkL F S σ W (crL (p ((ds ++ dds).map Ag.im)) E1) Q := h
        rw [z] at h'
        exact h'.elim
  · rw [e1] at h
    exact h S1 H1 cls d x1 st1 rx
  · rw [e1] at h
    exact h⟩
theorem arg1_ok {rs : List R} {vs : List V} {ds : List D} {j : Nat} (r : RepRs F S σ rs vs) (h : mArg1 j rs = some ds) : ∃ u us, vs = u :: us ∧ σ[j]? = some (some u) ∧ Reps F.K S ds us := by
  cases r with
  | nil => cases h
  | cons a b =>
    rename_i r v rs' vs'
    cases r with
    | im d => cases h
    | sl i =>
      unfold mArg1 at h
      dsimp only at h
      cases q : decide (i = j) with
      | false => rw [q] at h; cases h
      | true =>
        rw [q] at h
        have e := of_decide_eq_true q
        subst e
        exact ⟨v, vs', rfl, a, imAll_reps b h⟩
theorem sim_call1 {np : Nat} {p : List Ag → Cr} {dvs : List V} {dds : List D} {j : Nat} {t : TA} {m : M (List R)} (ar : Ary p np) (hd : ∀ S, Reps K S dds dvs) (s : SimA K W t m) : SimE K W (tCallSD (spF K np p) dvs (WE W) t) (mCall1 j p dds m) := ⟨fun F S H σ E Q hK fo st h => by
  unfold mCall1 mB at h
  refine OkA.bind (Q := fun vs H1 => spF K np p (vs ++ dvs) H1 Q (WE W σ)) s hK fo st (fun rs E1 e1 S1 H1 vs x1 st1 rvs => ?_) (fun x E1 e1 S1 H1 cls d x1 st1 rx => ?_) fun e1 => ?_
  · rw [e1] at h
    dsimp only at h
    unfold mO at h
    cases q : mArg1 j rs with
    | none => rw [q] at h; exact h.elim
    | some ds =>
      rw [q] at h
      dsimp only at h
      cases q5 : ownOf (at_ E1 j) with
      | none => rw [q5] at h; exact h.elim
      | some ds0 =>
        rw [q5] at h
        dsimp only at h
        subst hK
        obtain ⟨u, us, e2, hu, rus⟩ := arg1_ok rvs q
        subst e2
        have rr := rus.append (hd S1)
        by_cases hn : (ds ++ dds).length + 1 = np
        · exact call1_core fo st1 q5 hu rr (by have e := rr.length; show (us ++ dvs).length + 1 = np; rw [e]; exact hn) (OkE.mono x1 h)
        · have z := ar (.mu ds0 :: (ds ++ dds).map Ag.im) (by rw [List.length_cons, List.length_map]; exact hn)
          rw [z] at h
          exact h.elim
  · rw [e1] at h
    exact h S1 H1 cls d x1 st1 rx
  · rw [e1] at h
    exact h⟩
theorem simL_call1 {np : Nat} {p : List Ag → Cr} {dvs : List V} {dds : List D} {j : Nat} {t : TA} {m : M (List R)} (ar : Ary p np) (hd : ∀ S, Reps K S dds dvs) (s : SimA K W t m) : SimL K W (tCallSD (spF K np p) dvs (WE W) t) (mCallL1 j p dds m) := ⟨fun F S H σ E Q hK fo st h => by
  unfold mCallL1 mB at h
  refine OkA.bind (Q := fun vs H1 => spF K np p (vs ++ dvs) H1 Q (WE W σ)) s hK fo st (fun rs E1 e1 S1 H1 vs x1 st1 rvs => ?_) (fun x E1 e1 S1 H1 cls d x1 st1 rx => ?_) fun e1 => ?_
  · rw [e1] at h
    dsimp only at h
    unfold mO at h
    cases q : mArg1 j rs with
    | none => rw [q] at h; exact h.elim
    | some ds =>
      rw [q] at h
      dsimp only at h
      cases q5 : ownOf (at_ E1 j) with
      | none => rw [q5] at h; exact h.elim
      | some ds0 =>
        rw [q5] at h
        dsimp only at h
        subst hK
        obtain ⟨u, us, e2, hu, rus⟩ := arg1_ok rvs q
        subst e2
        have rr := rus.append (hd S1)
        by_cases hn : (ds ++ dds).length + 1 = np
        · exact callL1_core fo st1 q5 hu rr (by have e := rr.length; show (us ++ dvs).length + 1 = np; rw [e]; exact hn) (OkL.mono x1 h)
        · have z := ar (.mu ds0 :: (ds ++ dds).map Ag.im) (by rw [List.length_cons, List.length_map]; exact hn)
          rw [z] at h
          exact h.elim
  · rw [e1] at h
    exact h S1 H1 cls d x1 st1 rx
  · rw [e1] at h
    exact h⟩
/-! ### methods -/
def tMethS (C : Addr) (m : Str) (sp : Sp) (dvs : List V) (E : L2.St → XK) (ta : TE) (t : TA) : TE := fun σ H Q => ta σ H fun x H1 => ∃ a dx fs, x = .ref a ∧ H1 a = some (.ins C dx fs) ∧ fs.lookup m = none ∧
  t σ H1 fun vs H2 => sp (x :: (vs ++ dvs)) H2 Q (E σ)
def hasF (ns : List Str) (f : Str) : Bool := ns.any fun x => decide (x = f)
/-- o.f(..) of an instance of the class c -/
def mMeth (c f : Str) (p : List Ag → Cr) (dds : List D) (o : M R) (m : M (List R)) : M R := mB o fun r => match r with
  | .im (.ins c' ns xs) => mCond (decide (c' = c) && !hasF ns f) (mB m fun rs => mB (mO (imAll rs)) fun ds E => crV (p ((.ins c' ns xs :: (ds ++ dds)).map Ag.im)) E) fun _ => .stuck
  | _ => fun _ => .stuck
def mMethL (c f : Str) (p : List Ag → Cr) (dds : List D) (o : M R) (m : M (List R)) : M (List D) := mB o fun r => match r with
  | .im (.ins c' ns xs) => mCond (decide (c' = c) && !hasF ns f) (mB m fun rs => mB (mO (imAll rs)) fun ds E => crL (p ((.ins c' ns xs :: (ds ++ dds)).map Ag.im)) E) fun _ => .stuck
  | _ => fun _ => .stuck
theorem lookup_no {f : Str} : ∀ {ns : List Str} {ws : List V}, hasF ns f = false → (ns.zip ws).lookup f = none
  | [], _, _ => rfl
  | n :: ns, [], _ => rfl
  | n :: ns, w :: ws, h => by
    have h' : (decide (n = f) || hasF ns f) = false := h
    obtain ⟨h1, h2⟩ := Bool.or_eq_false_iff.mp h'
    rw [List.zip_cons_cons, List.lookup_cons]
    have e : (f == n) = false := by
      cases q : f == n with
      | false => rfl
      | true => exact absurd (beq_iff_eq.mp q).symm (of_decide_eq_false h1)
    rw [e]
    exact lookup_no h2
theorem sim_meth {np : Nat} {c f : Str} {p : List Ag → Cr} {dvs : List V} {dds : List D} {ta : TE} {o : M R} {t : TA} {m : M (List R)} (ar : Ary p np) (hd : ∀ S, Reps K S dds dvs) (so : SimE K W ta o) (s : SimA K W t m) :
    SimE K W (tMethS (He.ga K c) f (spF K np p) dvs (WE W) ta t) (mMeth c f p dds o m) := ⟨fun F S H σ E Q hK fo st h => by
  unfold mMeth mB at h
  refine OkE.bind (Q := fun x H1 => ∃ a dx fs, x = .ref a ∧ H1 a = some (.ins (He.ga K c) dx fs) ∧ fs.lookup f = none ∧ t σ H1 fun vs H2 => spF K np p (x :: (vs ++ dvs)) H2 Q (WE W σ)) so hK fo st (fun r E0 e0 S0 H0 v x0 st0 rv => ?_) (fun x E1 e1 S1 H1 cls d x1 st1 rx => ?_) fun e1 => ?_
  · rw [e0] at h
    dsimp only at h
    cases r with
    | sl i => exact h.elim
    | im d =>
      cases d with
      | ins c' ns xs =>
        dsimp only at h
        cases qc : (decide (c' = c) && !hasF ns f) with
        | false => rw [qc] at h; exact h.elim
        | true =>
          rw [qc] at h
          obtain ⟨hc1, hc2⟩ := Bool.and_eq_true_iff.mp qc
          have ec := of_decide_eq_true hc1
          have hf : hasF ns f = false := by
            cases q : hasF ns f with
            | false => rfl
            | true => rw [q] at hc2; cases hc2
          obtain ⟨a, dx, ws, p1, p2, p3, p4⟩ := id rv
          refine ⟨a, dx, _, p1, by rw [← ec, ← hK]; exact st0.sub _ _ p2, lookup_no hf, ?_⟩
          unfold mCond at h
          dsimp only at h
          refine OkA.bind (Q := fun vs H1 => spF K np p (v :: (vs ++ dvs)) H1 Q (WE W σ)) s hK fo st0 (fun rs E1 e1 S1 H1 vs x1 st1 rvs => ?_) (fun x E1 e1 S1 H1 cls d x1 st1 rx => ?_) fun e1 => ?_
          · rw [e1] at h
            dsimp only at h
            unfold mO at h
            cases q : imAll rs with
            | none => rw [q] at h; exact h.elim
            | some ds =>
              rw [q] at h
              subst hK
              have rr : Reps F.K S1 (.ins c' ns xs :: (ds ++ dds)) (v :: (vs ++ dvs)) := .cons (Rep.mono x1 rv) ((imAll_reps rvs q).append (hd S1))
              by_cases hn : (D.ins c' ns xs :: (ds ++ dds)).length = np
              · exact call_core fo st1 rr (by rw [rr.length]; exact hn) (OkE.mono (x0.trans x1) h)
              · have z := ar ((D.ins c' ns xs :: (ds ++ dds)).map Ag.im) (by rw [List.length_map]; exact hn)
                have h' : OkE F S σ W (crV (p ((D.ins c' ns xs :: (ds ++ dds)).map Ag.im)) E1) Q := h
                rw [z] at h'
                exact h'.elim
          · rw [e1] at h
            exact h S1 H1 cls d (x0.trans x1) st1 rx
          · rw [e1] at h
            exact h
      | _ => exact h.elim
  · rw [e1] at h
    exact h S1 H1 cls d x1 st1 rx
  · rw [e1] at h
    exact h⟩
theorem simL_meth {np : Nat} {c f : Str} {p : List Ag → Cr} {dvs : List V} {dds : List D} {ta : TE} {o : M R} {t : TA} {m : M (List R)} (ar : Ary p np) (hd : ∀ S, Reps K S dds dvs) (so : SimE K W ta o) (s : SimA K W t m) :
    SimL K W (tMethS (He.ga K c) f (spF K np p) dvs (WE W) ta t) (mMethL c f p dds o m) := ⟨fun F S H σ E Q hK fo st h => by
  unfold mMethL mB at h
  refine OkE.bind (Q := fun x H1 => ∃ a dx fs, x = .ref a ∧ H1 a = some (.ins (He.ga K c) dx fs) ∧ fs.lookup f = none ∧ t σ H1 fun vs H2 => spF K np p (x :: (vs ++ dvs)) H2 Q (WE W σ)) so hK fo st (fun r E0 e0 S0 H0 v x0 st0 rv => ?_) (fun x E1 e1 S1 H1 cls d x1 st1 rx => ?_) fun e1 => ?_
  · rw [e0] at h
    dsimp only at h
    cases r with
    | sl i => exact h.elim
    | im d =>
      cases d with
      | ins c' ns xs =>
        dsimp only at h
        cases qc : (decide (c' = c) && !hasF ns f) with
        | false => rw [qc] at h; exact h.elim
        | true =>
          rw [qc] at h
          obtain ⟨hc1, hc2⟩ := Bool.and_eq_true_iff.mp qc
          have ec := of_decide_eq_true hc1
          have hf : hasF ns f = false := by
            cases q : hasF ns f with
            | false => rfl
            | true => rw [q] at hc2; cases hc2
          obtain ⟨a, dx, ws, p1, p2, p3, p4⟩ := id rv
          refine ⟨a, dx, _, p1, by rw [← ec, ← hK]; exact st0.sub _ _ p2, lookup_no hf, ?_⟩
          unfold mCond at h
          dsimp only at h
          refine OkA.bind (Q := fun vs H1 => spF K np p (v :: (vs ++ dvs)) H1 Q (WE W σ)) s hK fo st0 (fun rs E1 e1 S1 H1 vs x1 st1 rvs => ?_) (fun x E1 e1 S1 H1 cls d x1 st1 rx => ?_) fun e1 => ?_
          · rw [e1] at h
            dsimp only at h
            unfold mO at h
            cases q : imAll rs with
            | none => rw [q] at h; exact h.elim
            | some ds =>
              rw [q] at h
              subst hK
              have rr : Reps F.K S1 (.ins c' ns xs :: (ds ++ dds)) (v :: (vs ++ dvs)) := .cons (Rep.mono x1 rv) ((imAll_reps rvs q).append (hd S1))
              by_cases hn : (D.ins c' ns xs :: (ds ++ dds)).length = np
              · exact callL_core fo st1 rr (by rw [rr.length]; exact hn) (OkL.mono (x0.trans x1) h)
              · have z := ar ((D.ins c' ns xs :: (ds ++ dds)).map Ag.im) (by rw [List.length_map]; exact hn)
                have h' : OkL F S σ W (crL (p ((D.ins c' ns xs :: (ds ++ dds)).map Ag.im)) E1) Q := h
                rw [z] at h'
                exact h'.elim
          · rw [e1] at h
            exact h S1 H1 cls d (x0.trans x1) st1 rx
          · rw [e1] at h
            exact h
      | _ => exact h.elim
  · rw [e1] at h
    exact h S1 H1 cls d x1 st1 rx
  · rw [e1] at h
    exact h⟩
/-! ### classes -/
/-- what an __init__ leaves -/
inductive Ci where
  | ok (c : Str) (ns : List Str) (xs : List D) | exc (x : Xc) | stuck
def runIni (c : Str) (np nl : Nat) (m : M Fl) (ds : List D) : Ci := match decide (ds.length = np) with
  | false => .stuck
  | true => match m (.se 0 c [] [] :: (ds.map Sl.im ++ List.replicate nl .un)) with
    | .ok .nx E' => (match at_ E' 0 with
      | .se 0 c' ns xs => .ok c' ns xs
      | _ => .stuck)
    | .ok _ _ => .stuck
    | .exc x E' => .exc x
    | .stuck => .stuck
def spI (K : PySem.W.Frag) (c : Str) (np : Nat) (p : List D → Ci) : Sp := fun vs H Q X => vs.length = np + 1 ∧ ∃ x dx vs' S ds, vs = .ref x :: vs' ∧ H x = some (.ins (He.ga K c) dx []) ∧ S x = none ∧ Ex S H ∧ Reps K S ds vs' ∧
  match p ds with
  | .ok c' ns xs => ∀ S' H' dx' ws, Aft S H [x] S' H' → H' x = some (.ins (He.ga K c') dx' (ns.zip ws)) → ns.length = ws.length → Reps K S' xs ws → Q .non H'
  | .exc x' => ∀ cls d S' H', Aft S H [x] S' H' → XOk K S' x' cls d → X cls d H'
  | .stuck => False
def AryI (p : List D → Ci) (np : Nat) : Prop := ∀ ds, ds.length ≠ np → p ds = .stuck
theorem ary_ini {c : Str} {np nl : Nat} {m : M Fl} : AryI (runIni c np nl m) np := fun ags h => by
  unfold runIni
  rw [decide_eq_false h]
theorem ini_ok {c : Str} {np nl : Nat} {N : List Str} {t : TS} {m : M Fl} {vs : List V} {H : Hp} {Q : VK} {X : XK} (s : SimS K (fun cls d _ H => X cls d H) t m) (hN : N.length = np + 1 + nl) (h : spI K c np (runIni c np nl m) vs H Q X) :
    t { nx := fun _ H' => Q .non H', rt := Q } (L2.start N vs) H := by
  obtain ⟨hl, x, dx, vs', S, ds, e, hx, hS, ex, rs, hc⟩ := h
  subst e
  have el := rs.length
  unfold runIni at hc
  have hl2 : vs'.length = np := by simpa using hl
  have e1 : decide (ds.length = np) = true := decide_eq_true (by omega)
  rw [e1] at hc
  dsimp only at hc
  have fo : FrOk ⟨K, [x], [], H, S⟩ := ⟨ex, fun a q => by
    rcases q with q | q
    · rw [List.mem_singleton.mp q]
      exact ⟨hS, _, hx⟩
    · cases q⟩
  have hs : ∀ i, i < ds.length → (L2.start N (.ref x :: vs'))[i + 1]? = vs'[i]?.map some := fun i hi => by
    unfold L2.start
    rw [List.getElem?_append_left (by rw [List.length_map, List.length_cons]; omega), List.getElem?_map]
    rfl
  have st : Sto ⟨K, [x], [], H, S⟩ S H (L2.start N (.ref x :: vs')) (.se 0 c [] [] :: (ds.map Sl.im ++ List.replicate nl .un)) := by
    refine ⟨ex, Ex.refl S, fun a o q => .inl q, fun a o q _ => q, fun a q => ?_, ?_, fun i => ?_, fun i j a m1 m2 v1 v2 => ?_⟩
    · rcases q with q | q
      · rw [List.mem_singleton.mp q]
        exact ⟨_, hx⟩
      · cases q
    · unfold L2.start
      simp only [List.length_append, List.length_map, List.length_replicate, List.length_cons]
      omega
    · cases i with
      | zero =>
        refine ⟨x, dx, [], ?_, rfl, hx, rfl, .nil⟩
        unfold L2.start
        rfl
      | succ i =>
        show SlOk _ S H (at_ (ds.map Sl.im ++ List.replicate nl .un) i) _
        by_cases hi : i < ds.length
        · have ed : at_ (ds.map Sl.im ++ List.replicate nl .un) i = .im ds[i] := by
            unfold at_
            rw [List.getD_eq_getElem?_getD, List.getElem?_append_left (by rw [List.length_map]; exact hi), List.getElem?_map, List.getElem?_eq_getElem hi]
            rfl
          rw [ed, hs i hi]
          obtain ⟨v, q1, q2⟩ := rs.getD (List.getElem?_eq_getElem hi)
          exact ⟨v, by rw [q1]; rfl, q2⟩
        · have eu : at_ (ds.map Sl.im ++ List.replicate nl .un) i = .un := by
            unfold at_
            rw [List.getD_eq_getElem?_getD, List.getElem?_append_right (by rw [List.length_map]; omega), List.getElem?_replicate]
            split <;> rfl
          rw [eu]
          trivial
    · have only : ∀ k, (at_ (Sl.se 0 c [] [] :: (ds.map Sl.im ++ List.replicate nl .un)) k).mu = true → k = 0 := fun k hm => by
        cases k with
        | zero => rfl
        | succ k =>
          exfalso
          have hm' : (at_ (ds.map Sl.im ++ List.replicate nl .un) k).mu = true := hm
          unfold at_ at hm'
          rw [List.getD_eq_getElem?_getD] at hm'
          by_cases hk : k < ds.length
          · rw [List.getElem?_append_left (by rw [List.length_map]; exact hk), List.getElem?_map, List.getElem?_eq_getElem hk] at hm'
            cases hm'
          · rw [List.getElem?_append_right (by rw [List.length_map]; omega), List.getElem?_replicate] at hm'
            split at hm' <;> cases hm'
      rw [only i m1, only j m2]
  refine s.run ⟨K, [x], [], H, S⟩ S H _ _ _ rfl fo st ?_
  cases e2 : m (.se 0 c [] [] :: (ds.map Sl.im ++ List.replicate nl .un)) with
  | stuck => rw [e2] at hc; exact hc
  | exc xx E' =>
    rw [e2] at hc
    exact fun S' H' σ' cls d ex' st' rx => hc cls d S' H' (aft_of st') rx
  | ok f E' =>
    rw [e2] at hc
    cases f with
    | nx =>
      dsimp only at hc
      intro S' H' σ' ex' st'
      have z := st'.slot 0
      cases q : at_ E' 0 with
      | se k c' ns xs =>
        rw [q] at hc z
        obtain ⟨a, dx', ws, q1, q2, q3, q4, q5⟩ := z
        cases k with
        | succ k => exact hc.elim
        | zero =>
          have ea : a = x := (Option.some.inj q2).symm
          subst ea
          exact hc S' H' dx' ws (aft_of st') q3 q4 q5
      | _ => rw [q] at hc; exact hc.elim
    | rt r => exact hc.elim
    | bk => exact hc.elim
    | ct => exact hc.elim
/-- C(..) -/
def tMakeS (C : Addr) (sp : Sp) (dvs : List V) (E : L2.St → XK) (t : TA) : TE := fun σ H Q => t σ H fun vs H1 => ∀ x dx, H1 x = none → H1 dx = none → dx ≠ x →
  sp (.ref x :: (vs ++ dvs)) (upd (upd H1 dx (.own x)) x (.ins C dx [])) (fun v H2 => v = .non ∧ Q (.ref x) H2) (E σ)
def ciV (c : Ci) (E : Env) : Out R := match c with
  | .ok c ns xs => .ok (.im (.ins c ns xs)) E
  | .exc x => .exc x E
  | .stuck => .stuck
def mMake (p : List D → Ci) (dds : List D) (m : M (List R)) : M R := mB m fun rs => mB (mO (imAll rs)) fun ds E => ciV (p (ds ++ dds)) E
theorem sim_make {c : Str} {np : Nat} {p : List D → Ci} {dvs : List V} {dds : List D} {t : TA} {m : M (List R)} (ar : AryI p np) (hd : ∀ S, Reps K S dds dvs) (s : SimA K W t m) : SimE K W (tMakeS (He.ga K c) (spI K c np p) dvs (WE W) t) (mMake p dds m) := ⟨fun F S H σ E Q hK fo st h => by
  unfold mMake mB at h
  refine OkA.bind (Q := fun vs H1 => ∀ x dx, H1 x = none → H1 dx = none → dx ≠ x → spI K c np p (.ref x :: (vs ++ dvs)) (upd (upd H1 dx (.own x)) x (.ins (He.ga K c) dx [])) (fun v H2 => v = .non ∧ Q (.ref x) H2) (WE W σ)) s hK fo st (fun rs E1 e1 S1 H1 vs x1 st1 rvs => ?_) (fun x E1 e1 S1 H1 cls d x1 st1 rx => ?_) fun e1 => ?_
  · rw [e1] at h
    dsimp only at h
    unfold mO at h
    cases q : imAll rs with
    | none => rw [q] at h; exact h.elim
    | some ds =>
      rw [q] at h
      subst hK
      have rr := (imAll_reps rvs q).append (hd S1)
      have h' : OkE F S σ W (ciV (p (ds ++ dds)) E1) Q := h
      by_cases hn : (ds ++ dds).length = np
      · intro x dx hx hdx hne
        have n1 : (upd H1 dx (.own x)) x = none := by rw [upd_ne hne.symm]; exact hx
        have stA := st1.alloc (o := .own x) fo hdx
        have stB := stA.alloc (o := .ins (He.ga F.K c) dx []) fo n1
        have hSx := st1.S_none hx
        have h0x := st1.H0_none hx
        refine ⟨by rw [List.length_cons, rr.length, hn], x, dx, _, S1, _, rfl, upd_same, hSx, stB.sub, rr, ?_⟩
        have aft : ∀ {S' H' : Hp}, Aft S1 (upd (upd H1 dx (.own x)) x (.ins (He.ga F.K c) dx [])) [x] S' H' → Sto F S' H' σ E1 ∧ S' x = none := fun {S' H'} a => by
          have kp : ∀ b o, H1 b = some o → H' b = some o := fun b o z => a.keep b o (by rw [upd_ne (ne_of_none z hx), upd_ne (ne_of_none z hdx)]; exact z) fun y => ne_of_none z hx (List.mem_singleton.mp y)
          have a0 : Aft S1 H1 [] S' H' := ⟨a.exS, a.exH, fun b o z => by
            rcases a.new b o z with y | y
            · exact .inl y
            · refine .inr ?_
              cases w : H1 b with
              | none => rfl
              | some u =>
                rw [upd_ne (ne_of_none w hx), upd_ne (ne_of_none w hdx), w] at y
                exact (nomatch y), fun b o z _ => kp b o z, fun b z => (nomatch z)⟩
          refine ⟨st1.after0 fo a0, ?_⟩
          cases w : S' x with
          | none => rfl
          | some u =>
            rcases a.new x u w with y | y
            · rw [hSx] at y
              cases y
            · rw [upd_same] at y
              cases y
        cases e : p (ds ++ dds) with
        | stuck => rw [e] at h'; exact h'
        | exc xx =>
          rw [e] at h'
          exact fun cls d S' H' a rx => h' S' H' cls d (x1.trans a.exS) (aft a).1 rx
        | ok c' ns xs =>
          rw [e] at h'
          intro S' H' dx' ws a hxx hlw rws
          obtain ⟨st2, hx2⟩ := aft a
          have st3 := st2.freeze fo hxx h0x hx2 (st1.noSl_of_none fo hx)
          exact ⟨rfl, h' _ H' _ ((x1.trans a.exS).trans (Ex.new hx2)) st3 ⟨x, dx', ws, rfl, upd_same, hlw, rws.mono (Ex.new hx2)⟩⟩
      · rw [ar (ds ++ dds) hn] at h'
        exact h'.elim
  · rw [e1] at h
    exact h S1 H1 cls d x1 st1 rx
  · rw [e1] at h
    exact h⟩
end
end Pu
set_option Elab.async false
set_option linter.all false
set_option maxRecDepth 100000
set_option maxHeartbeats 4000000
/-! Pu: rules over the model for calls whose exceptions are wished for at the caller's slots; static methods; comprehensions. -/
namespace Pu
open PySem PySem.Spec PyProof.Rows L2
section
variable {X : Cx} {CX : CXT} {k : Nat} {f C p : Addr} {fd : FuncData} {ps : List Str} {sp : Sp} {dvs : List V} {ds : List Value} {E : L2.St → XK} {x m : Str} {pn pos apos : Pos} {e o : Expr} {es : List Expr} {ta : TE} {t : TA} {mc : Value}
theorem pe_call0S (F : FnOk X.prog X.w X.K X.mg X.base CX k f fd ps sp) (hr : Room k X.A) (hg : Gl X x) (hm : X.mg x = some (.ref f)) (hk : PySem.W.keepIn X.K (.ref f) = true) (hb : Binds X.K fd ps ds) (hd : Vals dvs ds) (hx : ∀ σ, PassesAt CX X σ (E σ))
    (hdb : (x == ("__debug__" : Str)) = false := by decide) : PE X (.Call (.Name x pn) [] [] pos) (tCallSD sp dvs E tNil) := by
  refine ⟨fun pins s σ H Q I h => wpAny_Call_Name_kw (ld_glob I hg hm ?_ hdb)⟩
  exact PySem.W.callWith_K0 I.kIn hk (run_fnSD (us := []) F hr hb hd (hx σ) I .nil h)
theorem pe_methS {pl : Sem Bool} (he : PE X o ta) (c : Cls X.K C) (hm : Meth X.K C m f) (F : FnOk X.prog X.w X.K X.mg X.base CX k f fd ps sp) (hr : Room k X.A) (hb : Binds X.K fd ps ds) (hd : Vals dvs ds) (hx : ∀ σ, PassesAt CX X σ (E σ)) (ha : PA X (e :: es) t)
    (hst : starEach (e :: es) X.env = (false, eval e X.env) :: starEach es X.env := by rfl) (hpl : (backTo pos (starEach es X.env)).any (·.1) = false := by rfl)
    (ht : eval (.Call (.Attribute o m apos) (e :: es) [] pos) X.env = (eval o X.env >>= fun ov => standAt apos.atName >>= fun _ => holding [ov] (getMethod ov m pl) >>= fun q => callWith pos q.1 q.2 (backTo pos (starEach (e :: es) X.env)) (backToKw pos (keywordEach [] X.env))) := by rfl) :
    PE X (.Call (.Attribute o m apos) (e :: es) [] pos) (tMethS C m sp dvs E ta t) := by
  refine ⟨fun pins s σ H Q I h => PySem.W.methodCall_KW (pl := pl) (thn (he.run pins s σ H _ I h) fun u s1 ⟨x, H1, I1, rx, a, dx, fs, ex, ea, l, q⟩ => ?_) ht⟩
  subst ex
  cases rx
  refine getmeth_ok I1 ea c hm l (PySem.W.callWith_K (first := [.ref a]) (h₀ := X.base) I.ok.mod.kin hm.kp (thn (ha.run pos pins s1 σ H1 _ I1 q) fun us s2 ⟨vs, H2, I2, r, q2⟩ => ⟨I2.kIn, ?_⟩) hst hpl)
  exact run_fnSD (us := .ref a :: us) (vs := .ref a :: vs) F hr hb hd (hx σ) I2 (.cons rfl r) q2
theorem pe_meth0S {pl : Sem Bool} (he : PE X o ta) (c : Cls X.K C) (hm : Meth X.K C m f) (F : FnOk X.prog X.w X.K X.mg X.base CX k f fd ps sp) (hr : Room k X.A) (hb : Binds X.K fd ps ds) (hd : Vals dvs ds) (hx : ∀ σ, PassesAt CX X σ (E σ))
    (ht : eval (.Call (.Attribute o m apos) [] [] pos) X.env = (eval o X.env >>= fun ov => standAt apos.atName >>= fun _ => holding [ov] (getMethod ov m pl) >>= fun q => callWith pos q.1 q.2 (backTo pos (starEach [] X.env)) (backToKw pos (keywordEach [] X.env))) := by rfl) :
    PE X (.Call (.Attribute o m apos) [] [] pos) (tMethS C m sp dvs E ta tNil) := by
  refine ⟨fun pins s σ H Q I h => PySem.W.methodCall_KW (pl := pl) (thn (he.run pins s σ H _ I h) fun u s1 ⟨x, H1, I1, rx, a, dx, fs, ex, ea, l, q⟩ => ?_) ht⟩
  subst ex
  cases rx
  refine getmeth_ok I1 ea c hm l ?_
  exact PySem.W.callWith_K0 (first := [.ref a]) I1.kIn hm.kp (run_fnSD (us := [.ref a]) (vs := [.ref a]) F hr hb hd (hx σ) I1 (.cons rfl .nil) q)
theorem run_makeS {pins : List (Addr × Obj)} {σ : L2.St} {H : Hp} {s : Shared} {Q : VK} {us : List Value} {vs : List V} (M : Mk X.K C f) (F : FnOk X.prog X.w X.K X.mg X.base CX k f fd ps sp) (hr : Room (k + 1) X.A) (hb : Binds X.K fd ps ds) (hd : Vals dvs ds)
    (hx : PassesAt CX X σ (E σ)) (I : L2.Inv X pins σ H s) (r : Vals vs us)
    (h : ∀ x dx, H x = none → H dx = none → dx ≠ x → sp (.ref x :: (vs ++ dvs)) (upd (upd H dx (.own x)) x (.ins C dx [])) (fun v H2 => v = .non ∧ Q (.ref x) H2) (E σ)) :
    wpAny (model X.prog X.w) X.A (call (.ref C) us) (EP X pins σ Q) X.xe s := by
  have fr1 := I.hok.fresh (Nat.le_succ s.heap.objs.size)
  have hq := h (s.heap.objs.size + 1) s.heap.objs.size fr1 (I.hok.fresh (Nat.le_refl _)) (Nat.ne_of_lt (Nat.lt_succ_self _))
  have I2 := Inv.made (C := C) I
  have r2 : Vals (V.ref (s.heap.objs.size + 1) :: (vs ++ dvs)) (Value.ref (s.heap.objs.size + 1) :: (us ++ ds)) := .cons rfl (r.append hd)
  have hl : (Value.ref (s.heap.objs.size + 1) :: us ++ ds).length = ps.length := (r2.length.symm).trans (F.len _ _ _ _ hq)
  have rn := F.run _ X.stack _ _ ⟨Value.ref (s.heap.objs.size + 1) :: us, []⟩ (Value.ref (s.heap.objs.size + 1) :: (us ++ ds)) _ _ (E σ) (hr.make C us []) (I2.env0.make C us []) (hb _ (Value.ref (s.heap.objs.size + 1) :: us) I2.kIn hl) r2 hq
  refine wpAny_call (make_map (f := f) I.kIn M.makes M.init (beq_iff_eq.mp M.fn) (codeAny_mono rn fun r s' z => ?_))
  cases r with
  | error er => exact hx pins _ _ er s' I2 z
  | ok fl =>
    cases fl with
    | ret u =>
      obtain ⟨v, H', I3, rv, ev, q3⟩ := I2.after z
      subst ev
      exact ⟨rv, V.ref (s.heap.objs.size + 1), H', I3, rfl, q3⟩
    | _ => exact False.elim z
theorem pe_makeS (M : Mk X.K C f) (F : FnOk X.prog X.w X.K X.mg X.base CX k f fd ps sp) (hr : Room (k + 1) X.A) (hg : Gl X x) (hm : X.mg x = some (.ref C)) (hb : Binds X.K fd ps ds) (hd : Vals dvs ds) (hx : ∀ σ, PassesAt CX X σ (E σ))
    (ha : PA X (e :: es) t) (hdb : (x == ("__debug__" : Str)) = false := by decide) (he : starEach (e :: es) X.env = (false, eval e X.env) :: starEach es X.env := by rfl) (hpl : (backTo pos (starEach es X.env)).any (·.1) = false := by rfl) :
    PE X (.Call (.Name x pn) (e :: es) [] pos) (tMakeS C sp dvs E t) := by
  refine ⟨fun pins s σ H Q I h => wpAny_Call_Name_kw (ld_glob I hg hm ?_ hdb)⟩
  exact PySem.W.callWith_K (h₀ := X.base) I.ok.mod.kin M.kp (thn (ha.run pos pins s σ H _ I h) fun us s1 ⟨vs, H1, I1, r, q⟩ => ⟨I1.kIn, run_makeS M F hr hb hd (hx σ) I1 r q⟩) he hpl
theorem pe_make0S (M : Mk X.K C f) (F : FnOk X.prog X.w X.K X.mg X.base CX k f fd ps sp) (hr : Room (k + 1) X.A) (hg : Gl X x) (hm : X.mg x = some (.ref C)) (hb : Binds X.K fd ps ds) (hd : Vals dvs ds) (hx : ∀ σ, PassesAt CX X σ (E σ))
    (hdb : (x == ("__debug__" : Str)) = false := by decide) : PE X (.Call (.Name x pn) [] [] pos) (tMakeS C sp dvs E tNil) := by
  refine ⟨fun pins s σ H Q I h => wpAny_Call_Name_kw (ld_glob I hg hm ?_ hdb)⟩
  exact PySem.W.callWith_K0 I.kIn M.kp (run_makeS (us := []) M F hr hb hd (hx σ) I .nil h)
/-- a static method of the class at C: its record at p, its def at f -/
structure StM (K : PySem.W.Frag) (C : Addr) (mc : Value) (m : Str) (p f : Addr) : Prop where
  rd : PySem.W.readsIn K C mc = true
  ga : PySem.W.specialIn K (.ref C) "__getattribute__" = some (some (.builtin "type.__getattribute__"))
  at_ : PySem.W.findCls K (.ref C) mc m = some (.get (.builtin "staticmethod.__get__") (.ref p) .none (.ref C))
  rc : ∃ rest, PySem.W.recIn K p "staticmethod" = some (.ref f :: rest)
  kp : PySem.W.keepIn K (.ref f) = true
theorem getstat_ok {pl : Sem Bool} {pins : List (Addr × Obj)} {σ : L2.St} {H : Hp} {s : Shared} {A : Around} {E : Value → Shared → Prop} {Q : Value × List Value → Shared → Prop} (I : L2.Inv X pins σ H s) (r : StM X.K C mc m p f)
    (h : ∀ s', L2.Inv X pins σ H s' → Q (.ref f, []) s') : wpAny (model X.prog X.w) A (getMethod (.ref C) m pl) Q E s := by
  obtain ⟨rest, hp⟩ := r.rc
  refine PySem.W.method_cls I.kIn r.ga (PySem.W.cls_bind I.kIn r.rd r.at_ (wpAny_call (PySem.W.sm_get (s := { s with toks := s.toks + 1 }) I.kIn hp (PySem.W.handed_on rfl ?_))))
  exact h _ (I.tok _)
theorem pe_stat {pl : Sem Bool} (he : PE X o (tC (.ref C))) (r : StM X.K C mc m p f) (F : FnOk X.prog X.w X.K X.mg X.base CX k f fd ps sp) (hr : Room k X.A) (hb : Binds X.K fd ps ds) (hd : Vals dvs ds) (hx : ∀ σ, PassesAt CX X σ (E σ)) (ha : PA X (e :: es) t)
    (hst : starEach (e :: es) X.env = (false, eval e X.env) :: starEach es X.env := by rfl) (hpl : (backTo pos (starEach es X.env)).any (·.1) = false := by rfl)
    (ht : eval (.Call (.Attribute o m apos) (e :: es) [] pos) X.env = (eval o X.env >>= fun ov => standAt apos.atName >>= fun _ => holding [ov] (getMethod ov m pl) >>= fun q => callWith pos q.1 q.2 (backTo pos (starEach (e :: es) X.env)) (backToKw pos (keywordEach [] X.env))) := by rfl) :
    PE X (.Call (.Attribute o m apos) (e :: es) [] pos) (tCallSD sp dvs E t) := by
  refine ⟨fun pins s σ H Q I h => PySem.W.methodCall_KW (pl := pl) (thn (he.run pins s σ H (fun v H1 => v = .ref C ∧ tCallSD sp dvs E t σ H1 Q) I ⟨rfl, h⟩) fun u s1 ⟨x, H1, I1, rx, ex, q⟩ => ?_) ht⟩
  subst ex
  cases rx
  refine getstat_ok I1 r fun s2 I2 => ?_
  exact PySem.W.callWith_K (first := []) (h₀ := X.base) I.ok.mod.kin r.kp (thn (ha.run pos pins s2 σ H1 _ I2 q) fun us s3 ⟨vs, H2, I3, rv, q2⟩ => ⟨I3.kIn, run_fnSD F hr hb hd (hx σ) I3 rv q2⟩) hst hpl
theorem pe_stat0 {pl : Sem Bool} (he : PE X o (tC (.ref C))) (r : StM X.K C mc m p f) (F : FnOk X.prog X.w X.K X.mg X.base CX k f fd ps sp) (hr : Room k X.A) (hb : Binds X.K fd ps ds) (hd : Vals dvs ds) (hx : ∀ σ, PassesAt CX X σ (E σ))
    (ht : eval (.Call (.Attribute o m apos) [] [] pos) X.env = (eval o X.env >>= fun ov => standAt apos.atName >>= fun _ => holding [ov] (getMethod ov m pl) >>= fun q => callWith pos q.1 q.2 (backTo pos (starEach [] X.env)) (backToKw pos (keywordEach [] X.env))) := by rfl) :
    PE X (.Call (.Attribute o m apos) [] [] pos) (tCallSD sp dvs E tNil) := by
  refine ⟨fun pins s σ H Q I h => PySem.W.methodCall_KW (pl := pl) (thn (he.run pins s σ H (fun v H1 => v = .ref C ∧ tCallSD sp dvs E tNil σ H1 Q) I ⟨rfl, h⟩) fun u s1 ⟨x, H1, I1, rx, ex, q⟩ => ?_) ht⟩
  subst ex
  cases rx
  refine getstat_ok I1 r fun s2 I2 => ?_
  exact PySem.W.callWith_K0 (first := []) I2.kIn r.kp (run_fnSD (us := []) F hr hb hd (hx σ) I2 .nil q)
end
end Pu
set_option Elab.async false
set_option linter.all false
set_option maxRecDepth 100000
set_option maxHeartbeats 4000000
/-! Pu: list comprehensions. -/
namespace Pu
open PySem PySem.Spec PyProof.Rows L2
def wipeE (E : Env) : List Nat → Env
  | [] => E
  | v :: vs => (wipeE E vs).set v .un
def xoS : Sl → Sl
  | .ow ds => .xo ds
  | x => x
def backS : Sl → Sl → Sl
  | .ow _, .xo ds => .ow ds
  | .xo _, .xo ds => .xo ds
  | _, .xo _ => .un
  | _, .ow _ => .un
  | _, z => z
def backZ : Env → Env → Env
  | e :: E, z :: Z => backS e z :: backZ E Z
  | _, _ => []
def restE (E Z : Env) : List Nat → Env
  | [] => Z
  | v :: vs => (restE E Z vs).set v (at_ E v)
def noOw : Env → Bool
  | [] => true
  | .ow _ :: _ => false
  | _ :: E => noOw E
def lcN (bd : D → Env → Option Env) (tt : M Bool) (te : M R) (vs : List Nat) : List D → List D → M (List D)
  | [], acc => mP acc
  | d :: ds, acc => fun Z => match bd d Z with
    | none => .stuck
    | some Z1 => match tt Z1 with
      | .ok false Z2 => (match noOw Z2 with
        | true => lcN bd tt te vs ds acc (wipeE Z2 vs)
        | false => .stuck)
      | .ok true Z2 => (match te Z2 with
        | .ok (.im d') Z3 => (match noOw Z3 && decide (acc.length < sizeLine) with
          | true => lcN bd tt te vs ds (acc ++ [d']) (wipeE Z3 vs)
          | false => .stuck)
        | _ => .stuck)
      | _ => .stuck
def lcFin (E : Env) (vs : List Nat) (o : Out (List D)) : Out (List D) := match o with
  | .ok acc Z => .ok acc (restE E (backZ E Z) vs)
  | _ => .stuck
def mLc (it : M (List D)) (vs : List Nat) (bd : D → Env → Option Env) (tt : M Bool) (te : M R) : M (List D) := mB it fun ds E => match vs.all fun v => !(at_ E v).mu with
  | true => lcFin E vs (lcN bd tt te vs ds [] (wipeE (E.map xoS) vs))
  | false => .stuck
def mYes : M Bool := mP true
section
variable {K : PySem.W.Frag} {W : WX}
theorem simT_yes : SimT K W tYes mYes := ⟨fun F S H σ E Q hK fo st h => h S H (Ex.refl S) st⟩
/-! ### wiping -/
theorem wipe_get (σ : L2.St) (j : Nat) : ∀ vs : List Nat, (wipe σ vs)[j]? = if j ∈ vs then σ[j]?.map fun _ => none else σ[j]?
  | [] => by simp [wipe]
  | v :: vs => by
    unfold wipe
    rw [List.getElem?_set, wipe_length]
    by_cases e : v = j
    · subst e
      rw [if_pos rfl, if_pos List.mem_cons_self]
      by_cases hl : v < σ.length
      · rw [if_pos hl, List.getElem?_eq_getElem hl]
        rfl
      · rw [if_neg hl, List.getElem?_eq_none_iff.mpr (by omega)]
        rfl
    · rw [if_neg e, wipe_get σ j vs]
      by_cases hm : j ∈ vs
      · rw [if_pos hm, if_pos (List.mem_cons_of_mem _ hm)]
      · rw [if_neg hm, if_neg (by rw [List.mem_cons]; exact fun z => z.elim (fun q => e q.symm) hm)]
theorem wipe_ext {σ τ : L2.St} {vs : List Nat} (hl : σ.length = τ.length) (h : ∀ j, j ∉ vs → σ[j]? = τ[j]?) : wipe σ vs = wipe τ vs := by
  refine List.ext_getElem? fun j => ?_
  rw [wipe_get, wipe_get]
  by_cases hm : j ∈ vs
  · rw [if_pos hm, if_pos hm]
    by_cases q : j < σ.length
    · rw [List.getElem?_eq_getElem q, List.getElem?_eq_getElem (by omega)]
      rfl
    · rw [List.getElem?_eq_none_iff.mpr (by omega), List.getElem?_eq_none_iff.mpr (by omega)]
  · rw [if_neg hm, if_neg hm]
    exact h j hm
theorem wipe_set {σ : L2.St} {vs : List Nat} {i : Nat} {x : Option V} (hi : i ∈ vs) : wipe (σ.set i x) vs = wipe σ vs :=
  wipe_ext (List.length_set ..) fun j hj => List.getElem?_set_ne (by intro e; subst e; exact hj hi)
theorem wipeE_len (E : Env) : ∀ vs : List Nat, (wipeE E vs).length = E.length
  | [] => rfl
  | v :: vs => by unfold wipeE; rw [List.length_set, wipeE_len E vs]
theorem at_set2 {E : Env} {i j : Nat} {x : Sl} : at_ (E.set i x) j = if j = i ∧ i < E.length then x else at_ E j := by
  by_cases hi : i < E.length
  · rw [at_set hi]
    by_cases h : j = i
    · rw [if_pos h, if_pos ⟨h, hi⟩]
    · rw [if_neg h, if_neg fun z => h z.1]
  · rw [if_neg fun z => hi z.2, List.set_eq_of_length_le (by omega)]
theorem wipeE_at (E : Env) (j : Nat) : ∀ vs : List Nat, at_ (wipeE E vs) j = if j ∈ vs then .un else at_ E j
  | [] => by simp [wipeE]
  | v :: vs => by
    unfold wipeE
    rw [at_set2, wipeE_at E j vs, wipeE_len]
    by_cases e : j = v
    · subst e
      rw [if_pos (List.mem_cons_self (a := j) (l := vs))]
      by_cases hl : j < E.length
      · rw [if_pos ⟨rfl, hl⟩]
      · rw [if_neg fun z => hl z.2]
        split
        · rfl
        · unfold at_
          rw [List.getD_eq_getElem?_getD, List.getElem?_eq_none_iff.mpr (by omega)]
          rfl
    · rw [if_neg fun z => e z.1]
      by_cases hm : j ∈ vs
      · rw [if_pos hm, if_pos (List.mem_cons_of_mem _ hm)]
      · rw [if_neg hm, if_neg (by rw [List.mem_cons]; exact fun z => z.elim e hm)]
theorem restE_len (E Z : Env) : ∀ vs : List Nat, (restE E Z vs).length = Z.length
  | [] => rfl
  | v :: vs => by unfold restE; rw [List.length_set, restE_len E Z vs]
theorem restE_at (E Z : Env) (hl : E.length = Z.length) (j : Nat) : ∀ vs : List Nat, at_ (restE E Z vs) j = if j ∈ vs then at_ E j else at_ Z j
  | [] => by simp [restE]
  | v :: vs => by
    unfold restE
    rw [at_set2, restE_at E Z hl j vs, restE_len]
    by_cases e : j = v
    · subst e
      rw [if_pos (List.mem_cons_self (a := j) (l := vs))]
      by_cases hz : j < Z.length
      · rw [if_pos ⟨rfl, hz⟩]
      · rw [if_neg fun z => hz z.2]
        split
        · rfl
        · unfold at_
          rw [List.getD_eq_getElem?_getD, List.getD_eq_getElem?_getD, List.getElem?_eq_none_iff.mpr (by omega), List.getElem?_eq_none_iff.mpr (by omega)]
    · rw [if_neg fun z => e z.1]
      by_cases hm : j ∈ vs
      · rw [if_pos hm, if_pos (List.mem_cons_of_mem _ hm)]
      · rw [if_neg hm, if_neg (by rw [List.mem_cons]; exact fun z => z.elim e hm)]
theorem backZ_len : ∀ (E Z : Env), E.length = Z.length → (backZ E Z).length = E.length
  | [], [], _ => rfl
  | e :: E, z :: Z, h => congrArg Nat.succ (backZ_len E Z (by simpa using h))
  | [], _ :: _, h => by cases h
  | _ :: _, [], h => by cases h
theorem backZ_at : ∀ (E Z : Env) (j : Nat), E.length = Z.length → at_ (backZ E Z) j = backS (at_ E j) (at_ Z j)
  | [], [], j, _ => by cases j <;> rfl
  | e :: E, z :: Z, 0, h => rfl
  | e :: E, z :: Z, j + 1, h => backZ_at E Z j (by simpa using h)
  | [], _ :: _, _, h => by cases h
  | _ :: _, [], _, h => by cases h
theorem noOw_at : ∀ (E : Env) (j : Nat) ds, noOw E = true → at_ E j ≠ .ow ds
  | [], j, ds, _ => by cases j <;> (intro z; cases z)
  | .ow _ :: E, _, _, h => by cases h
  | .un :: E, 0, ds, h => by intro z; cases z
  | .im _ :: E, 0, ds, h => by intro z; cases z
  | .xo _ :: E, 0, ds, h => by intro z; cases z
  | .pl _ _ :: E, 0, ds, h => by intro z; cases z
  | .se _ _ _ _ :: E, 0, ds, h => by intro z; cases z
  | .un :: E, j + 1, ds, h => noOw_at E j ds h
  | .im _ :: E, j + 1, ds, h => noOw_at E j ds h
  | .xo _ :: E, j + 1, ds, h => noOw_at E j ds h
  | .pl _ _ :: E, j + 1, ds, h => noOw_at E j ds h
  | .se _ _ _ _ :: E, j + 1, ds, h => noOw_at E j ds h
theorem map_at (E : Env) (j : Nat) : at_ (E.map xoS) j = xoS (at_ E j) := by
  unfold at_
  rw [List.getD_eq_getElem?_getD, List.getD_eq_getElem?_getD, List.getElem?_map]
  cases E[j]? <;> rfl
/-- the target sets the block's own names alone -/
structure KeepG (g : TG) (vs : List Nat) : Prop where
  run : ∀ (v : V) (σ : L2.St) (H : Hp) (Q : L2.St → Hp → Prop), g v σ H (fun σ2 H2 => wipe σ2 vs = wipe σ vs → Q σ2 H2) → g v σ H fun σ2 H2 => wipe σ2 vs = wipe σ vs ∧ Q σ2 H2
structure KeepGs (g : TGs) (vs : List Nat) : Prop where
  run : ∀ (us : List V) (σ : L2.St) (H : Hp) (Q : L2.St → Hp → Prop), g us σ H (fun σ2 H2 => wipe σ2 vs = wipe σ vs → Q σ2 H2) → g us σ H fun σ2 H2 => wipe σ2 vs = wipe σ vs ∧ Q σ2 H2
theorem keep_name {i : Nat} {vs : List Nat} (h : i ∈ vs) : KeepG (gName i) vs := ⟨fun v σ H Q q => ⟨wipe_set h, q (wipe_set h)⟩⟩
theorem keep_nil {vs : List Nat} : KeepGs gNil vs := ⟨fun us σ H Q q => ⟨q.1, rfl, q.2 rfl⟩⟩
/-- a weaker end -/
structure MonG (g : TG) : Prop where
  run : ∀ (v : V) (σ : L2.St) (H : Hp) (Q Q' : L2.St → Hp → Prop), (∀ σ H, Q σ H → Q' σ H) → g v σ H Q → g v σ H Q'
theorem keep_cons {t : TG} {u : TGs} {vs : List Nat} (mt : MonG t) (h1 : KeepG t vs) (h2 : KeepGs u vs) : KeepGs (gCons t u) vs := ⟨fun us σ H Q q => by
  obtain ⟨v, r, e, q⟩ := q
  refine ⟨v, r, e, ?_⟩
  have k1 := h1.run v σ H (fun σ' H' => u r σ' H' fun σ2 H2 => wipe σ2 vs = wipe σ vs ∧ Q σ2 H2) (mt.run v σ H _ _ (fun σ' H' z e => ?_) q)
  · exact mt.run v σ H _ _ (fun _ _ z => z.2) k1
  · rw [← e] at z ⊢
    exact h2.run r σ' H' Q z⟩
theorem mon_name {i : Nat} : MonG (gName i) := ⟨fun v σ H Q Q' h q => h _ _ q⟩
theorem keep_tup {K : PySem.W.Frag} {n : Nat} {u : TGs} {vs : List Nat} (h : KeepGs u vs) : KeepG (gTup K n u) vs := ⟨fun v σ H Q q => by
  obtain ⟨a, xs, e, h1, h2, q⟩ := q
  exact ⟨a, xs, e, h1, h2, h.run xs σ H Q q⟩⟩
/-- the addresses of the own lists -/
def ownA (σ : L2.St) (E : Env) : List Addr := (List.range E.length).filterMap fun i => match at_ E i, σ[i]? with
  | .ow _, some (some (.ref a)) => some a
  | _, _ => none
theorem mem_ownA {σ : L2.St} {E : Env} {i : Nat} {a : Addr} {ds : List D} (h1 : at_ E i = .ow ds) (h2 : σ[i]? = some (some (.ref a))) : a ∈ ownA σ E :=
  List.mem_filterMap.mpr ⟨i, List.mem_range.mpr (at_lt h1 (by intro z; cases z)), by rw [h1, h2]⟩
theorem of_ownA {σ : L2.St} {E : Env} {a : Addr} (h : a ∈ ownA σ E) : ∃ i ds, at_ E i = .ow ds ∧ σ[i]? = some (some (.ref a)) := by
  obtain ⟨i, _, e⟩ := List.mem_filterMap.mp h
  refine ⟨i, ?_⟩
  cases q : at_ E i with
  | ow ds =>
    rw [q] at e
    refine ⟨ds, rfl, ?_⟩
    cases q2 : σ[i]? with
    | none => rw [q2] at e; cases e
    | some x =>
      cases x with
      | none => rw [q2] at e; cases e
      | some v =>
        cases v with
        | ref b =>
          rw [q2] at e
          cases e
          rfl
        | _ => rw [q2] at e; cases e
  | _ => rw [q] at e; cases e
/-- what stands between two turns -/
structure LcI (F : Fr) (S1 H1 : Hp) (xs : List Addr) (p : Addr) (σw : L2.St) (S H : Hp) (Z : Env) (acc : List D) : Prop where
  st : Sto ⟨F.K, F.pl, xs, H, S⟩ S H σw Z
  fo : FrOk ⟨F.K, F.pl, xs, H, S⟩
  ex : Ex S1 S
  new : ∀ a o, S a = some o → S1 a = some o ∨ H1 a = none
  keep : ∀ a o, H1 a = some o → ¬ (a ∈ F.pl ∨ a ∈ xs) → H a = some o
  at_p : ∃ ws, H p = some (.lst ws) ∧ Reps F.K S acc ws
  nS : S p = none
  nx : ¬ (p ∈ F.pl ∨ p ∈ xs)
  fr : H1 p = none
/-- the turn's end: the state in the frame of the turn's start, back at the loop -/
theorem lc_next {F : Fr} {S1 H1 S H S2 H2 : Hp} {xs : List Addr} {p : Addr} {vs : List Nat} {σ0 σ2 : L2.St} {Z Z2 : Env} {acc : List D} (I : LcI F S1 H1 xs p (wipe σ0 vs) S H Z acc)
    (st2 : Sto ⟨F.K, F.pl, xs, H, S⟩ S2 H2 σ2 Z2) (hσ : wipe σ2 vs = wipe σ0 vs) (hn : noOw Z2 = true) (acc' : List D) (ws' : List V) (hr : Reps F.K S2 acc' ws') :
    LcI F S1 H1 xs p (wipe σ0 vs) S2 (upd H2 p (.lst ws')) (wipeE Z2 vs) acc' := by
  obtain ⟨ws, hp, _⟩ := I.at_p
  have hp2 : H2 p = some (.lst ws) := st2.keep p _ hp I.nx
  have nS2 : S2 p = none := by
    cases q : S2 p with
    | none => rfl
    | some o =>
      rcases st2.new p o q with z | z
      · have z' : S p = some o := z
        rw [I.nS] at z'
        cases z'
      · have z' : H p = none := z
        rw [hp] at z'
        cases z'
  have mutS : ∀ a, (a ∈ F.pl ∨ a ∈ xs) → S2 a = none ∧ ∃ o, H2 a = some o := fun a m => ⟨st2.plS I.fo m, st2.plH a m⟩
  have sub : Ex S2 (upd H2 p (.lst ws')) := st2.sub.updR nS2
  -- a slot's own object is not p
  have nep : ∀ i a, (at_ Z2 i).mu = true → σ2[i]? = some (some (.ref a)) → a ≠ p := fun i a m q e => by
    obtain ⟨_, _, z⟩ := st2.muAt I.fo m q
    rcases z with z | z
    · have z' : H a = none := z
      rw [e, hp] at z'
      cases z'
    · exact I.nx (e ▸ z)
  have slotW : ∀ i, i ∉ vs → (wipe σ0 vs)[i]? = σ2[i]? := fun i hi => by
    rw [← hσ, wipe_get, if_neg hi]
  refine ⟨⟨sub, Ex.refl S2, fun a o q => .inl q, fun a o q _ => q, fun a q => ?_, ?_, fun i => ?_, fun i j a m1 m2 v1 v2 => ?_⟩, ⟨sub, fun a q => ?_⟩, I.ex.trans st2.sub0, fun a o q => ?_, fun a o q n => ?_, ⟨ws', upd_same, hr⟩, nS2, I.nx, I.fr⟩
  · obtain ⟨_, o, z⟩ := mutS a q
    by_cases e : a = p
    · exact ⟨_, by rw [e]; exact upd_same⟩
    · exact ⟨o, by rw [upd_ne e]; exact z⟩
  · rw [wipeE_len, ← hσ, wipe_length]
    exact st2.len
  · rw [wipeE_at]
    by_cases hi : i ∈ vs
    · rw [if_pos hi]
      trivial
    · rw [if_neg hi, slotW i hi]
      have z := st2.slot i
      cases q : at_ Z2 i with
      | un => trivial
      | im d => rw [q] at z; exact z
      | ow ds => exact absurd q (noOw_at Z2 i ds hn)
      | xo ds =>
        rw [q] at z
        obtain ⟨a, us, q1, q2, q3, q4⟩ := z
        exact ⟨a, us, q1, q2, by rw [upd_ne (nep i a (by rw [q]; rfl) q1)]; exact q3, q4⟩
      | pl k ds =>
        rw [q] at z
        obtain ⟨a, us, q1, q2, q3, q4⟩ := z
        exact ⟨a, us, q1, q2, by rw [upd_ne (nep i a (by rw [q]; rfl) q1)]; exact q3, q4⟩
      | se k c ns ds =>
        rw [q] at z
        obtain ⟨a, dx, us, q1, q2, q3, q4⟩ := z
        exact ⟨a, dx, us, q1, q2, by rw [upd_ne (nep i a (by rw [q]; rfl) q1)]; exact q3, q4⟩
  · rw [wipeE_at] at m1 m2
    by_cases hi : i ∈ vs
    · rw [if_pos hi] at m1
      cases m1
    · by_cases hj : j ∈ vs
      · rw [if_pos hj] at m2
        cases m2
      · rw [if_neg hi] at m1
        rw [if_neg hj] at m2
        rw [slotW i hi] at v1
        rw [slotW j hj] at v2
        exact st2.sep i j a m1 m2 v1 v2
  · obtain ⟨z1, o, z2⟩ := mutS a q
    refine ⟨z1, ?_⟩
    by_cases e : a = p
    · exact ⟨_, by rw [e]; exact upd_same⟩
    · exact ⟨o, by show upd H2 p _ a = _; rw [upd_ne e]; exact z2⟩
  · rcases st2.new a o q with z | z
    · exact I.new a o z
    · refine .inr ?_
      have z' : H a = none := z
      cases w : H1 a with
      | none => rfl
      | some u =>
        by_cases m : a ∈ F.pl ∨ a ∈ xs
        · obtain ⟨u', hu⟩ := I.st.plH a m
          rw [z'] at hu
          cases hu
        · have := I.keep a u w m
          rw [z'] at this
          cases this
  · have z := I.keep a o q n
    have z2 := st2.keep a o z n
    have ne : a ≠ p := fun e => by
      rw [e, I.fr] at q
      cases q
    rw [upd_ne ne]
    exact z2
/-- the turns -/
theorem lc_turn {F : Fr} {S1 H1 S H : Hp} {xs : List Addr} {p : Addr} {vs : List Nat} {σ0 : L2.St} {Z : Env} {acc : List D} (hK : F.K = K) (I : LcI F S1 H1 xs p (wipe σ0 vs) S H Z acc)
    {g : TG} {tt : TT} {te : TE} {bd : D → Env → Option Env} {mt : M Bool} {me : M R} (sg : SimG K g bd) (kg : KeepG g vs) (stt : SimT K (fun _ _ _ _ => False) tt mt) (ste : SimE K (fun _ _ _ _ => False) te me)
    {d : D} {ds : List D} {v : V} {o : Out (List D)} (rv : Rep F.K S d v) (h : lcN bd mt me vs (d :: ds) acc Z = o) (ho : o ≠ .stuck) (hx : ∀ x E, o ≠ .exc x E)
    {Nx : Hp → Prop} (hN : ∀ S' H' Z' acc', LcI F S1 H1 xs p (wipe σ0 vs) S' H' Z' acc' → lcN bd mt me vs ds acc' Z' = o → Nx H') :
    g v (wipe σ0 vs) H fun σ2 H2 => wipe σ2 vs = wipe σ0 vs ∧ tt σ2 H2 fun b H3 => if b = true then te σ2 H3 fun y H4 => ∃ ac, H4 p = some (.lst ac) ∧ ac.length < sizeLine ∧ Nx (upd H4 p (.lst (ac ++ [y]))) else Nx H3 := by
  have ww : wipe (wipe σ0 vs) vs = wipe σ0 vs := wipe_ext (wipe_length ..) fun j hj => by rw [wipe_get, if_neg hj]
  have key := kg.run v (wipe σ0 vs) H (fun σ2 H2 => tt σ2 H2 fun b H3 => if b = true then te σ2 H3 fun y H4 => ∃ ac, H4 p = some (.lst ac) ∧ ac.length < sizeLine ∧ Nx (upd H4 p (.lst (ac ++ [y]))) else Nx H3) ?_
  · rw [ww] at key
    exact key
  · rw [ww]
    unfold lcN at h
    cases q1 : bd d Z with
    | none =>
      rw [q1] at h
      exact absurd h.symm ho
    | some Z1 =>
      rw [q1] at h
      dsimp only at h
      refine sg.run ⟨F.K, F.pl, xs, H, S⟩ S H _ Z Z1 d v _ hK I.fo I.st rv q1 fun σ2 H2 st2 _ => fun hw => ?_
      refine OkT.bind (F := ⟨F.K, F.pl, xs, H, S⟩) stt hK I.fo st2 (fun b Z2 e2 S3 H3 x3 st3 => ?_) (fun x Z2 e2 S3 H3 cls dd x3 st3 rx => ?_) fun e2 => ?_
      · rw [e2] at h
        cases b with
        | false =>
          dsimp only at h
          cases q2 : noOw Z2 with
          | false => rw [q2] at h; exact absurd h.symm ho
          | true =>
            rw [q2] at h
            obtain ⟨ws, hp, rws⟩ := I.at_p
            have hp3 := st3.keep p _ hp I.nx
            have LI := lc_next I st3 hw q2 acc ws (rws.mono st3.sub0)
            have e : upd H3 p (.lst ws) = H3 := by
              funext a
              by_cases ha : a = p
              · rw [ha, upd_same]
                exact hp3.symm
              · exact upd_ne ha
            rw [e] at LI
            exact hN _ _ _ _ LI h
        | true =>
          dsimp only at h
          refine OkE.bind (F := ⟨F.K, F.pl, xs, H, S⟩) ste hK I.fo st3 (fun r Z3 e3 S4 H4 y x4 st4 ry => ?_) (fun x Z3 e3 S4 H4 cls dd x4 st4 rx => ?_) fun e3 => ?_
          · rw [e3] at h
            cases r with
            | sl i => exact absurd h.symm ho
            | im d' =>
              dsimp only at h
              cases q2 : (noOw Z3 && decide (acc.length < sizeLine)) with
              | false => rw [q2] at h; exact absurd h.symm ho
              | true =>
                rw [q2] at h
                obtain ⟨h1, h2⟩ := Bool.and_eq_true_iff.mp q2
                obtain ⟨ws, hp, rws⟩ := I.at_p
                have hp4 := st4.keep p _ hp I.nx
                have LI := lc_next I st4 hw h1 (acc ++ [d']) (ws ++ [y]) ((rws.mono st4.sub0).append (.cons ry .nil))
                exact ⟨ws, hp4, by rw [rws.length]; exact of_decide_eq_true h2, hN _ _ _ _ LI h⟩
          · rw [e3] at h
            exact absurd h.symm ho
          · rw [e3] at h
            exact absurd h.symm ho
      · rw [e2] at h
        exact absurd h.symm ho
      · rw [e2] at h
        exact absurd h.symm ho
/-- into the block -/
theorem lc_start {F : Fr} {S1 H1 : Hp} {σ : L2.St} {E : Env} (fo : FrOk F) (st : Sto F S1 H1 σ E) {p : Addr} (hp : H1 p = none) (vs : List Nat) : LcI F S1 H1 (F.xs ++ ownA σ E) p (wipe σ vs) S1 (upd H1 p (.lst [])) (wipeE (E.map xoS) vs) [] := by
  have mutA : ∀ a, (a ∈ F.pl ∨ a ∈ F.xs ++ ownA σ E) → S1 a = none ∧ ∃ o, H1 a = some o := fun a m => by
    rcases m with m | m
    · exact ⟨st.plS fo (.inl m), st.plH a (.inl m)⟩
    · rcases List.mem_append.mp m with m | m
      · exact ⟨st.plS fo (.inr m), st.plH a (.inr m)⟩
      · obtain ⟨i, ds, h1, h2⟩ := of_ownA m
        obtain ⟨z1, z2, _⟩ := st.muAt fo (i := i) (by rw [h1]; rfl) h2
        exact ⟨z1, z2⟩
  have up : ∀ a o, H1 a = some o → upd H1 p (.lst []) a = some o := fun a o q => by rw [upd_ne (ne_of_none q hp)]; exact q
  have sub : Ex S1 (upd H1 p (.lst [])) := fun a o q => up a o (st.sub a o q)
  have len : (wipe σ vs).length = (wipeE (E.map xoS) vs).length := by rw [wipe_length, wipeE_len, List.length_map]; exact st.len
  have mux : ∀ i, i ∉ vs → (at_ (wipeE (E.map xoS) vs) i).mu = true → (at_ E i).mu = true := fun i hi m => by
    rw [wipeE_at, if_neg hi, map_at] at m
    cases q : at_ E i <;> rw [q] at m <;> first | rfl | exact m
  refine ⟨⟨sub, Ex.refl S1, fun a o q => .inl q, fun a o q _ => q, fun a q => ?_, len, fun i => ?_, fun i j a m1 m2 v1 v2 => ?_⟩, ⟨sub, fun a q => ?_⟩, Ex.refl S1, fun a o q => .inl q, fun a o q _ => up a o q, ⟨[], upd_same, .nil⟩, st.S_none hp, fun m => ?_, hp⟩
  · obtain ⟨_, o, z⟩ := mutA a q
    exact ⟨o, up a o z⟩
  · rw [wipeE_at, wipe_get]
    by_cases hi : i ∈ vs
    · rw [if_pos hi]
      trivial
    · rw [if_neg hi, if_neg hi, map_at]
      have z := st.slot i
      cases q : at_ E i with
      | un => trivial
      | im d => rw [q] at z; exact z
      | ow ds =>
        rw [q] at z
        obtain ⟨a, ws, q1, q2, q3, q4, q5⟩ := z
        exact ⟨a, ws, q1, List.mem_append_right _ (mem_ownA q q1), up _ _ q2, q5⟩
      | xo ds =>
        rw [q] at z
        obtain ⟨a, ws, q1, q2, q3, q4⟩ := z
        exact ⟨a, ws, q1, List.mem_append_left _ q2, up _ _ q3, q4⟩
      | pl k ds =>
        rw [q] at z
        obtain ⟨a, ws, q1, q2, q3, q4⟩ := z
        exact ⟨a, ws, q1, q2, up _ _ q3, q4⟩
      | se k c ns ds =>
        rw [q] at z
        obtain ⟨a, dx, ws, q1, q2, q3, q4⟩ := z
        exact ⟨a, dx, ws, q1, q2, up _ _ q3, q4⟩
  · by_cases hi : i ∈ vs
    · rw [wipeE_at, if_pos hi] at m1
      cases m1
    · by_cases hj : j ∈ vs
      · rw [wipeE_at, if_pos hj] at m2
        cases m2
      · rw [wipe_get, if_neg hi] at v1
        rw [wipe_get, if_neg hj] at v2
        exact st.sep i j a (mux i hi m1) (mux j hj m2) v1 v2
  · obtain ⟨z1, o, z⟩ := mutA a q
    exact ⟨z1, o, up a o z⟩
  · obtain ⟨_, o, z⟩ := mutA p m
    rw [hp] at z
    cases z
/-- out of the block -/
theorem lc_end {F : Fr} {S1 H1 S H : Hp} {σ : L2.St} {E Z : Env} {acc : List D} {p : Addr} {vs : List Nat} (fo : FrOk F) (st : Sto F S1 H1 σ E) (I : LcI F S1 H1 (F.xs ++ ownA σ E) p (wipe σ vs) S H Z acc) (hv : (vs.all fun v => !(at_ E v).mu) = true) :
    Sto F S H σ (restE E (backZ E Z) vs) ∧ NoSl σ (restE E (backZ E Z) vs) p := by
  have lz : E.length = Z.length := by
    have := I.st.len
    rw [wipe_length] at this
    rw [← st.len]
    exact this
  have lb := backZ_len E Z lz
  have imS : ∀ i, i ∈ vs → (at_ E i).mu = false := fun i hi => by
    have z := List.all_eq_true.mp hv i hi
    cases q : (at_ E i).mu with
    | false => rfl
    | true => rw [q] at z; cases z
  have at' : ∀ i, at_ (restE E (backZ E Z) vs) i = if i ∈ vs then at_ E i else backS (at_ E i) (at_ Z i) := fun i => by
    rw [restE_at E (backZ E Z) lb.symm, backZ_at E Z i lz]
  have σw : ∀ i, i ∉ vs → (wipe σ vs)[i]? = σ[i]? := fun i hi => by rw [wipe_get, if_neg hi]
  -- a slot's kind behind the block
  have slot : ∀ i, SlOk F S H (at_ (restE E (backZ E Z) vs) i) σ[i]? := fun i => by
    rw [at']
    have z1 := st.slot i
    by_cases hi : i ∈ vs
    · rw [if_pos hi]
      have m := imS i hi
      cases q : at_ E i with
      | un => trivial
      | im d =>
        rw [q] at z1
        obtain ⟨v, q1, q2⟩ := z1
        exact ⟨v, q1, q2.mono I.ex⟩
      | _ => rw [q] at m; cases m
    · rw [if_neg hi]
      have z2 := I.st.slot i
      rw [σw i hi] at z2
      cases q2 : at_ Z i with
      | un => cases at_ E i <;> trivial
      | im d =>
        rw [q2] at z2
        cases at_ E i <;> exact z2
      | ow ds => cases at_ E i <;> trivial
      | xo ds =>
        rw [q2] at z2
        obtain ⟨a, ws, r1, r2, r3, r4⟩ := z2
        have nS := I.st.plS I.fo (a := a) (.inr r2)
        cases q : at_ E i with
        | ow es =>
          rw [q] at z1
          obtain ⟨b, us, p1, p2, p3, p4, p5⟩ := z1
          rw [r1] at p1
          cases p1
          exact ⟨a, ws, r1, r3, p3, nS, r4⟩
        | xo es =>
          rw [q] at z1
          obtain ⟨b, us, p1, p2, p3, p4⟩ := z1
          rw [r1] at p1
          cases p1
          exact ⟨a, ws, r1, p2, r3, r4⟩
        | _ => trivial
      | pl k ds =>
        rw [q2] at z2
        cases at_ E i <;> exact z2
      | se k c ns ds =>
        rw [q2] at z2
        cases at_ E i <;> exact z2
  have mu2 : ∀ i, (at_ (restE E (backZ E Z) vs) i).mu = true → i ∉ vs ∧ (at_ Z i).mu = true ∧ ∀ a, σ[i]? = some (some (.ref a)) → ∃ o, H1 a = some o := fun i m => by
    rw [at'] at m
    by_cases hi : i ∈ vs
    · rw [if_pos hi, imS i hi] at m
      cases m
    · rw [if_neg hi] at m
      refine ⟨hi, ?_, fun a ha => ?_⟩
      · cases q2 : at_ Z i <;> rw [q2] at m <;> cases q : at_ E i <;> rw [q] at m <;> first | rfl | exact m
      · have z2 := I.st.slot i
        rw [σw i hi] at z2
        cases q2 : at_ Z i with
        | pl k ds =>
          rw [q2] at z2
          obtain ⟨b, ws, r1, r2, _⟩ := z2
          rw [ha] at r1
          cases r1
          exact st.plH _ (.inl (List.mem_of_getElem? r2))
        | se k c ns ds =>
          rw [q2] at z2
          obtain ⟨b, dx, ws, r1, r2, _⟩ := z2
          rw [ha] at r1
          cases r1
          exact st.plH _ (.inl (List.mem_of_getElem? r2))
        | xo ds =>
          rw [q2] at m
          cases q : at_ E i with
          | ow es => exact (st.muAt fo (i := i) (by rw [q]; rfl) ha).2.1
          | xo es => exact (st.muAt fo (i := i) (by rw [q]; rfl) ha).2.1
          | _ => rw [q] at m; cases m
        | ow ds => rw [q2] at m; cases q : at_ E i <;> rw [q] at m <;> cases m
        | un => rw [q2] at m; cases q : at_ E i <;> rw [q] at m <;> cases m
        | im d => rw [q2] at m; cases q : at_ E i <;> rw [q] at m <;> cases m
  refine ⟨⟨I.st.sub, st.sub0.trans I.ex, fun a o q => ?_, fun a o q n => ?_, fun a q => ?_, by rw [restE_len, lb]; exact st.len, slot, fun i j a m1 m2 v1 v2 => ?_⟩, fun i m q => ?_⟩
  · rcases I.new a o q with z | z
    · exact st.new a o z
    · exact .inr (st.H0_none z)
  · refine I.keep a o (st.keep a o q n) fun m => ?_
    rcases m with m | m
    · exact n (.inl m)
    · rcases List.mem_append.mp m with m | m
      · exact n (.inr m)
      · obtain ⟨i, ds, h1, h2⟩ := of_ownA m
        obtain ⟨_, _, z⟩ := st.muAt fo (i := i) (by rw [h1]; rfl) h2
        rcases z with z | z
        · rw [q] at z
          cases z
        · exact n z
  · exact I.st.plH a (q.imp id fun z => List.mem_append_left _ z)
  · obtain ⟨i1, i2, _⟩ := mu2 i m1
    obtain ⟨j1, j2, _⟩ := mu2 j m2
    exact I.st.sep i j a i2 j2 (by rw [σw i i1]; exact v1) (by rw [σw j j1]; exact v2)
  · obtain ⟨_, _, z⟩ := mu2 i m
    obtain ⟨o, z⟩ := z p q
    rw [I.fr] at z
    cases z
theorem simL_lc {wi : TI} {it : M (List D)} {g : TG} {tt : TT} {te : TE} {vs : List Nat} {bd : D → Env → Option Env} {mt : M Bool} {me : M R} (si : SimI K W wi it) (sg : SimG K g bd) (kg : KeepG g vs)
    (stt : SimT K (fun _ _ _ _ => False) tt mt) (ste : SimE K (fun _ _ _ _ => False) te me) : SimL K W (tLc wi g tt te vs) (mLc it vs bd mt me) := ⟨fun F S0 H σ E Q hK fo st h => by
  refine si.run F S0 H σ E (fun _ _ => True) (fun _ _ _ => True) _ hK fo st ?_
  unfold mLc mB at h
  cases e : it E with
  | stuck => rw [e] at h; exact h
  | exc x E' => rw [e] at h; exact fun S' H' cls d ex st' rx => h S' H' cls d ex st' rx
  | ok ds E1 =>
    rw [e] at h
    dsimp only at h
    intro J S1 H1 ex1 st1 rd p hp
    cases hv : (vs.all fun v => !(at_ E1 v).mu) with
    | false => rw [hv] at h; exact h.elim
    | true =>
      rw [hv] at h
      dsimp only at h
      have key : ∃ acc Z, lcN bd mt me vs ds [] (wipeE (E1.map xoS) vs) = .ok acc Z := by
        cases q : lcN bd mt me vs ds [] (wipeE (E1.map xoS) vs) with
        | ok acc Z => exact ⟨acc, Z, rfl⟩
        | exc x Z => rw [q] at h; exact h.elim
        | stuck => rw [q] at h; exact h.elim
      obtain ⟨accF, ZF, ek⟩ := key
      rw [ek] at h
      refine ⟨fun i m H => m = ds.length - i ∧ i ≤ ds.length ∧ ∃ S Z acc, LcI F S1 H1 (F.xs ++ ownA σ E1) p (wipe σ vs) S H Z acc ∧ lcN bd mt me vs (ds.drop i) acc Z = .ok accF ZF, ⟨ds.length, by simp, Nat.zero_le _, S1, _, [], lc_start fo st1 hp vs, ek⟩, ?_⟩
      rintro i m H ⟨em, hi, S, Z, acc, I, q⟩
      obtain ⟨r1, r2⟩ := rd i H S I.ex I.st.sub
      by_cases hlt : i < ds.length
      · have ed : ds[i]? = some ds[i] := List.getElem?_eq_getElem hlt
        obtain ⟨g1, g2⟩ := r2 _ ed
        refine .inr ⟨g1, fun H' => ∃ S Z acc, LcI F S1 H1 (F.xs ++ ownA σ E1) p (wipe σ vs) S H' Z acc ∧ lcN bd mt me vs (ds.drop (i + 1)) acc Z = .ok accF ZF, fun H' z => ⟨ds.length - (i + 1), by omega, rfl, hlt, z⟩, fun x H3 y => ?_⟩
        obtain ⟨z1, z2⟩ := g2 x H3 y
        subst z1
        have ec : ds.drop i = ds[i] :: ds.drop (i + 1) := List.drop_eq_getElem_cons hlt
        rw [ec] at q
        exact lc_turn hK I sg kg stt ste z2 q (by intro z; cases z) (by intro x E z; cases z) fun S' H' Z' acc' I' q' => ⟨S', Z', acc', I', q'⟩
      · have ei : i = ds.length := by omega
        have ec : ds.drop i = [] := by rw [ei]; exact List.drop_length
        rw [ec] at q
        cases q
        obtain ⟨ws, w1, w2⟩ := I.at_p
        obtain ⟨s1, s2⟩ := lc_end fo st1 I hv
        exact .inl ⟨r1 ei, h S H p ws (ex1.trans I.ex) s1 w1 w2 (st1.H0_none hp) I.nS s2⟩⟩
end
end Pu
set_option Elab.async false
set_option linter.all false
set_option maxRecDepth 100000
set_option maxHeartbeats 4000000
/-! Pu: syntax, its reading and its meaning in one; short names for what a program prints. -/
namespace Pu
open PySem PySem.Spec PyProof.Rows L2
structure QE (X : Cx) (W : WX) (e : Expr) (t : TE) (m : M R) : Prop where
  pe : PE X e t
  sim : SimE X.K W t m
structure QL (X : Cx) (W : WX) (e : Expr) (t : TE) (m : M (List D)) : Prop where
  pe : PE X e t
  sim : SimL X.K W t m
structure QT (X : Cx) (W : WX) (e : Expr) (t : TT) (m : M Bool) : Prop where
  pt : PT X e t
  sim : SimT X.K W t m
structure QW (X : Cx) (W : WX) (e : Expr) (t : TT) (m : M Bool) : Prop where
  pw : PW X e t
  sim : SimT X.K W t m
structure QA (X : Cx) (W : WX) (es : List Expr) (t : TA) (m : M (List R)) : Prop where
  pa : PA X es t
  sim : SimA X.K W t m
structure QO (X : Cx) (W : WX) (e : Option Expr) (t : TO) (m : M (Option Int)) : Prop where
  po : PO X e t
  sim : SimO X.K W t m
structure QI (X : Cx) (W : WX) (tg e : Expr) (t : TI) (m : M (List D)) : Prop where
  pi : PI X tg e t
  sim : SimI X.K W t m
structure QG (X : Cx) (e : Expr) (t : TG) (b : D → Env → Option Env) : Prop where
  pg : PG X e t
  sim : SimG X.K t b
structure QGs (X : Cx) (es : List Expr) (t : TGs) (n : Nat) (b : List D → Env → Option Env) : Prop where
  pg : PGs X es t
  sim : SimGs X.K t n b
structure QS (X : Cx) (W : WX) (s : Stmt) (t : TS) (m : M Fl) : Prop where
  ps : PS X s t
  sim : SimS X.K W t m
structure QSs (X : Cx) (W : WX) (s : List Stmt) (t : TS) (m : M Fl) : Prop where
  ps : PSs X s t
  sim : SimS X.K W t m
/-- what is to hold at each block of a comprehension -/
abbrev Blk (X : Cx) (scope : Scope) (P : Cx → Prop) : Prop := ∀ (s : Shared) (H : Hp) (C : Addr) (cl : List (Str × Addr)) (fp : List Addr), P (X.blk s H scope (compEnvC scope cl C X.env) fp)
abbrev W0 : WX := fun _ _ _ _ => False
section
variable {X : Cx} {W : WX} {a b c e o : Expr} {es : List Expr} {ta tb te tc : TE} {ma mb me : M R} {tt tu : TT} {mt mu mc : M Bool} {pos : Pos} {tA : TA} {mA : M (List R)}
theorem q_var (i : Nat) {x : Str} (hN : X.N[i]? = some x := by rfl) (hv : Vis X.env.scope x := by first | exact Or.inl rfl | exact Or.inr (Or.inl rfl) | exact Or.inr (Or.inr rfl)) (hd : (x == ("__debug__" : Str)) = false := by decide) (hcd : (x == ("__classdict__" : Str)) = false := by decide) : QE X W (.Name x pos) (tVar i) (mVar i) := ⟨pe_var hN hv hd hcd, sim_var i⟩
theorem q_fix (i : Nat) {x : Str} (hN : X.N[i]? = some x := by rfl) (hv : Vis X.env.scope x := by first | exact Or.inl rfl | exact Or.inr (Or.inl rfl) | exact Or.inr (Or.inr rfl)) (hd : (x == ("__debug__" : Str)) = false := by decide) (hcd : (x == ("__classdict__" : Str)) = false := by decide) : QE X W (.Name x pos) (tVar i) (mFix i) := ⟨pe_var hN hv hd hcd, sim_fix i⟩
theorem q_int {i : Int} {j} : QE X W (.Constant (.int i) j pos) (tC (.int i)) (mC (.int i)) := ⟨pe_int, sim_int⟩
theorem q_bl {i : Bool} {j} : QE X W (.Constant (.bool i) j pos) (tC (.bl i)) (mC (.bl i)) := ⟨pe_bl, sim_bl⟩
theorem q_non {j} : QE X W (.Constant .none j pos) (tC .non) (mC .non) := ⟨pe_non, sim_non⟩
theorem q_str {i : Str} {j} : QE X W (.Constant (.str i) j pos) (tC (.str i)) (mC (.str i)) := ⟨pe_str, sim_str⟩
/-- a name of the module that holds an int -/
theorem q_gint {x : Str} {i : Int} (hm : ∃ t, X.mg x = some (.int i t)) (hg : Gl X x := by rfl) (hd : (x == ("__debug__" : Str)) = false := by decide) : QE X W (.Name x pos) (tC (.int i)) (mC (.int i)) := by
  obtain ⟨t, ht⟩ := hm
  exact ⟨pe_glob hg ht ⟨t, rfl⟩ hd, sim_int⟩
/-! ### operators -/
theorem q_add (ha : QE X W a ta ma) (hb : QE X W b tb mb) : QE X W (.BinOp a .Add b pos) (tOp (rI0 fun i j => .int (i + j)) ta tb) (mOp2 oAdd ma mb) := ⟨pe_op op_add ha.pe hb.pe, sim_op2 op2_add ha.sim hb.sim⟩
theorem q_sub (ha : QE X W a ta ma) (hb : QE X W b tb mb) : QE X W (.BinOp a .Sub b pos) (tOp (rI0 fun i j => .int (i - j)) ta tb) (mOp2 oSub ma mb) := ⟨pe_op op_sub ha.pe hb.pe, sim_op2 op2_sub ha.sim hb.sim⟩
theorem q_mul (ha : QE X W a ta ma) (hb : QE X W b tb mb) : QE X W (.BinOp a .Mult b pos) (tOp (rI CMulP fun i j => .int (i * j)) ta tb) (mOp2 oMul ma mb) := ⟨pe_op op_mulP ha.pe hb.pe, sim_op2 op2_mul ha.sim hb.sim⟩
theorem q_fdiv (ha : QE X W a ta ma) (hb : QE X W b tb mb) : QE X W (.BinOp a .FloorDiv b pos) (tOp (rI CDivP fun i j => .int (i.fdiv j)) ta tb) (mOp2 oFdiv ma mb) := ⟨pe_op op_fdivP ha.pe hb.pe, sim_op2 op2_fdiv ha.sim hb.sim⟩
theorem q_mod (ha : QE X W a ta ma) (hb : QE X W b tb mb) : QE X W (.BinOp a .Mod b pos) (tOp (rI (fun _ j => j ≠ 0) fun i j => .int (i.fmod j)) ta tb) (mOp2 oMod ma mb) := ⟨pe_op op_modN ha.pe hb.pe, sim_op2 op2_mod ha.sim hb.sim⟩
theorem q_neg (ha : QE X W a ta ma) : QE X W (.UnaryOp .USub a pos) (tUn (rU fun i => .int (-i)) ta) (mOp1 oNeg ma) := ⟨pe_un un_neg ha.pe, sim_op1 op1_neg ha.sim⟩
theorem q_lt (ha : QE X W a ta ma) (hb : QE X W b tb mb) : QE X W (.Compare a [.Lt] [b] pos) (tOp (rI0 fun i j => .bl (decide (i < j))) ta tb) (mOp2 oLt ma mb) := ⟨pe_cmpR op_lt ha.pe hb.pe (nomark _), sim_op2 op2_lt ha.sim hb.sim⟩
theorem q_le (ha : QE X W a ta ma) (hb : QE X W b tb mb) : QE X W (.Compare a [.LtE] [b] pos) (tOp (rI0 fun i j => .bl (decide (i ≤ j))) ta tb) (mOp2 oLe ma mb) := ⟨pe_cmpR op_le ha.pe hb.pe (nomark _), sim_op2 op2_le ha.sim hb.sim⟩
theorem q_gt (ha : QE X W a ta ma) (hb : QE X W b tb mb) : QE X W (.Compare a [.Gt] [b] pos) (tOp (rI0 fun i j => .bl (decide (j < i))) ta tb) (mOp2 oGt ma mb) := ⟨pe_cmpR op_gt ha.pe hb.pe (nomark _), sim_op2 op2_gt ha.sim hb.sim⟩
theorem q_ge (ha : QE X W a ta ma) (hb : QE X W b tb mb) : QE X W (.Compare a [.GtE] [b] pos) (tOp (rI0 fun i j => .bl (decide (j ≤ i))) ta tb) (mOp2 oGe ma mb) := ⟨pe_cmpR op_ge ha.pe hb.pe (nomark _), sim_op2 op2_ge ha.sim hb.sim⟩
theorem q_eqS (ha : QE X W a ta ma) (hb : QE X W b tb mb) : QE X W (.Compare a [.Eq] [b] pos) (tOp rEq ta tb) (mOp2 oEqS ma mb) := ⟨pe_cmpR op_eq ha.pe hb.pe (nomark _), sim_op2 op2_eqS ha.sim hb.sim⟩
theorem q_neS (ha : QE X W a ta ma) (hb : QE X W b tb mb) : QE X W (.Compare a [.NotEq] [b] pos) (tOp rNe ta tb) (mOp2 oNeS ma mb) := ⟨pe_cmpR op_ne ha.pe hb.pe (nomark _), sim_op2 op2_neS ha.sim hb.sim⟩
theorem q_eqD (hu : X.A.units + 64 < cLine) (ha : QE X W a ta ma) (hb : QE X W b tb mb) : QE X W (.Compare a [.Eq] [b] pos) (tOp (rEqD X.K) ta tb) (mOp2 oEqD ma mb) := ⟨pe_cmpR (op_eqD hu) ha.pe hb.pe (nomark _), sim_op2K op2_eqD ha.sim hb.sim⟩
theorem q_neD (hu : X.A.units + 64 < cLine) (ha : QE X W a ta ma) (hb : QE X W b tb mb) : QE X W (.Compare a [.NotEq] [b] pos) (tOp (rNeD X.K) ta tb) (mOp2 oNeD ma mb) := ⟨pe_cmpR (op_neD hu) ha.pe hb.pe (nomark _), sim_op2K op2_neD ha.sim hb.sim⟩
/-! ### tests -/
theorem t_lt (ha : QE X W a ta ma) (hb : QE X W b tb mb) : QT X W (.Compare a [.Lt] [b] pos) (tTest (tOp (rI0 fun i j => .bl (decide (i < j))) ta tb)) (mBool (mOp2 oLt ma mb)) := ⟨pt_cmpR op_lt ha.pe hb.pe (nomark _), simT_test (sim_op2 op2_lt ha.sim hb.sim)⟩
theorem t_le (ha : QE X W a ta ma) (hb : QE X W b tb mb) : QT X W (.Compare a [.LtE] [b] pos) (tTest (tOp (rI0 fun i j => .bl (decide (i ≤ j))) ta tb)) (mBool (mOp2 oLe ma mb)) := ⟨pt_cmpR op_le ha.pe hb.pe (nomark _), simT_test (sim_op2 op2_le ha.sim hb.sim)⟩
theorem t_gt (ha : QE X W a ta ma) (hb : QE X W b tb mb) : QT X W (.Compare a [.Gt] [b] pos) (tTest (tOp (rI0 fun i j => .bl (decide (j < i))) ta tb)) (mBool (mOp2 oGt ma mb)) := ⟨pt_cmpR op_gt ha.pe hb.pe (nomark _), simT_test (sim_op2 op2_gt ha.sim hb.sim)⟩
theorem t_ge (ha : QE X W a ta ma) (hb : QE X W b tb mb) : QT X W (.Compare a [.GtE] [b] pos) (tTest (tOp (rI0 fun i j => .bl (decide (j ≤ i))) ta tb)) (mBool (mOp2 oGe ma mb)) := ⟨pt_cmpR op_ge ha.pe hb.pe (nomark _), simT_test (sim_op2 op2_ge ha.sim hb.sim)⟩
theorem t_eqS (ha : QE X W a ta ma) (hb : QE X W b tb mb) : QT X W (.Compare a [.Eq] [b] pos) (tTest (tOp rEq ta tb)) (mBool (mOp2 oEqS ma mb)) := ⟨pt_cmpR op_eq ha.pe hb.pe (nomark _), simT_test (sim_op2 op2_eqS ha.sim hb.sim)⟩
theorem t_neS (ha : QE X W a ta ma) (hb : QE X W b tb mb) : QT X W (.Compare a [.NotEq] [b] pos) (tTest (tOp rNe ta tb)) (mBool (mOp2 oNeS ma mb)) := ⟨pt_cmpR op_ne ha.pe hb.pe (nomark _), simT_test (sim_op2 op2_neS ha.sim hb.sim)⟩
theorem t_eqD (hu : X.A.units + 64 < cLine) (ha : QE X W a ta ma) (hb : QE X W b tb mb) : QT X W (.Compare a [.Eq] [b] pos) (tTest (tOp (rEqD X.K) ta tb)) (mBool (mOp2 oEqD ma mb)) := ⟨pt_cmpR (op_eqD hu) ha.pe hb.pe (nomark _), simT_test (sim_op2K op2_eqD ha.sim hb.sim)⟩
theorem t_neD (hu : X.A.units + 64 < cLine) (ha : QE X W a ta ma) (hb : QE X W b tb mb) : QT X W (.Compare a [.NotEq] [b] pos) (tTest (tOp (rNeD X.K) ta tb)) (mBool (mOp2 oNeD ma mb)) := ⟨pt_cmpR (op_neD hu) ha.pe hb.pe (nomark _), simT_test (sim_op2K op2_neD ha.sim hb.sim)⟩
theorem t_val (ha : QE X W a ta ma) (he : ∀ whole, isTrue a X.env whole = (whole >>= fun v => standAt a.pos >>= fun _ => holding [v] (truthy v)) := by intro _; rfl) : QT X W a (tB ta) (mBool ma) := ⟨pt_val ha.pe he, simT_B ha.sim⟩
theorem t_not (ha : QT X W a tt mt) : QT X W (.UnaryOp .Not a pos) (tNot tt) (mNotT mt) := ⟨pt_not ha.pt, simT_not ha.sim⟩
theorem w_and1 (ha : QT X W a tt mt) : QW X W (.BoolOp .And [a] pos) tt mt := ⟨pw_and1 ha.pt, ha.sim⟩
theorem w_or1 (ha : QT X W a tt mt) : QW X W (.BoolOp .Or [a] pos) tt mt := ⟨pw_or1 ha.pt, ha.sim⟩
theorem w_and (ha : QT X W a tt mt) (hb : QW X W (.BoolOp .And (b :: es) pos) tu mu) : QW X W (.BoolOp .And (a :: b :: es) pos) (tAnd tt tu) (mAndT mt mu) := ⟨pw_and ha.pt hb.pw, simT_and ha.sim hb.sim⟩
theorem w_or (ha : QT X W a tt mt) (hb : QW X W (.BoolOp .Or (b :: es) pos) tu mu) : QW X W (.BoolOp .Or (a :: b :: es) pos) (tOr tt tu) (mOrT mt mu) := ⟨pw_or ha.pt hb.pw, simT_or ha.sim hb.sim⟩
theorem QW.qt (h : QW X W a tt mt) : QT X W a tt mt := ⟨h.pw.pt, h.sim⟩
theorem q_one {op} (ha : QE X W a ta ma) : QE X W (.BoolOp op [a] pos) ta ma := ⟨pe_one ha.pe, ha.sim⟩
theorem q_and (ha : QE X W a ta ma) (hb : QE X W (.BoolOp .And (b :: es) pos) tb mb) : QE X W (.BoolOp .And (a :: b :: es) pos) (tAndV ta tb) (mAndV ma mb) := ⟨pe_and ha.pe hb.pe, sim_andV ha.sim hb.sim⟩
theorem q_or (ha : QE X W a ta ma) (hb : QE X W (.BoolOp .Or (b :: es) pos) tb mb) : QE X W (.BoolOp .Or (a :: b :: es) pos) (tOrV ta tb) (mOrV ma mb) := ⟨pe_or ha.pe hb.pe, sim_orV ha.sim hb.sim⟩
theorem q_not (ha : QE X W a ta ma) : QE X W (.UnaryOp .Not a pos) (tNotV ta) (mNotV ma) := ⟨pe_not ha.pe, sim_notV ha.sim⟩
theorem q_if (hc : QT X W c tt mt) (ha : QE X W a ta ma) (hb : QE X W b tb mb) : QE X W (.IfExp c a b pos) (tIf tt ta tb) (mIfE mt ma mb) := ⟨pe_ifExp hc.pt ha.pe hb.pe, sim_ifE hc.sim ha.sim hb.sim⟩
/-! ### arguments, displays, items, slices -/
theorem a_nil : QA X W [] tNil mA0 := ⟨pa_nil, simA_nil⟩
theorem a_cons (ha : QE X W e te me) (hr : QA X W es tA mA) (hs : starEach (e :: es) X.env = (false, eval e X.env) :: starEach es X.env := by rfl) : QA X W (e :: es) (tCons te tA) (mA1 me mA) := ⟨pa_cons ha.pe hr.pa hs, simA_cons ha.sim hr.sim⟩
theorem l_lst (h : QA X W es tA mA) : QL X W (.List es pos) (tLst tA) (mLst mA) := ⟨pe_lst h.pa, simL_lst h.sim⟩
theorem q_tup {k} (h : QA X W es tA mA) : QE X W (.Tuple es k pos) (tTup tA) (mTup mA) := ⟨pe_tup h.pa, sim_tup h.sim⟩
theorem q_fz {ml : M (List D)} (h : QL X W e te ml) : QE X W e te (mFz ml) := ⟨h.pe, sim_fz h.sim⟩
theorem q_ixL (ha : QE X W a ta ma) (hb : QE X W b tb mb) (hs : PlainIx b := by exact fun _ _ => rfl) : QE X W (.Subscript a b pos) (tOp (rIxL X.K) ta tb) (mOp2 oIxL ma mb) := ⟨pe_ix ix_list ha.pe hb.pe hs, sim_op2K op2_ixL ha.sim hb.sim⟩
theorem q_ixT (ha : QE X W a ta ma) (hb : QE X W b tb mb) (hs : PlainIx b := by exact fun _ _ => rfl) : QE X W (.Subscript a b pos) (tOp (rIxT X.K) ta tb) (mOp2 oIxT ma mb) := ⟨pe_ix ix_tup ha.pe hb.pe hs, sim_op2K op2_ixT ha.sim hb.sim⟩
theorem o_no : QO X W none tNoPart mNoPart := ⟨po_none, simO_no⟩
theorem o_some (h : QE X W e te me) : QO X W (some e) (tPart te) (mPart me) := ⟨po_some h.pe, simO_part h.sim⟩
theorem l_sl {lo hi : Option Expr} {tl th : TO} {ml mh : M (Option Int)} {p2 : Pos} (he : QE X W e te me) (hl : QO X W lo tl ml) (hh : QO X W hi th mh) : QL X W (.Subscript e (.Slice lo hi none p2) pos) (tSl (rSlL X.K) te tl th) (mSlL me ml mh) := ⟨pe_slice sl_list he.pe hl.po hh.po, simL_sl he.sim hl.sim hh.sim⟩
theorem q_slT {lo hi : Option Expr} {tl th : TO} {ml mh : M (Option Int)} {p2 : Pos} (he : QE X W e te me) (hl : QO X W lo tl ml) (hh : QO X W hi th mh) : QE X W (.Subscript e (.Slice lo hi none p2) pos) (tSl (rSlA X.K) te tl th) (mSlT me ml mh) := ⟨pe_slice sl_tupA he.pe hl.po hh.po, sim_slT he.sim hl.sim hh.sim⟩
theorem l_rev {k : Nat} {p1 p2 p3 : Pos} (he : QE X W e te me) : QL X W (.Subscript e (.Slice none none (some (.UnaryOp .USub (.Constant (.int 1) k p1) p2)) p3) pos) (tRevL X.K te) (mRev me) := ⟨pe_revL he.pe, simL_rev he.sim⟩
theorem l_cat (ha : QE X W a ta ma) (hb : QE X W b tb mb) : QL X W (.BinOp a .Add b pos) (tOp rCat ta tb) (mL2 oCat ma mb) := ⟨pe_op op_cat ha.pe hb.pe, simL_op2 op2_cat ha.sim hb.sim⟩
theorem l_rep (ha : QE X W a ta ma) (hb : QE X W b tb mb) : QL X W (.BinOp a .Mult b pos) (tOp rRep ta tb) (mL2 oRep ma mb) := ⟨pe_op op_rep ha.pe hb.pe, simL_op2 op2_rep ha.sim hb.sim⟩
/-! ### fields -/
theorem q_fld {f : Str} {cs : List Str} (hc : ∀ c ∈ cs, Cls X.K (He.ga X.K c) ∧ NoAttr X.K (He.ga X.K c) f) (he : QE X W e te me) (hb : attributeBase e f X.env (eval e X.env) = eval e X.env := by rfl) : QE X W (.Attribute e f pos) (tFld X.K te f) (mFld cs f me) := ⟨pe_fld he.pe hb, sim_fld hc he.sim⟩
/-! ### built-ins -/
section
variable {x : Str} {pn : Pos}
theorem q_len (hm : X.mg "len" = none) (ha : QA X W (e :: es) tA mA) (hg : Gl X "len" := by rfl) (he : starEach (e :: es) X.env = (false, eval e X.env) :: starEach es X.env := by rfl) (hpl : (backTo pos (starEach es X.env)).any (·.1) = false := by rfl) : QE X W (.Call (.Name "len" pn) (e :: es) [] pos) (tCB (rLen2 X.K) tA) (mCB oLen mA) :=
  ⟨pe_callB call_len_seq hg hm boot_len ha.pa (by decide) (by decide) he hpl, sim_cb opc_len ha.sim⟩
theorem q_abs (hm : X.mg "abs" = none) (ha : QA X W (e :: es) tA mA) (hg : Gl X "abs" := by rfl) (he : starEach (e :: es) X.env = (false, eval e X.env) :: starEach es X.env := by rfl) (hpl : (backTo pos (starEach es X.env)).any (·.1) = false := by rfl) : QE X W (.Call (.Name "abs" pn) (e :: es) [] pos) (tCB (fun xs H Q => ∃ i, xs = [.int i] ∧ Q (.int (if i < 0 then -i else i)) H) tA) (mCB oAbs mA) :=
  ⟨pe_callB call_abs hg hm boot_abs ha.pa (by decide) (by decide) he hpl, sim_cb opc_abs ha.sim⟩
theorem q_max2 (hm : X.mg "max" = none) (ha : QA X W (e :: es) tA mA) (hcm : X.calm = true := by rfl) (hg : Gl X "max" := by rfl) (he : starEach (e :: es) X.env = (false, eval e X.env) :: starEach es X.env := by rfl) (hpl : (backTo pos (starEach es X.env)).any (·.1) = false := by rfl) : QE X W (.Call (.Name "max" pn) (e :: es) [] pos) (tCB (fun xs H Q => ∃ i j, xs = [.int i, .int j] ∧ Q (.int (if j > i then j else i)) H) tA) (mCB oMax2 mA) :=
  ⟨pe_callB (call_max2 hcm) hg hm (by decide +kernel) ha.pa (by decide) (by decide) he hpl, sim_cb opc_max2 ha.sim⟩
theorem q_min2 (hm : X.mg "min" = none) (ha : QA X W (e :: es) tA mA) (hcm : X.calm = true := by rfl) (hg : Gl X "min" := by rfl) (he : starEach (e :: es) X.env = (false, eval e X.env) :: starEach es X.env := by rfl) (hpl : (backTo pos (starEach es X.env)).any (·.1) = false := by rfl) : QE X W (.Call (.Name "min" pn) (e :: es) [] pos) (tCB (fun xs H Q => ∃ i j, xs = [.int i, .int j] ∧ Q (.int (if j < i then j else i)) H) tA) (mCB oMin2 mA) :=
  ⟨pe_callB (call_min2 hcm) hg hm (by decide +kernel) ha.pa (by decide) (by decide) he hpl, sim_cb opc_min2 ha.sim⟩
theorem q_gcd (hm : X.mg "gcd" = some (.builtin "math.gcd")) (ha : QA X W (e :: es) tA mA) (hg : Gl X "gcd" := by rfl) (he : starEach (e :: es) X.env = (false, eval e X.env) :: starEach es X.env := by rfl) (hpl : (backTo pos (starEach es X.env)).any (·.1) = false := by rfl) : QE X W (.Call (.Name "gcd" pn) (e :: es) [] pos) (tCB rGcd tA) (mCB oGcd mA) :=
  ⟨pe_callBfun cr_gcd hg hm ha.pa (by decide) he hpl, sim_cb (r := fun _ => rGcd) opc_gcd ha.sim⟩
theorem q_toint (hm : X.mg "int" = none) (ha : QA X W (e :: es) tA mA) (hg : Gl X "int" := by rfl) (he : starEach (e :: es) X.env = (false, eval e X.env) :: starEach es X.env := by rfl) (hpl : (backTo pos (starEach es X.env)).any (·.1) = false := by rfl) : QE X W (.Call (.Name "int" pn) (e :: es) [] pos) (tCB (fun xs H Q => (∃ i, xs = [.int i] ∧ Q (.int i) H) ∨ ∃ k, xs = [.bl k] ∧ Q (.int (if k then 1 else 0)) H) tA) (mCB oInt mA) :=
  ⟨pe_callTy call_int1 hg hm (by decide +kernel) ha.pa (by decide) (by decide) he hpl, sim_cb opc_int ha.sim⟩
theorem q_sum (hm : X.mg "sum" = none) (ha : QA X W (e :: es) tA mA) (hcm : X.calm = true := by rfl) (hg : Gl X "sum" := by rfl) (he : starEach (e :: es) X.env = (false, eval e X.env) :: starEach es X.env := by rfl) (hpl : (backTo pos (starEach es X.env)).any (·.1) = false := by rfl) : QE X W (.Call (.Name "sum" pn) (e :: es) [] pos) (tCB (rSum X.K) tA) (mCB oSum mA) :=
  ⟨pe_callB (cr_sum hcm) hg hm (by decide +kernel) ha.pa (by decide) (by decide) he hpl, sim_cb opc_sum ha.sim⟩
theorem l_list (hm : X.mg "list" = none) (ha : QA X W (e :: es) tA mA) (hg : Gl X "list" := by rfl) (he : starEach (e :: es) X.env = (false, eval e X.env) :: starEach es X.env := by rfl) (hpl : (backTo pos (starEach es X.env)).any (·.1) = false := by rfl) : QL X W (.Call (.Name "list" pn) (e :: es) [] pos) (tCB (rListOf X.K) tA) (mCL oListOf mA) :=
  ⟨pe_callTy call_list_of hg hm (by decide +kernel) ha.pa (by decide) (by decide) he hpl, simL_cb opcl_list ha.sim⟩
theorem q_tuple (hm : X.mg "tuple" = none) (ha : QA X W (e :: es) tA mA) (hg : Gl X "tuple" := by rfl) (he : starEach (e :: es) X.env = (false, eval e X.env) :: starEach es X.env := by rfl) (hpl : (backTo pos (starEach es X.env)).any (·.1) = false := by rfl) : QE X W (.Call (.Name "tuple" pn) (e :: es) [] pos) (tCB (rTupOf X.K) tA) (mTupOf mA) :=
  ⟨pe_callTy call_tuple_of hg hm (by decide +kernel) ha.pa (by decide) (by decide) he hpl, sim_tupOf ha.sim⟩
/-- isinstance(e, C): a class, by name -/
theorem q_isiO {c : Str} {f : Kd → Option Bool} {pc : Pos} (hm : X.mg "isinstance" = none) (hmc : X.mg c = some (.ref (He.ga X.K c))) (hf : ∀ k b, f k = some b → PySem.W.kitOne X.K (k.v X.K) (.ref (He.ga X.K c)) = some b ∧ ∀ c', k = .own c' → InsF X.K (He.ga X.K c')) (ha : QE X W e te me)
    (hgc : Gl X c := by rfl) (hdc : (c == ("__debug__" : Str)) = false := by decide) (hg : Gl X "isinstance" := by rfl) (he : starEach [e, .Name c pc] X.env = (false, eval e X.env) :: starEach [.Name c pc] X.env := by rfl) (he2 : starEach [.Name c pc] X.env = (false, eval (.Name c pc) X.env) :: starEach [] X.env := by rfl) (hpl : (backTo pos (starEach [.Name c pc] X.env)).any (·.1) = false := by rfl) :
    QE X W (.Call (.Name "isinstance" pn) [e, .Name c pc] [] pos) (tCB (rIsi X.K) (tCons te (tCons (tC (.ref (He.ga X.K c))) tNil))) (mIsi f me) :=
  ⟨pe_callB call_isi hg hm (by decide +kernel) (pa_cons ha.pe (pa_cons (pe_glob hgc hmc rfl hdc) pa_nil he2) he) (by decide) (by decide) he hpl, sim_isi (.own _) hf ha.sim⟩
theorem q_isiB {T : String} {xT : Str} {f : Kd → Option Bool} {pc : Pos} (hm : X.mg "isinstance" = none) (hmc : X.mg xT = none) (hv : bootBuiltins xT = some (.type T)) (hf : ∀ k b, f k = some b → PySem.W.kitOne X.K (k.v X.K) (.type T) = some b ∧ ∀ c', k = .own c' → InsF X.K (He.ga X.K c')) (ha : QE X W e te me)
    (hgc : Gl X xT := by rfl) (hn : xT ≠ "__name__" := by decide) (hdc : (xT == ("__debug__" : Str)) = false := by decide) (hg : Gl X "isinstance" := by rfl) (he : starEach [e, .Name xT pc] X.env = (false, eval e X.env) :: starEach [.Name xT pc] X.env := by rfl) (he2 : starEach [.Name xT pc] X.env = (false, eval (.Name xT pc) X.env) :: starEach [] X.env := by rfl) (hpl : (backTo pos (starEach [.Name xT pc] X.env)).any (·.1) = false := by rfl) :
    QE X W (.Call (.Name "isinstance" pn) [e, .Name xT pc] [] pos) (tCB (rIsi X.K) (tCons te (tCons (tC (.ty T)) tNil))) (mIsi f me) :=
  ⟨pe_callB call_isi hg hm (by decide +kernel) (pa_cons ha.pe (pa_cons (pe_bltn hgc hmc hv rfl hn hdc) pa_nil he2) he) (by decide) (by decide) he hpl, sim_isi (.ty _) hf ha.sim⟩
end
/-! ### own lists -/
section
variable {i : Nat} {x : Str} {px ap : Pos}
theorem q_append (ho : QE X W o (tVar i) (mVar i)) (ha : QA X W [e] tA mA)
    (hbase : attributeBase o "append" X.env (eval o X.env) = eval o X.env := by rfl)
    (hfew : ((backTo pos (starEach [e] X.env)).all (fun x => !x.1) && (backToKw pos (keywordEach [] X.env)).all (fun x => x.1.isSome) && decide ([e].length + ([] : List Keyword).length + (if ([] : List Keyword).isEmpty then 0 else 1) < 30)) = true := by rfl)
    (hline : (ap.endLine == pos.line) = true := by rfl) (hs : starEach [e] X.env = (false, eval e X.env) :: starEach [] X.env := by rfl) (hplain : (backTo pos (starEach [] X.env)).any (·.1) = false := by rfl) :
    QE X W (.Call (.Attribute o "append" ap) [e] [] pos) (tBM X.K "list" rAppend (tVar i) tA) (mMut i fApp mA) := ⟨pe_bm PySem.F.plainAttrs_list PySem.F.slot_list_append PySem.F.type_list_append mt_append ho.pe ha.pa hbase hfew hline hs hplain, sim_mut opm_app ha.sim⟩
theorem q_extend (ho : QE X W o (tVar i) (mVar i)) (ha : QA X W [e] tA mA)
    (hbase : attributeBase o "extend" X.env (eval o X.env) = eval o X.env := by rfl)
    (hfew : ((backTo pos (starEach [e] X.env)).all (fun x => !x.1) && (backToKw pos (keywordEach [] X.env)).all (fun x => x.1.isSome) && decide ([e].length + ([] : List Keyword).length + (if ([] : List Keyword).isEmpty then 0 else 1) < 30)) = true := by rfl)
    (hline : (ap.endLine == pos.line) = true := by rfl) (hs : starEach [e] X.env = (false, eval e X.env) :: starEach [] X.env := by rfl) (hplain : (backTo pos (starEach [] X.env)).any (·.1) = false := by rfl) :
    QE X W (.Call (.Attribute o "extend" ap) [e] [] pos) (tBM X.K "list" rExtend (tVar i) tA) (mMut i fExt mA) := ⟨pe_bm PySem.F.plainAttrs_list PySem.F.slot_list_extend PySem.F.type_list_extend mt_extend ho.pe ha.pa hbase hfew hline hs hplain, sim_mut opm_ext ha.sim⟩
theorem q_popAt (ho : QE X W o (tVar i) (mVar i)) (ha : QA X W [e] tA mA)
    (hbase : attributeBase o "pop" X.env (eval o X.env) = eval o X.env := by rfl)
    (hfew : ((backTo pos (starEach [e] X.env)).all (fun x => !x.1) && (backToKw pos (keywordEach [] X.env)).all (fun x => x.1.isSome) && decide ([e].length + ([] : List Keyword).length + (if ([] : List Keyword).isEmpty then 0 else 1) < 30)) = true := by rfl)
    (hline : (ap.endLine == pos.line) = true := by rfl) (hs : starEach [e] X.env = (false, eval e X.env) :: starEach [] X.env := by rfl) (hplain : (backTo pos (starEach [] X.env)).any (·.1) = false := by rfl) :
    QE X W (.Call (.Attribute o "pop" ap) [e] [] pos) (tBM X.K "list" rPopAt (tVar i) tA) (mMut i fPopAt mA) := ⟨pe_bm PySem.F.plainAttrs_list PySem.F.slot_list_pop PySem.F.type_list_pop mt_popAt ho.pe ha.pa hbase hfew hline hs hplain, sim_mut opm_popAt ha.sim⟩
theorem q_pop (ho : QE X W o (tVar i) (mVar i)) (hbase : attributeBase o "pop" X.env (eval o X.env) = eval o X.env := by rfl) (hline : (ap.endLine == pos.line) = true := by rfl) :
    QE X W (.Call (.Attribute o "pop" ap) [] [] pos) (tBM0 X.K "list" rPop (tVar i)) (mMut i fPop mA0) := ⟨pe_bm0 PySem.F.plainAttrs_list PySem.F.slot_list_pop PySem.F.type_list_pop mt_pop ho.pe hbase hline, sim_mut0 opm_pop⟩
end
/-! ### targets -/
theorem g_name (i : Nat) {x : Str} (hN : X.N.Nodup) (hi : X.N[i]? = some x := by rfl) (hx : Loc X.env.scope x := by first | exact Or.inl rfl | exact Or.inr rfl) (hf : X.fn x = true ∨ X.env.scope.names.lookup x = some .local := by first | exact .inl rfl | exact .inr rfl) : QG X (.Name x pos) (gName i) (setIm i) := ⟨pg_name hN hi hx hf, simG_name i⟩
theorem g_nil : QGs X [] gNil 0 bNil := ⟨pgs_nil, simGs_nil⟩
theorem g_cons {t : TG} {u : TGs} {n : Nat} {b : D → Env → Option Env} {r : List D → Env → Option Env} (h1 : QG X e t b) (h2 : QGs X es u n r) (hs : (assignEach (e :: es) X.env).map (·.2) = assign e X.env :: (assignEach es X.env).map (·.2) := by rfl) : QGs X (e :: es) (gCons t u) (n + 1) (bCons b r) := ⟨pgs_cons h1.pg h2.pg hs, simGs_cons h1.sim h2.sim⟩
theorem g_tup {u : TGs} {n k : Nat} {r : List D → Env → Option Env} (h : QGs X es u n r) (hc : X.calm = true := by rfl) (hn : (assignEach es X.env).length = n := by rfl) (hst : (assignEach es X.env).findIdx? (·.1) = none := by rfl) : QG X (.Tuple es k pos) (gTup X.K n u) (bTup r) := ⟨pg_tup hc h.pg hn hst, simG_tup h.sim⟩
theorem g_fld {i : Nat} {f : Str} {cs : List Str} (hc : ∀ c ∈ cs, Cls X.K (He.ga X.K c) ∧ NoAttr X.K (He.ga X.K c) f) (ho : QE X W o (tVar i) (mVar i)) : QG X (.Attribute o f pos) (gFld X.K (tVar i) f) (setSe cs i f) := ⟨pg_fld ho.pe, simG_fld hc⟩
/-! ### what is walked -/
section
variable {tg : Expr} {pn : Pos}
theorem i_list (h : QE X W e te me) : QI X W tg e (iList X.K te) (mItL me) := ⟨pi_list h.pe, simI_list h.sim⟩
theorem i_tup (h : QE X W e te me) : QI X W tg e (iTup X.K te) (mItT me) := ⟨pi_tup h.pe, simI_tup h.sim⟩
theorem i_rng1 (hm : X.mg "range" = none) (h : QE X W a ta ma) (hg : Gl X "range" := by rfl) (hs : starEach [a] X.env = [(false, eval a X.env)] := by rfl) (hs2 : starEach [a] X.env = (false, eval a X.env) :: starEach [] X.env := by rfl) : QI X W tg (.Call (.Name "range" pn) [a] [] pos) (iRng1 (tCons ta tNil)) (mItR1 ma) :=
  ⟨pi_range1 hg hm (pa_cons h.pe pa_nil hs2) hs, simI_range1 h.sim⟩
theorem i_rng2 (hm : X.mg "range" = none) (h : QE X W a ta ma) (h2 : QE X W b tb mb) (hg : Gl X "range" := by rfl) (hs : starEach [a, b] X.env = [(false, eval a X.env), (false, eval b X.env)] := by rfl) (hs2 : starEach [b] X.env = [(false, eval b X.env)] := by rfl) (hs3 : starEach [a, b] X.env = (false, eval a X.env) :: starEach [b] X.env := by rfl) (hs4 : starEach [b] X.env = (false, eval b X.env) :: starEach [] X.env := by rfl) :
    QI X W tg (.Call (.Name "range" pn) [a, b] [] pos) (iRng2 (tCons ta (tCons tb tNil))) (mItR2 ma mb) := ⟨pi_range2 hg hm (pa_cons h.pe (pa_cons h2.pe pa_nil hs4) hs3) hs hs2, simI_range2 h.sim h2.sim⟩
end
/-! ### statements -/
section
variable {s : Stmt} {ss s1 s2 : List Stmt} {ts tu : TS} {m n : M Fl} {tgt : Expr}
theorem s_nil : QSs X W [] tNext mNx := ⟨pss_nil, simS_nx⟩
theorem s_cons (h1 : QS X W s ts m) (h2 : QSs X W ss tu n) : QSs X W (s :: ss) (tSeq ts tu) (mSeq m n) := ⟨pss_cons h1.ps h2.ps, simS_seq h1.sim h2.sim⟩
theorem s_one (h1 : QS X W s ts m) : QSs X W [s] ts m := ⟨pss_one h1.ps, h1.sim⟩
def mStuck : M Fl := fun _ => .stuck
theorem s_never : QS X W s tNever mStuck := ⟨ps_never, simS_never⟩
theorem s_neverS : QSs X W ss tNever mStuck := ⟨pss_never, simS_never⟩
theorem s_asg {tg : TG} {bd : D → Env → Option Env} (he : QE X W e te me) (hg : QG X tgt tg bd) (hs : swapsWithSole [tgt] e pos.line X.env = pure false := by rfl) (hw : swappedStores [tgt] e X.env = pure none := by rfl) (h1 : (assignEach [tgt] X.env).map (·.2) = [assign tgt X.env] := by rfl) :
    QS X W (.Assign [tgt] e pos) (tAsg te tg) (mAsg me bd) := ⟨ps_asg he.pe hg.pg hs hw h1, simS_asg he.sim hg.sim⟩
theorem s_set (i : Nat) {x : Str} {px : Pos} (hN : X.N.Nodup) (he : QE X W e te me) (hi : X.N[i]? = some x := by rfl) (hx : Loc X.env.scope x := by first | exact Or.inl rfl | exact Or.inr rfl) (hs : swapsWith e (some (.Name x px)) pos.line X.env = pure false := by rfl) (hf : X.fn x = true ∨ X.env.scope.names.lookup x = some .local := by first | exact .inl rfl | exact .inr rfl) :
    QS X W (.Assign [.Name x px] e pos) (tAsg te (gName i)) (mAsg me (setIm i)) := ⟨ps_set hN hi hx he.pe hs hf, simS_asg he.sim (simG_name i)⟩
theorem s_setL (i : Nat) {x : Str} {px : Pos} {ml : M (List D)} (hN : X.N.Nodup) (he : QL X W e te ml) (hi : X.N[i]? = some x := by rfl) (hx : Loc X.env.scope x := by first | exact Or.inl rfl | exact Or.inr rfl) (hs : swapsWith e (some (.Name x px)) pos.line X.env = pure false := by rfl) (hf : X.fn x = true ∨ X.env.scope.names.lookup x = some .local := by first | exact .inl rfl | exact .inr rfl) :
    QS X W (.Assign [.Name x px] e pos) (tAsg te (gName i)) (mAsgL ml i) := ⟨ps_set hN hi hx he.pe hs hf, simS_asgL he.sim⟩
theorem s_par (i j : Nat) {x y : Str} {px py pt : Pos} {kt k2 pt2} (hN : X.N.Nodup) (ha : QE X W a ta ma) (hb : QE X W b tb mb) (hc : X.calm = true := by rfl) (hi : X.N[i]? = some x := by rfl) (hj : X.N[j]? = some y := by rfl) (hij : i ≠ j := by decide)
    (hx : X.env.scope.names.lookup x = some .local := by rfl) (hy : X.env.scope.names.lookup y = some .local := by rfl) (h1 : starEach [a, b] X.env = (false, eval a X.env) :: starEach [b] X.env := by rfl) (h2 : starEach [b] X.env = (false, eval b X.env) :: starEach [] X.env := by rfl)
    (hw : swappedStores [.Tuple [.Name x px, .Name y py] kt pt] (.Tuple [a, b] k2 pt2) X.env = pure (some [x, y]) := by rfl) (hs : swapsWithSole [.Tuple [.Name x px, .Name y py] kt pt] (.Tuple [a, b] k2 pt2) pos.line X.env = pure false := by rfl) :
    QS X W (.Assign [.Tuple [.Name x px, .Name y py] kt pt] (.Tuple [a, b] k2 pt2) pos) (tPar i j (tCons ta (tCons tb tNil))) (mPar i j ma mb) := ⟨ps_par hc hN hi hj hij hx hy (pa_cons ha.pe (pa_cons hb.pe pa_nil h2) h1) hw hs, simS_par ha.sim hb.sim⟩
theorem s_fld {i : Nat} {f : Str} {cs : List Str} {pos' : Pos} (hc : ∀ c ∈ cs, Cls X.K (He.ga X.K c) ∧ NoAttr X.K (He.ga X.K c) f) (ho : QE X W o (tVar i) (mVar i)) (he : QE X W e te me) (hs : swapsWith e (some (.Attribute o f pos')) pos.line X.env = pure false := by rfl) :
    QS X W (.Assign [.Attribute o f pos'] e pos) (sFld X.K (tVar i) te f) (mFldSet cs i f me) := ⟨ps_fld ho.pe he.pe hs, simS_fld hc he.sim⟩
theorem s_sub {i : Nat} {ix : Expr} {ti : TE} {mi : M R} {ps : Pos} (ho : QE X W o (tVar i) (mVar i)) (hi : QE X W ix ti mi) (he : QE X W e te me)
    (ha : ∀ v, assign (.Subscript o ix ps) X.env v = (holding [v] (eval o X.env) >>= fun ov => holding [v, ov] (eval ix X.env) >>= fun iv => standAt ps >>= fun _ => holding [v, ov, iv] (setItem ov iv v) >>= fun _ => release [v, ov, iv] []) := by intro _; rfl)
    (hs : swapsWithSole [.Subscript o ix ps] e pos.line X.env = pure false := by rfl) (hw : swappedStores [.Subscript o ix ps] e X.env = pure none := by rfl) (h1 : (assignEach [.Subscript o ix ps] X.env).map (·.2) = [assign (.Subscript o ix ps) X.env] := by rfl) :
    QS X W (.Assign [.Subscript o ix ps] e pos) (tAsg te (gSub (tVar i) ti rSetL)) (mSetIt i me mi) := ⟨ps_asg he.pe (pg_sub ho.pe hi.pe set_list ha) hs hw h1, simS_setIt he.sim hi.sim⟩
theorem s_ret (he : QE X W e te me) : QS X W (.Return (some e) pos) (tRet te) (mRet me) := ⟨ps_ret he.pe, simS_ret he.sim⟩
theorem s_retL {ml : M (List D)} (he : QL X W e te ml) : QS X W (.Return (some e) pos) (tRet te) (mRetL ml) := ⟨ps_ret he.pe, simS_retL he.sim⟩
theorem s_retN : QS X W (.Return none pos) tRetN (mP (.rt (.im .non))) := ⟨ps_retN, simS_retN⟩
theorem s_expr (he : QE X W e te me) (hs : swapsWith e none pos.line X.env = pure false := by rfl) : QS X W (.Expr e pos) (tDrop te) (mDrop me) := ⟨ps_expr he.pe hs, simS_drop he.sim⟩
theorem s_if (hc : QT X W c tt mt) (ha : QSs X W s1 ts m) (hb : QSs X W s2 tu n) : QS X W (.If c s1 s2 pos) (tIfS tt ts tu) (mIfS mt m n) := ⟨ps_if hc.pt ha.ps hb.ps, simS_if hc.sim ha.sim hb.sim⟩
theorem s_brk : QS X W (.Break pos) tBreak (mP .bk) := ⟨ps_break, simS_bk⟩
theorem s_cont : QS X W (.Continue pos) tCont (mP .ct) := ⟨ps_continue, simS_ct⟩
theorem s_pass : QS X W (.Pass pos) tNext mNx := ⟨ps_pass, simS_nx⟩
theorem s_while (μ : Env → Nat) (hp : PassesOwn (model X.prog X.w) X.A X.env X.xe) (hc : QT X W c tt mt) (hb : QSs X W ss ts m) : QS X W (.While c ss [] pos) (tWhile tt ts) (mWhile μ mt m) := ⟨ps_while hp hc.pt hb.ps, simS_while μ hc.sim hb.sim⟩
theorem s_for {tg : TG} {bd : D → Env → Option Env} {wi : TI} {it : M (List D)} (hp : PassesOwn (model X.prog X.w) X.A X.env X.xe) (hi : QI X W tgt e wi it) (hg : QG X tgt tg bd) (hb : QSs X W ss ts m) (hcm : X.calm = true := by rfl) (hs : ∀ x, foldedSetIterable e X.env x = pure x := by intro _; rfl) :
    QS X W (.For tgt e ss [] pos) (tFor wi tg ts) (mFor it bd m) := ⟨ps_for hp hcm hi.pi hg.pg hb.ps hs, simS_for hi.sim hg.sim hb.sim⟩
theorem sim_aug {K : PySem.W.Frag} {i : Nat} {f : Int → Int → Int} {g : D → D → Option D} (hg : ∀ d e z, g d e = some z → ∃ a b, d = .int a ∧ e = .int b ∧ z = .int (f a b)) (h : SimE K W te me) :
    SimS K W (tAug i te (ipI f)) (fun E => match at_ E i with
      | .im (.int a) => mAsg (mOp2 g (fun E => .ok (.im (.int a)) E) me) (setIm i) E
      | _ => .stuck) := ⟨fun F S H σ E D hK fo st q => by
  have z := st.slot i
  cases e : at_ E i with
  | im d =>
    rw [e] at q z
    cases d with
    | int a =>
      obtain ⟨v, q1, q2⟩ := z
      have ev : v = .int a := q2
      subst ev
      refine ⟨_, q1, ?_⟩
      have key := (simS_asg (W := W) (sim_op2 (K := K) (W := W) (r := fun x y H Q => ∃ i j, x = .int i ∧ y = .int j ∧ Q (.int (f i j)) H) (f := g) (fun K S H x y d e z Q ex rx ry hf k => by
        obtain ⟨a, b, e1, e2, e3⟩ := hg d e z hf
        subst e1
        subst e2
        subst e3
        exact ⟨a, b, rx, ry, k _ rfl⟩) (ta := tC (.int a)) (ma := fun E => .ok (.im (.int a)) E) sim_int h) (simG_name i)).run F S H σ E D hK fo st q
      exact key
    | _ => exact q.elim
  | _ => rw [e] at q; exact q.elim⟩
def mAug (i : Nat) (g : D → D → Option D) (m : M R) : M Fl := fun E => match at_ E i with
  | .im (.int a) => mAsg (mOp2 g (fun E => .ok (.im (.int a)) E) m) (setIm i) E
  | _ => .stuck
theorem s_augAdd (i : Nat) {x : Str} {px : Pos} (hN : X.N.Nodup) (he : QE X W e te me) (hi : X.N[i]? = some x := by rfl) (hx : Loc X.env.scope x := by first | exact Or.inl rfl | exact Or.inr rfl) (hf : X.fn x = true ∨ X.env.scope.names.lookup x = some .local := by first | exact .inl rfl | exact .inr rfl) :
    QS X W (.AugAssign (.Name x px) .Add e pos) (tAug i te (ipI fun i j => i + j)) (mAug i oAdd me) := ⟨ps_aug hN hi hx he.pe ip_add hf, sim_aug (fun d e z h => by
      cases d with
      | int a => cases e with
        | int b => cases h; exact ⟨a, b, rfl, rfl, rfl⟩
        | _ => cases h
      | _ => cases h) he.sim⟩
theorem s_augSub (i : Nat) {x : Str} {px : Pos} (hN : X.N.Nodup) (he : QE X W e te me) (hi : X.N[i]? = some x := by rfl) (hx : Loc X.env.scope x := by first | exact Or.inl rfl | exact Or.inr rfl) (hf : X.fn x = true ∨ X.env.scope.names.lookup x = some .local := by first | exact .inl rfl | exact .inr rfl) :
    QS X W (.AugAssign (.Name x px) .Sub e pos) (tAug i te (ipI fun i j => i - j)) (mAug i oSub me) := ⟨ps_aug hN hi hx he.pe ip_sub hf, sim_aug (fun d e z h => by
      cases d with
      | int a => cases e with
        | int b => cases h; exact ⟨a, b, rfl, rfl, rfl⟩
        | _ => cases h
      | _ => cases h) he.sim⟩
/-! ### comprehensions -/
theorem l_lc {elt tg iter : Expr} {ifs : List Expr} {scope : Scope} {own : List (Str × Nat)} {wi : TI} {it : M (List D)} {g : TG} {bd : D → Env → Option Env} (hN : X.N.Nodup) (hi : QI X W tg iter wi it) (ok : BlkOk X.N X.env.scope scope own) (kg : KeepG g (own.map (·.2)))
    (hg : Blk X scope fun Y => QG Y tg g bd) (ht : Blk X scope fun Y => PTs Y ifs tt) (stt : SimT X.K W0 tt mt) (he : Blk X scope fun Y => QE Y W0 elt te me) (hcm : X.calm = true := by rfl) (hs : ∀ x, foldedSetIterable iter X.env x = pure x := by intro _; rfl) :
    QL X W (.ListComp elt [⟨tg, iter, ifs, 0⟩] scope pos) (tLc wi g tt te (own.map (·.2))) (mLc it (own.map (·.2)) bd mt me) := ⟨pe_lc hcm hN hi.pi ok (fun s H C cl fp => (hg s H C cl fp).pg) ht (fun s H C cl fp => (he s H C cl fp).pe) hs,
      simL_lc hi.sim (hg X.s_0 X.H_0 0 [] []).sim kg stt (he X.s_0 X.H_0 0 [] []).sim⟩
theorem s_setLc {elt tg iter : Expr} {ifs : List Expr} {scope : Scope} {own : List (Str × Nat)} {wi : TI} {it : M (List D)} {g : TG} {bd : D → Env → Option Env} (i : Nat) {y : Str} {py spos : Pos} (hN : X.N.Nodup) (hi : QI X W tg iter wi it) (ok : BlkOk X.N X.env.scope scope own) (kg : KeepG g (own.map (·.2)))
    (hg : Blk X scope fun Y => QG Y tg g bd) (ht : Blk X scope fun Y => PTs Y ifs tt) (stt : SimT X.K W0 tt mt) (he : Blk X scope fun Y => QE Y W0 elt te me) (hy : X.N[i]? = some y := by rfl) (hyl : X.env.scope.names.lookup y = some .local := by rfl) (hsw : swapsWith (.ListComp elt [⟨tg, iter, ifs, 0⟩] scope pos) (some (.Name y py)) spos.line X.env = pure true := by exact sw_true rfl rfl rfl (by decide +kernel))
    (hcm : X.calm = true := by rfl) (hs : ∀ x, foldedSetIterable iter X.env x = pure x := by intro _; rfl) :
    QS X W (.Assign [.Name y py] (.ListComp elt [⟨tg, iter, ifs, 0⟩] scope pos) spos) (tAsg (tLc wi g tt te (own.map (·.2))) (gName i)) (mAsgL (mLc it (own.map (·.2)) bd mt me) i) := ⟨ps_setLc hcm hN hy hyl hsw hi.pi ok (fun s H C cl fp => (hg s H C cl fp).pg) ht (fun s H C cl fp => (he s H C cl fp).pe) hs,
      simS_asgL (simL_lc hi.sim (hg X.s_0 X.H_0 0 [] []).sim kg stt (he X.s_0 X.H_0 0 [] []).sim)⟩
/-- the same, the list let stand -/
def mAsgF (m : M (List D)) (i : Nat) : M Fl := mAsg (mFz m) (setIm i)
theorem s_setLcF {elt tg iter : Expr} {ifs : List Expr} {scope : Scope} {own : List (Str × Nat)} {wi : TI} {it : M (List D)} {g : TG} {bd : D → Env → Option Env} (i : Nat) {y : Str} {py spos : Pos} (hN : X.N.Nodup) (hi : QI X W tg iter wi it) (ok : BlkOk X.N X.env.scope scope own) (kg : KeepG g (own.map (·.2)))
    (hg : Blk X scope fun Y => QG Y tg g bd) (ht : Blk X scope fun Y => PTs Y ifs tt) (stt : SimT X.K W0 tt mt) (he : Blk X scope fun Y => QE Y W0 elt te me) (hy : X.N[i]? = some y := by rfl) (hyl : X.env.scope.names.lookup y = some .local := by rfl) (hsw : swapsWith (.ListComp elt [⟨tg, iter, ifs, 0⟩] scope pos) (some (.Name y py)) spos.line X.env = pure true := by exact sw_true rfl rfl rfl (by decide +kernel))
    (hcm : X.calm = true := by rfl) (hs : ∀ x, foldedSetIterable iter X.env x = pure x := by intro _; rfl) :
    QS X W (.Assign [.Name y py] (.ListComp elt [⟨tg, iter, ifs, 0⟩] scope pos) spos) (tAsg (tLc wi g tt te (own.map (·.2))) (gName i)) (mAsgF (mLc it (own.map (·.2)) bd mt me) i) := ⟨ps_setLc hcm hN hy hyl hsw hi.pi ok (fun s H C cl fp => (hg s H C cl fp).pg) ht (fun s H C cl fp => (he s H C cl fp).pe) hs,
      simS_asg (sim_fz (simL_lc hi.sim (hg X.s_0 X.H_0 0 [] []).sim kg stt (he X.s_0 X.H_0 0 [] []).sim)) (simG_name i)⟩
end
end
/-! ### what is known of defs, methods, classes -/
section
variable (P : Program) (w : World) (K : PySem.W.Frag) (mg : Str → Option Value) (base : Heap)
/-- the def x of the module: level k, np parameters, the function p on data, the defaults that a call fills up -/
structure GFn (x : Str) (k np : Nat) (p : List Ag → Cr) (dvs : List V) (dds : List D) : Prop where
  ex : ∃ f fd ps ds, FnOk P w K mg base (L2.CX P w) k f fd ps (spF K np p) ∧ mg x = some (.ref f) ∧ PySem.W.keepIn K (.ref f) = true ∧ Binds K fd ps ds ∧ Vals dvs ds
  dd : ∀ S, Reps K S dds dvs
  ar : Ary p np
structure GMe (c m : Str) (k np : Nat) (p : List Ag → Cr) (dvs : List V) (dds : List D) : Prop where
  ex : ∃ f fd ps ds, FnOk P w K mg base (L2.CX P w) k f fd ps (spF K np p) ∧ Cls K (He.ga K c) ∧ Meth K (He.ga K c) m f ∧ Binds K fd ps ds ∧ Vals dvs ds
  dd : ∀ S, Reps K S dds dvs
  ar : Ary p np
structure GSt (c m : Str) (k np : Nat) (p : List Ag → Cr) (dvs : List V) (dds : List D) : Prop where
  ex : ∃ f q mc fd ps ds, FnOk P w K mg base (L2.CX P w) k f fd ps (spF K np p) ∧ StM K (He.ga K c) mc m q f ∧ mg c = some (.ref (He.ga K c)) ∧ Binds K fd ps ds ∧ Vals dvs ds
  dd : ∀ S, Reps K S dds dvs
  ar : Ary p np
structure GCl (c : Str) (k np : Nat) (p : List D → Ci) (dvs : List V) (dds : List D) : Prop where
  ex : ∃ f fd ps ds, FnOk P w K mg base (L2.CX P w) k f fd ps (spI K c np p) ∧ Mk K (He.ga K c) f ∧ mg c = some (.ref (He.ga K c)) ∧ Binds K fd ps ds ∧ Vals dvs ds
  dd : ∀ S, Reps K S dds dvs
  ar : AryI p np
end
section
variable {X : Cx} {W : WX} {e o : Expr} {es : List Expr} {te : TE} {me : M R} {pos pn apos : Pos} {tA : TA} {mA : M (List R)} {x c m : Str} {k np : Nat} {p : List Ag → Cr} {pI : List D → Ci} {dvs : List V} {dds : List D}
theorem q_call (tk : Takes X W) (G : GFn X.prog X.w X.K X.mg X.base x k np p dvs dds) (hr : Room k X.A) (ha : QA X W (e :: es) tA mA) (hg : Gl X x := by rfl) (hdb : (x == ("__debug__" : Str)) = false := by decide) (he : starEach (e :: es) X.env = (false, eval e X.env) :: starEach es X.env := by rfl) (hpl : (backTo pos (starEach es X.env)).any (·.1) = false := by rfl) :
    QE X W (.Call (.Name x pn) (e :: es) [] pos) (tCallSD (spF X.K np p) dvs (WE W) tA) (mCall p dds mA) := by
  obtain ⟨f, fd, ps, ds, F, hm, hk, hb, hd⟩ := G.ex
  exact ⟨pe_callSD F hr hg hm hk hb hd (passAt tk) ha.pa hdb he hpl, sim_call G.ar G.dd ha.sim⟩
theorem l_call (tk : Takes X W) (G : GFn X.prog X.w X.K X.mg X.base x k np p dvs dds) (hr : Room k X.A) (ha : QA X W (e :: es) tA mA) (hg : Gl X x := by rfl) (hdb : (x == ("__debug__" : Str)) = false := by decide) (he : starEach (e :: es) X.env = (false, eval e X.env) :: starEach es X.env := by rfl) (hpl : (backTo pos (starEach es X.env)).any (·.1) = false := by rfl) :
    QL X W (.Call (.Name x pn) (e :: es) [] pos) (tCallSD (spF X.K np p) dvs (WE W) tA) (mCallL p dds mA) := by
  obtain ⟨f, fd, ps, ds, F, hm, hk, hb, hd⟩ := G.ex
  exact ⟨pe_callSD F hr hg hm hk hb hd (passAt tk) ha.pa hdb he hpl, simL_call G.ar G.dd ha.sim⟩
theorem q_call1 (j : Nat) (tk : Takes X W) (G : GFn X.prog X.w X.K X.mg X.base x k np p dvs dds) (hr : Room k X.A) (ha : QA X W (e :: es) tA mA) (hg : Gl X x := by rfl) (hdb : (x == ("__debug__" : Str)) = false := by decide) (he : starEach (e :: es) X.env = (false, eval e X.env) :: starEach es X.env := by rfl) (hpl : (backTo pos (starEach es X.env)).any (·.1) = false := by rfl) :
    QE X W (.Call (.Name x pn) (e :: es) [] pos) (tCallSD (spF X.K np p) dvs (WE W) tA) (mCall1 j p dds mA) := by
  obtain ⟨f, fd, ps, ds, F, hm, hk, hb, hd⟩ := G.ex
  exact ⟨pe_callSD F hr hg hm hk hb hd (passAt tk) ha.pa hdb he hpl, sim_call1 G.ar G.dd ha.sim⟩
theorem l_call1 (j : Nat) (tk : Takes X W) (G : GFn X.prog X.w X.K X.mg X.base x k np p dvs dds) (hr : Room k X.A) (ha : QA X W (e :: es) tA mA) (hg : Gl X x := by rfl) (hdb : (x == ("__debug__" : Str)) = false := by decide) (he : starEach (e :: es) X.env = (false, eval e X.env) :: starEach es X.env := by rfl) (hpl : (backTo pos (starEach es X.env)).any (·.1) = false := by rfl) :
    QL X W (.Call (.Name x pn) (e :: es) [] pos) (tCallSD (spF X.K np p) dvs (WE W) tA) (mCallL1 j p dds mA) := by
  obtain ⟨f, fd, ps, ds, F, hm, hk, hb, hd⟩ := G.ex
  exact ⟨pe_callSD F hr hg hm hk hb hd (passAt tk) ha.pa hdb he hpl, simL_call1 G.ar G.dd ha.sim⟩
theorem q_call0 (tk : Takes X W) (G : GFn X.prog X.w X.K X.mg X.base x k np p dvs dds) (hr : Room k X.A) (hg : Gl X x := by rfl) (hdb : (x == ("__debug__" : Str)) = false := by decide) : QE X W (.Call (.Name x pn) [] [] pos) (tCallSD (spF X.K np p) dvs (WE W) tNil) (mCall p dds mA0) := by
  obtain ⟨f, fd, ps, ds, F, hm, hk, hb, hd⟩ := G.ex
  exact ⟨pe_call0S F hr hg hm hk hb hd (passAt tk) hdb, sim_call G.ar G.dd simA_nil⟩
theorem q_stat (tk : Takes X W) {pl : Sem Bool} (G : GSt X.prog X.w X.K X.mg X.base c m k np p dvs dds) (hr : Room k X.A) (ha : QA X W (e :: es) tA mA) (hg : Gl X c := by rfl) (hdb : (c == ("__debug__" : Str)) = false := by decide) (hst : starEach (e :: es) X.env = (false, eval e X.env) :: starEach es X.env := by rfl) (hpl : (backTo pos (starEach es X.env)).any (·.1) = false := by rfl)
    (ht : eval (.Call (.Attribute (.Name c pn) m apos) (e :: es) [] pos) X.env = (eval (.Name c pn) X.env >>= fun ov => standAt apos.atName >>= fun _ => holding [ov] (getMethod ov m pl) >>= fun q => callWith pos q.1 q.2 (backTo pos (starEach (e :: es) X.env)) (backToKw pos (keywordEach [] X.env))) := by rfl) :
    QE X W (.Call (.Attribute (.Name c pn) m apos) (e :: es) [] pos) (tCallSD (spF X.K np p) dvs (WE W) tA) (mCall p dds mA) := by
  obtain ⟨f, q, mc, fd, ps, ds, F, hs, hm, hb, hd⟩ := G.ex
  exact ⟨pe_stat (pe_glob hg hm rfl hdb) hs F hr hb hd (passAt tk) ha.pa hst hpl ht, sim_call G.ar G.dd ha.sim⟩
theorem q_stat0 (tk : Takes X W) {pl : Sem Bool} (G : GSt X.prog X.w X.K X.mg X.base c m k np p dvs dds) (hr : Room k X.A) (hg : Gl X c := by rfl) (hdb : (c == ("__debug__" : Str)) = false := by decide)
    (ht : eval (.Call (.Attribute (.Name c pn) m apos) [] [] pos) X.env = (eval (.Name c pn) X.env >>= fun ov => standAt apos.atName >>= fun _ => holding [ov] (getMethod ov m pl) >>= fun q => callWith pos q.1 q.2 (backTo pos (starEach [] X.env)) (backToKw pos (keywordEach [] X.env))) := by rfl) :
    QE X W (.Call (.Attribute (.Name c pn) m apos) [] [] pos) (tCallSD (spF X.K np p) dvs (WE W) tNil) (mCall p dds mA0) := by
  obtain ⟨f, q, mc, fd, ps, ds, F, hs, hm, hb, hd⟩ := G.ex
  exact ⟨pe_stat0 (pe_glob hg hm rfl hdb) hs F hr hb hd (passAt tk) ht, sim_call G.ar G.dd simA_nil⟩
theorem q_meth (tk : Takes X W) {pl : Sem Bool} (G : GMe X.prog X.w X.K X.mg X.base c m k np p dvs dds) (hr : Room k X.A) (ho : QE X W o te me) (ha : QA X W (e :: es) tA mA) (hst : starEach (e :: es) X.env = (false, eval e X.env) :: starEach es X.env := by rfl) (hpl : (backTo pos (starEach es X.env)).any (·.1) = false := by rfl)
    (ht : eval (.Call (.Attribute o m apos) (e :: es) [] pos) X.env = (eval o X.env >>= fun ov => standAt apos.atName >>= fun _ => holding [ov] (getMethod ov m pl) >>= fun q => callWith pos q.1 q.2 (backTo pos (starEach (e :: es) X.env)) (backToKw pos (keywordEach [] X.env))) := by rfl) :
    QE X W (.Call (.Attribute o m apos) (e :: es) [] pos) (tMethS (He.ga X.K c) m (spF X.K np p) dvs (WE W) te tA) (mMeth c m p dds me mA) := by
  obtain ⟨f, fd, ps, ds, F, hc, hm, hb, hd⟩ := G.ex
  exact ⟨pe_methS ho.pe hc hm F hr hb hd (passAt tk) ha.pa hst hpl ht, sim_meth G.ar G.dd ho.sim ha.sim⟩
theorem q_meth0 (tk : Takes X W) {pl : Sem Bool} (G : GMe X.prog X.w X.K X.mg X.base c m k np p dvs dds) (hr : Room k X.A) (ho : QE X W o te me)
    (ht : eval (.Call (.Attribute o m apos) [] [] pos) X.env = (eval o X.env >>= fun ov => standAt apos.atName >>= fun _ => holding [ov] (getMethod ov m pl) >>= fun q => callWith pos q.1 q.2 (backTo pos (starEach [] X.env)) (backToKw pos (keywordEach [] X.env))) := by rfl) :
    QE X W (.Call (.Attribute o m apos) [] [] pos) (tMethS (He.ga X.K c) m (spF X.K np p) dvs (WE W) te tNil) (mMeth c m p dds me mA0) := by
  obtain ⟨f, fd, ps, ds, F, hc, hm, hb, hd⟩ := G.ex
  exact ⟨pe_meth0S ho.pe hc hm F hr hb hd (passAt tk) ht, sim_meth G.ar G.dd ho.sim simA_nil⟩
theorem l_meth (tk : Takes X W) {pl : Sem Bool} (G : GMe X.prog X.w X.K X.mg X.base c m k np p dvs dds) (hr : Room k X.A) (ho : QE X W o te me) (ha : QA X W (e :: es) tA mA) (hst : starEach (e :: es) X.env = (false, eval e X.env) :: starEach es X.env := by rfl) (hpl : (backTo pos (starEach es X.env)).any (·.1) = false := by rfl)
    (ht : eval (.Call (.Attribute o m apos) (e :: es) [] pos) X.env = (eval o X.env >>= fun ov => standAt apos.atName >>= fun _ => holding [ov] (getMethod ov m pl) >>= fun q => callWith pos q.1 q.2 (backTo pos (starEach (e :: es) X.env)) (backToKw pos (keywordEach [] X.env))) := by rfl) :
    QL X W (.Call (.Attribute o m apos) (e :: es) [] pos) (tMethS (He.ga X.K c) m (spF X.K np p) dvs (WE W) te tA) (mMethL c m p dds me mA) := by
  obtain ⟨f, fd, ps, ds, F, hc, hm, hb, hd⟩ := G.ex
  exact ⟨pe_methS ho.pe hc hm F hr hb hd (passAt tk) ha.pa hst hpl ht, simL_meth G.ar G.dd ho.sim ha.sim⟩
theorem q_make (tk : Takes X W) (G : GCl X.prog X.w X.K X.mg X.base c k np pI dvs dds) (hr : Room (k + 1) X.A) (ha : QA X W (e :: es) tA mA) (hg : Gl X c := by rfl) (hdb : (c == ("__debug__" : Str)) = false := by decide) (he : starEach (e :: es) X.env = (false, eval e X.env) :: starEach es X.env := by rfl) (hpl : (backTo pos (starEach es X.env)).any (·.1) = false := by rfl) :
    QE X W (.Call (.Name c pn) (e :: es) [] pos) (tMakeS (He.ga X.K c) (spI X.K c np pI) dvs (WE W) tA) (mMake pI dds mA) := by
  obtain ⟨f, fd, ps, ds, F, M, hm, hb, hd⟩ := G.ex
  exact ⟨pe_makeS M F hr hg hm hb hd (passAt tk) ha.pa hdb he hpl, sim_make G.ar G.dd ha.sim⟩
end
/-! ### defs by their bodies -/
section
variable {P : Program} {w : World} {K : PySem.W.Frag} {mg : Str → Option Value} {base : Heap} {x qual : Str} {params : Arguments} {body : List Stmt} {scope : Scope} {dvs : List V} {kws : List (Str × V)} {f : Addr} {fd : FuncData} {N ps : List Str} {k np nl : Nat} {m : M Fl}
theorem fn_mk2 (F : FunD K x qual params body scope dvs kws f fd) (S : FnScope N ps scope) (hps : ps.length = np) (hN : N.length = np + nl)
    (hb : ∀ (cdv : Value) (A : Around) (outer : List PySem.Env) (s : Shared) (H : Hp) (E : XK), Room k (A.deeper (envOfC qual scope s.heap.objs.size f cdv)) →
      ∃ t, QSs (cxOf (L2.CX P w) P w K mg base N qual scope f cdv A outer s H E) (fun cls d _ H => E cls d H) body t m) : FnOk P w K mg base (L2.CX P w) (k + 1) f fd ps (spF K np (runFn np nl m)) :=
  F.ok S (fun vs H Q E h => h.1.trans hps.symm) fun cdv A outer s H vs Q E hr h => by
    obtain ⟨t, q⟩ := hb cdv A outer s H E hr
    exact ⟨t, q.ps, body_ok q.sim hN h⟩
theorem ini_mk2 {c : Str} (F : FunD K x qual params body scope dvs kws f fd) (S : FnScope N ps scope) (hps : ps.length = np + 1) (hN : N.length = np + 1 + nl)
    (hb : ∀ (cdv : Value) (A : Around) (outer : List PySem.Env) (s : Shared) (H : Hp) (E : XK), Room k (A.deeper (envOfC qual scope s.heap.objs.size f cdv)) →
      ∃ t, QSs (cxOf (L2.CX P w) P w K mg base N qual scope f cdv A outer s H E) (fun cls d _ H => E cls d H) body t m) : FnOk P w K mg base (L2.CX P w) (k + 1) f fd ps (spI K c np (runIni c np nl m)) :=
  F.ok S (fun vs H Q E h => h.1.trans hps.symm) fun cdv A outer s H vs Q E hr h => by
    obtain ⟨t, q⟩ := hb cdv A outer s H E hr
    exact ⟨t, q.ps, ini_ok q.sim hN h⟩
end
end Pu
set_option Elab.async false
set_option linter.all false
set_option maxRecDepth 100000
set_option maxHeartbeats 4000000
/-! Pu: what the head tells, over a part of the heap that is named address by address. -/
namespace Pu
open PySem PySem.Spec PyProof.Rows L2
/-! ### defs, found by any road -/
structure Df where
  ad : PySem.W.Frag → Addr
  name : Str
  qual : Str
  st : Stmt
  dfl : List He.Dv := []
def Df.seen (K : PySem.W.Frag) (d : Df) : He.FnW := match K.lookup (d.ad K) with
  | some ⟨_, _, .func fd, _⟩ => some (fd.name, fd.qualname, fd.params, fd.body, fd.scope, fd.globals, fd.closure, fd.builtins)
  | _ => none
def Df.want (d : Df) : He.FnW := some (d.name, d.qual, defArgs d.st, .stmts (defBody d.st), defScope d.st, mainGlobals, [], builtinsNs)
def Df.dvs (K : PySem.W.Frag) (d : Df) : List V := d.dfl.map (He.Dv.v K)
def Df.good (K : PySem.W.Frag) (d : Df) : Bool := PySem.W.keepIn K (.ref (d.ad K)) && (match K.lookup (d.ad K) with
  | some ⟨_, _, .func fd, _⟩ => PySem.W.codeIn K fd.code d.qual && He.dflB K fd.defaults (d.dvs K)
  | _ => false)
abbrev FnL (K : PySem.W.Frag) (d : Df) (fd : FuncData) : Prop := FunD K d.name d.qual (defArgs d.st) (defBody d.st) (defScope d.st) (d.dvs K) [] (d.ad K) fd
theorem Df.funD {K : PySem.W.Frag} {d : Df} (e : d.seen K = d.want) (c : d.good K = true) : ∃ fd, FnL K d fd := by
  obtain ⟨kp, c2⟩ := He.ba c
  unfold Df.seen at e
  cases q : K.lookup (d.ad K) with
  | none => rw [q] at c2; cases c2
  | some o =>
    rw [q] at c2 e
    rcases o with ⟨oc, od, dt, osl⟩
    cases dt with
    | func fd =>
      rcases fd with ⟨n1, n2, n3, n4, n5, n6, n7, n8, n9, n10, n11, n12, n13, n14, n15⟩
      have e2 : (some (n1, n2, n3, n4, n5, n6, n7, n15) : He.FnW) = d.want := e
      unfold Df.want at e2
      have e3 := Option.some.inj e2
      have h1 := congrArg (fun z => z.1) e3
      have h2 := congrArg (fun z => z.2.1) e3
      have h3 := congrArg (fun z => z.2.2.1) e3
      have h4 := congrArg (fun z => z.2.2.2.1) e3
      have h5 := congrArg (fun z => z.2.2.2.2.1) e3
      have h6 := congrArg (fun z => z.2.2.2.2.2.1) e3
      have h7 := congrArg (fun z => z.2.2.2.2.2.2.1) e3
      have h8 := congrArg (fun z => z.2.2.2.2.2.2.2) e3
      dsimp only at h1 h2 h3 h4 h5 h6 h7 h8
      subst h1 h2 h3 h4 h5 h6 h7 h8
      have ⟨k1, k2⟩ := He.ba (show (PySem.W.codeIn K n13 d.qual && He.dflB K n8 (d.dvs K)) = true from c2)
      exact ⟨_, ⟨oc, od, n8, n9, n10, n11, n12, n13, n14, osl, rfl, q, k1, He.dflB_ok k2, .inl rfl⟩, kp⟩
    | _ => cases c2
/-! ### facts -/
def gloB (K : PySem.W.Frag) (x : Str) : Bool := (He.Fa.glo x).ok K
def bltB (K : PySem.W.Frag) (x : Str) (b : String) : Bool := He.eqO (PySem.W.nsIn K mainGlobals x) (some (some (.builtin b)))
theorem blt_ok {K : PySem.W.Frag} {h : Heap} {mg : Str → Option Value} (X : K.In h) (G : h.Ns mainGlobals mg) {x : Str} {b : String} (c : bltB K x b = true) : mg x = some (.builtin b) := PySem.W.mg_of X G (He.eqO_ok c)
def statB (K : PySem.W.Frag) (C m : Str) : Bool := PySem.W.readsIn K (He.ga K C) (.type "type") && (He.eqO (PySem.W.specialIn K (.ref (He.ga K C)) "__getattribute__") (some (some (.builtin "type.__getattribute__"))) && (He5.wrapB K (He.ga K C) "staticmethod" "staticmethod.__get__" m && PySem.W.keepIn K (.ref (He5.wf K (He.ga K C) "staticmethod" m))))
theorem stat_ok {K : PySem.W.Frag} {C m : Str} (c : statB K C m = true) : StM K (He.ga K C) (.type "type") m (He.ma K (He.ga K C) m) (He5.wf K (He.ga K C) "staticmethod" m) := by
  obtain ⟨c1, c⟩ := He.ba c
  obtain ⟨c2, c⟩ := He.ba c
  obtain ⟨c3, c4⟩ := He.ba c
  obtain ⟨d1, d2⟩ := He5.wrapB_ok c3
  exact ⟨c1, He.eqO_ok c2, d1, d2, c4⟩
def insB (K : PySem.W.Frag) (C : Str) : Bool := (He.Fa.cls C).ok K && (He.eqO (PySem.W.findIn K (.ref (He.ga K C)) "__class__") (some (some (.builtin "object.__class__"))) &&
  (He.eqO (PySem.W.specialIn K (.builtin "object.__class__") "__get__") (some (some (.builtin "getset_descriptor.__get__"))) && (decide (PySem.W.takesIn K (.builtin "object.__class__") = some true) && decide (PySem.W.mroIn K (He.ga K C) (.type "object") = some true))))
theorem ins_ok {K : PySem.W.Frag} {C : Str} (c : insB K C = true) : InsF K (He.ga K C) := by
  obtain ⟨c1, c⟩ := He.ba c
  obtain ⟨c2, c⟩ := He.ba c
  obtain ⟨c3, c⟩ := He.ba c
  obtain ⟨c4, c5⟩ := He.ba c
  exact ⟨He.cls_ok c1, He.eqO_ok c2, He.eqO_ok c3, of_decide_eq_true c4, of_decide_eq_true c5⟩
def eqK : Kd → Kd → Bool
  | .ty a, .ty b => decide (a = b)
  | .own a, .own b => decide (a = b)
  | _, _ => false
theorem eqK_ok {a b : Kd} (h : eqK a b = true) : a = b := by
  cases a <;> cases b <;> first | exact congrArg _ (of_decide_eq_true h) | cases h
def tblK (l : List (Kd × Bool)) (k : Kd) : Option Bool := (l.find? fun e => eqK e.1 k).map (·.2)
def isiB (K : PySem.W.Frag) (l : List (Kd × Bool)) (T : Value) : Bool := l.all fun e => decide (PySem.W.kitOne K (e.1.v K) T = some e.2) && (match e.1 with
  | .own c => insB K c
  | .ty _ => true)
theorem isi_ok {K : PySem.W.Frag} {l : List (Kd × Bool)} {T : Value} (c : isiB K l T = true) : ∀ k b, tblK l k = some b → PySem.W.kitOne K (k.v K) T = some b ∧ ∀ c', k = .own c' → InsF K (He.ga K c') := by
  intro k b h
  unfold tblK at h
  obtain ⟨e, h1, h2⟩ := Option.map_eq_some_iff.mp h
  have hm := List.mem_of_find?_eq_some h1
  have hk : e.1 = k := eqK_ok (List.find?_some (p := fun e : Kd × Bool => eqK e.1 k) h1)
  obtain ⟨c1, c2⟩ := He.ba (List.all_eq_true.mp c e hm)
  rw [hk, h2] at c1
  refine ⟨of_decide_eq_true c1, fun c' hc => ?_⟩
  rw [hk, hc] at c2
  exact ins_ok c2
/-- the default () -/
def emptyB (K : PySem.W.Frag) (a : Addr) : Bool := match K.lookup a with
  | some ⟨.type c, _, .seq its _, _⟩ => decide (c = "tuple") && decide (its = #[])
  | _ => false
theorem empty_ok {K : PySem.W.Frag} {a : Addr} (c : emptyB K a = true) (S : Hp) : Rep K S (.tup []) (.ref a) := by
  unfold emptyB at c
  split at c
  · rename_i cc od its n sl q
    obtain ⟨c1, c2⟩ := He.ba c
    have e1 := of_decide_eq_true c1
    have e2 := of_decide_eq_true c2
    subst e1
    subst e2
    exact ⟨a, [], rfl, .inr ⟨_, #[], n, q, rfl, rfl, by decide, .nil⟩, rfl⟩
  · cases c
/-! ### the part of the heap: what the named defs and classes lead to -/
def gro (g : Addr → Option Obj) (l : List Addr) : List Addr := l.flatMap fun a => match g a with
  | some o => He.refsD o
  | none => []
def asN (fs cs : List Str) (g : Addr → Option Obj) : List Addr :=
  let f := fs.map (He.ga (He.frG g [mainGlobals]))
  let c := cs.map (He.ga (He.frG g [mainGlobals]))
  let f1 := gro g f
  let c1 := gro g c
  let c2 := gro g c1
  let c3 := gro g c2
  mainGlobals :: cStatics :: (f ++ (c ++ (c1 ++ (f1 ++ (c2 ++ (gro g f1 ++ (c3 ++ gro g c3)))))))
/-! ### the Hook -/
abbrev AlL : Type := Bool × List He.FnW
def obL (ex : PySem.W.Frag → Bool) (fn : List Df) (K : PySem.W.Frag) : AlL := (ex K && fn.all fun d => d.good K, fn.map fun d => d.seen K)
def vaL (fn : List Df) : AlL := (true, fn.map Df.want)
def SaysL (ex : PySem.W.Frag → Bool) (fn : List Df) (K : PySem.W.Frag) : Prop := obL ex fn K = vaL fn
def obG (fs cs : List Str) (ex : PySem.W.Frag → Bool) (fn : List Df) (g : Addr → Option Obj) : AlL := obL ex fn (He.frG g (asN fs cs g))
def hookL (fs cs : List Str) (ex : PySem.W.Frag → Bool) (fn : List Df) : PySem.W.Hook where
  α := AlL
  obs := fun s => obG fs cs ex fn s.heap.get?
  val := fun _ => vaL fn
  says := fun _ h => ∃ K : PySem.W.Frag, K.In h ∧ SaysL ex fn K
  of := fun _ _ e => ⟨_, He.frG_in, e⟩
  keeps := fun _ _ _ ⟨K, hK, c⟩ k => ⟨K, PySem.W.Frag.In.keeps hK k, c⟩
theorem obG_eq {fs cs : List Str} {ex : PySem.W.Frag → Bool} {fn : List Df} {g : Addr → Option Obj} {s : Shared} (h : ∀ a, g a = s.heap.get? a) : obG fs cs ex fn g = (hookL fs cs ex fn).obs s := by
  have e : g = s.heap.get? := funext h
  rw [e] <;> rfl
section
variable {ex : PySem.W.Frag → Bool} {fn : List Df} {K : PySem.W.Frag}
theorem SaysL.exs (c : SaysL ex fn K) : ex K = true := (He.ba (show (ex K && fn.all fun d => d.good K) = true from congrArg (fun z : AlL => z.1) c)).1
theorem SaysL.df (c : SaysL ex fn K) (i : Nat) {d : Df} (h : fn[i]? = some d := by rfl) : ∃ fd, FnL K d fd := by
  have c1 := (He.ba (show (ex K && fn.all fun d => d.good K) = true from congrArg (fun z : AlL => z.1) c)).2
  have c2 : fn.map (fun d => d.seen K) = fn.map Df.want := congrArg (fun z : AlL => z.2) c
  have c3 : (fn.map fun d => d.seen K)[i]? = (fn.map Df.want)[i]? := by rw [c2]
  rw [List.getElem?_map, List.getElem?_map, h] at c3
  exact Df.funD (Option.some.inj c3) (List.all_eq_true.mp c1 d (List.mem_of_getElem? h))
end
/-- the run, in three parts -/
theorem run_by {r : PySem.W.OpenRow} {q : Program} {H : PySem.W.Hook} {ob : PySem.W.SharedT → H.α} {M : Nat} {loose : List Str} {w : World} {va : H.α}
    (h1 : (HandSHeadRun.wholeF (fun p => HandSHeadRun.stepQ (HandSHeadRun.denQ HandSHeadRun.tabQ) p w) HandSHeadRun.fenceQ M r.prog).map (fun x => HandSHeadRun.looksF r.prog x.1.heap x.2.abs) = some true)
    (h2 : (HandSHeadRun.wholeF (fun p => HandSHeadRun.stepQ (HandSHeadRun.denQ HandSHeadRun.tabQ) p w) HandSHeadRun.fenceQ M r.prog).map (fun x => HandSHeadRun.seenQ q loose (PySem.importedModules r.prog.main.body) (fun s => PySem.W.xlAt q [] s && PySem.W.recOk r.toRowW.records s) x.2.abs) = some (PySem.W.openGood q loose))
    (h3 : (HandSHeadRun.wholeF (fun p => HandSHeadRun.stepQ (HandSHeadRun.denQ HandSHeadRun.tabQ) p w) HandSHeadRun.fenceQ M r.prog).map (fun x => ob x.2) = some va) (hv : va = H.val w) : HandSHeadRun.RunEqI r q H ob M loose w := by
  subst hv
  unfold HandSHeadRun.RunEqI
  cases e : HandSHeadRun.wholeF (fun p => HandSHeadRun.stepQ (HandSHeadRun.denQ HandSHeadRun.tabQ) p w) HandSHeadRun.fenceQ M r.prog with
  | none => rw [e] at h1; cases h1
  | some x =>
    rw [e] at h1 h2 h3
    have k1 := Option.some.inj h1
    have k2 := Option.some.inj h2
    have k3 := Option.some.inj h3
    exact congrArg some (Prod.ext k1 (Prod.ext k2 k3))
/-- the law, from the def's function on data -/
theorem law_by {K : PySem.W.Frag} {p : List Ag → Cr} {n : Nat} (hp : ∀ ns : List Int, ns.length ≤ n → p [.im (.scr ns)] = .ok (.im (.bl true)) []) (H : Hp) (a : Addr) (ns : List Int) (hl : ns.length ≤ n) (hS : SqL K H a (ns.map V.int)) :
    spF K 1 p [.ref a] H (fun v _ => v = .bl true) (fun _ _ _ => False) := by
  refine ⟨rfl, H, [.im (.scr ns)], [], Ex.refl H, ⟨⟨a, rfl, hS⟩, trivial⟩, List.nodup_nil, (fun a z => nomatch z), ?_⟩
  rw [hp ns hl]
  intro v S' H' _ _ r
  exact r
/-- the law's end, where what may be let out hangs on the world -/
theorem walk_w {law : PySem.W.OpenLaw} {many lv : Nat} {vw : Program} {lo : List Str} {XP : (Str → Option Value) → Heap → Prop} {YP : World → Heap → Prop} {dr : DefRec} {CX : World → CXT} {x : Str} (h1 : law.most = some many) (h2 : many ≤ sizeLine) (h3 : dr.params.defaults = []) (h4 : Room lv callerA)
    (h5 : ∀ (w : World) (mg : Str → Option Value) (fa : Addr) (h : Heap), YP w h → h.Ns mainGlobals mg → mg dr.name = some (.ref fa) → ∃ (K : PySem.W.Frag) (fd : FuncData) (p : Sp), K.In h ∧ (∀ (s : Shared) (u : Value), BindsTo s fd ⟨[u], []⟩ [(x, u)]) ∧
      (∀ (H : Hp) (a : Addr) (ns : List Int), ns.length ≤ many → Only H → SqL K H a (ns.map V.int) → p [.ref a] H (fun v _ => v = .bl true) fun _ _ _ => False) ∧ ∀ base : Heap, K.In base → base.Ns mainGlobals mg → FnOk law.prog w K mg base (CX w) lv fa fd [x] p)
    (h6 : ∀ (w : World) (H : Hp) (s : Shared) (e : Value) (s' : Shared), CX w [] H s (fun _ _ _ => False) e s' → False) : PySem.W.WalkO vw lo XP YP law.row.toRowW dr [] (fun f vs => PySem.call f vs) :=
  Att.attach_call h1 h3 fun w _ s1 mg _ fa _ _ _ _ a _ ns G Y _ _ _ hmg ho hi hl hg => by
    obtain ⟨K, fd, p, KX, hb, hp, hF⟩ := h5 w mg fa _ Y G.T.g hmg
    exact law_call KX G.T.g G.T.b G.T.builtins G.T.nolimit hg ho hi (Nat.le_trans hl h2) h4 hF hb (fun H hO hS => hp H a ns hl hO hS) fun H e s' => h6 w H s1 e s'
end Pu
set_option Elab.async false
set_option linter.all false
set_option maxRecDepth 100000
set_option maxHeartbeats 4000000
/-! Pu: further rules. -/
namespace Pu
open PySem PySem.Spec PyProof.Rows L2
/-- the loops' measure: slot i, an int -/
def muI (i : Nat) (E : Env) : Nat := match at_ E i with
  | .im (.int z) => z.toNat + 1
  | _ => 0
section
variable {X : Cx} {W : WX} {a b c e o : Expr} {es : List Expr} {ta tb te tc : TE} {ma mb me : M R} {tt tu : TT} {mt mu mc : M Bool} {pos : Pos} {tA : TA} {mA : M (List R)}
/-! ### powers -/
@[irreducible] def powOk (i j : Int) : Bool := decide (0 ≤ j) && (decide (j ≤ 1000000) && Nat.ble i.natAbs 9223372036854775808)
def oPow := oI2 fun i j => ifO (powOk i j) (.int (i ^ j.toNat))
theorem op2_pow : Op2V (rI CPow fun i j => .int (i ^ j.toNat)) oPow := op2_int fun i j z H Q h k => by
  obtain ⟨h1, h2⟩ := ifO_some h
  cases h2
  unfold powOk at h1
  obtain ⟨c1, c2⟩ := Bool.and_eq_true_iff.mp h1
  obtain ⟨c2, c3⟩ := Bool.and_eq_true_iff.mp c2
  exact ⟨i, j, rfl, rfl, ⟨of_decide_eq_true c1, of_decide_eq_true c2, by have := Nat.le_of_ble_eq_true c3; omega⟩, k _ fun _ _ => rfl⟩
theorem q_pow (ha : QE X W a ta ma) (hb : QE X W b tb mb) : QE X W (.BinOp a .Pow b pos) (tOp (rI CPow fun i j => .int (i ^ j.toNat)) ta tb) (mOp2 oPow ma mb) := ⟨pe_op op_pow ha.pe hb.pe, sim_op2 op2_pow ha.sim hb.sim⟩
/-! ### is None -/
def isNon : D → Bool
  | .non => true
  | _ => false
def oIsN (d e : D) : Option D := match e with
  | .non => some (.bl (isNon d))
  | _ => none
def oIsNotN (d e : D) : Option D := match e with
  | .non => some (.bl (!isNon d))
  | _ => none
theorem isNon_ok {K : PySem.W.Frag} {S H : Hp} {d : D} {v : V} (r : RdOk K S H d v) : decide (v = .non) = isNon d := by
  cases d with
  | non => have e : v = .non := r; subst e; rfl
  | bl b => have e : v = .bl b := r; subst e; exact decide_eq_false (by intro h; cases h)
  | int b => have e : v = .int b := r; subst e; exact decide_eq_false (by intro h; cases h)
  | str b => have e : v = .str b := r; subst e; exact decide_eq_false (by intro h; cases h)
  | lst xs => obtain ⟨a, ws, e, _⟩ := r; subst e; exact decide_eq_false (by intro h; cases h)
  | tup xs => obtain ⟨a, ws, e, _⟩ := r; subst e; exact decide_eq_false (by intro h; cases h)
  | ins c ns xs => obtain ⟨a, dx, ws, e, _⟩ := r; subst e; exact decide_eq_false (by intro h; cases h)
  | scr ns => obtain ⟨a, e, _⟩ := r; subst e; exact decide_eq_false (by intro h; cases h)
theorem op2_isN : Op2V rIsN oIsN := fun K S H x y d e z Q ex rx ry h k => by
  cases e with
  | non =>
    cases h
    have e2 : y = .non := ry
    exact ⟨e2, k _ (by rw [isNon_ok rx]; rfl)⟩
  | _ => cases h
theorem op2_isNotN : Op2V rNotN oIsNotN := fun K S H x y d e z Q ex rx ry h k => by
  cases e with
  | non =>
    cases h
    have e2 : y = .non := ry
    exact ⟨e2, k _ (by rw [isNon_ok rx]; rfl)⟩
  | _ => cases h
theorem q_isN (ha : QE X W a ta ma) (hb : QE X W b tb mb) : QE X W (.Compare a [.Is] [b] pos) (tOp rIsN ta tb) (mOp2 oIsN ma mb) := ⟨pe_cmpR op_isN1 ha.pe hb.pe (nomark _), sim_op2 op2_isN ha.sim hb.sim⟩
theorem q_isnotN (ha : QE X W a ta ma) (hb : QE X W b tb mb) : QE X W (.Compare a [.IsNot] [b] pos) (tOp rNotN ta tb) (mOp2 oIsNotN ma mb) := ⟨pe_cmpR op_notN1 ha.pe hb.pe (nomark _), sim_op2 op2_isNotN ha.sim hb.sim⟩
theorem t_isN (ha : QE X W a ta ma) (hb : QE X W b tb mb) : QT X W (.Compare a [.Is] [b] pos) (tTest (tOp rIsN ta tb)) (mBool (mOp2 oIsN ma mb)) := ⟨pt_cmpR op_isN1 ha.pe hb.pe (nomark _), simT_test (sim_op2 op2_isN ha.sim hb.sim)⟩
theorem t_isnotN (ha : QE X W a ta ma) (hb : QE X W b tb mb) : QT X W (.Compare a [.IsNot] [b] pos) (tTest (tOp rNotN ta tb)) (mBool (mOp2 oIsNotN ma mb)) := ⟨pt_cmpR op_notN1 ha.pe hb.pe (nomark _), simT_test (sim_op2 op2_isNotN ha.sim hb.sim)⟩
/-! ### tuples put together -/
def oCatT (d e : D) : Option R := match d, e with
  | .tup xs, .tup ys => ifO (szOk (xs.length + ys.length)) (.im (.tup (xs ++ ys)))
  | _, _ => none
def mCatT (a b : M R) : M R := mR2 a b fun d e => mO (oCatT d e)
theorem sim_catT {K : PySem.W.Frag} (sa : SimE K W ta ma) (sb : SimE K W tb mb) : SimE K W (tOp (rCatA K) ta tb) (mCatT ma mb) := ⟨fun F S H σ E Q hK fo st h =>
  OkE.two sa sb hK fo st h fun S' H' E' x y d e ex st' dx ey h' => by
    unfold mO at h'
    cases q : oCatT d e with
    | none => rw [q] at h'; exact h'.elim
    | some z =>
      rw [q] at h'
      cases d with
      | tup xs =>
        cases e with
        | tup ys =>
          obtain ⟨q1, q2⟩ := ifO_some q
          subst q2
          obtain ⟨p1, w1, e1, e2, e3⟩ := dx
          obtain ⟨p2, w2, f1, f2, f3⟩ := ey
          refine ⟨p1, p2, w1, w2, e1, f1, hK ▸ ex_sqt st'.sub e2, hK ▸ ex_sqt st'.sub f2, by rw [e3.length, f3.length]; exact sz_le q1, fun w => ?_, fun _ w => ?_, fun _ _ p hp => OkE.laidT (W := W) fo st' hp (e3.append f3) h'⟩
          · subst w
            have ex0 : xs = [] := List.eq_nil_of_length_eq_zero (by rw [← e3.length]; rfl)
            subst ex0
            exact h' S' H' _ (Ex.refl S') st' ⟨p2, w2, rfl, f2, f3⟩
          · subst w
            have ey0 : ys = [] := List.eq_nil_of_length_eq_zero (by rw [← f3.length]; rfl)
            subst ey0
            refine h' S' H' _ (Ex.refl S') st' ⟨p1, w1, rfl, e2, ?_⟩
            rw [List.append_nil]
            exact e3
        | _ => cases q
      | _ => cases q⟩
theorem q_catT (ha : QE X W a ta ma) (hb : QE X W b tb mb) : QE X W (.BinOp a .Add b pos) (tOp (rCatA X.K) ta tb) (mCatT ma mb) := ⟨pe_op op_catA ha.pe hb.pe, sim_catT ha.sim hb.sim⟩
/-! ### max, min of a list -/
def maxI : List Int → Int
  | [] => 0
  | [x] => x
  | x :: y :: r => max x (maxI (y :: r))
theorem maxI_mem : ∀ {l : List Int}, l ≠ [] → maxI l ∈ l ∧ ∀ y ∈ l, y ≤ maxI l
  | [], h => absurd rfl h
  | [x], _ => ⟨by simp [maxI], by simp [maxI]⟩
  | x :: y :: r, _ => by
    obtain ⟨h1, h2⟩ := maxI_mem (l := y :: r) (by simp)
    have e : maxI (x :: y :: r) = max x (maxI (y :: r)) := rfl
    rw [e]
    refine ⟨?_, fun z hz => ?_⟩
    · by_cases h : x ≤ maxI (y :: r)
      · rw [Int.max_eq_right h]; exact List.mem_cons_of_mem _ h1
      · rw [Int.max_eq_left (by omega)]; exact List.mem_cons_self ..
    · rcases List.mem_cons.mp hz with e | hz
      · subst e; exact Int.le_max_left ..
      · have := h2 z hz; have := Int.le_max_right x (maxI (y :: r)); omega
def oMax1 (ds : List D) : Option D := match ds with
  | [.lst xs] => match intsOf xs with
    | some (n :: ns) => some (.int (maxI (n :: ns)))
    | _ => none
  | _ => none
theorem opc_max1 : OpC rMax oMax1 := fun K S H xs ds z Q ex rs h k => by
  unfold oMax1 at h
  split at h
  · rename_i es
    split at h
    · rename_i n ns en
      cases h
      cases rs with
      | cons r rr =>
        cases rr
        obtain ⟨a, ws, e1, e2, e3⟩ := r
        refine ⟨a, n :: ns, by rw [e1], ?_, by simp, fun m hm hle => ?_⟩
        · rw [← ints_reps e3 en]; exact .of e2
        · obtain ⟨h1, h2⟩ := maxI_mem (l := n :: ns) (by simp)
          have : m = maxI (n :: ns) := by
            have a1 := hle _ h1
            have a2 := h2 m hm
            omega
          rw [this]
          exact k _ rfl
    · cases h
  · cases h
theorem q_max1 {pn : Pos} (hm : X.mg "max" = none) (ha : QA X W (e :: es) tA mA) (hcm : X.calm = true := by rfl) (hg : Gl X "max" := by rfl) (he : starEach (e :: es) X.env = (false, eval e X.env) :: starEach es X.env := by rfl) (hpl : (backTo pos (starEach es X.env)).any (·.1) = false := by rfl) : QE X W (.Call (.Name "max" pn) (e :: es) [] pos) (tCB (rMax X.K) tA) (mCB oMax1 mA) :=
  ⟨pe_callB (cr_max hcm) hg hm (by decide +kernel) ha.pa (by decide) (by decide) he hpl, sim_cb opc_max1 ha.sim⟩
/-! ### sum of a list, of a tuple -/
def rSum2 (K : PySem.W.Frag) : List V → Hp → VK → Prop := fun vs H Q => ∃ (l : Addr) (zs : List Int), vs = [V.ref l] ∧ (SqL K H l (zs.map V.int) ∨ SqT K H l (zs.map V.int)) ∧ Q (.int zs.sum) H
theorem cr_sum2 (calm : X.calm = true) : CallR X (.builtin "sum") (rSum2 X.K) := by
  intro pins s σ H vs us Q I r h
  obtain ⟨l, zs, rfl, hs | hs, q⟩ := h
  · exact cr_sum calm pins s σ H _ us Q I r ⟨l, zs, rfl, hs, q⟩
  · obtain ⟨its, rv, tp, _⟩ := I.tuple hs
    have ia : IntsAre its zs := rv.ints
    obtain ⟨ys, ey⟩ := ia.allInts.items
    have en : numsOf (intItems ys).toList = zs := ey ▸ ia.numsOf
    rw [nums_intItems] at en
    rw [ey] at tp
    rw [Vals.ref1 r]
    refine PySem.W.ktm_sumG (I.ok.hd calm) tp fun h1 tk1 t1 keep => ⟨.int zs.sum, H, I.kept keep, ⟨t1, ?_⟩, q⟩
    rw [preSum_eq, List.take_of_length_le (Nat.le_of_eq (by simp)), en]
def oSum2 (ds : List D) : Option D := match ds with
  | [.lst xs] => (intsOf xs).map fun ns => D.int ns.sum
  | [.tup xs] => (intsOf xs).map fun ns => D.int ns.sum
  | _ => none
theorem opc_sum2 : OpC rSum2 oSum2 := fun K S H xs ds z Q ex rs h k => by
  unfold oSum2 at h
  split at h
  · cases rs with
    | cons a b =>
      cases b
      obtain ⟨p, ws, q1, q2, q3⟩ := a
      obtain ⟨zs, h1, h2⟩ := Option.map_eq_some_iff.mp h
      have ew := ints_reps q3 h1
      subst ew
      exact ⟨p, zs, by rw [q1], .inl (.of q2), k _ (by rw [← h2] <;> rfl)⟩
  · cases rs with
    | cons a b =>
      cases b
      obtain ⟨p, ws, q1, q2, q3⟩ := a
      obtain ⟨zs, h1, h2⟩ := Option.map_eq_some_iff.mp h
      have ew := ints_reps q3 h1
      subst ew
      exact ⟨p, zs, by rw [q1], .inr (ex_sqt ex q2), k _ (by rw [← h2] <;> rfl)⟩
  · cases h
theorem q_sum2 {pn : Pos} (hm : X.mg "sum" = none) (ha : QA X W (e :: es) tA mA) (hcm : X.calm = true := by rfl) (hg : Gl X "sum" := by rfl) (he : starEach (e :: es) X.env = (false, eval e X.env) :: starEach es X.env := by rfl) (hpl : (backTo pos (starEach es X.env)).any (·.1) = false := by rfl) : QE X W (.Call (.Name "sum" pn) (e :: es) [] pos) (tCB (rSum2 X.K) tA) (mCB oSum2 mA) :=
  ⟨pe_callB (cr_sum2 hcm) hg hm (by decide +kernel) ha.pa (by decide) (by decide) he hpl, sim_cb opc_sum2 ha.sim⟩
/-! ### range by steps -/
@[irreducible] def rgOk (i j c : Int) : Bool := Nat.ble j.natAbs 1152921504606846976 && (Nat.ble i.natAbs 1152921504606846976 && (Nat.ble c.natAbs 1048576 && !Nat.ble c.natAbs 0))
theorem rg_small {i j c : Int} (h1 : j.natAbs ≤ 1152921504606846976) (h2 : i.natAbs ≤ 1152921504606846976) (h3 : c.natAbs ≤ 1048576) (h4 : c ≠ 0) : Builtin.Range.small i j c = true ∧ 0 ≤ Builtin.Range.rangeSize i j c := by
  have hz : 0 ≤ Builtin.Range.rangeSize i j c ∧ Builtin.Range.rangeSize i j c ≤ 2305843009213693953 := by
    unfold Builtin.Range.rangeSize
    split
    · split
      · have e1 := Int.ediv_nonneg (show 0 ≤ j - i - 1 by omega) (show 0 ≤ c by omega)
        have e2 := Int.ediv_le_self c (show 0 ≤ j - i - 1 by omega)
        omega
      · omega
    · split
      · have e1 := Int.ediv_nonneg (show 0 ≤ i - j - 1 by omega) (show 0 ≤ -c by omega)
        have e2 := Int.ediv_le_self (-c) (show 0 ≤ i - j - 1 by omega)
        omega
      · omega
  refine ⟨?_, hz.1⟩
  unfold Builtin.Range.small
  generalize Builtin.Range.rangeSize i j c = z at hz
  simp only [Builtin.Range.rangeFitsLong, Bool.and_eq_true, Bool.or_eq_true, decide_eq_true_eq, beq_iff_eq]
  refine ⟨⟨⟨⟨?_, ?_⟩, ?_⟩, ?_⟩, .inr ?_⟩
  · omega
  · omega
  · omega
  · omega
  · split
    · simp only [Bool.and_eq_true, decide_eq_true_eq]
      omega
    · simp only [Bool.and_eq_true, decide_eq_true_eq]
      omega
theorem rg_iff {i j c : Int} (h : rgOk i j c = true) : j.natAbs ≤ 1152921504606846976 ∧ i.natAbs ≤ 1152921504606846976 ∧ c.natAbs ≤ 1048576 ∧ c ≠ 0 := by
  unfold rgOk at h
  obtain ⟨k1, k2⟩ := Bool.and_eq_true_iff.mp h
  obtain ⟨k3, k4⟩ := Bool.and_eq_true_iff.mp k2
  obtain ⟨k5, k6⟩ := Bool.and_eq_true_iff.mp k4
  refine ⟨Nat.le_of_ble_eq_true k1, Nat.le_of_ble_eq_true k3, Nat.le_of_ble_eq_true k5, fun z => ?_⟩
  rw [z] at k6
  cases k6
def rangeS (i j c : Int) : List D := (List.range (Builtin.Range.rangeSize i j c).toNat).map fun (k : Nat) => D.int (i + (k : Int) * c)
def mRs3 (ds : List D) : M (List D) := fun E => match ds with
  | [.int i, .int j, .int c] => (match rgOk i j c with
    | true => .ok (rangeS i j c) E
    | false => .stuck)
  | _ => .stuck
theorem mRs3_ok (ds : List D) (E : Env) : (∃ i j c, ds = [.int i, .int j, .int c] ∧ rgOk i j c = true ∧ mRs3 ds E = .ok (rangeS i j c) E) ∨ mRs3 ds E = .stuck := by
  unfold mRs3
  split
  · rename_i i j c
    cases q : rgOk i j c with
    | true => exact .inl ⟨i, j, c, rfl, q, rfl⟩
    | false => exact .inr rfl
  · exact .inr rfl
def mItR3 (m : M (List R)) : M (List D) := mB m fun rs => mB (mO (imAll rs)) fun ds => mRs3 ds
theorem range_key3 {F : Fr} {S1 : Hp} (i0 c : Int) (n : Nat) (l : List D) (hl : l = (List.range n).map fun (k : Nat) => D.int (i0 + (k : Int) * c)) : ∀ (i : Nat) (H2 : Hp) S2, Ex S1 S2 → Ex S2 H2 → (i = l.length → (Itc i0 c n).stop i H2) ∧ ∀ d, l[i]? = some d →
    (Itc i0 c n).go i H2 ∧ ∀ x H3, (Itc i0 c n).yld i H2 x H3 → H3 = H2 ∧ Rep F.K S2 d x := by
  intro i H2 S2 _ _
  have hl2 : l.length = n := by rw [hl, List.length_map, List.length_range]
  refine ⟨fun ei => by show n ≤ i; omega, fun d ed => ?_⟩
  have hi' : i < n := by
    have z := (List.getElem?_eq_some_iff.mp ed).1
    omega
  have ed2 : d = .int (i0 + (i : Int) * c) := by
    rw [hl, List.getElem?_map, List.getElem?_range hi'] at ed
    exact (Option.some.inj ed).symm
  refine ⟨hi', fun x H3 y => ⟨y.1, ?_⟩⟩
  rw [ed2]
  exact y.2
theorem simI_range3 {K : PySem.W.Frag} (s : SimA K W tA mA) : SimI K W (iRng3 tA) (mItR3 mA) := ⟨fun F S0 H σ E _ _ Rr hK fo st h => by
  unfold mItR3 mB at h
  refine OkA.bind (Q := fun vs H1 => ∃ (i j c : Int) (n : Nat), vs = [.int i, .int j, .int c] ∧ RgC i j c n ∧ Rr (Itc i c n) H1) s hK fo st (fun rs E1 e1 S1 H1 vs x1 st1 rvs => ?_) (fun x E1 e1 S1 H1 cls d x1 st1 rx => ?_) fun e1 => ?_
  · rw [e1] at h
    dsimp only at h
    unfold mO at h
    cases q : imAll rs with
    | none => rw [q] at h; exact h.elim
    | some ds =>
      rw [q] at h
      dsimp only at h
      have rr := imAll_reps rvs q
      rcases mRs3_ok ds E1 with ⟨i, j, c, e0, q3, e9⟩ | e9
      · rw [e9] at h
        subst e0
        obtain ⟨v1, w1, e1, e2, r1⟩ := rr
        obtain ⟨v2, w2, e3, e4, r2⟩ := r1
        obtain ⟨v3, w3, e5, e6, r3⟩ := r2
        subst e1 e3 e5
        have e7 : w3 = [] := r3
        subst e7
        have f1 : v1 = .int i := e2
        have f2 : v2 = .int j := e4
        have f3 : v3 = .int c := e6
        subst f1 f2 f3
        obtain ⟨k1, k2, k3, k4⟩ := rg_iff q3
        obtain ⟨k5, k6⟩ := rg_small k1 k2 k3 k4
        exact ⟨i, j, c, (Builtin.Range.rangeSize i j c).toNat, rfl, ⟨k4, by omega, k5, (Int.toNat_of_nonneg k6).symm⟩, h _ S1 H1 x1 st1 (range_key3 i c _ _ rfl)⟩
      · rw [e9] at h
        exact h.elim
  · rw [e1] at h
    exact h S1 H1 cls d x1 st1 rx
  · rw [e1] at h
    exact h⟩
theorem i_rng3 {tg : Expr} {pn : Pos} (hm : X.mg "range" = none) (h : QA X W [a, b, c] tA mA) (hg : Gl X "range" := by rfl) (hs : starEach [a, b, c] X.env = (false, eval a X.env) :: starEach [b, c] X.env := by rfl) (hpl : (backTo pos (starEach [b, c] X.env)).any (·.1) = false := by rfl) :
    QI X W tg (.Call (.Name "range" pn) [a, b, c] [] pos) (iRng3 tA) (mItR3 mA) := ⟨pi_range3 hg hm h.pa hs hpl, simI_range3 h.sim⟩
/-! ### a walk over a list or a tuple -/
def iOr (v w : TI) : TI := fun σ H R => v σ H R ∨ w σ H R
theorem pi_or {tg : Expr} {v w : TI} (h1 : PI X tg e v) (h2 : PI X tg e w) : PI X tg e (iOr v w) := ⟨fun pins s σ H R I h => h.elim (fun h => h1.run pins s σ H R I h) fun h => h2.run pins s σ H R I h⟩
def mItA (m : M R) : M (List D) := fun E => match mItL m E with
  | .stuck => mItT m E
  | o => o
theorem simI_any {K : PySem.W.Frag} (s : SimE K W te me) : SimI K W (iOr (iList K te) (iTup K te)) (mItA me) := ⟨fun F S0 H σ E Z G Rr hK fo st h => by
  have e : mItA me E = (match mItL me E with
    | .stuck => mItT me E
    | o => o) := rfl
  rw [e] at h
  cases q : mItL me E with
  | stuck =>
    rw [q] at h
    exact .inr ((simI_tup s).run F S0 H σ E Z G Rr hK fo st h)
  | ok ds E' =>
    rw [q] at h
    exact .inl ((simI_list s).run F S0 H σ E Z G Rr hK fo st (by rw [q]; exact h))
  | exc x E' =>
    rw [q] at h
    exact .inl ((simI_list s).run F S0 H σ E Z G Rr hK fo st (by rw [q]; exact h))⟩
theorem i_any {tg : Expr} (h : QE X W e te me) : QI X W tg e (iOr (iList X.K te) (iTup X.K te)) (mItA me) := ⟨pi_or (pi_list h.pe) (pi_tup h.pe), simI_any h.sim⟩
end
end Pu
set_option Elab.async false
set_option linter.all false
set_option maxRecDepth 100000
set_option maxHeartbeats 4000000
/-! Pu: how the meanings are reckoned: one row a word, for simp. -/
namespace Pu
open PySem PyProof.Rows L2
section
variable {α β : Type} {E E' : Env} {d e : D} {i j : Nat}
@[simp] theorem ev_at0 (x : Sl) (E : Env) : at_ (x :: E) 0 = x := rfl
@[simp] theorem ev_atS (x : Sl) (E : Env) (n : Nat) : at_ (x :: E) (n + 1) = at_ E n := rfl
@[simp] theorem ev_P (a : α) : mP a E = .ok a E := rfl
@[simp] theorem ev_B (m : M α) (k : α → M β) : mB m k E = (match m E with
  | .ok a E' => k a E'
  | .exc x E' => .exc x E'
  | .stuck => .stuck) := rfl
@[simp] theorem ev_O1 (a : α) : mO (some a) E = .ok a E := rfl
@[simp] theorem ev_O0 : mO (none : Option α) E = .stuck := rfl
@[simp] theorem ev_rdIm (d : D) : rdR E (.im d) = some d := rfl
@[simp] theorem ev_rdSl (i : Nat) : rdR E (.sl i) = (match at_ E i with
    | .im d => some d
    | .ow ds => some (.lst ds)
    | .xo ds => some (.lst ds)
    | .pl _ ds => some (.lst ds)
    | _ => none) := rfl
@[simp] theorem ev_Rd (r : R) : mRd r E = (match rdR E r with
  | some d => .ok d E
  | none => .stuck) := rfl
@[simp] theorem ev_Var (i : Nat) : mVar i E = (match at_ E i with
  | .im d => .ok (.im d) E
  | .un => .stuck
  | _ => .ok (.sl i) E) := rfl
@[simp] theorem ev_C (d : D) : mC d E = .ok (.im d) E := rfl
@[simp] theorem ev_R2 (a b : M R) (k : D → D → M R) : mR2 a b k = mB a fun x => mB b fun y => mB (mRd x) fun d => mB (mRd y) fun e => k d e := rfl
@[simp] theorem ev_Op2 (f : D → D → Option D) (a b : M R) : mOp2 f a b = mR2 a b fun d e => mB (mO (f d e)) fun z => mP (.im z) := rfl
@[simp] theorem ev_Op1 (f : D → Option D) (a : M R) : mOp1 f a = mB a fun x => mB (mRd x) fun d => mB (mO (f d)) fun z => mP (.im z) := rfl
@[simp] theorem ev_Bool (m : M R) : mBool m E = (match m E with
  | .ok (.im (.bl b)) E' => .ok b E'
  | .ok _ _ => .stuck
  | .exc x E' => .exc x E'
  | .stuck => .stuck) := by
  show mB m _ E = _
  unfold mB
  cases m E with
  | ok r E' =>
    cases r with
    | im d => cases d <;> rfl
    | sl i => rfl
  | _ => rfl
@[simp] theorem ev_CondT (a b : M α) : mCond true a b = a := rfl
@[simp] theorem ev_CondF (a b : M α) : mCond false a b = b := rfl
@[simp] theorem ev_NotT (m : M Bool) : mNotT m = mB m fun b => mP (!b) := rfl
@[simp] theorem ev_AndT (a b : M Bool) : mAndT a b = mB a fun c => mCond c b (mP false) := rfl
@[simp] theorem ev_OrT (a b : M Bool) : mOrT a b = mB a fun c => mCond c (mP true) b := rfl
@[simp] theorem ev_AndV (a b : M R) : mAndV a b = mB (mBool a) fun c => mCond c b (mP (.im (.bl false))) := rfl
@[simp] theorem ev_OrV (a b : M R) : mOrV a b = mB (mBool a) fun c => mCond c (mP (.im (.bl true))) b := rfl
@[simp] theorem ev_NotV (a : M R) : mNotV a = mB (mBool a) fun c => mP (.im (.bl (!c))) := rfl
@[simp] theorem ev_IfE (c : M Bool) (a b : M R) : mIfE c a b = mB c fun k => mCond k a b := rfl
@[simp] theorem ev_IfS (c : M Bool) (a b : M Fl) : mIfS c a b = mB c fun k => mCond k a b := rfl
@[simp] theorem ev_A0 : mA0 E = .ok [] E := rfl
@[simp] theorem ev_A1 (m : M R) (r : M (List R)) : mA1 m r = mB m fun x => mB r fun xs => mP (x :: xs) := rfl
@[simp] theorem ev_ImI (d : D) : mIm (.im d) E = .ok d E := rfl
@[simp] theorem ev_ImS (i : Nat) : mIm (.sl i) E = .stuck := rfl
@[simp] theorem ev_Seq (a b : M Fl) : mSeq a b E = (match a E with
  | .ok .nx E' => b E'
  | o => o) := rfl
@[simp] theorem ev_Nx : mNx E = .ok .nx E := rfl
@[simp] theorem ev_Stuck : mStuck E = .stuck := rfl
@[simp] theorem ev_Asg (m : M R) (bd : D → Env → Option Env) : mAsg m bd = mB m fun r => mB (mIm r) fun d E => match bd d E with
  | some E' => .ok .nx E'
  | none => .stuck := rfl
@[simp] theorem ev_AsgL (m : M (List D)) (i : Nat) : mAsgL m i = mB m fun ds E => match setOw i ds E with
  | some E' => .ok .nx E'
  | none => .stuck := rfl
@[simp] theorem ev_AsgF (m : M (List D)) (i : Nat) : mAsgF m i = mAsg (mFz m) (setIm i) := rfl
@[simp] theorem ev_Ret (m : M R) : mRet m = mB m fun r E => match r with
  | .im d => .ok (.rt (.im d)) E
  | .sl i => match at_ E i with
    | .ow ds => .ok (.rt (.ow ds)) E
    | _ => .stuck := rfl
@[simp] theorem ev_RetL (m : M (List D)) : mRetL m = mB m fun ds => mP (.rt (.ow ds)) := rfl
@[simp] theorem ev_Drop (m : M R) : mDrop m = mB m fun _ => mP .nx := rfl
@[simp] theorem ev_Par (i j : Nat) (a b : M R) : mPar i j a b = mB a fun x => mB b fun y => mB (mIm x) fun d => mB (mIm y) fun e E => match (setIm i d E).bind (setIm j e) with
  | some E' => .ok .nx E'
  | none => .stuck := rfl
@[simp] theorem ev_setIm0 (d x : D) (E : Env) : setIm 0 d (.im x :: E) = some (.im d :: E) := rfl
@[simp] theorem ev_setUn0 (d : D) (E : Env) : setIm 0 d (.un :: E) = some (.im d :: E) := rfl
@[simp] theorem ev_setOw0 (d : D) (ds : List D) (E : Env) : setIm 0 d (.ow ds :: E) = some (.im d :: E) := rfl
@[simp] theorem ev_setImS (i : Nat) (d : D) (x : Sl) (E : Env) : setIm (i + 1) d (x :: E) = (setIm i d E).map (x :: ·) := by
  unfold setIm
  rw [List.getElem?_cons_succ]
  cases E[i]? with
  | none => rfl
  | some s => cases s <;> rfl
@[simp] theorem ev_setOwIm (ds : List D) (x : D) (E : Env) : setOw 0 ds (.im x :: E) = some (.ow ds :: E) := rfl
@[simp] theorem ev_setOwUn (ds : List D) (E : Env) : setOw 0 ds (.un :: E) = some (.ow ds :: E) := rfl
@[simp] theorem ev_setOwOw (ds x : List D) (E : Env) : setOw 0 ds (.ow x :: E) = some (.ow ds :: E) := rfl
@[simp] theorem ev_setOwS (i : Nat) (ds : List D) (x : Sl) (E : Env) : setOw (i + 1) ds (x :: E) = (setOw i ds E).map (x :: ·) := by
  unfold setOw
  rw [List.getElem?_cons_succ]
  cases E[i]? with
  | none => rfl
  | some s => cases s <;> rfl
@[simp] theorem ev_bNil : bNil [] E = some E := rfl
@[simp] theorem ev_bCons (b : D → Env → Option Env) (r : List D → Env → Option Env) (d : D) (ds : List D) : bCons b r (d :: ds) E = (b d E).bind (r ds) := rfl
@[simp] theorem ev_bTup (b : List D → Env → Option Env) (ds : List D) : bTup b (.tup ds) E = b ds E := rfl
/-! ### numbers -/
@[simp] theorem ev_add (a b : Int) : oAdd (.int a) (.int b) = some (.int (a + b)) := rfl
@[simp] theorem ev_sub (a b : Int) : oSub (.int a) (.int b) = some (.int (a - b)) := rfl
@[simp] theorem ev_lt (a b : Int) : oLt (.int a) (.int b) = some (.bl (decide (a < b))) := rfl
@[simp] theorem ev_le (a b : Int) : oLe (.int a) (.int b) = some (.bl (decide (a ≤ b))) := rfl
@[simp] theorem ev_gt (a b : Int) : oGt (.int a) (.int b) = some (.bl (decide (b < a))) := rfl
@[simp] theorem ev_ge (a b : Int) : oGe (.int a) (.int b) = some (.bl (decide (b ≤ a))) := rfl
@[simp] theorem ev_neg (a : Int) : oNeg (.int a) = some (.int (-a)) := rfl
theorem ev_mulE (a b : Int) : oMul (.int a) (.int b) = ifO (mulOk a b) (.int (a * b)) := rfl
@[simp] theorem ev_mul (a b : Int) (h : mulOk a b = true) : oMul (.int a) (.int b) = some (.int (a * b)) := by rw [ev_mulE, h]; rfl
@[simp] theorem ev_fdiv (a b : Int) (h : fdivOk b = true) : oFdiv (.int a) (.int b) = some (.int (a.fdiv b)) := by
  show ifO (fdivOk b) _ = _
  rw [h]; rfl
theorem pow_of {i j : Int} (h0 : 0 ≤ j) (h1 : j ≤ 1000000) (h2 : i.natAbs ≤ 9223372036854775808) : powOk i j = true := by
  unfold powOk
  exact Bool.and_eq_true_iff.mpr ⟨decide_eq_true h0, Bool.and_eq_true_iff.mpr ⟨decide_eq_true h1, Nat.ble_eq_true_of_le h2⟩⟩
@[simp] theorem ev_mod (a b : Int) (h : b ≠ 0) : oMod (.int a) (.int b) = some (.int (a.fmod b)) := by
  show ifO (decide (b ≠ 0)) _ = _
  rw [decide_eq_true h]; rfl
@[simp] theorem ev_eqI (a b : Int) : oEqS (.int a) (.int b) = some (.bl (decide (a = b))) := rfl
@[simp] theorem ev_neI (a b : Int) : oNeS (.int a) (.int b) = some (.bl (!decide (a = b))) := rfl
@[simp] theorem ev_eqStr (a b : Str) : oEqS (.str a) (.str b) = some (.bl (decide (a = b))) := rfl
@[simp] theorem ev_eqNI (a : Int) : oEqS .non (.int a) = some (.bl false) := rfl
@[simp] theorem ev_eqIN (a : Int) : oEqS (.int a) .non = some (.bl false) := rfl
@[simp] theorem ev_isN (d : D) : oIsN d .non = some (.bl (isNon d)) := rfl
@[simp] theorem ev_isNotN (d : D) : oIsNotN d .non = some (.bl (!isNon d)) := rfl
@[simp] theorem ev_isNon0 : isNon .non = true := rfl
@[simp] theorem ev_isNonI (a : Int) : isNon (.int a) = false := rfl
@[simp] theorem ev_isNonT (a : List D) : isNon (.tup a) = false := rfl
@[simp] theorem ev_isNonL (a : List D) : isNon (.lst a) = false := rfl
@[simp] theorem ev_ixL (ds : List D) (i : Int) : oIxL (.lst ds) (.int i) = atI ds i := rfl
@[simp] theorem ev_ixS (ns : List Int) (i : Int) : oIxL (.scr ns) (.int i) = (atI ns i).map D.int := rfl
@[simp] theorem ev_ixT (ds : List D) (i : Int) : oIxT (.tup ds) (.int i) = atI ds i := rfl
@[simp] theorem ev_at_nat {γ : Type} (ds : List γ) (i : Nat) : atI ds (i : Int) = ds[i]? := by
  unfold atI ixN
  by_cases h : i < ds.length
  · rw [if_pos (by omega), if_pos (by omega)]
    simp
  · rw [if_pos (by omega), if_neg (by omega)]
    simp
    omega
@[simp] theorem ev_at_0 {γ : Type} (ds : List γ) : atI ds 0 = ds[0]? := ev_at_nat ds 0
@[simp] theorem ev_at_1 {γ : Type} (ds : List γ) : atI ds 1 = ds[1]? := ev_at_nat ds 1
theorem ev_at_last (ds : List D) : atI ds (-1) = ds[ds.length - 1]? := by
  unfold atI ixN
  cases ds with
  | nil => rfl
  | cons d ds =>
    rw [if_neg (by omega), if_pos (by simp; omega)]
    simp
    rw [show (-1 + ((ds.length : Int) + 1)).toNat = ds.length by omega]
    simp
/-! ### lists and tuples -/
@[simp] theorem ev_imAll0 : imAll [] = some [] := rfl
@[simp] theorem ev_imAll1 (d : D) (rs : List R) : imAll (.im d :: rs) = (imAll rs).map (d :: ·) := rfl
@[simp] theorem ev_imAllS (i : Nat) (rs : List R) : imAll (.sl i :: rs) = none := rfl
@[simp] theorem ev_rdAll0 : rdAll E [] = some [] := rfl
@[simp] theorem ev_rdAll1 (r : R) (rs : List R) : rdAll E (r :: rs) = (match rdR E r, rdAll E rs with
  | some d, some ds => some (d :: ds)
  | _, _ => none) := rfl
@[simp] theorem ev_Fz (m : M (List D)) : mFz m = mB m fun ds => mP (.im (.lst ds)) := rfl
@[simp] theorem ev_Fix (i : Nat) : mFix i E = (match at_ E i with
  | .ow ds => .ok (.im (.lst ds)) (E.set i (.im (.lst ds)))
  | .im d => .ok (.im d) E
  | _ => .stuck) := rfl
@[simp] theorem ev_Lst (m : M (List R)) : mLst m = mB m fun rs => mB (mO (imAll rs)) fun ds => mO (ifO (szOk ds.length) ds) := rfl
@[simp] theorem ev_Tup (m : M (List R)) : mTup m = mB m fun rs => mB (mO (imAll rs)) fun ds => mO (ifO (szOk ds.length) (.im (.tup ds))) := rfl
theorem sz_of {n : Nat} (h : n ≤ 1000000) : szOk n = true := by
  unfold szOk
  exact decide_eq_true (by rw [sizeLine_eq]; omega)
@[simp] theorem ev_ifT (a : α) : ifO true a = some a := rfl
@[simp] theorem ev_ifF (a : α) : ifO false a = none := rfl
@[simp] theorem ev_sz0 : szOk 0 = true := sz_of (by decide)
@[simp] theorem ev_sz1 : szOk 1 = true := sz_of (by decide)
@[simp] theorem ev_sz2 : szOk 2 = true := sz_of (by decide)
@[simp] theorem ev_sz3 : szOk 3 = true := sz_of (by decide)
@[simp] theorem ev_sz4 : szOk 4 = true := sz_of (by decide)
@[simp] theorem ev_L2 (f : D → D → Option (List D)) (a b : M R) : mL2 f a b = mB a fun x => mB b fun y => mB (mRd x) fun d => mB (mRd y) fun e => mO (f d e) := rfl
@[simp] theorem ev_cat (xs ys : List D) (h : szOk (xs.length + ys.length) = true) : oCat (.lst xs) (.lst ys) = some (xs ++ ys) := by
  show ifO _ _ = _
  rw [h]; rfl
@[simp] theorem ev_CatT (a b : M R) : mCatT a b = mR2 a b fun d e => mO (oCatT d e) := rfl
@[simp] theorem ev_catT (xs ys : List D) (h : szOk (xs.length + ys.length) = true) : oCatT (.tup xs) (.tup ys) = some (.im (.tup (xs ++ ys))) := by
  show ifO _ _ = _
  rw [h]; rfl
@[simp] theorem ev_NoPart : mNoPart E = .ok none E := rfl
@[simp] theorem ev_Part (m : M R) : mPart m E = (match m E with
  | .ok (.im (.int i)) E' => .ok (some i) E'
  | .ok _ _ => .stuck
  | .exc x E' => .exc x E'
  | .stuck => .stuck) := by
  show mB m _ E = _
  unfold mB
  cases m E with
  | ok r E' =>
    cases r with
    | im d => cases d <;> rfl
    | sl i => rfl
  | _ => rfl
@[simp] theorem ev_SlL (m : M R) (lo hi : M (Option Int)) : mSlL m lo hi E = (match m E with
  | .ok r E1 => (match lo E1 with
    | .ok l E2 => (match hi E2 with
      | .ok u E3 => (match rdR E3 r with
        | some (.lst ds) => .ok (cutD ds l u) E3
        | _ => .stuck)
      | .exc x E' => .exc x E'
      | .stuck => .stuck)
    | .exc x E' => .exc x E'
    | .stuck => .stuck)
  | .exc x E' => .exc x E'
  | .stuck => .stuck) := by
  unfold mSlL mB
  cases m E with
  | ok r E1 =>
    dsimp only
    cases lo E1 with
    | ok l E2 =>
      dsimp only
      cases hi E2 with
      | ok u E3 =>
        dsimp only
        unfold mRd
        cases rdR E3 r with
        | none => rfl
        | some d => cases d <;> rfl
      | _ => rfl
    | _ => rfl
  | _ => rfl
@[simp] theorem ev_SlT (m : M R) (lo hi : M (Option Int)) : mSlT m lo hi E = (match m E with
  | .ok r E1 => (match lo E1 with
    | .ok l E2 => (match hi E2 with
      | .ok u E3 => (match rdR E3 r with
        | some (.tup ds) => .ok (.im (.tup (cutD ds l u))) E3
        | _ => .stuck)
      | .exc x E' => .exc x E'
      | .stuck => .stuck)
    | .exc x E' => .exc x E'
    | .stuck => .stuck)
  | .exc x E' => .exc x E'
  | .stuck => .stuck) := by
  unfold mSlT mB
  cases m E with
  | ok r E1 =>
    dsimp only
    cases lo E1 with
    | ok l E2 =>
      dsimp only
      cases hi E2 with
      | ok u E3 =>
        dsimp only
        unfold mRd
        cases rdR E3 r with
        | none => rfl
        | some d => cases d <;> rfl
      | _ => rfl
    | _ => rfl
  | _ => rfl
@[simp] theorem ev_Rev (m : M R) : mRev m E = (match m E with
  | .ok r E' => (match rdR E' r with
    | some (.lst ds) => .ok ds.reverse E'
    | _ => .stuck)
  | .exc x E' => .exc x E'
  | .stuck => .stuck) := by
  unfold mRev mB
  cases m E with
  | ok r E' =>
    dsimp only
    unfold mRd
    cases rdR E' r with
    | none => rfl
    | some d => cases d <;> rfl
  | _ => rfl
/-! ### slices, plainly -/
theorem cut_all (xs : List D) : cutD xs none none = xs := by
  unfold cutD
  simp [HT.sIx]
theorem sIx_nat (n k : Nat) (dv : Nat) : HT.sIx n dv (some (k : Int)) = min k n := by
  unfold HT.sIx
  simp
  omega
theorem cut_from (xs : List D) (k : Nat) : cutD xs (some (k : Int)) none = xs.drop k := by
  unfold cutD
  rw [sIx_nat]
  have e : HT.sIx xs.length xs.length none = xs.length := by simp [HT.sIx]
  rw [e]
  by_cases h : k ≤ xs.length
  · rw [Nat.min_eq_left h, List.take_of_length_le (by rw [List.length_drop]; exact Nat.le_refl _)]
  · rw [Nat.min_eq_right (by omega), List.drop_eq_nil_of_le (Nat.le_refl _), List.drop_eq_nil_of_le (by omega), List.take_nil]
theorem cut_to (xs : List D) (k : Nat) : cutD xs none (some (k : Int)) = xs.take k := by
  unfold cutD
  rw [sIx_nat]
  have e : HT.sIx xs.length 0 none = 0 := by simp [HT.sIx]
  rw [e, List.drop_zero, Nat.sub_zero]
  by_cases h : k ≤ xs.length
  · rw [Nat.min_eq_left h]
  · rw [Nat.min_eq_right (by omega), List.take_of_length_le (Nat.le_refl _), List.take_of_length_le (by omega)]
@[simp] theorem cut_1 (xs : List D) : cutD xs (some 1) none = xs.drop 1 := cut_from xs 1
@[simp] theorem cut_a1 (xs : List D) : cutD xs none (some 1) = xs.take 1 := cut_to xs 1
/-! ### fields, instances -/
@[simp] theorem ev_ObjI (c : Str) (ns : List Str) (ds : List D) : mObj (.im (.ins c ns ds)) E = .ok (c, ns, ds) E := rfl
@[simp] theorem ev_ObjS (i : Nat) : mObj (.sl i) E = (match at_ E i with
    | .se _ c ns ds => .ok (c, ns, ds) E
    | _ => .stuck) := rfl
@[simp] theorem ev_Fld (cs : List Str) (f : Str) (m : M R) : mFld cs f m = mB m fun r => mB (mObj r) fun o => mCond (inCs cs o.1) (mO ((lookF o.2.1 o.2.2 f).map R.im)) fun _ => .stuck := rfl
@[simp] theorem ev_inCs (c : Str) : inCs [c] c = true := by simp [inCs]
theorem ev_setSe (k : Nat) (c : Str) (ns : List Str) (ds : List D) (f : Str) (d : D) (E : Env) (cs : List Str) : setSe cs 0 f d (.se k c ns ds :: E) = if f ∈ ns then none else if ns.length < 1000 then ifO (inCs cs c) (.se k c (ns ++ [f]) (ds ++ [d]) :: E) else none := rfl
@[simp] theorem ev_FldSet (cs : List Str) (i : Nat) (f : Str) (m : M R) : mFldSet cs i f m = mB m fun r => mB (mIm r) fun d E => match setSe cs i f d E with
  | some E' => .ok .nx E'
  | none => .stuck := rfl
/-! ### built-ins -/
@[simp] theorem ev_len (d : D) : oLen [d] = (itemsOf d).map fun xs => D.int (xs.length : Int) := rfl
@[simp] theorem ev_itL (ds : List D) : itemsOf (.lst ds) = some ds := rfl
@[simp] theorem ev_itT (ds : List D) : itemsOf (.tup ds) = some ds := rfl
@[simp] theorem ev_itS (ns : List Int) : itemsOf (.scr ns) = some (ns.map D.int) := rfl
@[simp] theorem ev_int1 (i : Int) : oInt [.int i] = some (.int i) := rfl
@[simp] theorem ev_abs1 (i : Int) : oAbs [.int i] = some (.int (if i < 0 then -i else i)) := rfl
@[simp] theorem ev_max2 (i j : Int) : oMax2 [.int i, .int j] = some (.int (if j > i then j else i)) := rfl
@[simp] theorem ev_min2 (i j : Int) : oMin2 [.int i, .int j] = some (.int (if j < i then j else i)) := rfl
@[simp] theorem ev_gcd2 (i j : Int) : oGcd [.int i, .int j] = some (.int ((Nat.gcd i.natAbs j.natAbs : Nat) : Int)) := rfl
@[simp] theorem ev_sum1 (xs : List D) : oSum [.lst xs] = (intsOf xs).map fun ns => D.int ns.sum := rfl
@[simp] theorem ev_listOf (d : D) : oListOf [d] = itemsOf d := rfl
@[simp] theorem ev_own1 (ds : List D) : ownOf (.ow ds) = some ds := rfl
@[simp] theorem ev_own2 (k : Nat) (ds : List D) : ownOf (.pl k ds) = some ds := rfl
@[simp] theorem ev_own3 (ds : List D) : ownOf (.xo ds) = some ds := rfl
@[simp] theorem ev_put1 (x ds : List D) : putOwn (.ow x) ds = .ow ds := rfl
@[simp] theorem ev_put2 (k : Nat) (x ds : List D) : putOwn (.pl k x) ds = .pl k ds := rfl
@[simp] theorem ev_put3 (x ds : List D) : putOwn (.xo x) ds = .xo ds := rfl
@[simp] theorem ev_app (ds : List D) (d : D) (h : decide (ds.length < sizeLine) = true) : fApp ds [d] = some (.non, ds ++ [d]) := by
  show ifO _ _ = _
  rw [h]; rfl
theorem sl_of {n : Nat} (h : n < 1000000) : decide (n < sizeLine) = true := decide_eq_true (by rw [sizeLine_eq]; omega)
/-! ### calls -/
@[simp] theorem ev_crV1 (d : D) : crV (.ok (.im d) []) E = .ok (.im d) E := rfl
@[simp] theorem ev_crV2 (ds : List D) : crV (.ok (.ow ds) []) E = .ok (.im (.lst ds)) E := rfl
@[simp] theorem ev_crL (ds : List D) : crL (.ok (.ow ds) []) E = .ok ds E := rfl
@[simp] theorem ev_crV11 (j : Nat) (d : D) (ds' : List D) : crV1 j (.ok (.im d) [ds']) E = .ok (.im d) (E.set j (putOwn (at_ E j) ds')) := rfl
@[simp] theorem ev_ciV (c : Str) (ns : List Str) (xs : List D) : ciV (.ok c ns xs) E = .ok (.im (.ins c ns xs)) E := rfl
@[simp] theorem ev_Rds (rs : List R) : mRds rs E = (match rdAll E rs with
  | some ds => .ok ds E
  | none => .stuck) := rfl
@[simp] theorem ev_CB (f : List D → Option D) (m : M (List R)) : mCB f m = mB m fun rs => mB (mRds rs) fun ds => mB (mO (f ds)) fun z => mP (.im z) := rfl
@[simp] theorem ev_CL (f : List D → Option (List D)) (m : M (List R)) : mCL f m = mB m fun rs => mB (mRds rs) fun ds => mO (f ds) := rfl
@[simp] theorem ev_pop0 (ds : List D) : fPopAt (d :: ds) [.int 0] = some (d, ds) := by
  have e : seqIndex? 0 (d :: ds).length = some 0 := by
    unfold seqIndex?
    simp
  show (if -(2 ^ 63) ≤ (0 : Int) ∧ (0 : Int) < 2 ^ 63 then (seqIndex? 0 (d :: ds).length).bind fun k => (d :: ds)[k]?.map fun x => (x, (d :: ds).eraseIdx k) else none) = _
  rw [if_pos (by decide), e]
  rfl
@[simp] theorem ev_Mut (i : Nat) (f : List D → List D → Option (D × List D)) (m : M (List R)) : mMut i f m E = (match ownOf (at_ E i) with
  | none => .stuck
  | some _ => mB m (fun rs => mB (mO (imAll rs)) fun as E => match ownOf (at_ E i) with
    | none => .stuck
    | some ds => match f ds as with
      | none => .stuck
      | some (z, ds') => .ok (.im z) (E.set i (putOwn (at_ E i) ds'))) E) := rfl
@[simp] theorem ev_SetIt (i : Nat) (m mi : M R) : mSetIt i m mi = mB m fun r => mB (mIm r) fun d E0 => match ownOf (at_ E0 i) with
  | none => .stuck
  | some _ => mB mi (fun r2 => mB (mIm r2) fun e E => match ownOf (at_ E i), e with
    | some ds, .int k => match ixN ds.length k with
      | some j => .ok .nx (E.set i (putOwn (at_ E i) (ds.set j d)))
      | none => .stuck
    | _, _ => .stuck) E0 := rfl
@[simp] theorem ev_ix0 (n : Nat) : ixN (n + 1) 0 = some 0 := by
  unfold ixN
  rw [if_pos (by decide), if_pos (by omega)]
  rfl
@[simp] theorem ev_Call (p : List Ag → Cr) (dds : List D) (m : M (List R)) : mCall p dds m = mB m fun rs => mB (mO (imAll rs)) fun ds E => crV (p ((ds ++ dds).map Ag.im)) E := rfl
@[simp] theorem ev_CallL (p : List Ag → Cr) (dds : List D) (m : M (List R)) : mCallL p dds m = mB m fun rs => mB (mO (imAll rs)) fun ds E => crL (p ((ds ++ dds).map Ag.im)) E := rfl
@[simp] theorem ev_Arg1 (j : Nat) (rs : List R) : mArg1 j (.sl j :: rs) = imAll rs := by
  show (match decide (j = j) with
    | true => imAll rs
    | false => none) = _
  rw [decide_eq_true rfl]
@[simp] theorem ev_Call1 (j : Nat) (p : List Ag → Cr) (dds : List D) (m : M (List R)) : mCall1 j p dds m = mB m fun rs => mB (mO (mArg1 j rs)) fun ds E => match ownOf (at_ E j) with
  | some ds0 => crV1 j (p (.mu ds0 :: (ds ++ dds).map Ag.im)) E
  | none => .stuck := rfl
@[simp] theorem ev_Make (p : List D → Ci) (dds : List D) (m : M (List R)) : mMake p dds m = mB m fun rs => mB (mO (imAll rs)) fun ds E => ciV (p (ds ++ dds)) E := rfl
@[simp] theorem ev_For (it : M (List D)) (bd : D → Env → Option Env) (b : M Fl) : mFor it bd b = mB it fun ds => forL bd b ds := rfl
@[simp] theorem ev_While (μ : Env → Nat) (c : M Bool) (b : M Fl) : mWhile μ c b E = whileN c b (μ E) E := rfl
@[simp] theorem ev_muI (i : Nat) : muI i E = (match at_ E i with
  | .im (.int z) => z.toNat + 1
  | _ => 0) := rfl
@[simp] theorem ev_ItL (m : M R) : mItL m E = (match m E with
  | .ok (.im (.lst ds)) E' => .ok ds E'
  | .ok (.im (.scr ns)) E' => .ok (ns.map D.int) E'
  | .ok _ _ => .stuck
  | .exc x E' => .exc x E'
  | .stuck => .stuck) := by
  unfold mItL mB
  cases m E with
  | ok r E' =>
    cases r with
    | im d => cases d <;> rfl
    | sl i => rfl
  | _ => rfl
@[simp] theorem ev_ItT (m : M R) : mItT m E = (match m E with
  | .ok (.im (.tup ds)) E' => .ok ds E'
  | .ok _ _ => .stuck
  | .exc x E' => .exc x E'
  | .stuck => .stuck) := by
  unfold mItT mB
  cases m E with
  | ok r E' =>
    cases r with
    | im d => cases d <;> rfl
    | sl i => rfl
  | _ => rfl
theorem inRng_of {i : Int} (h1 : -2305843009213693952 ≤ i) (h2 : i ≤ 2305843009213693952) : inRng i = true := by
  unfold inRng
  exact Nat.ble_eq_true_of_le (by omega)
theorem rep_of {i : Int} (h1 : -4611686018427387904 ≤ i) (h2 : i ≤ 4611686018427387904) : repOk i = true := by
  unfold repOk
  exact Nat.ble_eq_true_of_le (by omega)
@[simp] theorem ev_ItR1 (m : M R) : mItR1 m E = (match m E with
  | .ok (.im (.int j)) E' => (match inRng j with
    | true => .ok (rangeD 0 j) E'
    | false => .stuck)
  | .ok _ _ => .stuck
  | .exc x E' => .exc x E'
  | .stuck => .stuck) := by
  unfold mItR1 mB
  cases m E with
  | ok r E' =>
    cases r with
    | im d =>
      cases d with
      | int j =>
        dsimp only
        unfold mItR
        rw [show inRng 0 = true from inRng_of (by decide) (by decide), Bool.true_and]
        cases inRng j <;> rfl
      | _ => rfl
    | sl i => rfl
  | _ => rfl
@[simp] theorem ev_ItR2 (m n : M R) : mItR2 m n E = (match m E with
  | .ok r E1 => (match n E1 with
    | .ok r2 E2 => (match r, r2 with
      | .im (.int i), .im (.int j) => (match inRng i && inRng j with
        | true => .ok (rangeD i j) E2
        | false => .stuck)
      | _, _ => .stuck)
    | .exc x E' => .exc x E'
    | .stuck => .stuck)
  | .exc x E' => .exc x E'
  | .stuck => .stuck) := by
  unfold mItR2 mB
  cases m E with
  | ok r E1 =>
    dsimp only
    cases n E1 with
    | ok r2 E2 =>
      cases r with
      | im d =>
        cases d with
        | int i =>
          cases r2 with
          | im d2 =>
            cases d2 with
            | int j =>
              dsimp only
              unfold mItR
              cases (inRng i && inRng j) <;> rfl
            | _ => rfl
          | sl _ => rfl
        | _ => rfl
      | sl _ => rfl
    | _ => rfl
  | _ => rfl
/-! ### loops -/
theorem for_inv {bd : D → Env → Option Env} {b : M Fl} (I : List D → Env → Prop) (step : ∀ d ds E, I (d :: ds) E → ∃ E1 E2, bd d E = some E1 ∧ b E1 = .ok .nx E2 ∧ I ds E2) : ∀ (ds : List D) (E : Env), I ds E → ∃ E', forL bd b ds E = .ok .nx E' ∧ I [] E'
  | [], E, h => ⟨E, rfl, h⟩
  | d :: ds, E, h => by
    obtain ⟨E1, E2, h1, h2, h3⟩ := step d ds E h
    obtain ⟨E', h4, h5⟩ := for_inv I step ds E2 h3
    refine ⟨E', ?_, h5⟩
    show (match bd d E with
      | none => _
      | some E1 => _) = _
    rw [h1]
    show (match b E1 with
      | .ok .nx E' => forL bd b ds E'
      | .ok .ct E' => forL bd b ds E'
      | .ok .bk E' => .ok .nx E'
      | o => o) = _
    rw [h2]
    exact h4
theorem while_inv {c : M Bool} {b : M Fl} (I : Nat → Env → Prop) (Z : Env → Prop) (step : ∀ n E, I n E → (∃ E1, c E = .ok false E1 ∧ Z E1) ∨ ∃ E1 E2 m, c E = .ok true E1 ∧ b E1 = .ok .nx E2 ∧ m < n ∧ I m E2) : ∀ (k n : Nat) (E : Env), I n E → n < k → ∃ E', whileN c b k E = .ok .nx E' ∧ Z E'
  | 0, n, E, h, hn => absurd hn (Nat.not_lt_zero _)
  | k + 1, n, E, h, hn => by
    rcases step n E h with ⟨E1, h1, h2⟩ | ⟨E1, E2, m, h1, h2, h3, h4⟩
    · refine ⟨E1, ?_, h2⟩
      unfold whileN mB
      rw [h1]
      rfl
    · obtain ⟨E', h5, h6⟩ := while_inv I Z step k m E2 h4 (by omega)
      refine ⟨E', ?_, h6⟩
      rw [show whileN c b (k + 1) = mB c _ from rfl]
      unfold mB
      rw [h1]
      dsimp only
      rw [h2]
      exact h5
/-- a slot that may be bound -/
def Free (s : Sl) : Prop := s = .un ∨ ∃ d, s = .im d
theorem Free.un : Free .un := .inl rfl
theorem Free.im (d : D) : Free (.im d) := .inr ⟨d, rfl⟩
@[simp] theorem ev_setFr (s : Sl) (h : Free s) (d : D) (E : Env) : setIm 0 d (s :: E) = some (.im d :: E) := by
  rcases h with rfl | ⟨x, rfl⟩ <;> rfl
theorem mul_r (i j : Int) (h1 : -9223372036854775808 ≤ j) (h2 : j ≤ 9223372036854775808) : mulOk i j = true := by
  unfold mulOk
  rw [Bool.or_eq_true, Bool.or_eq_true]
  exact .inr (.inr (Nat.ble_eq_true_of_le (by omega)))
theorem mul_l (i j : Int) (h1 : -9223372036854775808 ≤ i) (h2 : i ≤ 9223372036854775808) : mulOk i j = true := by
  unfold mulOk
  rw [Bool.or_eq_true, Bool.or_eq_true]
  exact .inr (.inl (Nat.ble_eq_true_of_le (by omega)))
/-- numbers of some bits -/
theorem mul_b (i j : Int) {a b : Nat} (h1 : i.natAbs < 2 ^ a) (h2 : j.natAbs < 2 ^ b) (h : a + b < 1000000) : mulOk i j = true := by
  unfold mulOk
  rw [Bool.or_eq_true]
  refine .inl (decide_eq_true ?_)
  have k1 : i.natAbs.log2 ≤ a := by
    by_cases z : i.natAbs = 0
    · rw [z]; simp
    · exact Nat.le_of_lt ((Nat.log2_lt z).mpr h1)
  have k2 : j.natAbs.log2 ≤ b := by
    by_cases z : j.natAbs = 0
    · rw [z]; simp
    · exact Nat.le_of_lt ((Nat.log2_lt z).mpr h2)
  omega
theorem div_b (j : Int) {b : Nat} (h0 : j ≠ 0) (h2 : j.natAbs < 2 ^ b) (h : b < 9000) : fdivOk j = true := by
  unfold fdivOk
  rw [Bool.and_eq_true]
  refine ⟨decide_eq_true h0, decide_eq_true ?_⟩
  have k2 : j.natAbs.log2 < b := (Nat.log2_lt (by omega)).mpr h2
  omega
@[simp] theorem ev_pow (a b : Int) (h : powOk a b = true) : oPow (.int a) (.int b) = some (.int (a ^ b.toNat)) := by
  show ifO _ _ = _
  rw [h]; rfl
theorem mem_range {d : D} {lo hi : Int} (h : d ∈ rangeD lo hi) : ∃ i : Int, d = .int i ∧ lo ≤ i ∧ i < hi := by
  unfold rangeD at h
  obtain ⟨k, hk, e⟩ := List.mem_map.mp h
  have := List.mem_range.mp hk
  exact ⟨_, e.symm, by omega, by omega⟩
theorem range_len (lo hi : Int) : (rangeD lo hi).length = (hi - lo).toNat := by
  unfold rangeD
  rw [List.length_map, List.length_range]
@[simp] theorem ev_plK0 : plKs [] = [] := rfl
@[simp] theorem ev_plD0 : plDs [] = [] := rfl
@[simp] theorem ev_plK (s : Sl) (h : Free s) (E : Env) : plKs (s :: E) = plKs E := by
  rcases h with rfl | ⟨x, rfl⟩ <;> rfl
@[simp] theorem ev_plD (s : Sl) (h : Free s) (E : Env) : plDs (s :: E) = plDs E := by
  rcases h with rfl | ⟨x, rfl⟩ <;> rfl
@[simp] theorem ev_freeU : Free .un := .un
@[simp] theorem ev_freeI (d : D) : Free (.im d) := .im d
@[simp] theorem ev_plKo (ds : List D) (E : Env) : plKs (.ow ds :: E) = plKs E := rfl
@[simp] theorem ev_plDo (ds : List D) (E : Env) : plDs (.ow ds :: E) = plDs E := rfl
@[simp] theorem ev_plKp (k : Nat) (ds : List D) (E : Env) : plKs (.pl k ds :: E) = k :: plKs E := rfl
@[simp] theorem ev_plDp (k : Nat) (ds : List D) (E : Env) : plDs (.pl k ds :: E) = ds :: plDs E := rfl
theorem for_cons {bd : D → Env → Option Env} {b : M Fl} {d : D} {ds : List D} {E1 E2 : Env} (h1 : bd d E = some E1) (h2 : b E1 = .ok .nx E2) : forL bd b (d :: ds) E = forL bd b ds E2 := by
  show (match bd d E with
    | none => _
    | some E1 => _) = _
  rw [h1]
  show (match b E1 with
    | .ok .nx E' => forL bd b ds E'
    | .ok .ct E' => forL bd b ds E'
    | .ok .bk E' => .ok .nx E'
    | o => o) = _
  rw [h2]
/-! ### rows of ints are equal, or not -/
theorem py_ints : ∀ l : List Int, toPys (l.map D.int) = some (l.map PyData.int)
  | [] => by simp [toPys]
  | a :: l => by
    rw [List.map_cons, toPys, py_ints l]
    simp [toPy]
theorem lay_ints : ∀ l : List Int, PyData.canLayAll0 (l.map PyData.int) = true
  | [] => by simp [PyData.canLayAll0]
  | a :: l => by
    rw [List.map_cons, PyData.canLayAll0, lay_ints l]
    simp [PyData.canLay0]
theorem dep_ints : ∀ l : List Int, PyData.depthAll (l.map PyData.int) = 0
  | [] => by simp [PyData.depthAll]
  | a :: l => by
    rw [List.map_cons, PyData.depthAll, dep_ints l]
    simp [PyData.depth]
theorem eqv_ints : ∀ l m : List Int, PyData.eqvAll (l.map PyData.int) (m.map PyData.int) = decide (l = m)
  | [], [] => by simp [PyData.eqvAll]
  | [], b :: m => by simp [PyData.eqvAll]
  | a :: l, [] => by simp [PyData.eqvAll]
  | a :: l, b :: m => by
    rw [List.map_cons, List.map_cons, PyData.eqvAll, eqv_ints l m]
    by_cases h : a = b
    · subst h
      simp [PyData.eqv]
    · have : (a == b) = false := by simpa using h
      simp [PyData.eqv, this, h]
theorem eqL_ints (l m : List Int) : oEqD (.lst (l.map D.int)) (.lst (m.map D.int)) = some (.bl (decide (l = m))) := by
  have h : ∀ l : List Int, SeqAt.shaped (PyData.list (l.map PyData.int)) = true := by
    intro l
    unfold SeqAt.shaped
    rw [PyData.canLay0, lay_ints, PyData.depth, dep_ints]
    rfl
  unfold oEqD eqD
  simp [toPy, py_ints, h, PyData.eqv, eqv_ints]
theorem eqT_ints (l m : List Int) : oEqD (.tup (l.map D.int)) (.tup (m.map D.int)) = some (.bl (decide (l = m))) := by
  have h : ∀ l : List Int, SeqAt.shaped (PyData.tuple (l.map PyData.int)) = true := by
    intro l
    unfold SeqAt.shaped
    rw [PyData.canLay0, lay_ints, PyData.depth, dep_ints]
    rfl
  unfold oEqD eqD
  simp [toPy, py_ints, h, PyData.eqv, eqv_ints]
@[simp] theorem neT_nil : oNeD (.tup []) (.tup []) = some (.bl false) := by
  have h := eqT_ints [] []
  unfold oEqD at h
  unfold oNeD
  obtain ⟨b, h1, h2⟩ := Option.map_eq_some_iff.mp h
  rw [show eqD (.tup []) (.tup []) = some b from h1]
  cases h2
  rfl
@[simp] theorem ev_sum2L (xs : List D) : oSum2 [.lst xs] = (intsOf xs).map fun ns => D.int ns.sum := rfl
@[simp] theorem ev_sum2T (xs : List D) : oSum2 [.tup xs] = (intsOf xs).map fun ns => D.int ns.sum := rfl
@[simp] theorem intsOf_map : ∀ l : List Int, intsOf (l.map D.int) = some l
  | [] => rfl
  | a :: l => by
    show (intsOf (l.map D.int)).map (a :: ·) = _
    rw [intsOf_map l]
    rfl
@[simp] theorem ev_Meth (c f : Str) (p : List Ag → Cr) (dds : List D) (o : M R) (m : M (List R)) : mMeth c f p dds o m E = (match o E with
  | .ok (.im (.ins c' ns xs)) E1 => (match decide (c' = c) && !hasF ns f with
    | true => mB m (fun rs => mB (mO (imAll rs)) fun ds E => crV (p ((.ins c' ns xs :: (ds ++ dds)).map Ag.im)) E) E1
    | false => .stuck)
  | .ok _ _ => .stuck
  | .exc x E' => .exc x E'
  | .stuck => .stuck) := by
  unfold mMeth
  rw [ev_B]
  cases o E with
  | ok r E1 =>
    cases r with
    | sl i => rfl
    | im d =>
      cases d with
      | ins c' ns xs =>
        dsimp only
        cases (decide (c' = c) && !hasF ns f) <;> rfl
      | _ => rfl
  | _ => rfl
@[simp] theorem ev_TupOf (m : M (List R)) : mTupOf m E = (match m E with
  | .ok rs E1 => (match rdAll E1 rs with
    | some [.lst xs] => .ok (.im (.tup xs)) E1
    | some [.tup xs] => .ok (.im (.tup xs)) E1
    | _ => .stuck)
  | .exc x E' => .exc x E'
  | .stuck => .stuck) := by
  unfold mTupOf mB
  cases m E with
  | ok rs E1 =>
    dsimp only
    unfold mRds
    cases rdAll E1 rs with
    | none => rfl
    | some ds =>
      dsimp only
      cases ds with
      | nil => rfl
      | cons d r =>
        cases r with
        | nil => cases d <;> rfl
        | cons _ _ => cases d <;> rfl
  | _ => rfl
@[simp] theorem ev_Isi (f : Kd → Option Bool) (m : M R) : mIsi f m E = (match m E with
  | .ok r E1 => (match rdR E1 r with
    | some d => (match (kdOf d).bind f with
      | some b => .ok (.im (.bl b)) E1
      | none => .stuck)
    | none => .stuck)
  | .exc x E' => .exc x E'
  | .stuck => .stuck) := by
  unfold mIsi mB
  cases m E with
  | ok r E1 =>
    dsimp only
    unfold mRd
    cases rdR E1 r with
    | none => rfl
    | some d =>
      dsimp only
      cases (kdOf d).bind f <;> rfl
  | _ => rfl
@[simp] theorem ev_Aug (i : Nat) (g : D → D → Option D) (m : M R) : mAug i g m E = (match at_ E i with
  | .im (.int a) => mAsg (mOp2 g (fun E => .ok (.im (.int a)) E) m) (setIm i) E
  | _ => .stuck) := rfl
@[simp] theorem ev_len0 (ds : List D) : oLen [.tup ds] = some (.int (ds.length : Int)) := rfl
@[simp] theorem ev_ItA (m : M R) : mItA m E = (match m E with
  | .ok (.im (.lst ds)) E' => .ok ds E'
  | .ok (.im (.scr ns)) E' => .ok (ns.map D.int) E'
  | .ok (.im (.tup ds)) E' => .ok ds E'
  | .ok _ _ => .stuck
  | .exc x E' => .exc x E'
  | .stuck => .stuck) := by
  unfold mItA
  rw [ev_ItL, ev_ItT]
  cases m E with
  | ok r E' =>
    cases r with
    | im d => cases d <;> rfl
    | sl i => rfl
  | _ => rfl
theorem rg_of {i j c : Int} (h1 : j.natAbs ≤ 1152921504606846976) (h2 : i.natAbs ≤ 1152921504606846976) (h3 : c.natAbs ≤ 1048576) (h4 : c ≠ 0) : rgOk i j c = true := by
  unfold rgOk
  rw [Nat.ble_eq_true_of_le h1, Nat.ble_eq_true_of_le h2, Nat.ble_eq_true_of_le h3]
  cases q : Nat.ble c.natAbs 0 with
  | false => rfl
  | true =>
    have := Nat.le_of_ble_eq_true q
    omega
theorem ev_rs3 {i j c : Int} (h : rgOk i j c = true) : mRs3 [.int i, .int j, .int c] E = .ok (rangeS i j c) E := by
  rcases mRs3_ok [.int i, .int j, .int c] E with ⟨i', j', c', e, _, q⟩ | q
  · cases e
    exact q
  · unfold mRs3 at q
    dsimp only at q
    rw [h] at q
    cases q
end
end Pu
set_option Elab.async false
set_option linter.all false
set_option maxRecDepth 100000
set_option maxHeartbeats 4000000
/-! Pu: the draws that the laws k61 .. k71 share: a pool of whole numbers, a digit drawn from it. -/
namespace Pu
open PySem PyProof.Rows L2
def b_draw : M Fl := (mSeq (mIfS (mAndT (mBool (mOp2 oEqS (mOp2 oIxL (mVar 0) (mC (.int 0))) (mC (.int 0)))) (mBool (mOp2 oGt (mCB oLen (mA1 (mVar 0) mA0)) (mC (.int 1))))) (mDrop (mMut 0 fPopAt (mA1 (mC (.int 0)) mA0))) mNx) (mSeq (mAsg (mOp2 oMod (mCB oInt (mA1 (mOp2 oIxL (mVar 0) (mC (.int 0))) mA0)) (mVar 1)) (setIm 2)) (mSeq (mSetIt 0 (mOp2 oFdiv (mOp2 oIxL (mVar 0) (mC (.int 0))) (mVar 1)) (mC (.int 0))) (mRet (mVar 2)))))
def p_draw : List Ag → Cr := runFn 2 1 b_draw
/-- a pool: whole numbers, not none of them -/
def PoolOk (ds : List D) : Prop := ds ≠ [] ∧ ds.length ≤ 70 ∧ ∀ d ∈ ds, ∃ n : Nat, d = .int n
theorem draw_pop (r : List D) (n : Nat) (z : Int) (hz : 1 ≤ z) (hz2 : fdivOk z = true) : p_draw [.mu (.int 0 :: .int n :: r), .im (.int z)] = .ok (.im (.int ((n : Int).fmod z))) [.int ((n : Int).fdiv z) :: r] := by
  have e2 : z ≠ 0 := by omega
  have e3 : (1:Int) < r.length + 1 + 1 := by omega
  simp [p_draw, runFn, b_draw, entryE, e2, hz2, e3, finE, plKs, plDs]
theorem draw_keep (n : Nat) (r : List D) (z : Int) (hz : 1 ≤ z) (hz2 : fdivOk z = true) (hr : n ≠ 0 ∨ r = []) : p_draw [.mu (.int n :: r), .im (.int z)] = .ok (.im (.int ((n : Int).fmod z))) [.int ((n : Int).fdiv z) :: r] := by
  have e2 : z ≠ 0 := by omega
  by_cases h : n = 0
  · subst h
    have := hr.resolve_left (by simp)
    subst this
    simp [p_draw, runFn, b_draw, entryE, e2, hz2, finE, plKs, plDs]
  · have e1 : ((n : Int) = 0) = False := by simp [h]
    simp [p_draw, runFn, b_draw, entryE, e2, hz2, e1, h, finE, plKs, plDs]
theorem draw_ok {ds : List D} (h : PoolOk ds) (z : Nat) (hz : 1 ≤ z) (hz2 : z < 2 ^ 60) : ∃ (r : Nat) (ds' : List D), r < z ∧ PoolOk ds' ∧ p_draw [.mu ds, .im (.int z)] = .ok (.im (.int r)) [ds'] := by
  have hf : fdivOk (z : Int) = true := by
    unfold fdivOk
    rw [Bool.and_eq_true]
    refine ⟨decide_eq_true (by omega), decide_eq_true ?_⟩
    have : z.log2 < 60 := (Nat.log2_lt (by omega)).mpr hz2
    show (Int.natAbs (z : Int)).log2 < 9000
    rw [Int.natAbs_natCast]
    omega
  have key : ∀ (n : Nat) (r : List D), r.length + 1 ≤ 70 → (∀ d ∈ r, ∃ n : Nat, d = .int n) → n % z < z ∧ PoolOk (.int ((n : Int).fdiv z) :: r) ∧ ((n : Int).fmod z) = ((n % z : Nat) : Int) := by
    intro n r h1 h2
    refine ⟨Nat.mod_lt _ (by omega), ⟨by simp, by simpa using h1, fun d hd => ?_⟩, ?_⟩
    · rcases List.mem_cons.mp hd with e | hd
      · exact ⟨n / z, by rw [e, Int.fdiv_eq_ediv_of_nonneg _ (by omega)]; rfl⟩
      · exact h2 d hd
    · rw [Int.fmod_eq_emod_of_nonneg _ (by omega)]
      rfl
  obtain ⟨h1, h2, h3⟩ := h
  cases ds with
  | nil => exact absurd rfl h1
  | cons d r =>
    obtain ⟨n, rfl⟩ := h3 d (List.mem_cons_self ..)
    have h3' : ∀ d ∈ r, ∃ n : Nat, d = .int n := fun d hd => h3 d (List.mem_cons_of_mem _ hd)
    by_cases hn : n ≠ 0 ∨ r = []
    · obtain ⟨k1, k2, k3⟩ := key n r (by simpa using h2) h3'
      exact ⟨n % z, _, k1, k2, by rw [draw_keep n r z (by omega) hf hn, k3]⟩
    · have hn0 : n = 0 := by
        by_cases q : n = 0
        · exact q
        · exact absurd (.inl q) hn
      subst hn0
      cases r with
      | nil => exact absurd (.inr rfl) hn
      | cons d2 r2 =>
        obtain ⟨n2, rfl⟩ := h3' d2 (List.mem_cons_self ..)
        obtain ⟨k1, k2, k3⟩ := key n2 r2 (by simp at h2; omega) fun d hd => h3' d (List.mem_cons_of_mem _ hd)
        exact ⟨n2 % z, _, k1, k2, by rw [show ((0 : Nat) : Int) = 0 from rfl, draw_pop r2 n2 z (by omega) hf, k3]⟩
def b_mixed : M Fl := (mSeq (mAsg (mOp2 oMod (mOp2 oAdd (mOp2 oAdd (mOp2 oMul (mCB oInt (mA1 (mVar 0) mA0)) (mC (.int 48271))) (mOp2 oMul (mVar 1) (mC (.int 69621)))) (mC (.int 1013904223))) (mC (.int 2147483647))) (setIm 2)) (mSeq (mAsg (mOp2 oMod (mOp2 oAdd (mOp2 oAdd (mOp2 oMul (mVar 2) (mVar 2)) (mOp2 oMul (mVar 1) (mC (.int 16807)))) (mC (.int 7))) (mC (.int 2147483629))) (setIm 3)) (mSeq (mAsg (mOp2 oMod (mOp2 oAdd (mOp2 oAdd (mOp2 oMul (mVar 3) (mVar 3)) (mOp2 oMul (mVar 2) (mC (.int 31)))) (mC (.int 5))) (mC (.int 2147483587))) (setIm 4)) (mRet (mOp2 oAdd (mOp2 oMul (mOp2 oAdd (mOp2 oMul (mVar 2) (mC (.int 2147483629))) (mVar 3)) (mC (.int 2147483587))) (mVar 4))))))
def p_mixed : List Ag → Cr := runFn 2 3 b_mixed
def u_pool_0 : M Fl := (mSeq (mAsg (mCB oInt (mA1 (mOp2 oIxL (mVar 0) (mVar 3)) mA0)) (setIm 4)) (mSeq (mAsg (mOp2 oMod (mOp2 oAdd (mOp2 oMul (mVar 2) (mC (.int 7))) (mVar 4)) (mC (.int 2147483647))) (setIm 2)) (mIfS (mBool (mOp2 oGe (mVar 4) (mOp2 oPow (mC (.int 10)) (mC (.int 18))))) (mDrop (mMut 1 fApp (mA1 (mOp2 oMod (mVar 4) (mOp2 oMul (mOp2 oMul (mOp2 oPow (mC (.int 10)) (mC (.int 60))) (mOp2 oPow (mC (.int 10)) (mC (.int 60)))) (mOp2 oPow (mC (.int 10)) (mC (.int 60))))) mA0))) (mDrop (mMut 1 fApp (mA1 (mCall p_mixed [] (mA1 (mVar 4) (mA1 (mVar 3) mA0))) mA0))))))
def u_pool_1 : M Fl := (mDrop (mMut 1 fApp (mA1 (mCall p_mixed [] (mA1 (mVar 2) (mA1 (mOp2 oAdd (mC (.int 100)) (mVar 3)) mA0))) mA0)))
def b_pool : M Fl := (mSeq (mAsgL (mLst mA0) 1) (mSeq (mAsg (mC (.int 0)) (setIm 2)) (mSeq (mFor (mItR1 (mCB oMin2 (mA1 (mCB oLen (mA1 (mVar 0) mA0)) (mA1 (mC (.int 63)) mA0)))) (setIm 3) u_pool_0) (mSeq (mFor (mItR1 (mC (.int 4))) (setIm 3) u_pool_1) (mRet (mVar 1))))))
def p_pool : List Ag → Cr := runFn 1 4 b_pool
theorem fm_nat {a b : Int} (h : 0 < b) : ∃ n : Nat, a.fmod b = n ∧ (n : Int) < b := by
  have h1 := Int.fmod_nonneg_of_pos a h
  have h2 := Int.fmod_lt_of_pos a h
  exact ⟨(a.fmod b).toNat, by omega, by omega⟩
theorem fm_b {a b : Int} (h : 0 < b) : ∃ n : Int, a.fmod b = n ∧ 0 ≤ n ∧ n < b := ⟨_, rfl, Int.fmod_nonneg_of_pos a h, Int.fmod_lt_of_pos a h⟩
theorem mixed_int (c k : Int) : ∃ n : Int, 0 ≤ n ∧ p_mixed [.im (.int c), .im (.int k)] = .ok (.im (.int n)) [] := by
  obtain ⟨a, ha, a0, la⟩ := fm_b (a := c * 48271 + k * 69621 + 1013904223) (b := 2147483647) (by decide)
  obtain ⟨b, hb, b0, lb⟩ := fm_b (a := a * a + k * 16807 + 7) (b := 2147483629) (by decide)
  obtain ⟨d, hd, d0, ld⟩ := fm_b (a := b * b + a * 31 + 5) (b := 2147483587) (by decide)
  have m1 : mulOk c 48271 = true := mul_r _ _ (by decide) (by decide)
  have m2 : mulOk k 69621 = true := mul_r _ _ (by decide) (by decide)
  have m3 : mulOk a a = true := mul_r _ _ (by omega) (by omega)
  have m4 : mulOk k 16807 = true := mul_r _ _ (by decide) (by decide)
  have m5 : mulOk b b = true := mul_r _ _ (by omega) (by omega)
  have m6 : mulOk a 31 = true := mul_r _ _ (by decide) (by decide)
  have m7 : mulOk a 2147483629 = true := mul_r _ _ (by decide) (by decide)
  have m8 : mulOk (a * 2147483629 + b) 2147483587 = true := mul_r _ _ (by decide) (by decide)
  have n1 : (2147483647 : Int) ≠ 0 := by decide
  have n2 : (2147483629 : Int) ≠ 0 := by decide
  have n3 : (2147483587 : Int) ≠ 0 := by decide
  refine ⟨(a * 2147483629 + b) * 2147483587 + d, by omega, ?_⟩
  simp only [p_mixed, runFn, b_mixed, entryE, ev_Seq, ev_Asg, ev_B, ev_Op2, ev_R2, ev_CB, ev_A1, ev_A0, ev_Var, ev_C, ev_at0, ev_atS, ev_P, ev_Rd, ev_rdIm, ev_Rds, ev_rdAll0, ev_rdAll1, ev_O1, ev_int1, ev_mul _ _ m1, ev_mul _ _ m2, ev_mul _ _ m3, ev_mul _ _ m4, ev_mul _ _ m5, ev_mul _ _ m6, ev_mul _ _ m7, ev_mul _ _ m8, ev_add,
    ev_mod _ _ n1, ev_mod _ _ n2, ev_mod _ _ n3, ha, hb, hd, ev_ImI, ev_setImS, ev_setIm0, ev_setUn0, Option.map_some, List.length_cons, List.length_nil, List.cons_append, List.nil_append, List.replicate_succ, List.replicate_zero, ev_Ret, finE, plKs, plDs, decide_true]
theorem mixed_ok (c : Int) (k : Nat) : ∃ n : Nat, p_mixed [.im (.int c), .im (.int k)] = .ok (.im (.int n)) [] := by
  obtain ⟨n, h0, h⟩ := mixed_int c k
  exact ⟨n.toNat, by rw [h, Int.toNat_of_nonneg h0]⟩
/-- the pool as it grows -/
def PoolIn (ns : List Int) (room : Nat) (E : Env) : Prop := ∃ (pool : List D) (seed : Int) (s3 s4 : Sl), E = [.im (.scr ns), .ow pool, .im (.int seed), s3, s4] ∧ Free s3 ∧ Free s4 ∧ pool.length + room ≤ 70 ∧ ∀ d ∈ pool, ∃ n : Nat, d = .int n
theorem pool_more {pool : List D} (h : ∀ d ∈ pool, ∃ n : Nat, d = .int n) (n : Nat) : ∀ d ∈ pool ++ [.int n], ∃ n : Nat, d = .int n := by
  intro d hd
  rcases List.mem_append.mp hd with q | q
  · exact h d q
  · exact ⟨n, List.mem_singleton.mp q⟩
theorem pool_turn (ns : List Int) (d : D) (ds : List D) (E : Env) (h : PoolIn ns (ds.length + 1) E) (hd : ∃ i : Nat, d = .int i ∧ i < ns.length ∧ i < 63) : ∃ E1 E2, setIm 3 d E = some E1 ∧ u_pool_0 E1 = .ok .nx E2 ∧ PoolIn ns ds.length E2 := by
  obtain ⟨pool, seed, s3, s4, rfl, f3, f4, hl, hp⟩ := h
  obtain ⟨i, rfl, hi, hi2⟩ := hd
  obtain ⟨m, hm⟩ := mixed_ok (ns[i]) i
  have e1 : ns[i]? = some ns[i] := List.getElem?_eq_getElem hi
  have m1 : mulOk seed 7 = true := mul_r _ _ (by decide) (by decide)
  obtain ⟨B, hB, hB0⟩ : ∃ B : Int, oPow (.int 10) (.int 18) = some (.int B) ∧ 0 < B := ⟨10 ^ 18, by rw [ev_pow _ _ (pow_of (by decide) (by decide) (by decide))]; rfl, by decide⟩
  obtain ⟨T, hT, hT0, hT1⟩ : ∃ T : Int, oPow (.int 10) (.int 60) = some (.int T) ∧ 0 < T ∧ T.natAbs < 2 ^ 200 := ⟨10 ^ 60, by rw [ev_pow _ _ (pow_of (by decide) (by decide) (by decide))]; rfl, by decide, by decide⟩
  have hTT : (T * T).natAbs < 2 ^ 400 := by
    rw [Int.natAbs_mul, show (400 : Nat) = 200 + 200 from rfl, Nat.pow_add]
    exact Nat.mul_lt_mul'' hT1 hT1
  have m2 : mulOk T T = true := mul_b _ _ hT1 hT1 (by decide)
  have m3 : mulOk (T * T) T = true := mul_b _ _ hTT hT1 (by decide)
  have n1 : T * T * T ≠ 0 := by
    have := Int.mul_pos (Int.mul_pos hT0 hT0) hT0
    omega
  have s1 : decide (pool.length < sizeLine) = true := sl_of (by omega)
  by_cases hc : B ≤ ns[i]
  · obtain ⟨q, hq, _⟩ := fm_nat (a := ns[i]) (b := T * T * T) (Int.mul_pos (Int.mul_pos hT0 hT0) hT0)
    refine ⟨[.im (.scr ns), .ow pool, .im (.int seed), .im (.int i), s4], [.im (.scr ns), .ow (pool ++ [.int q]), .im (.int ((seed * 7 + ns[i]).fmod 2147483647)), .im (.int i), .im (.int ns[i])], by simp [f3], ?_, pool ++ [.int q], _, _, _, rfl, .im _, .im _, by simp; omega, pool_more hp q⟩
    simp [u_pool_0, e1, m1, hc, hB, hT, f4, m2, m3, n1, hq, s1]
  · refine ⟨[.im (.scr ns), .ow pool, .im (.int seed), .im (.int i), s4], [.im (.scr ns), .ow (pool ++ [.int m]), .im (.int ((seed * 7 + ns[i]).fmod 2147483647)), .im (.int i), .im (.int ns[i])], by simp [f3], ?_, pool ++ [.int m], _, _, _, rfl, .im _, .im _, by simp; omega, pool_more hp m⟩
    simp [u_pool_0, e1, m1, hc, hB, hT, f4, s1, hm]
theorem pool_turn2 (ns : List Int) (d : D) (n : Nat) (E : Env) (h : PoolIn ns (n + 1) E) (hd : ∃ i : Nat, d = .int i) : ∃ E1 E2, setIm 3 d E = some E1 ∧ u_pool_1 E1 = .ok .nx E2 ∧ PoolIn ns n E2 := by
  obtain ⟨pool, seed, s3, s4, rfl, f3, f4, hl, hp⟩ := h
  obtain ⟨i, rfl⟩ := hd
  obtain ⟨m, hm⟩ := mixed_ok seed (100 + i)
  have hm2 : p_mixed [Ag.im (D.int seed), Ag.im (D.int (100 + (i : Int)))] = Cr.ok (Rt.im (D.int (m : Int))) [] := hm
  have s1 : decide (pool.length < sizeLine) = true := sl_of (by omega)
  refine ⟨[.im (.scr ns), .ow pool, .im (.int seed), .im (.int i), s4], [.im (.scr ns), .ow (pool ++ [.int m]), .im (.int seed), .im (.int i), s4], by simp [f3], ?_, pool ++ [.int m], _, _, _, rfl, .im _, f4, by simp; omega, pool_more hp m⟩
  simp [u_pool_1, hm2, s1]
theorem pool_two (ns : List Int) (E : Env) (h : PoolIn ns 4 E) : ∃ pool seed s3 s4, forL (setIm 3) u_pool_1 (rangeD 0 4) E = .ok .nx [.im (.scr ns), .ow pool, .im (.int seed), s3, s4] ∧ Free s3 ∧ Free s4 ∧ PoolOk pool := by
  have hr : rangeD 0 4 = [.int 0, .int 1, .int 2, .int 3] := rfl
  rw [hr]
  obtain ⟨pool, seed, s3, s4, rfl, f3, f4, hl, hp⟩ := h
  obtain ⟨m0, h0⟩ := mixed_ok seed 100
  obtain ⟨m1, h1⟩ := mixed_ok seed 101
  obtain ⟨m2, h2⟩ := mixed_ok seed 102
  obtain ⟨m3, h3⟩ := mixed_ok seed 103
  have h0' : p_mixed [.im (.int seed), .im (.int (100 + 0))] = .ok (.im (.int m0)) [] := h0
  have h1' : p_mixed [.im (.int seed), .im (.int (100 + 1))] = .ok (.im (.int m1)) [] := h1
  have h2' : p_mixed [.im (.int seed), .im (.int (100 + 2))] = .ok (.im (.int m2)) [] := h2
  have h3' : p_mixed [.im (.int seed), .im (.int (100 + 3))] = .ok (.im (.int m3)) [] := h3
  have s0 : decide (pool.length < sizeLine) = true := sl_of (by omega)
  have s1 : decide ((pool ++ [D.int m0]).length < sizeLine) = true := sl_of (by simp; omega)
  have s2 : decide ((pool ++ [D.int m0] ++ [D.int m1]).length < sizeLine) = true := sl_of (by simp; omega)
  have s3' : decide ((pool ++ [D.int m0] ++ [D.int m1] ++ [D.int m2]).length < sizeLine) = true := sl_of (by simp; omega)
  have one : ∀ (pool : List D) (s3 : Sl) (i : Int) (m : Nat), Free s3 → p_mixed [.im (.int seed), .im (.int (100 + i))] = .ok (.im (.int m)) [] → decide (pool.length < sizeLine) = true → ∀ ds, forL (setIm 3) u_pool_1 (.int i :: ds) [.im (.scr ns), .ow pool, .im (.int seed), s3, s4] = forL (setIm 3) u_pool_1 ds [.im (.scr ns), .ow (pool ++ [.int m]), .im (.int seed), .im (.int i), s4] := by
    intro pool s3 i m f hm hs ds
    have e1 : setIm 3 (.int i) [.im (.scr ns), .ow pool, .im (.int seed), s3, s4] = some [.im (.scr ns), .ow pool, .im (.int seed), .im (.int i), s4] := by simp [f]
    have e2 : u_pool_1 [.im (.scr ns), .ow pool, .im (.int seed), .im (.int i), s4] = .ok .nx [.im (.scr ns), .ow (pool ++ [.int m]), .im (.int seed), .im (.int i), s4] := by simp [u_pool_1, hm, hs]
    exact for_cons e1 e2
  refine ⟨pool ++ [.int m0] ++ [.int m1] ++ [.int m2] ++ [.int m3], seed, .im (.int 3), s4, ?_, .im _, f4, by simp, by simp; omega, ?_⟩
  · rw [one _ _ _ _ f3 h0' s0, one _ _ _ _ (.im _) h1' s1, one _ _ _ _ (.im _) h2' s2, one _ _ _ _ (.im _) h3' s3']
    rfl
  · exact pool_more (pool_more (pool_more (pool_more hp m0) m1) m2) m3
theorem pool_one (ns : List Int) (hn : ns.length ≤ 63) (many : Nat) (hm : many ≤ 63) (hm2 : many ≤ ns.length) : ∃ E1, forL (setIm 3) u_pool_0 (rangeD 0 many) [.im (.scr ns), .ow [], .im (.int 0), .un, .un] = .ok .nx E1 ∧ PoolIn ns 4 E1 := by
  obtain ⟨E1, h1, h2⟩ := for_inv (bd := setIm 3) (b := u_pool_0) (fun ds E => (∀ d ∈ ds, ∃ i : Nat, d = .int i ∧ i < ns.length ∧ i < 63) ∧ PoolIn ns (ds.length + 4) E)
    (fun d ds E h => by
      obtain ⟨E1, E2, k1, k2, k3⟩ := pool_turn ns d (ds ++ [.non, .non, .non, .non]) E (by have := h.2; simpa [Nat.add_assoc, Nat.add_comm, Nat.add_left_comm] using this) (h.1 d (List.mem_cons_self ..))
      exact ⟨E1, E2, k1, k2, fun d hd => h.1 d (List.mem_cons_of_mem _ hd), by simpa using k3⟩)
    (rangeD 0 many) [.im (.scr ns), .ow [], .im (.int 0), .un, .un] ⟨fun d hd => by
      obtain ⟨i, e, a1, a2⟩ := mem_range hd
      exact ⟨i.toNat, by rw [e, Int.toNat_of_nonneg a1], by omega, by omega⟩, [], 0, .un, .un, rfl, .un, .un, by rw [range_len]; simp; omega, fun d hd => nomatch hd⟩
  exact ⟨E1, h1, h2.2⟩
theorem pool_ok (ns : List Int) (hn : ns.length ≤ 63) : ∃ ds, PoolOk ds ∧ p_pool [.im (.scr ns)] = .ok (.ow ds) [] := by
  obtain ⟨E1, h1, h2⟩ := pool_one ns hn ns.length hn (Nat.le_refl _)
  obtain ⟨pool, seed, s3, s4, h3, f3, f4, hp⟩ := pool_two ns E1 h2
  refine ⟨pool, hp, ?_⟩
  have r1 : inRng (ns.length : Int) = true := inRng_of (by omega) (by omega)
  have r2 : ¬ (63 : Int) < ns.length := by omega
  have r3 : inRng 4 = true := inRng_of (by decide) (by decide)
  simp [p_pool, runFn, entryE, b_pool, r1, r2, r3, h1, h3, finE, f3, f4]
end Pu
set_option Elab.async false
set_option linter.all false
set_option maxRecDepth 100000
set_option maxHeartbeats 4000000
/-! law_k71_teeth_by_turns: what each def computes (printed by gen.py from the program's text). -/
namespace Lk71
open PySem PyProof.Rows L2 Pu
def l_is_Frac : List (Kd × Bool) := [(.own "Frac", true)]
abbrev is_Frac : Kd → Option Bool := tblK l_is_Frac
def l_is_MinusRow : List (Kd × Bool) := [(.own "MinusRow", true)]
abbrev is_MinusRow : Kd → Option Bool := tblK l_is_MinusRow
def l_is_Row : List (Kd × Bool) := [(.own "Row", true)]
abbrev is_Row : Kd → Option Bool := tblK l_is_Row
def l_is_bool : List (Kd × Bool) := [(.ty "int", false)]
abbrev is_bool : Kd → Option Bool := tblK l_is_bool
def l_is_int : List (Kd × Bool) := [(.ty "int", true)]
abbrev is_int : Kd → Option Bool := tblK l_is_int
def l_is_tuple : List (Kd × Bool) := [(.ty "tuple", true)]
abbrev is_tuple : Kd → Option Bool := tblK l_is_tuple

/-! _law_draw(pool, size); slots 0:pool 1:size 2:digit -/
def b__law_draw : M Fl := (mSeq (mIfS (mAndT (mBool (mOp2 oEqS (mOp2 oIxL (mVar 0) (mC (.int 0))) (mC (.int 0)))) (mBool (mOp2 oGt (mCB oLen (mA1 (mVar 0) mA0)) (mC (.int 1))))) (mDrop (mMut 0 fPopAt (mA1 (mC (.int 0)) mA0))) mNx) (mSeq (mAsg (mOp2 oMod (mCB oInt (mA1 (mOp2 oIxL (mVar 0) (mC (.int 0))) mA0)) (mVar 1)) (setIm 2)) (mSeq (mSetIt 0 (mOp2 oFdiv (mOp2 oIxL (mVar 0) (mC (.int 0))) (mVar 1)) (mC (.int 0))) (mRet (mVar 2)))))
def p__law_draw : List Ag → Cr := runFn 2 1 b__law_draw
/-! _law_fraction(pool, many); slots 0:pool 1:many 2:turns 3:k 4:t 5:p 6:q -/
def u__law_fraction_0 : M Fl := (mDrop (mMut 2 fApp (mA1 (mCB oMax2 (mA1 (mC (.int 1)) (mA1 (mOp2 oSub (mCall1 0 p__law_draw [] (mA1 (mVar 0) (mA1 (mC (.int 12)) mA0))) (mC (.int 2))) mA0))) mA0)))
def u__law_fraction_1 : M Fl := (mPar 5 6 (mOp2 oAdd (mOp2 oMul (mVar 4) (mVar 5)) (mVar 6)) (mVar 5))
def b__law_fraction : M Fl := (mSeq (mAsgL (mLst (mA1 (mOp2 oSub (mCall1 0 p__law_draw [] (mA1 (mVar 0) (mA1 (mC (.int 10)) mA0))) (mC (.int 3))) mA0)) 2) (mSeq (mFor (mItR1 (mOp2 oSub (mVar 1) (mC (.int 1)))) (setIm 3) u__law_fraction_0) (mSeq (mAsg (mTup (mA1 (mC (.int 1)) (mA1 (mC (.int 0)) mA0))) (bTup (bCons (setIm 5) (bCons (setIm 6) bNil)))) (mSeq (mFor (mItL (mFz (mRev (mVar 2)))) (setIm 4) u__law_fraction_1) (mRet (mTup (mA1 (mVar 5) (mA1 (mVar 6) mA0))))))))
def p__law_fraction : List Ag → Cr := runFn 2 5 b__law_fraction
/-! _law_gcd(a, b); slots 0:a 1:b -/
def c__law_gcd_0 : M Bool := (mBool (mOp2 oGt (mVar 1) (mC (.int 0))))
def w__law_gcd_0 : M Fl := (mPar 0 1 (mVar 1) (mOp2 oMod (mVar 0) (mVar 1)))
def b__law_gcd : M Fl := (mSeq (mAsg (mCB oAbs (mA1 (mVar 0) mA0)) (setIm 0)) (mSeq (mAsg (mCB oAbs (mA1 (mVar 1) mA0)) (setIm 1)) (mSeq (mWhile (muI 1) c__law_gcd_0 w__law_gcd_0) (mRet (mVar 0)))))
def p__law_gcd : List Ag → Cr := runFn 2 0 b__law_gcd
/-! _law_mixed(cell, k); slots 0:cell 1:k 2:first 3:second 4:third -/
def b__law_mixed : M Fl := (mSeq (mAsg (mOp2 oMod (mOp2 oAdd (mOp2 oAdd (mOp2 oMul (mCB oInt (mA1 (mVar 0) mA0)) (mC (.int 48271))) (mOp2 oMul (mVar 1) (mC (.int 69621)))) (mC (.int 1013904223))) (mC (.int 2147483647))) (setIm 2)) (mSeq (mAsg (mOp2 oMod (mOp2 oAdd (mOp2 oAdd (mOp2 oMul (mVar 2) (mVar 2)) (mOp2 oMul (mVar 1) (mC (.int 16807)))) (mC (.int 7))) (mC (.int 2147483629))) (setIm 3)) (mSeq (mAsg (mOp2 oMod (mOp2 oAdd (mOp2 oAdd (mOp2 oMul (mVar 3) (mVar 3)) (mOp2 oMul (mVar 2) (mC (.int 31)))) (mC (.int 5))) (mC (.int 2147483587))) (setIm 4)) (mRet (mOp2 oAdd (mOp2 oMul (mOp2 oAdd (mOp2 oMul (mVar 2) (mC (.int 2147483629))) (mVar 3)) (mC (.int 2147483587))) (mVar 4))))))
def p__law_mixed : List Ag → Cr := runFn 2 3 b__law_mixed
/-! _law_pool(script); slots 0:script 1:pool 2:seed 3:k 4:cell -/
def u__law_pool_0 : M Fl := (mSeq (mAsg (mCB oInt (mA1 (mOp2 oIxL (mVar 0) (mVar 3)) mA0)) (setIm 4)) (mSeq (mAsg (mOp2 oMod (mOp2 oAdd (mOp2 oMul (mVar 2) (mC (.int 7))) (mVar 4)) (mC (.int 2147483647))) (setIm 2)) (mIfS (mBool (mOp2 oGe (mVar 4) (mOp2 oPow (mC (.int 10)) (mC (.int 18))))) (mDrop (mMut 1 fApp (mA1 (mOp2 oMod (mVar 4) (mOp2 oMul (mOp2 oMul (mOp2 oPow (mC (.int 10)) (mC (.int 60))) (mOp2 oPow (mC (.int 10)) (mC (.int 60)))) (mOp2 oPow (mC (.int 10)) (mC (.int 60))))) mA0))) (mDrop (mMut 1 fApp (mA1 (mCall p__law_mixed [] (mA1 (mVar 4) (mA1 (mVar 3) mA0))) mA0))))))
def u__law_pool_1 : M Fl := (mDrop (mMut 1 fApp (mA1 (mCall p__law_mixed [] (mA1 (mVar 2) (mA1 (mOp2 oAdd (mC (.int 100)) (mVar 3)) mA0))) mA0)))
def b__law_pool : M Fl := (mSeq (mAsgL (mLst mA0) 1) (mSeq (mAsg (mC (.int 0)) (setIm 2)) (mSeq (mFor (mItR1 (mCB oMin2 (mA1 (mCB oLen (mA1 (mVar 0) mA0)) (mA1 (mC (.int 63)) mA0)))) (setIm 3) u__law_pool_0) (mSeq (mFor (mItR1 (mC (.int 4))) (setIm 3) u__law_pool_1) (mRet (mVar 1))))))
def p__law_pool : List Ag → Cr := runFn 1 4 b__law_pool
/-! _law_bottoms(turns, sign); slots 0:turns 1:sign 2:t 3:q 4:s -/
def u__law_bottoms_0 : M Fl := (mPar 3 4 (mVar 4) (mOp2 oAdd (mOp2 oMul (mVar 2) (mVar 4)) (mOp2 oMul (mVar 1) (mVar 3))))
def b__law_bottoms : M Fl := (mSeq (mAsg (mTup (mA1 (mC (.int 0)) (mA1 (mC (.int 1)) mA0))) (bTup (bCons (setIm 3) (bCons (setIm 4) bNil)))) (mSeq (mFor (mItL (mFz (mSlL (mVar 0) (mPart (mC (.int 1))) mNoPart))) (setIm 2) u__law_bottoms_0) (mRet (mTup (mA1 (mVar 3) (mA1 (mVar 4) mA0))))))
def p__law_bottoms : List Ag → Cr := runFn 2 3 b__law_bottoms
/-! _law_by_minus(turns, h, k); slots 0:turns 1:h 2:k 3:total 4:t 5:q 6:s -/
def u__law_by_minus_0 : M Fl := (mAsg (mOp2 oSub (mOp2 oAdd (mVar 3) (mC (.int 3))) (mVar 4)) (setIm 3))
def b__law_by_minus : M Fl := (mSeq (mAsg (mC (.int 0)) (setIm 3)) (mSeq (mFor (mItL (mFz (mSlL (mVar 0) (mPart (mC (.int 1))) mNoPart))) (setIm 4) u__law_by_minus_0) (mSeq (mAsg (mCall p__law_bottoms [] (mA1 (mVar 0) (mA1 (mOp1 oNeg (mC (.int 1))) mA0))) (bTup (bCons (setIm 5) (bCons (setIm 6) bNil)))) (mRet (mOp2 oSub (mOp2 oAdd (mOp2 oSub (mOp2 oMul (mVar 2) (mVar 3)) (mOp2 oMul (mOp2 oIxL (mVar 0) (mC (.int 0))) (mVar 2))) (mVar 1)) (mVar 5))))))
def p__law_by_minus : List Ag → Cr := runFn 3 4 b__law_by_minus
/-! _law_by_turns(turns, h, k); slots 0:turns 1:h 2:k 3:last 4:total 5:sign 6:t 7:q 8:s -/
def u__law_by_turns_0 : M Fl := (mSeq (mAsg (mOp2 oAdd (mVar 4) (mOp2 oMul (mVar 5) (mVar 6))) (setIm 4)) (mAsg (mOp1 oNeg (mVar 5)) (setIm 5)))
def b__law_by_turns : M Fl := (mSeq (mAsg (mOp2 oSub (mCB oLen (mA1 (mVar 0) mA0)) (mC (.int 1))) (setIm 3)) (mSeq (mAsg (mC (.int 0)) (setIm 4)) (mSeq (mAsg (mC (.int 1)) (setIm 5)) (mSeq (mFor (mItL (mFz (mSlL (mVar 0) (mPart (mC (.int 1))) mNoPart))) (setIm 6) u__law_by_turns_0) (mSeq (mAsg (mCall p__law_bottoms [] (mA1 (mVar 0) (mA1 (mC (.int 1)) mA0))) (bTup (bCons (setIm 7) (bCons (setIm 8) bNil)))) (mSeq (mIfS (mBool (mOp2 oEqS (mOp2 oMod (mVar 3) (mC (.int 2))) (mC (.int 1)))) (mRet (mOp2 oAdd (mOp2 oSub (mOp2 oAdd (mOp2 oMul (mVar 2) (mOp2 oSub (mVar 4) (mC (.int 3)))) (mVar 1)) (mOp2 oMul (mOp2 oIxL (mVar 0) (mC (.int 0))) (mVar 2))) (mVar 7))) mNx) (mRet (mOp2 oSub (mOp2 oSub (mOp2 oAdd (mOp2 oMul (mVar 2) (mVar 4)) (mVar 1)) (mOp2 oMul (mOp2 oIxL (mVar 0) (mC (.int 0))) (mVar 2))) (mVar 7)))))))))
def p__law_by_turns : List Ag → Cr := runFn 3 6 b__law_by_turns
/-! _law_ceilings(p, q); slots 0:p 1:q 2:found 3:t -/
def c__law_ceilings_0 : M Bool := (mBool (mOp2 oGt (mVar 1) (mC (.int 0))))
def w__law_ceilings_0 : M Fl := (mSeq (mAsg (mOp1 oNeg (mOp2 oFdiv (mOp1 oNeg (mVar 0)) (mVar 1))) (setIm 3)) (mSeq (mDrop (mMut 2 fApp (mA1 (mVar 3) mA0))) (mPar 0 1 (mVar 1) (mOp2 oSub (mOp2 oMul (mVar 3) (mVar 1)) (mVar 0)))))
def b__law_ceilings : M Fl := (mSeq (mAsgL (mLst mA0) 2) (mSeq (mWhile (muI 1) c__law_ceilings_0 w__law_ceilings_0) (mRet (mVar 2))))
def p__law_ceilings : List Ag → Cr := runFn 2 2 b__law_ceilings
/-! _law_defined(h, k); slots 0:h 1:k 2:total 3:i 4:rest -/
def u__law_defined_0 : M Fl := (mSeq (mAsg (mOp2 oMod (mOp2 oMul (mVar 0) (mVar 3)) (mVar 1)) (setIm 4)) (mIfS (mBool (mOp2 oNeS (mVar 4) (mC (.int 0)))) (mAsg (mOp2 oAdd (mVar 2) (mOp2 oMul (mOp2 oSub (mOp2 oMul (mC (.int 2)) (mVar 3)) (mVar 1)) (mOp2 oSub (mOp2 oMul (mC (.int 2)) (mVar 4)) (mVar 1)))) (setIm 2)) mNx))
def b__law_defined : M Fl := (mSeq (mAsg (mC (.int 0)) (setIm 2)) (mSeq (mFor (mItR2 (mC (.int 1)) (mVar 1)) (setIm 3) u__law_defined_0) (mRet (mVar 2))))
def p__law_defined : List Ag → Cr := runFn 2 3 b__law_defined
/-! _law_floors(p, q); slots 0:p 1:q 2:found -/
def c__law_floors_0 : M Bool := (mBool (mOp2 oGt (mVar 1) (mC (.int 0))))
def w__law_floors_0 : M Fl := (mSeq (mDrop (mMut 2 fApp (mA1 (mOp2 oFdiv (mVar 0) (mVar 1)) mA0))) (mPar 0 1 (mVar 1) (mOp2 oMod (mVar 0) (mVar 1))))
def b__law_floors : M Fl := (mSeq (mAsgL (mLst mA0) 2) (mSeq (mWhile (muI 1) c__law_floors_0 w__law_floors_0) (mRet (mVar 2))))
def p__law_floors : List Ag → Cr := runFn 2 1 b__law_floors
/-! _law_whole(x); slots 0:x -/
def b__law_whole : M Fl := (mRet (mAndV (mIsi is_int (mVar 0)) (mNotV (mIsi is_bool (mVar 0)))))
def p__law_whole : List Ag → Cr := runFn 1 0 b__law_whole
/-! _law_is_frac(x, p, q); slots 0:x 1:p 2:q -/
def b__law_is_frac : M Fl := (mSeq (mIfS (mNotT (mBool (mIsi is_Frac (mVar 0)))) (mRet (mC (.bl false))) mNx) (mSeq (mIfS (mOrT (mNotT (mBool (mCall p__law_whole [] (mA1 (mFld ["Frac"] "top" (mVar 0)) mA0)))) (mNotT (mBool (mCall p__law_whole [] (mA1 (mFld ["Frac"] "bottom" (mVar 0)) mA0))))) (mRet (mC (.bl false))) mNx) (mRet (mAndV (mOp2 oEqS (mFld ["Frac"] "top" (mVar 0)) (mVar 1)) (mOp2 oEqS (mFld ["Frac"] "bottom" (mVar 0)) (mVar 2))))))
def p__law_is_frac : List Ag → Cr := runFn 3 0 b__law_is_frac
/-! sign_of(number); slots 0:number -/
def b_sign_of : M Fl := (mSeq (mIfS (mBool (mOp2 oEqS (mVar 0) (mC (.int 0)))) (mRet (mC (.int 0))) mNx) (mRet (mIfE (mBool (mOp2 oGt (mVar 0) (mC (.int 0)))) (mC (.int 1)) (mOp1 oNeg (mC (.int 1))))))
def p_sign_of : List Ag → Cr := runFn 1 0 b_sign_of
/-! Frac.__init__(self, top, bottom); slots 0:self 1:top 2:bottom 3:divisor -/
def b_Frac_init : M Fl := (mSeq (mIfS (mBool (mOp2 oEqS (mVar 2) (mC (.int 0)))) mStuck mNx) (mSeq (mAsg (mOp2 oMul (mCB oGcd (mA1 (mVar 1) (mA1 (mVar 2) mA0))) (mCall p_sign_of [] (mA1 (mVar 2) mA0))) (setIm 3)) (mSeq (mFldSet ["Frac"] 0 "top" (mOp2 oFdiv (mVar 1) (mVar 3))) (mFldSet ["Frac"] 0 "bottom" (mOp2 oFdiv (mVar 2) (mVar 3))))))
def p_Frac_init : List D → Ci := runIni "Frac" 2 1 b_Frac_init
/-! MinusRow.turn(self, place); slots 0:self 1:place -/
def b_MinusRow_turn : M Fl := (mSeq (mIfS (mBool (mOp2 oLt (mVar 1) (mC (.int 0)))) mStuck mNx) (mSeq (mIfS (mBool (mOp2 oLt (mVar 1) (mCB oLen (mA1 (mFld ["MinusRow"] "head" (mVar 0)) mA0)))) (mRet (mOp2 oIxT (mFld ["MinusRow"] "head" (mVar 0)) (mVar 1))) mNx) (mSeq (mIfS (mBool (mOp2 oEqS (mCB oLen (mA1 (mFld ["MinusRow"] "loop" (mVar 0)) mA0)) (mC (.int 0)))) mStuck mNx) (mRet (mOp2 oIxT (mFld ["MinusRow"] "loop" (mVar 0)) (mOp2 oMod (mOp2 oSub (mVar 1) (mCB oLen (mA1 (mFld ["MinusRow"] "head" (mVar 0)) mA0))) (mCB oLen (mA1 (mFld ["MinusRow"] "loop" (mVar 0)) mA0))))))))
def p_MinusRow_turn : List Ag → Cr := runFn 2 0 b_MinusRow_turn
/-! MinusRow.convergent(self, place); slots 0:self 1:place 2:at 3:top 4:bottom 5:top_before 6:bottom_before 7:turn -/
def u_MinusRow_convergent_0 : M Fl := (mSeq (mAsg (mMeth "MinusRow" "turn" p_MinusRow_turn [] (mVar 0) (mA1 (mVar 2) mA0)) (setIm 7)) (mSeq (mPar 3 5 (mOp2 oSub (mOp2 oMul (mVar 7) (mVar 3)) (mVar 5)) (mVar 3)) (mPar 4 6 (mOp2 oSub (mOp2 oMul (mVar 7) (mVar 4)) (mVar 6)) (mVar 4))))
def b_MinusRow_convergent : M Fl := (mSeq (mDrop (mMeth "MinusRow" "turn" p_MinusRow_turn [] (mVar 0) (mA1 (mVar 1) mA0))) (mSeq (mIfS (mBool (mOp2 oGt (mVar 1) (mC (.int 5000)))) mStuck mNx) (mSeq (mPar 3 4 (mOp2 oIxT (mFld ["MinusRow"] "head" (mVar 0)) (mC (.int 0))) (mC (.int 1))) (mSeq (mAsg (mTup (mA1 (mC (.int 1)) (mA1 (mC (.int 0)) mA0))) (bTup (bCons (setIm 5) (bCons (setIm 6) bNil)))) (mSeq (mFor (mItR2 (mC (.int 1)) (mOp2 oAdd (mVar 1) (mC (.int 1)))) (setIm 2) u_MinusRow_convergent_0) (mRet (mMake p_Frac_init [] (mA1 (mVar 3) (mA1 (mVar 4) mA0)))))))))
def p_MinusRow_convergent : List Ag → Cr := runFn 2 6 b_MinusRow_convergent
/-! unrolled(head, loop, many); slots 0:head 1:loop 2:many 3:missing 4:turns 5:count -/
def b_unrolled : M Fl := (mSeq (mIfS (mBool (mOp2 oEqS (mCB oLen (mA1 (mVar 1) mA0)) (mC (.int 0)))) (mRet (mTup (mA1 (mTupOf (mA1 (mVar 0) mA0)) (mA1 (mTup mA0) mA0)))) mNx) (mSeq (mAsg (mCB oMax2 (mA1 (mOp2 oSub (mVar 2) (mCB oLen (mA1 (mVar 0) mA0))) (mA1 (mC (.int 0)) mA0))) (setIm 3)) mStuck))
def p_unrolled : List Ag → Cr := runFn 3 3 b_unrolled
/-! Row.turns(self, many); slots 0:self 1:many 2:head 3:_ -/
def b_Row_turns : M Fl := (mSeq (mIfS (mOrT (mBool (mOp2 oLt (mVar 1) (mC (.int 0)))) (mBool (mOp2 oGt (mVar 1) (mC (.int 5000))))) mStuck mNx) (mSeq (mAsg (mCall p_unrolled [] (mA1 (mFld ["Row"] "head" (mVar 0)) (mA1 (mFld ["Row"] "loop" (mVar 0)) (mA1 (mVar 1) mA0)))) (bTup (bCons (setIm 2) (bCons (setIm 3) bNil)))) (mRetL (mCL oListOf (mA1 (mSlT (mVar 2) mNoPart (mPart (mVar 1))) mA0)))))
def p_Row_turns : List Ag → Cr := runFn 2 2 b_Row_turns
/-! Table.__init__(self, a, b, c, d); slots 0:self 1:a 2:b 3:c 4:d -/
def b_Table_init : M Fl := (mSeq (mFldSet ["Table"] 0 "a" (mVar 1)) (mSeq (mFldSet ["Table"] 0 "b" (mVar 2)) (mSeq (mFldSet ["Table"] 0 "c" (mVar 3)) (mFldSet ["Table"] 0 "d" (mVar 4)))))
def p_Table_init : List D → Ci := runIni "Table" 4 0 b_Table_init
/-! turns_table(turns); slots 0:turns 1:turn 2:a 3:b 4:c 5:d -/
def u_turns_table_0 : M Fl := (mSeq (mPar 2 3 (mOp2 oAdd (mOp2 oMul (mVar 2) (mVar 1)) (mVar 3)) (mVar 2)) (mPar 4 5 (mOp2 oAdd (mOp2 oMul (mVar 4) (mVar 1)) (mVar 5)) (mVar 4)))
def b_turns_table : M Fl := (mSeq (mAsg (mTup (mA1 (mC (.int 1)) (mA1 (mC (.int 0)) (mA1 (mC (.int 0)) (mA1 (mC (.int 1)) mA0))))) (bTup (bCons (setIm 2) (bCons (setIm 3) (bCons (setIm 4) (bCons (setIm 5) bNil)))))) (mSeq (mFor (mItA (mVar 0)) (setIm 1) u_turns_table_0) (mRet (mMake p_Table_init [] (mA1 (mVar 2) (mA1 (mVar 3) (mA1 (mVar 4) (mA1 (mVar 5) mA0))))))))
def p_turns_table : List Ag → Cr := runFn 1 5 b_turns_table
/-! Row.table(self, many); slots 0:self 1:many 2:turns -/
def b_Row_table : M Fl := (mSeq (mIfS (mOrT (mBool (mOp2 oLt (mVar 1) (mC (.int 0)))) (mBool (mOp2 oGt (mVar 1) (mC (.int 5000))))) mStuck mNx) (mSeq (mAsg (mMeth "Row" "turns" p_Row_turns [] (mVar 0) (mA1 (mVar 1) mA0)) (setIm 2)) (mSeq (mIfS (mBool (mOp2 oLt (mCB oLen (mA1 (mVar 2) mA0)) (mVar 1))) mStuck mNx) (mRet (mCall p_turns_table [] (mA1 (mVar 2) mA0))))))
def p_Row_table : List Ag → Cr := runFn 2 1 b_Row_table
/-! turn_in(head, loop, place); slots 0:head 1:loop 2:place -/
def b_turn_in : M Fl := (mSeq (mIfS (mBool (mOp2 oLt (mVar 2) (mC (.int 0)))) (mRet (mC .non)) mNx) (mSeq (mIfS (mBool (mOp2 oLt (mVar 2) (mCB oLen (mA1 (mVar 0) mA0)))) (mRet (mOp2 oIxT (mVar 0) (mVar 2))) mNx) (mSeq (mIfS (mBool (mOp2 oEqS (mCB oLen (mA1 (mVar 1) mA0)) (mC (.int 0)))) (mRet (mC .non)) mNx) mStuck)))
def p_turn_in : List Ag → Cr := runFn 3 0 b_turn_in
/-! Row.turn(self, place); slots 0:self 1:place 2:found -/
def b_Row_turn : M Fl := (mSeq (mIfS (mBool (mOp2 oLt (mVar 1) (mC (.int 0)))) mStuck mNx) (mSeq (mAsg (mCall p_turn_in [] (mA1 (mFld ["Row"] "head" (mVar 0)) (mA1 (mFld ["Row"] "loop" (mVar 0)) (mA1 (mVar 1) mA0)))) (setIm 2)) (mSeq (mIfS (mBool (mOp2 oIsN (mVar 2) (mC .non))) mStuck mNx) (mRet (mVar 2)))))
def p_Row_turn : List Ag → Cr := runFn 2 1 b_Row_turn
/-! Row.convergent(self, place); slots 0:self 1:place 2:table -/
def b_Row_convergent : M Fl := (mSeq (mDrop (mMeth "Row" "turn" p_Row_turn [] (mVar 0) (mA1 (mVar 1) mA0))) (mSeq (mIfS (mBool (mOp2 oGe (mVar 1) (mC (.int 5000)))) mStuck mNx) (mSeq (mAsg (mMeth "Row" "table" p_Row_table [] (mVar 0) (mA1 (mOp2 oAdd (mVar 1) (mC (.int 1))) mA0)) (setIm 2)) (mRet (mMake p_Frac_init [] (mA1 (mFld ["Table"] "a" (mVar 2)) (mA1 (mFld ["Table"] "c" (mVar 2)) mA0)))))))
def p_Row_convergent : List Ag → Cr := runFn 2 1 b_Row_convergent
/-! Row.frac(self); slots 0:self 1:table -/
def b_Row_frac : M Fl := (mSeq (mIfS (mBool (mOp2 oGt (mCB oLen (mA1 (mFld ["Row"] "loop" (mVar 0)) mA0)) (mC (.int 0)))) mStuck mNx) (mSeq (mAsg (mCall p_turns_table [] (mA1 (mFld ["Row"] "head" (mVar 0)) mA0)) (setIm 1)) (mRet (mMake p_Frac_init [] (mA1 (mFld ["Table"] "a" (mVar 1)) (mA1 (mFld ["Table"] "c" (mVar 1)) mA0))))))
def p_Row_frac : List Ag → Cr := runFn 1 1 b_Row_frac
/-! kind_of(loop); slots 0:loop 1:_ 2:step -/
def u_kind_of_0 : M Fl := (mIfS (mBool (mOp2 oGt (mVar 2) (mC (.int 0)))) (mRet (mC (.str "growing"))) mNx)
def b_kind_of : M Fl := (mSeq (mIfS (mBool (mOp2 oEqS (mCB oLen (mA1 (mVar 0) mA0)) (mC (.int 0)))) (mRet (mC (.str "ended"))) mNx) (mSeq (mFor (mItT (mVar 0)) (bTup (bCons (setIm 1) (bCons (setIm 2) bNil))) u_kind_of_0) (mRet (mC (.str "looped")))))
def p_kind_of : List Ag → Cr := runFn 1 2 b_kind_of
/-! one_form(head, loop); slots 0:head 1:loop 2:pairs 3:last 4:back -/
def b_one_form : M Fl := (mSeq (mIfS (mBool (mOp2 oEqS (mCB oLen (mA1 (mVar 1) mA0)) (mC (.int 0)))) (mSeq (mIfS (mAndT (mBool (mOp2 oGt (mCB oLen (mA1 (mVar 0) mA0)) (mC (.int 1)))) (mBool (mOp2 oEqS (mOp2 oIxL (mVar 0) (mOp1 oNeg (mC (.int 1)))) (mC (.int 1))))) (mRet (mTup (mA1 (mCatT (mTupOf (mA1 (mFz (mSlL (mVar 0) mNoPart (mPart (mOp1 oNeg (mC (.int 2)))))) mA0)) (mTup (mA1 (mOp2 oAdd (mOp2 oIxL (mVar 0) (mOp1 oNeg (mC (.int 2)))) (mC (.int 1))) mA0))) (mA1 (mTup mA0) mA0)))) mNx) (mRet (mTup (mA1 (mTupOf (mA1 (mVar 0) mA0)) (mA1 (mTup mA0) mA0))))) mNx) mStuck)
def p_one_form : List Ag → Cr := runFn 2 3 b_one_form
/-! Row.__init__(self, head, loop); slots 0:self 1:head 2:loop 3:place 4:pairs 5:start 6:step -/
def u_Row_init_0 : M Fl := (mIfS (mBool (mOp2 oLt (mOp2 oIxL (mVar 1) (mVar 3)) (mC (.int 1)))) mStuck mNx)
def u_Row_init_1 : M Fl := (mSeq (mAsg (mOp2 oIxT (mVar 2) (mVar 3)) (bTup (bCons (setIm 5) (bCons (setIm 6) bNil)))) (mIfS (mOrT (mBool (mOp2 oLt (mVar 5) (mC (.int 1)))) (mBool (mOp2 oLt (mVar 6) (mC (.int 0))))) mStuck mNx))
def b_Row_init : M Fl := (mSeq (mIfS (mBool (mOp2 oEqS (mCB oLen (mA1 (mVar 1) mA0)) (mC (.int 0)))) mStuck mNx) (mSeq (mFor (mItR2 (mC (.int 1)) (mCB oLen (mA1 (mVar 1) mA0))) (setIm 3) u_Row_init_0) (mSeq (mFor (mItR1 (mCB oLen (mA1 (mVar 2) mA0))) (setIm 3) u_Row_init_1) (mSeq (mAsgF (mLc (mItT (mVar 2)) [5, 6] (bTup (bCons (setIm 5) (bCons (setIm 6) bNil))) mYes (mTup (mA1 (mVar 5) (mA1 (mVar 6) mA0)))) 4) (mSeq (mAsg (mCall p_one_form [] (mA1 (mFz (mCL oListOf (mA1 (mVar 1) mA0))) (mA1 (mVar 4) mA0))) (bTup (bCons (setSe ["Row"] 0 "head") (bCons (setSe ["Row"] 0 "loop") bNil)))) (mFldSet ["Row"] 0 "kind" (mCall p_kind_of [] (mA1 (mFld ["Row"] "loop" (mVar 0)) mA0))))))))
def p_Row_init : List D → Ci := runIni "Row" 2 4 b_Row_init
/-! Row.of(frac); slots 0:frac 1:turns 2:top 3:bottom 4:whole -/
def c_Row_of_0 : M Bool := (mBool (mOp2 oGt (mVar 3) (mC (.int 0))))
def w_Row_of_0 : M Fl := (mSeq (mAsg (mOp2 oFdiv (mVar 2) (mVar 3)) (setIm 4)) (mSeq (mDrop (mMut 1 fApp (mA1 (mVar 4) mA0))) (mPar 2 3 (mVar 3) (mOp2 oSub (mVar 2) (mOp2 oMul (mVar 4) (mVar 3))))))
def b_Row_of : M Fl := (mSeq (mAsgL (mLst mA0) 1) (mSeq (mPar 2 3 (mFld ["Frac"] "top" (mVar 0)) (mFld ["Frac"] "bottom" (mVar 0))) (mSeq (mWhile (muI 3) c_Row_of_0 w_Row_of_0) (mRet (mMake p_Row_init [.tup []] (mA1 (mFix 1) mA0))))))
def p_Row_of : List Ag → Cr := runFn 1 4 b_Row_of
/-! _law_are(x, turns); slots 0:x 1:turns 2:one -/
def u__law_are_0 : M Fl := (mIfS (mNotT (mBool (mCall p__law_whole [] (mA1 (mVar 2) mA0)))) (mRet (mC (.bl false))) mNx)
def b__law_are : M Fl := (mSeq (mIfS (mOrT (mNotT (mBool (mIsi is_tuple (mVar 0)))) (mBool (mOp2 oNeS (mCB oLen (mA1 (mVar 0) mA0)) (mCB oLen (mA1 (mVar 1) mA0))))) (mRet (mC (.bl false))) mNx) (mSeq (mFor (mItT (mVar 0)) (setIm 2) u__law_are_0) (mRet (mOp2 oEqD (mFz (mCL oListOf (mA1 (mVar 0) mA0))) (mVar 1)))))
def p__law_are : List Ag → Cr := runFn 2 1 b__law_are
/-! _law_is_below(x, q); slots 0:x 1:q -/
def b__law_is_below : M Fl := (mRet (mAndV (mIsi is_Frac (mVar 0)) (mAndV (mCall p__law_whole [] (mA1 (mFld ["Frac"] "bottom" (mVar 0)) mA0)) (mOp2 oEqS (mFld ["Frac"] "bottom" (mVar 0)) (mVar 1)))))
def p__law_is_below : List Ag → Cr := runFn 2 0 b__law_is_below
/-! short_form(head, loop); slots 0:head 1:loop 2:items 3:size 4:last 5:back 6:first -/
def b_short_form : M Fl := (mSeq (mIfS (mBool (mOp2 oEqS (mCB oLen (mA1 (mVar 1) mA0)) (mC (.int 0)))) (mRet (mTup (mA1 (mTupOf (mA1 (mVar 0) mA0)) (mA1 (mTup mA0) mA0)))) mNx) mStuck)
def p_short_form : List Ag → Cr := runFn 2 5 b_short_form
/-! MinusRow.__init__(self, head, loop); slots 0:self 1:head 2:loop 3:place -/
def u_MinusRow_init_0 : M Fl := (mIfS (mBool (mOp2 oLt (mOp2 oIxL (mVar 1) (mVar 3)) (mC (.int 2)))) mStuck mNx)
def u_MinusRow_init_1 : M Fl := (mIfS (mBool (mOp2 oLt (mOp2 oIxT (mVar 2) (mVar 3)) (mC (.int 2)))) mStuck mNx)
def b_MinusRow_init : M Fl := (mSeq (mIfS (mBool (mOp2 oEqS (mCB oLen (mA1 (mVar 1) mA0)) (mC (.int 0)))) mStuck mNx) (mSeq (mFor (mItR2 (mC (.int 1)) (mCB oLen (mA1 (mVar 1) mA0))) (setIm 3) u_MinusRow_init_0) (mSeq (mFor (mItR1 (mCB oLen (mA1 (mVar 2) mA0))) (setIm 3) u_MinusRow_init_1) (mSeq (mIfS (mAndT (mBool (mOp2 oGt (mCB oLen (mA1 (mVar 2) mA0)) (mC (.int 0)))) (mBool (mOp2 oEqS (mCB oMax1 (mA1 (mVar 2) mA0)) (mC (.int 2))))) mStuck mNx) (mAsg (mCall p_short_form [] (mA1 (mVar 1) (mA1 (mVar 2) mA0))) (bTup (bCons (setSe ["MinusRow"] 0 "head") (bCons (setSe ["MinusRow"] 0 "loop") bNil))))))))
def p_MinusRow_init : List D → Ci := runIni "MinusRow" 2 1 b_MinusRow_init
/-! _with_minus(turns); slots 0:turns 1:minus 2:place -/
def u__with_minus_0 : M Fl := (mSeq (mDrop (mMut 1 fExt (mA1 (mFz (mL2 oRep (mFz (mLst (mA1 (mC (.int 2)) mA0))) (mOp2 oSub (mOp2 oIxL (mVar 0) (mVar 2)) (mC (.int 1))))) mA0))) (mDrop (mMut 1 fApp (mA1 (mOp2 oAdd (mOp2 oIxL (mVar 0) (mOp2 oAdd (mVar 2) (mC (.int 1)))) (mC (.int 2))) mA0))))
def b__with_minus : M Fl := (mSeq (mAsgL (mLst mA0) 1) (mSeq (mFor (mItR3 (mA1 (mC (.int 0)) (mA1 (mCB oLen (mA1 (mVar 0) mA0)) (mA1 (mC (.int 2)) mA0)))) (setIm 2) u__with_minus_0) (mRet (mVar 1))))
def p__with_minus : List Ag → Cr := runFn 1 2 b__with_minus
/-! ended_turns(head, odd); slots 0:head 1:odd 2:turns 3:last_is_odd -/
def b_ended_turns : M Fl := (mSeq (mAsgL (mCL oListOf (mA1 (mVar 0) mA0)) 2) (mSeq (mAsg (mOp2 oEqS (mOp2 oMod (mCB oLen (mA1 (mVar 2) mA0)) (mC (.int 2))) (mC (.int 0))) (setIm 3)) (mSeq (mIfS (mBool (mOp2 oNeS (mVar 3) (mVar 1))) (mSeq (mSetIt 2 (mOp2 oSub (mOp2 oIxL (mVar 2) (mOp1 oNeg (mC (.int 1)))) (mC (.int 1))) (mOp1 oNeg (mC (.int 1)))) (mDrop (mMut 2 fApp (mA1 (mC (.int 1)) mA0)))) mNx) (mRet (mVar 2)))))
def p_ended_turns : List Ag → Cr := runFn 2 2 b_ended_turns
/-! _ended_minus(head); slots 0:head 1:turns -/
def b__ended_minus : M Fl := (mSeq (mAsg (mCall p_ended_turns [] (mA1 (mVar 0) (mA1 (mC (.bl true)) mA0))) (setIm 1)) (mRet (mMake p_MinusRow_init [.tup []] (mA1 (mFz (mL2 oCat (mFz (mL2 oCat (mFz (mLst (mA1 (mOp2 oAdd (mOp2 oIxL (mVar 1) (mC (.int 0))) (mC (.int 1))) mA0))) (mCall p__with_minus [] (mA1 (mFz (mSlL (mVar 1) (mPart (mC (.int 1))) (mPart (mOp1 oNeg (mC (.int 1)))))) mA0)))) (mFz (mL2 oRep (mFz (mLst (mA1 (mC (.int 2)) mA0))) (mOp2 oSub (mOp2 oIxL (mVar 1) (mOp1 oNeg (mC (.int 1)))) (mC (.int 1))))))) mA0))))
def p__ended_minus : List Ag → Cr := runFn 1 1 b__ended_minus
/-! look_at_work(row); slots 0:row 1:work 2:start 3:_ -/
def b_look_at_work : M Fl := (mSeq (mIfS (mBool (mOp2 oEqS (mFld ["Row"] "kind" (mVar 0)) (mC (.str "growing")))) mStuck mNx) (mSeq (mAsg (mOp2 oAdd (mCB oSum2 (mA1 (mSlT (mFld ["Row"] "head" (mVar 0)) (mPart (mC (.int 1))) mNoPart) mA0)) (mCB oSum2 (mA1 (mFz (mLc (mItT (mFld ["Row"] "loop" (mVar 0))) [2, 3] (bTup (bCons (setIm 2) (bCons (setIm 3) bNil))) mYes (mVar 2))) mA0))) (setIm 1)) (mIfS (mBool (mOp2 oGt (mVar 1) (mC (.int 1000)))) mStuck mNx)))
def p_look_at_work : List Ag → Cr := runFn 1 3 b_look_at_work
/-! minus_of(row); slots 0:row -/
def b_minus_of : M Fl := (mSeq (mDrop (mCall p_look_at_work [] (mA1 (mVar 0) mA0))) (mSeq (mIfS (mBool (mOp2 oEqS (mFld ["Row"] "kind" (mVar 0)) (mC (.str "ended")))) (mRet (mCall p__ended_minus [] (mA1 (mFld ["Row"] "head" (mVar 0)) mA0))) mNx) mStuck))
def p_minus_of : List Ag → Cr := runFn 1 0 b_minus_of
/-! _law_rows(h, k, turns, minus); slots 0:h 1:k 2:turns 3:minus 4:row 5:other 6:told 7:q 8:s -/
def b__law_rows : M Fl := (mSeq (mAsg (mCall p_Row_of [] (mA1 (mMake p_Frac_init [] (mA1 (mVar 0) (mA1 (mVar 1) mA0))) mA0)) (setIm 4)) (mSeq (mIfS (mOrT (mNotT (mBool (mIsi is_Row (mVar 4)))) (mOrT (mNotT (mBool (mCall p__law_are [] (mA1 (mFld ["Row"] "head" (mVar 4)) (mA1 (mVar 2) mA0))))) (mBool (mOp2 oNeD (mFld ["Row"] "loop" (mVar 4)) (mTup mA0))))) (mRet (mC (.bl false))) mNx) (mSeq (mIfS (mNotT (mBool (mCall p__law_is_frac [] (mA1 (mMeth "Row" "frac" p_Row_frac [] (mVar 4) mA0) (mA1 (mVar 0) (mA1 (mVar 1) mA0)))))) (mRet (mC (.bl false))) mNx) (mSeq (mAsg (mCall p_minus_of [] (mA1 (mVar 4) mA0)) (setIm 5)) (mSeq (mIfS (mOrT (mNotT (mBool (mIsi is_MinusRow (mVar 5)))) (mOrT (mNotT (mBool (mCall p__law_are [] (mA1 (mFld ["MinusRow"] "head" (mVar 5)) (mA1 (mVar 3) mA0))))) (mBool (mOp2 oNeD (mFld ["MinusRow"] "loop" (mVar 5)) (mTup mA0))))) (mRet (mC (.bl false))) mNx) (mSeq (mIfS (mBool (mOp2 oGt (mCB oLen (mA1 (mVar 2) mA0)) (mC (.int 1)))) (mSeq (mAsg (mMeth "Row" "convergent" p_Row_convergent [] (mVar 4) (mA1 (mOp2 oSub (mCB oLen (mA1 (mVar 2) mA0)) (mC (.int 2))) mA0)) (setIm 6)) (mSeq (mAsg (mCall p__law_bottoms [] (mA1 (mVar 2) (mA1 (mC (.int 1)) mA0))) (bTup (bCons (setIm 7) (bCons (setIm 8) bNil)))) (mIfS (mOrT (mNotT (mBool (mCall p__law_is_below [] (mA1 (mVar 6) (mA1 (mVar 7) mA0))))) (mBool (mOp2 oNeS (mVar 8) (mVar 1)))) (mRet (mC (.bl false))) mNx))) mNx) (mSeq (mIfS (mBool (mOp2 oGt (mCB oLen (mA1 (mVar 3) mA0)) (mC (.int 1)))) (mSeq (mAsg (mMeth "MinusRow" "convergent" p_MinusRow_convergent [] (mVar 5) (mA1 (mOp2 oSub (mCB oLen (mA1 (mVar 3) mA0)) (mC (.int 2))) mA0)) (setIm 6)) (mSeq (mAsg (mCall p__law_bottoms [] (mA1 (mVar 3) (mA1 (mOp1 oNeg (mC (.int 1))) mA0))) (bTup (bCons (setIm 7) (bCons (setIm 8) bNil)))) (mIfS (mOrT (mNotT (mBool (mCall p__law_is_below [] (mA1 (mVar 6) (mA1 (mVar 7) mA0))))) (mBool (mOp2 oNeS (mVar 8) (mVar 1)))) (mRet (mC (.bl false))) mNx))) mNx) (mRet (mC (.bl true))))))))))
def p__law_rows : List Ag → Cr := runFn 4 5 b__law_rows
/-! _sum_by_turns(h, k); slots 0:h 1:k 2:divisor 3:bottom 4:rest 5:total 6:sign 7:top 8:last 9:before 10:upper 11:lower 12:turn -/
def c__sum_by_turns_0 : M Bool := (mBool (mOp2 oGt (mVar 11) (mC (.int 0))))
def w__sum_by_turns_0 : M Fl := (mSeq (mAsg (mOp2 oFdiv (mVar 10) (mVar 11)) (setIm 12)) (mSeq (mAug 5 oAdd (mOp2 oMul (mVar 6) (mVar 12))) (mSeq (mAsg (mOp1 oNeg (mVar 6)) (setIm 6)) (mSeq (mPar 8 9 (mOp2 oAdd (mOp2 oMul (mVar 12) (mVar 8)) (mVar 9)) (mVar 8)) (mPar 10 11 (mVar 11) (mOp2 oSub (mVar 10) (mOp2 oMul (mVar 12) (mVar 11))))))))
def b__sum_by_turns : M Fl := (mSeq (mAsg (mCB oGcd (mA1 (mVar 0) (mA1 (mVar 1) mA0))) (setIm 2)) (mSeq (mAsg (mOp2 oFdiv (mVar 1) (mVar 2)) (setIm 3)) (mSeq (mAsg (mOp2 oMod (mOp2 oFdiv (mVar 0) (mVar 2)) (mVar 3)) (setIm 4)) (mSeq (mAsg (mC (.int 0)) (setIm 5)) (mSeq (mAsg (mC (.int 1)) (setIm 6)) (mSeq (mAsg (mTup (mA1 (mC (.int 1)) (mA1 (mC (.int 0)) mA0))) (bTup (bCons (setIm 8) (bCons (setIm 9) bNil)))) (mSeq (mPar 10 11 (mVar 3) (mVar 4)) (mSeq (mWhile (muI 11) c__sum_by_turns_0 w__sum_by_turns_0) (mSeq (mAsg (mOp2 oSub (mOp2 oAdd (mOp2 oMul (mVar 5) (mVar 3)) (mVar 4)) (mOp2 oMul (mVar 6) (mVar 9))) (setIm 7)) (mSeq (mIfS (mBool (mOp2 oEqS (mVar 6) (mOp1 oNeg (mC (.int 1))))) (mAug 7 oSub (mOp2 oMul (mC (.int 3)) (mVar 3))) mNx) (mRet (mTup (mA1 (mVar 7) (mA1 (mVar 3) mA0))))))))))))))
def p__sum_by_turns : List Ag → Cr := runFn 2 11 b__sum_by_turns
/-! teeth(h, k); slots 0:h 1:k 2:top 3:bottom -/
def b_teeth : M Fl := (mSeq (mIfS (mBool (mOp2 oLt (mVar 1) (mC (.int 1)))) mStuck mNx) (mSeq (mAsg (mCall p__sum_by_turns [] (mA1 (mVar 0) (mA1 (mVar 1) mA0))) (bTup (bCons (setIm 2) (bCons (setIm 3) bNil)))) (mRet (mMake p_Frac_init [] (mA1 (mVar 2) (mA1 (mOp2 oMul (mC (.int 12)) (mVar 3)) mA0))))))
def p_teeth : List Ag → Cr := runFn 2 2 b_teeth
/-! _law_right(h, k); slots 0:h 1:k 2:turns 3:minus 4:due 5:longer 6:g -/
def b__law_right : M Fl := (mSeq (mAsg (mCall p__law_floors [] (mA1 (mVar 0) (mA1 (mVar 1) mA0))) (setIm 2)) (mSeq (mAsg (mCall p__law_ceilings [] (mA1 (mVar 0) (mA1 (mVar 1) mA0))) (setIm 3)) (mSeq (mIfS (mNotT (mBool (mCall p__law_rows [] (mA1 (mVar 0) (mA1 (mVar 1) (mA1 (mVar 2) (mA1 (mVar 3) mA0))))))) (mRet (mC (.bl false))) mNx) (mSeq (mAsg (mCall p__law_by_turns [] (mA1 (mVar 2) (mA1 (mVar 0) (mA1 (mVar 1) mA0)))) (setIm 4)) (mSeq (mAsg (mFz (mL2 oCat (mFz (mSlL (mVar 2) mNoPart (mPart (mOp1 oNeg (mC (.int 1)))))) (mFz (mLst (mA1 (mOp2 oSub (mOp2 oIxL (mVar 2) (mOp1 oNeg (mC (.int 1)))) (mC (.int 1))) (mA1 (mC (.int 1)) mA0)))))) (setIm 5)) (mSeq (mIfS (mBool (mOp2 oNeS (mCall p__law_by_turns [] (mA1 (mVar 5) (mA1 (mVar 0) (mA1 (mVar 1) mA0)))) (mVar 4))) (mRet (mC (.bl false))) mNx) (mSeq (mIfS (mBool (mOp2 oNeS (mCall p__law_by_minus [] (mA1 (mVar 3) (mA1 (mVar 0) (mA1 (mVar 1) mA0)))) (mVar 4))) (mRet (mC (.bl false))) mNx) (mSeq (mIfS (mAndT (mBool (mOp2 oLe (mVar 1) (mC (.int 60)))) (mBool (mOp2 oNeS (mOp2 oMul (mC (.int 3)) (mCall p__law_defined [] (mA1 (mVar 0) (mA1 (mVar 1) mA0)))) (mOp2 oMul (mVar 1) (mVar 4))))) (mRet (mC (.bl false))) mNx) (mSeq (mAsg (mCall p__law_gcd [] (mA1 (mVar 4) (mA1 (mOp2 oMul (mC (.int 12)) (mVar 1)) mA0))) (setIm 6)) (mRet (mCall p__law_is_frac [] (mA1 (mCall p_teeth [] (mA1 (mVar 0) (mA1 (mVar 1) mA0))) (mA1 (mOp2 oFdiv (mVar 4) (mVar 6)) (mA1 (mOp2 oFdiv (mOp2 oMul (mC (.int 12)) (mVar 1)) (mVar 6)) mA0))))))))))))))
def p__law_right : List Ag → Cr := runFn 2 5 b__law_right
/-! law(script); slots 0:script 1:pool 2:fracs 3:n 4:h 5:k 6:g -/
def u_law_0 : M Fl := (mDrop (mMut 2 fApp (mA1 (mTup (mA1 (mOp2 oSub (mCall1 1 p__law_draw [] (mA1 (mVar 1) (mA1 (mC (.int 400)) mA0))) (mC (.int 100))) (mA1 (mOp2 oAdd (mC (.int 1)) (mCall1 1 p__law_draw [] (mA1 (mVar 1) (mA1 (mC (.int 60)) mA0)))) mA0))) mA0)))
def u_law_1 : M Fl := (mSeq (mAsg (mCall p__law_gcd [] (mA1 (mVar 4) (mA1 (mVar 5) mA0))) (setIm 6)) (mIfS (mNotT (mBool (mCall p__law_right [] (mA1 (mOp2 oFdiv (mVar 4) (mVar 6)) (mA1 (mOp2 oFdiv (mVar 5) (mVar 6)) mA0))))) (mRet (mC (.bl false))) mNx))
def b_law : M Fl := (mSeq (mAsgL (mCallL p__law_pool [] (mA1 (mVar 0) mA0)) 1) (mSeq (mAsgL (mLst mA0) 2) (mSeq (mFor (mItR1 (mC (.int 2))) (setIm 3) u_law_0) (mSeq (mDrop (mMut 2 fApp (mA1 (mCall1 1 p__law_fraction [] (mA1 (mVar 1) (mA1 (mOp2 oAdd (mC (.int 1)) (mCall1 1 p__law_draw [] (mA1 (mVar 1) (mA1 (mC (.int 6)) mA0)))) mA0))) mA0))) (mSeq (mDrop (mMut 2 fApp (mA1 (mCall1 1 p__law_fraction [] (mA1 (mVar 1) (mA1 (mOp2 oAdd (mC (.int 15)) (mCall1 1 p__law_draw [] (mA1 (mVar 1) (mA1 (mC (.int 16)) mA0)))) mA0))) mA0))) (mSeq (mFor (mItL (mFz (mL2 oCat (mVar 2) (mFz (mSlL (mVar 2) mNoPart (mPart (mC (.int 1)))))))) (bTup (bCons (setIm 4) (bCons (setIm 5) bNil))) u_law_1) (mRet (mC (.bl true)))))))))
def p_law : List Ag → Cr := runFn 1 6 b_law
end Lk71
set_option Elab.async false
set_option linter.all false
set_option maxRecDepth 100000
set_option maxHeartbeats 4000000
/-! k71, the plain law: rows of floors, rows of ceilings, and the sum by turns. -/
namespace Lk71
/-! ### rows of floors -/
def flo (h k : Int) : List Int := if 0 < k then h / k :: flo k (h % k) else []
termination_by k.toNat
decreasing_by
  rename_i q
  have := Int.emod_lt_of_pos h q
  have := Int.emod_nonneg h (show k ≠ 0 by omega)
  omega
theorem flo_pos {h k : Int} (q : 0 < k) : flo h k = h / k :: flo k (h % k) := by
  rw [flo, if_pos q]
theorem flo_zero (h : Int) : flo h 0 = [] := by
  rw [flo, if_neg (by decide)]
theorem euc_ind {P : Int → Int → Prop} (z : ∀ h, P h 0) (s : ∀ h k, 0 < k → 0 ≤ h % k → h % k < k → P k (h % k) → P h k) : ∀ (n : Nat) (h k : Int), 0 ≤ k → k.toNat < n → P h k
  | 0, _, _, _, hn => by omega
  | n + 1, h, k, h0, hn => by
    by_cases q : 0 < k
    · have a := Int.emod_lt_of_pos h q
      have b := Int.emod_nonneg h (show k ≠ 0 by omega)
      exact s h k q b a (euc_ind z s n k (h % k) b (by omega))
    · have : k = 0 := by omega
      subst this
      exact z h
theorem euc {P : Int → Int → Prop} (z : ∀ h, P h 0) (s : ∀ h k, 0 < k → 0 ≤ h % k → h % k < k → P k (h % k) → P h k) (h k : Int) (h0 : 0 ≤ k) : P h k := euc_ind z s (k.toNat + 1) h k h0 (by omega)
/-- the fraction of a row -/
def cf : List Int → Int × Int
  | [] => (1, 0)
  | a :: r => (a * (cf r).1 + (cf r).2, (cf r).1)
theorem gcd_step (h k : Int) : Int.gcd k (h % k) = Int.gcd h k := by
  have e : Int.gcd (h % k + k * (h / k)) k = Int.gcd (h % k) k := Int.gcd_add_mul_left_left ..
  rw [Int.emod_add_mul_ediv] at e
  rw [e, Int.gcd_comm]
theorem cf_flo (h k : Int) (h0 : 0 ≤ k) : (0 < k ∨ 0 ≤ h) → h = (Int.gcd h k : Int) * (cf (flo h k)).1 ∧ k = (Int.gcd h k : Int) * (cf (flo h k)).2 := by
  refine euc (P := fun h k => (0 < k ∨ 0 ≤ h) → h = (Int.gcd h k : Int) * (cf (flo h k)).1 ∧ k = (Int.gcd h k : Int) * (cf (flo h k)).2) (fun h hh => ?_) (fun h k q b a ih _ => ?_) h k h0
  · rw [flo_zero, Int.gcd_zero_right]
    simp [cf]
    omega
  · obtain ⟨e1, e2⟩ := ih (.inr (by omega))
    rw [gcd_step] at e1 e2
    rw [flo_pos q]
    refine ⟨?_, e1⟩
    have e3 := Int.emod_add_mul_ediv h k
    show h = _ * (h / k * (cf (flo k (h % k))).1 + (cf (flo k (h % k))).2)
    generalize h / k = t at *
    generalize (cf (flo k (h % k))).1 = P at *
    generalize (cf (flo k (h % k))).2 = Q at *
    generalize ((Int.gcd h k : Nat) : Int) = g at *
    grind
theorem cf_flo1 {h k : Int} (h0 : 0 < k) (hg : Int.gcd h k = 1) : cf (flo h k) = (h, k) := by
  obtain ⟨e1, e2⟩ := cf_flo h k (by omega) (.inl h0)
  rw [hg] at e1 e2
  exact Prod.ext (by omega) (by omega)
/-- the turns behind the first are at least 1, the last is more, unless it stands alone -/
def Turns (l : List Int) : Prop := ∀ t ∈ l, 1 ≤ t
theorem flo_turns (h k : Int) (h0 : 0 ≤ k) : k ≤ h → Turns (flo h k) := by
  refine euc (P := fun h k => k ≤ h → Turns (flo h k)) (fun h _ => ?_) (fun h k q b a ih hh => ?_) h k h0
  · rw [flo_zero]
    intro t ht
    cases ht
  · rw [flo_pos q]
    intro t ht
    rcases List.mem_cons.mp ht with e | ht
    · subst e
      have := Int.ediv_le_ediv q hh
      rw [Int.ediv_self (by omega)] at this
      exact this
    · exact ih (by omega) t ht
theorem flo_tail (h k : Int) (h0 : 0 < k) : Turns (flo h k).tail := by
  rw [flo_pos h0]
  exact flo_turns k (h % k) (Int.emod_nonneg h (by omega)) (Int.le_of_lt (Int.emod_lt_of_pos h h0))
/-- the last turn -/
theorem flo_last (h k : Int) (h0 : 0 ≤ k) : k < h → 0 < k → ∀ l x, flo h k = l ++ [x] → 2 ≤ x := by
  refine euc (P := fun h k => k < h → 0 < k → ∀ l x, flo h k = l ++ [x] → 2 ≤ x) (fun h _ z => by omega) (fun h k q b a ih hh _ l x e => ?_) h k h0
  rw [flo_pos q] at e
  by_cases z : 0 < h % k
  · cases l with
    | nil =>
      rw [flo_pos z] at e
      cases e
    | cons y l =>
      exact ih (by omega) z l x (List.cons.inj e).2
  · have z0 : h % k = 0 := by omega
    rw [z0, flo_zero] at e
    cases l with
    | nil =>
      have e1 : h / k = x := (List.cons.inj e).1
      have e2 := Int.emod_add_mul_ediv h k
      rw [z0, e1] at e2
      by_cases q2 : 2 ≤ x
      · exact q2
      · exfalso
        have : k * x ≤ k * 1 := Int.mul_le_mul_of_nonneg_left (by omega) (by omega)
        omega
    | cons y l => simp at e
/-! ### the sum of the turns -/
def sm : List Int → Int
  | [] => 0
  | a :: r => a + sm r
theorem flo_sum (h k : Int) (h0 : 0 ≤ k) : k ≤ h → 0 < k → sm (flo h k) ≤ h := by
  refine euc (P := fun h k => k ≤ h → 0 < k → sm (flo h k) ≤ h) (fun h _ z => by omega) (fun h k q b a ih hh _ => ?_) h k h0
  rw [flo_pos q]
  show h / k + sm (flo k (h % k)) ≤ h
  have e2 := Int.emod_add_mul_ediv h k
  have t1 : 1 ≤ h / k := by
    have := Int.ediv_le_ediv q hh
    rw [Int.ediv_self (by omega)] at this
    exact this
  by_cases z : 0 < h % k
  · have := ih (by omega) z
    generalize h / k = t at *
    have m : 0 ≤ (k - 1) * (t - 1) := Int.mul_nonneg (by omega) (by omega)
    have m2 : (k - 1) * (t - 1) = k * t - k - t + 1 := by grind
    omega
  · have z0 : h % k = 0 := by omega
    rw [z0, flo_zero]
    rw [z0] at e2
    generalize h / k = t at *
    have : 1 * t ≤ k * t := Int.mul_le_mul_of_nonneg_right (by omega) (by omega)
    simp only [sm]
    omega
theorem flo_sum_tail (h k : Int) (h0 : 0 < k) : sm (flo h k).tail ≤ k := by
  rw [flo_pos h0]
  show sm (flo k (h % k)) ≤ k
  have b := Int.emod_nonneg h (show k ≠ 0 by omega)
  have a := Int.emod_lt_of_pos h h0
  by_cases z : 0 < h % k
  · exact flo_sum k (h % k) b (by omega) z
  · rw [show h % k = 0 by omega, flo_zero]
    exact Int.le_of_lt h0
theorem sm_len {l : List Int} (h : Turns l) : (l.length : Int) ≤ sm l := by
  induction l with
  | nil => exact Int.le_refl _
  | cons a r ih =>
    have h1 := h a (List.mem_cons_self ..)
    have h2 := ih fun t ht => h t (List.mem_cons_of_mem _ ht)
    show ((r.length + 1 : Nat) : Int) ≤ a + sm r
    omega
theorem sm_app (l r : List Int) : sm (l ++ r) = sm l + sm r := by
  induction l with
  | nil => simp [sm]
  | cons a l ih =>
    show a + sm (l ++ r) = a + sm l + sm r
    omega
/-- a row's fraction has no greater turns -/
theorem cf_pos {l : List Int} (h : Turns l) : 1 ≤ (cf l).1 ∧ 0 ≤ (cf l).2 := by
  induction l with
  | nil => exact ⟨by decide, by decide⟩
  | cons a r ih =>
    have h1 := h a (List.mem_cons_self ..)
    obtain ⟨h2, h3⟩ := ih fun t ht => h t (List.mem_cons_of_mem _ ht)
    have : 1 * (cf r).1 ≤ a * (cf r).1 := Int.mul_le_mul_of_nonneg_right h1 (by omega)
    refine ⟨?_, ?_⟩
    · show 1 ≤ a * (cf r).1 + (cf r).2
      omega
    · show 0 ≤ (cf r).1
      omega
theorem cf_le {l : List Int} (h : Turns l) (hl : l ≠ []) : (cf l).2 ≤ (cf l).1 := by
  cases l with
  | nil => exact absurd rfl hl
  | cons a r =>
    have h1 := h a (List.mem_cons_self ..)
    obtain ⟨h2, h3⟩ := cf_pos (l := r) fun t ht => h t (List.mem_cons_of_mem _ ht)
    have : 1 * (cf r).1 ≤ a * (cf r).1 := Int.mul_le_mul_of_nonneg_right h1 (by omega)
    show (cf r).1 ≤ a * (cf r).1 + (cf r).2
    omega
theorem cf_eq {l : List Int} (h : Turns l) (hl : l ≠ []) (e : (cf l).2 = (cf l).1) : l = [1] := by
  cases l with
  | nil => exact absurd rfl hl
  | cons a r =>
    have h1 := h a (List.mem_cons_self ..)
    have hr : Turns r := fun t ht => h t (List.mem_cons_of_mem _ ht)
    obtain ⟨h2, h3⟩ := cf_pos hr
    have e' : (cf r).1 = a * (cf r).1 + (cf r).2 := e
    have m : 1 * (cf r).1 ≤ a * (cf r).1 := Int.mul_le_mul_of_nonneg_right h1 (by omega)
    have z : (cf r).2 = 0 := by omega
    have r0 : r = [] := by
      cases r with
      | nil => rfl
      | cons b s =>
        have := (cf_pos (l := s) fun t ht => hr t (List.mem_cons_of_mem _ ht)).1
        have z' : (cf s).1 = 0 := z
        omega
    subst r0
    have : a * 1 + 0 = 1 := e'.symm
    rw [show a = 1 by omega]
theorem flo_cf_sum {l : List Int} (h : Turns l) : sm (flo (cf l).1 (cf l).2) ≤ sm l := by
  induction l with
  | nil =>
    rw [show (cf []).2 = 0 from rfl, flo_zero]
    exact Int.le_refl _
  | cons a r ih =>
    have hr : Turns r := fun t ht => h t (List.mem_cons_of_mem _ ht)
    obtain ⟨h2, h3⟩ := cf_pos hr
    show sm (flo (a * (cf r).1 + (cf r).2) (cf r).1) ≤ a + sm r
    rw [flo_pos (by omega)]
    by_cases q : (cf r).2 < (cf r).1
    · have e1 : (a * (cf r).1 + (cf r).2) / (cf r).1 = a := by
        rw [Int.add_comm, Int.add_mul_ediv_right _ _ (by omega), Int.ediv_eq_zero_of_lt h3 q]
        omega
      have e2 : (a * (cf r).1 + (cf r).2) % (cf r).1 = (cf r).2 := by
        rw [Int.add_comm, Int.add_mul_emod_self_right]
        exact Int.emod_eq_of_lt h3 q
      rw [e1, e2]
      have := ih hr
      show a + sm _ ≤ _
      omega
    · have hne : r ≠ [] := by
        intro e
        subst e
        exact q (by decide)
      have := cf_le hr hne
      have e : r = [1] := cf_eq hr hne (by omega)
      subst e
      have e3 : (a * (cf [1]).1 + (cf [1]).2) = a + 1 := by
        show a * 1 + 1 = a + 1
        omega
      rw [e3, show (cf [1]).1 = 1 from rfl, Int.ediv_one, Int.emod_one, flo_zero]
      show a + 1 + 0 ≤ a + (1 + 0)
      omega
theorem flo_cf_tail {a : Int} {r : List Int} (hr : Turns r) : sm (flo (cf (a :: r)).1 (cf (a :: r)).2).tail ≤ sm r + 1 := by
  obtain ⟨h2, h3⟩ := cf_pos hr
  show sm (flo (a * (cf r).1 + (cf r).2) (cf r).1).tail ≤ sm r + 1
  rw [flo_pos (by omega)]
  show sm (flo (cf r).1 ((a * (cf r).1 + (cf r).2) % (cf r).1)) ≤ _
  by_cases q : (cf r).2 < (cf r).1
  · have e2 : (a * (cf r).1 + (cf r).2) % (cf r).1 = (cf r).2 := by
      rw [Int.add_comm, Int.add_mul_emod_self_right]
      exact Int.emod_eq_of_lt h3 q
    rw [e2]
    have := flo_cf_sum hr
    omega
  · have hne : r ≠ [] := by
      intro e
      subst e
      exact q (by decide)
    have := cf_le hr hne
    have e : r = [1] := cf_eq hr hne (by omega)
    subst e
    rw [show (cf [1]).1 = 1 from rfl, Int.emod_one, flo_zero]
    decide
theorem cf_gcd {a : Int} {r : List Int} : Int.gcd (cf (a :: r)).1 (cf (a :: r)).2 = 1 := by
  induction r generalizing a with
  | nil =>
    show Int.gcd _ 1 = 1
    exact Int.gcd_one_right _
  | cons b s ih =>
    show Int.gcd (a * (cf (b :: s)).1 + (cf (b :: s)).2) (cf (b :: s)).1 = 1
    rw [Int.add_comm, Int.gcd_add_mul_right_left, Int.gcd_comm]
    exact ih
end Lk71
set_option Elab.async false
set_option linter.all false
set_option maxRecDepth 100000
set_option maxHeartbeats 4000000
/-! k71, the plain law: tables, bottoms, rows of ceilings, the sums. -/
namespace Lk71
/-! ### a row read from the left -/
/-- by sign g: (t p + g q, p) -/
def cs (g : Int) : List Int → Int × Int
  | [] => (1, 0)
  | a :: r => (a * (cs g r).1 + g * (cs g r).2, (cs g r).1)
theorem cs_cf : ∀ l : List Int, cs 1 l = cf l
  | [] => rfl
  | a :: r => by
    show (a * (cs 1 r).1 + 1 * (cs 1 r).2, (cs 1 r).1) = (a * (cf r).1 + (cf r).2, (cf r).1)
    rw [cs_cf r, Int.one_mul]
def bst (g : Int) (x : Int × Int) (t : Int) : Int × Int := (x.2, t * x.2 + g * x.1)
def bof (g : Int) (x : Int × Int) (r : List Int) : Int × Int := r.foldl (bst g) x
/-- the bottoms: of the row but its last turn, of the row (r: behind the first turn) -/
def bot (g : Int) (r : List Int) : Int × Int := bof g (0, 1) r
theorem bof_snd (g : Int) : ∀ (r : List Int) (q s : Int), (bof g (q, s) r).2 = s * (cs g r).1 + g * q * (cs g r).2
  | [], q, s => by
    show s = s * 1 + g * q * 0
    omega
  | t :: r, q, s => by
    show (bof g (s, t * s + g * q) r).2 = s * (t * (cs g r).1 + g * (cs g r).2) + g * q * (cs g r).1
    rw [bof_snd g r]
    grind
theorem bof_app (g : Int) (x : Int × Int) (l r : List Int) : bof g x (l ++ r) = bof g (bof g x l) r := List.foldl_append
theorem bot_snd (g : Int) (r : List Int) : (bot g r).2 = (cs g r).1 := by
  unfold bot
  rw [bof_snd]
  grind
theorem bot_last (g : Int) (r : List Int) (x : Int) : (bot g (r ++ [x])).1 = (bot g r).2 := by
  unfold bot
  rw [bof_app]
  rfl
theorem cs_gcd {g : Int} (hg : g = 1 ∨ g = -1) {a : Int} {r : List Int} : Int.gcd (cs g (a :: r)).1 (cs g (a :: r)).2 = 1 := by
  induction r generalizing a with
  | nil =>
    show Int.gcd _ 1 = 1
    exact Int.gcd_one_right _
  | cons b s ih =>
    show Int.gcd (a * (cs g (b :: s)).1 + g * (cs g (b :: s)).2) (cs g (b :: s)).1 = 1
    rw [Int.add_comm, Int.gcd_add_mul_right_left, Int.gcd_comm]
    rcases hg with h | h
    · rw [h, Int.one_mul, ← h]; exact ih
    · have e : g * (cs g (b :: s)).2 = -(cs g (b :: s)).2 := by rw [h]; omega
      rw [e, Int.gcd_neg]; exact ih
/-! ### tables -/
abbrev T4 := Int × Int × Int × Int
def stp (s : T4) (t : Int) : T4 := (s.1 * t + s.2.1, s.1, s.2.2.1 * t + s.2.2.2, s.2.2.1)
theorem stp_cf : ∀ (l : List Int) (a b c d : Int), (l.foldl stp (a, b, c, d)).1 = a * (cf l).1 + b * (cf l).2 ∧ (l.foldl stp (a, b, c, d)).2.2.1 = c * (cf l).1 + d * (cf l).2
  | [], a, b, c, d => by
    show a = a * 1 + b * 0 ∧ c = c * 1 + d * 0
    omega
  | t :: l, a, b, c, d => by
    obtain ⟨e1, e2⟩ := stp_cf l (a * t + b) a (c * t + d) c
    show (l.foldl stp (a * t + b, a, c * t + d, c)).1 = a * (t * (cf l).1 + (cf l).2) + b * (cf l).1 ∧ (l.foldl stp (a * t + b, a, c * t + d, c)).2.2.1 = c * (t * (cf l).1 + (cf l).2) + d * (cf l).1
    rw [e1, e2]
    constructor <;> grind
def tbl (l : List Int) : T4 := l.foldl stp (1, 0, 0, 1)
theorem tbl_cf (l : List Int) : (tbl l).1 = (cf l).1 ∧ (tbl l).2.2.1 = (cf l).2 := by
  obtain ⟨e1, e2⟩ := stp_cf l 1 0 0 1
  exact ⟨by unfold tbl; rw [e1]; omega, by unfold tbl; rw [e2]; omega⟩
/-! ### rows of ceilings -/
def cei (h k : Int) : List Int := if 0 < k then -((-h) / k) :: cei k (-((-h) / k) * k - h) else []
termination_by k.toNat
decreasing_by
  rename_i q
  have a := Int.emod_lt_of_pos (-h) q
  have b := Int.emod_nonneg (-h) (show k ≠ 0 by omega)
  have c := Int.emod_add_mul_ediv (-h) k
  have d : k * (-h / k) = -h / k * k := Int.mul_comm ..
  have e : -(-h / k) * k = -(-h / k * k) := Int.neg_mul ..
  omega
theorem cei_pos {h k : Int} (q : 0 < k) : cei h k = -((-h) / k) :: cei k (-((-h) / k) * k - h) := by
  rw [cei, if_pos q]
theorem cei_zero (h : Int) : cei h 0 = [] := by
  rw [cei, if_neg (by decide)]
/-- h = t k - r, r not negative, below k -/
theorem cei_by {h k : Int} (t r : Int) (q : 0 < k) (e : h = t * k - r) (h0 : 0 ≤ r) (h1 : r < k) : cei h k = t :: cei k r := by
  have e1 : (-h) / k = -t := by
    have : -h = r + k * (-t) := by
      have : k * -t = -(t * k) := by rw [Int.mul_neg, Int.mul_comm]
      omega
    rw [this, Int.add_mul_ediv_left _ _ (by omega), Int.ediv_eq_zero_of_lt h0 h1]
    omega
  rw [cei_pos q, e1, Int.neg_neg, show t * k - h = r by omega]
def two (n : Nat) : List Int := List.replicate n 2
theorem cei_twos (p q : Int) (hp : 1 ≤ p) (hq : 0 ≤ q) : ∀ j : Nat, cei (((j : Int) + 1) * p + q) ((j : Int) * p + q) = two j ++ cei (p + q) q
  | 0 => by
    show cei ((0 + 1) * p + q) (0 * p + q) = [] ++ cei (p + q) q
    rw [Int.zero_mul, Int.zero_add, Int.zero_add, Int.one_mul, List.nil_append]
  | j + 1 => by
    have m : 0 ≤ (j : Int) * p := Int.mul_nonneg (by omega) (by omega)
    have e1 : (((j + 1 : Nat) : Int) + 1) * p + q = 2 * (((j + 1 : Nat) : Int) * p + q) - ((j : Int) * p + q) := by
      rw [Int.natCast_add]
      grind
    have e2 : ((j + 1 : Nat) : Int) * p + q = ((j : Int) + 1) * p + q := rfl
    have e3 : ((j : Int) + 1) * p = (j : Int) * p + p := by grind
    rw [cei_by 2 ((j : Int) * p + q) (by rw [e2]; omega) e1 (by omega) (by rw [e2]; omega), e2, cei_twos p q hp hq j]
    rfl
/-- the row with minus, behind the first turn (an odd number of turns) -/
def mo : List Int → List Int
  | [] => []
  | [x] => two (x - 1).toNat
  | x :: y :: r => two (x - 1).toNat ++ (y + 2) :: mo r
theorem cei_mo : ∀ (r : List Int), Turns r → r.length % 2 = 1 → cei (cf r).1 ((cf r).1 - (cf r).2) = mo r
  | [], _, h => by cases h
  | [x], ht, _ => by
    have hx := ht x (List.mem_cons_self ..)
    have e := cei_twos 1 0 (by decide) (by decide) (x - 1).toNat
    rw [Int.toNat_of_nonneg (by omega)] at e
    show cei (x * 1 + 0) (x * 1 + 0 - 1) = two (x - 1).toNat
    rw [show x * 1 + 0 = (x - 1 + 1) * 1 + 0 by omega, show (x - 1 + 1) * 1 + 0 - 1 = (x - 1) * 1 + 0 by omega, e, cei_zero, List.append_nil]
  | x :: y :: r, ht, hl => by
    have hx := ht x (List.mem_cons_self ..)
    have hy := ht y (List.mem_cons_of_mem _ (List.mem_cons_self ..))
    have hr : Turns r := fun t h => ht t (List.mem_cons_of_mem _ (List.mem_cons_of_mem _ h))
    have hl' : r.length % 2 = 1 := by
      simp only [List.length_cons] at hl
      omega
    have hne : r ≠ [] := by
      intro e
      subst e
      cases hl'
    obtain ⟨p3, q3⟩ := cf_pos hr
    have le3 := cf_le hr hne
    have q3' : 1 ≤ (cf r).2 := by
      cases r with
      | nil => exact absurd rfl hne
      | cons z s => exact (cf_pos (l := s) fun t h => hr t (List.mem_cons_of_mem _ h)).1
    have m : 0 ≤ y * (cf r).1 := Int.mul_nonneg (by omega) (by omega)
    have ih := cei_mo r hr hl'
    show cei (x * (y * (cf r).1 + (cf r).2) + (cf r).1) (x * (y * (cf r).1 + (cf r).2) + (cf r).1 - (y * (cf r).1 + (cf r).2)) = two (x - 1).toNat ++ (y + 2) :: mo r
    have e := cei_twos (y * (cf r).1 + (cf r).2) (cf r).1 (by omega) (by omega) (x - 1).toNat
    rw [Int.toNat_of_nonneg (by omega)] at e
    have e1 : x * (y * (cf r).1 + (cf r).2) + (cf r).1 = (x - 1 + 1) * (y * (cf r).1 + (cf r).2) + (cf r).1 := by rw [show x - 1 + 1 = x by omega]
    have e2 : x * (y * (cf r).1 + (cf r).2) + (cf r).1 - (y * (cf r).1 + (cf r).2) = (x - 1) * (y * (cf r).1 + (cf r).2) + (cf r).1 := by grind
    rw [e2, e1, e, cei_by (y + 2) ((cf r).1 - (cf r).2) (by omega) (by grind) (by omega) (by omega), ih]
/-- a row of floors of even length, as a row of ceilings -/
theorem cei_row (a : Int) (r : List Int) (ht : Turns r) (hl : r.length % 2 = 1) : cei (cf (a :: r)).1 (cf (a :: r)).2 = (a + 1) :: mo r := by
  have hne : r ≠ [] := by
    intro e
    subst e
    cases hl
  obtain ⟨p3, q3⟩ := cf_pos ht
  have le3 := cf_le ht hne
  have q3' : 1 ≤ (cf r).2 := by
    cases r with
    | nil => exact absurd rfl hne
    | cons z s => exact (cf_pos (l := s) fun t h => ht t (List.mem_cons_of_mem _ h)).1
  show cei (a * (cf r).1 + (cf r).2) (cf r).1 = _
  rw [cei_by (a + 1) ((cf r).1 - (cf r).2) (by omega) (by grind) (by omega) (by omega), cei_mo r ht hl]
theorem mo_two : ∀ (r : List Int), Turns r → ∀ t ∈ mo r, 2 ≤ t
  | [], _, t, h => by cases h
  | [x], _, t, h => by
    rw [List.eq_of_mem_replicate h]
    decide
  | x :: y :: r, ht, t, h => by
    have hy := ht y (List.mem_cons_of_mem _ (List.mem_cons_self ..))
    rcases List.mem_append.mp (show t ∈ two (x - 1).toNat ++ (y + 2) :: mo r from h) with h | h
    · rw [List.eq_of_mem_replicate h]
      decide
    · rcases List.mem_cons.mp h with h | h
      · omega
      · exact mo_two r (fun t h => ht t (List.mem_cons_of_mem _ (List.mem_cons_of_mem _ h))) t h
theorem mo_len : ∀ (r : List Int), Turns r → ((mo r).length : Int) ≤ sm r
  | [], _ => by decide
  | [x], ht => by
    have hx := ht x (List.mem_cons_self ..)
    show (((two (x - 1).toNat).length : Nat) : Int) ≤ x + 0
    unfold two
    rw [List.length_replicate]
    omega
  | x :: y :: r, ht => by
    have hx := ht x (List.mem_cons_self ..)
    have hy := ht y (List.mem_cons_of_mem _ (List.mem_cons_self ..))
    have ih := mo_len r fun t h => ht t (List.mem_cons_of_mem _ (List.mem_cons_of_mem _ h))
    show (((two (x - 1).toNat ++ (y + 2) :: mo r).length : Nat) : Int) ≤ x + (y + sm r)
    unfold two
    rw [List.length_append, List.length_replicate, List.length_cons]
    omega
/-! ### the row with minus is a row of its fraction -/
theorem cs_cei_pos {l : List Int} (h : ∀ t ∈ l, 2 ≤ t) : (cs (-1) l).2 < (cs (-1) l).1 ∧ 0 ≤ (cs (-1) l).2 := by
  induction l with
  | nil => exact ⟨by decide, by decide⟩
  | cons a r ih =>
    have h1 := h a (List.mem_cons_self ..)
    obtain ⟨h2, h3⟩ := ih fun t ht => h t (List.mem_cons_of_mem _ ht)
    have : 2 * (cs (-1) r).1 ≤ a * (cs (-1) r).1 := Int.mul_le_mul_of_nonneg_right h1 (by omega)
    show (cs (-1) r).1 < a * (cs (-1) r).1 + -1 * (cs (-1) r).2 ∧ 0 ≤ (cs (-1) r).1
    omega
/-! ### the sums -/
def at_ (g : Int) : List Int → Int
  | [] => 0
  | a :: r => g * a + at_ (-g) r
def sg (n : Nat) : Int := if n % 2 = 0 then 1 else -1
theorem sg_succ (n : Nat) : sg (n + 1) = -sg n := by
  unfold sg
  by_cases h : n % 2 = 0
  · rw [if_pos h, if_neg (by omega)]
  · rw [if_neg h, if_pos (by omega)]
    rfl
theorem at_app (g : Int) : ∀ l r : List Int, at_ g (l ++ r) = at_ g l + at_ (g * sg l.length) r
  | [], r => by
    show at_ g r = 0 + at_ (g * 1) r
    rw [Int.mul_one, Int.zero_add]
  | a :: l, r => by
    show g * a + at_ (-g) (l ++ r) = g * a + at_ (-g) l + at_ (g * sg (l.length + 1)) r
    rw [at_app (-g) l r, sg_succ, show -g * sg l.length = g * -sg l.length by grind]
    omega
/-- the sum by turns -/
def due (a : Int) (r : List Int) (h k : Int) : Int := if r.length % 2 = 1 then k * (at_ 1 r - 3) + h - a * k + (bot 1 r).1 else k * at_ 1 r + h - a * k - (bot 1 r).1
theorem due_longer (a : Int) (r : List Int) (l h k : Int) (hk : (bot 1 (r ++ [l])).2 = k) : due a (r ++ [l - 1, 1]) h k = due a (r ++ [l]) h k := by
  have e1 : bot 1 (r ++ [l]) = ((bot 1 r).2, l * (bot 1 r).2 + 1 * (bot 1 r).1) := by
    unfold bot
    rw [bof_app]
    rfl
  have e2 : (bot 1 (r ++ [l - 1, 1])).1 = (l - 1) * (bot 1 r).2 + 1 * (bot 1 r).1 := by
    unfold bot
    rw [bof_app]
    rfl
  rw [e1] at hk
  unfold due
  rw [e1, e2, at_app, at_app]
  simp only [List.length_append, List.length_cons, List.length_nil, at_]
  dsimp only at hk
  unfold sg
  by_cases q : r.length % 2 = 0
  · rw [if_neg (by omega), if_pos q, if_pos (by omega)]
    grind
  · rw [if_pos (by omega), if_neg q, if_neg (by omega)]
    grind
/-- the row [l] alone, k = 1 -/
theorem due_one (l h : Int) : due (l - 1) [1] h 1 = due l [] h 1 := by
  unfold due bot bof at_
  simp [bst, at_]
  omega
def s3 : List Int → Int
  | [] => 0
  | a :: r => 3 - a + s3 r
theorem s3_app : ∀ l r : List Int, s3 (l ++ r) = s3 l + s3 r
  | [], r => by
    show s3 r = 0 + s3 r
    omega
  | a :: l, r => by
    show 3 - a + s3 (l ++ r) = 3 - a + s3 l + s3 r
    rw [s3_app l r]
    omega
theorem s3_two : ∀ n : Nat, s3 (two n) = n
  | 0 => rfl
  | n + 1 => by
    show 3 - 2 + s3 (two n) = _
    rw [s3_two n]
    omega
theorem s3_mo : ∀ r : List Int, Turns r → r.length % 2 = 1 → s3 (mo r) = at_ 1 r - 1
  | [], _, h => by cases h
  | [x], ht, _ => by
    have hx := ht x (List.mem_cons_self ..)
    show s3 (two (x - 1).toNat) = 1 * x + 0 - 1
    rw [s3_two]
    omega
  | x :: y :: r, ht, hl => by
    have hx := ht x (List.mem_cons_self ..)
    have ih := s3_mo r (fun t h => ht t (List.mem_cons_of_mem _ (List.mem_cons_of_mem _ h))) (by simp only [List.length_cons] at hl; omega)
    show s3 (two (x - 1).toNat ++ (y + 2) :: mo r) = 1 * x + (-1 * y + at_ 1 r) - 1
    rw [s3_app, s3_two]
    show ((x - 1).toNat : Int) + (3 - (y + 2) + s3 (mo r)) = _
    omega
theorem bof_twos (q s : Int) : ∀ j : Nat, bof (-1) (q, s + q) (two j) = ((j : Int) * s + q, ((j : Int) + 1) * s + q)
  | 0 => by
    show (q, s + q) = (0 * s + q, (0 + 1) * s + q)
    rw [Int.zero_mul, Int.zero_add, Int.zero_add, Int.one_mul]
  | j + 1 => by
    have e : two (j + 1) = two j ++ [2] := List.replicate_succ'
    rw [e, bof_app, bof_twos q s j]
    show (((j : Int) + 1) * s + q, 2 * (((j : Int) + 1) * s + q) + -1 * ((j : Int) * s + q)) = _
    rw [Int.natCast_add]
    refine Prod.ext rfl ?_
    show 2 * (((j : Int) + 1) * s + q) + -1 * ((j : Int) * s + q) = ((j : Int) + ((1 : Nat) : Int) + 1) * s + q
    grind
theorem bof_mo : ∀ (r : List Int) (q s : Int), Turns r → r.length % 2 = 1 → bof (-1) (q, s + q) (mo r) = ((bof 1 (q, s) r).2 - (bof 1 (q, s) r).1, (bof 1 (q, s) r).2)
  | [], _, _, _, h => by cases h
  | [x], q, s, ht, _ => by
    have hx := ht x (List.mem_cons_self ..)
    show bof (-1) (q, s + q) (two (x - 1).toNat) = (x * s + 1 * q - s, x * s + 1 * q)
    rw [bof_twos, Int.toNat_of_nonneg (by omega)]
    refine Prod.ext ?_ ?_
    · show (x - 1) * s + q = x * s + 1 * q - s
      grind
    · show (x - 1 + 1) * s + q = x * s + 1 * q
      grind
  | x :: y :: r, q, s, ht, hl => by
    have hx := ht x (List.mem_cons_self ..)
    have ih := bof_mo r (x * s + 1 * q) (y * (x * s + 1 * q) + 1 * s) (fun t h => ht t (List.mem_cons_of_mem _ (List.mem_cons_of_mem _ h))) (by simp only [List.length_cons] at hl; omega)
    show bof (-1) (q, s + q) (two (x - 1).toNat ++ (y + 2) :: mo r) = ((bof 1 (x * s + 1 * q, y * (x * s + 1 * q) + 1 * s) r).2 - (bof 1 (x * s + 1 * q, y * (x * s + 1 * q) + 1 * s) r).1, (bof 1 (x * s + 1 * q, y * (x * s + 1 * q) + 1 * s) r).2)
    rw [bof_app, bof_twos, Int.toNat_of_nonneg (by omega), ← ih]
    show bof (-1) ((x - 1 + 1) * s + q, (y + 2) * ((x - 1 + 1) * s + q) + -1 * ((x - 1) * s + q)) (mo r) = _
    congr 1
    refine Prod.ext ?_ ?_
    · show (x - 1 + 1) * s + q = x * s + 1 * q
      grind
    · show (y + 2) * ((x - 1 + 1) * s + q) + -1 * ((x - 1) * s + q) = y * (x * s + 1 * q) + 1 * s + (x * s + 1 * q)
      grind
theorem bot_mo (r : List Int) (ht : Turns r) (hl : r.length % 2 = 1) : bot (-1) (mo r) = ((bot 1 r).2 - (bot 1 r).1, (bot 1 r).2) := bof_mo r 0 1 ht hl
/-- the sum by the row with minus -/
theorem due_minus (a : Int) (r : List Int) (h k : Int) (ht : Turns r) (hl : r.length % 2 = 1) (hk : (bot 1 r).2 = k) : k * s3 (mo r) - (a + 1) * k + h - (bot (-1) (mo r)).1 = due a r h k := by
  unfold due
  rw [if_pos hl, s3_mo r ht hl, bot_mo r ht hl]
  dsimp only
  grind
/-! ### the definition, for small bottoms -/
def floF : Nat → Int → Int → List Int
  | 0, _, _ => []
  | n + 1, h, k => match decide (0 < k) with
    | true => h / k :: floF n k (h % k)
    | false => []
theorem floF_eq : ∀ (n : Nat) (h k : Int), 0 ≤ k → k.toNat < n → floF n h k = flo h k
  | 0, _, _, _, h => by omega
  | n + 1, h, k, h0, hn => by
    by_cases q : 0 < k
    · have a := Int.emod_lt_of_pos h q
      have b := Int.emod_nonneg h (show k ≠ 0 by omega)
      rw [flo_pos q, ← floF_eq n k (h % k) b (by omega)]
      show (match decide (0 < k) with
        | true => h / k :: floF n k (h % k)
        | false => []) = _
      rw [decide_eq_true q]
    · have : k = 0 := by omega
      subst this
      rw [flo_zero]
      rfl
/-- the sum by the definition: over i from 1 to n -/
def dfn (h k : Int) : Nat → Int
  | 0 => 0
  | n + 1 => dfn h k n + (2 * ((n : Int) + 1) - k) * (match decide (h * ((n : Int) + 1) % k = 0) with
    | true => 0
    | false => 2 * (h * ((n : Int) + 1) % k) - k)
theorem dfn_mod (h k : Int) : ∀ n, dfn (h % k) k n = dfn h k n
  | 0 => rfl
  | n + 1 => by
    have e : h % k * ((n : Int) + 1) % k = h * ((n : Int) + 1) % k := by
      rw [Int.mul_emod, Int.emod_emod, ← Int.mul_emod]
    show dfn (h % k) k n + (2 * ((n : Int) + 1) - k) * (match decide (h % k * ((n : Int) + 1) % k = 0) with
      | true => 0
      | false => 2 * (h % k * ((n : Int) + 1) % k) - k) = _
    rw [e, dfn_mod h k n]
    rfl
theorem due_mod {a : Int} {r : List Int} {h k : Int} : due a r h k = due 0 r (h - a * k) k := by
  unfold due
  rw [Int.zero_mul, Int.sub_zero]
  split <;> omega
def okN (k h : Nat) : Bool := match Nat.beq (Nat.gcd h k) 1 with
  | true => decide (3 * dfn h k (k - 1) = k * due 0 (floF 61 k h) h k)
  | false => true
theorem small : ((List.range 61).all fun k => (List.range k).all fun h => okN k h) = true := by decide +kernel
theorem small_ok (h k : Int) (h0 : 0 < k) (h1 : k ≤ 60) (hg : Int.gcd h k = 1) : 3 * dfn h k (k - 1).toNat = k * due (h / k) (flo h k).tail h k := by
  have b := Int.emod_nonneg h (show k ≠ 0 by omega)
  have a := Int.emod_lt_of_pos h h0
  have e1 := List.all_eq_true.mp small k.toNat (List.mem_range.mpr (by omega))
  have e2 := List.all_eq_true.mp e1 (h % k).toNat (List.mem_range.mpr (by omega))
  have hk : ((k.toNat : Nat) : Int) = k := Int.toNat_of_nonneg (by omega)
  have hr : (((h % k).toNat : Nat) : Int) = h % k := Int.toNat_of_nonneg b
  have g1 : Nat.gcd (h % k).toNat k.toNat = 1 := by
    have : Int.gcd ((h % k).toNat : Int) (k.toNat : Int) = 1 := by
      rw [hk, hr, Int.gcd_comm, gcd_step, hg]
    exact this
  have e3 : decide (3 * dfn ((h % k).toNat : Int) (k.toNat : Int) (k.toNat - 1) = (k.toNat : Int) * due 0 (floF 61 (k.toNat : Int) ((h % k).toNat : Int)) ((h % k).toNat : Int) (k.toNat : Int)) = true := by
    have e4 : okN k.toNat (h % k).toNat = true := e2
    unfold okN at e4
    rw [g1] at e4
    exact e4
  have e5 := of_decide_eq_true e3
  rw [hk, hr, dfn_mod, floF_eq 61 k (h % k) b (by omega)] at e5
  rw [show (k - 1).toNat = k.toNat - 1 by omega, e5, flo_pos h0, due_mod (a := h / k)]
  have := Int.emod_add_mul_ediv h k
  rw [show h - h / k * k = h % k by rw [Int.mul_comm]; omega]
  rfl
end Lk71
set_option Elab.async false
set_option linter.all false
set_option maxRecDepth 100000
set_option maxHeartbeats 4000000
/-! k71: what the defs compute is the plain law's. -/
namespace Lk71
open PySem PyProof.Rows L2 Pu
abbrev dI (l : List Int) : List D := l.map D.int
theorem draw_eq : p__law_draw = p_draw := rfl
theorem pool_eq : p__law_pool = p_pool := rfl
/-! ### gcd -/
theorem gcd_loop : ∀ (n : Nat) (a b : Int), 0 ≤ a → 0 ≤ b → b.toNat < n → whileN c__law_gcd_0 w__law_gcd_0 n [.im (.int a), .im (.int b)] = .ok .nx [.im (.int (Int.gcd a b)), .im (.int 0)]
  | 0, a, b, _, _, h => by omega
  | n + 1, a, b, ha, hb, hn => by
    by_cases h : 0 < b
    · have h2 : b ≠ 0 := by omega
      have e1 : a.fmod b = a % b := Int.fmod_eq_emod_of_nonneg a hb
      have k1 := Int.emod_lt_of_pos a h
      have k2 := Int.emod_nonneg a h2
      have ih := gcd_loop n b (a % b) hb k2 (by omega)
      rw [gcd_step] at ih
      rw [← ih]
      simp [whileN, c__law_gcd_0, w__law_gcd_0, h, h2, e1]
    · have : b = 0 := by omega
      subst this
      have e : (Int.gcd a 0 : Int) = a := by rw [Int.gcd_zero_right]; omega
      rw [e]
      simp [whileN, c__law_gcd_0, w__law_gcd_0]
theorem abs_if (a : Int) : (if a < 0 then -a else a) = (a.natAbs : Int) := by
  split <;> omega
theorem gcd_ok (a b : Int) : p__law_gcd [.im (.int a), .im (.int b)] = .ok (.im (.int (Int.gcd a b))) [] := by
  have l := gcd_loop ((b.natAbs : Int).toNat + 1) a.natAbs b.natAbs (by omega) (by omega) (by omega)
  have e : Int.gcd (a.natAbs : Int) (b.natAbs : Int) = Int.gcd a b := by
    simp [Int.gcd_eq_natAbs_gcd_natAbs]
  rw [e] at l
  simp only [Int.toNat_natCast] at l
  simp [p__law_gcd, runFn, b__law_gcd, entryE, abs_if, l, finE]
/-! ### floors -/
theorem fdiv_pos {h k : Int} (q : 0 < k) : h.fdiv k = h / k := Int.fdiv_eq_ediv_of_nonneg h (by omega)
theorem fmod_pos {h k : Int} (q : 0 < k) : h.fmod k = h % k := Int.fmod_eq_emod_of_nonneg h (by omega)
theorem small_div {k : Int} (h0 : 0 < k) (h1 : k < 2 ^ 200) : fdivOk k = true := div_b k (b := 200) (by omega) (by omega) (by decide)
theorem flo_loop : ∀ (n : Nat) (h k : Int) (acc : List Int), 0 ≤ k → k.toNat < n → k < 2 ^ 200 → acc.length + (flo h k).length < 5000 → ∃ x, whileN c__law_floors_0 w__law_floors_0 n [.im (.int h), .im (.int k), .ow (dI acc)] = .ok .nx [.im (.int x), .im (.int 0), .ow (dI (acc ++ flo h k))]
  | 0, h, k, acc, _, hn, _, _ => by omega
  | n + 1, h, k, acc, h0, hn, hb, hl => by
    by_cases q : 0 < k
    · have k0 : k ≠ 0 := by omega
      have k1 := Int.emod_lt_of_pos h q
      have k2 := Int.emod_nonneg h k0
      rw [flo_pos q] at hl ⊢
      rw [List.length_cons] at hl
      obtain ⟨x, ih⟩ := flo_loop n k (h % k) (acc ++ [h / k]) k2 (by omega) (by omega) (by rw [List.length_append, List.length_singleton]; omega)
      refine ⟨x, ?_⟩
      rw [List.append_assoc] at ih
      have s1 : decide ((acc.map D.int).length < sizeLine) = true := sl_of (by rw [List.length_map]; omega)
      have d1 := small_div q hb
      rw [show acc ++ h / k :: flo k (h % k) = acc ++ ([h / k] ++ flo k (h % k)) from rfl, ← ih]
      rw [List.length_map] at s1
      simp [whileN, c__law_floors_0, w__law_floors_0, q, k0, s1, d1, fdiv_pos q, fmod_pos q]
    · have : k = 0 := by omega
      subst this
      refine ⟨h, ?_⟩
      rw [flo_zero]
      simp [whileN, c__law_floors_0, w__law_floors_0]
theorem floors_ok (h k : Int) (h0 : 0 ≤ k) (hb : k < 2 ^ 200) (hl : (flo h k).length < 5000) : p__law_floors [.im (.int h), .im (.int k)] = .ok (.ow (dI (flo h k))) [] := by
  obtain ⟨x, l⟩ := flo_loop (k.toNat + 1) h k [] h0 (by omega) hb (by simpa using hl)
  rw [List.nil_append] at l
  simp only [List.map_nil] at l
  simp [p__law_floors, runFn, b__law_floors, entryE, l, finE]
/-! ### ceilings -/
theorem cei_loop2 : ∀ (n : Nat) (h k : Int) (acc : List Int) (x : Sl), Free x → 0 ≤ k → k.toNat < n → k < 2 ^ 200 → acc.length + (cei h k).length < 5000 → (∀ t ∈ cei h k, -2000 ≤ t ∧ t ≤ 2000) → ∃ y z, Free z ∧ whileN c__law_ceilings_0 w__law_ceilings_0 n [.im (.int h), .im (.int k), .ow (dI acc), x] = .ok .nx [.im (.int y), .im (.int 0), .ow (dI (acc ++ cei h k)), z]
  | 0, h, k, acc, x, _, _, hn, _, _, _ => by omega
  | n + 1, h, k, acc, x, fx, h0, hn, hb, hl, ht => by
    by_cases q : 0 < k
    · have k0 : k ≠ 0 := by omega
      have a := Int.emod_lt_of_pos (-h) q
      have b := Int.emod_nonneg (-h) k0
      have c := Int.emod_add_mul_ediv (-h) k
      have er : -((-h) / k) * k - h = (-h) % k := by
        have d : k * (-h / k) = -h / k * k := Int.mul_comm ..
        have e : -(-h / k) * k = -(-h / k * k) := Int.neg_mul ..
        omega
      rw [cei_pos q] at hl ht ⊢
      rw [List.length_cons] at hl
      have t1 := ht _ (List.mem_cons_self ..)
      rw [er] at hl ht ⊢
      obtain ⟨y, z, fz, ih⟩ := cei_loop2 n k ((-h) % k) (acc ++ [-((-h) / k)]) (.im (.int (-((-h) / k)))) (.im _) b (by omega) (by omega) (by rw [List.length_append, List.length_singleton]; omega) (fun t h => ht t (List.mem_cons_of_mem _ h))
      refine ⟨y, z, fz, ?_⟩
      rw [List.append_assoc] at ih
      have s1 : decide (acc.length < sizeLine) = true := sl_of (by omega)
      have d1 := small_div q hb
      have m1 : mulOk (-((-h) / k)) k = true := mul_l _ _ (by omega) (by omega)
      rw [show acc ++ -((-h) / k) :: cei k ((-h) % k) = acc ++ ([-((-h) / k)] ++ cei k ((-h) % k)) from rfl, ← ih]
      simp [whileN, c__law_ceilings_0, w__law_ceilings_0, q, k0, s1, d1, m1, fx, fdiv_pos q, ← er]
    · have : k = 0 := by omega
      subst this
      refine ⟨h, x, fx, ?_⟩
      rw [cei_zero]
      simp [whileN, c__law_ceilings_0, w__law_ceilings_0]
theorem ceilings_ok (h k : Int) (h0 : 0 ≤ k) (hb : k < 2 ^ 200) (hl : (cei h k).length < 5000) (ht : ∀ t ∈ cei h k, -2000 ≤ t ∧ t ≤ 2000) : p__law_ceilings [.im (.int h), .im (.int k)] = .ok (.ow (dI (cei h k))) [] := by
  obtain ⟨y, z, fz, l⟩ := cei_loop2 (k.toNat + 1) h k [] .un .un h0 (by omega) hb (by simpa using hl) ht
  rw [List.nil_append] at l
  simp only [List.map_nil] at l
  simp [p__law_ceilings, runFn, b__law_ceilings, entryE, l, finE, fz]
/-! ### bottoms -/
def Sm (l : List Int) : Prop := ∀ t ∈ l, -2000 ≤ t ∧ t ≤ 2000
theorem Sm.tail {a : Int} {l : List Int} (h : Sm (a :: l)) : Sm l := fun t ht => h t (List.mem_cons_of_mem _ ht)
theorem bot_loop (L : D) (g : Int) (hg : g = 1 ∨ g = -1) : ∀ (l : List Int) (q s : Int) (x : Sl), Free x → Sm l → ∃ y, Free y ∧ forL (setIm 2) u__law_bottoms_0 (dI l) [.im L, .im (.int g), x, .im (.int q), .im (.int s)] = .ok .nx [.im L, .im (.int g), y, .im (.int (bof g (q, s) l).1), .im (.int (bof g (q, s) l).2)]
  | [], q, s, x, fx, _ => ⟨x, fx, rfl⟩
  | t :: l, q, s, x, fx, hs => by
    have h1 := hs t (List.mem_cons_self ..)
    obtain ⟨y, fy, ih⟩ := bot_loop L g hg l s (t * s + g * q) (.im (.int t)) (.im _) hs.tail
    refine ⟨y, fy, ?_⟩
    have m1 : mulOk t s = true := mul_l _ _ (by omega) (by omega)
    have m2 : mulOk g q = true := mul_l _ _ (by omega) (by omega)
    have e1 : setIm 2 (.int t) [.im L, .im (.int g), x, .im (.int q), .im (.int s)] = some [.im L, .im (.int g), .im (.int t), .im (.int q), .im (.int s)] := by simp [fx]
    have e2 : u__law_bottoms_0 [.im L, .im (.int g), .im (.int t), .im (.int q), .im (.int s)] = .ok .nx [.im L, .im (.int g), .im (.int t), .im (.int s), .im (.int (t * s + g * q))] := by
      simp [u__law_bottoms_0, m1, m2]
    show forL (setIm 2) u__law_bottoms_0 (.int t :: dI l) _ = _
    rw [for_cons e1 e2]
    exact ih
theorem bottoms_ok (a : Int) (r : List Int) (g : Int) (hg : g = 1 ∨ g = -1) (hs : Sm r) : p__law_bottoms [.im (.lst (dI (a :: r))), .im (.int g)] = .ok (.im (.tup [.int (bot g r).1, .int (bot g r).2])) [] := by
  obtain ⟨y, fy, l⟩ := bot_loop (.lst (dI (a :: r))) g hg r 0 1 .un .un hs
  simp only [List.map_cons] at l
  simp [p__law_bottoms, runFn, b__law_bottoms, entryE, l, finE, fy, bot]
/-! ### the sum by turns -/
theorem turn_loop (L hh kk n : D) : ∀ (l : List Int) (tot : Int) (g : Int) (x : Sl), g = 1 ∨ g = -1 → Free x → Sm l → ∃ y g', Free y ∧ forL (setIm 6) u__law_by_turns_0 (dI l) [.im L, .im hh, .im kk, .im n, .im (.int tot), .im (.int g), x, .un, .un] = .ok .nx [.im L, .im hh, .im kk, .im n, .im (.int (tot + at_ g l)), .im (.int g'), y, .un, .un]
  | [], tot, g, x, _, fx, _ => ⟨x, g, fx, by rw [show at_ g [] = 0 from rfl, Int.add_zero]; rfl⟩
  | t :: l, tot, g, x, hg, fx, hs => by
    obtain ⟨y, g', fy, ih⟩ := turn_loop L hh kk n l (tot + g * t) (-g) (.im (.int t)) (by omega) (.im _) hs.tail
    refine ⟨y, g', fy, ?_⟩
    have m1 : mulOk g t = true := mul_l _ _ (by omega) (by omega)
    have e1 : setIm 6 (.int t) [.im L, .im hh, .im kk, .im n, .im (.int tot), .im (.int g), x, .un, .un] = some [.im L, .im hh, .im kk, .im n, .im (.int tot), .im (.int g), .im (.int t), .un, .un] := by simp [fx]
    have e2 : u__law_by_turns_0 [.im L, .im hh, .im kk, .im n, .im (.int tot), .im (.int g), .im (.int t), .un, .un] = .ok .nx [.im L, .im hh, .im kk, .im n, .im (.int (tot + g * t)), .im (.int (-g)), .im (.int t), .un, .un] := by
      simp [u__law_by_turns_0, m1]
    show forL (setIm 6) u__law_by_turns_0 (.int t :: dI l) _ = _
    rw [for_cons e1 e2, ih, show at_ g (t :: l) = g * t + at_ (-g) l from rfl, Int.add_assoc]
theorem at_bound : ∀ (l : List Int) (g : Int), g = 1 ∨ g = -1 → Sm l → (at_ g l).natAbs ≤ 2000 * l.length
  | [], _, _, _ => by simp [at_]
  | t :: l, g, hg, hs => by
    have h1 := hs t (List.mem_cons_self ..)
    have ih := at_bound l (-g) (by omega) hs.tail
    show (g * t + at_ (-g) l).natAbs ≤ 2000 * (l.length + 1)
    rcases hg with h | h
    · subst h
      rw [Int.one_mul]
      omega
    · subst h
      rw [show -1 * t = -t by omega]
      omega
theorem turns_ok (a : Int) (r : List Int) (h k : Int) (ha : -2000 ≤ a ∧ a ≤ 2000) (hs : Sm r) (hl : r.length < 5000) : p__law_by_turns [.im (.lst (dI (a :: r))), .im (.int h), .im (.int k)] = .ok (.im (.int (due a r h k))) [] := by
  obtain ⟨y, g', fy, l⟩ := turn_loop (.lst (dI (a :: r))) (.int h) (.int k) (.int (r.length : Int)) r 0 1 .un (.inl rfl) .un hs
  have b := bottoms_ok a r 1 (.inl rfl) hs
  have tb := at_bound r 1 (.inl rfl) hs
  simp only [List.map_cons] at l b
  rw [Int.zero_add] at l
  have m1 : mulOk k (at_ 1 r - 3) = true := mul_r _ _ (by omega) (by omega)
  have m2 : mulOk k (at_ 1 r) = true := mul_r _ _ (by omega) (by omega)
  have m3 : mulOk a k = true := mul_l _ _ (by omega) (by omega)
  have e0 : ((r.length : Int) + 1 - 1) = r.length := by omega
  have e1 : ((r.length : Int)).fmod 2 = ((r.length % 2 : Nat) : Int) := by
    rw [Int.fmod_eq_emod_of_nonneg _ (by decide)]
    rfl
  unfold due
  by_cases q : r.length % 2 = 1
  · rw [q] at e1
    simp [p__law_by_turns, runFn, b__law_by_turns, entryE, e0, l, fy, b, e1, finE, m1, m2, m3, q]
  · rw [show r.length % 2 = 0 by omega] at e1
    simp [p__law_by_turns, runFn, b__law_by_turns, entryE, e0, l, fy, b, e1, finE, m1, m2, m3, q]
/-! ### the sum by the row with minus -/
theorem minus_loop (L hh kk : D) : ∀ (l : List Int) (tot : Int) (x : Sl), Free x → ∃ y, Free y ∧ forL (setIm 4) u__law_by_minus_0 (dI l) [.im L, .im hh, .im kk, .im (.int tot), x, .un, .un] = .ok .nx [.im L, .im hh, .im kk, .im (.int (tot + s3 l)), y, .un, .un]
  | [], tot, x, fx => ⟨x, fx, by rw [show s3 [] = 0 from rfl, Int.add_zero]; rfl⟩
  | t :: l, tot, x, fx => by
    obtain ⟨y, fy, ih⟩ := minus_loop L hh kk l (tot + 3 - t) (.im (.int t)) (.im _)
    refine ⟨y, fy, ?_⟩
    have e1 : setIm 4 (.int t) [.im L, .im hh, .im kk, .im (.int tot), x, .un, .un] = some [.im L, .im hh, .im kk, .im (.int tot), .im (.int t), .un, .un] := by simp [fx]
    have e2 : u__law_by_minus_0 [.im L, .im hh, .im kk, .im (.int tot), .im (.int t), .un, .un] = .ok .nx [.im L, .im hh, .im kk, .im (.int (tot + 3 - t)), .im (.int t), .un, .un] := by
      simp [u__law_by_minus_0]
    show forL (setIm 4) u__law_by_minus_0 (.int t :: dI l) _ = _
    rw [for_cons e1 e2, ih, show s3 (t :: l) = 3 - t + s3 l from rfl, show tot + 3 - t + s3 l = tot + (3 - t + s3 l) by omega]
theorem s3_bound : ∀ (l : List Int), Sm l → (s3 l).natAbs ≤ 2003 * l.length
  | [], _ => by simp [s3]
  | t :: l, hs => by
    have h1 := hs t (List.mem_cons_self ..)
    have ih := s3_bound l hs.tail
    show (3 - t + s3 l).natAbs ≤ 2003 * (l.length + 1)
    omega
theorem minus_ok (a : Int) (r : List Int) (h k : Int) (ha : -2001 ≤ a ∧ a ≤ 2001) (hs : Sm r) (hl : r.length < 5000) : p__law_by_minus [.im (.lst (dI (a :: r))), .im (.int h), .im (.int k)] = .ok (.im (.int (k * s3 r - a * k + h - (bot (-1) r).1))) [] := by
  obtain ⟨y, fy, l⟩ := minus_loop (.lst (dI (a :: r))) (.int h) (.int k) r 0 .un .un
  have b := bottoms_ok a r (-1) (.inr rfl) hs
  have tb := s3_bound r hs
  simp only [List.map_cons] at l b
  rw [Int.zero_add] at l
  have m1 : mulOk k (s3 r) = true := mul_r _ _ (by omega) (by omega)
  have m3 : mulOk a k = true := mul_l _ _ (by omega) (by omega)
  simp [p__law_by_minus, runFn, b__law_by_minus, entryE, l, fy, b, finE, m1, m3]
end Lk71
set_option Elab.async false
set_option linter.all false
set_option maxRecDepth 100000
set_option maxHeartbeats 4000000
/-! k71: fractions, rows, tables. -/
namespace Lk71
open PySem PyProof.Rows L2 Pu
abbrev fr (t b : Int) : D := .ins "Frac" ["top", "bottom"] [.int t, .int b]
abbrev rw_ (l : List Int) : D := .ins "Row" ["head", "loop", "kind"] [.tup (dI l), .tup [], .str "ended"]
abbrev mr (l : List Int) : D := .ins "MinusRow" ["head", "loop"] [.tup (dI l), .tup []]
abbrev tbD (t : T4) : D := .ins "Table" ["a", "b", "c", "d"] [.int t.1, .int t.2.1, .int t.2.2.1, .int t.2.2.2]
section
variable (x y z w : D) (E : Pu.Env) (k : Nat)
@[simp] theorem lk_top : lookF ["top", "bottom"] [x, y] "top" = some x := rfl
@[simp] theorem lk_bottom : lookF ["top", "bottom"] [x, y] "bottom" = some y := rfl
@[simp] theorem lk_rhead : lookF ["head", "loop", "kind"] [x, y, z] "head" = some x := rfl
@[simp] theorem lk_rloop : lookF ["head", "loop", "kind"] [x, y, z] "loop" = some y := rfl
@[simp] theorem lk_rkind : lookF ["head", "loop", "kind"] [x, y, z] "kind" = some z := rfl
@[simp] theorem lk_rloop2 : lookF ["head", "loop"] [x, y] "loop" = some y := rfl
@[simp] theorem lk_mhead : lookF ["head", "loop"] [x, y] "head" = some x := rfl
@[simp] theorem lk_a : lookF ["a", "b", "c", "d"] [x, y, z, w] "a" = some x := rfl
@[simp] theorem lk_c : lookF ["a", "b", "c", "d"] [x, y, z, w] "c" = some z := rfl
@[simp] theorem st_top : setSe ["Frac"] 0 "top" x (.se 0 "Frac" [] [] :: E) = some (.se 0 "Frac" ["top"] [x] :: E) := rfl
@[simp] theorem st_bottom : setSe ["Frac"] 0 "bottom" y (.se 0 "Frac" ["top"] [x] :: E) = some (.se 0 "Frac" ["top", "bottom"] [x, y] :: E) := rfl
@[simp] theorem st_a : setSe ["Table"] 0 "a" x (.se 0 "Table" [] [] :: E) = some (.se 0 "Table" ["a"] [x] :: E) := rfl
@[simp] theorem st_b : setSe ["Table"] 0 "b" y (.se 0 "Table" ["a"] [x] :: E) = some (.se 0 "Table" ["a", "b"] [x, y] :: E) := rfl
@[simp] theorem st_c : setSe ["Table"] 0 "c" z (.se 0 "Table" ["a", "b"] [x, y] :: E) = some (.se 0 "Table" ["a", "b", "c"] [x, y, z] :: E) := rfl
@[simp] theorem st_d : setSe ["Table"] 0 "d" w (.se 0 "Table" ["a", "b", "c"] [x, y, z] :: E) = some (.se 0 "Table" ["a", "b", "c", "d"] [x, y, z, w] :: E) := rfl
@[simp] theorem st_rhead : setSe ["Row"] 0 "head" x (.se 0 "Row" [] [] :: E) = some (.se 0 "Row" ["head"] [x] :: E) := rfl
@[simp] theorem st_rloop : setSe ["Row"] 0 "loop" y (.se 0 "Row" ["head"] [x] :: E) = some (.se 0 "Row" ["head", "loop"] [x, y] :: E) := rfl
@[simp] theorem st_rkind : setSe ["Row"] 0 "kind" z (.se 0 "Row" ["head", "loop"] [x, y] :: E) = some (.se 0 "Row" ["head", "loop", "kind"] [x, y, z] :: E) := rfl
@[simp] theorem st_mhead : setSe ["MinusRow"] 0 "head" x (.se 0 "MinusRow" [] [] :: E) = some (.se 0 "MinusRow" ["head"] [x] :: E) := rfl
@[simp] theorem st_mloop : setSe ["MinusRow"] 0 "loop" y (.se 0 "MinusRow" ["head"] [x] :: E) = some (.se 0 "MinusRow" ["head", "loop"] [x, y] :: E) := rfl
@[simp] theorem hf_1 : hasF ["head", "loop", "kind"] "frac" = false := rfl
@[simp] theorem hf_2 : hasF ["head", "loop", "kind"] "convergent" = false := rfl
@[simp] theorem hf_3 : hasF ["head", "loop", "kind"] "turn" = false := rfl
@[simp] theorem hf_4 : hasF ["head", "loop", "kind"] "table" = false := rfl
@[simp] theorem hf_5 : hasF ["head", "loop", "kind"] "turns" = false := rfl
@[simp] theorem hf_6 : hasF ["head", "loop"] "turn" = false := rfl
@[simp] theorem hf_7 : hasF ["head", "loop"] "convergent" = false := rfl
@[simp] theorem is1 (t b : D) : (kdOf (.ins "Frac" ["top", "bottom"] [t, b])).bind is_Frac = some true := rfl
@[simp] theorem is2 : (kdOf (.ins "Row" ["head", "loop", "kind"] [x, y, z])).bind is_Row = some true := rfl
@[simp] theorem is3 : (kdOf (.ins "MinusRow" ["head", "loop"] [x, y])).bind is_MinusRow = some true := rfl
@[simp] theorem is4 (i : Int) : (kdOf (.int i)).bind is_int = some true := rfl
@[simp] theorem is5 (i : Int) : (kdOf (.int i)).bind is_bool = some false := rfl
@[simp] theorem is6 (l : List D) : (kdOf (.tup l)).bind is_tuple = some true := rfl
end
/-! ### fractions -/
theorem whole_ok (i : Int) : p__law_whole [.im (.int i)] = .ok (.im (.bl true)) [] := by
  simp [p__law_whole, runFn, b__law_whole, entryE, finE]
theorem is_frac_ok (t b p q : Int) : p__law_is_frac [.im (fr t b), .im (.int p), .im (.int q)] = .ok (.im (.bl (decide (t = p) && decide (b = q)))) [] := by
  by_cases h : t = p
  · simp [p__law_is_frac, runFn, b__law_is_frac, entryE, finE, whole_ok, h]
  · simp [p__law_is_frac, runFn, b__law_is_frac, entryE, finE, whole_ok, h]
theorem is_below_ok (t b q : Int) : p__law_is_below [.im (fr t b), .im (.int q)] = .ok (.im (.bl (decide (b = q)))) [] := by
  simp [p__law_is_below, runFn, b__law_is_below, entryE, finE, whole_ok]
theorem sign_pos {b : Int} (h : 0 < b) : p_sign_of [.im (.int b)] = .ok (.im (.int 1)) [] := by
  have h2 : b ≠ 0 := by omega
  simp [p_sign_of, runFn, b_sign_of, entryE, finE, h, h2]
theorem frac_ok (t b : Int) (h : 0 < b) (hb : b < 2 ^ 300) : p_Frac_init [.int t, .int b] = .ok "Frac" ["top", "bottom"] [.int (t / (Int.gcd t b : Int)), .int (b / (Int.gcd t b : Int))] := by
  have h2 : b ≠ 0 := by omega
  have e : ((Nat.gcd t.natAbs b.natAbs : Nat) : Int) = (Int.gcd t b : Int) := by
    rw [Int.gcd_eq_natAbs_gcd_natAbs]
  have g0 : 0 < (Int.gcd t b : Int) := by
    have := Int.gcd_pos_of_ne_zero_right t h2
    omega
  have g1 : (Int.gcd t b : Int) ≤ b := Int.le_of_dvd h (Int.gcd_dvd_right ..)
  have d1 : fdivOk (Int.gcd t b : Int) = true := div_b _ (b := 300) (by omega) (by omega) (by decide)
  have m1 : mulOk (Int.gcd t b : Int) 1 = true := mul_r _ _ (by decide) (by decide)
  simp [p_Frac_init, runIni, b_Frac_init, h2, e, sign_pos h, m1, d1, fdiv_pos g0]
theorem frac_one (t b : Int) (h : 0 < b) (hb : b < 2 ^ 300) (hg : Int.gcd t b = 1) : p_Frac_init [.int t, .int b] = .ok "Frac" ["top", "bottom"] [.int t, .int b] := by
  rw [frac_ok t b h hb, hg]
  simp
theorem are_loop (T L : D) : ∀ (l : List Int) (x : Sl), Free x → ∃ y, Free y ∧ forL (setIm 2) u__law_are_0 (dI l) [.im T, .im L, x] = .ok .nx [.im T, .im L, y]
  | [], x, fx => ⟨x, fx, rfl⟩
  | t :: l, x, fx => by
    obtain ⟨y, fy, ih⟩ := are_loop T L l (.im (.int t)) (.im _)
    refine ⟨y, fy, ?_⟩
    have e1 : setIm 2 (.int t) [.im T, .im L, x] = some [.im T, .im L, .im (.int t)] := by simp [fx]
    have e2 : u__law_are_0 [.im T, .im L, .im (.int t)] = .ok .nx [.im T, .im L, .im (.int t)] := by
      simp [u__law_are_0, whole_ok]
    show forL (setIm 2) u__law_are_0 (.int t :: dI l) _ = _
    rw [for_cons e1 e2, ih]
theorem are_ok (l : List Int) : p__law_are [.im (.tup (dI l)), .im (.lst (dI l))] = .ok (.im (.bl true)) [] := by
  obtain ⟨y, fy, h⟩ := are_loop (.tup (dI l)) (.lst (dI l)) l .un .un
  have e := eqL_ints l l
  simp [p__law_are, runFn, b__law_are, entryE, finE, h, fy, e]
/-! ### rows -/
theorem kind_ok : p_kind_of [.im (.tup [])] = .ok (.im (.str "ended")) [] := by
  simp [p_kind_of, runFn, b_kind_of, entryE, finE]
theorem one_form_ok (a : Int) (r : List Int) (hl : r ≠ [] → ∃ x : Int, (dI (a :: r))[r.length]? = some (.int x) ∧ x ≠ 1) : p_one_form [.im (.lst (dI (a :: r))), .im (.lst [])] = .ok (.im (.tup [.tup (dI (a :: r)), .tup []])) [] := by
  by_cases q : r = []
  · subst q
    simp [p_one_form, runFn, b_one_form, entryE, finE]
  · obtain ⟨x, e, hx⟩ := hl q
    have l1 : (1 : Int) < r.length + 1 := by
      have := List.length_pos_iff.mpr q
      omega
    have e2 : atI (D.int a :: List.map D.int r) (-1) = some (.int x) := by
      rw [ev_at_last]
      simpa using e
    simp [p_one_form, runFn, b_one_form, entryE, finE, l1, e2, hx]
theorem row_chk (S L : Sl) (a : Int) (r : List Int) (ht : Turns r) (u1 u2 u3 : Sl) : ∀ (ds : List D) (x : Sl), Free x → (∀ d ∈ ds, ∃ i : Nat, d = .int i ∧ 1 ≤ i ∧ i < r.length + 1) → ∃ y, Free y ∧ forL (setIm 3) u_Row_init_0 ds [S, .im (.lst (dI (a :: r))), L, x, u1, u2, u3] = .ok .nx [S, .im (.lst (dI (a :: r))), L, y, u1, u2, u3]
  | [], x, fx, _ => ⟨x, fx, rfl⟩
  | d :: ds, x, fx, h => by
    obtain ⟨i, rfl, h1, h2⟩ := h d (List.mem_cons_self ..)
    obtain ⟨y, fy, ih⟩ := row_chk S L a r ht u1 u2 u3 ds (.im (.int i)) (.im _) fun d hd => h d (List.mem_cons_of_mem _ hd)
    refine ⟨y, fy, ?_⟩
    have e1 : setIm 3 (.int i) [S, .im (.lst (dI (a :: r))), L, x, u1, u2, u3] = some [S, .im (.lst (dI (a :: r))), L, .im (.int i), u1, u2, u3] := by simp [fx]
    obtain ⟨j, rfl⟩ : ∃ j, i = j + 1 := ⟨i - 1, by omega⟩
    have hj : j < r.length := by omega
    have e3 : atI (D.int a :: List.map D.int r) ((j + 1 : Nat) : Int) = some (.int r[j]) := by
      rw [ev_at_nat]
      simp [hj]
    have e4 := ht r[j] (List.getElem_mem hj)
    have e5 : ¬ r[j] < 1 := by omega
    have e2 : u_Row_init_0 [S, .im (.lst (dI (a :: r))), L, .im (.int ((j + 1 : Nat) : Int)), u1, u2, u3] = .ok .nx [S, .im (.lst (dI (a :: r))), L, .im (.int ((j + 1 : Nat) : Int)), u1, u2, u3] := by
      simp only [List.map_cons]
      unfold u_Row_init_0
      simp [-Int.natCast_add, e3, e5]
    rw [for_cons e1 e2, ih]
theorem rng_nat (lo : Nat) (n : Nat) : ∀ d ∈ rangeD (lo : Int) (n : Int), ∃ i : Nat, d = .int i ∧ lo ≤ i ∧ i < n := by
  intro d hd
  obtain ⟨i, e, h1, h2⟩ := mem_range hd
  exact ⟨i.toNat, by rw [e, Int.toNat_of_nonneg (by omega)], by omega, by omega⟩
theorem row_init (a : Int) (r : List Int) (ht : Turns r) (hn : r.length < 5000) (hl : r ≠ [] → ∃ x : Int, (dI (a :: r))[r.length]? = some (.int x) ∧ x ≠ 1) :
    p_Row_init [.lst (dI (a :: r)), .tup []] = .ok "Row" ["head", "loop", "kind"] [.tup (dI (a :: r)), .tup [], .str "ended"] := by
  obtain ⟨y, fy, e⟩ := row_chk (.se 0 "Row" [] []) (.im (.tup [])) a r ht .un .un .un (rangeD 1 ((r.length + 1 : Nat) : Int)) .un .un (rng_nat 1 (r.length + 1))
  have o := one_form_ok a r hl
  have r1 : inRng 1 = true := inRng_of (by decide) (by decide)
  have r2 : inRng ((r.length : Int) + 1) = true := inRng_of (by omega) (by omega)
  have r3 : inRng 0 = true := inRng_of (by decide) (by decide)
  have r4 : ((r.length : Int) + 1 = 0) = False := by simp; omega
  have r5 : rangeD 0 0 = [] := rfl
  simp only [Int.natCast_add, Int.cast_ofNat_Int, List.map_cons] at e o
  rcases fy with rfl | ⟨d, rfl⟩
  · simp [p_Row_init, runIni, b_Row_init, r1, r2, r3, r4, e, r5, forL, o, kind_ok, mLc, Sl.mu, lcN, lcFin, xoS, wipeE, restE, backZ, backS]
  · simp [p_Row_init, runIni, b_Row_init, r1, r2, r3, r4, e, r5, forL, o, kind_ok, mLc, Sl.mu, lcN, lcFin, xoS, wipeE, restE, backZ, backS]
end Lk71
set_option Elab.async false
set_option linter.all false
set_option maxRecDepth 100000
set_option maxHeartbeats 4000000
/-! k71: rows of fractions, their tables. -/
namespace Lk71
open PySem PyProof.Rows L2 Pu
/-! ### Row.of -/
theorem of_loop (f : D) : ∀ (n : Nat) (h k : Int) (acc : List Int) (x : Sl), Free x → 0 ≤ k → k.toNat < n → k < 2 ^ 200 → acc.length + (flo h k).length < 5000 → Sm (flo h k) → ∃ y z, Free z ∧ whileN c_Row_of_0 w_Row_of_0 n [.im f, .ow (dI acc), .im (.int h), .im (.int k), x] = .ok .nx [.im f, .ow (dI (acc ++ flo h k)), .im (.int y), .im (.int 0), z]
  | 0, h, k, acc, x, _, _, hn, _, _, _ => by omega
  | n + 1, h, k, acc, x, fx, h0, hn, hb, hl, hs => by
    by_cases q : 0 < k
    · have k0 : k ≠ 0 := by omega
      have k1 := Int.emod_lt_of_pos h q
      have k2 := Int.emod_nonneg h k0
      have er : h - h / k * k = h % k := by
        have c := Int.emod_add_mul_ediv h k
        have d : k * (h / k) = h / k * k := Int.mul_comm ..
        omega
      rw [flo_pos q] at hl hs ⊢
      rw [List.length_cons] at hl
      have t1 := hs _ (List.mem_cons_self ..)
      obtain ⟨y, z, fz, ih⟩ := of_loop f n k (h % k) (acc ++ [h / k]) (.im (.int (h / k))) (.im _) k2 (by omega) (by omega) (by rw [List.length_append, List.length_singleton]; omega) hs.tail
      refine ⟨y, z, fz, ?_⟩
      rw [List.append_assoc] at ih
      have s1 : decide (acc.length < sizeLine) = true := sl_of (by omega)
      have d1 := small_div q hb
      have m1 : mulOk (h / k) k = true := mul_l _ _ (by omega) (by omega)
      rw [show acc ++ h / k :: flo k (h % k) = acc ++ ([h / k] ++ flo k (h % k)) from rfl, ← ih]
      simp [whileN, c_Row_of_0, w_Row_of_0, q, k0, s1, d1, m1, fx, fdiv_pos q, er]
    · have : k = 0 := by omega
      subst this
      refine ⟨h, x, fx, ?_⟩
      rw [flo_zero]
      simp [whileN, c_Row_of_0, w_Row_of_0]
/-- what is known of a fraction -/
structure Good (h k : Int) : Prop where
  pos : 0 < k
  few : k < 2 ^ 200
  one : Int.gcd h k = 1
  fst : -1000 ≤ h / k ∧ h / k ≤ 1000
  sum : sm (flo h k).tail ≤ 1000
theorem mem_le_sm {l : List Int} (h : Turns l) : ∀ t ∈ l, t ≤ sm l := by
  induction l with
  | nil => intro t ht; cases ht
  | cons a r ih =>
    have hr : Turns r := fun t ht => h t (List.mem_cons_of_mem _ ht)
    have h1 := h a (List.mem_cons_self ..)
    have h2 := sm_len hr
    intro t ht
    show t ≤ a + sm r
    rcases List.mem_cons.mp ht with e | ht
    · omega
    · have := ih hr t ht
      omega
section
variable {h k : Int} (G : Good h k)
include G
theorem Good.cons : flo h k = h / k :: (flo h k).tail := by
  rw [flo_pos G.pos]
  rfl
theorem Good.turns : Turns (flo h k).tail := flo_tail h k G.pos
theorem Good.len : (flo h k).tail.length ≤ 1000 := by
  have := sm_len G.turns
  have := G.sum
  omega
theorem Good.sm : Sm (flo h k).tail := fun t ht => by
  have h1 := G.turns t ht
  have h2 := mem_le_sm G.turns t ht
  have := G.sum
  omega
theorem Good.smAll : Sm (flo h k) := by
  rw [G.cons]
  intro t ht
  rcases List.mem_cons.mp ht with e | ht
  · subst e
    have := G.fst
    omega
  · exact G.sm t ht
theorem Good.lenAll : (flo h k).length ≤ 1001 := by
  have := G.len
  rw [G.cons, List.length_cons]
  omega
theorem Good.cf : cf (flo h k) = (h, k) := cf_flo1 G.pos G.one
theorem Good.last : (flo h k).tail ≠ [] → ∃ x : Int, (dI (h / k :: (flo h k).tail))[(flo h k).tail.length]? = some (.int x) ∧ x ≠ 1 := by
  intro hne
  have e1 := List.dropLast_concat_getLast hne
  have z : 0 < h % k := by
    by_cases q : 0 < h % k
    · exact q
    · exfalso
      apply hne
      rw [flo_pos G.pos]
      have := Int.emod_nonneg h (show k ≠ 0 by have := G.pos; omega)
      rw [show h % k = 0 by omega]
      exact flo_zero k
  have l2 := flo_last k (h % k) (by omega) (Int.emod_lt_of_pos h G.pos) z (flo h k).tail.dropLast ((flo h k).tail.getLast hne) (by
    rw [e1, flo_pos G.pos]
    rfl)
  refine ⟨(flo h k).tail.getLast hne, ?_, by omega⟩
  show (List.map D.int (h / k :: (flo h k).tail))[(flo h k).tail.length]? = _
  rw [List.map_cons]
  have hp := List.length_pos_iff.mpr hne
  rw [show (flo h k).tail.length = ((flo h k).tail.length - 1) + 1 by omega, List.getElem?_cons_succ, List.getElem?_map, ← List.getLast?_eq_getElem?, List.getLast?_eq_some_getLast hne]
  rfl
theorem row_of : p_Row_of [.im (fr h k)] = .ok (.im (rw_ (flo h k))) [] := by
  obtain ⟨y, z, fz, l⟩ := of_loop (fr h k) (k.toNat + 1) h k [] .un .un (Int.le_of_lt G.pos) (by omega) G.few (by have := G.lenAll; simp only [List.length_nil]; omega) G.smAll
  have i := row_init (h / k) (flo h k).tail G.turns (by have := G.len; omega) G.last
  rw [← G.cons] at i
  rw [List.nil_append] at l
  simp only [List.map_nil] at l
  simp [p_Row_of, runFn, b_Row_of, entryE, l, finE, fz, i]
end
/-! ### tables -/
theorem tbl_loop (L : D) : ∀ (l : List Int) (s : T4) (x : Sl), Free x → Sm l → ∃ y, Free y ∧ forL (setIm 1) u_turns_table_0 (dI l) [.im L, x, .im (.int s.1), .im (.int s.2.1), .im (.int s.2.2.1), .im (.int s.2.2.2)] = .ok .nx [.im L, y, .im (.int (l.foldl stp s).1), .im (.int (l.foldl stp s).2.1), .im (.int (l.foldl stp s).2.2.1), .im (.int (l.foldl stp s).2.2.2)]
  | [], s, x, fx, _ => ⟨x, fx, rfl⟩
  | t :: l, s, x, fx, hs => by
    have h1 := hs t (List.mem_cons_self ..)
    obtain ⟨y, fy, ih⟩ := tbl_loop L l (stp s t) (.im (.int t)) (.im _) hs.tail
    refine ⟨y, fy, ?_⟩
    have m1 : mulOk s.1 t = true := mul_r _ _ (by omega) (by omega)
    have m2 : mulOk s.2.2.1 t = true := mul_r _ _ (by omega) (by omega)
    have e1 : setIm 1 (.int t) [.im L, x, .im (.int s.1), .im (.int s.2.1), .im (.int s.2.2.1), .im (.int s.2.2.2)] = some [.im L, .im (.int t), .im (.int s.1), .im (.int s.2.1), .im (.int s.2.2.1), .im (.int s.2.2.2)] := by simp [fx]
    have e2 : u_turns_table_0 [.im L, .im (.int t), .im (.int s.1), .im (.int s.2.1), .im (.int s.2.2.1), .im (.int s.2.2.2)] = .ok .nx [.im L, .im (.int t), .im (.int (stp s t).1), .im (.int (stp s t).2.1), .im (.int (stp s t).2.2.1), .im (.int (stp s t).2.2.2)] := by
      simp [u_turns_table_0, m1, m2, stp]
    show forL (setIm 1) u_turns_table_0 (.int t :: dI l) _ = _
    rw [for_cons e1 e2, ih]
    rfl
theorem table_init (a b c d : Int) : p_Table_init [.int a, .int b, .int c, .int d] = .ok "Table" ["a", "b", "c", "d"] [.int a, .int b, .int c, .int d] := by
  simp [p_Table_init, runIni, b_Table_init]
theorem table_lst (l : List Int) (hs : Sm l) : p_turns_table [.im (.lst (dI l))] = .ok (.im (tbD (tbl l))) [] := by
  obtain ⟨y, fy, e⟩ := tbl_loop (.lst (dI l)) l (1, 0, 0, 1) .un .un hs
  simp [p_turns_table, runFn, b_turns_table, entryE, e, finE, fy, table_init, tbl]
theorem unrolled_ok (l : List Int) (m : Int) : p_unrolled [.im (.tup (dI l)), .im (.tup []), .im (.int m)] = .ok (.im (.tup [.tup (dI l), .tup []])) [] := by
  simp [p_unrolled, runFn, b_unrolled, entryE, finE]
theorem row_turns_ok (l : List Int) (m : Nat) (hm : m ≤ 5000) : p_Row_turns [.im (rw_ l), .im (.int m)] = .ok (.ow (dI (l.take m))) [] := by
  have h1 : ¬ (5000 : Int) < m := by omega
  have h2 : ¬ (m : Int) < 0 := by omega
  simp [p_Row_turns, runFn, b_Row_turns, entryE, finE, unrolled_ok, h1, h2, cut_to, List.map_take]
theorem row_table_ok (l : List Int) (m : Nat) (hm : m ≤ 5000) (hl : m ≤ l.length) (hs : Sm l) : p_Row_table [.im (rw_ l), .im (.int m)] = .ok (.im (tbD (tbl (l.take m)))) [] := by
  have h1 : ¬ (5000 : Int) < m := by omega
  have h2 : ¬ (m : Int) < 0 := by omega
  have t := row_turns_ok l m hm
  have b := table_lst (l.take m) fun t ht => hs t (List.mem_of_mem_take ht)
  have h3 : ¬ ((min m l.length : Nat) : Int) < m := by omega
  have h4 : min m l.length = m := by omega
  simp only [List.map_take] at t b
  simp [p_Row_table, runFn, b_Row_table, entryE, finE, t, b, h1, h2, h4]
theorem turn_in_ok (l : List Int) (i : Nat) (hi : i < l.length) : p_turn_in [.im (.tup (dI l)), .im (.tup []), .im (.int i)] = .ok (.im (.int l[i])) [] := by
  have h2 : ¬ (i : Int) < 0 := by omega
  simp [p_turn_in, runFn, b_turn_in, entryE, finE, h2, hi]
theorem row_turn_ok (l : List Int) (i : Nat) (hi : i < l.length) : p_Row_turn [.im (rw_ l), .im (.int i)] = .ok (.im (.int l[i])) [] := by
  have h2 : ¬ (i : Int) < 0 := by omega
  have t := turn_in_ok l i hi
  simp [p_Row_turn, runFn, b_Row_turn, entryE, finE, h2, t]
theorem row_conv_ok (l : List Int) (i : Nat) (hi : i < l.length) (h5 : i < 5000) (hs : Sm l) (hb : 0 < (tbl (l.take (i + 1))).2.2.1) (hb2 : (tbl (l.take (i + 1))).2.2.1 < 2 ^ 300) (hg : Int.gcd (tbl (l.take (i + 1))).1 (tbl (l.take (i + 1))).2.2.1 = 1) :
    p_Row_convergent [.im (rw_ l), .im (.int i)] = .ok (.im (fr (tbl (l.take (i + 1))).1 (tbl (l.take (i + 1))).2.2.1)) [] := by
  have t := row_turn_ok l i hi
  have b := row_table_ok l (i + 1) (by omega) (by omega) hs
  have f := frac_one _ _ hb hb2 hg
  have h5' : ¬ (5000 : Int) ≤ i := by omega
  simp only [Int.natCast_add, Int.cast_ofNat_Int] at b
  simp [p_Row_convergent, runFn, b_Row_convergent, entryE, finE, t, b, f, h5']
theorem table_tup (l : List Int) (hs : Sm l) : p_turns_table [.im (.tup (dI l))] = .ok (.im (tbD (tbl l))) [] := by
  obtain ⟨y, fy, e⟩ := tbl_loop (.tup (dI l)) l (1, 0, 0, 1) .un .un hs
  simp [p_turns_table, runFn, b_turns_table, entryE, e, finE, fy, table_init, tbl]
theorem row_frac_ok (l : List Int) (hs : Sm l) (hb : 0 < (tbl l).2.2.1) (hb2 : (tbl l).2.2.1 < 2 ^ 300) (hg : Int.gcd (tbl l).1 (tbl l).2.2.1 = 1) : p_Row_frac [.im (rw_ l)] = .ok (.im (fr (tbl l).1 (tbl l).2.2.1)) [] := by
  have t := table_tup l hs
  have f := frac_one _ _ hb hb2 hg
  simp [p_Row_frac, runFn, b_Row_frac, entryE, finE, t, f]
/-! ### rows with minus -/
theorem short_ok (l : List Int) : p_short_form [.im (.lst (dI l)), .im (.tup [])] = .ok (.im (.tup [.tup (dI l), .tup []])) [] := by
  simp [p_short_form, runFn, b_short_form, entryE, finE]
theorem mrow_chk (S L : Sl) (a : Int) (r : List Int) (ht : ∀ t ∈ r, 2 ≤ t) : ∀ (ds : List D) (x : Sl), Free x → (∀ d ∈ ds, ∃ i : Nat, d = .int i ∧ 1 ≤ i ∧ i < r.length + 1) → ∃ y, Free y ∧ forL (setIm 3) u_MinusRow_init_0 ds [S, .im (.lst (dI (a :: r))), L, x] = .ok .nx [S, .im (.lst (dI (a :: r))), L, y]
  | [], x, fx, _ => ⟨x, fx, rfl⟩
  | d :: ds, x, fx, h => by
    obtain ⟨i, rfl, h1, h2⟩ := h d (List.mem_cons_self ..)
    obtain ⟨y, fy, ih⟩ := mrow_chk S L a r ht ds (.im (.int i)) (.im _) fun d hd => h d (List.mem_cons_of_mem _ hd)
    refine ⟨y, fy, ?_⟩
    have e1 : setIm 3 (.int i) [S, .im (.lst (dI (a :: r))), L, x] = some [S, .im (.lst (dI (a :: r))), L, .im (.int i)] := by simp [fx]
    obtain ⟨j, rfl⟩ : ∃ j, i = j + 1 := ⟨i - 1, by omega⟩
    have hj : j < r.length := by omega
    have e3 : atI (D.int a :: List.map D.int r) ((j + 1 : Nat) : Int) = some (.int r[j]) := by
      rw [ev_at_nat]
      simp [hj]
    have e4 := ht r[j] (List.getElem_mem hj)
    have e5 : ¬ r[j] < 2 := by omega
    have e2 : u_MinusRow_init_0 [S, .im (.lst (dI (a :: r))), L, .im (.int ((j + 1 : Nat) : Int))] = .ok .nx [S, .im (.lst (dI (a :: r))), L, .im (.int ((j + 1 : Nat) : Int))] := by
      simp only [List.map_cons]
      unfold u_MinusRow_init_0
      simp [-Int.natCast_add, e3, e5]
    rw [for_cons e1 e2, ih]
theorem mrow_init (a : Int) (r : List Int) (ht : ∀ t ∈ r, 2 ≤ t) (hn : r.length < 5000) : p_MinusRow_init [.lst (dI (a :: r)), .tup []] = .ok "MinusRow" ["head", "loop"] [.tup (dI (a :: r)), .tup []] := by
  obtain ⟨y, fy, e⟩ := mrow_chk (.se 0 "MinusRow" [] []) (.im (.tup [])) a r ht (rangeD 1 ((r.length + 1 : Nat) : Int)) .un .un (rng_nat 1 (r.length + 1))
  have o := short_ok (a :: r)
  have r1 : inRng 1 = true := inRng_of (by decide) (by decide)
  have r2 : inRng ((r.length : Int) + 1) = true := inRng_of (by omega) (by omega)
  have r3 : inRng 0 = true := inRng_of (by decide) (by decide)
  have r4 : ((r.length : Int) + 1 = 0) = False := by simp; omega
  have r5 : rangeD 0 0 = [] := rfl
  simp only [Int.natCast_add, Int.cast_ofNat_Int, List.map_cons] at e o
  simp [p_MinusRow_init, runIni, b_MinusRow_init, r1, r2, r3, r4, e, r5, forL, o]
theorem mrow_turn_ok (l : List Int) (i : Nat) (hi : i < l.length) : p_MinusRow_turn [.im (mr l), .im (.int i)] = .ok (.im (.int l[i])) [] := by
  have h2 : ¬ (i : Int) < 0 := by omega
  simp [p_MinusRow_turn, runFn, b_MinusRow_turn, entryE, finE, h2, hi]
/-- a step of the row with minus -/
def mst (s : T4) (t : Int) : T4 := (t * s.1 - s.2.1, s.1, t * s.2.2.1 - s.2.2.2, s.2.2.1)
theorem mst_cs : ∀ (l : List Int) (a b c d : Int), (l.foldl mst (a, b, c, d)).1 = a * (cs (-1) l).1 - b * (cs (-1) l).2 ∧ (l.foldl mst (a, b, c, d)).2.2.1 = c * (cs (-1) l).1 - d * (cs (-1) l).2
  | [], a, b, c, d => by
    show a = a * 1 - b * 0 ∧ c = c * 1 - d * 0
    omega
  | t :: l, a, b, c, d => by
    obtain ⟨e1, e2⟩ := mst_cs l (t * a - b) a (t * c - d) c
    show (l.foldl mst (t * a - b, a, t * c - d, c)).1 = a * (t * (cs (-1) l).1 + -1 * (cs (-1) l).2) - b * (cs (-1) l).1 ∧ (l.foldl mst (t * a - b, a, t * c - d, c)).2.2.1 = c * (t * (cs (-1) l).1 + -1 * (cs (-1) l).2) - d * (cs (-1) l).1
    rw [e1, e2]
    constructor <;> grind
theorem mconv_loop (l : List Int) (hs : Sm l) (p : D) : ∀ (ds : List D) (k : Nat) (s : T4) (x y : Sl), Free x → Free y → ds = (List.range' k ds.length).map (fun i : Nat => D.int i) → k + ds.length ≤ l.length → ∃ x' y', Free x' ∧ Free y' ∧
    forL (setIm 2) u_MinusRow_convergent_0 ds [.im (mr l), .im p, x, .im (.int s.1), .im (.int s.2.2.1), .im (.int s.2.1), .im (.int s.2.2.2), y] = .ok .nx [.im (mr l), .im p, x', .im (.int (((l.drop k).take ds.length).foldl mst s).1), .im (.int (((l.drop k).take ds.length).foldl mst s).2.2.1), .im (.int (((l.drop k).take ds.length).foldl mst s).2.1), .im (.int (((l.drop k).take ds.length).foldl mst s).2.2.2), y']
  | [], k, s, x, y, fx, fy, _, _ => ⟨x, y, fx, fy, by simp [forL]⟩
  | d :: ds, k, s, x, y, fx, fy, hd, hk => by
    rw [List.length_cons, List.range'_succ, List.map_cons] at hd
    obtain ⟨d1, d2⟩ := List.cons.inj hd
    subst d1
    rw [List.length_cons] at hk
    have hk' : k < l.length := by omega
    have h1 := hs l[k] (List.getElem_mem hk')
    obtain ⟨x', y', fx', fy', ih⟩ := mconv_loop l hs p ds (k + 1) (mst s l[k]) (.im (.int k)) (.im (.int l[k])) (.im _) (.im _) d2 (by omega)
    refine ⟨x', y', fx', fy', ?_⟩
    have m1 : mulOk l[k] s.1 = true := mul_l _ _ (by omega) (by omega)
    have m2 : mulOk l[k] s.2.2.1 = true := mul_l _ _ (by omega) (by omega)
    have t := mrow_turn_ok l k hk'
    have e1 : setIm 2 (.int k) [.im (mr l), .im p, x, .im (.int s.1), .im (.int s.2.2.1), .im (.int s.2.1), .im (.int s.2.2.2), y] = some [.im (mr l), .im p, .im (.int k), .im (.int s.1), .im (.int s.2.2.1), .im (.int s.2.1), .im (.int s.2.2.2), y] := by simp [fx]
    have e2 : u_MinusRow_convergent_0 [.im (mr l), .im p, .im (.int k), .im (.int s.1), .im (.int s.2.2.1), .im (.int s.2.1), .im (.int s.2.2.2), y] = .ok .nx [.im (mr l), .im p, .im (.int k), .im (.int (mst s l[k]).1), .im (.int (mst s l[k]).2.2.1), .im (.int (mst s l[k]).2.1), .im (.int (mst s l[k]).2.2.2), .im (.int l[k])] := by
      simp [u_MinusRow_convergent_0, t, m1, m2, mst, fy]
    have e3 : (l.drop k).take (ds.length + 1) = l[k] :: (l.drop (k + 1)).take ds.length := by
      rw [List.drop_eq_getElem_cons hk', List.take_succ_cons]
    rw [for_cons e1 e2, ih, List.length_cons, e3]
    rfl
end Lk71
set_option Elab.async false
set_option linter.all false
set_option maxRecDepth 100000
set_option maxHeartbeats 4000000
/-! k71: the way from floors to ceilings. -/
namespace Lk71
open PySem PyProof.Rows L2 Pu
/-! ### the plain side: turns of even number -/
def wp : List Int → List Int
  | x :: y :: r => two (x - 1).toNat ++ (y + 2) :: wp r
  | _ => []
theorem wp_mo : ∀ (s : List Int) (z : Int), s.length % 2 = 0 → wp s ++ two (z - 1).toNat = mo (s ++ [z])
  | [], z, _ => rfl
  | [x], z, h => by cases h
  | x :: y :: r, z, h => by
    have ih := wp_mo r z (by simp only [List.length_cons] at h; omega)
    show two (x - 1).toNat ++ (y + 2) :: wp r ++ two (z - 1).toNat = two (x - 1).toNat ++ (y + 2) :: mo (r ++ [z])
    rw [← ih]
    simp
/-- the turns, even in number: the last is split, if need be -/
def et (l : List Int) (x : Int) : List Int := if l.length % 2 = 1 then l ++ [x] else l ++ [x - 1, 1]
theorem cf_app : ∀ (l r r' : List Int), cf r = cf r' → cf (l ++ r) = cf (l ++ r')
  | [], _, _, h => h
  | a :: l, r, r', h => by
    have := cf_app l r r' h
    show (a * (cf (l ++ r)).1 + (cf (l ++ r)).2, (cf (l ++ r)).1) = (a * (cf (l ++ r')).1 + (cf (l ++ r')).2, (cf (l ++ r')).1)
    rw [this]
theorem cf_split (l : List Int) (x : Int) : cf (l ++ [x - 1, 1]) = cf (l ++ [x]) := by
  refine cf_app l _ _ ?_
  show ((x - 1) * (1 * 1 + 0) + 1, 1 * 1 + 0) = (x * 1 + 0, 1)
  refine Prod.ext ?_ rfl
  show (x - 1) * (1 * 1 + 0) + 1 = x * 1 + 0
  omega
theorem bot_k {h k a : Int} {r : List Int} (e : cf (a :: r) = (h, k)) : (bot 1 r).2 = k := by
  rw [bot_snd, cs_cf]
  exact congrArg Prod.snd e
structure Ev (h k : Int) (l : List Int) (x : Int) (a : Int) (s : List Int) (z : Int) : Prop where
  eq : et l x = a :: (s ++ [z])
  ts : Turns (s ++ [z])
  ev : s.length % 2 = 0
  cf : cf (a :: (s ++ [z])) = (h, k)
  due : due a (s ++ [z]) h k = due (h / k) (flo h k).tail h k
  fst : -1001 ≤ a ∧ a ≤ 1000
  sum : sm (s ++ [z]) ≤ 1000
theorem Good.even {h k : Int} (G : Good h k) : ∃ l x, flo h k = l ++ [x] ∧ ∃ a s z, Ev h k l x a s z := by
  have ht := G.turns
  have hc := G.cons
  have hf := G.fst
  have hs := G.sum
  have hcf := G.cf
  generalize e0 : (flo h k).tail = r at *
  rw [hc] at hcf ⊢
  have hcase : r = [] ∨ r ≠ [] := by
    cases r with
    | nil => exact .inl rfl
    | cons _ _ => exact .inr (by simp)
  rcases hcase with q | q
  · subst q
    have hk : k = 1 := (congrArg Prod.snd hcf).symm
    subst hk
    refine ⟨[], h / 1, rfl, h / 1 - 1, [], 1, rfl, ?_, rfl, ?_, ?_, by omega, by decide⟩
    · intro t ht
      rw [show t = 1 from List.mem_singleton.mp ht]
      decide
    · rw [← hcf]
      exact cf_split [] (h / 1)
    · rw [e0]
      exact due_one (h / 1) h
  · have e1 := List.dropLast_concat_getLast q
    have hx2 : 2 ≤ r.getLast q := by
      have l1 := G.last
      rw [e0] at l1
      obtain ⟨x, h1, h2⟩ := l1 q
      have h3 : x = r.getLast q := by
        have h4 : (List.map D.int (h / k :: r))[r.length]? = some (.int x) := h1
        have hp := List.length_pos_iff.mpr q
        rw [List.map_cons, show r.length = (r.length - 1) + 1 by omega, List.getElem?_cons_succ, List.getElem?_map, ← List.getLast?_eq_getElem?, List.getLast?_eq_some_getLast q] at h4
        exact (D.int.inj (Option.some.inj h4)).symm
      have h5 := ht (r.getLast q) (List.getLast_mem q)
      omega
    generalize r.getLast q = x at *
    generalize r.dropLast = r0 at *
    refine ⟨h / k :: r0, x, by rw [← e1]; rfl, ?_⟩
    subst e1
    have hbk := bot_k hcf
    rw [sm_app] at hs
    have hs2 : Lk71.sm r0 + (x + 0) ≤ 1000 := hs
    by_cases q2 : r0.length % 2 = 0
    · refine ⟨h / k, r0, x, ?_, ht, q2, hcf, by rw [e0], by omega, by rw [sm_app]; exact hs2⟩
      unfold et
      rw [if_pos (by rw [List.length_cons]; omega)]
      rfl
    · refine ⟨h / k, r0 ++ [x - 1], 1, ?_, ?_, by rw [List.length_append, List.length_singleton]; omega, ?_, ?_, by omega, ?_⟩
      · unfold et
        rw [if_neg (by rw [List.length_cons]; omega)]
        simp
      · intro t htt
        rw [List.append_assoc] at htt
        rcases List.mem_append.mp htt with m | m
        · exact ht t (List.mem_append_left _ m)
        · rcases List.mem_cons.mp m with m | m
          · omega
          · rw [List.mem_singleton.mp m]
            decide
      · rw [← hcf, List.append_assoc]
        exact cf_split (h / k :: r0) x
      · rw [List.append_assoc, e0]
        exact due_longer (h / k) r0 x h k hbk
      · rw [List.append_assoc, sm_app]
        show Lk71.sm r0 + (x - 1 + (1 + 0)) ≤ 1000
        omega
end Lk71
set_option Elab.async false
set_option linter.all false
set_option maxRecDepth 100000
set_option maxHeartbeats 4000000
/-! k71: the code of the way from floors to ceilings, the sum by turns. -/
namespace Lk71
open PySem PyProof.Rows L2 Pu
theorem small2 {n : Int} (h0 : 0 ≤ n) (h1 : n ≤ 10000) : rgOk 0 n 2 = true := rg_of (by omega) (by decide) (by decide) (by decide)
theorem size2 (m : Nat) : Builtin.Range.rangeSize 0 ((2 * m : Nat) : Int) 2 = m := by
  simp only [Builtin.Range.rangeSize, show ((2 : Int) > 0) by decide, if_true]
  split <;> omega
theorem ev_rep (n : Int) (h0 : 0 ≤ n) (h1 : n ≤ 5000) : oRep (.lst [.int 2]) (.int n) = some (dI (two n.toNat)) := by
  have e : repOk n = true := rep_of (by omega) (by omega)
  have e2 : szOk (1 * n.toNat) = true := sz_of (by omega)
  show ifO (repOk n && szOk (1 * n.toNat)) _ = _
  rw [e, e2]
  show some (List.replicate n.toNat [D.int 2]).flatten = some ((two n.toNat).map D.int)
  unfold two
  rw [List.map_replicate]
  congr 1
  generalize n.toNat = m
  induction m with
  | zero => rfl
  | succ m ih =>
    rw [List.replicate_succ, List.flatten_cons, ih]
    rfl
theorem ev_ext (ds es : List D) (h : ds.length + es.length ≤ 1000000) : fExt ds [.lst es] = some (.non, ds ++ es) := by
  show ifO (szOk _) _ = _
  rw [sz_of h]
  rfl
theorem wm_loop (l : List Int) (ht : Turns l) (hs : Sm l) : ∀ (m : Nat) (k : Nat) (acc : List Int) (x : Sl), Free x → l.length = k + 2 * m → acc.length + (wp (l.drop k)).length ≤ 100000 → ∃ y, Free y ∧
    forL (setIm 2) u__with_minus_0 ((List.range m).map fun (i : Nat) => D.int ((k : Int) + (i : Int) * 2)) [.im (.lst (dI l)), .ow (dI acc), x] = .ok .nx [.im (.lst (dI l)), .ow (dI (acc ++ wp (l.drop k))), y]
  | 0, k, acc, x, fx, hl, _ => ⟨x, fx, by
    rw [List.drop_eq_nil_of_le (by omega)]
    simp [wp, forL]⟩
  | m + 1, k, acc, x, fx, hl, hc => by
    have hk : k < l.length := by omega
    have hk1 : k + 1 < l.length := by omega
    have e3 : l.drop k = l[k] :: l[k + 1] :: l.drop (k + 2) := by
      rw [List.drop_eq_getElem_cons hk, List.drop_eq_getElem_cons hk1]
    have h1 := hs l[k] (List.getElem_mem hk)
    have h2 := ht l[k] (List.getElem_mem hk)
    rw [e3] at hc ⊢
    have hc2 : acc.length + (two (l[k] - 1).toNat ++ (l[k + 1] + 2) :: wp (l.drop (k + 2))).length ≤ 100000 := hc
    rw [List.length_append, List.length_cons] at hc2
    obtain ⟨y, fy, ih⟩ := wm_loop l ht hs m (k + 2) (acc ++ two (l[k] - 1).toNat ++ [l[k + 1] + 2]) (.im (.int k)) (.im _) (by omega) (by rw [List.length_append, List.length_append, List.length_singleton]; omega)
    refine ⟨y, fy, ?_⟩
    have r1 := ev_rep (l[k] - 1) (by omega) (by omega)
    have x1 := ev_ext (dI acc) (dI (two (l[k] - 1).toNat)) (by rw [List.length_map, List.length_map]; omega)
    have s1 : decide ((List.map D.int acc ++ List.map D.int (two (l[k] - 1).toNat)).length < sizeLine) = true := sl_of (by rw [List.length_append, List.length_map, List.length_map]; omega)
    have a1 : atI (List.map D.int l) ((k : Int) + 1) = some (.int l[k + 1]) := by
      have := ev_at_nat (List.map D.int l) (k + 1)
      rw [show ((k : Int) + 1) = ((k + 1 : Nat) : Int) from rfl, this]
      simp [hk1]
    rw [show wp (l[k] :: l[k + 1] :: l.drop (k + 2)) = two (l[k] - 1).toNat ++ (l[k + 1] + 2) :: wp (l.drop (k + 2)) from rfl]
    generalize two (l[k] - 1).toNat = tw at *
    have e1 : setIm 2 (.int k) [.im (.lst (dI l)), .ow (dI acc), x] = some [.im (.lst (dI l)), .ow (dI acc), .im (.int k)] := by simp [fx]
    have e2 : u__with_minus_0 [.im (.lst (dI l)), .ow (dI acc), .im (.int k)] = .ok .nx [.im (.lst (dI l)), .ow (dI (acc ++ tw ++ [l[k + 1] + 2])), .im (.int k)] := by
      simp only [List.length_append, List.length_map] at s1
      simp [u__with_minus_0, hk, r1, x1, s1, a1]
    have e4 : (List.range (m + 1)).map (fun (i : Nat) => D.int ((k : Int) + (i : Int) * 2)) = D.int k :: (List.range m).map (fun (i : Nat) => D.int (((k + 2 : Nat) : Int) + (i : Int) * 2)) := by
      rw [List.range_succ_eq_map, List.map_cons, List.map_map]
      refine List.cons_eq_cons.mpr ⟨?_, List.map_congr_left fun i _ => ?_⟩
      · show D.int ((k : Int) + 0 * 2) = D.int k
        rw [Int.zero_mul, Int.add_zero]
      · show D.int ((k : Int) + ((i + 1 : Nat) : Int) * 2) = D.int (((k + 2 : Nat) : Int) + (i : Int) * 2)
        congr 1
        omega
    rw [e4, for_cons e1 e2, ih]
    simp
theorem with_minus_ok (l : List Int) (ht : Turns l) (hs : Sm l) (he : l.length % 2 = 0) (hl : l.length ≤ 5000) (hw : (wp l).length ≤ 100000) : p__with_minus [.im (.lst (dI l))] = .ok (.ow (dI (wp l))) [] := by
  obtain ⟨m, hm⟩ : ∃ m, l.length = 2 * m := ⟨l.length / 2, by omega⟩
  obtain ⟨y, fy, e⟩ := wm_loop l ht hs m 0 [] .un .un (by omega) (by simpa using hw)
  have r1 := small2 (n := (l.length : Int)) (by omega) (by omega)
  have r2 := size2 m
  rw [← hm] at r2
  have r3 := ev_rs3 (E := [.im (.lst (dI l)), .ow [], .un]) r1
  have r4 : rangeS 0 (l.length : Int) 2 = (List.range m).map fun (i : Nat) => D.int (((0 : Nat) : Int) + (i : Int) * 2) := by
    unfold rangeS
    rw [r2]
    rfl
  rw [r4] at r3
  generalize ((List.range m).map fun (i : Nat) => D.int (((0 : Nat) : Int) + (i : Int) * 2)) = rr at *
  rw [List.drop_zero, List.nil_append] at e
  simp only [List.map_nil] at e
  simp [p__with_minus, runFn, b__with_minus, entryE, mItR3, r3, e, finE, fy]
theorem ended_turns_ok (l : List Int) (x : Int) (hl : l.length ≤ 5000) : p_ended_turns [.im (.tup (dI (l ++ [x]))), .im (.bl true)] = .ok (.ow (dI (et l x))) [] := by
  have e1 : (((l.length : Int) + 1)).fmod 2 = (((l.length + 1) % 2 : Nat) : Int) := by
    rw [Int.fmod_eq_emod_of_nonneg _ (by decide)]
    rfl
  have a1 : atI (List.map D.int l ++ [D.int x]) (-1) = some (.int x) := by
    rw [ev_at_last]
    simp
  have i1 : ixN (l.length + 1) (-1) = some l.length := by
    unfold ixN
    rw [if_neg (by decide), if_pos (by omega)]
    congr 1
    omega
  have s1 : decide (l.length + 1 < sizeLine) = true := sl_of (by omega)
  have t1 : (List.map D.int l ++ [D.int x]).set l.length (.int (x - 1)) = List.map D.int l ++ [.int (x - 1)] := by
    rw [List.set_append_right _ _ (by simp)]
    simp
  unfold et
  by_cases q : l.length % 2 = 1
  · rw [if_pos q]
    rw [show (l.length + 1) % 2 = 0 by omega] at e1
    have n1 : oNeS (.bl true) (.bl true) = some (.bl false) := rfl
    simp [p_ended_turns, runFn, b_ended_turns, entryE, e1, finE, n1]
  · rw [if_neg q]
    rw [show (l.length + 1) % 2 = 1 by omega] at e1
    have n1 : oNeS (.bl false) (.bl true) = some (.bl true) := rfl
    simp [p_ended_turns, runFn, b_ended_turns, entryE, e1, finE, n1, a1, i1, t1, s1]
end Lk71
set_option Elab.async false
set_option linter.all false
set_option maxRecDepth 100000
set_option maxHeartbeats 4000000
/-! k71: rows with minus of rows; the sum by turns; teeth. -/
namespace Lk71
open PySem PyProof.Rows L2 Pu
theorem cut_mid (a z : D) (s : List D) : Pu.cutD (a :: (s ++ [z])) (some 1) (some (-1)) = s := by
  unfold Pu.cutD
  have h1 : HT.sIx (a :: (s ++ [z])).length 0 (some 1) = 1 := by
    rw [show (1 : Int) = ((1 : Nat) : Int) from rfl, sIx_nat]
    simp
  have h2 : HT.sIx (a :: (s ++ [z])).length (a :: (s ++ [z])).length (some (-1)) = s.length + 1 := by
    unfold HT.sIx
    simp
    omega
  rw [h1, h2]
  simp
theorem cut_init (z : D) (s : List D) : Pu.cutD (s ++ [z]) none (some (-1)) = s := by
  unfold Pu.cutD
  have h1 : HT.sIx (s ++ [z]).length 0 none = 0 := rfl
  have h2 : HT.sIx (s ++ [z]).length (s ++ [z]).length (some (-1)) = s.length := by
    unfold HT.sIx
    simp
    omega
  rw [h1, h2]
  simp
section
variable {h k : Int} (G : Good h k)
include G
theorem sum_eq (l : List Int) : l.sum = Lk71.sm l := by
  induction l with
  | nil => rfl
  | cons a l ih =>
    rw [List.sum_cons, ih]
    rfl
theorem Good.look : p_look_at_work [.im (rw_ (flo h k))] = .ok (.im .non) [] := by
  have h1 := G.sum
  have n1 : ¬ (1000 : Int) < (flo h k).tail.sum + 0 := by
    rw [sum_eq G]
    omega
  have g1 : decide (("ended" : Str) = "growing") = false := by decide
  have e := G.cons
  generalize (flo h k).tail = r at *
  rw [e]
  simp only [Int.add_zero] at n1
  simp [p_look_at_work, runFn, b_look_at_work, entryE, finE, g1, mLc, Sl.mu, lcN, lcFin, xoS, wipeE, restE, backZ, backS, n1, intsOf]
theorem Good.minus {l : List Int} {x a : Int} {s : List Int} {z : Int} (hf : flo h k = l ++ [x]) (V : Ev h k l x a s z) : p_minus_of [.im (rw_ (flo h k))] = .ok (.im (mr ((a + 1) :: mo (s ++ [z])))) [] := by
  have hlk := G.look
  have hl := G.lenAll
  rw [hf] at hlk hl ⊢
  rw [List.length_append, List.length_singleton] at hl
  have e1 := ended_turns_ok l x (by omega)
  rw [V.eq] at e1
  have hts : Turns s := fun t ht => V.ts t (List.mem_append_left _ ht)
  have hsum := V.sum
  have hln := sm_len V.ts
  have hss : Sm s := fun t ht => by
    have h1 := hts t ht
    have h2 := mem_le_sm V.ts t (List.mem_append_left _ ht)
    omega
  have hz := V.ts z (List.mem_append_right _ (List.mem_singleton.mpr rfl))
  have hz2 := mem_le_sm V.ts z (List.mem_append_right _ (List.mem_singleton.mpr rfl))
  have hmo := mo_len (s ++ [z]) V.ts
  have hwm := wp_mo s z V.ev
  rw [List.length_append, List.length_singleton] at hln
  have hwl : (wp s).length ≤ 1000 := by
    have : (wp s ++ two (z - 1).toNat).length ≤ 1000 := by
      rw [hwm]
      omega
    rw [List.length_append] at this
    omega
  have w1 := with_minus_ok s hts hss V.ev (by omega) (by omega)
  have r1 := ev_rep (z - 1) (by omega) (by omega)
  have i1 := mrow_init (a + 1) (mo (s ++ [z])) (mo_two _ V.ts) (by omega)
  have tl : (two (z - 1).toNat).length ≤ 2000 := by
    unfold two
    rw [List.length_replicate]
    omega
  rw [← hwm] at i1 ⊢
  have c1 := cut_mid (.int a) (.int z) (List.map D.int s)
  have c2 : atI (D.int a :: (List.map D.int s ++ [D.int z])) (-1) = some (.int z) := by
    rw [ev_at_last]
    simp
  generalize hg : two (z - 1).toNat = tw at *
  have z1 : szOk ((wp s).length + 1) = true := sz_of (by omega)
  have z2 : szOk ((wp s).length + 1 + tw.length) = true := sz_of (by omega)
  have z3 : szOk (1 + (wp s).length) = true := sz_of (by omega)
  simp only [List.map_cons, List.map_append, List.map_nil] at e1 w1 r1 i1
  have m1 : p__ended_minus [.im (.tup (dI (l ++ [x])))] = .ok (.im (mr ((a + 1) :: (wp s ++ tw)))) [] := by
    simp [p__ended_minus, runFn, b__ended_minus, entryE, finE, e1, c1, c2, w1, r1, z1, z2, z3, i1]
  have g1 : decide (("ended" : Str) = "ended") = true := by decide
  simp only [List.map_cons, List.map_append, List.map_nil] at hlk m1
  simp [p_minus_of, runFn, b_minus_of, entryE, finE, hlk, m1]
end
theorem mrow_conv_ok (a : Int) (r : List Int) (i : Nat) (hi : i < r.length + 1) (h5 : i ≤ 5000) (hs : Sm r) (hb : 0 < (cs (-1) ((a :: r).take (i + 1))).2) (hb2 : (cs (-1) ((a :: r).take (i + 1))).2 < 2 ^ 300) (ha : -2000 ≤ a ∧ a ≤ 2000) :
    p_MinusRow_convergent [.im (mr (a :: r)), .im (.int i)] = .ok (.im (fr (cs (-1) ((a :: r).take (i + 1))).1 (cs (-1) ((a :: r).take (i + 1))).2)) [] := by
  have hsa : Sm (a :: r) := fun t ht => by
    rcases List.mem_cons.mp ht with e | ht
    · omega
    · exact hs t ht
  have hr : rangeD 1 ((i : Int) + 1) = (List.range' 1 i).map (fun j : Nat => D.int j) := by
    unfold rangeD
    rw [show ((i : Int) + 1 - 1).toNat = i by omega, List.range'_eq_map_range, List.map_map]
    refine List.map_congr_left fun j _ => ?_
    show D.int (1 + (j : Int)) = D.int ((1 + j : Nat) : Int)
    congr 1
  have hrl : (rangeD 1 ((i : Int) + 1)).length = i := by rw [range_len]; omega
  obtain ⟨x', y', fx, fy, e⟩ := mconv_loop (a :: r) hsa (.int i) (rangeD 1 ((i : Int) + 1)) 1 (a, 1, 1, 0) .un .un .un .un (by rw [hrl]; exact hr) (by rw [hrl, List.length_cons]; omega)
  have t : p_MinusRow_turn [.im (.ins "MinusRow" ["head", "loop"] [.tup (D.int a :: List.map D.int r), .tup []]), .im (.int i)] = .ok (.im (.int ((a :: r)[i]'(by simpa using hi)))) [] := mrow_turn_ok (a :: r) i (by simpa using hi)
  obtain ⟨c1, c2⟩ := mst_cs (r.take i) a 1 1 0
  have q1 : (cs (-1) ((a :: r).take (i + 1))).1 = a * (cs (-1) (r.take i)).1 + -1 * (cs (-1) (r.take i)).2 := by
    rw [List.take_succ_cons]
    rfl
  have q2 : (cs (-1) ((a :: r).take (i + 1))).2 = (cs (-1) (r.take i)).1 := by
    rw [List.take_succ_cons]
    rfl
  have hgc : Int.gcd (cs (-1) ((a :: r).take (i + 1))).1 (cs (-1) ((a :: r).take (i + 1))).2 = 1 := by
    rw [List.take_succ_cons]
    exact cs_gcd (.inr rfl)
  have f := frac_one _ _ hb hb2 hgc
  have d1 : ((a :: r).drop 1).take i = r.take i := rfl
  rw [hrl, d1, c1, c2] at e
  rw [show a * (cs (-1) (r.take i)).1 - 1 * (cs (-1) (r.take i)).2 = (cs (-1) ((a :: r).take (i + 1))).1 by rw [q1]; omega, show 1 * (cs (-1) (r.take i)).1 - 0 * (cs (-1) (r.take i)).2 = (cs (-1) ((a :: r).take (i + 1))).2 by rw [q2]; omega] at e
  generalize (cs (-1) ((a :: r).take (i + 1))).1 = P at *
  generalize (cs (-1) ((a :: r).take (i + 1))).2 = Q at *
  generalize hh : (r.take i).foldl mst (a, 1, 1, 0) = T at *
  have r1 : inRng 1 = true := inRng_of (by decide) (by decide)
  have r2 : inRng ((i : Int) + 1) = true := inRng_of (by omega) (by omega)
  have n5 : ¬ (5000 : Int) < i := by omega
  simp [p_MinusRow_convergent, runFn, b_MinusRow_convergent, entryE, finE, t, n5, r1, r2, e, fx, fy, f]
end Lk71
set_option Elab.async false
set_option linter.all false
set_option maxRecDepth 100000
set_option maxHeartbeats 4000000
/-! k71: the rows are right; the sum by turns; the definition. -/
namespace Lk71
open PySem PyProof.Rows L2 Pu
theorem bot_nonneg {r : List Int} (h : Turns r) : 0 ≤ (bot 1 r).1 := by
  by_cases q : r = []
  · subst q
    decide
  · have e := List.dropLast_concat_getLast q
    rw [← e, bot_last, bot_snd, cs_cf]
    have := (cf_pos (l := r.dropLast) fun t ht => h t (List.dropLast_subset r ht)).1
    omega
/-- told of a row of floors -/
theorem conv_floors {h k : Int} (G : Good h k) (hl : 1 < (flo h k).length) : ∃ t b, p_Row_convergent [.im (rw_ (flo h k)), .im (.int (((flo h k).length : Int) - 2))] = .ok (.im (fr t b)) [] ∧ p__law_bottoms [.im (.lst (dI (flo h k))), .im (.int 1)] = .ok (.im (.tup [.int b, .int k])) [] := by
  have hc := G.cons
  have ht := G.turns
  have hs := G.sm
  have hsa := G.smAll
  have hln := G.len
  have hcf := G.cf
  have hpos := G.pos
  have hfew := G.few
  generalize (flo h k).tail = r at *
  rw [hc] at hl hsa hcf ⊢
  rw [List.length_cons] at hl
  have q : r ≠ [] := by
    intro e
    subst e
    simp at hl
  have e := List.dropLast_concat_getLast q
  have hbk := bot_k hcf
  have hbl : (bot 1 r).1 = (cf r.dropLast).1 := by
    rw [← e, bot_last, bot_snd, cs_cf, List.dropLast_concat]
  have hdt : Turns r.dropLast := fun t ht' => ht t (List.dropLast_subset r ht')
  have hle : (bot 1 r).1 ≤ (bot 1 r).2 := by
    have e2 : bot 1 r = ((bot 1 r.dropLast).2, r.getLast q * (bot 1 r.dropLast).2 + 1 * (bot 1 r.dropLast).1) := by
      conv => lhs; rw [← e]
      unfold bot
      rw [bof_app]
      rfl
    rw [e2]
    have h1 := ht (r.getLast q) (List.getLast_mem q)
    have h2 := bot_nonneg hdt
    have h3 : 0 ≤ (bot 1 r.dropLast).2 := by
      rw [bot_snd, cs_cf]
      have := (cf_pos hdt).1
      omega
    have h4 := Int.mul_le_mul_of_nonneg_right h1 h3
    show (bot 1 r.dropLast).2 ≤ r.getLast q * (bot 1 r.dropLast).2 + 1 * (bot 1 r.dropLast).1
    omega
  have htk : (h / k :: r).take (r.length - 1 + 1) = h / k :: r.dropLast := by
    rw [List.take_succ_cons, List.dropLast_eq_take]
  have hp := List.length_pos_iff.mpr q
  have t1 := tbl_cf (h / k :: r.dropLast)
  have p1 := (cf_pos hdt).1
  have t2 : (tbl (h / k :: r.dropLast)).2.2.1 = (bot 1 r).1 := by rw [t1.2, hbl]; rfl
  have cv := row_conv_ok (h / k :: r) (r.length - 1) (by rw [List.length_cons]; omega) (by omega) hsa (by rw [htk, t2, hbl]; omega) (by rw [htk, t2]; omega) (by rw [htk, t1.1, t1.2]; exact cf_gcd)
  have bt := bottoms_ok (h / k) r 1 (.inl rfl) hs
  rw [hbk] at bt
  refine ⟨(tbl (h / k :: r.dropLast)).1, (bot 1 r).1, ?_, bt⟩
  rw [htk, t2] at cv
  rw [List.length_cons, show (((r.length + 1 : Nat) : Int) - 2) = ((r.length - 1 : Nat) : Int) by omega]
  exact cv
/-- told of a row with minus -/
theorem conv_minus {h k a : Int} {r : List Int} (ht : Turns r) (ho : r.length % 2 = 1) (hc : cf (a :: r) = (h, k)) (hk : k < 2 ^ 200) (ha : -1001 ≤ a ∧ a ≤ 1000) (hsum : sm r ≤ 1000) (hl : 1 < ((a + 1) :: mo r).length) :
    ∃ t b, p_MinusRow_convergent [.im (mr ((a + 1) :: mo r)), .im (.int ((((a + 1) :: mo r).length : Int) - 2))] = .ok (.im (fr t b)) [] ∧ p__law_bottoms [.im (.lst (dI ((a + 1) :: mo r))), .im (.int (-1))] = .ok (.im (.tup [.int b, .int k])) [] := by
  have hbk := bot_k hc
  have hbm := bot_mo r ht ho
  have h2 := mo_two r ht
  have hln := mo_len r ht
  have hn0 := bot_nonneg ht
  have hms : Sm (mo r) := fun t hm => by
    have h1 := h2 t hm
    refine ⟨by omega, ?_⟩
    have : t ≤ 1002 := by
      clear hl hln hbm
      have key : ∀ (r : List Int), Turns r → ∀ t ∈ mo r, t ≤ sm r + 2 := by
        intro r
        induction r using mo.induct with
        | case1 => intro _ t ht; cases ht
        | case2 x =>
          intro ht t h
          have := ht x (List.mem_cons_self ..)
          rw [List.eq_of_mem_replicate h]
          show (2 : Int) ≤ x + 0 + 2
          omega
        | case3 x y r ih =>
          intro ht t h
          have hx := ht x (List.mem_cons_self ..)
          have hy := ht y (List.mem_cons_of_mem _ (List.mem_cons_self ..))
          have hr : Turns r := fun t h => ht t (List.mem_cons_of_mem _ (List.mem_cons_of_mem _ h))
          have hl := sm_len hr
          show t ≤ x + (y + sm r) + 2
          rcases List.mem_append.mp (show t ∈ two (x - 1).toNat ++ (y + 2) :: mo r from h) with h | h
          · rw [List.eq_of_mem_replicate h]
            omega
          · rcases List.mem_cons.mp h with h | h
            · omega
            · have := ih hr t h
              omega
      have := key r ht t hm
      omega
    omega
  have bt := bottoms_ok (a + 1) (mo r) (-1) (.inr rfl) hms
  have e2 : (bot (-1) (mo r)).2 = k := by rw [hbm]; exact hbk
  have e1 : (bot (-1) (mo r)).1 = k - (bot 1 r).1 := by rw [hbm, hbk]
  rw [e2] at bt
  generalize hm : mo r = m at *
  rw [List.length_cons] at hl
  have q : m ≠ [] := by
    intro e
    subst e
    simp at hl
  have e := List.dropLast_concat_getLast q
  have hbl : (bot (-1) m).1 = (cs (-1) m.dropLast).1 := by
    rw [← e, bot_last, bot_snd, List.dropLast_concat]
  have hp := List.length_pos_iff.mpr q
  have htk : ((a + 1) :: m).take (m.length - 1 + 1) = (a + 1) :: m.dropLast := by
    rw [List.take_succ_cons, List.dropLast_eq_take]
  have c2 : (cs (-1) ((a + 1) :: m.dropLast)).2 = (bot (-1) m).1 := by rw [hbl]; rfl
  have cp := cs_cei_pos (l := m.dropLast) fun t ht' => h2 t (List.dropLast_subset m ht')
  have cv := mrow_conv_ok (a + 1) m (m.length - 1) (by omega) (by omega) hms (by rw [htk, c2, hbl]; omega) (by rw [htk, c2, e1]; omega) (by omega)
  rw [htk, c2] at cv
  refine ⟨(cs (-1) ((a + 1) :: m.dropLast)).1, (bot (-1) m).1, ?_, bt⟩
  rw [List.length_cons, show (((m.length + 1 : Nat) : Int) - 2) = ((m.length - 1 : Nat) : Int) by omega]
  exact cv
theorem rows_by {h k : Int} {F C : List Int} (i1 : p_Frac_init [.int h, .int k] = .ok "Frac" ["top", "bottom"] [.int h, .int k]) (i2 : p_Row_of [.im (fr h k)] = .ok (.im (rw_ F)) []) (i3 : p_Row_frac [.im (rw_ F)] = .ok (.im (fr h k)) []) (i4 : p_minus_of [.im (rw_ F)] = .ok (.im (mr C)) [])
    (i5 : 1 < F.length → ∃ t b, p_Row_convergent [.im (rw_ F), .im (.int ((F.length : Int) - 2))] = .ok (.im (fr t b)) [] ∧ p__law_bottoms [.im (.lst (dI F)), .im (.int 1)] = .ok (.im (.tup [.int b, .int k])) [])
    (i6 : 1 < C.length → ∃ t b, p_MinusRow_convergent [.im (mr C), .im (.int ((C.length : Int) - 2))] = .ok (.im (fr t b)) [] ∧ p__law_bottoms [.im (.lst (dI C)), .im (.int (-1))] = .ok (.im (.tup [.int b, .int k])) []) :
    p__law_rows [.im (.int h), .im (.int k), .im (.lst (dI F)), .im (.lst (dI C))] = .ok (.im (.bl true)) [] := by
  have a1 := are_ok F
  have a2 := are_ok C
  have f1 := is_frac_ok h k h k
  rw [decide_eq_true rfl, decide_eq_true rfl] at f1
  by_cases q1 : 1 < F.length
  · obtain ⟨t, b, c1, c2⟩ := i5 q1
    have b1 := is_below_ok t b b
    rw [decide_eq_true rfl] at b1
    have q1' : (1 : Int) < F.length := by omega
    by_cases q2 : 1 < C.length
    · obtain ⟨t', b', c3, c4⟩ := i6 q2
      have b2 := is_below_ok t' b' b'
      rw [decide_eq_true rfl] at b2
      have q2' : (1 : Int) < C.length := by omega
      simp [p__law_rows, runFn, b__law_rows, entryE, finE, i1, i2, i3, i4, a1, a2, f1, q1', c1, c2, b1, q2', c3, c4, b2]
    · have q2' : ¬ (1 : Int) < C.length := by omega
      simp [p__law_rows, runFn, b__law_rows, entryE, finE, i1, i2, i3, i4, a1, a2, f1, q1', c1, c2, b1, q2']
  · have q1' : ¬ (1 : Int) < F.length := by omega
    by_cases q2 : 1 < C.length
    · obtain ⟨t', b', c3, c4⟩ := i6 q2
      have b2 := is_below_ok t' b' b'
      rw [decide_eq_true rfl] at b2
      have q2' : (1 : Int) < C.length := by omega
      simp [p__law_rows, runFn, b__law_rows, entryE, finE, i1, i2, i3, i4, a1, a2, f1, q1', q2', c3, c4, b2]
    · have q2' : ¬ (1 : Int) < C.length := by omega
      simp [p__law_rows, runFn, b__law_rows, entryE, finE, i1, i2, i3, i4, a1, a2, f1, q1', q2']
end Lk71
set_option Elab.async false
set_option linter.all false
set_option maxRecDepth 100000
set_option maxHeartbeats 4000000
/-! k71: the sum by turns, the definition, teeth, the law of one fraction. -/
namespace Lk71
open PySem PyProof.Rows L2 Pu
theorem sum_loop (h k d b r : D) : ∀ (n : Nat) (upper lower tot g last before : Int) (x : Sl), Free x → (g = 1 ∨ g = -1) → 0 ≤ lower → lower.toNat < n → lower < 2 ^ 200 → Sm (flo upper lower) → ∃ y u, Free y ∧
    whileN c__sum_by_turns_0 w__sum_by_turns_0 n [.im h, .im k, .im d, .im b, .im r, .im (.int tot), .im (.int g), .un, .im (.int last), .im (.int before), .im (.int upper), .im (.int lower), x] = .ok .nx [.im h, .im k, .im d, .im b, .im r, .im (.int (tot + at_ g (flo upper lower))), .im (.int (g * sg (flo upper lower).length)), .un, .im (.int (bof 1 (before, last) (flo upper lower)).2), .im (.int (bof 1 (before, last) (flo upper lower)).1), .im (.int u), .im (.int 0), y]
  | 0, _, lower, _, _, _, _, _, _, _, _, hn, _, _ => by omega
  | n + 1, upper, lower, tot, g, last, before, x, fx, hg, h0, hn, hb, hs => by
    by_cases q : 0 < lower
    · have k0 : lower ≠ 0 := by omega
      have k1 := Int.emod_lt_of_pos upper q
      have k2 := Int.emod_nonneg upper k0
      have er : upper - upper / lower * lower = upper % lower := by
        have c := Int.emod_add_mul_ediv upper lower
        have d : lower * (upper / lower) = upper / lower * lower := Int.mul_comm ..
        omega
      rw [flo_pos q] at hs ⊢
      have t1 := hs _ (List.mem_cons_self ..)
      obtain ⟨y, u, fy, ih⟩ := sum_loop h k d b r n lower (upper % lower) (tot + g * (upper / lower)) (-g) (upper / lower * last + before) last (.im (.int (upper / lower))) (.im _) (by omega) k2 (by omega) (by omega) hs.tail
      refine ⟨y, u, fy, ?_⟩
      have d1 := small_div q hb
      have m1 : mulOk (upper / lower) lower = true := mul_l _ _ (by omega) (by omega)
      have m2 : mulOk (upper / lower) last = true := mul_l _ _ (by omega) (by omega)
      have m3 : mulOk g (upper / lower) = true := mul_l _ _ (by omega) (by omega)
      have e1 : at_ g (upper / lower :: flo lower (upper % lower)) = g * (upper / lower) + at_ (-g) (flo lower (upper % lower)) := rfl
      have e2 : g * sg (upper / lower :: flo lower (upper % lower)).length = -g * sg (flo lower (upper % lower)).length := by
        rw [List.length_cons, sg_succ]
        grind
      have e3 : bof 1 (before, last) (upper / lower :: flo lower (upper % lower)) = bof 1 (last, upper / lower * last + before) (flo lower (upper % lower)) := by
        show bof 1 (last, upper / lower * last + 1 * before) _ = _
        rw [Int.one_mul]
      rw [e1, e2, e3, ← Int.add_assoc, ← ih]
      simp [whileN, c__sum_by_turns_0, w__sum_by_turns_0, q, d1, m1, m2, m3, fx, fdiv_pos q, er]
    · have : lower = 0 := by omega
      subst this
      refine ⟨x, upper, fx, ?_⟩
      rw [flo_zero]
      rw [show at_ g [] = 0 from rfl, Int.add_zero, show g * sg ([] : List Int).length = g by show g * 1 = g; omega]
      simp [whileN, c__sum_by_turns_0, w__sum_by_turns_0, bof]
section
variable {h k : Int} (G : Good h k)
include G
theorem Good.sumby : p__sum_by_turns [.im (.int h), .im (.int k)] = .ok (.im (.tup [.int (due (h / k) (flo h k).tail h k), .int k])) [] := by
  have hp := G.pos
  have k0 : k ≠ 0 := by omega
  have b0 := Int.emod_nonneg h k0
  have b1 := Int.emod_lt_of_pos h hp
  have hsm := G.sm
  have ht : (flo h k).tail = flo k (h % k) := by rw [flo_pos hp]; rfl
  have hln := G.len
  rw [ht] at hsm hln ⊢
  obtain ⟨y, u, fy, e⟩ := sum_loop (.int h) (.int k) (.int 1) (.int k) (.int (h % k)) ((h % k).toNat + 1) k (h % k) 0 1 1 0 .un .un (.inl rfl) b0 (by omega) (by have := G.few; omega) hsm
  have atb := at_bound _ 1 (.inl rfl) hsm
  have eg : ((Nat.gcd h.natAbs k.natAbs : Nat) : Int) = 1 := by
    have := G.one
    rw [Int.gcd_eq_natAbs_gcd_natAbs] at this
    omega
  have d1 : fdivOk 1 = true := div_b 1 (b := 5) (by decide) (by decide) (by decide)
  have f1 : k.fdiv 1 = k := Int.fdiv_one k
  have f2 : h.fdiv 1 = h := Int.fdiv_one h
  have f3 : h.fmod k = h % k := fmod_pos hp
  have er : h / k * k = h - h % k := by
    have c := Int.emod_add_mul_ediv h k
    have d : k * (h / k) = h / k * k := Int.mul_comm ..
    omega
  unfold due
  rw [er]
  unfold bot
  generalize flo k (h % k) = r at *
  rw [Int.zero_add, Int.one_mul] at e
  have m1 : mulOk (at_ 1 r) k = true := mul_l _ _ (by omega) (by omega)
  have m3 : mulOk 3 k = true := mul_l _ _ (by decide) (by decide)
  by_cases q : r.length % 2 = 1
  · have es : sg r.length = -1 := by
      unfold sg
      rw [if_neg (by omega)]
    rw [es] at e
    have m2 : mulOk (-1) (bof 1 (0, 1) r).1 = true := mul_l _ _ (by decide) (by decide)
    rw [if_pos q, show k * (at_ 1 r - 3) + h - (h - h % k) + (bof 1 (0, 1) r).1 = at_ 1 r * k + h % k - -1 * (bof 1 (0, 1) r).1 - 3 * k by grind]
    simp [p__sum_by_turns, runFn, b__sum_by_turns, entryE, finE, eg, d1, f1, f2, f3, k0, e, fy, m1, m2, m3]
  · have es : sg r.length = 1 := by
      unfold sg
      rw [if_pos (by omega)]
    rw [es] at e
    have m2 : mulOk 1 (bof 1 (0, 1) r).1 = true := mul_l _ _ (by decide) (by decide)
    rw [if_neg q, show k * at_ 1 r + h - (h - h % k) - (bof 1 (0, 1) r).1 = at_ 1 r * k + h % k - 1 * (bof 1 (0, 1) r).1 by grind]
    simp [-Int.one_mul, p__sum_by_turns, runFn, b__sum_by_turns, entryE, finE, eg, d1, f1, f2, f3, k0, e, fy, m1, m2, m3]
theorem Good.teeth {D0 g : Int} (hD : due (h / k) (flo h k).tail h k = D0) (hg : (Int.gcd D0 (12 * k) : Int) = g) : p_teeth [.im (.int h), .im (.int k)] = .ok (.im (fr (D0 / g) (12 * k / g))) [] := by
  have hp := G.pos
  have hf := G.few
  have s := G.sumby
  rw [hD] at s
  have f := frac_ok D0 (12 * k) (by omega) (by omega)
  rw [hg] at f
  have n1 : ¬ k < 1 := by omega
  have m1 : mulOk 12 k = true := mul_l _ _ (by decide) (by decide)
  simp [p_teeth, runFn, b_teeth, entryE, finE, s, f, n1, m1]
end
/-! ### the definition -/
theorem dfn_step (h k : Int) (n : Nat) : dfn h k (n + 1) = dfn h k n + (2 * ((n : Int) + 1) - k) * (match decide (h * ((n : Int) + 1) % k = 0) with
    | true => 0
    | false => 2 * (h * ((n : Int) + 1) % k) - k) := rfl
theorem def_loop (h k : Int) (h0 : 0 < k) (h1 : k ≤ 60) : ∀ (m n : Nat) (x y : Sl), Free x → Free y → n + m < 60 → ∃ x' y', Free x' ∧ Free y' ∧ forL (setIm 3) u__law_defined_0 ((List.range' (n + 1) m).map fun j : Nat => D.int j) [.im (.int h), .im (.int k), .im (.int (dfn h k n)), x, y] = .ok .nx [.im (.int h), .im (.int k), .im (.int (dfn h k (n + m))), x', y']
  | 0, n, x, y, fx, fy, _ => ⟨x, y, fx, fy, rfl⟩
  | m + 1, n, x, y, fx, fy, hm => by
    obtain ⟨x', y', fx', fy', ih⟩ := def_loop h k h0 h1 m (n + 1) (.im (.int ((n + 1 : Nat) : Int))) (.im (.int (h * ((n : Int) + 1) % k))) (.im _) (.im _) (by omega)
    refine ⟨x', y', fx', fy', ?_⟩
    have b0 := Int.emod_nonneg (h * ((n : Int) + 1)) (show k ≠ 0 by omega)
    have b1 := Int.emod_lt_of_pos (h * ((n : Int) + 1)) h0
    have k0 : k ≠ 0 := by omega
    have f1 : (h * ((n : Int) + 1)).fmod k = h * ((n : Int) + 1) % k := fmod_pos h0
    have m1 : mulOk h ((n : Int) + 1) = true := mul_r _ _ (by omega) (by omega)
    have m2 : mulOk 2 ((n : Int) + 1) = true := mul_l _ _ (by decide) (by decide)
    have m3 : mulOk 2 (h * ((n : Int) + 1) % k) = true := mul_l _ _ (by decide) (by decide)
    have m4 : mulOk (2 * ((n : Int) + 1) - k) (2 * (h * ((n : Int) + 1) % k) - k) = true := mul_l _ _ (by omega) (by omega)
    have e1 : setIm 3 (.int ((n + 1 : Nat) : Int)) [.im (.int h), .im (.int k), .im (.int (dfn h k n)), x, y] = some [.im (.int h), .im (.int k), .im (.int (dfn h k n)), .im (.int ((n + 1 : Nat) : Int)), y] := by simp [fx]
    have e2 : u__law_defined_0 [.im (.int h), .im (.int k), .im (.int (dfn h k n)), .im (.int ((n + 1 : Nat) : Int)), y] = .ok .nx [.im (.int h), .im (.int k), .im (.int (dfn h k (n + 1))), .im (.int ((n + 1 : Nat) : Int)), .im (.int (h * ((n : Int) + 1) % k))] := by
      rw [dfn_step, show (((n + 1 : Nat) : Int)) = (n : Int) + 1 from rfl]
      by_cases q : h * ((n : Int) + 1) % k = 0
      · rw [decide_eq_true q]
        simp only [q] at f1
        simp [u__law_defined_0, fy, m1, f1, k0, q]
      · rw [decide_eq_false q]
        simp [u__law_defined_0, fy, m1, f1, k0, q, m2, m3, m4]
    rw [List.range'_succ, List.map_cons, for_cons e1 e2, ih, show n + 1 + m = n + (m + 1) by omega]
theorem defined_ok (h k : Int) (h0 : 0 < k) (h1 : k ≤ 60) : p__law_defined [.im (.int h), .im (.int k)] = .ok (.im (.int (dfn h k (k - 1).toNat))) [] := by
  obtain ⟨x', y', fx, fy, e⟩ := def_loop h k h0 h1 (k - 1).toNat 0 .un .un .un .un (by omega)
  have hr : rangeD 1 k = (List.range' (0 + 1) (k - 1).toNat).map (fun j : Nat => D.int j) := by
    unfold rangeD
    rw [List.range'_eq_map_range, List.map_map]
    refine List.map_congr_left fun j _ => ?_
    show D.int (1 + (j : Int)) = D.int ((0 + 1 + j : Nat) : Int)
    congr 1
  rw [← hr, Nat.zero_add] at e
  have r1 : inRng 1 = true := inRng_of (by decide) (by decide)
  have r2 : inRng k = true := inRng_of (by omega) (by omega)
  rw [show dfn h k 0 = 0 from rfl] at e
  simp [p__law_defined, runFn, b__law_defined, entryE, finE, r1, r2, e, fx, fy]
end Lk71
set_option Elab.async false
set_option linter.all false
set_option maxRecDepth 100000
set_option maxHeartbeats 4000000
/-! k71: the law of one fraction. -/
namespace Lk71
open PySem PyProof.Rows L2 Pu
theorem mo_le (r : List Int) : Turns r → ∀ t ∈ mo r, t ≤ sm r + 2 := by
  induction r using mo.induct with
  | case1 => intro _ t ht; cases ht
  | case2 x =>
    intro ht t h
    have := ht x (List.mem_cons_self ..)
    rw [List.eq_of_mem_replicate h]
    show (2 : Int) ≤ x + 0 + 2
    omega
  | case3 x y r ih =>
    intro ht t h
    have hx := ht x (List.mem_cons_self ..)
    have hy := ht y (List.mem_cons_of_mem _ (List.mem_cons_self ..))
    have hr : Turns r := fun t h => ht t (List.mem_cons_of_mem _ (List.mem_cons_of_mem _ h))
    have hl := sm_len hr
    show t ≤ x + (y + sm r) + 2
    rcases List.mem_append.mp (show t ∈ two (x - 1).toNat ++ (y + 2) :: mo r from h) with h | h
    · rw [List.eq_of_mem_replicate h]
      omega
    · rcases List.mem_cons.mp h with h | h
      · omega
      · have := ih hr t h
        omega
theorem Good.longer {h k : Int} (G : Good h k) {l : List Int} {x : Int} (hf : flo h k = l ++ [x]) : p__law_by_turns [.im (.lst (dI (l ++ [x - 1, 1]))), .im (.int h), .im (.int k)] = .ok (.im (.int (due (h / k) (flo h k).tail h k))) [] := by
  have hc := G.cons
  have hsa := G.smAll
  have hl := G.lenAll
  have hcf := G.cf
  have hfst := G.fst
  rw [hf] at hc hsa hl hcf ⊢
  cases l with
  | nil =>
    have e1 : x = h / k := (List.cons.inj hc).1
    have hk : k = 1 := (congrArg Prod.snd hcf).symm
    subst hk
    have t := turns_ok (x - 1) [1] h 1 (by omega) (fun t ht => by rw [List.mem_singleton.mp ht]; decide) (by decide)
    rw [due_one] at t
    rw [← e1]
    exact t
  | cons a r0 =>
    have e1 : a = h / k := (List.cons.inj hc).1
    have hbk := bot_k (a := a) (r := r0 ++ [x]) hcf
    have hx := hsa x (List.mem_append_right _ (List.mem_singleton.mpr rfl))
    have ht := G.turns
    have hx1 : 1 ≤ x := by
      rw [hf] at ht
      exact ht x (List.mem_append_right _ (List.mem_singleton.mpr rfl))
    have t := turns_ok a (r0 ++ [x - 1, 1]) h k (by omega) (fun t ht => by
      rcases List.mem_append.mp ht with m | m
      · exact hsa t (List.mem_append_left _ (List.mem_cons_of_mem _ m))
      · rcases List.mem_cons.mp m with m | m
        · omega
        · rw [List.mem_singleton.mp m]
          decide) (by simp only [List.length_append, List.length_cons, List.length_nil] at hl ⊢; omega)
    rw [due_longer a r0 x h k hbk] at t
    rw [← e1]
    exact t
theorem right_ok {h k : Int} (G : Good h k) : p__law_right [.im (.int h), .im (.int k)] = .ok (.im (.bl true)) [] := by
  obtain ⟨l, x, hf, a, s, z, V⟩ := G.even
  have hp := G.pos
  have hfew := G.few
  have hsum := V.sum
  have hln := sm_len V.ts
  have hml := mo_len (s ++ [z]) V.ts
  have hfst := V.fst
  have hodd : (s ++ [z]).length % 2 = 1 := by
    have := V.ev
    rw [List.length_append, List.length_singleton]
    omega
  have hcf := V.cf
  have hcei : cei h k = (a + 1) :: mo (s ++ [z]) := by
    have := cei_row a (s ++ [z]) V.ts hodd
    rw [hcf] at this
    exact this
  have hms : Sm (mo (s ++ [z])) := fun t hm => by
    have h1 := mo_two _ V.ts t hm
    have h2 := mo_le _ V.ts t hm
    omega
  have hcs : ∀ t ∈ cei h k, -2000 ≤ t ∧ t ≤ 2000 := fun t hm => by
    rw [hcei] at hm
    rcases List.mem_cons.mp hm with e | m
    · omega
    · exact hms t m
  have c1 := floors_ok h k (by omega) (by omega) (by have := G.lenAll; omega)
  have c2 := ceilings_ok h k (by omega) (by omega) (by rw [hcei, List.length_cons]; omega) hcs
  have fr1 := frac_one h k hp (by omega) G.one
  have tb1 := tbl_cf (flo h k)
  rw [G.cf] at tb1
  have rf := row_frac_ok (flo h k) G.smAll (by rw [tb1.2]; exact hp) (by rw [tb1.2]; omega) (by rw [tb1.1, tb1.2]; exact G.one)
  rw [tb1.1, tb1.2] at rf
  have mi := G.minus hf V
  have cm := fun hl => conv_minus V.ts hodd hcf hfew hfst hsum hl
  rw [← hcei] at mi cm
  have rows := rows_by fr1 (row_of G) rf mi (conv_floors G) cm
  have bt := turns_ok (h / k) (flo h k).tail h k (by have := G.fst; omega) G.sm (by have := G.len; omega)
  have lo := G.longer hf
  have bm := minus_ok (a + 1) (mo (s ++ [z])) h k (by omega) hms (by omega)
  rw [due_minus a (s ++ [z]) h k V.ts hodd (bot_k hcf), V.due, ← hcei] at bm
  have sm1 := fun h1 : k ≤ 60 => small_ok h k hp h1 G.one
  have df := fun h1 : k ≤ 60 => defined_ok h k hp h1
  have tth := fun g hg => G.teeth (D0 := due (h / k) (flo h k).tail h k) (g := g) rfl hg
  rw [← G.cons] at bt
  have gd := gcd_ok (due (h / k) (flo h k).tail h k) (12 * k)
  have g0 : 0 < (Int.gcd (due (h / k) (flo h k).tail h k) (12 * k) : Int) := by
    have := Int.gcd_pos_of_ne_zero_right (due (h / k) (flo h k).tail h k) (show 12 * k ≠ 0 by omega)
    omega
  have g1 : (Int.gcd (due (h / k) (flo h k).tail h k) (12 * k) : Int) ≤ 12 * k := Int.le_of_dvd (by omega) (Int.gcd_dvd_right ..)
  generalize due (h / k) (flo h k).tail h k = D0 at *
  generalize hgg : (Int.gcd D0 (12 * k) : Int) = g at *
  have te := tth g rfl
  have fin := is_frac_ok (D0 / g) (12 * k / g) (D0 / g) (12 * k / g)
  rw [decide_eq_true rfl, decide_eq_true rfl] at fin
  have d1 : fdivOk g = true := div_b g (b := 300) (by omega) (by omega) (by decide)
  have m1 : mulOk 12 k = true := mul_l _ _ (by decide) (by decide)
  have m2 : mulOk 3 (dfn h k (k - 1).toNat) = true := mul_l _ _ (by decide) (by decide)
  have q1 := fdiv_pos (h := D0) g0
  have q2 := fdiv_pos (h := 12 * k) g0
  have cu := cut_init (.int x) (List.map D.int l)
  have la : atI (List.map D.int l ++ [D.int x]) (-1) = some (.int x) := by
    rw [ev_at_last]
    simp
  have hlen := G.lenAll
  rw [hf] at c1 rows bt hlen
  rw [List.length_append, List.length_singleton] at hlen
  have z1 : szOk (l.length + 2) = true := sz_of (by omega)
  simp only [List.map_append, List.map_cons, List.map_nil] at c1 rows bt lo
  generalize dfn h k (k - 1).toNat = W at *
  by_cases q : k ≤ 60
  · have m3 : mulOk k D0 = true := mul_l _ _ (by omega) (by omega)
    have df1 := df q
    have sm2 := sm1 q
    simp [p__law_right, runFn, b__law_right, entryE, finE, c1, c2, rows, bt, cu, la, z1, lo, bm, q, df1, m2, m3, sm2, m1, gd, te, d1, q1, q2, fin]
  · simp [p__law_right, runFn, b__law_right, entryE, finE, c1, c2, rows, bt, cu, la, z1, lo, bm, q, m1, gd, te, d1, q1, q2, fin]
end Lk71
set_option Elab.async false
set_option linter.all false
set_option maxRecDepth 100000
set_option maxHeartbeats 4000000
/-! k71: the law. -/
namespace Lk71
open PySem PyProof.Rows L2 Pu
theorem draw_k {ds : List D} (h : PoolOk ds) (z : Nat) (hz : 1 ≤ z) (hz2 : z < 2 ^ 60) : ∃ (r : Nat) (ds' : List D), r < z ∧ PoolOk ds' ∧ p__law_draw [.mu ds, .im (.int z)] = .ok (.im (.int r)) [ds'] := draw_ok h z hz hz2
def Nine (r : List Int) : Prop := ∀ t ∈ r, 1 ≤ t ∧ t ≤ 9
theorem fr_loop (many : D) : ∀ (is : List D) (ds : List D) (a : Int) (r : List Int) (x : Sl), Free x → PoolOk ds → Nine r → r.length + is.length ≤ 100 → ∃ ds' r' y, Free y ∧ PoolOk ds' ∧ Nine r' ∧ r'.length = r.length + is.length ∧
    forL (setIm 3) u__law_fraction_0 is [.pl 0 ds, .im many, .ow (dI (a :: r)), x, .un, .un, .un] = .ok .nx [.pl 0 ds', .im many, .ow (dI (a :: r')), y, .un, .un, .un]
  | [], ds, a, r, x, fx, hp, hr, _ => ⟨ds, r, x, fx, hp, hr, rfl, rfl⟩
  | i :: is, ds, a, r, x, fx, hp, hr, hl => by
    obtain ⟨v, ds1, hv, hp1, e⟩ := draw_k hp 12 (by decide) (by decide)
    rw [List.length_cons] at hl
    have hm : ∃ m : Int, (if (v : Int) - 2 > 1 then (v : Int) - 2 else 1) = m ∧ 1 ≤ m ∧ m ≤ 9 := by
      refine ⟨_, rfl, ?_, ?_⟩
      · split <;> omega
      · split <;> omega
    obtain ⟨m, em, m1, m2⟩ := hm
    obtain ⟨ds', r', y, fy, hp', hr', hl', ih⟩ := fr_loop many is ds1 a (r ++ [m]) (.im i) (.im _) hp1 (fun t ht => by
      rcases List.mem_append.mp ht with q | q
      · exact hr t q
      · rw [List.mem_singleton.mp q]
        exact ⟨m1, m2⟩) (by rw [List.length_append, List.length_singleton]; omega)
    refine ⟨ds', r', y, fy, hp', hr', by rw [hl', List.length_append, List.length_singleton, List.length_cons]; omega, ?_⟩
    have e1 : setIm 3 i [.pl 0 ds, .im many, .ow (dI (a :: r)), x, .un, .un, .un] = some [.pl 0 ds, .im many, .ow (dI (a :: r)), .im i, .un, .un, .un] := by simp [fx]
    have s1 : decide (r.length + 1 < sizeLine) = true := sl_of (by omega)
    have e' : p__law_draw [.mu ds, .im (.int 12)] = .ok (.im (.int (v : Int))) [ds1] := e
    have e2 : u__law_fraction_0 [.pl 0 ds, .im many, .ow (dI (a :: r)), .im i, .un, .un, .un] = .ok .nx [.pl 0 ds1, .im many, .ow (dI (a :: (r ++ [m]))), .im i, .un, .un, .un] := by
      simp [u__law_fraction_0, e', s1, ← em]
    rw [for_cons e1 e2, ih]
def fst_ (x : Int × Int) (t : Int) : Int × Int := (t * x.1 + x.2, x.1)
theorem fr_loop2 (p0 many L i : Sl) : ∀ (l : List Int) (p q : Int) (x : Sl), Free x → Sm l → ∃ y, Free y ∧ forL (setIm 4) u__law_fraction_1 (dI l) [p0, many, L, i, x, .im (.int p), .im (.int q)] = .ok .nx [p0, many, L, i, y, .im (.int (l.foldl fst_ (p, q)).1), .im (.int (l.foldl fst_ (p, q)).2)]
  | [], p, q, x, fx, _ => ⟨x, fx, rfl⟩
  | t :: l, p, q, x, fx, hs => by
    have h1 := hs t (List.mem_cons_self ..)
    obtain ⟨y, fy, ih⟩ := fr_loop2 p0 many L i l (t * p + q) p (.im (.int t)) (.im _) hs.tail
    refine ⟨y, fy, ?_⟩
    have m1 : mulOk t p = true := mul_l _ _ (by omega) (by omega)
    have e1 : setIm 4 (.int t) [p0, many, L, i, x, .im (.int p), .im (.int q)] = some [p0, many, L, i, .im (.int t), .im (.int p), .im (.int q)] := by simp [fx]
    have e2 : u__law_fraction_1 [p0, many, L, i, .im (.int t), .im (.int p), .im (.int q)] = .ok .nx [p0, many, L, i, .im (.int t), .im (.int (t * p + q)), .im (.int p)] := by
      simp [u__law_fraction_1, m1]
    show forL (setIm 4) u__law_fraction_1 (.int t :: dI l) _ = _
    rw [for_cons e1 e2, ih]
    rfl
theorem fold_cf : ∀ l : List Int, l.reverse.foldl fst_ (1, 0) = cf l
  | [] => rfl
  | a :: l => by
    rw [List.reverse_cons, List.foldl_append, fold_cf l]
    rfl
theorem nine_turns {r : List Int} (h : Nine r) : Turns r := fun t ht => (h t ht).1
theorem cf_bound : ∀ (r : List Int), Nine r → (cf r).1 ≤ 16 ^ r.length
  | [], _ => by decide
  | a :: r, h => by
    have ha := h a (List.mem_cons_self ..)
    have hr : Nine r := fun t ht => h t (List.mem_cons_of_mem _ ht)
    have ih := cf_bound r hr
    obtain ⟨p1, p2⟩ := cf_pos (nine_turns hr)
    have le : (cf r).2 ≤ (cf r).1 := by
      by_cases q : r = []
      · subst q
        decide
      · exact cf_le (nine_turns hr) q
    have m := Int.mul_le_mul_of_nonneg_right ha.2 (show 0 ≤ (cf r).1 by omega)
    show a * (cf r).1 + (cf r).2 ≤ 16 ^ (r.length + 1)
    rw [Int.pow_succ]
    omega
theorem nine_sum : ∀ (r : List Int), Nine r → sm r ≤ 9 * r.length
  | [], _ => by decide
  | a :: r, h => by
    have ha := h a (List.mem_cons_self ..)
    have ih := nine_sum r fun t ht => h t (List.mem_cons_of_mem _ ht)
    show a + sm r ≤ 9 * ((r.length + 1 : Nat) : Int)
    omega
theorem good_cf (a : Int) (r : List Int) (ha : -10 ≤ a ∧ a ≤ 10) (hr : Nine r) (hl : r.length ≤ 40) : Good (cf (a :: r)).1 (cf (a :: r)).2 := by
  obtain ⟨p1, p2⟩ := cf_pos (nine_turns hr)
  have b := cf_bound r hr
  have hb : (16 : Int) ^ r.length ≤ 16 ^ 40 := by
    have := Nat.pow_le_pow_right (show 0 < 16 by decide) hl
    have e : ((16 ^ r.length : Nat) : Int) ≤ ((16 ^ 40 : Nat) : Int) := Int.ofNat_le.mpr this
    simpa using e
  have le : (cf r).2 ≤ (cf r).1 := by
    by_cases q : r = []
    · subst q
      decide
    · exact cf_le (nine_turns hr) q
  have hs := nine_sum r hr
  have ht := flo_cf_tail (a := a) (nine_turns hr)
  refine ⟨?_, ?_, cf_gcd, ?_, by omega⟩
  · show 0 < (cf r).1
    omega
  · show (cf r).1 < 2 ^ 200
    have : (16 : Int) ^ 40 < 2 ^ 200 := by decide
    omega
  · show -1000 ≤ (a * (cf r).1 + (cf r).2) / (cf r).1 ∧ (a * (cf r).1 + (cf r).2) / (cf r).1 ≤ 1000
    rw [Int.add_comm, Int.add_mul_ediv_right _ _ (by omega)]
    have d1 := Int.ediv_nonneg p2 (show 0 ≤ (cf r).1 by omega)
    have d2 := Int.ediv_le_ediv (show 0 < (cf r).1 by omega) le
    rw [Int.ediv_self (by omega)] at d2
    omega
/-- a pair of the law -/
def OkP (d : D) : Prop := ∃ h k : Int, d = .tup [.int h, .int k] ∧ 0 < k ∧ k < 2 ^ 200 ∧ Good (h / (Int.gcd h k : Int)) (k / (Int.gcd h k : Int))
theorem okP_cf {h k : Int} (G : Good h k) : OkP (.tup [.int h, .int k]) := ⟨h, k, rfl, G.pos, G.few, by
  rw [G.one]
  show Good (h / 1) (k / 1)
  rw [Int.ediv_one, Int.ediv_one]
  exact G⟩
theorem okP_small (h k : Int) (hh : -900 ≤ h ∧ h ≤ 900) (h0 : 0 < k) (h1 : k ≤ 60) : OkP (.tup [.int h, .int k]) := by
  refine ⟨h, k, rfl, h0, by omega, ?_⟩
  have g0 : 0 < (Int.gcd h k : Int) := by
    have := Int.gcd_pos_of_ne_zero_right h (show k ≠ 0 by omega)
    omega
  have ek : k / (Int.gcd h k : Int) * (Int.gcd h k : Int) = k := Int.ediv_mul_cancel (Int.gcd_dvd_right ..)
  have eh : h / (Int.gcd h k : Int) * (Int.gcd h k : Int) = h := Int.ediv_mul_cancel (Int.gcd_dvd_left ..)
  have gd : Int.gcd (h / (Int.gcd h k : Int)) (k / (Int.gcd h k : Int)) = 1 := by
    have e : Int.gcd (h / (Int.gcd h k : Int) * (Int.gcd h k : Int)) (k / (Int.gcd h k : Int) * (Int.gcd h k : Int)) = Int.gcd h k := by rw [eh, ek]
    rw [Int.gcd_mul_right, Int.natAbs_natCast] at e
    have g0' : 0 < Int.gcd h k := by omega
    exact Nat.eq_of_mul_eq_mul_right g0' (by rw [e, Nat.one_mul])
  generalize (Int.gcd h k : Int) = g at *
  have kq : 0 < k / g := by
    by_cases q : 0 < k / g
    · exact q
    · have := Int.mul_le_mul_of_nonneg_right (show k / g ≤ 0 by omega) (show 0 ≤ g by omega)
      omega
  have kq2 : k / g ≤ k := Int.ediv_le_self g (by omega)
  have absd : ∀ (a b : Int), 0 < b → -1000 ≤ a → a ≤ 1000 → -1000 ≤ a / b ∧ a / b ≤ 1000 := by
    intro a b hb l u
    have c := Int.emod_add_mul_ediv a b
    have r0 := Int.emod_nonneg a (show b ≠ 0 by omega)
    have r1 := Int.emod_lt_of_pos a hb
    constructor
    · by_cases q : -1000 ≤ a / b
      · exact q
      · have := Int.mul_le_mul_of_nonneg_left (show a / b ≤ -1001 by omega) (show 0 ≤ b by omega)
        omega
    · by_cases q : a / b ≤ 1000
      · exact q
      · have := Int.mul_le_mul_of_nonneg_left (show 1001 ≤ a / b by omega) (show 0 ≤ b by omega)
        omega
  have h1' := absd h g g0 (by omega) (by omega)
  exact ⟨kq, by omega, gd, absd _ _ kq h1'.1 h1'.2, by have := flo_sum_tail (h / g) (k / g) kq; omega⟩
theorem fraction_ok {ds : List D} (hp : PoolOk ds) (many : Nat) (h1 : 1 ≤ many) (h2 : many ≤ 40) : ∃ ds' h k, PoolOk ds' ∧ OkP (.tup [.int h, .int k]) ∧ p__law_fraction [.mu ds, .im (.int many)] = .ok (.im (.tup [.int h, .int k])) [ds'] := by
  obtain ⟨v, ds1, hv, hp1, e⟩ := draw_k hp 10 (by decide) (by decide)
  have e' : p__law_draw [.mu ds, .im (.int 10)] = .ok (.im (.int (v : Int))) [ds1] := e
  obtain ⟨ds2, r, y, fy, hp2, hr, hl, e2⟩ := fr_loop (.int many) (rangeD 0 ((many : Int) - 1)) ds1 ((v : Int) - 3) [] .un .un hp1 (fun t ht => nomatch ht) (by rw [range_len]; simp; omega)
  have hl2 : r.length ≤ 40 := by
    rw [hl, range_len, List.length_nil]
    omega
  have hsm : Sm (((v : Int) - 3) :: r).reverse := fun t ht => by
    rcases List.mem_cons.mp (List.mem_reverse.mp ht) with q | q
    · omega
    · have := hr t q
      omega
  obtain ⟨y2, fy2, e3⟩ := fr_loop2 (.pl 0 ds2) (.im (.int many)) (.ow (dI (((v : Int) - 3) :: r))) y _ 1 0 .un .un hsm
  rw [fold_cf] at e3
  have G := good_cf ((v : Int) - 3) r (by omega) hr hl2
  refine ⟨ds2, (cf (((v : Int) - 3) :: r)).1, (cf (((v : Int) - 3) :: r)).2, hp2, okP_cf G, ?_⟩
  generalize (cf (((v : Int) - 3) :: r)).1 = P at *
  generalize (cf (((v : Int) - 3) :: r)).2 = Q at *
  have r1 : inRng ((many : Int) - 1) = true := inRng_of (by omega) (by omega)
  have rv : (dI (((v : Int) - 3) :: r)).reverse = dI ((((v : Int) - 3) :: r)).reverse := by
    show (List.map D.int _).reverse = List.map D.int _
    rw [List.map_reverse]
  generalize ((((v : Int) - 3) :: r)).reverse = rr at *
  simp only [List.map_cons, List.map_nil] at e2 e3 rv
  simp [p__law_fraction, runFn, b__law_fraction, entryE, e', r1, e2, -List.reverse_cons, rv, e3, finE, fy, fy2]
end Lk71
set_option Elab.async false
set_option linter.all false
set_option maxRecDepth 100000
set_option maxHeartbeats 4000000
/-! k71: the law over every script. -/
namespace Lk71
open PySem PyProof.Rows L2 Pu
theorem one_pair {s : D} {ds acc : List D} {x : Sl} {i : Int} {u1 u2 u3 : Sl} (fx : Free x) (hp : PoolOk ds) (ha : acc.length ≤ 10) : ∃ ds' d, PoolOk ds' ∧ OkP d ∧ ∀ is, forL (setIm 3) u_law_0 (.int i :: is) [.im s, .ow ds, .ow acc, x, u1, u2, u3] = forL (setIm 3) u_law_0 is [.im s, .ow ds', .ow (acc ++ [d]), .im (.int i), u1, u2, u3] := by
  obtain ⟨v, ds1, hv, hp1, e⟩ := draw_k hp 400 (by decide) (by decide)
  obtain ⟨w, ds2, hw, hp2, e2⟩ := draw_k hp1 60 (by decide) (by decide)
  have e' : p__law_draw [.mu ds, .im (.int 400)] = .ok (.im (.int (v : Int))) [ds1] := e
  have e2' : p__law_draw [.mu ds1, .im (.int 60)] = .ok (.im (.int (w : Int))) [ds2] := e2
  refine ⟨ds2, .tup [.int ((v : Int) - 100), .int (1 + (w : Int))], hp2, okP_small _ _ (by omega) (by omega) (by omega), fun is => ?_⟩
  have s1 : decide (acc.length < sizeLine) = true := sl_of (by omega)
  have q1 : setIm 3 (.int i) [.im s, .ow ds, .ow acc, x, u1, u2, u3] = some [.im s, .ow ds, .ow acc, .im (.int i), u1, u2, u3] := by simp [fx]
  have q2 : u_law_0 [.im s, .ow ds, .ow acc, .im (.int i), u1, u2, u3] = .ok .nx [.im s, .ow ds2, .ow (acc ++ [.tup [.int ((v : Int) - 100), .int (1 + (w : Int))]]), .im (.int i), u1, u2, u3] := by
    simp [u_law_0, e', e2', s1]
  exact for_cons q1 q2
theorem all_right (a b c d : Sl) : ∀ (ds : List D) (x y z : Sl), Free x → Free y → Free z → (∀ d ∈ ds, OkP d) → ∃ x' y' z', Free x' ∧ Free y' ∧ Free z' ∧ forL (bTup (bCons (setIm 4) (bCons (setIm 5) bNil))) u_law_1 ds [a, b, c, d, x, y, z] = .ok .nx [a, b, c, d, x', y', z']
  | [], x, y, z, fx, fy, fz, _ => ⟨x, y, z, fx, fy, fz, rfl⟩
  | e :: ds, x, y, z, fx, fy, fz, h => by
    obtain ⟨hh, k, rfl, h0, h1, G⟩ := h e (List.mem_cons_self ..)
    have g0 : 0 < (Int.gcd hh k : Int) := by
      have := Int.gcd_pos_of_ne_zero_right hh (show k ≠ 0 by omega)
      omega
    have g1 : (Int.gcd hh k : Int) ≤ k := Int.le_of_dvd h0 (Int.gcd_dvd_right ..)
    have gd := gcd_ok hh k
    have r := right_ok G
    obtain ⟨x', y', z', fx', fy', fz', ih⟩ := all_right a b c d ds (.im (.int hh)) (.im (.int k)) (.im (.int (Int.gcd hh k))) (.im _) (.im _) (.im _) fun d hd => h d (List.mem_cons_of_mem _ hd)
    refine ⟨x', y', z', fx', fy', fz', ?_⟩
    have d1 : fdivOk (Int.gcd hh k : Int) = true := div_b _ (b := 300) (by omega) (by omega) (by decide)
    have f1 := fdiv_pos (h := hh) g0
    have f2 := fdiv_pos (h := k) g0
    have q1 : bTup (bCons (setIm 4) (bCons (setIm 5) bNil)) (.tup [.int hh, .int k]) [a, b, c, d, x, y, z] = some [a, b, c, d, .im (.int hh), .im (.int k), z] := by simp [fx, fy]
    have q2 : u_law_1 [a, b, c, d, .im (.int hh), .im (.int k), z] = .ok .nx [a, b, c, d, .im (.int hh), .im (.int k), .im (.int (Int.gcd hh k))] := by
      simp [u_law_1, gd, fz, d1, f1, f2, r]
    rw [for_cons q1 q2, ih]
theorem law_ok (ns : List Int) (hn : ns.length ≤ 63) : p_law [.im (.scr ns)] = .ok (.im (.bl true)) [] := by
  obtain ⟨ds, hp, e0⟩ := pool_ok ns hn
  have e0' : p__law_pool [.im (.scr ns)] = .ok (.ow ds) [] := e0
  obtain ⟨ds1, p1, hp1, o1, l1⟩ := one_pair (s := .scr ns) (acc := []) (i := 0) (u1 := .un) (u2 := .un) (u3 := .un) .un hp (by decide)
  obtain ⟨ds2, p2, hp2, o2, l2⟩ := one_pair (s := .scr ns) (acc := [p1]) (i := 1) (u1 := .un) (u2 := .un) (u3 := .un) (.im (.int 0)) hp1 (by simp)
  obtain ⟨v3, ds3, hv3, hp3, e3⟩ := draw_k hp2 6 (by decide) (by decide)
  obtain ⟨ds4, h4, k4, hp4, o4, e4⟩ := fraction_ok hp3 (1 + v3) (by omega) (by omega)
  obtain ⟨v5, ds5, hv5, hp5, e5⟩ := draw_k hp4 16 (by decide) (by decide)
  obtain ⟨ds6, h6, k6, hp6, o6, e6⟩ := fraction_ok hp5 (15 + v5) (by omega) (by omega)
  have e3' : p__law_draw [.mu ds2, .im (.int 6)] = .ok (.im (.int (v3 : Int))) [ds3] := e3
  have e4' : p__law_fraction [.mu ds3, .im (.int (1 + (v3 : Int)))] = .ok (.im (.tup [.int h4, .int k4])) [ds4] := e4
  have e5' : p__law_draw [.mu ds4, .im (.int 16)] = .ok (.im (.int (v5 : Int))) [ds5] := e5
  have e6' : p__law_fraction [.mu ds5, .im (.int (15 + (v5 : Int)))] = .ok (.im (.tup [.int h6, .int k6])) [ds6] := e6
  have rg : rangeD 0 2 = [.int 0, .int 1] := rfl
  have lp : forL (setIm 3) u_law_0 (rangeD 0 2) [.im (.scr ns), .ow ds, .ow [], .un, .un, .un, .un] = .ok .nx [.im (.scr ns), .ow ds2, .ow [p1, p2], .im (.int 1), .un, .un, .un] := by
    rw [rg, l1, List.nil_append, l2]
    rfl
  have s1 : decide (2 < sizeLine) = true := sl_of (by decide)
  have s2 : decide (3 < sizeLine) = true := sl_of (by decide)
  have r2 : inRng 2 = true := inRng_of (by decide) (by decide)
  have z5 : szOk 5 = true := sz_of (by decide)
  obtain ⟨x', y', z', fx, fy, fz, lr⟩ := all_right (.im (.scr ns)) (.ow ds6) (.ow [p1, p2, .tup [.int h4, .int k4], .tup [.int h6, .int k6]]) (.im (.int 1)) [p1, p2, .tup [.int h4, .int k4], .tup [.int h6, .int k6], p1] .un .un .un .un .un .un (by
    intro d hd
    simp only [List.mem_cons, List.not_mem_nil, or_false] at hd
    rcases hd with q | q | q | q | q <;> subst q <;> assumption)
  simp [p_law, runFn, b_law, entryE, e0', r2, lp, e3', e4', e5', e6', s1, s2, z5, lr, finE, fx, fy, fz]
end Lk71
set_option Elab.async false
set_option linter.all false
set_option maxRecDepth 100000
set_option maxHeartbeats 4000000
/-! law_k71_teeth_by_turns: the code keeps the meanings (printed by gen.py). -/
namespace Lk71
open PySem PySem.Spec PyProof.Rows L2 Pu
def top (i : Nat) : Stmt := PySem.Challenge.pw_goodturns_k71_teeth_by_turns.main.body.getD i (.Pass ⟨0, 0, 0, 0⟩)
def inCl (s : Stmt) (j : Nat) : Stmt := match s with
  | .ClassDef _ _ _ b _ _ _ _ _ _ _ => b.getD j (.Pass ⟨0, 0, 0, 0⟩)
  | _ => .Pass ⟨0, 0, 0, 0⟩
abbrev s__law_draw : Stmt := top 68
theorem sc__law_draw : FnScope ["pool", "size", "digit"] ["pool", "size"] (defScope s__law_draw) := ⟨rfl, rfl, rfl, by decide +kernel, rfl, by decide +kernel, by decide +kernel⟩
abbrev s__law_fraction : Stmt := top 82
theorem sc__law_fraction : FnScope ["pool", "many", "turns", "k", "t", "p", "q"] ["pool", "many"] (defScope s__law_fraction) := ⟨rfl, rfl, rfl, by decide +kernel, rfl, by decide +kernel, by decide +kernel⟩
abbrev s__law_gcd : Stmt := top 73
theorem sc__law_gcd : FnScope ["a", "b"] ["a", "b"] (defScope s__law_gcd) := ⟨rfl, rfl, rfl, by decide +kernel, rfl, by decide +kernel, by decide +kernel⟩
abbrev s__law_mixed : Stmt := top 66
theorem sc__law_mixed : FnScope ["cell", "k", "first", "second", "third"] ["cell", "k"] (defScope s__law_mixed) := ⟨rfl, rfl, rfl, by decide +kernel, rfl, by decide +kernel, by decide +kernel⟩
abbrev s__law_pool : Stmt := top 67
theorem sc__law_pool : FnScope ["script", "pool", "seed", "k", "cell"] ["script"] (defScope s__law_pool) := ⟨rfl, rfl, rfl, by decide +kernel, rfl, by decide +kernel, by decide +kernel⟩
abbrev s__law_bottoms : Stmt := top 76
theorem sc__law_bottoms : FnScope ["turns", "sign", "t", "q", "s"] ["turns", "sign"] (defScope s__law_bottoms) := ⟨rfl, rfl, rfl, by decide +kernel, rfl, by decide +kernel, by decide +kernel⟩
abbrev s__law_by_minus : Stmt := top 78
theorem sc__law_by_minus : FnScope ["turns", "h", "k", "total", "t", "q", "s"] ["turns", "h", "k"] (defScope s__law_by_minus) := ⟨rfl, rfl, rfl, by decide +kernel, rfl, by decide +kernel, by decide +kernel⟩
abbrev s__law_by_turns : Stmt := top 77
theorem sc__law_by_turns : FnScope ["turns", "h", "k", "last", "total", "sign", "t", "q", "s"] ["turns", "h", "k"] (defScope s__law_by_turns) := ⟨rfl, rfl, rfl, by decide +kernel, rfl, by decide +kernel, by decide +kernel⟩
abbrev s__law_ceilings : Stmt := top 75
theorem sc__law_ceilings : FnScope ["p", "q", "found", "t"] ["p", "q"] (defScope s__law_ceilings) := ⟨rfl, rfl, rfl, by decide +kernel, rfl, by decide +kernel, by decide +kernel⟩
abbrev s__law_defined : Stmt := top 79
theorem sc__law_defined : FnScope ["h", "k", "total", "i", "rest"] ["h", "k"] (defScope s__law_defined) := ⟨rfl, rfl, rfl, by decide +kernel, rfl, by decide +kernel, by decide +kernel⟩
abbrev s__law_floors : Stmt := top 74
theorem sc__law_floors : FnScope ["p", "q", "found"] ["p", "q"] (defScope s__law_floors) := ⟨rfl, rfl, rfl, by decide +kernel, rfl, by decide +kernel, by decide +kernel⟩
abbrev s__law_whole : Stmt := top 69
theorem sc__law_whole : FnScope ["x"] ["x"] (defScope s__law_whole) := ⟨rfl, rfl, rfl, by decide +kernel, rfl, by decide +kernel, by decide +kernel⟩
abbrev s__law_is_frac : Stmt := top 70
theorem sc__law_is_frac : FnScope ["x", "p", "q"] ["x", "p", "q"] (defScope s__law_is_frac) := ⟨rfl, rfl, rfl, by decide +kernel, rfl, by decide +kernel, by decide +kernel⟩
abbrev s_sign_of : Stmt := top 22
theorem sc_sign_of : FnScope ["number"] ["number"] (defScope s_sign_of) := ⟨rfl, rfl, rfl, by decide +kernel, rfl, by decide +kernel, by decide +kernel⟩
abbrev s_Frac_init : Stmt := inCl (top 23) 0
theorem sc_Frac_init : FnScope ["self", "top", "bottom", "divisor"] ["self", "top", "bottom"] (defScope s_Frac_init) := ⟨rfl, rfl, rfl, by decide +kernel, rfl, by decide +kernel, by decide +kernel⟩
abbrev s_MinusRow_turn : Stmt := inCl (top 31) 2
theorem sc_MinusRow_turn : FnScope ["self", "place"] ["self", "place"] (defScope s_MinusRow_turn) := ⟨rfl, rfl, rfl, by decide +kernel, rfl, by decide +kernel, by decide +kernel⟩
abbrev s_MinusRow_convergent : Stmt := inCl (top 31) 3
theorem sc_MinusRow_convergent : FnScope ["self", "place", "at", "top", "bottom", "top_before", "bottom_before", "turn"] ["self", "place"] (defScope s_MinusRow_convergent) := ⟨rfl, rfl, rfl, by decide +kernel, rfl, by decide +kernel, by decide +kernel⟩
abbrev s_unrolled : Stmt := top 39
theorem sc_unrolled : FnScope ["head", "loop", "many", "missing", "turns", "count"] ["head", "loop", "many"] (defScope s_unrolled) := ⟨rfl, rfl, rfl, by decide +kernel, rfl, by decide +kernel, by decide +kernel⟩
abbrev s_Row_turns : Stmt := inCl (top 57) 6
theorem sc_Row_turns : FnScope ["self", "many", "head", "_"] ["self", "many"] (defScope s_Row_turns) := ⟨rfl, rfl, rfl, by decide +kernel, rfl, by decide +kernel, by decide +kernel⟩
abbrev s_Table_init : Stmt := inCl (top 34) 0
theorem sc_Table_init : FnScope ["self", "a", "b", "c", "d"] ["self", "a", "b", "c", "d"] (defScope s_Table_init) := ⟨rfl, rfl, rfl, by decide +kernel, rfl, by decide +kernel, by decide +kernel⟩
abbrev s_turns_table : Stmt := top 55
theorem sc_turns_table : FnScope ["turns", "turn", "a", "b", "c", "d"] ["turns"] (defScope s_turns_table) := ⟨rfl, rfl, rfl, by decide +kernel, rfl, by decide +kernel, by decide +kernel⟩
abbrev s_Row_table : Stmt := inCl (top 57) 9
theorem sc_Row_table : FnScope ["self", "many", "turns"] ["self", "many"] (defScope s_Row_table) := ⟨rfl, rfl, rfl, by decide +kernel, rfl, by decide +kernel, by decide +kernel⟩
abbrev s_turn_in : Stmt := top 38
theorem sc_turn_in : FnScope ["head", "loop", "place"] ["head", "loop", "place"] (defScope s_turn_in) := ⟨rfl, rfl, rfl, by decide +kernel, rfl, by decide +kernel, by decide +kernel⟩
abbrev s_Row_turn : Stmt := inCl (top 57) 4
theorem sc_Row_turn : FnScope ["self", "place", "found"] ["self", "place"] (defScope s_Row_turn) := ⟨rfl, rfl, rfl, by decide +kernel, rfl, by decide +kernel, by decide +kernel⟩
abbrev s_Row_convergent : Stmt := inCl (top 57) 10
theorem sc_Row_convergent : FnScope ["self", "place", "table"] ["self", "place"] (defScope s_Row_convergent) := ⟨rfl, rfl, rfl, by decide +kernel, rfl, by decide +kernel, by decide +kernel⟩
abbrev s_Row_frac : Stmt := inCl (top 57) 11
theorem sc_Row_frac : FnScope ["self", "table"] ["self"] (defScope s_Row_frac) := ⟨rfl, rfl, rfl, by decide +kernel, rfl, by decide +kernel, by decide +kernel⟩
abbrev s_kind_of : Stmt := top 54
theorem sc_kind_of : FnScope ["loop", "_", "step"] ["loop"] (defScope s_kind_of) := ⟨rfl, rfl, rfl, by decide +kernel, rfl, by decide +kernel, by decide +kernel⟩
abbrev s_one_form : Stmt := top 42
theorem sc_one_form : FnScope ["head", "loop", "pairs", "last", "back"] ["head", "loop"] (defScope s_one_form) := ⟨rfl, rfl, rfl, by decide +kernel, rfl, by decide +kernel, by decide +kernel⟩
abbrev s_Row_init : Stmt := inCl (top 57) 0
theorem sc_Row_init : FnScope ["self", "head", "loop", "place", "pairs", "start", "step"] ["self", "head", "loop"] (defScope s_Row_init) := ⟨rfl, rfl, rfl, by decide +kernel, rfl, by decide +kernel, by decide +kernel⟩
abbrev s_Row_of : Stmt := inCl (top 57) 2
theorem sc_Row_of : FnScope ["frac", "turns", "top", "bottom", "whole"] ["frac"] (defScope s_Row_of) := ⟨rfl, rfl, rfl, by decide +kernel, rfl, by decide +kernel, by decide +kernel⟩
abbrev s__law_are : Stmt := top 72
theorem sc__law_are : FnScope ["x", "turns", "one"] ["x", "turns"] (defScope s__law_are) := ⟨rfl, rfl, rfl, by decide +kernel, rfl, by decide +kernel, by decide +kernel⟩
abbrev s__law_is_below : Stmt := top 71
theorem sc__law_is_below : FnScope ["x", "q"] ["x", "q"] (defScope s__law_is_below) := ⟨rfl, rfl, rfl, by decide +kernel, rfl, by decide +kernel, by decide +kernel⟩
abbrev s_short_form : Stmt := top 30
theorem sc_short_form : FnScope ["head", "loop", "items", "size", "last", "back", "first"] ["head", "loop"] (defScope s_short_form) := ⟨rfl, rfl, rfl, by decide +kernel, rfl, by decide +kernel, by decide +kernel⟩
abbrev s_MinusRow_init : Stmt := inCl (top 31) 0
theorem sc_MinusRow_init : FnScope ["self", "head", "loop", "place"] ["self", "head", "loop"] (defScope s_MinusRow_init) := ⟨rfl, rfl, rfl, by decide +kernel, rfl, by decide +kernel, by decide +kernel⟩
abbrev s__with_minus : Stmt := top 61
theorem sc__with_minus : FnScope ["turns", "minus", "place"] ["turns"] (defScope s__with_minus) := ⟨rfl, rfl, rfl, by decide +kernel, rfl, by decide +kernel, by decide +kernel⟩
abbrev s_ended_turns : Stmt := top 56
theorem sc_ended_turns : FnScope ["head", "odd", "turns", "last_is_odd"] ["head", "odd"] (defScope s_ended_turns) := ⟨rfl, rfl, rfl, by decide +kernel, rfl, by decide +kernel, by decide +kernel⟩
abbrev s__ended_minus : Stmt := top 62
theorem sc__ended_minus : FnScope ["head", "turns"] ["head"] (defScope s__ended_minus) := ⟨rfl, rfl, rfl, by decide +kernel, rfl, by decide +kernel, by decide +kernel⟩
abbrev s_look_at_work : Stmt := top 60
theorem sc_look_at_work : FnScope ["row", "work", "start", "_"] ["row"] (defScope s_look_at_work) := ⟨rfl, rfl, rfl, by decide +kernel, rfl, by decide +kernel, by decide +kernel⟩
abbrev s_minus_of : Stmt := top 64
theorem sc_minus_of : FnScope ["row"] ["row"] (defScope s_minus_of) := ⟨rfl, rfl, rfl, by decide +kernel, rfl, by decide +kernel, by decide +kernel⟩
abbrev s__law_rows : Stmt := top 80
theorem sc__law_rows : FnScope ["h", "k", "turns", "minus", "row", "other", "told", "q", "s"] ["h", "k", "turns", "minus"] (defScope s__law_rows) := ⟨rfl, rfl, rfl, by decide +kernel, rfl, by decide +kernel, by decide +kernel⟩
abbrev s__sum_by_turns : Stmt := top 25
theorem sc__sum_by_turns : FnScope ["h", "k", "divisor", "bottom", "rest", "total", "sign", "top", "last", "before", "upper", "lower", "turn"] ["h", "k"] (defScope s__sum_by_turns) := ⟨rfl, rfl, rfl, by decide +kernel, rfl, by decide +kernel, by decide +kernel⟩
abbrev s_teeth : Stmt := top 26
theorem sc_teeth : FnScope ["h", "k", "top", "bottom"] ["h", "k"] (defScope s_teeth) := ⟨rfl, rfl, rfl, by decide +kernel, rfl, by decide +kernel, by decide +kernel⟩
abbrev s__law_right : Stmt := top 81
theorem sc__law_right : FnScope ["h", "k", "turns", "minus", "due", "longer", "g"] ["h", "k"] (defScope s__law_right) := ⟨rfl, rfl, rfl, by decide +kernel, rfl, by decide +kernel, by decide +kernel⟩
abbrev s_law : Stmt := top 83
theorem sc_law : FnScope ["script", "pool", "fracs", "n", "h", "k", "g"] ["script"] (defScope s_law) := ⟨rfl, rfl, rfl, by decide +kernel, rfl, by decide +kernel, by decide +kernel⟩
def d__law_draw : Df := ⟨fun K => He.ga K "_law_draw", "_law_draw", "_law_draw", s__law_draw, []⟩
def d__law_fraction : Df := ⟨fun K => He.ga K "_law_fraction", "_law_fraction", "_law_fraction", s__law_fraction, []⟩
def d__law_gcd : Df := ⟨fun K => He.ga K "_law_gcd", "_law_gcd", "_law_gcd", s__law_gcd, []⟩
def d__law_mixed : Df := ⟨fun K => He.ga K "_law_mixed", "_law_mixed", "_law_mixed", s__law_mixed, []⟩
def d__law_pool : Df := ⟨fun K => He.ga K "_law_pool", "_law_pool", "_law_pool", s__law_pool, []⟩
def d__law_bottoms : Df := ⟨fun K => He.ga K "_law_bottoms", "_law_bottoms", "_law_bottoms", s__law_bottoms, []⟩
def d__law_by_minus : Df := ⟨fun K => He.ga K "_law_by_minus", "_law_by_minus", "_law_by_minus", s__law_by_minus, []⟩
def d__law_by_turns : Df := ⟨fun K => He.ga K "_law_by_turns", "_law_by_turns", "_law_by_turns", s__law_by_turns, []⟩
def d__law_ceilings : Df := ⟨fun K => He.ga K "_law_ceilings", "_law_ceilings", "_law_ceilings", s__law_ceilings, []⟩
def d__law_defined : Df := ⟨fun K => He.ga K "_law_defined", "_law_defined", "_law_defined", s__law_defined, []⟩
def d__law_floors : Df := ⟨fun K => He.ga K "_law_floors", "_law_floors", "_law_floors", s__law_floors, []⟩
def d__law_whole : Df := ⟨fun K => He.ga K "_law_whole", "_law_whole", "_law_whole", s__law_whole, []⟩
def d__law_is_frac : Df := ⟨fun K => He.ga K "_law_is_frac", "_law_is_frac", "_law_is_frac", s__law_is_frac, []⟩
def d_sign_of : Df := ⟨fun K => He.ga K "sign_of", "sign_of", "sign_of", s_sign_of, []⟩
def d_Frac_init : Df := ⟨fun K => He.ma K (He.ga K "Frac") "__init__", "__init__", "Frac.__init__", s_Frac_init, [.int 1]⟩
def d_MinusRow_turn : Df := ⟨fun K => He.ma K (He.ga K "MinusRow") "turn", "turn", "MinusRow.turn", s_MinusRow_turn, []⟩
def d_MinusRow_convergent : Df := ⟨fun K => He.ma K (He.ga K "MinusRow") "convergent", "convergent", "MinusRow.convergent", s_MinusRow_convergent, []⟩
def d_unrolled : Df := ⟨fun K => He.ga K "unrolled", "unrolled", "unrolled", s_unrolled, []⟩
def d_Row_turns : Df := ⟨fun K => He.ma K (He.ga K "Row") "turns", "turns", "Row.turns", s_Row_turns, []⟩
def d_Table_init : Df := ⟨fun K => He.ma K (He.ga K "Table") "__init__", "__init__", "Table.__init__", s_Table_init, []⟩
def d_turns_table : Df := ⟨fun K => He.ga K "turns_table", "turns_table", "turns_table", s_turns_table, []⟩
def d_Row_table : Df := ⟨fun K => He.ma K (He.ga K "Row") "table", "table", "Row.table", s_Row_table, []⟩
def d_turn_in : Df := ⟨fun K => He.ga K "turn_in", "turn_in", "turn_in", s_turn_in, []⟩
def d_Row_turn : Df := ⟨fun K => He.ma K (He.ga K "Row") "turn", "turn", "Row.turn", s_Row_turn, []⟩
def d_Row_convergent : Df := ⟨fun K => He.ma K (He.ga K "Row") "convergent", "convergent", "Row.convergent", s_Row_convergent, []⟩
def d_Row_frac : Df := ⟨fun K => He.ma K (He.ga K "Row") "frac", "frac", "Row.frac", s_Row_frac, []⟩
def d_kind_of : Df := ⟨fun K => He.ga K "kind_of", "kind_of", "kind_of", s_kind_of, []⟩
def d_one_form : Df := ⟨fun K => He.ga K "one_form", "one_form", "one_form", s_one_form, []⟩
def d_Row_init : Df := ⟨fun K => He.ma K (He.ga K "Row") "__init__", "__init__", "Row.__init__", s_Row_init, [.adr (He.dflAt ("Row", some "__init__") 0)]⟩
def d_Row_of : Df := ⟨fun K => He5.wf K (He.ga K "Row") "staticmethod" "of", "of", "Row.of", s_Row_of, []⟩
def d__law_are : Df := ⟨fun K => He.ga K "_law_are", "_law_are", "_law_are", s__law_are, []⟩
def d__law_is_below : Df := ⟨fun K => He.ga K "_law_is_below", "_law_is_below", "_law_is_below", s__law_is_below, []⟩
def d_short_form : Df := ⟨fun K => He.ga K "short_form", "short_form", "short_form", s_short_form, []⟩
def d_MinusRow_init : Df := ⟨fun K => He.ma K (He.ga K "MinusRow") "__init__", "__init__", "MinusRow.__init__", s_MinusRow_init, [.adr (He.dflAt ("MinusRow", some "__init__") 0)]⟩
def d__with_minus : Df := ⟨fun K => He.ga K "_with_minus", "_with_minus", "_with_minus", s__with_minus, []⟩
def d_ended_turns : Df := ⟨fun K => He.ga K "ended_turns", "ended_turns", "ended_turns", s_ended_turns, []⟩
def d__ended_minus : Df := ⟨fun K => He.ga K "_ended_minus", "_ended_minus", "_ended_minus", s__ended_minus, []⟩
def d_look_at_work : Df := ⟨fun K => He.ga K "look_at_work", "look_at_work", "look_at_work", s_look_at_work, []⟩
def d_minus_of : Df := ⟨fun K => He.ga K "minus_of", "minus_of", "minus_of", s_minus_of, []⟩
def d__law_rows : Df := ⟨fun K => He.ga K "_law_rows", "_law_rows", "_law_rows", s__law_rows, []⟩
def d__sum_by_turns : Df := ⟨fun K => He.ga K "_sum_by_turns", "_sum_by_turns", "_sum_by_turns", s__sum_by_turns, []⟩
def d_teeth : Df := ⟨fun K => He.ga K "teeth", "teeth", "teeth", s_teeth, []⟩
def d__law_right : Df := ⟨fun K => He.ga K "_law_right", "_law_right", "_law_right", s__law_right, []⟩
def d_law : Df := ⟨fun K => He.ga K "law", "law", "law", s_law, []⟩
structure Kn (K : PySem.W.Frag) (mg : Str → Option Value) : Prop where
  F__law_draw : ∃ fd, FnL K d__law_draw fd
  m__law_draw : mg "_law_draw" = some (.ref (He.ga K "_law_draw"))
  F__law_fraction : ∃ fd, FnL K d__law_fraction fd
  m__law_fraction : mg "_law_fraction" = some (.ref (He.ga K "_law_fraction"))
  F__law_gcd : ∃ fd, FnL K d__law_gcd fd
  m__law_gcd : mg "_law_gcd" = some (.ref (He.ga K "_law_gcd"))
  F__law_mixed : ∃ fd, FnL K d__law_mixed fd
  m__law_mixed : mg "_law_mixed" = some (.ref (He.ga K "_law_mixed"))
  F__law_pool : ∃ fd, FnL K d__law_pool fd
  m__law_pool : mg "_law_pool" = some (.ref (He.ga K "_law_pool"))
  F__law_bottoms : ∃ fd, FnL K d__law_bottoms fd
  m__law_bottoms : mg "_law_bottoms" = some (.ref (He.ga K "_law_bottoms"))
  F__law_by_minus : ∃ fd, FnL K d__law_by_minus fd
  m__law_by_minus : mg "_law_by_minus" = some (.ref (He.ga K "_law_by_minus"))
  F__law_by_turns : ∃ fd, FnL K d__law_by_turns fd
  m__law_by_turns : mg "_law_by_turns" = some (.ref (He.ga K "_law_by_turns"))
  F__law_ceilings : ∃ fd, FnL K d__law_ceilings fd
  m__law_ceilings : mg "_law_ceilings" = some (.ref (He.ga K "_law_ceilings"))
  F__law_defined : ∃ fd, FnL K d__law_defined fd
  m__law_defined : mg "_law_defined" = some (.ref (He.ga K "_law_defined"))
  F__law_floors : ∃ fd, FnL K d__law_floors fd
  m__law_floors : mg "_law_floors" = some (.ref (He.ga K "_law_floors"))
  F__law_whole : ∃ fd, FnL K d__law_whole fd
  m__law_whole : mg "_law_whole" = some (.ref (He.ga K "_law_whole"))
  F__law_is_frac : ∃ fd, FnL K d__law_is_frac fd
  m__law_is_frac : mg "_law_is_frac" = some (.ref (He.ga K "_law_is_frac"))
  F_sign_of : ∃ fd, FnL K d_sign_of fd
  m_sign_of : mg "sign_of" = some (.ref (He.ga K "sign_of"))
  F_Frac_init : ∃ fd, FnL K d_Frac_init fd
  k_Frac : Mk K (He.ga K "Frac") (He.ma K (He.ga K "Frac") "__init__")
  F_MinusRow_turn : ∃ fd, FnL K d_MinusRow_turn fd
  me_MinusRow_turn : Meth K (He.ga K "MinusRow") "turn" (He.ma K (He.ga K "MinusRow") "turn")
  F_MinusRow_convergent : ∃ fd, FnL K d_MinusRow_convergent fd
  me_MinusRow_convergent : Meth K (He.ga K "MinusRow") "convergent" (He.ma K (He.ga K "MinusRow") "convergent")
  F_unrolled : ∃ fd, FnL K d_unrolled fd
  m_unrolled : mg "unrolled" = some (.ref (He.ga K "unrolled"))
  F_Row_turns : ∃ fd, FnL K d_Row_turns fd
  me_Row_turns : Meth K (He.ga K "Row") "turns" (He.ma K (He.ga K "Row") "turns")
  F_Table_init : ∃ fd, FnL K d_Table_init fd
  k_Table : Mk K (He.ga K "Table") (He.ma K (He.ga K "Table") "__init__")
  F_turns_table : ∃ fd, FnL K d_turns_table fd
  m_turns_table : mg "turns_table" = some (.ref (He.ga K "turns_table"))
  F_Row_table : ∃ fd, FnL K d_Row_table fd
  me_Row_table : Meth K (He.ga K "Row") "table" (He.ma K (He.ga K "Row") "table")
  F_turn_in : ∃ fd, FnL K d_turn_in fd
  m_turn_in : mg "turn_in" = some (.ref (He.ga K "turn_in"))
  F_Row_turn : ∃ fd, FnL K d_Row_turn fd
  me_Row_turn : Meth K (He.ga K "Row") "turn" (He.ma K (He.ga K "Row") "turn")
  F_Row_convergent : ∃ fd, FnL K d_Row_convergent fd
  me_Row_convergent : Meth K (He.ga K "Row") "convergent" (He.ma K (He.ga K "Row") "convergent")
  F_Row_frac : ∃ fd, FnL K d_Row_frac fd
  me_Row_frac : Meth K (He.ga K "Row") "frac" (He.ma K (He.ga K "Row") "frac")
  F_kind_of : ∃ fd, FnL K d_kind_of fd
  m_kind_of : mg "kind_of" = some (.ref (He.ga K "kind_of"))
  F_one_form : ∃ fd, FnL K d_one_form fd
  m_one_form : mg "one_form" = some (.ref (He.ga K "one_form"))
  e_Row_init_0 : emptyB K (He.dflAt ("Row", some "__init__") 0 K) = true
  F_Row_init : ∃ fd, FnL K d_Row_init fd
  k_Row : Mk K (He.ga K "Row") (He.ma K (He.ga K "Row") "__init__")
  F_Row_of : ∃ fd, FnL K d_Row_of fd
  st_Row_of : StM K (He.ga K "Row") (.type "type") "of" (He.ma K (He.ga K "Row") "of") (He5.wf K (He.ga K "Row") "staticmethod" "of")
  F__law_are : ∃ fd, FnL K d__law_are fd
  m__law_are : mg "_law_are" = some (.ref (He.ga K "_law_are"))
  F__law_is_below : ∃ fd, FnL K d__law_is_below fd
  m__law_is_below : mg "_law_is_below" = some (.ref (He.ga K "_law_is_below"))
  F_short_form : ∃ fd, FnL K d_short_form fd
  m_short_form : mg "short_form" = some (.ref (He.ga K "short_form"))
  e_MinusRow_init_0 : emptyB K (He.dflAt ("MinusRow", some "__init__") 0 K) = true
  F_MinusRow_init : ∃ fd, FnL K d_MinusRow_init fd
  k_MinusRow : Mk K (He.ga K "MinusRow") (He.ma K (He.ga K "MinusRow") "__init__")
  F__with_minus : ∃ fd, FnL K d__with_minus fd
  m__with_minus : mg "_with_minus" = some (.ref (He.ga K "_with_minus"))
  F_ended_turns : ∃ fd, FnL K d_ended_turns fd
  m_ended_turns : mg "ended_turns" = some (.ref (He.ga K "ended_turns"))
  F__ended_minus : ∃ fd, FnL K d__ended_minus fd
  m__ended_minus : mg "_ended_minus" = some (.ref (He.ga K "_ended_minus"))
  F_look_at_work : ∃ fd, FnL K d_look_at_work fd
  m_look_at_work : mg "look_at_work" = some (.ref (He.ga K "look_at_work"))
  F_minus_of : ∃ fd, FnL K d_minus_of fd
  m_minus_of : mg "minus_of" = some (.ref (He.ga K "minus_of"))
  F__law_rows : ∃ fd, FnL K d__law_rows fd
  m__law_rows : mg "_law_rows" = some (.ref (He.ga K "_law_rows"))
  F__sum_by_turns : ∃ fd, FnL K d__sum_by_turns fd
  m__sum_by_turns : mg "_sum_by_turns" = some (.ref (He.ga K "_sum_by_turns"))
  F_teeth : ∃ fd, FnL K d_teeth fd
  m_teeth : mg "teeth" = some (.ref (He.ga K "teeth"))
  F__law_right : ∃ fd, FnL K d__law_right fd
  m__law_right : mg "_law_right" = some (.ref (He.ga K "_law_right"))
  F_law : ∃ fd, FnL K d_law fd
  m_law : mg "law" = some (.ref (He.ga K "law"))
  m_Frac : mg "Frac" = some (.ref (He.ga K "Frac"))
  c_Frac : Cls K (He.ga K "Frac")
  m_MinusRow : mg "MinusRow" = some (.ref (He.ga K "MinusRow"))
  c_MinusRow : Cls K (He.ga K "MinusRow")
  m_Row : mg "Row" = some (.ref (He.ga K "Row"))
  c_Row : Cls K (He.ga K "Row")
  m_Table : mg "Table" = some (.ref (He.ga K "Table"))
  c_Table : Cls K (He.ga K "Table")
  na_Frac_bottom : NoAttr K (He.ga K "Frac") "bottom"
  na_Frac_top : NoAttr K (He.ga K "Frac") "top"
  na_MinusRow_head : NoAttr K (He.ga K "MinusRow") "head"
  na_MinusRow_loop : NoAttr K (He.ga K "MinusRow") "loop"
  na_Row_head : NoAttr K (He.ga K "Row") "head"
  na_Row_kind : NoAttr K (He.ga K "Row") "kind"
  na_Row_loop : NoAttr K (He.ga K "Row") "loop"
  na_Table_a : NoAttr K (He.ga K "Table") "a"
  na_Table_b : NoAttr K (He.ga K "Table") "b"
  na_Table_c : NoAttr K (He.ga K "Table") "c"
  na_Table_d : NoAttr K (He.ga K "Table") "d"
  b_abs : mg "abs" = none
  b_bool : mg "bool" = none
  b_gcd : mg "gcd" = some (.builtin "math.gcd")
  b_int : mg "int" = none
  b_isinstance : mg "isinstance" = none
  b_len : mg "len" = none
  b_list : mg "list" = none
  b_max : mg "max" = none
  b_min : mg "min" = none
  b_range : mg "range" = none
  b_sum : mg "sum" = none
  b_tuple : mg "tuple" = none
  i_LAST_CONVERGENT : ∃ t, mg "LAST_CONVERGENT" = some (.int 5000 t)
  i_MOST_TURNS : ∃ t, mg "MOST_TURNS" = some (.int 5000 t)
  i_MOST_WORK : ∃ t, mg "MOST_WORK" = some (.int 1000 t)
  is_Frac : ∀ k b, is_Frac k = some b → PySem.W.kitOne K (k.v K) (.ref (He.ga K "Frac")) = some b ∧ ∀ c', k = .own c' → InsF K (He.ga K c')
  is_MinusRow : ∀ k b, is_MinusRow k = some b → PySem.W.kitOne K (k.v K) (.ref (He.ga K "MinusRow")) = some b ∧ ∀ c', k = .own c' → InsF K (He.ga K c')
  is_Row : ∀ k b, is_Row k = some b → PySem.W.kitOne K (k.v K) (.ref (He.ga K "Row")) = some b ∧ ∀ c', k = .own c' → InsF K (He.ga K c')
  is_bool : ∀ k b, is_bool k = some b → PySem.W.kitOne K (k.v K) (.type "bool") = some b ∧ ∀ c', k = .own c' → InsF K (He.ga K c')
  is_int : ∀ k b, is_int k = some b → PySem.W.kitOne K (k.v K) (.type "int") = some b ∧ ∀ c', k = .own c' → InsF K (He.ga K c')
  is_tuple : ∀ k b, is_tuple k = some b → PySem.W.kitOne K (k.v K) (.type "tuple") = some b ∧ ∀ c', k = .own c' → InsF K (He.ga K c')
theorem Kn.fl_Frac_bottom {K : PySem.W.Frag} {mg : Str → Option Value} (n : Kn K mg) : ∀ c ∈ [("Frac" : Str)], Cls K (He.ga K c) ∧ NoAttr K (He.ga K c) "bottom" := by
  intro c hc
  cases List.mem_singleton.mp hc
  exact ⟨n.c_Frac, n.na_Frac_bottom⟩
theorem Kn.fl_Frac_top {K : PySem.W.Frag} {mg : Str → Option Value} (n : Kn K mg) : ∀ c ∈ [("Frac" : Str)], Cls K (He.ga K c) ∧ NoAttr K (He.ga K c) "top" := by
  intro c hc
  cases List.mem_singleton.mp hc
  exact ⟨n.c_Frac, n.na_Frac_top⟩
theorem Kn.fl_MinusRow_head {K : PySem.W.Frag} {mg : Str → Option Value} (n : Kn K mg) : ∀ c ∈ [("MinusRow" : Str)], Cls K (He.ga K c) ∧ NoAttr K (He.ga K c) "head" := by
  intro c hc
  cases List.mem_singleton.mp hc
  exact ⟨n.c_MinusRow, n.na_MinusRow_head⟩
theorem Kn.fl_MinusRow_loop {K : PySem.W.Frag} {mg : Str → Option Value} (n : Kn K mg) : ∀ c ∈ [("MinusRow" : Str)], Cls K (He.ga K c) ∧ NoAttr K (He.ga K c) "loop" := by
  intro c hc
  cases List.mem_singleton.mp hc
  exact ⟨n.c_MinusRow, n.na_MinusRow_loop⟩
theorem Kn.fl_Row_head {K : PySem.W.Frag} {mg : Str → Option Value} (n : Kn K mg) : ∀ c ∈ [("Row" : Str)], Cls K (He.ga K c) ∧ NoAttr K (He.ga K c) "head" := by
  intro c hc
  cases List.mem_singleton.mp hc
  exact ⟨n.c_Row, n.na_Row_head⟩
theorem Kn.fl_Row_kind {K : PySem.W.Frag} {mg : Str → Option Value} (n : Kn K mg) : ∀ c ∈ [("Row" : Str)], Cls K (He.ga K c) ∧ NoAttr K (He.ga K c) "kind" := by
  intro c hc
  cases List.mem_singleton.mp hc
  exact ⟨n.c_Row, n.na_Row_kind⟩
theorem Kn.fl_Row_loop {K : PySem.W.Frag} {mg : Str → Option Value} (n : Kn K mg) : ∀ c ∈ [("Row" : Str)], Cls K (He.ga K c) ∧ NoAttr K (He.ga K c) "loop" := by
  intro c hc
  cases List.mem_singleton.mp hc
  exact ⟨n.c_Row, n.na_Row_loop⟩
theorem Kn.fl_Table_a {K : PySem.W.Frag} {mg : Str → Option Value} (n : Kn K mg) : ∀ c ∈ [("Table" : Str)], Cls K (He.ga K c) ∧ NoAttr K (He.ga K c) "a" := by
  intro c hc
  cases List.mem_singleton.mp hc
  exact ⟨n.c_Table, n.na_Table_a⟩
theorem Kn.fl_Table_b {K : PySem.W.Frag} {mg : Str → Option Value} (n : Kn K mg) : ∀ c ∈ [("Table" : Str)], Cls K (He.ga K c) ∧ NoAttr K (He.ga K c) "b" := by
  intro c hc
  cases List.mem_singleton.mp hc
  exact ⟨n.c_Table, n.na_Table_b⟩
theorem Kn.fl_Table_c {K : PySem.W.Frag} {mg : Str → Option Value} (n : Kn K mg) : ∀ c ∈ [("Table" : Str)], Cls K (He.ga K c) ∧ NoAttr K (He.ga K c) "c" := by
  intro c hc
  cases List.mem_singleton.mp hc
  exact ⟨n.c_Table, n.na_Table_c⟩
theorem Kn.fl_Table_d {K : PySem.W.Frag} {mg : Str → Option Value} (n : Kn K mg) : ∀ c ∈ [("Table" : Str)], Cls K (He.ga K c) ∧ NoAttr K (He.ga K c) "d" := by
  intro c hc
  cases List.mem_singleton.mp hc
  exact ⟨n.c_Table, n.na_Table_d⟩
section
variable {P : Program} {w : World} {K : PySem.W.Frag} {mg : Str → Option Value} {base : Heap}
theorem ok__law_draw (n : Kn K mg) {fd : FuncData} (F : FnL K d__law_draw fd) : FnOk P w K mg base (L2.CX P w) 1 (d__law_draw.ad K) fd ["pool", "size"] (spF K 2 p__law_draw) :=
  fn_mk2 F sc__law_draw rfl rfl fun cdv A outer s H E hr0 => by
    have nd := (sc__law_draw).nd
    exact ⟨_, (s_cons (s_if ((w_and (t_eqS (q_ixL (q_var 0) q_int) q_int) (w_and1 (t_gt (q_len n.b_len (a_cons (q_var 0) a_nil)) q_int)))).qt (s_one (s_expr (q_popAt (q_var 0) (a_cons q_int a_nil)))) s_nil) (s_cons (s_set 2 nd (q_mod (q_toint n.b_int (a_cons (q_ixL (q_var 0) q_int) a_nil)) (q_var 1))) (s_cons (s_sub (q_var 0) q_int (q_fdiv (q_ixL (q_var 0) q_int) (q_var 1))) (s_one (s_ret (q_var 2))))))⟩
theorem g__law_draw (n : Kn K mg) : GFn P w K mg base "_law_draw" 1 2 p__law_draw [] [] := by
  obtain ⟨fd, F⟩ := n.F__law_draw
  exact ⟨⟨_, fd, _, [], ok__law_draw n F, n.m__law_draw, F.kp, F.bindsN fun _ _ _ _ _ _ us hl => match us, hl with | [_, _], _ => rfl, .nil⟩, fun S => rfl, ary_run⟩
theorem ok__law_fraction (n : Kn K mg) {fd : FuncData} (F : FnL K d__law_fraction fd) : FnOk P w K mg base (L2.CX P w) 2 (d__law_fraction.ad K) fd ["pool", "many"] (spF K 2 p__law_fraction) :=
  fn_mk2 F sc__law_fraction rfl rfl fun cdv A outer s H E hr0 => by
    have nd := (sc__law_fraction).nd
    exact ⟨_, (s_cons (s_setL 2 nd (l_lst (a_cons (q_sub (q_call1 0 (takes_of rfl rfl rfl rfl) (g__law_draw n) (hr0.mono (by decide)) (a_cons (q_var 0) (a_cons q_int a_nil))) q_int) a_nil))) (s_cons (s_for (passes_of rfl) (i_rng1 n.b_range (q_sub (q_var 1) q_int)) (g_name 3 nd) (s_one (s_expr (q_append (q_var 2) (a_cons (q_max2 n.b_max (a_cons q_int (a_cons (q_sub (q_call1 0 (takes_of rfl rfl rfl rfl) (g__law_draw n) (hr0.mono (by decide)) (a_cons (q_var 0) (a_cons q_int a_nil))) q_int) a_nil))) a_nil))))) (s_cons (s_asg (q_tup (a_cons q_int (a_cons q_int a_nil))) (g_tup (g_cons (g_name 5 nd) (g_cons (g_name 6 nd) g_nil)))) (s_cons (s_for (passes_of rfl) (i_list (q_fz (l_rev (q_var 2)))) (g_name 4 nd) (s_one (s_par 5 6 nd (q_add (q_mul (q_var 4) (q_var 5)) (q_var 6)) (q_var 5)))) (s_one (s_ret (q_tup (a_cons (q_var 5) (a_cons (q_var 6) a_nil)))))))))⟩
theorem g__law_fraction (n : Kn K mg) : GFn P w K mg base "_law_fraction" 2 2 p__law_fraction [] [] := by
  obtain ⟨fd, F⟩ := n.F__law_fraction
  exact ⟨⟨_, fd, _, [], ok__law_fraction n F, n.m__law_fraction, F.kp, F.bindsN fun _ _ _ _ _ _ us hl => match us, hl with | [_, _], _ => rfl, .nil⟩, fun S => rfl, ary_run⟩
theorem ok__law_gcd (n : Kn K mg) {fd : FuncData} (F : FnL K d__law_gcd fd) : FnOk P w K mg base (L2.CX P w) 1 (d__law_gcd.ad K) fd ["a", "b"] (spF K 2 p__law_gcd) :=
  fn_mk2 F sc__law_gcd rfl rfl fun cdv A outer s H E hr0 => by
    have nd := (sc__law_gcd).nd
    exact ⟨_, (s_cons (s_set 0 nd (q_abs n.b_abs (a_cons (q_var 0) a_nil))) (s_cons (s_set 1 nd (q_abs n.b_abs (a_cons (q_var 1) a_nil))) (s_cons (s_while (muI 1) (passes_of rfl) (t_gt (q_var 1) q_int) (s_one (s_par 0 1 nd (q_var 1) (q_mod (q_var 0) (q_var 1))))) (s_one (s_ret (q_var 0))))))⟩
theorem g__law_gcd (n : Kn K mg) : GFn P w K mg base "_law_gcd" 1 2 p__law_gcd [] [] := by
  obtain ⟨fd, F⟩ := n.F__law_gcd
  exact ⟨⟨_, fd, _, [], ok__law_gcd n F, n.m__law_gcd, F.kp, F.bindsN fun _ _ _ _ _ _ us hl => match us, hl with | [_, _], _ => rfl, .nil⟩, fun S => rfl, ary_run⟩
theorem ok__law_mixed (n : Kn K mg) {fd : FuncData} (F : FnL K d__law_mixed fd) : FnOk P w K mg base (L2.CX P w) 1 (d__law_mixed.ad K) fd ["cell", "k"] (spF K 2 p__law_mixed) :=
  fn_mk2 F sc__law_mixed rfl rfl fun cdv A outer s H E hr0 => by
    have nd := (sc__law_mixed).nd
    exact ⟨_, (s_cons (s_set 2 nd (q_mod (q_add (q_add (q_mul (q_toint n.b_int (a_cons (q_var 0) a_nil)) q_int) (q_mul (q_var 1) q_int)) q_int) q_int)) (s_cons (s_set 3 nd (q_mod (q_add (q_add (q_mul (q_var 2) (q_var 2)) (q_mul (q_var 1) q_int)) q_int) q_int)) (s_cons (s_set 4 nd (q_mod (q_add (q_add (q_mul (q_var 3) (q_var 3)) (q_mul (q_var 2) q_int)) q_int) q_int)) (s_one (s_ret (q_add (q_mul (q_add (q_mul (q_var 2) q_int) (q_var 3)) q_int) (q_var 4)))))))⟩
theorem g__law_mixed (n : Kn K mg) : GFn P w K mg base "_law_mixed" 1 2 p__law_mixed [] [] := by
  obtain ⟨fd, F⟩ := n.F__law_mixed
  exact ⟨⟨_, fd, _, [], ok__law_mixed n F, n.m__law_mixed, F.kp, F.bindsN fun _ _ _ _ _ _ us hl => match us, hl with | [_, _], _ => rfl, .nil⟩, fun S => rfl, ary_run⟩
theorem ok__law_pool (n : Kn K mg) {fd : FuncData} (F : FnL K d__law_pool fd) : FnOk P w K mg base (L2.CX P w) 2 (d__law_pool.ad K) fd ["script"] (spF K 1 p__law_pool) :=
  fn_mk2 F sc__law_pool rfl rfl fun cdv A outer s H E hr0 => by
    have nd := (sc__law_pool).nd
    exact ⟨_, (s_cons (s_setL 1 nd (l_lst a_nil)) (s_cons (s_set 2 nd q_int) (s_cons (s_for (passes_of rfl) (i_rng1 n.b_range (q_min2 n.b_min (a_cons (q_len n.b_len (a_cons (q_var 0) a_nil)) (a_cons q_int a_nil)))) (g_name 3 nd) (s_cons (s_set 4 nd (q_toint n.b_int (a_cons (q_ixL (q_var 0) (q_var 3)) a_nil))) (s_cons (s_set 2 nd (q_mod (q_add (q_mul (q_var 2) q_int) (q_var 4)) q_int)) (s_one (s_if (t_ge (q_var 4) (q_pow q_int q_int)) (s_one (s_expr (q_append (q_var 1) (a_cons (q_mod (q_var 4) (q_mul (q_mul (q_pow q_int q_int) (q_pow q_int q_int)) (q_pow q_int q_int))) a_nil)))) (s_one (s_expr (q_append (q_var 1) (a_cons (q_call (takes_of rfl rfl rfl rfl) (g__law_mixed n) (hr0.mono (by decide)) (a_cons (q_var 4) (a_cons (q_var 3) a_nil))) a_nil))))))))) (s_cons (s_for (passes_of rfl) (i_rng1 n.b_range q_int) (g_name 3 nd) (s_one (s_expr (q_append (q_var 1) (a_cons (q_call (takes_of rfl rfl rfl rfl) (g__law_mixed n) (hr0.mono (by decide)) (a_cons (q_var 2) (a_cons (q_add q_int (q_var 3)) a_nil))) a_nil))))) (s_one (s_ret (q_var 1)))))))⟩
theorem g__law_pool (n : Kn K mg) : GFn P w K mg base "_law_pool" 2 1 p__law_pool [] [] := by
  obtain ⟨fd, F⟩ := n.F__law_pool
  exact ⟨⟨_, fd, _, [], ok__law_pool n F, n.m__law_pool, F.kp, F.bindsN fun _ _ _ _ _ _ us hl => match us, hl with | [_], _ => rfl, .nil⟩, fun S => rfl, ary_run⟩
theorem ok__law_bottoms (n : Kn K mg) {fd : FuncData} (F : FnL K d__law_bottoms fd) : FnOk P w K mg base (L2.CX P w) 1 (d__law_bottoms.ad K) fd ["turns", "sign"] (spF K 2 p__law_bottoms) :=
  fn_mk2 F sc__law_bottoms rfl rfl fun cdv A outer s H E hr0 => by
    have nd := (sc__law_bottoms).nd
    exact ⟨_, (s_cons (s_asg (q_tup (a_cons q_int (a_cons q_int a_nil))) (g_tup (g_cons (g_name 3 nd) (g_cons (g_name 4 nd) g_nil)))) (s_cons (s_for (passes_of rfl) (i_list (q_fz (l_sl (q_var 0) (o_some q_int) o_no))) (g_name 2 nd) (s_one (s_par 3 4 nd (q_var 4) (q_add (q_mul (q_var 2) (q_var 4)) (q_mul (q_var 1) (q_var 3)))))) (s_one (s_ret (q_tup (a_cons (q_var 3) (a_cons (q_var 4) a_nil)))))))⟩
theorem g__law_bottoms (n : Kn K mg) : GFn P w K mg base "_law_bottoms" 1 2 p__law_bottoms [] [] := by
  obtain ⟨fd, F⟩ := n.F__law_bottoms
  exact ⟨⟨_, fd, _, [], ok__law_bottoms n F, n.m__law_bottoms, F.kp, F.bindsN fun _ _ _ _ _ _ us hl => match us, hl with | [_, _], _ => rfl, .nil⟩, fun S => rfl, ary_run⟩
theorem ok__law_by_minus (n : Kn K mg) {fd : FuncData} (F : FnL K d__law_by_minus fd) : FnOk P w K mg base (L2.CX P w) 2 (d__law_by_minus.ad K) fd ["turns", "h", "k"] (spF K 3 p__law_by_minus) :=
  fn_mk2 F sc__law_by_minus rfl rfl fun cdv A outer s H E hr0 => by
    have nd := (sc__law_by_minus).nd
    exact ⟨_, (s_cons (s_set 3 nd q_int) (s_cons (s_for (passes_of rfl) (i_list (q_fz (l_sl (q_var 0) (o_some q_int) o_no))) (g_name 4 nd) (s_one (s_set 3 nd (q_sub (q_add (q_var 3) q_int) (q_var 4))))) (s_cons (s_asg (q_call (takes_of rfl rfl rfl rfl) (g__law_bottoms n) (hr0.mono (by decide)) (a_cons (q_var 0) (a_cons (q_neg q_int) a_nil))) (g_tup (g_cons (g_name 5 nd) (g_cons (g_name 6 nd) g_nil)))) (s_one (s_ret (q_sub (q_add (q_sub (q_mul (q_var 2) (q_var 3)) (q_mul (q_ixL (q_var 0) q_int) (q_var 2))) (q_var 1)) (q_var 5)))))))⟩
theorem g__law_by_minus (n : Kn K mg) : GFn P w K mg base "_law_by_minus" 2 3 p__law_by_minus [] [] := by
  obtain ⟨fd, F⟩ := n.F__law_by_minus
  exact ⟨⟨_, fd, _, [], ok__law_by_minus n F, n.m__law_by_minus, F.kp, F.bindsN fun _ _ _ _ _ _ us hl => match us, hl with | [_, _, _], _ => rfl, .nil⟩, fun S => rfl, ary_run⟩
theorem ok__law_by_turns (n : Kn K mg) {fd : FuncData} (F : FnL K d__law_by_turns fd) : FnOk P w K mg base (L2.CX P w) 2 (d__law_by_turns.ad K) fd ["turns", "h", "k"] (spF K 3 p__law_by_turns) :=
  fn_mk2 F sc__law_by_turns rfl rfl fun cdv A outer s H E hr0 => by
    have nd := (sc__law_by_turns).nd
    exact ⟨_, (s_cons (s_set 3 nd (q_sub (q_len n.b_len (a_cons (q_var 0) a_nil)) q_int)) (s_cons (s_set 4 nd q_int) (s_cons (s_set 5 nd q_int) (s_cons (s_for (passes_of rfl) (i_list (q_fz (l_sl (q_var 0) (o_some q_int) o_no))) (g_name 6 nd) (s_cons (s_set 4 nd (q_add (q_var 4) (q_mul (q_var 5) (q_var 6)))) (s_one (s_set 5 nd (q_neg (q_var 5)))))) (s_cons (s_asg (q_call (takes_of rfl rfl rfl rfl) (g__law_bottoms n) (hr0.mono (by decide)) (a_cons (q_var 0) (a_cons q_int a_nil))) (g_tup (g_cons (g_name 7 nd) (g_cons (g_name 8 nd) g_nil)))) (s_cons (s_if (t_eqS (q_mod (q_var 3) q_int) q_int) (s_one (s_ret (q_add (q_sub (q_add (q_mul (q_var 2) (q_sub (q_var 4) q_int)) (q_var 1)) (q_mul (q_ixL (q_var 0) q_int) (q_var 2))) (q_var 7)))) s_nil) (s_one (s_ret (q_sub (q_sub (q_add (q_mul (q_var 2) (q_var 4)) (q_var 1)) (q_mul (q_ixL (q_var 0) q_int) (q_var 2))) (q_var 7))))))))))⟩
theorem g__law_by_turns (n : Kn K mg) : GFn P w K mg base "_law_by_turns" 2 3 p__law_by_turns [] [] := by
  obtain ⟨fd, F⟩ := n.F__law_by_turns
  exact ⟨⟨_, fd, _, [], ok__law_by_turns n F, n.m__law_by_turns, F.kp, F.bindsN fun _ _ _ _ _ _ us hl => match us, hl with | [_, _, _], _ => rfl, .nil⟩, fun S => rfl, ary_run⟩
theorem ok__law_ceilings (n : Kn K mg) {fd : FuncData} (F : FnL K d__law_ceilings fd) : FnOk P w K mg base (L2.CX P w) 1 (d__law_ceilings.ad K) fd ["p", "q"] (spF K 2 p__law_ceilings) :=
  fn_mk2 F sc__law_ceilings rfl rfl fun cdv A outer s H E hr0 => by
    have nd := (sc__law_ceilings).nd
    exact ⟨_, (s_cons (s_setL 2 nd (l_lst a_nil)) (s_cons (s_while (muI 1) (passes_of rfl) (t_gt (q_var 1) q_int) (s_cons (s_set 3 nd (q_neg (q_fdiv (q_neg (q_var 0)) (q_var 1)))) (s_cons (s_expr (q_append (q_var 2) (a_cons (q_var 3) a_nil))) (s_one (s_par 0 1 nd (q_var 1) (q_sub (q_mul (q_var 3) (q_var 1)) (q_var 0))))))) (s_one (s_ret (q_var 2)))))⟩
theorem g__law_ceilings (n : Kn K mg) : GFn P w K mg base "_law_ceilings" 1 2 p__law_ceilings [] [] := by
  obtain ⟨fd, F⟩ := n.F__law_ceilings
  exact ⟨⟨_, fd, _, [], ok__law_ceilings n F, n.m__law_ceilings, F.kp, F.bindsN fun _ _ _ _ _ _ us hl => match us, hl with | [_, _], _ => rfl, .nil⟩, fun S => rfl, ary_run⟩
theorem ok__law_defined (n : Kn K mg) {fd : FuncData} (F : FnL K d__law_defined fd) : FnOk P w K mg base (L2.CX P w) 1 (d__law_defined.ad K) fd ["h", "k"] (spF K 2 p__law_defined) :=
  fn_mk2 F sc__law_defined rfl rfl fun cdv A outer s H E hr0 => by
    have nd := (sc__law_defined).nd
    exact ⟨_, (s_cons (s_set 2 nd q_int) (s_cons (s_for (passes_of rfl) (i_rng2 n.b_range q_int (q_var 1)) (g_name 3 nd) (s_cons (s_set 4 nd (q_mod (q_mul (q_var 0) (q_var 3)) (q_var 1))) (s_one (s_if (t_neS (q_var 4) q_int) (s_one (s_set 2 nd (q_add (q_var 2) (q_mul (q_sub (q_mul q_int (q_var 3)) (q_var 1)) (q_sub (q_mul q_int (q_var 4)) (q_var 1)))))) s_nil)))) (s_one (s_ret (q_var 2)))))⟩
theorem g__law_defined (n : Kn K mg) : GFn P w K mg base "_law_defined" 1 2 p__law_defined [] [] := by
  obtain ⟨fd, F⟩ := n.F__law_defined
  exact ⟨⟨_, fd, _, [], ok__law_defined n F, n.m__law_defined, F.kp, F.bindsN fun _ _ _ _ _ _ us hl => match us, hl with | [_, _], _ => rfl, .nil⟩, fun S => rfl, ary_run⟩
theorem ok__law_floors (n : Kn K mg) {fd : FuncData} (F : FnL K d__law_floors fd) : FnOk P w K mg base (L2.CX P w) 1 (d__law_floors.ad K) fd ["p", "q"] (spF K 2 p__law_floors) :=
  fn_mk2 F sc__law_floors rfl rfl fun cdv A outer s H E hr0 => by
    have nd := (sc__law_floors).nd
    exact ⟨_, (s_cons (s_setL 2 nd (l_lst a_nil)) (s_cons (s_while (muI 1) (passes_of rfl) (t_gt (q_var 1) q_int) (s_cons (s_expr (q_append (q_var 2) (a_cons (q_fdiv (q_var 0) (q_var 1)) a_nil))) (s_one (s_par 0 1 nd (q_var 1) (q_mod (q_var 0) (q_var 1)))))) (s_one (s_ret (q_var 2)))))⟩
theorem g__law_floors (n : Kn K mg) : GFn P w K mg base "_law_floors" 1 2 p__law_floors [] [] := by
  obtain ⟨fd, F⟩ := n.F__law_floors
  exact ⟨⟨_, fd, _, [], ok__law_floors n F, n.m__law_floors, F.kp, F.bindsN fun _ _ _ _ _ _ us hl => match us, hl with | [_, _], _ => rfl, .nil⟩, fun S => rfl, ary_run⟩
theorem ok__law_whole (n : Kn K mg) {fd : FuncData} (F : FnL K d__law_whole fd) : FnOk P w K mg base (L2.CX P w) 1 (d__law_whole.ad K) fd ["x"] (spF K 1 p__law_whole) :=
  fn_mk2 F sc__law_whole rfl rfl fun cdv A outer s H E hr0 => by
    have nd := (sc__law_whole).nd
    exact ⟨_, (s_one (s_ret (q_and (q_isiB n.b_isinstance n.b_int (T := "int") rfl n.is_int (q_var 0)) (q_one (q_not (q_isiB n.b_isinstance n.b_bool (T := "bool") rfl n.is_bool (q_var 0)))))))⟩
theorem g__law_whole (n : Kn K mg) : GFn P w K mg base "_law_whole" 1 1 p__law_whole [] [] := by
  obtain ⟨fd, F⟩ := n.F__law_whole
  exact ⟨⟨_, fd, _, [], ok__law_whole n F, n.m__law_whole, F.kp, F.bindsN fun _ _ _ _ _ _ us hl => match us, hl with | [_], _ => rfl, .nil⟩, fun S => rfl, ary_run⟩
theorem ok__law_is_frac (n : Kn K mg) {fd : FuncData} (F : FnL K d__law_is_frac fd) : FnOk P w K mg base (L2.CX P w) 2 (d__law_is_frac.ad K) fd ["x", "p", "q"] (spF K 3 p__law_is_frac) :=
  fn_mk2 F sc__law_is_frac rfl rfl fun cdv A outer s H E hr0 => by
    have nd := (sc__law_is_frac).nd
    exact ⟨_, (s_cons (s_if (t_not (t_val (q_isiO n.b_isinstance n.m_Frac n.is_Frac (q_var 0)))) (s_one (s_ret q_bl)) s_nil) (s_cons (s_if ((w_or (t_not (t_val (q_call (takes_of rfl rfl rfl rfl) (g__law_whole n) (hr0.mono (by decide)) (a_cons (q_fld (n.fl_Frac_top) (q_var 0)) a_nil)))) (w_or1 (t_not (t_val (q_call (takes_of rfl rfl rfl rfl) (g__law_whole n) (hr0.mono (by decide)) (a_cons (q_fld (n.fl_Frac_bottom) (q_var 0)) a_nil))))))).qt (s_one (s_ret q_bl)) s_nil) (s_one (s_ret (q_and (q_eqS (q_fld (n.fl_Frac_top) (q_var 0)) (q_var 1)) (q_one (q_eqS (q_fld (n.fl_Frac_bottom) (q_var 0)) (q_var 2))))))))⟩
theorem g__law_is_frac (n : Kn K mg) : GFn P w K mg base "_law_is_frac" 2 3 p__law_is_frac [] [] := by
  obtain ⟨fd, F⟩ := n.F__law_is_frac
  exact ⟨⟨_, fd, _, [], ok__law_is_frac n F, n.m__law_is_frac, F.kp, F.bindsN fun _ _ _ _ _ _ us hl => match us, hl with | [_, _, _], _ => rfl, .nil⟩, fun S => rfl, ary_run⟩
theorem ok_sign_of (n : Kn K mg) {fd : FuncData} (F : FnL K d_sign_of fd) : FnOk P w K mg base (L2.CX P w) 1 (d_sign_of.ad K) fd ["number"] (spF K 1 p_sign_of) :=
  fn_mk2 F sc_sign_of rfl rfl fun cdv A outer s H E hr0 => by
    have nd := (sc_sign_of).nd
    exact ⟨_, (s_cons (s_if (t_eqS (q_var 0) q_int) (s_one (s_ret q_int)) s_nil) (s_one (s_ret (q_if (t_gt (q_var 0) q_int) q_int (q_neg q_int)))))⟩
theorem g_sign_of (n : Kn K mg) : GFn P w K mg base "sign_of" 1 1 p_sign_of [] [] := by
  obtain ⟨fd, F⟩ := n.F_sign_of
  exact ⟨⟨_, fd, _, [], ok_sign_of n F, n.m_sign_of, F.kp, F.bindsN fun _ _ _ _ _ _ us hl => match us, hl with | [_], _ => rfl, .nil⟩, fun S => rfl, ary_run⟩
theorem ok_Frac_init (n : Kn K mg) {fd : FuncData} (F : FnL K d_Frac_init fd) : FnOk P w K mg base (L2.CX P w) 2 (d_Frac_init.ad K) fd ["self", "top", "bottom"] (spI K "Frac" 2 p_Frac_init) :=
  ini_mk2 F sc_Frac_init rfl rfl fun cdv A outer s H E hr0 => by
    have nd := (sc_Frac_init).nd
    exact ⟨_, (s_cons (s_if (t_eqS (q_var 2) q_int) s_neverS s_nil) (s_cons (s_set 3 nd (q_mul (q_gcd n.b_gcd (a_cons (q_var 1) (a_cons (q_var 2) a_nil))) (q_call (takes_of rfl rfl rfl rfl) (g_sign_of n) (hr0.mono (by decide)) (a_cons (q_var 2) a_nil)))) (s_cons (s_fld n.fl_Frac_top (q_var 0) (q_fdiv (q_var 1) (q_var 3))) (s_one (s_fld n.fl_Frac_bottom (q_var 0) (q_fdiv (q_var 2) (q_var 3)))))))⟩
theorem g_Frac_0 (n : Kn K mg) : GCl P w K mg base "Frac" 2 2 p_Frac_init [] [] := by
  obtain ⟨fd, F⟩ := n.F_Frac_init
  obtain ⟨ds, h1, h2⟩ := F.binds1 (ps := ["self", "top", "bottom"]) 3 1 (List.cons_ne_nil _ _) rfl fun T kV doc pm an cdv ct us its hu hi => match us, its, hu, hi with | [u0, u1, u2], [v0], _, _ => ⟨_, rfl, rfl⟩
  exact ⟨⟨_, fd, _, ds, ok_Frac_init n F, n.k_Frac, n.m_Frac, h2, h1⟩, fun S => rfl, ary_ini⟩
theorem ok_MinusRow_turn (n : Kn K mg) {fd : FuncData} (F : FnL K d_MinusRow_turn fd) : FnOk P w K mg base (L2.CX P w) 1 (d_MinusRow_turn.ad K) fd ["self", "place"] (spF K 2 p_MinusRow_turn) :=
  fn_mk2 F sc_MinusRow_turn rfl rfl fun cdv A outer s H E hr0 => by
    have nd := (sc_MinusRow_turn).nd
    exact ⟨_, (s_cons (s_if (t_lt (q_var 1) q_int) s_neverS s_nil) (s_cons (s_if (t_lt (q_var 1) (q_len n.b_len (a_cons (q_fld (n.fl_MinusRow_head) (q_var 0)) a_nil))) (s_one (s_ret (q_ixT (q_fld (n.fl_MinusRow_head) (q_var 0)) (q_var 1)))) s_nil) (s_cons (s_if (t_eqS (q_len n.b_len (a_cons (q_fld (n.fl_MinusRow_loop) (q_var 0)) a_nil)) q_int) s_neverS s_nil) (s_one (s_ret (q_ixT (q_fld (n.fl_MinusRow_loop) (q_var 0)) (q_mod (q_sub (q_var 1) (q_len n.b_len (a_cons (q_fld (n.fl_MinusRow_head) (q_var 0)) a_nil))) (q_len n.b_len (a_cons (q_fld (n.fl_MinusRow_loop) (q_var 0)) a_nil)))))))))⟩
theorem g_MinusRow_turn (n : Kn K mg) : GMe P w K mg base "MinusRow" "turn" 1 2 p_MinusRow_turn [] [] := by
  obtain ⟨fd, F⟩ := n.F_MinusRow_turn
  exact ⟨⟨_, fd, _, [], ok_MinusRow_turn n F, n.c_MinusRow, n.me_MinusRow_turn, F.bindsN fun _ _ _ _ _ _ us hl => match us, hl with | [_, _], _ => rfl, .nil⟩, fun S => rfl, ary_run⟩
theorem ok_MinusRow_convergent (n : Kn K mg) {fd : FuncData} (F : FnL K d_MinusRow_convergent fd) : FnOk P w K mg base (L2.CX P w) 4 (d_MinusRow_convergent.ad K) fd ["self", "place"] (spF K 2 p_MinusRow_convergent) :=
  fn_mk2 F sc_MinusRow_convergent rfl rfl fun cdv A outer s H E hr0 => by
    have nd := (sc_MinusRow_convergent).nd
    exact ⟨_, (s_cons (s_expr (q_meth (takes_of rfl rfl rfl rfl) (g_MinusRow_turn n) (hr0.mono (by decide)) (q_var 0) (a_cons (q_var 1) a_nil))) (s_cons (s_if (t_gt (q_var 1) (q_gint n.i_LAST_CONVERGENT)) s_neverS s_nil) (s_cons (s_par 3 4 nd (q_ixT (q_fld (n.fl_MinusRow_head) (q_var 0)) q_int) q_int) (s_cons (s_asg (q_tup (a_cons q_int (a_cons q_int a_nil))) (g_tup (g_cons (g_name 5 nd) (g_cons (g_name 6 nd) g_nil)))) (s_cons (s_for (passes_of rfl) (i_rng2 n.b_range q_int (q_add (q_var 1) q_int)) (g_name 2 nd) (s_cons (s_set 7 nd (q_meth (takes_of rfl rfl rfl rfl) (g_MinusRow_turn n) (hr0.mono (by decide)) (q_var 0) (a_cons (q_var 2) a_nil))) (s_cons (s_par 3 5 nd (q_sub (q_mul (q_var 7) (q_var 3)) (q_var 5)) (q_var 3)) (s_one (s_par 4 6 nd (q_sub (q_mul (q_var 7) (q_var 4)) (q_var 6)) (q_var 4)))))) (s_one (s_ret (q_make (takes_of rfl rfl rfl rfl) (g_Frac_0 n) (hr0.mono (by decide)) (a_cons (q_var 3) (a_cons (q_var 4) a_nil))))))))))⟩
theorem g_MinusRow_convergent (n : Kn K mg) : GMe P w K mg base "MinusRow" "convergent" 4 2 p_MinusRow_convergent [] [] := by
  obtain ⟨fd, F⟩ := n.F_MinusRow_convergent
  exact ⟨⟨_, fd, _, [], ok_MinusRow_convergent n F, n.c_MinusRow, n.me_MinusRow_convergent, F.bindsN fun _ _ _ _ _ _ us hl => match us, hl with | [_, _], _ => rfl, .nil⟩, fun S => rfl, ary_run⟩
theorem ok_unrolled (n : Kn K mg) {fd : FuncData} (F : FnL K d_unrolled fd) : FnOk P w K mg base (L2.CX P w) 1 (d_unrolled.ad K) fd ["head", "loop", "many"] (spF K 3 p_unrolled) :=
  fn_mk2 F sc_unrolled rfl rfl fun cdv A outer s H E hr0 => by
    have nd := (sc_unrolled).nd
    exact ⟨_, (s_cons (s_if (t_eqS (q_len n.b_len (a_cons (q_var 1) a_nil)) q_int) (s_one (s_ret (q_tup (a_cons (q_tuple n.b_tuple (a_cons (q_var 0) a_nil)) (a_cons (q_tup a_nil) a_nil))))) s_nil) (s_cons (s_set 3 nd (q_max2 n.b_max (a_cons (q_sub (q_var 2) (q_len n.b_len (a_cons (q_var 0) a_nil))) (a_cons q_int a_nil)))) s_neverS))⟩
theorem g_unrolled (n : Kn K mg) : GFn P w K mg base "unrolled" 1 3 p_unrolled [] [] := by
  obtain ⟨fd, F⟩ := n.F_unrolled
  exact ⟨⟨_, fd, _, [], ok_unrolled n F, n.m_unrolled, F.kp, F.bindsN fun _ _ _ _ _ _ us hl => match us, hl with | [_, _, _], _ => rfl, .nil⟩, fun S => rfl, ary_run⟩
theorem ok_Row_turns (n : Kn K mg) {fd : FuncData} (F : FnL K d_Row_turns fd) : FnOk P w K mg base (L2.CX P w) 2 (d_Row_turns.ad K) fd ["self", "many"] (spF K 2 p_Row_turns) :=
  fn_mk2 F sc_Row_turns rfl rfl fun cdv A outer s H E hr0 => by
    have nd := (sc_Row_turns).nd
    exact ⟨_, (s_cons (s_if ((w_or (t_lt (q_var 1) q_int) (w_or1 (t_gt (q_var 1) (q_gint n.i_MOST_TURNS))))).qt s_neverS s_nil) (s_cons (s_asg (q_call (takes_of rfl rfl rfl rfl) (g_unrolled n) (hr0.mono (by decide)) (a_cons (q_fld (n.fl_Row_head) (q_var 0)) (a_cons (q_fld (n.fl_Row_loop) (q_var 0)) (a_cons (q_var 1) a_nil)))) (g_tup (g_cons (g_name 2 nd) (g_cons (g_name 3 nd) g_nil)))) (s_one (s_retL (l_list n.b_list (a_cons (q_slT (q_var 2) o_no (o_some (q_var 1))) a_nil))))))⟩
theorem g_Row_turns (n : Kn K mg) : GMe P w K mg base "Row" "turns" 2 2 p_Row_turns [] [] := by
  obtain ⟨fd, F⟩ := n.F_Row_turns
  exact ⟨⟨_, fd, _, [], ok_Row_turns n F, n.c_Row, n.me_Row_turns, F.bindsN fun _ _ _ _ _ _ us hl => match us, hl with | [_, _], _ => rfl, .nil⟩, fun S => rfl, ary_run⟩
theorem ok_Table_init (n : Kn K mg) {fd : FuncData} (F : FnL K d_Table_init fd) : FnOk P w K mg base (L2.CX P w) 1 (d_Table_init.ad K) fd ["self", "a", "b", "c", "d"] (spI K "Table" 4 p_Table_init) :=
  ini_mk2 F sc_Table_init rfl rfl fun cdv A outer s H E hr0 => by
    have nd := (sc_Table_init).nd
    exact ⟨_, (s_cons (s_fld n.fl_Table_a (q_var 0) (q_var 1)) (s_cons (s_fld n.fl_Table_b (q_var 0) (q_var 2)) (s_cons (s_fld n.fl_Table_c (q_var 0) (q_var 3)) (s_one (s_fld n.fl_Table_d (q_var 0) (q_var 4))))))⟩
theorem g_Table_0 (n : Kn K mg) : GCl P w K mg base "Table" 1 4 p_Table_init [] [] := by
  obtain ⟨fd, F⟩ := n.F_Table_init
  exact ⟨⟨_, fd, _, [], ok_Table_init n F, n.k_Table, n.m_Table, F.bindsN fun _ _ _ _ _ _ us hl => match us, hl with | [_, _, _, _, _], _ => rfl, .nil⟩, fun S => rfl, ary_ini⟩
theorem ok_turns_table (n : Kn K mg) {fd : FuncData} (F : FnL K d_turns_table fd) : FnOk P w K mg base (L2.CX P w) 3 (d_turns_table.ad K) fd ["turns"] (spF K 1 p_turns_table) :=
  fn_mk2 F sc_turns_table rfl rfl fun cdv A outer s H E hr0 => by
    have nd := (sc_turns_table).nd
    exact ⟨_, (s_cons (s_asg (q_tup (a_cons q_int (a_cons q_int (a_cons q_int (a_cons q_int a_nil))))) (g_tup (g_cons (g_name 2 nd) (g_cons (g_name 3 nd) (g_cons (g_name 4 nd) (g_cons (g_name 5 nd) g_nil)))))) (s_cons (s_for (passes_of rfl) (i_any (q_var 0)) (g_name 1 nd) (s_cons (s_par 2 3 nd (q_add (q_mul (q_var 2) (q_var 1)) (q_var 3)) (q_var 2)) (s_one (s_par 4 5 nd (q_add (q_mul (q_var 4) (q_var 1)) (q_var 5)) (q_var 4))))) (s_one (s_ret (q_make (takes_of rfl rfl rfl rfl) (g_Table_0 n) (hr0.mono (by decide)) (a_cons (q_var 2) (a_cons (q_var 3) (a_cons (q_var 4) (a_cons (q_var 5) a_nil)))))))))⟩
theorem g_turns_table (n : Kn K mg) : GFn P w K mg base "turns_table" 3 1 p_turns_table [] [] := by
  obtain ⟨fd, F⟩ := n.F_turns_table
  exact ⟨⟨_, fd, _, [], ok_turns_table n F, n.m_turns_table, F.kp, F.bindsN fun _ _ _ _ _ _ us hl => match us, hl with | [_], _ => rfl, .nil⟩, fun S => rfl, ary_run⟩
theorem ok_Row_table (n : Kn K mg) {fd : FuncData} (F : FnL K d_Row_table fd) : FnOk P w K mg base (L2.CX P w) 4 (d_Row_table.ad K) fd ["self", "many"] (spF K 2 p_Row_table) :=
  fn_mk2 F sc_Row_table rfl rfl fun cdv A outer s H E hr0 => by
    have nd := (sc_Row_table).nd
    exact ⟨_, (s_cons (s_if ((w_or (t_lt (q_var 1) q_int) (w_or1 (t_gt (q_var 1) (q_gint n.i_MOST_TURNS))))).qt s_neverS s_nil) (s_cons (s_set 2 nd (q_meth (takes_of rfl rfl rfl rfl) (g_Row_turns n) (hr0.mono (by decide)) (q_var 0) (a_cons (q_var 1) a_nil))) (s_cons (s_if (t_lt (q_len n.b_len (a_cons (q_var 2) a_nil)) (q_var 1)) s_neverS s_nil) (s_one (s_ret (q_call (takes_of rfl rfl rfl rfl) (g_turns_table n) (hr0.mono (by decide)) (a_cons (q_var 2) a_nil)))))))⟩
theorem g_Row_table (n : Kn K mg) : GMe P w K mg base "Row" "table" 4 2 p_Row_table [] [] := by
  obtain ⟨fd, F⟩ := n.F_Row_table
  exact ⟨⟨_, fd, _, [], ok_Row_table n F, n.c_Row, n.me_Row_table, F.bindsN fun _ _ _ _ _ _ us hl => match us, hl with | [_, _], _ => rfl, .nil⟩, fun S => rfl, ary_run⟩
theorem ok_turn_in (n : Kn K mg) {fd : FuncData} (F : FnL K d_turn_in fd) : FnOk P w K mg base (L2.CX P w) 1 (d_turn_in.ad K) fd ["head", "loop", "place"] (spF K 3 p_turn_in) :=
  fn_mk2 F sc_turn_in rfl rfl fun cdv A outer s H E hr0 => by
    have nd := (sc_turn_in).nd
    exact ⟨_, (s_cons (s_if (t_lt (q_var 2) q_int) (s_one (s_ret q_non)) s_nil) (s_cons (s_if (t_lt (q_var 2) (q_len n.b_len (a_cons (q_var 0) a_nil))) (s_one (s_ret (q_ixT (q_var 0) (q_var 2)))) s_nil) (s_cons (s_if (t_eqS (q_len n.b_len (a_cons (q_var 1) a_nil)) q_int) (s_one (s_ret q_non)) s_nil) s_neverS)))⟩
theorem g_turn_in (n : Kn K mg) : GFn P w K mg base "turn_in" 1 3 p_turn_in [] [] := by
  obtain ⟨fd, F⟩ := n.F_turn_in
  exact ⟨⟨_, fd, _, [], ok_turn_in n F, n.m_turn_in, F.kp, F.bindsN fun _ _ _ _ _ _ us hl => match us, hl with | [_, _, _], _ => rfl, .nil⟩, fun S => rfl, ary_run⟩
theorem ok_Row_turn (n : Kn K mg) {fd : FuncData} (F : FnL K d_Row_turn fd) : FnOk P w K mg base (L2.CX P w) 2 (d_Row_turn.ad K) fd ["self", "place"] (spF K 2 p_Row_turn) :=
  fn_mk2 F sc_Row_turn rfl rfl fun cdv A outer s H E hr0 => by
    have nd := (sc_Row_turn).nd
    exact ⟨_, (s_cons (s_if (t_lt (q_var 1) q_int) s_neverS s_nil) (s_cons (s_set 2 nd (q_call (takes_of rfl rfl rfl rfl) (g_turn_in n) (hr0.mono (by decide)) (a_cons (q_fld (n.fl_Row_head) (q_var 0)) (a_cons (q_fld (n.fl_Row_loop) (q_var 0)) (a_cons (q_var 1) a_nil))))) (s_cons (s_if (t_isN (q_var 2) q_non) s_neverS s_nil) (s_one (s_ret (q_var 2))))))⟩
theorem g_Row_turn (n : Kn K mg) : GMe P w K mg base "Row" "turn" 2 2 p_Row_turn [] [] := by
  obtain ⟨fd, F⟩ := n.F_Row_turn
  exact ⟨⟨_, fd, _, [], ok_Row_turn n F, n.c_Row, n.me_Row_turn, F.bindsN fun _ _ _ _ _ _ us hl => match us, hl with | [_, _], _ => rfl, .nil⟩, fun S => rfl, ary_run⟩
theorem ok_Row_convergent (n : Kn K mg) {fd : FuncData} (F : FnL K d_Row_convergent fd) : FnOk P w K mg base (L2.CX P w) 5 (d_Row_convergent.ad K) fd ["self", "place"] (spF K 2 p_Row_convergent) :=
  fn_mk2 F sc_Row_convergent rfl rfl fun cdv A outer s H E hr0 => by
    have nd := (sc_Row_convergent).nd
    exact ⟨_, (s_cons (s_expr (q_meth (takes_of rfl rfl rfl rfl) (g_Row_turn n) (hr0.mono (by decide)) (q_var 0) (a_cons (q_var 1) a_nil))) (s_cons (s_if (t_ge (q_var 1) (q_gint n.i_MOST_TURNS)) s_neverS s_nil) (s_cons (s_set 2 nd (q_meth (takes_of rfl rfl rfl rfl) (g_Row_table n) (hr0.mono (by decide)) (q_var 0) (a_cons (q_add (q_var 1) q_int) a_nil))) (s_one (s_ret (q_make (takes_of rfl rfl rfl rfl) (g_Frac_0 n) (hr0.mono (by decide)) (a_cons (q_fld (n.fl_Table_a) (q_var 2)) (a_cons (q_fld (n.fl_Table_c) (q_var 2)) a_nil))))))))⟩
theorem g_Row_convergent (n : Kn K mg) : GMe P w K mg base "Row" "convergent" 5 2 p_Row_convergent [] [] := by
  obtain ⟨fd, F⟩ := n.F_Row_convergent
  exact ⟨⟨_, fd, _, [], ok_Row_convergent n F, n.c_Row, n.me_Row_convergent, F.bindsN fun _ _ _ _ _ _ us hl => match us, hl with | [_, _], _ => rfl, .nil⟩, fun S => rfl, ary_run⟩
theorem ok_Row_frac (n : Kn K mg) {fd : FuncData} (F : FnL K d_Row_frac fd) : FnOk P w K mg base (L2.CX P w) 4 (d_Row_frac.ad K) fd ["self"] (spF K 1 p_Row_frac) :=
  fn_mk2 F sc_Row_frac rfl rfl fun cdv A outer s H E hr0 => by
    have nd := (sc_Row_frac).nd
    exact ⟨_, (s_cons (s_if (t_gt (q_len n.b_len (a_cons (q_fld (n.fl_Row_loop) (q_var 0)) a_nil)) q_int) s_neverS s_nil) (s_cons (s_set 1 nd (q_call (takes_of rfl rfl rfl rfl) (g_turns_table n) (hr0.mono (by decide)) (a_cons (q_fld (n.fl_Row_head) (q_var 0)) a_nil))) (s_one (s_ret (q_make (takes_of rfl rfl rfl rfl) (g_Frac_0 n) (hr0.mono (by decide)) (a_cons (q_fld (n.fl_Table_a) (q_var 1)) (a_cons (q_fld (n.fl_Table_c) (q_var 1)) a_nil)))))))⟩
theorem g_Row_frac (n : Kn K mg) : GMe P w K mg base "Row" "frac" 4 1 p_Row_frac [] [] := by
  obtain ⟨fd, F⟩ := n.F_Row_frac
  exact ⟨⟨_, fd, _, [], ok_Row_frac n F, n.c_Row, n.me_Row_frac, F.bindsN fun _ _ _ _ _ _ us hl => match us, hl with | [_], _ => rfl, .nil⟩, fun S => rfl, ary_run⟩
theorem ok_kind_of (n : Kn K mg) {fd : FuncData} (F : FnL K d_kind_of fd) : FnOk P w K mg base (L2.CX P w) 1 (d_kind_of.ad K) fd ["loop"] (spF K 1 p_kind_of) :=
  fn_mk2 F sc_kind_of rfl rfl fun cdv A outer s H E hr0 => by
    have nd := (sc_kind_of).nd
    exact ⟨_, (s_cons (s_if (t_eqS (q_len n.b_len (a_cons (q_var 0) a_nil)) q_int) (s_one (s_ret q_str)) s_nil) (s_cons (s_for (passes_of rfl) (i_tup (q_var 0)) (g_tup (g_cons (g_name 1 nd) (g_cons (g_name 2 nd) g_nil))) (s_one (s_if (t_gt (q_var 2) q_int) (s_one (s_ret q_str)) s_nil))) (s_one (s_ret q_str))))⟩
theorem g_kind_of (n : Kn K mg) : GFn P w K mg base "kind_of" 1 1 p_kind_of [] [] := by
  obtain ⟨fd, F⟩ := n.F_kind_of
  exact ⟨⟨_, fd, _, [], ok_kind_of n F, n.m_kind_of, F.kp, F.bindsN fun _ _ _ _ _ _ us hl => match us, hl with | [_], _ => rfl, .nil⟩, fun S => rfl, ary_run⟩
theorem ok_one_form (n : Kn K mg) {fd : FuncData} (F : FnL K d_one_form fd) : FnOk P w K mg base (L2.CX P w) 1 (d_one_form.ad K) fd ["head", "loop"] (spF K 2 p_one_form) :=
  fn_mk2 F sc_one_form rfl rfl fun cdv A outer s H E hr0 => by
    have nd := (sc_one_form).nd
    exact ⟨_, (s_cons (s_if (t_eqS (q_len n.b_len (a_cons (q_var 1) a_nil)) q_int) (s_cons (s_if ((w_and (t_gt (q_len n.b_len (a_cons (q_var 0) a_nil)) q_int) (w_and1 (t_eqS (q_ixL (q_var 0) (q_neg q_int)) q_int)))).qt (s_one (s_ret (q_tup (a_cons (q_catT (q_tuple n.b_tuple (a_cons (q_fz (l_sl (q_var 0) o_no (o_some (q_neg q_int)))) a_nil)) (q_tup (a_cons (q_add (q_ixL (q_var 0) (q_neg q_int)) q_int) a_nil))) (a_cons (q_tup a_nil) a_nil))))) s_nil) (s_one (s_ret (q_tup (a_cons (q_tuple n.b_tuple (a_cons (q_var 0) a_nil)) (a_cons (q_tup a_nil) a_nil)))))) s_nil) s_neverS)⟩
theorem g_one_form (n : Kn K mg) : GFn P w K mg base "one_form" 1 2 p_one_form [] [] := by
  obtain ⟨fd, F⟩ := n.F_one_form
  exact ⟨⟨_, fd, _, [], ok_one_form n F, n.m_one_form, F.kp, F.bindsN fun _ _ _ _ _ _ us hl => match us, hl with | [_, _], _ => rfl, .nil⟩, fun S => rfl, ary_run⟩
theorem ok_Row_init (n : Kn K mg) {fd : FuncData} (F : FnL K d_Row_init fd) : FnOk P w K mg base (L2.CX P w) 2 (d_Row_init.ad K) fd ["self", "head", "loop"] (spI K "Row" 2 p_Row_init) :=
  ini_mk2 F sc_Row_init rfl rfl fun cdv A outer s H E hr0 => by
    have nd := (sc_Row_init).nd
    exact ⟨_, (s_cons (s_if (t_eqS (q_len n.b_len (a_cons (q_var 1) a_nil)) q_int) s_neverS s_nil) (s_cons (s_for (passes_of rfl) (i_rng2 n.b_range q_int (q_len n.b_len (a_cons (q_var 1) a_nil))) (g_name 3 nd) (s_one (s_if (t_lt (q_ixL (q_var 1) (q_var 3)) q_int) s_neverS s_nil))) (s_cons (s_for (passes_of rfl) (i_rng1 n.b_range (q_len n.b_len (a_cons (q_var 2) a_nil))) (g_name 3 nd) (s_cons (s_asg (q_ixT (q_var 2) (q_var 3)) (g_tup (g_cons (g_name 5 nd) (g_cons (g_name 6 nd) g_nil)))) (s_one (s_if ((w_or (t_lt (q_var 5) q_int) (w_or1 (t_lt (q_var 6) q_int)))).qt s_neverS s_nil)))) (s_cons (s_setLcF 4 nd (i_tup (q_var 2)) (own := [("start", 5), ("step", 6)]) (show BlkOk ["self", "head", "loop", "place", "pairs", "start", "step"] (defScope s_Row_init) _ _ from blkOk_by (by decide +kernel)) (keep_tup (keep_cons mon_name (keep_name (by decide)) (keep_cons mon_name (keep_name (by decide)) keep_nil))) (fun _ _ _ _ _ => (g_tup (g_cons (g_name 5 nd) (g_cons (g_name 6 nd) g_nil)))) (fun _ _ _ _ _ => pts_nil) simT_yes (fun _ _ _ _ _ => (q_tup (a_cons (q_var 5) (a_cons (q_var 6) a_nil))))) (s_cons (s_asg (q_call (takes_of rfl rfl rfl rfl) (g_one_form n) (hr0.mono (by decide)) (a_cons (q_fz (l_list n.b_list (a_cons (q_var 1) a_nil))) (a_cons (q_var 4) a_nil))) (g_tup (g_cons (g_fld (W := W0) n.fl_Row_head (q_var 0)) (g_cons (g_fld (W := W0) n.fl_Row_loop (q_var 0)) g_nil)))) (s_one (s_fld n.fl_Row_kind (q_var 0) (q_call (takes_of rfl rfl rfl rfl) (g_kind_of n) (hr0.mono (by decide)) (a_cons (q_fld (n.fl_Row_loop) (q_var 0)) a_nil)))))))))⟩
theorem g_Row_1 (n : Kn K mg) : GCl P w K mg base "Row" 2 2 p_Row_init [V.ref (He.dflAt ("Row", some "__init__") 0 K)] [.tup []] := by
  obtain ⟨fd, F⟩ := n.F_Row_init
  obtain ⟨ds, h1, h2⟩ := F.binds1 (ps := ["self", "head", "loop"]) 2 0 (List.cons_ne_nil _ _) rfl fun T kV doc pm an cdv ct us its hu hi => match us, its, hu, hi with | [u0, u1], [v0], _, _ => ⟨_, rfl, rfl⟩
  exact ⟨⟨_, fd, _, ds, ok_Row_init n F, n.k_Row, n.m_Row, h2, h1⟩, fun S => ⟨_, _, rfl, empty_ok n.e_Row_init_0 S, rfl⟩, ary_ini⟩
theorem ok_Row_of (n : Kn K mg) {fd : FuncData} (F : FnL K d_Row_of fd) : FnOk P w K mg base (L2.CX P w) 4 (d_Row_of.ad K) fd ["frac"] (spF K 1 p_Row_of) :=
  fn_mk2 F sc_Row_of rfl rfl fun cdv A outer s H E hr0 => by
    have nd := (sc_Row_of).nd
    exact ⟨_, (s_cons (s_setL 1 nd (l_lst a_nil)) (s_cons (s_par 2 3 nd (q_fld (n.fl_Frac_top) (q_var 0)) (q_fld (n.fl_Frac_bottom) (q_var 0))) (s_cons (s_while (muI 3) (passes_of rfl) (t_gt (q_var 3) q_int) (s_cons (s_set 4 nd (q_fdiv (q_var 2) (q_var 3))) (s_cons (s_expr (q_append (q_var 1) (a_cons (q_var 4) a_nil))) (s_one (s_par 2 3 nd (q_var 3) (q_sub (q_var 2) (q_mul (q_var 4) (q_var 3)))))))) (s_one (s_ret (q_make (takes_of rfl rfl rfl rfl) (g_Row_1 n) (hr0.mono (by decide)) (a_cons (q_fix 1) a_nil)))))))⟩
theorem g_Row_of (n : Kn K mg) : GSt P w K mg base "Row" "of" 4 1 p_Row_of [] [] := by
  obtain ⟨fd, F⟩ := n.F_Row_of
  exact ⟨⟨_, _, _, fd, _, [], ok_Row_of n F, n.st_Row_of, n.m_Row, F.bindsN fun _ _ _ _ _ _ us hl => match us, hl with | [_], _ => rfl, .nil⟩, fun S => rfl, ary_run⟩
theorem ok__law_are (n : Kn K mg) {fd : FuncData} (F : FnL K d__law_are fd) : FnOk P w K mg base (L2.CX P w) 2 (d__law_are.ad K) fd ["x", "turns"] (spF K 2 p__law_are) :=
  fn_mk2 F sc__law_are rfl rfl fun cdv A outer s H E hr0 => by
    have nd := (sc__law_are).nd
    exact ⟨_, (s_cons (s_if ((w_or (t_not (t_val (q_isiB n.b_isinstance n.b_tuple (T := "tuple") rfl n.is_tuple (q_var 0)))) (w_or1 (t_neS (q_len n.b_len (a_cons (q_var 0) a_nil)) (q_len n.b_len (a_cons (q_var 1) a_nil)))))).qt (s_one (s_ret q_bl)) s_nil) (s_cons (s_for (passes_of rfl) (i_tup (q_var 0)) (g_name 2 nd) (s_one (s_if (t_not (t_val (q_call (takes_of rfl rfl rfl rfl) (g__law_whole n) (hr0.mono (by decide)) (a_cons (q_var 2) a_nil)))) (s_one (s_ret q_bl)) s_nil))) (s_one (s_ret (q_eqD hr0.units (q_fz (l_list n.b_list (a_cons (q_var 0) a_nil))) (q_var 1))))))⟩
theorem g__law_are (n : Kn K mg) : GFn P w K mg base "_law_are" 2 2 p__law_are [] [] := by
  obtain ⟨fd, F⟩ := n.F__law_are
  exact ⟨⟨_, fd, _, [], ok__law_are n F, n.m__law_are, F.kp, F.bindsN fun _ _ _ _ _ _ us hl => match us, hl with | [_, _], _ => rfl, .nil⟩, fun S => rfl, ary_run⟩
theorem ok__law_is_below (n : Kn K mg) {fd : FuncData} (F : FnL K d__law_is_below fd) : FnOk P w K mg base (L2.CX P w) 2 (d__law_is_below.ad K) fd ["x", "q"] (spF K 2 p__law_is_below) :=
  fn_mk2 F sc__law_is_below rfl rfl fun cdv A outer s H E hr0 => by
    have nd := (sc__law_is_below).nd
    exact ⟨_, (s_one (s_ret (q_and (q_isiO n.b_isinstance n.m_Frac n.is_Frac (q_var 0)) (q_and (q_call (takes_of rfl rfl rfl rfl) (g__law_whole n) (hr0.mono (by decide)) (a_cons (q_fld (n.fl_Frac_bottom) (q_var 0)) a_nil)) (q_one (q_eqS (q_fld (n.fl_Frac_bottom) (q_var 0)) (q_var 1)))))))⟩
theorem g__law_is_below (n : Kn K mg) : GFn P w K mg base "_law_is_below" 2 2 p__law_is_below [] [] := by
  obtain ⟨fd, F⟩ := n.F__law_is_below
  exact ⟨⟨_, fd, _, [], ok__law_is_below n F, n.m__law_is_below, F.kp, F.bindsN fun _ _ _ _ _ _ us hl => match us, hl with | [_, _], _ => rfl, .nil⟩, fun S => rfl, ary_run⟩
theorem ok_short_form (n : Kn K mg) {fd : FuncData} (F : FnL K d_short_form fd) : FnOk P w K mg base (L2.CX P w) 1 (d_short_form.ad K) fd ["head", "loop"] (spF K 2 p_short_form) :=
  fn_mk2 F sc_short_form rfl rfl fun cdv A outer s H E hr0 => by
    have nd := (sc_short_form).nd
    exact ⟨_, (s_cons (s_if (t_eqS (q_len n.b_len (a_cons (q_var 1) a_nil)) q_int) (s_one (s_ret (q_tup (a_cons (q_tuple n.b_tuple (a_cons (q_var 0) a_nil)) (a_cons (q_tup a_nil) a_nil))))) s_nil) s_neverS)⟩
theorem g_short_form (n : Kn K mg) : GFn P w K mg base "short_form" 1 2 p_short_form [] [] := by
  obtain ⟨fd, F⟩ := n.F_short_form
  exact ⟨⟨_, fd, _, [], ok_short_form n F, n.m_short_form, F.kp, F.bindsN fun _ _ _ _ _ _ us hl => match us, hl with | [_, _], _ => rfl, .nil⟩, fun S => rfl, ary_run⟩
theorem ok_MinusRow_init (n : Kn K mg) {fd : FuncData} (F : FnL K d_MinusRow_init fd) : FnOk P w K mg base (L2.CX P w) 2 (d_MinusRow_init.ad K) fd ["self", "head", "loop"] (spI K "MinusRow" 2 p_MinusRow_init) :=
  ini_mk2 F sc_MinusRow_init rfl rfl fun cdv A outer s H E hr0 => by
    have nd := (sc_MinusRow_init).nd
    exact ⟨_, (s_cons (s_if (t_eqS (q_len n.b_len (a_cons (q_var 1) a_nil)) q_int) s_neverS s_nil) (s_cons (s_for (passes_of rfl) (i_rng2 n.b_range q_int (q_len n.b_len (a_cons (q_var 1) a_nil))) (g_name 3 nd) (s_one (s_if (t_lt (q_ixL (q_var 1) (q_var 3)) q_int) s_neverS s_nil))) (s_cons (s_for (passes_of rfl) (i_rng1 n.b_range (q_len n.b_len (a_cons (q_var 2) a_nil))) (g_name 3 nd) (s_one (s_if (t_lt (q_ixT (q_var 2) (q_var 3)) q_int) s_neverS s_nil))) (s_cons (s_if ((w_and (t_gt (q_len n.b_len (a_cons (q_var 2) a_nil)) q_int) (w_and1 (t_eqS (q_max1 n.b_max (a_cons (q_var 2) a_nil)) q_int)))).qt s_neverS s_nil) (s_one (s_asg (q_call (takes_of rfl rfl rfl rfl) (g_short_form n) (hr0.mono (by decide)) (a_cons (q_var 1) (a_cons (q_var 2) a_nil))) (g_tup (g_cons (g_fld (W := W0) n.fl_MinusRow_head (q_var 0)) (g_cons (g_fld (W := W0) n.fl_MinusRow_loop (q_var 0)) g_nil)))))))))⟩
theorem g_MinusRow_1 (n : Kn K mg) : GCl P w K mg base "MinusRow" 2 2 p_MinusRow_init [V.ref (He.dflAt ("MinusRow", some "__init__") 0 K)] [.tup []] := by
  obtain ⟨fd, F⟩ := n.F_MinusRow_init
  obtain ⟨ds, h1, h2⟩ := F.binds1 (ps := ["self", "head", "loop"]) 2 0 (List.cons_ne_nil _ _) rfl fun T kV doc pm an cdv ct us its hu hi => match us, its, hu, hi with | [u0, u1], [v0], _, _ => ⟨_, rfl, rfl⟩
  exact ⟨⟨_, fd, _, ds, ok_MinusRow_init n F, n.k_MinusRow, n.m_MinusRow, h2, h1⟩, fun S => ⟨_, _, rfl, empty_ok n.e_MinusRow_init_0 S, rfl⟩, ary_ini⟩
theorem ok__with_minus (n : Kn K mg) {fd : FuncData} (F : FnL K d__with_minus fd) : FnOk P w K mg base (L2.CX P w) 1 (d__with_minus.ad K) fd ["turns"] (spF K 1 p__with_minus) :=
  fn_mk2 F sc__with_minus rfl rfl fun cdv A outer s H E hr0 => by
    have nd := (sc__with_minus).nd
    exact ⟨_, (s_cons (s_setL 1 nd (l_lst a_nil)) (s_cons (s_for (passes_of rfl) (i_rng3 n.b_range (a_cons q_int (a_cons (q_len n.b_len (a_cons (q_var 0) a_nil)) (a_cons q_int a_nil)))) (g_name 2 nd) (s_cons (s_expr (q_extend (q_var 1) (a_cons (q_fz (l_rep (q_fz (l_lst (a_cons q_int a_nil))) (q_sub (q_ixL (q_var 0) (q_var 2)) q_int))) a_nil))) (s_one (s_expr (q_append (q_var 1) (a_cons (q_add (q_ixL (q_var 0) (q_add (q_var 2) q_int)) q_int) a_nil)))))) (s_one (s_ret (q_var 1)))))⟩
theorem g__with_minus (n : Kn K mg) : GFn P w K mg base "_with_minus" 1 1 p__with_minus [] [] := by
  obtain ⟨fd, F⟩ := n.F__with_minus
  exact ⟨⟨_, fd, _, [], ok__with_minus n F, n.m__with_minus, F.kp, F.bindsN fun _ _ _ _ _ _ us hl => match us, hl with | [_], _ => rfl, .nil⟩, fun S => rfl, ary_run⟩
theorem ok_ended_turns (n : Kn K mg) {fd : FuncData} (F : FnL K d_ended_turns fd) : FnOk P w K mg base (L2.CX P w) 1 (d_ended_turns.ad K) fd ["head", "odd"] (spF K 2 p_ended_turns) :=
  fn_mk2 F sc_ended_turns rfl rfl fun cdv A outer s H E hr0 => by
    have nd := (sc_ended_turns).nd
    exact ⟨_, (s_cons (s_setL 2 nd (l_list n.b_list (a_cons (q_var 0) a_nil))) (s_cons (s_set 3 nd (q_eqS (q_mod (q_len n.b_len (a_cons (q_var 2) a_nil)) q_int) q_int)) (s_cons (s_if (t_neS (q_var 3) (q_var 1)) (s_cons (s_sub (q_var 2) (q_neg q_int) (q_sub (q_ixL (q_var 2) (q_neg q_int)) q_int)) (s_one (s_expr (q_append (q_var 2) (a_cons q_int a_nil))))) s_nil) (s_one (s_ret (q_var 2))))))⟩
theorem g_ended_turns (n : Kn K mg) : GFn P w K mg base "ended_turns" 1 2 p_ended_turns [] [] := by
  obtain ⟨fd, F⟩ := n.F_ended_turns
  exact ⟨⟨_, fd, _, [], ok_ended_turns n F, n.m_ended_turns, F.kp, F.bindsN fun _ _ _ _ _ _ us hl => match us, hl with | [_, _], _ => rfl, .nil⟩, fun S => rfl, ary_run⟩
theorem ok__ended_minus (n : Kn K mg) {fd : FuncData} (F : FnL K d__ended_minus fd) : FnOk P w K mg base (L2.CX P w) 4 (d__ended_minus.ad K) fd ["head"] (spF K 1 p__ended_minus) :=
  fn_mk2 F sc__ended_minus rfl rfl fun cdv A outer s H E hr0 => by
    have nd := (sc__ended_minus).nd
    exact ⟨_, (s_cons (s_set 1 nd (q_call (takes_of rfl rfl rfl rfl) (g_ended_turns n) (hr0.mono (by decide)) (a_cons (q_var 0) (a_cons q_bl a_nil)))) (s_one (s_ret (q_make (takes_of rfl rfl rfl rfl) (g_MinusRow_1 n) (hr0.mono (by decide)) (a_cons (q_fz (l_cat (q_fz (l_cat (q_fz (l_lst (a_cons (q_add (q_ixL (q_var 1) q_int) q_int) a_nil))) (q_call (takes_of rfl rfl rfl rfl) (g__with_minus n) (hr0.mono (by decide)) (a_cons (q_fz (l_sl (q_var 1) (o_some q_int) (o_some (q_neg q_int)))) a_nil)))) (q_fz (l_rep (q_fz (l_lst (a_cons q_int a_nil))) (q_sub (q_ixL (q_var 1) (q_neg q_int)) q_int))))) a_nil)))))⟩
theorem g__ended_minus (n : Kn K mg) : GFn P w K mg base "_ended_minus" 4 1 p__ended_minus [] [] := by
  obtain ⟨fd, F⟩ := n.F__ended_minus
  exact ⟨⟨_, fd, _, [], ok__ended_minus n F, n.m__ended_minus, F.kp, F.bindsN fun _ _ _ _ _ _ us hl => match us, hl with | [_], _ => rfl, .nil⟩, fun S => rfl, ary_run⟩
theorem ok_look_at_work (n : Kn K mg) {fd : FuncData} (F : FnL K d_look_at_work fd) : FnOk P w K mg base (L2.CX P w) 1 (d_look_at_work.ad K) fd ["row"] (spF K 1 p_look_at_work) :=
  fn_mk2 F sc_look_at_work rfl rfl fun cdv A outer s H E hr0 => by
    have nd := (sc_look_at_work).nd
    exact ⟨_, (s_cons (s_if (t_eqS (q_fld (n.fl_Row_kind) (q_var 0)) q_str) s_neverS s_nil) (s_cons (s_set 1 nd (q_add (q_sum2 n.b_sum (a_cons (q_slT (q_fld (n.fl_Row_head) (q_var 0)) (o_some q_int) o_no) a_nil)) (q_sum2 n.b_sum (a_cons (q_fz (l_lc nd (i_tup (q_fld (n.fl_Row_loop) (q_var 0))) (own := [("start", 2), ("_", 3)]) (show BlkOk ["row", "work", "start", "_"] (defScope s_look_at_work) _ _ from blkOk_by (by decide +kernel)) (keep_tup (keep_cons mon_name (keep_name (by decide)) (keep_cons mon_name (keep_name (by decide)) keep_nil))) (fun _ _ _ _ _ => (g_tup (g_cons (g_name 2 nd) (g_cons (g_name 3 nd) g_nil)))) (fun _ _ _ _ _ => pts_nil) simT_yes (fun _ _ _ _ _ => (q_var 2)))) a_nil)))) (s_one (s_if (t_gt (q_var 1) (q_gint n.i_MOST_WORK)) s_neverS s_nil))))⟩
theorem g_look_at_work (n : Kn K mg) : GFn P w K mg base "look_at_work" 1 1 p_look_at_work [] [] := by
  obtain ⟨fd, F⟩ := n.F_look_at_work
  exact ⟨⟨_, fd, _, [], ok_look_at_work n F, n.m_look_at_work, F.kp, F.bindsN fun _ _ _ _ _ _ us hl => match us, hl with | [_], _ => rfl, .nil⟩, fun S => rfl, ary_run⟩
theorem ok_minus_of (n : Kn K mg) {fd : FuncData} (F : FnL K d_minus_of fd) : FnOk P w K mg base (L2.CX P w) 5 (d_minus_of.ad K) fd ["row"] (spF K 1 p_minus_of) :=
  fn_mk2 F sc_minus_of rfl rfl fun cdv A outer s H E hr0 => by
    have nd := (sc_minus_of).nd
    exact ⟨_, (s_cons (s_expr (q_call (takes_of rfl rfl rfl rfl) (g_look_at_work n) (hr0.mono (by decide)) (a_cons (q_var 0) a_nil))) (s_cons (s_if (t_eqS (q_fld (n.fl_Row_kind) (q_var 0)) q_str) (s_one (s_ret (q_call (takes_of rfl rfl rfl rfl) (g__ended_minus n) (hr0.mono (by decide)) (a_cons (q_fld (n.fl_Row_head) (q_var 0)) a_nil)))) s_nil) s_neverS))⟩
theorem g_minus_of (n : Kn K mg) : GFn P w K mg base "minus_of" 5 1 p_minus_of [] [] := by
  obtain ⟨fd, F⟩ := n.F_minus_of
  exact ⟨⟨_, fd, _, [], ok_minus_of n F, n.m_minus_of, F.kp, F.bindsN fun _ _ _ _ _ _ us hl => match us, hl with | [_], _ => rfl, .nil⟩, fun S => rfl, ary_run⟩
theorem ok__law_rows (n : Kn K mg) {fd : FuncData} (F : FnL K d__law_rows fd) : FnOk P w K mg base (L2.CX P w) 6 (d__law_rows.ad K) fd ["h", "k", "turns", "minus"] (spF K 4 p__law_rows) :=
  fn_mk2 F sc__law_rows rfl rfl fun cdv A outer s H E hr0 => by
    have nd := (sc__law_rows).nd
    exact ⟨_, (s_cons (s_set 4 nd (q_stat (takes_of rfl rfl rfl rfl) (g_Row_of n) (hr0.mono (by decide)) (a_cons (q_make (takes_of rfl rfl rfl rfl) (g_Frac_0 n) (hr0.mono (by decide)) (a_cons (q_var 0) (a_cons (q_var 1) a_nil))) a_nil))) (s_cons (s_if ((w_or (t_not (t_val (q_isiO n.b_isinstance n.m_Row n.is_Row (q_var 4)))) (w_or (t_not (t_val (q_call (takes_of rfl rfl rfl rfl) (g__law_are n) (hr0.mono (by decide)) (a_cons (q_fld (n.fl_Row_head) (q_var 4)) (a_cons (q_var 2) a_nil))))) (w_or1 (t_neD hr0.units (q_fld (n.fl_Row_loop) (q_var 4)) (q_tup a_nil)))))).qt (s_one (s_ret q_bl)) s_nil) (s_cons (s_if (t_not (t_val (q_call (takes_of rfl rfl rfl rfl) (g__law_is_frac n) (hr0.mono (by decide)) (a_cons (q_meth0 (takes_of rfl rfl rfl rfl) (g_Row_frac n) (hr0.mono (by decide)) (q_var 4)) (a_cons (q_var 0) (a_cons (q_var 1) a_nil)))))) (s_one (s_ret q_bl)) s_nil) (s_cons (s_set 5 nd (q_call (takes_of rfl rfl rfl rfl) (g_minus_of n) (hr0.mono (by decide)) (a_cons (q_var 4) a_nil))) (s_cons (s_if ((w_or (t_not (t_val (q_isiO n.b_isinstance n.m_MinusRow n.is_MinusRow (q_var 5)))) (w_or (t_not (t_val (q_call (takes_of rfl rfl rfl rfl) (g__law_are n) (hr0.mono (by decide)) (a_cons (q_fld (n.fl_MinusRow_head) (q_var 5)) (a_cons (q_var 3) a_nil))))) (w_or1 (t_neD hr0.units (q_fld (n.fl_MinusRow_loop) (q_var 5)) (q_tup a_nil)))))).qt (s_one (s_ret q_bl)) s_nil) (s_cons (s_if (t_gt (q_len n.b_len (a_cons (q_var 2) a_nil)) q_int) (s_cons (s_set 6 nd (q_meth (takes_of rfl rfl rfl rfl) (g_Row_convergent n) (hr0.mono (by decide)) (q_var 4) (a_cons (q_sub (q_len n.b_len (a_cons (q_var 2) a_nil)) q_int) a_nil))) (s_cons (s_asg (q_call (takes_of rfl rfl rfl rfl) (g__law_bottoms n) (hr0.mono (by decide)) (a_cons (q_var 2) (a_cons q_int a_nil))) (g_tup (g_cons (g_name 7 nd) (g_cons (g_name 8 nd) g_nil)))) (s_one (s_if ((w_or (t_not (t_val (q_call (takes_of rfl rfl rfl rfl) (g__law_is_below n) (hr0.mono (by decide)) (a_cons (q_var 6) (a_cons (q_var 7) a_nil))))) (w_or1 (t_neS (q_var 8) (q_var 1))))).qt (s_one (s_ret q_bl)) s_nil)))) s_nil) (s_cons (s_if (t_gt (q_len n.b_len (a_cons (q_var 3) a_nil)) q_int) (s_cons (s_set 6 nd (q_meth (takes_of rfl rfl rfl rfl) (g_MinusRow_convergent n) (hr0.mono (by decide)) (q_var 5) (a_cons (q_sub (q_len n.b_len (a_cons (q_var 3) a_nil)) q_int) a_nil))) (s_cons (s_asg (q_call (takes_of rfl rfl rfl rfl) (g__law_bottoms n) (hr0.mono (by decide)) (a_cons (q_var 3) (a_cons (q_neg q_int) a_nil))) (g_tup (g_cons (g_name 7 nd) (g_cons (g_name 8 nd) g_nil)))) (s_one (s_if ((w_or (t_not (t_val (q_call (takes_of rfl rfl rfl rfl) (g__law_is_below n) (hr0.mono (by decide)) (a_cons (q_var 6) (a_cons (q_var 7) a_nil))))) (w_or1 (t_neS (q_var 8) (q_var 1))))).qt (s_one (s_ret q_bl)) s_nil)))) s_nil) (s_one (s_ret q_bl)))))))))⟩
theorem g__law_rows (n : Kn K mg) : GFn P w K mg base "_law_rows" 6 4 p__law_rows [] [] := by
  obtain ⟨fd, F⟩ := n.F__law_rows
  exact ⟨⟨_, fd, _, [], ok__law_rows n F, n.m__law_rows, F.kp, F.bindsN fun _ _ _ _ _ _ us hl => match us, hl with | [_, _, _, _], _ => rfl, .nil⟩, fun S => rfl, ary_run⟩
theorem ok__sum_by_turns (n : Kn K mg) {fd : FuncData} (F : FnL K d__sum_by_turns fd) : FnOk P w K mg base (L2.CX P w) 1 (d__sum_by_turns.ad K) fd ["h", "k"] (spF K 2 p__sum_by_turns) :=
  fn_mk2 F sc__sum_by_turns rfl rfl fun cdv A outer s H E hr0 => by
    have nd := (sc__sum_by_turns).nd
    exact ⟨_, (s_cons (s_set 2 nd (q_gcd n.b_gcd (a_cons (q_var 0) (a_cons (q_var 1) a_nil)))) (s_cons (s_set 3 nd (q_fdiv (q_var 1) (q_var 2))) (s_cons (s_set 4 nd (q_mod (q_fdiv (q_var 0) (q_var 2)) (q_var 3))) (s_cons (s_set 5 nd q_int) (s_cons (s_set 6 nd q_int) (s_cons (s_asg (q_tup (a_cons q_int (a_cons q_int a_nil))) (g_tup (g_cons (g_name 8 nd) (g_cons (g_name 9 nd) g_nil)))) (s_cons (s_par 10 11 nd (q_var 3) (q_var 4)) (s_cons (s_while (muI 11) (passes_of rfl) (t_gt (q_var 11) q_int) (s_cons (s_set 12 nd (q_fdiv (q_var 10) (q_var 11))) (s_cons (s_augAdd 5 nd (q_mul (q_var 6) (q_var 12))) (s_cons (s_set 6 nd (q_neg (q_var 6))) (s_cons (s_par 8 9 nd (q_add (q_mul (q_var 12) (q_var 8)) (q_var 9)) (q_var 8)) (s_one (s_par 10 11 nd (q_var 11) (q_sub (q_var 10) (q_mul (q_var 12) (q_var 11)))))))))) (s_cons (s_set 7 nd (q_sub (q_add (q_mul (q_var 5) (q_var 3)) (q_var 4)) (q_mul (q_var 6) (q_var 9)))) (s_cons (s_if (t_eqS (q_var 6) (q_neg q_int)) (s_one (s_augSub 7 nd (q_mul q_int (q_var 3)))) s_nil) (s_one (s_ret (q_tup (a_cons (q_var 7) (a_cons (q_var 3) a_nil)))))))))))))))⟩
theorem g__sum_by_turns (n : Kn K mg) : GFn P w K mg base "_sum_by_turns" 1 2 p__sum_by_turns [] [] := by
  obtain ⟨fd, F⟩ := n.F__sum_by_turns
  exact ⟨⟨_, fd, _, [], ok__sum_by_turns n F, n.m__sum_by_turns, F.kp, F.bindsN fun _ _ _ _ _ _ us hl => match us, hl with | [_, _], _ => rfl, .nil⟩, fun S => rfl, ary_run⟩
theorem ok_teeth (n : Kn K mg) {fd : FuncData} (F : FnL K d_teeth fd) : FnOk P w K mg base (L2.CX P w) 4 (d_teeth.ad K) fd ["h", "k"] (spF K 2 p_teeth) :=
  fn_mk2 F sc_teeth rfl rfl fun cdv A outer s H E hr0 => by
    have nd := (sc_teeth).nd
    exact ⟨_, (s_cons (s_if (t_lt (q_var 1) q_int) s_neverS s_nil) (s_cons (s_asg (q_call (takes_of rfl rfl rfl rfl) (g__sum_by_turns n) (hr0.mono (by decide)) (a_cons (q_var 0) (a_cons (q_var 1) a_nil))) (g_tup (g_cons (g_name 2 nd) (g_cons (g_name 3 nd) g_nil)))) (s_one (s_ret (q_make (takes_of rfl rfl rfl rfl) (g_Frac_0 n) (hr0.mono (by decide)) (a_cons (q_var 2) (a_cons (q_mul q_int (q_var 3)) a_nil)))))))⟩
theorem g_teeth (n : Kn K mg) : GFn P w K mg base "teeth" 4 2 p_teeth [] [] := by
  obtain ⟨fd, F⟩ := n.F_teeth
  exact ⟨⟨_, fd, _, [], ok_teeth n F, n.m_teeth, F.kp, F.bindsN fun _ _ _ _ _ _ us hl => match us, hl with | [_, _], _ => rfl, .nil⟩, fun S => rfl, ary_run⟩
theorem ok__law_right (n : Kn K mg) {fd : FuncData} (F : FnL K d__law_right fd) : FnOk P w K mg base (L2.CX P w) 7 (d__law_right.ad K) fd ["h", "k"] (spF K 2 p__law_right) :=
  fn_mk2 F sc__law_right rfl rfl fun cdv A outer s H E hr0 => by
    have nd := (sc__law_right).nd
    exact ⟨_, (s_cons (s_set 2 nd (q_call (takes_of rfl rfl rfl rfl) (g__law_floors n) (hr0.mono (by decide)) (a_cons (q_var 0) (a_cons (q_var 1) a_nil)))) (s_cons (s_set 3 nd (q_call (takes_of rfl rfl rfl rfl) (g__law_ceilings n) (hr0.mono (by decide)) (a_cons (q_var 0) (a_cons (q_var 1) a_nil)))) (s_cons (s_if (t_not (t_val (q_call (takes_of rfl rfl rfl rfl) (g__law_rows n) (hr0.mono (by decide)) (a_cons (q_var 0) (a_cons (q_var 1) (a_cons (q_var 2) (a_cons (q_var 3) a_nil))))))) (s_one (s_ret q_bl)) s_nil) (s_cons (s_set 4 nd (q_call (takes_of rfl rfl rfl rfl) (g__law_by_turns n) (hr0.mono (by decide)) (a_cons (q_var 2) (a_cons (q_var 0) (a_cons (q_var 1) a_nil))))) (s_cons (s_set 5 nd (q_fz (l_cat (q_fz (l_sl (q_var 2) o_no (o_some (q_neg q_int)))) (q_fz (l_lst (a_cons (q_sub (q_ixL (q_var 2) (q_neg q_int)) q_int) (a_cons q_int a_nil))))))) (s_cons (s_if (t_neS (q_call (takes_of rfl rfl rfl rfl) (g__law_by_turns n) (hr0.mono (by decide)) (a_cons (q_var 5) (a_cons (q_var 0) (a_cons (q_var 1) a_nil)))) (q_var 4)) (s_one (s_ret q_bl)) s_nil) (s_cons (s_if (t_neS (q_call (takes_of rfl rfl rfl rfl) (g__law_by_minus n) (hr0.mono (by decide)) (a_cons (q_var 3) (a_cons (q_var 0) (a_cons (q_var 1) a_nil)))) (q_var 4)) (s_one (s_ret q_bl)) s_nil) (s_cons (s_if ((w_and (t_le (q_var 1) q_int) (w_and1 (t_neS (q_mul q_int (q_call (takes_of rfl rfl rfl rfl) (g__law_defined n) (hr0.mono (by decide)) (a_cons (q_var 0) (a_cons (q_var 1) a_nil)))) (q_mul (q_var 1) (q_var 4)))))).qt (s_one (s_ret q_bl)) s_nil) (s_cons (s_set 6 nd (q_call (takes_of rfl rfl rfl rfl) (g__law_gcd n) (hr0.mono (by decide)) (a_cons (q_var 4) (a_cons (q_mul q_int (q_var 1)) a_nil)))) (s_one (s_ret (q_call (takes_of rfl rfl rfl rfl) (g__law_is_frac n) (hr0.mono (by decide)) (a_cons (q_call (takes_of rfl rfl rfl rfl) (g_teeth n) (hr0.mono (by decide)) (a_cons (q_var 0) (a_cons (q_var 1) a_nil))) (a_cons (q_fdiv (q_var 4) (q_var 6)) (a_cons (q_fdiv (q_mul q_int (q_var 1)) (q_var 6)) a_nil)))))))))))))))⟩
theorem g__law_right (n : Kn K mg) : GFn P w K mg base "_law_right" 7 2 p__law_right [] [] := by
  obtain ⟨fd, F⟩ := n.F__law_right
  exact ⟨⟨_, fd, _, [], ok__law_right n F, n.m__law_right, F.kp, F.bindsN fun _ _ _ _ _ _ us hl => match us, hl with | [_, _], _ => rfl, .nil⟩, fun S => rfl, ary_run⟩
theorem ok_law (n : Kn K mg) {fd : FuncData} (F : FnL K d_law fd) : FnOk P w K mg base (L2.CX P w) 8 (d_law.ad K) fd ["script"] (spF K 1 p_law) :=
  fn_mk2 F sc_law rfl rfl fun cdv A outer s H E hr0 => by
    have nd := (sc_law).nd
    exact ⟨_, (s_cons (s_setL 1 nd (l_call (takes_of rfl rfl rfl rfl) (g__law_pool n) (hr0.mono (by decide)) (a_cons (q_var 0) a_nil))) (s_cons (s_setL 2 nd (l_lst a_nil)) (s_cons (s_for (passes_of rfl) (i_rng1 n.b_range q_int) (g_name 3 nd) (s_one (s_expr (q_append (q_var 2) (a_cons (q_tup (a_cons (q_sub (q_call1 1 (takes_of rfl rfl rfl rfl) (g__law_draw n) (hr0.mono (by decide)) (a_cons (q_var 1) (a_cons q_int a_nil))) q_int) (a_cons (q_add q_int (q_call1 1 (takes_of rfl rfl rfl rfl) (g__law_draw n) (hr0.mono (by decide)) (a_cons (q_var 1) (a_cons q_int a_nil)))) a_nil))) a_nil))))) (s_cons (s_expr (q_append (q_var 2) (a_cons (q_call1 1 (takes_of rfl rfl rfl rfl) (g__law_fraction n) (hr0.mono (by decide)) (a_cons (q_var 1) (a_cons (q_add q_int (q_call1 1 (takes_of rfl rfl rfl rfl) (g__law_draw n) (hr0.mono (by decide)) (a_cons (q_var 1) (a_cons q_int a_nil)))) a_nil))) a_nil))) (s_cons (s_expr (q_append (q_var 2) (a_cons (q_call1 1 (takes_of rfl rfl rfl rfl) (g__law_fraction n) (hr0.mono (by decide)) (a_cons (q_var 1) (a_cons (q_add q_int (q_call1 1 (takes_of rfl rfl rfl rfl) (g__law_draw n) (hr0.mono (by decide)) (a_cons (q_var 1) (a_cons q_int a_nil)))) a_nil))) a_nil))) (s_cons (s_for (passes_of rfl) (i_list (q_fz (l_cat (q_var 2) (q_fz (l_sl (q_var 2) o_no (o_some q_int)))))) (g_tup (g_cons (g_name 4 nd) (g_cons (g_name 5 nd) g_nil))) (s_cons (s_set 6 nd (q_call (takes_of rfl rfl rfl rfl) (g__law_gcd n) (hr0.mono (by decide)) (a_cons (q_var 4) (a_cons (q_var 5) a_nil)))) (s_one (s_if (t_not (t_val (q_call (takes_of rfl rfl rfl rfl) (g__law_right n) (hr0.mono (by decide)) (a_cons (q_fdiv (q_var 4) (q_var 6)) (a_cons (q_fdiv (q_var 5) (q_var 6)) a_nil))))) (s_one (s_ret q_bl)) s_nil)))) (s_one (s_ret q_bl))))))))⟩
theorem g_law (n : Kn K mg) : GFn P w K mg base "law" 8 1 p_law [] [] := by
  obtain ⟨fd, F⟩ := n.F_law
  exact ⟨⟨_, fd, _, [], ok_law n F, n.m_law, F.kp, F.bindsN fun _ _ _ _ _ _ us hl => match us, hl with | [_], _ => rfl, .nil⟩, fun S => rfl, ary_run⟩
end
end Lk71
set_option Elab.async false
set_option linter.all false
set_option maxRecDepth 100000
set_option maxHeartbeats 4000000
/-! law_k71_teeth_by_turns: the facts of the head (printed by gen.py). -/
namespace Lk71
open PySem PySem.Spec PyProof.Rows L2 Pu
def exs (K : PySem.W.Frag) : List Bool := [
  gloB K "_law_draw",
  gloB K "_law_fraction",
  gloB K "_law_gcd",
  gloB K "_law_mixed",
  gloB K "_law_pool",
  gloB K "_law_bottoms",
  gloB K "_law_by_minus",
  gloB K "_law_by_turns",
  gloB K "_law_ceilings",
  gloB K "_law_defined",
  gloB K "_law_floors",
  gloB K "_law_whole",
  gloB K "_law_is_frac",
  gloB K "sign_of",
  (He.Fa.mkr "Frac").ok K,
  (He.Fa.meth "MinusRow" "turn").ok K,
  (He.Fa.meth "MinusRow" "convergent").ok K,
  gloB K "unrolled",
  (He.Fa.meth "Row" "turns").ok K,
  (He.Fa.mkr "Table").ok K,
  gloB K "turns_table",
  (He.Fa.meth "Row" "table").ok K,
  gloB K "turn_in",
  (He.Fa.meth "Row" "turn").ok K,
  (He.Fa.meth "Row" "convergent").ok K,
  (He.Fa.meth "Row" "frac").ok K,
  gloB K "kind_of",
  gloB K "one_form",
  emptyB K (He.dflAt ("Row", some "__init__") 0 K),
  (He.Fa.mkr "Row").ok K,
  statB K "Row" "of",
  gloB K "_law_are",
  gloB K "_law_is_below",
  gloB K "short_form",
  emptyB K (He.dflAt ("MinusRow", some "__init__") 0 K),
  (He.Fa.mkr "MinusRow").ok K,
  gloB K "_with_minus",
  gloB K "ended_turns",
  gloB K "_ended_minus",
  gloB K "look_at_work",
  gloB K "minus_of",
  gloB K "_law_rows",
  gloB K "_sum_by_turns",
  gloB K "teeth",
  gloB K "_law_right",
  gloB K "law",
  gloB K "Frac",
  (He.Fa.cls "Frac").ok K,
  gloB K "MinusRow",
  (He.Fa.cls "MinusRow").ok K,
  gloB K "Row",
  (He.Fa.cls "Row").ok K,
  gloB K "Table",
  (He.Fa.cls "Table").ok K,
  (He.Fa.noat "Frac" "bottom").ok K,
  (He.Fa.noat "Frac" "top").ok K,
  (He.Fa.noat "MinusRow" "head").ok K,
  (He.Fa.noat "MinusRow" "loop").ok K,
  (He.Fa.noat "Row" "head").ok K,
  (He.Fa.noat "Row" "kind").ok K,
  (He.Fa.noat "Row" "loop").ok K,
  (He.Fa.noat "Table" "a").ok K,
  (He.Fa.noat "Table" "b").ok K,
  (He.Fa.noat "Table" "c").ok K,
  (He.Fa.noat "Table" "d").ok K,
  (He.Fa.free "abs").ok K,
  (He.Fa.free "bool").ok K,
  bltB K "gcd" "math.gcd",
  (He.Fa.free "int").ok K,
  (He.Fa.free "isinstance").ok K,
  (He.Fa.free "len").ok K,
  (He.Fa.free "list").ok K,
  (He.Fa.free "max").ok K,
  (He.Fa.free "min").ok K,
  (He.Fa.free "range").ok K,
  (He.Fa.free "sum").ok K,
  (He.Fa.free "tuple").ok K,
  (He.Fa.int "LAST_CONVERGENT" 5000).ok K,
  (He.Fa.int "MOST_TURNS" 5000).ok K,
  (He.Fa.int "MOST_WORK" 1000).ok K,
  isiB K l_is_Frac (.ref (He.ga K "Frac")),
  isiB K l_is_MinusRow (.ref (He.ga K "MinusRow")),
  isiB K l_is_Row (.ref (He.ga K "Row")),
  isiB K l_is_bool (.type "bool"),
  isiB K l_is_int (.type "int"),
  isiB K l_is_tuple (.type "tuple")]
def exB (K : PySem.W.Frag) : Bool := (exs K).all id
def dfs : List Df := [d__law_draw, d__law_fraction, d__law_gcd, d__law_mixed, d__law_pool, d__law_bottoms, d__law_by_minus, d__law_by_turns, d__law_ceilings, d__law_defined, d__law_floors, d__law_whole, d__law_is_frac, d_sign_of, d_Frac_init, d_MinusRow_turn, d_MinusRow_convergent, d_unrolled, d_Row_turns, d_Table_init, d_turns_table, d_Row_table, d_turn_in, d_Row_turn, d_Row_convergent, d_Row_frac, d_kind_of, d_one_form, d_Row_init, d_Row_of, d__law_are, d__law_is_below, d_short_form, d_MinusRow_init, d__with_minus, d_ended_turns, d__ended_minus, d_look_at_work, d_minus_of, d__law_rows, d__sum_by_turns, d_teeth, d__law_right, d_law]
theorem kn_of {K : PySem.W.Frag} {h : Heap} {mg : Str → Option Value} (X : K.In h) (G : h.Ns mainGlobals mg) (c : SaysL exB dfs K) : Kn K mg := by
  have a : ∀ i : Nat, ∀ b, (exs K)[i]? = some b → b = true := fun i b h => List.all_eq_true.mp c.exs b (List.mem_of_getElem? h)
  exact {
    F__law_draw := c.df 0,
    m__law_draw := He.glo_ok X G (a 0 _ rfl),
    F__law_fraction := c.df 1,
    m__law_fraction := He.glo_ok X G (a 1 _ rfl),
    F__law_gcd := c.df 2,
    m__law_gcd := He.glo_ok X G (a 2 _ rfl),
    F__law_mixed := c.df 3,
    m__law_mixed := He.glo_ok X G (a 3 _ rfl),
    F__law_pool := c.df 4,
    m__law_pool := He.glo_ok X G (a 4 _ rfl),
    F__law_bottoms := c.df 5,
    m__law_bottoms := He.glo_ok X G (a 5 _ rfl),
    F__law_by_minus := c.df 6,
    m__law_by_minus := He.glo_ok X G (a 6 _ rfl),
    F__law_by_turns := c.df 7,
    m__law_by_turns := He.glo_ok X G (a 7 _ rfl),
    F__law_ceilings := c.df 8,
    m__law_ceilings := He.glo_ok X G (a 8 _ rfl),
    F__law_defined := c.df 9,
    m__law_defined := He.glo_ok X G (a 9 _ rfl),
    F__law_floors := c.df 10,
    m__law_floors := He.glo_ok X G (a 10 _ rfl),
    F__law_whole := c.df 11,
    m__law_whole := He.glo_ok X G (a 11 _ rfl),
    F__law_is_frac := c.df 12,
    m__law_is_frac := He.glo_ok X G (a 12 _ rfl),
    F_sign_of := c.df 13,
    m_sign_of := He.glo_ok X G (a 13 _ rfl),
    F_Frac_init := c.df 14,
    k_Frac := He.mkr_ok (a 14 _ rfl),
    F_MinusRow_turn := c.df 15,
    me_MinusRow_turn := He.meth_ok (a 15 _ rfl),
    F_MinusRow_convergent := c.df 16,
    me_MinusRow_convergent := He.meth_ok (a 16 _ rfl),
    F_unrolled := c.df 17,
    m_unrolled := He.glo_ok X G (a 17 _ rfl),
    F_Row_turns := c.df 18,
    me_Row_turns := He.meth_ok (a 18 _ rfl),
    F_Table_init := c.df 19,
    k_Table := He.mkr_ok (a 19 _ rfl),
    F_turns_table := c.df 20,
    m_turns_table := He.glo_ok X G (a 20 _ rfl),
    F_Row_table := c.df 21,
    me_Row_table := He.meth_ok (a 21 _ rfl),
    F_turn_in := c.df 22,
    m_turn_in := He.glo_ok X G (a 22 _ rfl),
    F_Row_turn := c.df 23,
    me_Row_turn := He.meth_ok (a 23 _ rfl),
    F_Row_convergent := c.df 24,
    me_Row_convergent := He.meth_ok (a 24 _ rfl),
    F_Row_frac := c.df 25,
    me_Row_frac := He.meth_ok (a 25 _ rfl),
    F_kind_of := c.df 26,
    m_kind_of := He.glo_ok X G (a 26 _ rfl),
    F_one_form := c.df 27,
    m_one_form := He.glo_ok X G (a 27 _ rfl),
    e_Row_init_0 := (a 28 _ rfl),
    F_Row_init := c.df 28,
    k_Row := He.mkr_ok (a 29 _ rfl),
    F_Row_of := c.df 29,
    st_Row_of := stat_ok (a 30 _ rfl),
    F__law_are := c.df 30,
    m__law_are := He.glo_ok X G (a 31 _ rfl),
    F__law_is_below := c.df 31,
    m__law_is_below := He.glo_ok X G (a 32 _ rfl),
    F_short_form := c.df 32,
    m_short_form := He.glo_ok X G (a 33 _ rfl),
    e_MinusRow_init_0 := (a 34 _ rfl),
    F_MinusRow_init := c.df 33,
    k_MinusRow := He.mkr_ok (a 35 _ rfl),
    F__with_minus := c.df 34,
    m__with_minus := He.glo_ok X G (a 36 _ rfl),
    F_ended_turns := c.df 35,
    m_ended_turns := He.glo_ok X G (a 37 _ rfl),
    F__ended_minus := c.df 36,
    m__ended_minus := He.glo_ok X G (a 38 _ rfl),
    F_look_at_work := c.df 37,
    m_look_at_work := He.glo_ok X G (a 39 _ rfl),
    F_minus_of := c.df 38,
    m_minus_of := He.glo_ok X G (a 40 _ rfl),
    F__law_rows := c.df 39,
    m__law_rows := He.glo_ok X G (a 41 _ rfl),
    F__sum_by_turns := c.df 40,
    m__sum_by_turns := He.glo_ok X G (a 42 _ rfl),
    F_teeth := c.df 41,
    m_teeth := He.glo_ok X G (a 43 _ rfl),
    F__law_right := c.df 42,
    m__law_right := He.glo_ok X G (a 44 _ rfl),
    F_law := c.df 43,
    m_law := He.glo_ok X G (a 45 _ rfl),
    m_Frac := He.glo_ok X G (a 46 _ rfl),
    c_Frac := He.cls_ok (a 47 _ rfl),
    m_MinusRow := He.glo_ok X G (a 48 _ rfl),
    c_MinusRow := He.cls_ok (a 49 _ rfl),
    m_Row := He.glo_ok X G (a 50 _ rfl),
    c_Row := He.cls_ok (a 51 _ rfl),
    m_Table := He.glo_ok X G (a 52 _ rfl),
    c_Table := He.cls_ok (a 53 _ rfl),
    na_Frac_bottom := He.noat_ok (a 54 _ rfl),
    na_Frac_top := He.noat_ok (a 55 _ rfl),
    na_MinusRow_head := He.noat_ok (a 56 _ rfl),
    na_MinusRow_loop := He.noat_ok (a 57 _ rfl),
    na_Row_head := He.noat_ok (a 58 _ rfl),
    na_Row_kind := He.noat_ok (a 59 _ rfl),
    na_Row_loop := He.noat_ok (a 60 _ rfl),
    na_Table_a := He.noat_ok (a 61 _ rfl),
    na_Table_b := He.noat_ok (a 62 _ rfl),
    na_Table_c := He.noat_ok (a 63 _ rfl),
    na_Table_d := He.noat_ok (a 64 _ rfl),
    b_abs := He.free_ok X G (a 65 _ rfl),
    b_bool := He.free_ok X G (a 66 _ rfl),
    b_gcd := blt_ok X G (a 67 _ rfl),
    b_int := He.free_ok X G (a 68 _ rfl),
    b_isinstance := He.free_ok X G (a 69 _ rfl),
    b_len := He.free_ok X G (a 70 _ rfl),
    b_list := He.free_ok X G (a 71 _ rfl),
    b_max := He.free_ok X G (a 72 _ rfl),
    b_min := He.free_ok X G (a 73 _ rfl),
    b_range := He.free_ok X G (a 74 _ rfl),
    b_sum := He.free_ok X G (a 75 _ rfl),
    b_tuple := He.free_ok X G (a 76 _ rfl),
    i_LAST_CONVERGENT := He.int_ok X G (a 77 _ rfl),
    i_MOST_TURNS := He.int_ok X G (a 78 _ rfl),
    i_MOST_WORK := He.int_ok X G (a 79 _ rfl),
    is_Frac := isi_ok (a 80 _ rfl),
    is_MinusRow := isi_ok (a 81 _ rfl),
    is_Row := isi_ok (a 82 _ rfl),
    is_bool := isi_ok (a 83 _ rfl),
    is_int := isi_ok (a 84 _ rfl),
    is_tuple := isi_ok (a 85 _ rfl) }
end Lk71
set_option Elab.async false
set_option linter.all false
set_option maxRecDepth 100000
set_option maxHeartbeats 0
/-! law_k71_teeth_by_turns: the head (printed by gen.py). -/
namespace Lk71
open PySem PySem.Spec PyProof.Rows L2 Pu
abbrev R : PySem.W.OpenRow := PySem.W.OpenLaw.row PySem.Challenge.rw_goodturns_k71_teeth_by_turns
def loose0 : List Str := ["_wall", "__name__", "TurnError", "ZeroBottom", "OutOfBounds", "BadNumber", "BadTable", "NoInverse", "TooHeavy", "NoTurns", "BadTurn", "BadPair", "NoTurn", "NotEnded", "Growing", "BadRow", "AllTwos", "MOST_DIGITS", "MOST_EXPONENT_frac", "read_number", "sign_of", "Frac", "_sum_by_turns", "teeth", "LAST_CONVERGENT", "least_period", "short_form", "MinusRow", "MOST_EXPONENT_table", "Table"]
def loose1 : List Str := ["turn_of_loop", "loop_from", "turn_in", "unrolled", "_spread", "least_loop", "one_form", "read_whole", "_pair_text", "written", "_read_turns", "_read_pair", "_read_loop", "_read_further", "read_loose", "MOST_TURNS", "kind_of", "turns_table", "ended_turns", "Row", "MOST_WORK", "look_at_work", "_with_minus", "_ended_minus", "_looped_minus", "minus_of", "_law_mixed", "_law_pool", "_law_draw", "_law_whole"]
def loose2 : List Str := ["_law_is_frac", "_law_is_below", "_law_are", "_law_gcd", "_law_floors", "_law_ceilings", "_law_bottoms", "_law_by_turns", "_law_by_minus", "_law_defined", "_law_rows", "_law_right", "_law_fraction"]
def loose : List Str := loose0 ++ (loose1 ++ (loose2))
abbrev vw : Program := PySem.W.view R.prog [0, 83]
def hfs : List Str := ["_law_draw", "_law_fraction", "_law_gcd", "_law_mixed", "_law_pool", "_law_bottoms", "_law_by_minus", "_law_by_turns", "_law_ceilings", "_law_defined", "_law_floors", "_law_whole", "_law_is_frac", "sign_of", "unrolled", "turns_table", "turn_in", "kind_of", "one_form", "_law_are", "_law_is_below", "short_form", "_with_minus", "ended_turns", "_ended_minus", "look_at_work", "minus_of", "_law_rows", "_sum_by_turns", "teeth", "_law_right", "law"]
def hcs : List Str := ["Frac", "MinusRow", "Row", "Table"]
abbrev hk : PySem.W.Hook := hookL hfs hcs exB dfs
def ob (s : PySem.W.SharedT) : AlL := obG hfs hcs exB dfs (HandSHeadRun.getT s)
theorem h1 (w : World) : (HandSHeadRun.wholeF (fun p => HandSHeadRun.stepQ (HandSHeadRun.denQ HandSHeadRun.tabQ) p w) HandSHeadRun.fenceQ 15000 R.prog).map (fun x => HandSHeadRun.looksF R.prog x.1.heap x.2.abs) = some true := by
  kernel_rfl
theorem h2 (w : World) : (HandSHeadRun.wholeF (fun p => HandSHeadRun.stepQ (HandSHeadRun.denQ HandSHeadRun.tabQ) p w) HandSHeadRun.fenceQ 15000 R.prog).map (fun x => HandSHeadRun.seenQ vw loose (PySem.importedModules R.prog.main.body) (fun s => PySem.W.xlAt vw [] s && PySem.W.recOk R.toRowW.records s) x.2.abs) = some (PySem.W.openGood vw loose) := by
  kernel_rfl
theorem h3 (w : World) : (HandSHeadRun.wholeF (fun p => HandSHeadRun.stepQ (HandSHeadRun.denQ HandSHeadRun.tabQ) p w) HandSHeadRun.fenceQ 15000 R.prog).map (fun x => ob x.2) = some (vaL dfs) := by
  kernel_rfl
theorem hrun (w : World) : HandSHeadRun.RunEqI R vw hk ob 15000 loose w := run_by (h1 w) (h2 w) (h3 w) rfl
theorem cx_no {P : Program} {w : World} (H : Hp) (s : Shared) (e : Value) (s' : Shared) (x : L2.CX P w [] H s (fun _ _ _ => False) e s') : False := by
  obtain ⟨_, _, _, _, _, _, _, _, _, _, _, _, _, _, _, _, z⟩ := x
end Lk71
open PySem PySem.W PySem.Calls PyProof.Rows in
theorem Lk71.head (hp : ∀ ns : List Int, ns.length ≤ 63 → Lk71.p_law [.im (.scr ns)] = .ok (.im (.bl true)) []) : PySem.Challenge.rw_goodturns_k71_teeth_by_turns.Holds := by
  w_on; o_law
  refine HandSHeadRun.head_imp (r := OpenLaw.row PySem.Challenge.rw_goodturns_k71_teeth_by_turns) (q := Lk71.vw) (H := Lk71.hk) (ob := Lk71.ob) (M := 15000) (loose := Lk71.loose) (d := HandSHeadRun.topDef (OpenLaw.row PySem.Challenge.rw_goodturns_k71_teeth_by_turns).prog 83) (kwd := []) (fun s => Pu.obG_eq (HandSHeadRun.getT_eq s))
    Lk71.hrun (by kernel_rfl) (by kernel_rfl) (by kernel_rfl) (by rfl) (by first | assumption | decide +kernel) (by decide +kernel) ⟨rfl, rfl, rfl, rfl, rfl, by decide +kernel⟩ ?hw ?hc
  case hw => w_witness2
  case hc =>
    refine Pu.walk_w (law := PySem.Challenge.rw_goodturns_k71_teeth_by_turns) (many := 63) (lv := 8) (x := "script") (CX := fun w => L2.CX PySem.Challenge.rw_goodturns_k71_teeth_by_turns.prog w) rfl (by decide) (by kernel_rfl) ⟨rfl, by decide, by decide⟩ ?F ?X
    case X => exact fun w H s e s' x => Lk71.cx_no H s e s' x
    case F =>
      intro w mg fa h Y G hmg0
      obtain ⟨K, KX, c⟩ := Y
      have n := Lk71.kn_of KX G c
      have hmg : mg ("law" : PySem.Str) = some (.ref fa) := by
        have e : (HandSHeadRun.topDef (OpenLaw.row PySem.Challenge.rw_goodturns_k71_teeth_by_turns).prog 83).name = ("law" : PySem.Str) := by kernel_rfl
        rw [← e]
        exact hmg0
      have e := hmg.symm.trans n.m_law
      cases e
      obtain ⟨fd, F⟩ := n.F_law
      have b := L2.FunD.bindsA (ps := ["script"]) F fun _ _ _ _ _ _ us hl => match us, hl with | [_], _ => rfl
      exact ⟨K, fd, Pu.spF K 1 Lk71.p_law, KX, fun s v => b s [v] rfl, fun H a ns hl _ hS => Pu.law_by hp H a ns hl hS, fun base _ _ => Lk71.ok_law n F⟩
set_option Elab.async false
theorem PySem.Challenge.cw_goodturns_k71_teeth_by_turns_holds : PySem.Challenge.rw_goodturns_k71_teeth_by_turns.Holds := by
  exact Lk71.head Lk71.law_ok
