import PyProof.Rows.All
import Wide.All
import OpenK.AllK
import Wide.FinOn
import HandS.ForMost
import HandS.Exc
import HandS.TryOnly
import HandS.ExcOwn
import HandS.WordsExc
import HandS.IsInst
import HandS.TupAny
import HandS.Style
import PySem.Challenge.RW_gapscribe_k48_whole_side_by_side
set_option Elab.async false
set_option linter.all false
set_option maxRecDepth 100000
set_option maxHeartbeats 4000000
/-! A layer over the hand layer: values as data (frozen, in a part F of the heap that only grows) and a few mutable objects (by address). -/
namespace Gs
open PySem PySem.Spec PyProof.Rows L2

/-- data: what a value is, all the way down; adr: a mutable object, by its address; sq: a list that is read alone -/
inductive D where
  | non | bl (b : Bool) | int (i : Int) | str (s : Str)
  | tup (ds : List D) | lst (ds : List D) | sq (ds : List D)
  | obj (C : Addr) (ns : List Str) (ds : List D) | adr (a : Addr)

mutual
inductive DAt (K : PySem.W.Frag) (F : Hp) : V → D → Prop
  | non : DAt K F .non .non
  | bl {b} : DAt K F (.bl b) (.bl b)
  | int {i} : DAt K F (.int i) (.int i)
  | str {s} : DAt K F (.str s) (.str s)
  | adr {a} : DAt K F (.ref a) (.adr a)
  | tup {a xs ds} : F a = some (.tup xs) → DAts K F xs ds → DAt K F (.ref a) (.tup ds)
  | lst {a xs ds} : F a = some (.lst xs) → DAts K F xs ds → DAt K F (.ref a) (.lst ds)
  | sq {a xs ds} : SqL K F a xs → DAts K F xs ds → DAt K F (.ref a) (.sq ds)
  | obj {a C dx xs ns ds} : F a = some (.ins C dx (ns.zip xs)) → ns.length = xs.length → DAts K F xs ds → DAt K F (.ref a) (.obj C ns ds)
inductive DAts (K : PySem.W.Frag) (F : Hp) : List V → List D → Prop
  | nil : DAts K F [] []
  | cons {v d vs ds} : DAt K F v d → DAts K F vs ds → DAts K F (v :: vs) (d :: ds)
end

mutual
theorem DAt.mono {K : PySem.W.Frag} {F F' : Hp} (s : Same F F') : ∀ {v : V} {d : D}, DAt K F v d → DAt K F' v d
  | _, _, .non => .non
  | _, _, .bl => .bl
  | _, _, .int => .int
  | _, _, .str => .str
  | _, _, .adr => .adr
  | _, _, .tup h t => .tup (s _ _ h) (DAts.mono s t)
  | _, _, .lst h t => .lst (s _ _ h) (DAts.mono s t)
  | _, _, .sq h t => .sq (s.seq h) (DAts.mono s t)
  | _, _, .obj h l t => .obj (s _ _ h) l (DAts.mono s t)
theorem DAts.mono {K : PySem.W.Frag} {F F' : Hp} (s : Same F F') : ∀ {vs : List V} {ds : List D}, DAts K F vs ds → DAts K F' vs ds
  | _, _, .nil => .nil
  | _, _, .cons h t => .cons (DAt.mono s h) (DAts.mono s t)
end

section
variable {K : PySem.W.Frag} {F F' H H' : Hp} {vs ws : List V} {ds es : List D}
theorem DAts.length : ∀ {vs : List V} {ds : List D}, DAts K F vs ds → vs.length = ds.length
  | _, _, .nil => rfl
  | _, _, .cons _ t => by rw [List.length_cons, List.length_cons, t.length]
theorem DAts.get : ∀ {vs : List V} {ds : List D} {i : Nat} {d : D}, DAts K F vs ds → ds[i]? = some d → ∃ v, vs[i]? = some v ∧ DAt K F v d
  | _, _, _, _, .nil, e => by simp at e
  | _, _, 0, _, .cons h _, e => by simp at e; subst e; exact ⟨_, rfl, h⟩
  | _, _, i + 1, d, .cons _ t, e => by
    obtain ⟨v, h1, h2⟩ := DAts.get (i := i) (d := d) t (by simpa using e)
    exact ⟨v, by simpa using h1, h2⟩
theorem DAts.getV : ∀ {vs : List V} {ds : List D} {i : Nat} {v : V}, DAts K F vs ds → vs[i]? = some v → ∃ d, ds[i]? = some d ∧ DAt K F v d
  | _, _, _, _, .nil, e => by simp at e
  | _, _, 0, _, .cons h _, e => by simp at e; subst e; exact ⟨_, rfl, h⟩
  | _, _, i + 1, d, .cons _ t, e => by
    obtain ⟨v, h1, h2⟩ := DAts.getV (i := i) (v := d) t (by simpa using e)
    exact ⟨v, by simpa using h1, h2⟩
theorem DAts.append : ∀ {vs ws : List V} {ds es : List D}, DAts K F vs ds → DAts K F ws es → DAts K F (vs ++ ws) (ds ++ es)
  | _, _, _, _, .nil, s => s
  | _, _, _, _, .cons h t, s => .cons h (t.append s)
theorem DAts.take : ∀ {vs : List V} {ds : List D} (n : Nat), DAts K F vs ds → DAts K F (vs.take n) (ds.take n)
  | _, _, 0, _ => .nil
  | _, _, _ + 1, .nil => .nil
  | _, _, n + 1, .cons r t => .cons r (DAts.take n t)
theorem DAts.drop : ∀ {vs : List V} {ds : List D} (n : Nat), DAts K F vs ds → DAts K F (vs.drop n) (ds.drop n)
  | _, _, 0, r => r
  | _, _, _ + 1, .nil => .nil
  | _, _, n + 1, .cons _ t => DAts.drop n t
theorem DAts.reverse : ∀ {vs : List V} {ds : List D}, DAts K F vs ds → DAts K F vs.reverse ds.reverse
  | _, _, .nil => .nil
  | _, _, .cons h t => by
    rw [List.reverse_cons, List.reverse_cons]
    exact (DAts.reverse t).append (.cons h .nil)
/-- the last one apart -/
theorem DAts.snoc {d : D} : ∀ {ds : List D} {vs : List V}, DAts K F vs (ds ++ [d]) → ∃ ws v, vs = ws ++ [v] ∧ DAts K F ws ds ∧ DAt K F v d
  | [], _, .cons h .nil => ⟨[], _, rfl, .nil, h⟩
  | _ :: r, _, .cons h t => by
    obtain ⟨ws, v, e, h1, h2⟩ := DAts.snoc (ds := r) t
    exact ⟨_ :: ws, v, by rw [e]; rfl, .cons h h1, h2⟩
theorem DAts.ints : ∀ {ns : List Int} {vs : List V}, DAts K F vs (ns.map D.int) → vs = ns.map V.int
  | [], _, .nil => rfl
  | _ :: r, _, .cons .int t => by rw [DAts.ints (ns := r) t]; rfl
theorem DAts.of_ints : ∀ {ns : List Int}, DAts K F (ns.map V.int) (ns.map D.int)
  | [] => .nil
  | _ :: r => .cons .int (DAts.of_ints (ns := r))
theorem DAts.strs : ∀ {ns : List Str} {vs : List V}, DAts K F vs (ns.map D.str) → vs = ns.map V.str
  | [], _, .nil => rfl
  | _ :: r, _, .cons .str t => by rw [DAts.strs (ns := r) t]; rfl
end

/-! ### the mutable ones -/
inductive MO where
  | lst (ds : List D) | ins (C : Addr) (fs : List (Str × D))
abbrev Mu := Addr → Option MO
def Mu.put (μ : Mu) (a : Addr) (o : MO) : Mu := fun b => if b = a then some o else μ b
def Mu.none : Mu := fun _ => Option.none
theorem Mu.put_same {μ : Mu} {a : Addr} {o : MO} : μ.put a o a = some o := by unfold Mu.put; rw [if_pos rfl]
theorem Mu.put_ne {μ : Mu} {a b : Addr} {o : MO} (h : b ≠ a) : μ.put a o b = μ b := by unfold Mu.put; rw [if_neg h]
theorem Mu.put_put {μ : Mu} {a : Addr} {o u : MO} : (μ.put a o).put a u = μ.put a u := by
  funext b; unfold Mu.put; split <;> rfl
theorem Mu.put_comm {μ : Mu} {a b : Addr} {o u : MO} (h : a ≠ b) : (μ.put a o).put b u = (μ.put b u).put a o := by
  funext c; unfold Mu.put
  by_cases h1 : c = b
  · subst h1; rw [if_pos rfl, if_neg (Ne.symm h), if_pos rfl]
  · rw [if_neg h1]
    by_cases h2 : c = a
    · rw [if_pos h2, if_pos h2]
    · rw [if_neg h2, if_neg h2, if_neg h1]
def FAts (K : PySem.W.Frag) (F : Hp) : List (Str × V) → List (Str × D) → Prop := Paired fun p q => p.1 = q.1 ∧ DAt K F p.2 q.2
def MOAt (K : PySem.W.Frag) (F H : Hp) (a : Addr) : MO → Prop
  | .lst ds => ∃ xs, H a = some (.lst xs) ∧ DAts K F xs ds
  | .ins C fs => ∃ dx gs, H a = some (.ins C dx gs) ∧ FAts K F gs fs
theorem FAts.mono {K : PySem.W.Frag} {F F' : Hp} (s : Same F F') : ∀ {gs : List (Str × V)} {fs : List (Str × D)}, FAts K F gs fs → FAts K F' gs fs
  | _, _, .nil => .nil
  | _, _, .cons h t => .cons ⟨h.1, h.2.mono s⟩ (FAts.mono s t)
theorem FAts.lookup {K : PySem.W.Frag} {F : Hp} {f : Str} {d : D} : ∀ {gs : List (Str × V)} {fs : List (Str × D)}, FAts K F gs fs → fs.lookup f = some d → ∃ v, gs.lookup f = some v ∧ DAt K F v d
  | _, _, .nil, e => by simp at e
  | (g, v) :: gs, (g', d') :: fs, .cons h t, e => by
    obtain ⟨h1, h2⟩ := h
    have h1' : g = g' := h1
    subst h1'
    by_cases hf : f = g
    · subst hf
      have e' : d' = d := by simpa [List.lookup] using e
      subst e'
      exact ⟨v, by simp [List.lookup], h2⟩
    · have hf' : (f == g) = false := by simpa using hf
      have e' : fs.lookup f = some d := by simpa [List.lookup, hf'] using e
      obtain ⟨v', q1, q2⟩ := FAts.lookup t e'
      exact ⟨v', by simpa [List.lookup, hf'] using q1, q2⟩
theorem FAts.lookup_none {K : PySem.W.Frag} {F : Hp} {f : Str} : ∀ {gs : List (Str × V)} {fs : List (Str × D)}, FAts K F gs fs → fs.lookup f = none → gs.lookup f = none
  | _, _, .nil, e => by simp
  | (g, v) :: gs, (g', d') :: fs, .cons h t, e => by
    obtain ⟨h1, h2⟩ := h
    have h1' : g = g' := h1
    subst h1'
    by_cases hf : f = g
    · subst hf
      simp [List.lookup] at e
    · have hf' : (f == g) = false := by simpa using hf
      have e' : fs.lookup f = none := by simpa [List.lookup, hf'] using e
      have q1 := FAts.lookup_none t e'
      simpa [List.lookup, hf'] using q1
def putD (f : Str) (d : D) : List (Str × D) → List (Str × D)
  | [] => [(f, d)]
  | (g, x) :: r => if g = f then (g, d) :: r else (g, x) :: putD f d r
theorem FAts.put {K : PySem.W.Frag} {F : Hp} {f : Str} {v : V} {d : D} (h : DAt K F v d) : ∀ {gs : List (Str × V)} {fs : List (Str × D)}, FAts K F gs fs → FAts K F (putF f v gs) (putD f d fs)
  | _, _, .nil => .cons ⟨rfl, h⟩ .nil
  | (g, x) :: gs, (g', x') :: fs, .cons r t => by
    obtain ⟨h1, h2⟩ := r
    have h1' : g = g' := h1
    subst h1'
    unfold putF putD
    by_cases e : g = f
    · rw [if_pos e, if_pos e]
      exact .cons ⟨rfl, h⟩ t
    · rw [if_neg e, if_neg e]
      exact .cons ⟨rfl, h2⟩ (FAts.put h t)
theorem FAts.length {K : PySem.W.Frag} {F : Hp} {gs : List (Str × V)} {fs : List (Str × D)} (h : FAts K F gs fs) : gs.length = fs.length := Paired.length h
theorem FAts.split {K : PySem.W.Frag} {F : Hp} : ∀ {gs : List (Str × V)} {fs : List (Str × D)}, FAts K F gs fs → gs = (fs.map (·.1)).zip (gs.map (·.2)) ∧ (fs.map (·.1)).length = (gs.map (·.2)).length ∧ DAts K F (gs.map (·.2)) (fs.map (·.2))
  | _, _, .nil => ⟨rfl, rfl, .nil⟩
  | (g, v) :: gs, (g', d') :: fs, .cons h t => by
    obtain ⟨h1, h2⟩ := h
    have h1' : g = g' := h1
    subst h1'
    obtain ⟨e1, e2, e3⟩ := FAts.split t
    refine ⟨?_, ?_, .cons h2 e3⟩
    · show (g, v) :: gs = (g, v) :: (fs.map (·.1)).zip (gs.map (·.2))
      rw [← e1]
    · show (fs.map (·.1)).length + 1 = (gs.map (·.2)).length + 1
      rw [e2]
/-- a frozen object's attribute -/
def getD : List Str → List D → Str → Option D
  | n :: ns, d :: ds, f => if f = n then some d else getD ns ds f
  | _, _, _ => none
theorem getD_ok {K : PySem.W.Frag} {F : Hp} {f : Str} {d : D} : ∀ {ns : List Str} {xs : List V} {ds : List D}, DAts K F xs ds → getD ns ds f = some d → ∃ v, (ns.zip xs).lookup f = some v ∧ DAt K F v d
  | [], _, _, _, e => by simp [getD] at e
  | n :: ns, _, _, .nil, e => by simp [getD] at e
  | n :: ns, _, _, .cons (v := v) (d := d') h t, e => by
    unfold getD at e
    by_cases hf : f = n
    · rw [if_pos hf] at e
      have e' : d' = d := Option.some.inj e
      subst e'
      subst hf
      exact ⟨v, by simp [List.zip, List.lookup], h⟩
    · rw [if_neg hf] at e
      obtain ⟨v', q1, q2⟩ := getD_ok t e
      have hf' : (f == n) = false := by simpa using hf
      refine ⟨v', ?_, q2⟩
      show List.lookup f ((n, v) :: ns.zip _) = some v'
      simpa [List.lookup, hf'] using q1
theorem getD_none {f : Str} : ∀ {ns : List Str} {xs : List V}, ns.contains f = false → (ns.zip xs).lookup f = none
  | [], _, _ => by simp
  | n :: ns, [], _ => by simp
  | n :: ns, x :: xs, e => by
    have e' : ¬ f = n ∧ ns.contains f = false := by
      have q : (f == n || ns.contains f) = false := by simpa [List.contains_cons] using e
      rw [Bool.or_eq_false_iff] at q
      exact ⟨by simpa using q.1, q.2⟩
    have hf' : (f == n) = false := by simpa using e'.1
    show List.lookup f ((n, x) :: ns.zip xs) = none
    simpa [List.lookup, hf'] using getD_none (xs := xs) e'.2

structure MRep (K : PySem.W.Frag) (μ : Mu) (F H : Hp) : Prop where
  sub : Same F H
  mu : ∀ a mo, μ a = some mo → F a = none ∧ MOAt K F H a mo
theorem same_upd {H : Hp} {p : Addr} {o : HO} (h : H p = none) : Same H (upd H p o) := fun b x e => by
  rw [upd_ne (ne_of_none e h)]
  exact e
section
variable {K : PySem.W.Frag} {μ μ' : Mu} {F F' H H' : Hp} {a p : Addr} {o : HO} {mo : MO}
theorem MOAt.there (h : MOAt K F H a mo) : ∃ u, H a = some u := by
  cases mo with
  | lst ds => obtain ⟨xs, e, _⟩ := h; exact ⟨_, e⟩
  | ins C fs => obtain ⟨dx, gs, e, _⟩ := h; exact ⟨_, e⟩
theorem MOAt.mono (s : Same F F') (e : H' a = H a) (h : MOAt K F H a mo) : MOAt K F' H' a mo := by
  cases mo with
  | lst ds => obtain ⟨xs, e1, t⟩ := h; exact ⟨xs, e.trans e1, t.mono s⟩
  | ins C fs => obtain ⟨dx, gs, e1, t⟩ := h; exact ⟨dx, gs, e.trans e1, t.mono s⟩
theorem MRep.fresh (m : MRep K μ F H) (hp : H p = none) : F p = none := m.sub.free hp
theorem MRep.free (m : MRep K μ F H) (hp : H p = none) : μ p = none := by
  cases e : μ p with
  | none => rfl
  | some mo =>
    obtain ⟨u, q⟩ := (m.mu p mo e).2.there
    rw [hp] at q; cases q
/-- a new frozen object -/
theorem MRep.grow (m : MRep K μ F H) (hp : H p = none) (o : HO) : MRep K μ (upd F p o) (upd H p o) := by
  have fp := m.fresh hp
  refine ⟨fun b x e => ?_, fun b mo e => ?_⟩
  · by_cases hb : b = p
    · subst hb; rw [upd_same] at e ⊢; exact e
    · rw [upd_ne hb] at e ⊢; exact m.sub b x e
  · obtain ⟨h1, h2⟩ := m.mu b mo e
    have hb : b ≠ p := by
      obtain ⟨u, q⟩ := h2.there
      exact ne_of_none q hp
    exact ⟨by rw [upd_ne hb]; exact h1, h2.mono (same_upd fp) (upd_ne hb)⟩
/-- the heap grows beside -/
theorem MRep.beside (m : MRep K μ F H) (hp : H p = none) (o : HO) : MRep K μ F (upd H p o) := by
  refine ⟨fun b x e => same_upd hp b x (m.sub b x e), fun b mo e => ?_⟩
  obtain ⟨h1, h2⟩ := m.mu b mo e
  have hb : b ≠ p := by
    obtain ⟨u, q⟩ := h2.there
    exact ne_of_none q hp
  exact ⟨h1, h2.mono (Same.refl _) (upd_ne hb)⟩
/-- a mutable object is new, or is written -/
theorem MRep.put (m : MRep K μ F H) (fp : F p = none) (h : MOAt K F (upd H p o) p mo) : MRep K (μ.put p mo) F (upd H p o) := by
  refine ⟨fun b x e => ?_, fun b mo' e => ?_⟩
  · rw [upd_ne (ne_of_none e fp)]; exact m.sub b x e
  · by_cases hb : b = p
    · subst hb
      rw [Mu.put_same] at e
      cases e
      exact ⟨fp, h⟩
    · rw [Mu.put_ne hb] at e
      obtain ⟨h1, h2⟩ := m.mu b mo' e
      exact ⟨h1, h2.mono (Same.refl _) (upd_ne hb)⟩
theorem MRep.newL {xs : List V} {ds : List D} (m : MRep K μ F H) (hp : H p = none) (t : DAts K F xs ds) : MRep K (μ.put p (.lst ds)) F (upd H p (.lst xs)) := m.put (m.fresh hp) ⟨xs, upd_same, t⟩
theorem MRep.writeL {xs : List V} {ds : List D} {mo : MO} (m : MRep K μ F H) (hp : μ p = some mo) (t : DAts K F xs ds) : MRep K (μ.put p (.lst ds)) F (upd H p (.lst xs)) := m.put (m.mu p mo hp).1 ⟨xs, upd_same, t⟩
theorem MRep.list {ds : List D} (m : MRep K μ F H) (hp : μ p = some (.lst ds)) : ∃ xs, H p = some (.lst xs) ∧ DAts K F xs ds := (m.mu p _ hp).2
theorem MRep.inst {C : Addr} {fs : List (Str × D)} (m : MRep K μ F H) (hp : μ p = some (.ins C fs)) : ∃ dx gs, H p = some (.ins C dx gs) ∧ FAts K F gs fs := (m.mu p _ hp).2
/-- fewer are spoken of -/
theorem MRep.less (m : MRep K μ F H) (h : ∀ a mo, μ' a = some mo → μ a = some mo) : MRep K μ' F H := ⟨m.sub, fun a mo e => m.mu a mo (h a mo e)⟩
theorem MRep.none (m : MRep K μ F H) : MRep K Mu.none F H := m.less fun _ _ e => nomatch e
/-- a mutable object is frozen -/
theorem MRep.freeze (m : MRep K μ F H) {u : HO} (hp : H p = some u) (fp : F p = Option.none) (h : ∀ a mo, μ' a = some mo → μ a = some mo ∧ a ≠ p) : MRep K μ' (upd F p u) H := by
  refine ⟨fun b x e => ?_, fun b mo e => ?_⟩
  · by_cases hb : b = p
    · subst hb; rw [upd_same] at e; rw [hp]; exact e
    · rw [upd_ne hb] at e; exact m.sub b x e
  · obtain ⟨h1, h2⟩ := h b mo e
    obtain ⟨q1, q2⟩ := m.mu b mo h1
    exact ⟨by rw [upd_ne h2]; exact q1, q2.mono (same_upd fp) rfl⟩
end

/-! ### where one stands -/
abbrev Rho := List (Option D)
structure Rep (K : PySem.W.Frag) (F0 : Hp) (ρ : Rho) (μ : Mu) (F : Hp) (σ : L2.St) (H : Hp) : Prop where
  fro : Same F0 F
  m : MRep K μ F H
  len : σ.length = ρ.length
  at_ : ∀ (i : Nat) (d : D), ρ[i]? = some (some d) → ∃ v, σ[i]? = some (some v) ∧ DAt K F v d
section
variable {K : PySem.W.Frag} {F0 F F' H H' : Hp} {ρ : Rho} {μ μ' : Mu} {σ : L2.St} {v : V} {d : D}
theorem Rep.go (R : Rep K F0 ρ μ F σ H) (s : Same F F') (m : MRep K μ' F' H') : Rep K F0 ρ μ' F' σ H' :=
  ⟨R.fro.trans s, m, R.len, fun i d e => let ⟨v, e1, h⟩ := R.at_ i d e; ⟨v, e1, h.mono s⟩⟩
theorem Rep.set (R : Rep K F0 ρ μ F σ H) (i : Nat) (h : DAt K F v d) : Rep K F0 (ρ.set i (some d)) μ F (σ.set i (some v)) H := by
  refine ⟨R.fro, R.m, by rw [List.length_set, List.length_set, R.len], fun j d' e => ?_⟩
  by_cases hj : i = j
  · subst hj
    by_cases hl : i < ρ.length
    · rw [List.getElem?_set_self hl] at e
      have e' : d = d' := Option.some.inj (Option.some.inj e)
      subst e'
      exact ⟨v, List.getElem?_set_self (by rw [R.len]; exact hl), h⟩
    · rw [List.getElem?_eq_none (by rw [List.length_set]; omega)] at e
      cases e
  · rw [List.getElem?_set_ne hj] at e ⊢
    exact R.at_ j d' e
end

/-! ### the weakest readings -/
structure sem (X : Cx) (e : Expr) (σ : L2.St) (H : Hp) (Q : VK) : Prop where
  run : ∀ pins s, Inv X pins σ H s → wpAny (model X.prog X.w) X.A (eval e X.env) (EP X pins σ Q) X.xe s
structure semT (X : Cx) (e : Expr) (σ : L2.St) (H : Hp) (Q : Bool → Hp → Prop) : Prop where
  run : ∀ pins s, Inv X pins σ H s → wpAny (model X.prog X.w) X.A (isTrue e X.env (eval e X.env)) (TP X pins σ Q) X.xe s
structure semW (X : Cx) (e : Expr) (σ : L2.St) (H : Hp) (Q : Bool → Hp → Prop) : Prop where
  run : ∀ whole pins s, Inv X pins σ H s → wpAny (model X.prog X.w) X.A (isTrue e X.env whole) (TP X pins σ Q) X.xe s
structure semA (X : Cx) (es : List Expr) (σ : L2.St) (H : Hp) (Q : List V → Hp → Prop) : Prop where
  run : ∀ pos pins s, Inv X pins σ H s → wpAny (model X.prog X.w) X.A (spliced (backTo pos (starEach es X.env))) (AP X pins σ Q) X.xe s
structure semS (X : Cx) (st : Stmt) (D : Ends) (σ : L2.St) (H : Hp) : Prop where
  run : ∀ pins s, Inv X pins σ H s → wpAny (model X.prog X.w) X.A (exec st X.env) (SP X pins D) X.xe s
structure semSs (X : Cx) (st : List Stmt) (D : Ends) (σ : L2.St) (H : Hp) : Prop where
  run : ∀ pins s, Inv X pins σ H s → wpAny (model X.prog X.w) X.A (execs st X.env) (SP X pins D) X.xe s
structure semG (X : Cx) (tg : Expr) (v : V) (σ : L2.St) (H : Hp) (Q : L2.St → Hp → Prop) : Prop where
  run : ∀ pins s u, Inv X pins σ H s → RelV v u → wpAny (model X.prog X.w) X.A (assign tg X.env u) (fun _ s' => ∃ σ' H', Inv X pins σ' H' s' ∧ Q σ' H') X.xe s
section
variable {X : Cx} {e : Expr} {es : List Expr} {st : Stmt} {sts : List Stmt} {tg : Expr}
theorem pe_s : PE X e (sem X e) := ⟨fun pins s σ H Q I h => h.run pins s I⟩
theorem pt_s : PT X e (semT X e) := ⟨fun pins s σ H Q I h => h.run pins s I⟩
theorem pw_s : PW X e (semW X e) := ⟨fun wh pins s σ H Q I h => h.run wh pins s I⟩
theorem pa_s : PA X es (semA X es) := ⟨fun pos pins s σ H Q I h => h.run pos pins s I⟩
theorem ps_s : PS X st (semS X st) := ⟨fun pins s σ H D I h => h.run pins s I⟩
theorem pss_s : PSs X sts (semSs X sts) := ⟨fun pins s σ H D I h => h.run pins s I⟩
theorem pg_s : PG X tg (semG X tg) := ⟨fun pins s σ H v u Q I r h => h.run pins s u I r⟩
theorem of_pe {t : TE} (h : PE X e t) {σ : L2.St} {H : Hp} {Q : VK} (q : t σ H Q) : sem X e σ H Q := ⟨fun pins s I => h.run pins s σ H Q I q⟩
theorem of_pt {t : TT} (h : PT X e t) {σ : L2.St} {H : Hp} {Q : Bool → Hp → Prop} (q : t σ H Q) : semT X e σ H Q := ⟨fun pins s I => h.run pins s σ H Q I q⟩
theorem of_pw {t : TT} (h : PW X e t) {σ : L2.St} {H : Hp} {Q : Bool → Hp → Prop} (q : t σ H Q) : semW X e σ H Q := ⟨fun wh pins s I => h.run wh pins s σ H Q I q⟩
theorem of_pa {t : TA} (h : PA X es t) {σ : L2.St} {H : Hp} {Q : List V → Hp → Prop} (q : t σ H Q) : semA X es σ H Q := ⟨fun pos pins s I => h.run pos pins s σ H Q I q⟩
theorem of_ps {t : TS} (h : PS X st t) {σ : L2.St} {H : Hp} {D : Ends} (q : t D σ H) : semS X st D σ H := ⟨fun pins s I => h.run pins s σ H D I q⟩
theorem of_pss {t : TS} (h : PSs X sts t) {σ : L2.St} {H : Hp} {D : Ends} (q : t D σ H) : semSs X sts D σ H := ⟨fun pins s I => h.run pins s σ H D I q⟩
end

/-! ### the judgements -/
def J (X : Cx) (F0 : Hp) (e : Expr) (ρ : Rho) (μ : Mu) (Q : D → Mu → Prop) : Prop :=
  ∀ F σ H (q : VK), Rep X.K F0 ρ μ F σ H → (∀ v d μ' F' H', Q d μ' → DAt X.K F' v d → Same F F' → MRep X.K μ' F' H' → q v H') → sem X e σ H q
abbrev JV (X : Cx) (F0 : Hp) (e : Expr) (ρ : Rho) (μ : Mu) (d : D) (μ1 : Mu) : Prop := J X F0 e ρ μ fun d' μ' => d' = d ∧ μ' = μ1
def JA (X : Cx) (F0 : Hp) (es : List Expr) (ρ : Rho) (μ : Mu) (Q : List D → Mu → Prop) : Prop :=
  ∀ F σ H (q : List V → Hp → Prop), Rep X.K F0 ρ μ F σ H → (∀ vs ds μ' F' H', Q ds μ' → DAts X.K F' vs ds → Same F F' → MRep X.K μ' F' H' → q vs H') → semA X es σ H q
abbrev JVs (X : Cx) (F0 : Hp) (es : List Expr) (ρ : Rho) (μ : Mu) (ds : List D) (μ1 : Mu) : Prop := JA X F0 es ρ μ fun ds' μ' => ds' = ds ∧ μ' = μ1
/-- a test, that changes nothing -/
def JB (X : Cx) (F0 : Hp) (e : Expr) (ρ : Rho) (μ : Mu) (b : Bool) : Prop :=
  ∀ F σ H (q : Bool → Hp → Prop), Rep X.K F0 ρ μ F σ H → (∀ F' H', Same F F' → MRep X.K μ F' H' → q b H') → semT X e σ H q
def JW (X : Cx) (F0 : Hp) (e : Expr) (ρ : Rho) (μ : Mu) (b : Bool) : Prop :=
  ∀ F σ H (q : Bool → Hp → Prop), Rep X.K F0 ρ μ F σ H → (∀ F' H', Same F F' → MRep X.K μ F' H' → q b H') → semW X e σ H q
structure DEnds where
  nx : Rho → Mu → Prop
  rt : D → Mu → Prop
  bk : Rho → Mu → Prop := fun _ _ => False
  ct : Rho → Mu → Prop := fun _ _ => False
structure EC (K : PySem.W.Frag) (F0 F : Hp) (D : Ends) (DE : DEnds) : Prop where
  nx : ∀ ρ' μ' F' σ' H', DE.nx ρ' μ' → Rep K F0 ρ' μ' F' σ' H' → Same F F' → D.nx σ' H'
  rt : ∀ v d μ' F' H', DE.rt d μ' → DAt K F' v d → Same F F' → MRep K μ' F' H' → D.rt v H'
  bk : ∀ ρ' μ' F' σ' H', DE.bk ρ' μ' → Rep K F0 ρ' μ' F' σ' H' → Same F F' → D.bk σ' H'
  ct : ∀ ρ' μ' F' σ' H', DE.ct ρ' μ' → Rep K F0 ρ' μ' F' σ' H' → Same F F' → D.ct σ' H'
theorem EC.ext {K : PySem.W.Frag} {F0 F F1 : Hp} {D : Ends} {DE : DEnds} (c : EC K F0 F D DE) (s : Same F F1) : EC K F0 F1 D DE :=
  ⟨fun ρ' μ' F' σ' H' a b t => c.nx ρ' μ' F' σ' H' a b (s.trans t), fun v d μ' F' H' a b t => c.rt v d μ' F' H' a b (s.trans t), fun ρ' μ' F' σ' H' a b t => c.bk ρ' μ' F' σ' H' a b (s.trans t), fun ρ' μ' F' σ' H' a b t => c.ct ρ' μ' F' σ' H' a b (s.trans t)⟩
def JS (X : Cx) (F0 : Hp) (st : Stmt) (ρ : Rho) (μ : Mu) (DE : DEnds) : Prop :=
  ∀ F σ H D, Rep X.K F0 ρ μ F σ H → EC X.K F0 F D DE → semS X st D σ H
def JSs (X : Cx) (F0 : Hp) (sts : List Stmt) (ρ : Rho) (μ : Mu) (DE : DEnds) : Prop :=
  ∀ F σ H D, Rep X.K F0 ρ μ F σ H → EC X.K F0 F D DE → semSs X sts D σ H

/-- what is wished of the one error -/
def RW (TL : Addr) (F0 : Hp) (E : XK) : Prop := ∀ H', Same F0 H' → E (.ref TL) none H'
theorem RW.ext {TL : Addr} {F0 F : Hp} {E : XK} (s : Same F0 F) (r : RW TL F0 E) : RW TL F E := fun H' h => r H' (s.trans h)
structure GX (X : Cx) (E : XK) : Prop where
  nd : X.N.Nodup
  calm : X.calm = true
  po : PassesOwn (model X.prog X.w) X.A X.env X.xe
  pa : Passes (L2.CX X.prog X.w) X E

/-! ### promises -/
abbrev Fn := List D → Mu → (D → Mu → Prop) → Prop → Prop
def SpD (K : PySem.W.Frag) (TL : Addr) (f : Fn) : Sp := fun vs H Q E => ∃ F ds μ q R, DAts K F vs ds ∧ MRep K μ F H ∧ f ds μ q R ∧ (∀ v d μ' F' H', q d μ' → DAt K F' v d → Same F F' → MRep K μ' F' H' → Q v H') ∧ (R → RW TL F E)
def startD (N : List Str) (ds : List D) : Rho := ds.map some ++ List.replicate (N.length - ds.length) none
theorem rep_start {K : PySem.W.Frag} {N : List Str} {F H : Hp} {μ : Mu} {vs : List V} {ds : List D} (h : DAts K F vs ds) (m : MRep K μ F H) : Rep K F (startD N ds) μ F (L2.start N vs) H := by
  refine ⟨Same.refl _, m, ?_, fun i d e => ?_⟩
  · unfold L2.start startD
    rw [List.length_append, List.length_append, List.length_map, List.length_map, h.length]
    simp
  · unfold startD at e
    unfold L2.start
    by_cases hi : i < ds.length
    · rw [List.getElem?_append_left (by rw [List.length_map]; exact hi), List.getElem?_map] at e
      cases q : ds[i]? with
      | none => rw [q] at e; cases e
      | some d' =>
        rw [q] at e
        have e' : d' = d := Option.some.inj (Option.some.inj e)
        subst e'
        obtain ⟨v, h1, h2⟩ := h.get q
        refine ⟨v, ?_, h2⟩
        rw [List.getElem?_append_left (by rw [List.length_map, h.length]; exact hi), List.getElem?_map, h1]
        rfl
    · rw [List.getElem?_append_right (by rw [List.length_map]; omega), List.getElem?_replicate] at e
      split at e <;> cases e
/-- a def of the text keeps its promise by its body -/
theorem fn_ok {P : Program} {w : World} {K : PySem.W.Frag} {mg : Str → Option Value} {base : Heap} {x qual : Str} {st : Stmt} {fa TL : Addr} {fd : FuncData} {N ps : List Str} {k : Nat} {f : Fn} (F : Fun K x qual st fa fd) (S : FnScope N ps (defScope st)) (len : ∀ ds μ q R, f ds μ q R → ds.length = ps.length)
    (hbody : ∀ (cdv : Value) (A : Around) (outer : List Env) (s : Shared) (H : Hp) (E : XK) (F0 : Hp) (ds : List D) (μ : Mu) (q : D → Mu → Prop) (R : Prop), Room k (A.deeper (envOfC qual (defScope st) s.heap.objs.size fa cdv)) →
      GX (cxOf (L2.CX P w) P w K mg base N qual (defScope st) fa cdv A outer s H E) E → f ds μ q R → (R → RW TL F0 E) →
      JSs (cxOf (L2.CX P w) P w K mg base N qual (defScope st) fa cdv A outer s H E) F0 (defBody st) (startD N ds) μ { nx := fun _ μ' => q .non μ', rt := q }) : FnOk P w K mg base (L2.CX P w) (k + 1) fa fd ps (SpD K TL f) := by
  refine F.okX S (fun vs H Q E h => ?_) (fun cdv A outer s H vs Q E hr h => ?_)
  · obtain ⟨F, ds, μ, q, R, h1, _, h3, _⟩ := h
    rw [h1.length]
    exact len _ _ _ _ h3
  · obtain ⟨F0, ds, μ, q, R, h1, h2, h3, h4, h5⟩ := h
    refine ⟨semSs _ _, pss_s, ?_⟩
    refine hbody cdv A outer s H E F0 ds μ q R hr ⟨S.nd, rfl, passes_of rfl, passes_call (takes_of rfl rfl rfl rfl) fun _ _ _ _ z => z⟩ h3 h5 F0 (L2.start N vs) H _ (rep_start h1 h2) ⟨?_, ?_, ?_, ?_⟩
    · exact fun ρ' μ' F' σ' H' a b t => h4 .non .non μ' F' H' a .non t b.m
    · exact fun v d μ' F' H' a b t m => h4 v d μ' F' H' a b t m
    · exact fun _ _ _ _ _ z => z.elim
    · exact fun _ _ _ _ _ z => z.elim
/-- a def as its callers know it: by its name -/
structure Cal (P : Program) (w : World) (K : PySem.W.Frag) (mg : Str → Option Value) (base : Heap) (TL : Addr) (x : Str) (k : Nat) (f : Fn) : Prop where
  ex : ∃ a fd ps, mg x = some (.ref a) ∧ PySem.W.keepIn K (.ref a) = true ∧ Binds K fd ps [] ∧ FnOk P w K mg base (L2.CX P w) k a fd ps (SpD K TL f)
/-- a method of the class at C -/
structure Met (P : Program) (w : World) (K : PySem.W.Frag) (mg : Str → Option Value) (base : Heap) (TL C : Addr) (m : Str) (k : Nat) (f : Fn) : Prop where
  cl : Cls K C
  ex : ∃ a fd ps, Meth K C m a ∧ Binds K fd ps [] ∧ FnOk P w K mg base (L2.CX P w) k a fd ps (SpD K TL f)
/-- the class at C, made -/
structure Mak (P : Program) (w : World) (K : PySem.W.Frag) (mg : Str → Option Value) (base : Heap) (TL C : Addr) (x : Str) (k : Nat) (f : Fn) : Prop where
  ex : ∃ a fd ps, mg x = some (.ref C) ∧ Mk K C a ∧ Binds K fd ps [] ∧ FnOk P w K mg base (L2.CX P w) k a fd ps (SpD K TL f)
end Gs

/-! The rules of the layer: expressions. -/
namespace Gs
open PySem PySem.Spec PyProof.Rows L2
section
variable {X : Cx} {F0 F H : Hp} {σ : L2.St} {ρ : Rho} {μ μ1 μ2 μ3 : Mu} {a b c e o : Expr} {es : List Expr} {da db dc d : D} {ds : List D} {pos p apos : Pos} {Q Q' : D → Mu → Prop} {x : Str} {q : VK}
theorem small {n : Nat} (h : n ≤ 100000) : n ≤ sizeLine := Nat.le_trans h (by decide)
theorem smallT {n : Nat} (h : n ≤ 100000) : n < sizeLine := Nat.lt_of_le_of_lt h (by decide)
theorem J.mono (h : J X F0 e ρ μ Q) (f : ∀ d μ, Q d μ → Q' d μ) : J X F0 e ρ μ Q' := fun F σ H q R k => h F σ H q R fun v d μ' F' H' a => k v d μ' F' H' (f _ _ a)
theorem J.at (h : JV X F0 e ρ μ d μ1) (q : Q d μ1) : J X F0 e ρ μ Q := h.mono (by rintro _ _ ⟨rfl, rfl⟩; exact q)
theorem JV.run (h : JV X F0 e ρ μ d μ1) (R : Rep X.K F0 ρ μ F σ H) (k : ∀ v F' H', DAt X.K F' v d → Same F F' → MRep X.K μ1 F' H' → Rep X.K F0 ρ μ1 F' σ H' → q v H') : sem X e σ H q :=
  h F σ H q R (by rintro v _ _ F' H' ⟨rfl, rfl⟩ hv s m; exact k v F' H' hv s m (R.go s m))
theorem JV.run2 {q : V → V → Hp → Prop} (ha : JV X F0 a ρ μ da μ1) (hb : JV X F0 b ρ μ1 db μ2) (R : Rep X.K F0 ρ μ F σ H) (k : ∀ va vb F' H', DAt X.K F' va da → DAt X.K F' vb db → Same F F' → MRep X.K μ2 F' H' → Rep X.K F0 ρ μ2 F' σ H' → q va vb H') :
    sem X a σ H fun x H1 => sem X b σ H1 fun y H2 => q x y H2 :=
  ha.run R fun va F1 H1 h1 s1 m1 R1 => hb.run R1 fun vb F2 H2 h2 s2 m2 R2 => k va vb F2 H2 (h1.mono s2) h2 (s1.trans s2) m2 R2
/-- an operation on two values, on data -/
def RV2 (K : PySem.W.Frag) (r : R2) (da db : D) (μ : Mu) (d : D) : Prop := ∀ F H va vb q, DAt K F va da → DAt K F vb db → MRep K μ F H → (∀ v F' H', DAt K F' v d → Same F F' → MRep K μ F' H' → q v H') → r va vb H q
/-- a call on values, on data -/
def RCD (K : PySem.W.Frag) (r : List V → Hp → VK → Prop) (ds : List D) (μ : Mu) (d : D) : Prop := ∀ F H vs q, DAts K F vs ds → MRep K μ F H → (∀ v F' H', DAt K F' v d → Same F F' → MRep K μ F' H' → q v H') → r vs H q

/-! ### names, constants -/
theorem jv_var (i : Nat) {n : Str} (h : ρ[i]? = some (some d) := by rfl) (hN : X.N[i]? = some n := by rfl) (hv : Vis X.env.scope n := by first | exact Or.inl rfl | exact Or.inr (Or.inl rfl) | exact Or.inr (Or.inr rfl)) (hd : (n == ("__debug__" : Str)) = false := by decide)
    (hcd : (n == ("__classdict__" : Str)) = false := by decide) : JV X F0 (.Name n pos) ρ μ d μ := fun F σ H q R k =>
  let ⟨v, e, hv'⟩ := R.at_ i d h
  of_pe (pe_var hN hv hd hcd) ⟨v, e, k v _ _ F H ⟨rfl, rfl⟩ hv' (Same.refl _) R.m⟩
theorem jv_int {i : Int} {j : Nat} : JV X F0 (.Constant (.int i) j pos) ρ μ (.int i) μ := fun F σ H q R k => of_pe pe_int (k _ _ _ F H ⟨rfl, rfl⟩ .int (Same.refl _) R.m)
theorem jv_bl {i : Bool} {j : Nat} : JV X F0 (.Constant (.bool i) j pos) ρ μ (.bl i) μ := fun F σ H q R k => of_pe pe_bl (k _ _ _ F H ⟨rfl, rfl⟩ .bl (Same.refl _) R.m)
theorem jv_non {j : Nat} : JV X F0 (.Constant .none j pos) ρ μ .non μ := fun F σ H q R k => of_pe pe_non (k _ _ _ F H ⟨rfl, rfl⟩ .non (Same.refl _) R.m)
theorem jv_str {s : Str} {j : Nat} : JV X F0 (.Constant (.str s) j pos) ρ μ (.str s) μ := fun F σ H q R k => of_pe pe_str (k _ _ _ F H ⟨rfl, rfl⟩ .str (Same.refl _) R.m)
theorem jv_gint {n : Str} {i : Int} {u : Value} (hm : X.mg n = some u) (r : RelV (.int i) u) (hg : Gl X n := by rfl) (hd : (n == ("__debug__" : Str)) = false := by decide) : JV X F0 (.Name n pos) ρ μ (.int i) μ := fun F σ H q R k =>
  of_pe (pe_glob hg hm r hd) (k _ _ _ F H ⟨rfl, rfl⟩ .int (Same.refl _) R.m)

/-! ### operators -/
theorem jv_op {op : Operator} {r : R2} (ho : OpR X (binaryOp op) r) (hr : RV2 X.K r da db μ2 d) (ha : JV X F0 a ρ μ da μ1) (hb : JV X F0 b ρ μ1 db μ2) : JV X F0 (.BinOp a op b pos) ρ μ d μ2 := fun F σ H q R k =>
  of_pe (pe_op ho pe_s pe_s) (ha.run2 hb R fun va vb F1 H1 h1 h2 s m R1 => hr F1 H1 va vb q h1 h2 m fun v F2 H2 h3 s3 m3 => k v _ _ F2 H2 ⟨rfl, rfl⟩ h3 (s.trans s3) m3)
theorem jv_ix {r : R2} (hi : IxR X r) (hr : RV2 X.K r da db μ2 d) (ha : JV X F0 a ρ μ da μ1) (hb : JV X F0 b ρ μ1 db μ2) (hs : PlainIx b := by intro _ _; rfl) : JV X F0 (.Subscript a b pos) ρ μ d μ2 := fun F σ H q R k =>
  of_pe (pe_ix hi pe_s pe_s hs) (ha.run2 hb R fun va vb F1 H1 h1 h2 s m R1 => hr F1 H1 va vb q h1 h2 m fun v F2 H2 h3 s3 m3 => k v _ _ F2 H2 ⟨rfl, rfl⟩ h3 (s.trans s3) m3)
theorem jv_cmp {op : CmpOp} {r : R2} (ho : OpR X (compareOp op) r) (hr : RV2 X.K r da db μ2 d) (ha : JV X F0 a ρ μ da μ1) (hb : JV X F0 b ρ μ1 db μ2) (hm : behindInMarks op b = false := by first | exact nomark _ | rfl) : JV X F0 (.Compare a [op] [b] pos) ρ μ d μ2 := fun F σ H q R k =>
  of_pe (pe_cmpR ho pe_s pe_s hm) (ha.run2 hb R fun va vb F1 H1 h1 h2 s m R1 => hr F1 H1 va vb q h1 h2 m fun v F2 H2 h3 s3 m3 => k v _ _ F2 H2 ⟨rfl, rfl⟩ h3 (s.trans s3) m3)
variable {K : PySem.W.Frag}
theorem rv_i0 {g : Int → Int → V} {g' : Int → Int → D} {i j : Int} (h : ∀ F, DAt K F (g i j) (g' i j)) : RV2 K (rI0 g) (.int i) (.int j) μ (g' i j) := by
  intro F H va vb q h1 h2 m k
  cases h1; cases h2
  exact ⟨i, j, rfl, rfl, k _ F H (h F) (Same.refl _) m⟩
theorem rv_i {C : Int → Int → Prop} {g : Int → Int → V} {g' : Int → Int → D} {i j : Int} (hc : C i j) (h : ∀ F, DAt K F (g i j) (g' i j)) : RV2 K (rI C g) (.int i) (.int j) μ (g' i j) := by
  intro F H va vb q h1 h2 m k
  cases h1; cases h2
  exact ⟨i, j, rfl, rfl, hc, k _ F H (h F) (Same.refl _) m⟩
theorem jv_add {i j : Int} (ha : JV X F0 a ρ μ (.int i) μ1) (hb : JV X F0 b ρ μ1 (.int j) μ2) : JV X F0 (.BinOp a .Add b pos) ρ μ (.int (i + j)) μ2 := jv_op op_add (rv_i0 (g' := fun i j => .int (i + j)) fun _ => .int) ha hb
theorem jv_sub {i j : Int} (ha : JV X F0 a ρ μ (.int i) μ1) (hb : JV X F0 b ρ μ1 (.int j) μ2) : JV X F0 (.BinOp a .Sub b pos) ρ μ (.int (i - j)) μ2 := jv_op op_sub (rv_i0 (g' := fun i j => .int (i - j)) fun _ => .int) ha hb
theorem jv_mul {i j : Int} (hc : CMul i j) (ha : JV X F0 a ρ μ (.int i) μ1) (hb : JV X F0 b ρ μ1 (.int j) μ2) : JV X F0 (.BinOp a .Mult b pos) ρ μ (.int (i * j)) μ2 := jv_op op_mul (rv_i hc (g' := fun i j => .int (i * j)) fun _ => .int) ha hb
theorem jv_mod {i j : Int} (hc : 0 < j) (ha : JV X F0 a ρ μ (.int i) μ1) (hb : JV X F0 b ρ μ1 (.int j) μ2) : JV X F0 (.BinOp a .Mod b pos) ρ μ (.int (i % j)) μ2 := jv_op op_mod (rv_i (C := fun _ j => 0 < j) hc (g' := fun i j => .int (i % j)) fun _ => .int) ha hb
theorem jv_fdiv {i j : Int} (hc : CDiv i j) (ha : JV X F0 a ρ μ (.int i) μ1) (hb : JV X F0 b ρ μ1 (.int j) μ2) : JV X F0 (.BinOp a .FloorDiv b pos) ρ μ (.int (i / j)) μ2 := jv_op op_fdiv (rv_i hc (g' := fun i j => .int (i / j)) fun _ => .int) ha hb
theorem jv_pow {i j : Int} (hc : CPow i j) (ha : JV X F0 a ρ μ (.int i) μ1) (hb : JV X F0 b ρ μ1 (.int j) μ2) : JV X F0 (.BinOp a .Pow b pos) ρ μ (.int (i ^ j.toNat)) μ2 := jv_op op_pow (rv_i hc (g' := fun i j => .int (i ^ j.toNat)) fun _ => .int) ha hb
theorem jv_neg {i : Int} (ha : JV X F0 a ρ μ (.int i) μ1) : JV X F0 (.UnaryOp .USub a pos) ρ μ (.int (-i)) μ1 := fun F σ H q R k =>
  of_pe (pe_un un_neg pe_s) (ha.run R fun v F1 H1 h s m R1 => by
    cases h
    exact ⟨i, rfl, k _ _ _ F1 H1 ⟨rfl, rfl⟩ .int s m⟩)
theorem jv_addS {s t : Str} (hl : s.length + t.length ≤ 100000) (ha : JV X F0 a ρ μ (.str s) μ1) (hb : JV X F0 b ρ μ1 (.str t) μ2) : JV X F0 (.BinOp a .Add b pos) ρ μ (.str (s ++ t)) μ2 := by
  refine jv_op op_add_str ?_ ha hb
  intro F H va vb q h1 h2 m k
  cases h1; cases h2
  exact ⟨s, t, rfl, rfl, small hl, k _ F H .str (Same.refl _) m⟩
theorem jv_catT {xs ys : List D} (hl : xs.length + ys.length ≤ 100000) (ha : JV X F0 a ρ μ (.tup xs) μ1) (hb : JV X F0 b ρ μ1 (.tup ys) μ2) : JV X F0 (.BinOp a .Add b pos) ρ μ (.tup (xs ++ ys)) μ2 := by
  refine jv_op op_catA ?_ ha hb
  intro F H va vb q h1 h2 m k
  cases h1 with
  | @tup p vs _ e1 t1 =>
    cases h2 with
    | @tup p' ws _ e2 t2 =>
      have l1 := t1.length
      have l2 := t2.length
      refine ⟨p, p', vs, ws, rfl, rfl, SqT.of (m.sub _ _ e1), SqT.of (m.sub _ _ e2), small (by omega), fun z => ?_, fun _ z => ?_, fun _ _ n hn => ?_⟩
      · subst z
        cases t1
        exact k _ F H (.tup e2 t2) (Same.refl _) m
      · subst z
        cases t2
        rw [List.append_nil] at k
        exact k _ F H (.tup e1 t1) (Same.refl _) m
      · have sm := same_upd (o := HO.tup (vs ++ ws)) (m.fresh hn)
        exact k _ _ _ (.tup upd_same ((t1.append t2).mono sm)) sm (m.grow hn _)
theorem jv_catL {xs ys : List D} (hl : xs.length + ys.length ≤ 100000) (ha : JV X F0 a ρ μ (.lst xs) μ1) (hb : JV X F0 b ρ μ1 (.lst ys) μ2) : JV X F0 (.BinOp a .Add b pos) ρ μ (.lst (xs ++ ys)) μ2 := by
  refine jv_op op_cat ?_ ha hb
  intro F H va vb q h1 h2 m k
  cases h1 with
  | @lst p vs _ e1 t1 =>
    cases h2 with
    | @lst p' ws _ e2 t2 =>
      have l1 := t1.length
      have l2 := t2.length
      refine ⟨p, p', vs, ws, rfl, rfl, m.sub _ _ e1, m.sub _ _ e2, small (by omega), fun n hn => ?_⟩
      have sm := same_upd (o := HO.lst (vs ++ ws)) (m.fresh hn)
      exact k _ _ _ (.lst upd_same ((t1.append t2).mono sm)) sm (m.grow hn _)

/-! ### comparisons -/
def D.sc : D → Option V
  | .non => some .non | .bl b => some (.bl b) | .int i => some (.int i) | .str s => some (.str s) | _ => none
theorem D.sc_at {x : V} {v : V} (h : DAt K F v d) (e : d.sc = some x) : v = x := by
  cases h <;> first | exact Option.some.inj e | cases e
theorem rv_eq {x y : V} (h1 : da.sc = some x) (h2 : db.sc = some y) (hs : scal x y = true) : RV2 K rEq da db μ (.bl (decide (x = y))) := by
  intro F H va vb q q1 q2 m k
  rw [D.sc_at q1 h1, D.sc_at q2 h2]
  exact ⟨hs, k _ F H .bl (Same.refl _) m⟩
theorem rv_ne {x y : V} (h1 : da.sc = some x) (h2 : db.sc = some y) (hs : scal x y = true) : RV2 K rNe da db μ (.bl (!decide (x = y))) := by
  intro F H va vb q q1 q2 m k
  rw [D.sc_at q1 h1, D.sc_at q2 h2]
  exact ⟨hs, k _ F H .bl (Same.refl _) m⟩
theorem rv_eqS {s t : Str} : RV2 K rEq (.str s) (.str t) μ (.bl (decide (s = t))) := by
  have h := rv_eq (K := K) (μ := μ) (da := .str s) (db := .str t) rfl rfl rfl
  have e : decide (V.str s = V.str t) = decide (s = t) := by
    by_cases z : s = t
    · subst z; simp
    · rw [decide_eq_false z, decide_eq_false fun q => z (V.str.inj q)]
  rw [e] at h
  exact h
theorem rv_neS {s t : Str} : RV2 K rNe (.str s) (.str t) μ (.bl (!decide (s = t))) := by
  have h := rv_ne (K := K) (μ := μ) (da := .str s) (db := .str t) rfl rfl rfl
  have e : decide (V.str s = V.str t) = decide (s = t) := by
    by_cases z : s = t
    · subst z; simp
    · rw [decide_eq_false z, decide_eq_false fun q => z (V.str.inj q)]
  rw [e] at h
  exact h
theorem rv_eqI {s t : Int} : RV2 K rEq (.int s) (.int t) μ (.bl (decide (s = t))) := by
  have h := rv_eq (K := K) (μ := μ) (da := .int s) (db := .int t) rfl rfl rfl
  have e : decide (V.int s = V.int t) = decide (s = t) := by
    by_cases z : s = t
    · subst z; simp
    · rw [decide_eq_false z, decide_eq_false fun q => z (V.int.inj q)]
  rw [e] at h
  exact h
theorem rv_neI {s t : Int} : RV2 K rNe (.int s) (.int t) μ (.bl (!decide (s = t))) := by
  have h := rv_ne (K := K) (μ := μ) (da := .int s) (db := .int t) rfl rfl rfl
  have e : decide (V.int s = V.int t) = decide (s = t) := by
    by_cases z : s = t
    · subst z; simp
    · rw [decide_eq_false z, decide_eq_false fun q => z (V.int.inj q)]
  rw [e] at h
  exact h
theorem rv_eqB {s t : Bool} : RV2 K rEq (.bl s) (.bl t) μ (.bl (decide (s = t))) := by
  have h := rv_eq (K := K) (μ := μ) (da := .bl s) (db := .bl t) rfl rfl rfl
  have e : decide (V.bl s = V.bl t) = decide (s = t) := by
    by_cases z : s = t
    · subst z; simp
    · rw [decide_eq_false z, decide_eq_false fun q => z (V.bl.inj q)]
  rw [e] at h
  exact h
theorem rv_neB {s t : Bool} : RV2 K rNe (.bl s) (.bl t) μ (.bl (!decide (s = t))) := by
  have h := rv_ne (K := K) (μ := μ) (da := .bl s) (db := .bl t) rfl rfl rfl
  have e : decide (V.bl s = V.bl t) = decide (s = t) := by
    by_cases z : s = t
    · subst z; simp
    · rw [decide_eq_false z, decide_eq_false fun q => z (V.bl.inj q)]
  rw [e] at h
  exact h
theorem rv_lt {i j : Int} : RV2 K (rI0 fun i j => .bl (decide (i < j))) (.int i) (.int j) μ (.bl (decide (i < j))) := rv_i0 (g' := fun i j => .bl (decide (i < j))) fun _ => .bl
theorem rv_le {i j : Int} : RV2 K (rI0 fun i j => .bl (decide (i ≤ j))) (.int i) (.int j) μ (.bl (decide (i ≤ j))) := rv_i0 (g' := fun i j => .bl (decide (i ≤ j))) fun _ => .bl
theorem rv_gt {i j : Int} : RV2 K (rI0 fun i j => .bl (decide (j < i))) (.int i) (.int j) μ (.bl (decide (j < i))) := rv_i0 (g' := fun i j => .bl (decide (j < i))) fun _ => .bl
def D.isNon : D → Bool
  | .non => true
  | _ => false
theorem rv_isN : RV2 K (fun x y H Q => y = .non ∧ Q (.bl (decide (x = .non))) H) d .non μ (.bl d.isNon) := by
  intro F H va vb q q1 q2 m k
  cases q2
  refine ⟨rfl, ?_⟩
  have e : decide (va = V.non) = d.isNon := by cases q1 <;> rfl
  rw [e]
  exact k _ F H .bl (Same.refl _) m
theorem rv_notN : RV2 K (fun x y H Q => y = .non ∧ Q (.bl (!decide (x = .non))) H) d .non μ (.bl (!d.isNon)) := by
  intro F H va vb q q1 q2 m k
  cases q2
  refine ⟨rfl, ?_⟩
  have e : decide (va = V.non) = d.isNon := by cases q1 <;> rfl
  rw [e]
  exact k _ F H .bl (Same.refl _) m
/-- a text in a tuple, a list of texts -/
def inS (s : Str) (ts : List Str) : Bool := ts.any fun t => decide (t = s)
theorem inV_strs {s : Str} : ∀ ts : List Str, inV (.str s) (ts.map V.str) = inS s ts
  | [] => rfl
  | t :: r => by
    have ih := inV_strs (s := s) r
    unfold inV inS at ih ⊢
    rw [List.map_cons, List.any_cons, List.any_cons, ih]
    congr 1
theorem flat_strs (ts : List Str) : (ts.map V.str).all flatV = true := by
  rw [List.all_map]
  exact List.all_eq_true.mpr fun _ _ => rfl
theorem rv_inT {s : Str} {ts : List Str} : RV2 K (rIn K false) (.str s) (.tup (ts.map D.str)) μ (.bl (inS s ts)) := by
  intro F H va vb q q1 q2 m k
  cases q1
  cases q2 with
  | @tup p vs _ e t =>
    have ev := t.strs
    subst ev
    refine ⟨p, _, rfl, .inr (SqT.of (m.sub _ _ e)), rfl, flat_strs ts, ?_⟩
    show q (.bl (inV (.str s) (ts.map V.str))) H
    rw [inV_strs]
    exact k _ F H .bl (Same.refl _) m
theorem rv_inL {s : Str} {ts : List Str} : RV2 K (rIn K false) (.str s) (.lst (ts.map D.str)) μ (.bl (inS s ts)) := by
  intro F H va vb q q1 q2 m k
  cases q1
  cases q2 with
  | @lst p vs _ e t =>
    have ev := t.strs
    subst ev
    refine ⟨p, _, rfl, .inl (SqL.of (m.sub _ _ e)), rfl, flat_strs ts, ?_⟩
    show q (.bl (inV (.str s) (ts.map V.str))) H
    rw [inV_strs]
    exact k _ F H .bl (Same.refl _) m

/-! ### items -/
theorem atI_at {vs : List V} {ds : List D} {i : Int} (t : DAts K F vs ds) (h : atI ds i = some d) : ∃ v, atI vs i = some v ∧ DAt K F v d := by
  unfold atI at h ⊢
  rw [t.length]
  cases e : ixN ds.length i with
  | none => rw [e] at h; cases h
  | some j =>
    rw [e] at h
    obtain ⟨v, h1, h2⟩ := t.get (show ds[j]? = some d from h)
    exact ⟨v, h1, h2⟩
theorem jv_ixT {ds : List D} {i : Int} (h : atI ds i = some d) (ha : JV X F0 a ρ μ (.tup ds) μ1) (hb : JV X F0 b ρ μ1 (.int i) μ2) (hs : PlainIx b := by intro _ _; rfl) : JV X F0 (.Subscript a b pos) ρ μ d μ2 := by
  refine jv_ix ix_tup ?_ ha hb hs
  intro F H va vb q q1 q2 m k
  cases q2
  cases q1 with
  | @tup p vs _ e t =>
    obtain ⟨v, h1, h2⟩ := atI_at t h
    exact ⟨p, vs, i, v, rfl, rfl, SqT.of (m.sub _ _ e), h1, k _ F H h2 (Same.refl _) m⟩
theorem jv_ixL {ds : List D} {i : Int} (h : atI ds i = some d) (ha : JV X F0 a ρ μ (.lst ds) μ1) (hb : JV X F0 b ρ μ1 (.int i) μ2) (hs : PlainIx b := by intro _ _; rfl) : JV X F0 (.Subscript a b pos) ρ μ d μ2 := by
  refine jv_ix ix_list ?_ ha hb hs
  intro F H va vb q q1 q2 m k
  cases q2
  cases q1 with
  | @lst p vs _ e t =>
    obtain ⟨v, h1, h2⟩ := atI_at t h
    exact ⟨p, vs, i, v, rfl, rfl, SqL.of (m.sub _ _ e), h1, k _ F H h2 (Same.refl _) m⟩
theorem jv_ixQ {ds : List D} {i : Int} (h : atI ds i = some d) (ha : JV X F0 a ρ μ (.sq ds) μ1) (hb : JV X F0 b ρ μ1 (.int i) μ2) (hs : PlainIx b := by intro _ _; rfl) : JV X F0 (.Subscript a b pos) ρ μ d μ2 := by
  refine jv_ix ix_list ?_ ha hb hs
  intro F H va vb q q1 q2 m k
  cases q2
  cases q1 with
  | @sq p vs _ e t =>
    obtain ⟨v, h1, h2⟩ := atI_at t h
    exact ⟨p, vs, i, v, rfl, rfl, m.sub.seq e, h1, k _ F H h2 (Same.refl _) m⟩
/-- an item of a mutable list -/
theorem jv_ixM {n : Addr} {ds : List D} {i : Int} (ha : JV X F0 a ρ μ (.adr n) μ1) (hb : JV X F0 b ρ μ1 (.int i) μ2) (hn : μ2 n = some (.lst ds)) (h : atI ds i = some d) (hs : PlainIx b := by intro _ _; rfl) : JV X F0 (.Subscript a b pos) ρ μ d μ2 := by
  refine jv_ix ix_list ?_ ha hb hs
  intro F H va vb q q1 q2 m k
  cases q2
  cases q1
  obtain ⟨vs, e, t⟩ := m.list hn
  obtain ⟨v, h1, h2⟩ := atI_at t h
  exact ⟨n, vs, i, v, rfl, rfl, SqL.of e, h1, k _ F H h2 (Same.refl _) m⟩
theorem jv_ixS {s : Str} {i : Int} {c : Nat} (hl : s.length ≤ 100000) (h : atI s.cps.toList i = some c) (ha : JV X F0 a ρ μ (.str s) μ1) (hb : JV X F0 b ρ μ1 (.int i) μ2) (hs : PlainIx b := by intro _ _; rfl) : JV X F0 (.Subscript a b pos) ρ μ (.str ⟨#[c]⟩) μ2 := by
  refine jv_ix ix_str ?_ ha hb hs
  intro F H va vb q q1 q2 m k
  cases q2
  cases q1
  exact ⟨s, i, c, rfl, rfl, small hl, h, k _ F H .str (Same.refl _) m⟩

/-! ### argument lists, displays -/
theorem ja_nil : JVs X F0 [] ρ μ [] μ := fun F σ H q R k => of_pa pa_nil (k _ _ _ F H ⟨rfl, rfl⟩ .nil (Same.refl _) R.m)
theorem ja_consJ {Q : List D → Mu → Prop} (ha : J X F0 e ρ μ fun d μ1 => JA X F0 es ρ μ1 fun ds μ2 => Q (d :: ds) μ2) (hs : starEach (e :: es) X.env = (false, eval e X.env) :: starEach es X.env := by rfl) : JA X F0 (e :: es) ρ μ Q := fun F σ H q R k =>
  of_pa (pa_cons pe_s pa_s hs) (ha F σ H _ R fun v d μ1 F1 H1 hQ hv s1 m1 => hQ F1 σ H1 _ (R.go s1 m1) fun vs ds μ2 F2 H2 hQ2 hvs s2 m2 => k (v :: vs) (d :: ds) μ2 F2 H2 hQ2 (.cons (hv.mono s2) hvs) (s1.trans s2) m2)
theorem ja_cons (ha : JV X F0 e ρ μ d μ1) (hr : JVs X F0 es ρ μ1 ds μ2) (hs : starEach (e :: es) X.env = (false, eval e X.env) :: starEach es X.env := by rfl) : JVs X F0 (e :: es) ρ μ (d :: ds) μ2 := by
  refine ja_consJ (ha.at ?_) hs
  intro F σ H q R k
  exact hr F σ H q R (by rintro vs _ _ F' H' ⟨rfl, rfl⟩ h s m; exact k _ _ _ F' H' ⟨rfl, rfl⟩ h s m)
theorem JA.at {Q : List D → Mu → Prop} (h : JVs X F0 es ρ μ ds μ1) (q : Q ds μ1) : JA X F0 es ρ μ Q := fun F σ H q' R k => h F σ H q' R (by rintro vs _ _ F' H' ⟨rfl, rfl⟩; exact k _ _ _ F' H' q)
theorem j_tup {Q : D → Mu → Prop} {k : Nat} (h : JA X F0 es ρ μ fun ds μ1 => ds.length ≤ 100000 ∧ Q (.tup ds) μ1) : J X F0 (.Tuple es k pos) ρ μ Q := fun F σ H q R k =>
  of_pe (pe_tup pa_s) (h F σ H _ R fun vs ds μ1 F1 H1 hQ hv s m => ⟨by rw [hv.length]; exact small hQ.1, fun n hn => by
    have sm := same_upd (o := HO.tup vs) (m.fresh hn)
    exact k _ _ _ _ _ hQ.2 (.tup upd_same (hv.mono sm)) (s.trans sm) (m.grow hn _)⟩)
theorem jv_tup {k : Nat} (h : JVs X F0 es ρ μ ds μ1) (hl : ds.length ≤ 100000 := by simp) : JV X F0 (.Tuple es k pos) ρ μ (.tup ds) μ1 := j_tup (h.at ⟨hl, rfl, rfl⟩)
/-- a list that is never changed -/
theorem jv_lst (h : JVs X F0 es ρ μ ds μ1) (hl : ds.length ≤ 100000 := by simp) : JV X F0 (.List es pos) ρ μ (.lst ds) μ1 := fun F σ H q R k =>
  of_pe (pe_lst pa_s) (h F σ H _ R (by
    rintro vs _ _ F1 H1 ⟨rfl, rfl⟩ hv s m
    refine ⟨by rw [hv.length]; exact small hl, fun n hn => ?_⟩
    have sm := same_upd (o := HO.lst vs) (m.fresh hn)
    exact k _ _ _ _ _ ⟨rfl, rfl⟩ (.lst upd_same (hv.mono sm)) (s.trans sm) (m.grow hn _)))
/-- a list that may change -/
theorem j_lstM {Q : D → Mu → Prop} (h : JVs X F0 es ρ μ ds μ1) (hq : ∀ n, μ1 n = none → Q (.adr n) (μ1.put n (.lst ds))) (hl : ds.length ≤ 100000 := by simp) : J X F0 (.List es pos) ρ μ Q := fun F σ H q R k =>
  of_pe (pe_lst pa_s) (h F σ H _ R (by
    rintro vs _ _ F1 H1 ⟨rfl, rfl⟩ hv s m
    refine ⟨by rw [hv.length]; exact small hl, fun n hn => ?_⟩
    exact k _ _ _ _ _ (hq n (m.free hn)) .adr s (m.newL hn hv)))

/-! ### tests -/
theorem JB.run {q : Bool → Hp → Prop} {b : Bool} (h : JB X F0 e ρ μ b) (R : Rep X.K F0 ρ μ F σ H) (k : ∀ F' H', Same F F' → MRep X.K μ F' H' → Rep X.K F0 ρ μ F' σ H' → q b H') : semT X e σ H q := h F σ H q R fun F' H' s m => k F' H' s m (R.go s m)
theorem jb_cmp {op : CmpOp} {r : R2} {b' : Bool} (ho : OpR X (compareOp op) r) (hr : RV2 X.K r da db μ (.bl b')) (ha : JV X F0 a ρ μ da μ) (hb : JV X F0 b ρ μ db μ) (hm : behindInMarks op b = false := by first | exact nomark _ | rfl) : JB X F0 (.Compare a [op] [b] pos) ρ μ b' := fun F σ H q R k =>
  of_pt (pt_cmpR ho pe_s pe_s hm) (ha.run2 hb R fun va vb F1 H1 h1 h2 s m R1 => hr F1 H1 va vb _ h1 h2 m fun v F2 H2 h3 s3 m3 => by
    cases h3
    exact ⟨b', rfl, k F2 H2 (s.trans s3) m3⟩)
theorem jb_val {b' : Bool} (he : JV X F0 e ρ μ (.bl b') μ) (hw : ∀ whole, isTrue e X.env whole = (do let v ← whole; standAt e.pos; holding [v] (truthy v)) := by intro _; rfl) : JB X F0 e ρ μ b' := fun F σ H q R k =>
  of_pt (pt_val pe_s hw) (he.run R fun v F1 H1 h s m R1 => by
    cases h
    exact ⟨b', rfl, k F1 H1 s m⟩)
theorem jb_not {b' : Bool} (h : JB X F0 e ρ μ b') : JB X F0 (.UnaryOp .Not e pos) ρ μ (!b') := fun F σ H q R k => of_pt (pt_not pt_s) (h.run R fun F1 H1 s m R1 => k F1 H1 s m)
theorem jb_w {b' : Bool} (h : JW X F0 e ρ μ b') : JB X F0 e ρ μ b' := fun F σ H q R k => of_pt (PW.pt pw_s) (h F σ H q R k)
theorem jw_or1 {b' : Bool} (h : JB X F0 a ρ μ b') : JW X F0 (.BoolOp .Or [a] pos) ρ μ b' := fun F σ H q R k => of_pw (pw_or1 pt_s) (h F σ H q R k)
theorem jw_and1 {b' : Bool} (h : JB X F0 a ρ μ b') : JW X F0 (.BoolOp .And [a] pos) ρ μ b' := fun F σ H q R k => of_pw (pw_and1 pt_s) (h F σ H q R k)
theorem jw_orT (h : JB X F0 a ρ μ true) : JW X F0 (.BoolOp .Or (a :: b :: es) pos) ρ μ true := fun F σ H q R k => of_pw (pw_or pt_s pw_s) (h.run R fun F1 H1 s m R1 => by
  show (if true = true then _ else _)
  rw [if_pos rfl]
  exact k F1 H1 s m)
theorem jw_orF {b' : Bool} (h : JB X F0 a ρ μ false) (h2 : JW X F0 (.BoolOp .Or (b :: es) pos) ρ μ b') : JW X F0 (.BoolOp .Or (a :: b :: es) pos) ρ μ b' := fun F σ H q R k => of_pw (pw_or pt_s pw_s) (h.run R fun F1 H1 s m R1 => by
  show (if false = true then _ else _)
  rw [if_neg Bool.false_ne_true]
  exact h2 F1 σ H1 q R1 fun F2 H2 s2 m2 => k F2 H2 (s.trans s2) m2)
theorem jw_andF (h : JB X F0 a ρ μ false) : JW X F0 (.BoolOp .And (a :: b :: es) pos) ρ μ false := fun F σ H q R k => of_pw (pw_and pt_s pw_s) (h.run R fun F1 H1 s m R1 => by
  show (if false = true then _ else _)
  rw [if_neg Bool.false_ne_true]
  exact k F1 H1 s m)
theorem jw_andT {b' : Bool} (h : JB X F0 a ρ μ true) (h2 : JW X F0 (.BoolOp .And (b :: es) pos) ρ μ b') : JW X F0 (.BoolOp .And (a :: b :: es) pos) ρ μ b' := fun F σ H q R k => of_pw (pw_and pt_s pw_s) (h.run R fun F1 H1 s m R1 => by
  show (if true = true then _ else _)
  rw [if_pos rfl]
  exact h2 F1 σ H1 q R1 fun F2 H2 s2 m2 => k F2 H2 (s.trans s2) m2)
/-- .. whatever the first is -/
theorem jw_or {b' c' : Bool} (h : JB X F0 a ρ μ b') (h2 : b' = false → JW X F0 (.BoolOp .Or (b :: es) pos) ρ μ c') : JW X F0 (.BoolOp .Or (a :: b :: es) pos) ρ μ (b' || c') := by
  cases b' with
  | true => exact jw_orT h
  | false => exact jw_orF h (h2 rfl)
theorem jw_and {b' c' : Bool} (h : JB X F0 a ρ μ b') (h2 : b' = true → JW X F0 (.BoolOp .And (b :: es) pos) ρ μ c') : JW X F0 (.BoolOp .And (a :: b :: es) pos) ρ μ (b' && c') := by
  cases b' with
  | true => exact jw_andT h (h2 rfl)
  | false => exact jw_andF h
/-! ### and, or, not, chains as values -/
theorem jv_one {op : BoolOp} (h : JV X F0 a ρ μ d μ1) : JV X F0 (.BoolOp op [a] pos) ρ μ d μ1 := fun F σ H q R k => of_pe (pe_one pe_s) (h F σ H q R k)
theorem jv_andT (h : JV X F0 a ρ μ (.bl true) μ1) (h2 : JV X F0 (.BoolOp .And (b :: es) pos) ρ μ1 d μ2) : JV X F0 (.BoolOp .And (a :: b :: es) pos) ρ μ d μ2 := fun F σ H q R k => of_pe (pe_and pe_s pe_s) (h.run R fun v F1 H1 h1 s m R1 => by
  cases h1
  refine ⟨true, rfl, ?_⟩
  rw [if_pos rfl]
  exact h2.run R1 fun v F2 H2 h3 s2 m2 R2 => k _ _ _ F2 H2 ⟨rfl, rfl⟩ h3 (s.trans s2) m2)
theorem jv_andF (h : JV X F0 a ρ μ (.bl false) μ1) : JV X F0 (.BoolOp .And (a :: b :: es) pos) ρ μ (.bl false) μ1 := fun F σ H q R k => of_pe (pe_and pe_s pe_s) (h.run R fun v F1 H1 h1 s m R1 => by
  cases h1
  refine ⟨false, rfl, ?_⟩
  rw [if_neg Bool.false_ne_true]
  exact k _ _ _ F1 H1 ⟨rfl, rfl⟩ .bl s m)
theorem jv_and {b' c' : Bool} (h : JV X F0 a ρ μ (.bl b') μ) (h2 : b' = true → JV X F0 (.BoolOp .And (b :: es) pos) ρ μ (.bl c') μ) : JV X F0 (.BoolOp .And (a :: b :: es) pos) ρ μ (.bl (b' && c')) μ := by
  cases b' with
  | true => exact jv_andT h (h2 rfl)
  | false => exact jv_andF h
/-- 0 <= x < n -/
theorem jv_chain {op op' : CmpOp} {r r' : R2} {b1 b2 : Bool} (ho : OpR X (compareOp op) r) (ho' : OpR X (compareOp op') r') (h1 : RV2 X.K r da db μ (.bl b1)) (h2 : b1 = true → RV2 X.K r' db dc μ (.bl b2)) (ha : JV X F0 a ρ μ da μ) (hb : JV X F0 b ρ μ db μ) (hc : JV X F0 c ρ μ dc μ)
    (hm : lastMarks [op, op'] [b, c] = false := by with_unfolding_all rfl) : JV X F0 (.Compare a [op, op'] [b, c] pos) ρ μ (.bl (b1 && b2)) μ := fun F σ H q R k =>
  of_pe (pe_chain ho ho' pe_s pe_s pe_s hm) (ha.run2 hb R fun va vb F1 H1 q1 q2 s m R1 => h1 F1 H1 va vb _ q1 q2 m fun v F2 H2 q3 s3 m3 => by
    cases q3
    refine ⟨b1, rfl, ?_⟩
    cases b1 with
    | true =>
      rw [if_pos rfl]
      refine hc.run (R1.go s3 m3) fun vc F4 H4 q4 s4 m4 R4 => ?_
      exact h2 rfl F4 H4 vb vc q (q2.mono (s3.trans s4)) q4 m4 fun v F5 H5 q5 s5 m5 => k _ _ _ F5 H5 ⟨rfl, rfl⟩ q5 (s.trans (s3.trans (s4.trans s5))) m5
    | false =>
      rw [if_neg Bool.false_ne_true]
      exact k _ _ _ F2 H2 ⟨rfl, rfl⟩ .bl (s.trans s3) m3)
theorem jb_chain {op op' : CmpOp} {r r' : R2} {b1 b2 : Bool} (ho : OpR X (compareOp op) r) (ho' : OpR X (compareOp op') r') (h1 : RV2 X.K r da db μ (.bl b1)) (h2 : b1 = true → RV2 X.K r' db dc μ (.bl b2)) (ha : JV X F0 a ρ μ da μ) (hb : JV X F0 b ρ μ db μ) (hc : JV X F0 c ρ μ dc μ)
    (hm : lastMarks [op, op'] [b, c] = false := by with_unfolding_all rfl) : JB X F0 (.Compare a [op, op'] [b, c] pos) ρ μ (b1 && b2) := fun F σ H q R k =>
  of_pt (pt_chain ho ho' pe_s pe_s pe_s hm) (ha.run2 hb R fun va vb F1 H1 q1 q2 s m R1 => h1 F1 H1 va vb _ q1 q2 m fun v F2 H2 q3 s3 m3 => by
    cases q3
    refine ⟨b1, rfl, ?_⟩
    cases b1 with
    | true =>
      rw [if_pos rfl]
      refine hc.run (R1.go s3 m3) fun vc F4 H4 q4 s4 m4 R4 => ?_
      exact h2 rfl F4 H4 vb vc _ (q2.mono (s3.trans s4)) q4 m4 fun v F5 H5 q5 s5 m5 => by
        cases q5
        exact ⟨b2, rfl, k F5 H5 (s.trans (s3.trans (s4.trans s5))) m5⟩
    | false =>
      rw [if_neg Bool.false_ne_true]
      exact ⟨false, rfl, k F2 H2 (s.trans s3) m3⟩)

/-! ### attributes -/
/-- of a frozen object -/
theorem jv_fldO {C : Addr} {ns : List Str} {f : Str} (ho : JV X F0 o ρ μ (.obj C ns ds) μ1) (cl : Cls X.K C) (na : NoAttr X.K C f) (h : getD ns ds f = some d) (hb : attributeBase o f X.env (eval o X.env) = eval o X.env := by rfl) : JV X F0 (.Attribute o f pos) ρ μ d μ1 := fun F σ H q R k =>
  of_pe (pe_fld pe_s hb) (ho.run R fun v F1 H1 h1 s m R1 => by
    cases h1 with
    | @obj p _ dx xs _ _ e l t =>
      obtain ⟨v, q1, q2⟩ := getD_ok t h
      exact ⟨p, C, dx, _, v, rfl, m.sub _ _ e, cl, na, q1, k _ _ _ F1 H1 ⟨rfl, rfl⟩ q2 s m⟩)
/-- of a mutable one -/
theorem jv_fldM {n C : Addr} {fs : List (Str × D)} {f : Str} (ho : JV X F0 o ρ μ (.adr n) μ1) (hn : μ1 n = some (.ins C fs)) (cl : Cls X.K C) (na : NoAttr X.K C f) (h : fs.lookup f = some d) (hb : attributeBase o f X.env (eval o X.env) = eval o X.env := by rfl) : JV X F0 (.Attribute o f pos) ρ μ d μ1 := fun F σ H q R k =>
  of_pe (pe_fld pe_s hb) (ho.run R fun v F1 H1 h1 s m R1 => by
    cases h1
    obtain ⟨dx, gs, e, t⟩ := m.inst hn
    obtain ⟨v, q1, q2⟩ := t.lookup h
    exact ⟨n, C, dx, gs, v, rfl, e, cl, na, q1, k _ _ _ F1 H1 ⟨rfl, rfl⟩ q2 s m⟩)

/-! ### built-in calls -/
structure Bl (mg : Str → Option Value) : Prop where
  len : mg "len" = none
  isinstance : mg "isinstance" = none
  list : mg "list" = none
  tuple : mg "tuple" = none
  str : mg "str" = none
  int : mg "int" = none
  bool : mg "bool" = none
  range : mg "range" = none
  max : mg "max" = none
theorem jv_b {id : String} {n : Str} {r : List V → Hp → VK → Prop} (hc : CallR X (.builtin id) r) (hr : RCD X.K r ds μ1 d) (hm : X.mg n = none) (hv : bootBuiltins n = some (.builtin id)) (ha : JVs X F0 (e :: es) ρ μ ds μ1) (hg : Gl X n) (hn : n ≠ "__name__") (hdb : (n == ("__debug__" : Str)) = false)
    (he : starEach (e :: es) X.env = (false, eval e X.env) :: starEach es X.env) (hpl : (backTo pos (starEach es X.env)).any (·.1) = false) : JV X F0 (.Call (.Name n p) (e :: es) [] pos) ρ μ d μ1 := fun F σ H q R k =>
  of_pe (pe_callB hc hg hm hv pa_s hn hdb he hpl) (ha F σ H _ R (by
    rintro vs _ _ F1 H1 ⟨rfl, rfl⟩ h s m
    exact hr F1 H1 vs q h m fun v F2 H2 h2 s2 m2 => k _ _ _ F2 H2 ⟨rfl, rfl⟩ h2 (s.trans s2) m2))
theorem jv_ty {T : String} {n : Str} {r : List V → Hp → VK → Prop} (hc : CallR X (.type T) r) (hr : RCD X.K r ds μ1 d) (hm : X.mg n = none) (hv : bootBuiltins n = some (.type T)) (ha : JVs X F0 (e :: es) ρ μ ds μ1) (hg : Gl X n) (hn : n ≠ "__name__") (hdb : (n == ("__debug__" : Str)) = false)
    (he : starEach (e :: es) X.env = (false, eval e X.env) :: starEach es X.env) (hpl : (backTo pos (starEach es X.env)).any (·.1) = false) : JV X F0 (.Call (.Name n p) (e :: es) [] pos) ρ μ d μ1 := fun F σ H q R k =>
  of_pe (pe_callTy hc hg hm hv pa_s hn hdb he hpl) (ha F σ H _ R (by
    rintro vs _ _ F1 H1 ⟨rfl, rfl⟩ h s m
    exact hr F1 H1 vs q h m fun v F2 H2 h2 s2 m2 => k _ _ _ F2 H2 ⟨rfl, rfl⟩ h2 (s.trans s2) m2))
def D.len : D → Option Nat
  | .str s => some s.length | .tup ds => some ds.length | .lst ds => some ds.length | .sq ds => some ds.length | _ => none
theorem rc_len {n : Nat} (h : d.len = some n) (hl : n ≤ 100000) : RCD K (fun xs H Q => ∃ x n, xs = [x] ∧ LenV K x H n ∧ Q (.int n) H) [d] μ (.int n) := by
  intro F H vs q t m k
  cases t with
  | cons h1 t =>
    cases t
    refine ⟨_, n, rfl, ?_, k _ F H .int (Same.refl _) m⟩
    cases h1 with
    | @str s =>
      have e : s.length = n := Option.some.inj h
      subst e
      exact ⟨small hl, rfl⟩
    | tup e t =>
      have e' := Option.some.inj h
      subst e'
      exact .inr ⟨_, SqT.of (m.sub _ _ e), t.length.symm⟩
    | lst e t =>
      have e' := Option.some.inj h
      subst e'
      exact .inl ⟨_, SqL.of (m.sub _ _ e), t.length.symm⟩
    | sq e t =>
      have e' := Option.some.inj h
      subst e'
      exact .inl ⟨_, m.sub.seq e, t.length.symm⟩
    | non => cases h
    | bl => cases h
    | int => cases h
    | adr => cases h
    | obj _ _ _ => cases h
theorem jv_len (B : Bl X.mg) {n : Nat} (ha : JV X F0 a ρ μ d μ1) (h : d.len = some n) (hl : n ≤ 100000) (hg : Gl X "len" := by rfl) (he : starEach [a] X.env = (false, eval a X.env) :: starEach [] X.env := by rfl) (hpl : (backTo pos (starEach [] X.env)).any (·.1) = false := by rfl) :
    JV X F0 (.Call (.Name "len" p) [a] [] pos) ρ μ (.int n) μ1 :=
  jv_b call_len (rc_len h hl) B.len (by decide +kernel) (ja_cons ha ja_nil he) hg (by decide) (by decide) he hpl
/-- of a mutable list -/
theorem jv_lenM (B : Bl X.mg) {n : Addr} (ha : JV X F0 a ρ μ (.adr n) μ1) (hn : μ1 n = some (.lst ds)) (hg : Gl X "len" := by rfl) (he : starEach [a] X.env = (false, eval a X.env) :: starEach [] X.env := by rfl) (hpl : (backTo pos (starEach [] X.env)).any (·.1) = false := by rfl) :
    JV X F0 (.Call (.Name "len" p) [a] [] pos) ρ μ (.int (ds.length : Nat)) μ1 := by
  refine jv_b call_len ?_ B.len (by decide +kernel) (ja_cons ha ja_nil he) hg (by decide) (by decide) he hpl
  intro F H vs q t m k
  cases t with
  | cons h1 t =>
    cases t
    cases h1
    obtain ⟨xs, e, t⟩ := m.list hn
    exact ⟨_, ds.length, rfl, .inl ⟨xs, SqL.of e, t.length.symm⟩, k _ F H .int (Same.refl _) m⟩
def D.ty : D → Option String
  | .non => some "NoneType" | .bl _ => some "bool" | .int _ => some "int" | .str _ => some "str" | .tup _ => some "tuple" | .lst _ => some "list" | _ => none
theorem D.ty_at {v : V} {n : String} (h : DAt K F v d) (s : Same F H) (e : d.ty = some n) : TyX K H v (.type n) := by
  cases h with
  | non => cases e; exact .base .non
  | bl => cases e; exact .base (.bl _)
  | int => cases e; exact .base (.int _)
  | str => cases e; exact .base (.str _)
  | tup q t => cases e; exact .base (.tup (s _ _ q))
  | lst q t => cases e; exact .base (.lst (s _ _ q))
  | sq q t => cases e
  | adr => cases e
  | obj _ _ _ => cases e
theorem jv_isi (B : Bl X.mg) {t : Str} {T n : String} {r : Bool} {pt : Pos} (ha : JV X F0 a ρ μ d μ1) (h : d.ty = some n) (hk : kitB n T = some r) (hm : X.mg t = none) (hv : bootBuiltins t = some (.type T)) (hg : Gl X "isinstance" := by rfl) (hgt : Gl X t := by rfl)
    (hn : t ≠ "__name__" := by decide) (hd : (t == ("__debug__" : Str)) = false := by decide)
    (he : starEach [a, .Name t pt] X.env = (false, eval a X.env) :: starEach [.Name t pt] X.env := by rfl) (he2 : starEach [.Name t pt] X.env = (false, eval (.Name t pt) X.env) :: starEach [] X.env := by rfl) (hpl : (backTo pos (starEach [.Name t pt] X.env)).any (·.1) = false := by rfl) :
    JV X F0 (.Call (.Name "isinstance" p) [a, .Name t pt] [] pos) ρ μ (.bl r) μ1 := fun F σ H q R k => by
  have hT : PE X (.Name t pt) (tC (.ty T)) := pe_bltn hgt hm hv rfl hn hd
  refine of_pe (pe_callB call_isi hg B.isinstance (by decide +kernel) (pa_cons pe_s (pa_cons hT pa_nil he2) he) (by decide) (by decide) he hpl) (ha.run R fun v F1 H1 h1 s m R1 => ?_)
  exact ⟨v, .ty T, .type n, .type T, r, rfl, .ty T, D.ty_at h1 m.sub h, kit_ty hk, k _ _ _ F1 H1 ⟨rfl, rfl⟩ .bl s m⟩
/-- list(..): a copy that is never changed -/
theorem jv_list (B : Bl X.mg) (ha : JV X F0 a ρ μ (.lst ds) μ1) (hg : Gl X "list" := by rfl) (he : starEach [a] X.env = (false, eval a X.env) :: starEach [] X.env := by rfl) (hpl : (backTo pos (starEach [] X.env)).any (·.1) = false := by rfl) :
    JV X F0 (.Call (.Name "list" p) [a] [] pos) ρ μ (.lst ds) μ1 := by
  refine jv_ty call_list_of ?_ B.list (by decide +kernel) (ja_cons ha ja_nil he) hg (by decide) (by decide) he hpl
  intro F H vs q t m k
  cases t with
  | cons h1 t =>
    cases t
    cases h1 with
    | @lst n xs _ e t =>
      refine ⟨n, xs, rfl, .inl (SqL.of (m.sub _ _ e)), fun l hl => ?_⟩
      have sm := same_upd (o := HO.lst xs) (m.fresh hl)
      exact k _ _ _ (.lst upd_same (t.mono sm)) sm (m.grow hl _)
/-- tuple(xs), xs a mutable list -/
theorem jv_tupleM (B : Bl X.mg) {n : Addr} (ha : JV X F0 a ρ μ (.adr n) μ1) (hn : μ1 n = some (.lst ds)) (hg : Gl X "tuple" := by rfl) (he : starEach [a] X.env = (false, eval a X.env) :: starEach [] X.env := by rfl) (hpl : (backTo pos (starEach [] X.env)).any (·.1) = false := by rfl) :
    JV X F0 (.Call (.Name "tuple" p) [a] [] pos) ρ μ (.tup ds) μ1 := by
  refine jv_ty call_tuple_of ?_ B.tuple (by decide +kernel) (ja_cons ha ja_nil he) hg (by decide) (by decide) he hpl
  intro F H vs q t m k
  cases t with
  | cons h1 t =>
    cases t
    cases h1
    obtain ⟨xs, e, t⟩ := m.list hn
    refine ⟨n, xs, rfl, .inl ⟨SqL.of e, fun l hl => ?_⟩⟩
    have sm := same_upd (o := HO.tup xs) (m.fresh hl)
    exact k _ _ _ (.tup upd_same (t.mono sm)) sm (m.grow hl _)
theorem jv_intB (B : Bl X.mg) {b' : Bool} (ha : JV X F0 a ρ μ (.bl b') μ1) (hg : Gl X "int" := by rfl) (he : starEach [a] X.env = (false, eval a X.env) :: starEach [] X.env := by rfl) (hpl : (backTo pos (starEach [] X.env)).any (·.1) = false := by rfl) :
    JV X F0 (.Call (.Name "int" p) [a] [] pos) ρ μ (.int (if b' then 1 else 0)) μ1 := by
  refine jv_ty call_int1 ?_ B.int (by decide +kernel) (ja_cons ha ja_nil he) hg (by decide) (by decide) he hpl
  intro F H vs q t m k
  cases t with
  | cons h1 t =>
    cases t
    cases h1
    exact .inr ⟨b', rfl, k _ F H .int (Same.refl _) m⟩
theorem jv_strI (B : Bl X.mg) {i : Int} (ha : JV X F0 a ρ μ (.int i) μ1) (hi : i.natAbs.log2 < 1920) (hg : Gl X "str" := by rfl) (he : starEach [a] X.env = (false, eval a X.env) :: starEach [] X.env := by rfl) (hpl : (backTo pos (starEach [] X.env)).any (·.1) = false := by rfl) :
    JV X F0 (.Call (.Name "str" p) [a] [] pos) ρ μ (.str (toString i)) μ1 := by
  refine jv_ty call_str_int ?_ B.str (by decide +kernel) (ja_cons ha ja_nil he) hg (by decide) (by decide) he hpl
  intro F H vs q t m k
  cases t with
  | cons h1 t =>
    cases t
    cases h1
    exact ⟨i, rfl, hi, k _ F H .str (Same.refl _) m⟩
theorem jv_max (B : Bl X.mg) {i j : Int} (hcalm : X.calm = true) (ha : JV X F0 a ρ μ (.int i) μ1) (hb : JV X F0 b ρ μ1 (.int j) μ2) (hg : Gl X "max" := by rfl) (he : starEach [a, b] X.env = (false, eval a X.env) :: starEach [b] X.env := by rfl) (he2 : starEach [b] X.env = (false, eval b X.env) :: starEach [] X.env := by rfl) (hpl : (backTo pos (starEach [b] X.env)).any (·.1) = false := by rfl) :
    JV X F0 (.Call (.Name "max" p) [a, b] [] pos) ρ μ (.int (if j > i then j else i)) μ2 := by
  refine jv_b (call_max2 hcalm) ?_ B.max (by decide +kernel) (ja_cons ha (ja_cons hb ja_nil he2) he) hg (by decide) (by decide) he hpl
  intro F H vs q t m k
  cases t with
  | cons h1 t =>
    cases t with
    | cons h2 t =>
      cases t
      cases h1
      cases h2
      exact ⟨i, j, rfl, k _ F H .int (Same.refl _) m⟩

/-! ### methods of lists -/
theorem jv_append {n : Addr} {ds0 : List D} {cpos : Pos} (ho : JV X F0 o ρ μ (.adr n) μ1) (h1 : μ1 n = some (.lst ds0)) (ha : JV X F0 e ρ μ1 d μ2) (h2 : μ2 n = some (.lst ds)) (hl : ds.length ≤ 100000)
    (hbase : attributeBase o "append" X.env (eval o X.env) = eval o X.env := by rfl)
    (hfew : ((backTo cpos (starEach (e :: []) X.env)).all (fun x => !x.1) && (backToKw cpos (keywordEach [] X.env)).all (fun x => x.1.isSome) && decide ((e :: []).length + ([] : List Keyword).length + (if ([] : List Keyword).isEmpty then 0 else 1) < 30)) = true := by rfl)
    (hline : (apos.endLine == cpos.line) = true := by rfl) (hs : starEach (e :: []) X.env = (false, eval e X.env) :: starEach [] X.env := by rfl) (hplain : (backTo cpos (starEach [] X.env)).any (·.1) = false := by rfl) :
    JV X F0 (.Call (.Attribute o "append" apos) [e] [] cpos) ρ μ .non (μ2.put n (.lst (ds ++ [d]))) := fun F σ H q R k => by
  refine of_pe (pe_bm PySem.F.plainAttrs_list PySem.F.slot_list_append PySem.F.type_list_append mt_append pe_s (pa_cons pe_s pa_nil hs) hbase hfew hline hs hplain) (ho.run R fun v F1 H1 h s m R1 => ?_)
  cases h
  obtain ⟨xs0, e0, _⟩ := m.list h1
  refine ⟨.inl ⟨rfl, xs0, SqL.of e0⟩, ha.run R1 fun y F2 H2 hy s2 m2 R2 => ?_⟩
  obtain ⟨xs, e1, t⟩ := m2.list h2
  exact ⟨n, xs, y, rfl, rfl, e1, by rw [t.length]; exact smallT hl, k _ _ _ F2 _ ⟨rfl, rfl⟩ .non (s.trans s2) (m2.writeL h2 (t.append (.cons hy .nil)))⟩
theorem jv_pop {n : Addr} {cpos : Pos} (ho : JV X F0 o ρ μ (.adr n) μ1) (h1 : μ1 n = some (.lst (ds ++ [d]))) (hbase : attributeBase o "pop" X.env (eval o X.env) = eval o X.env := by rfl) (hline : (apos.endLine == cpos.line) = true := by rfl) :
    JV X F0 (.Call (.Attribute o "pop" apos) [] [] cpos) ρ μ d (μ1.put n (.lst ds)) := fun F σ H q R k => by
  refine of_pe (pe_bm0 PySem.F.plainAttrs_list PySem.F.slot_list_pop PySem.F.type_list_pop mt_pop pe_s hbase hline) (ho.run R fun v F1 H1 h s m R1 => ?_)
  cases h
  obtain ⟨xs, e, t⟩ := m.list h1
  obtain ⟨ws, v, rfl, t1, hv⟩ := t.snoc
  refine ⟨.inl ⟨rfl, _, SqL.of e⟩, n, _, v, rfl, rfl, e, ?_, ?_⟩
  · rw [List.length_append, List.length_singleton, Nat.add_sub_cancel, List.getElem?_append_right (Nat.le_refl _), Nat.sub_self]
    rfl
  · rw [List.dropLast_concat]
    exact k _ _ _ F1 _ ⟨rfl, rfl⟩ hv s (m.writeL h1 t1)
theorem jv_index {cpos : Pos} {ts : List Str} {w : Str} {j : Nat} (ho : JV X F0 o ρ μ (.lst (ts.map D.str)) μ1) (ha : JV X F0 e ρ μ1 (.str w) μ2) (hj : ts[j]? = some w) (hne : ∀ (m : Nat) (t : Str), m < j → ts[m]? = some t → t ≠ w)
    (hbase : attributeBase o "index" X.env (eval o X.env) = eval o X.env := by rfl)
    (hfew : ((backTo cpos (starEach (e :: []) X.env)).all (fun x => !x.1) && (backToKw cpos (keywordEach [] X.env)).all (fun x => x.1.isSome) && decide ((e :: []).length + ([] : List Keyword).length + (if ([] : List Keyword).isEmpty then 0 else 1) < 30)) = true := by rfl)
    (hline : (apos.endLine == cpos.line) = true := by rfl) (hs : starEach (e :: []) X.env = (false, eval e X.env) :: starEach [] X.env := by rfl) (hplain : (backTo cpos (starEach [] X.env)).any (·.1) = false := by rfl) :
    JV X F0 (.Call (.Attribute o "index" apos) [e] [] cpos) ρ μ (.int (j : Nat)) μ2 := fun F σ H q R k => by
  refine of_pe (pe_bm PySem.F.plainAttrs_list PySem.F.slot_list_index PySem.F.type_list_index mt_index pe_s (pa_cons pe_s pa_nil hs) hbase hfew hline hs hplain) (ho.run R fun v F1 H1 h s m R1 => ?_)
  cases h with
  | @lst n xs _ e1 t =>
    have ev := t.strs
    subst ev
    refine ⟨.inl ⟨rfl, _, SqL.of (m.sub _ _ e1)⟩, ha.run R1 fun y F2 H2 hy s2 m2 R2 => ?_⟩
    cases hy
    refine ⟨n, _, _, j, .str w, rfl, rfl, SqL.of (m2.sub _ _ (s2 _ _ e1)), rfl, flat_strs ts, ?_, ?_, ?_, k _ _ _ F2 H2 ⟨rfl, rfl⟩ .int (s.trans s2) m2⟩
    · rw [List.getElem?_map, hj]; rfl
    · show decide (w = w) = true
      exact decide_eq_true rfl
    · intro m z' hm hz
      rw [List.getElem?_map] at hz
      cases q : ts[m]? with
      | none => rw [q] at hz; cases hz
      | some t' =>
        rw [q] at hz
        have ez : V.str t' = z' := Option.some.inj hz
        subst ez
        show decide (t' = w) = false
        exact decide_eq_false (hne m t' hm q)
end
end Gs

/-! The rules of the layer: slices, calls, statements, loops, comprehensions, try, raise. -/
namespace Gs
open PySem PySem.Spec PyProof.Rows L2
section
variable {X : Cx} {F0 F H : Hp} {σ : L2.St} {ρ : Rho} {μ μ1 μ2 μ3 : Mu} {a b c e o : Expr} {es : List Expr} {da db dc d : D} {ds : List D} {pos p apos pos' : Pos} {Q Q' : D → Mu → Prop} {x : Str} {q : VK} {E : XK} {TL : Addr} {k : Nat} {f : Fn}
variable {K : PySem.W.Frag}
/-! ### slices -/
def cutD (ds : List D) (lo hi : Option Int) : List D := (ds.drop (HT.sIx ds.length 0 lo)).take (HT.sIx ds.length ds.length hi - HT.sIx ds.length 0 lo)
theorem cut_at {xs : List V} {ds : List D} {lo hi : Option Int} (t : DAts K F xs ds) : DAts K F (cutV xs lo hi) (cutD ds lo hi) := by
  unfold cutV cutD
  rw [t.length]
  exact (t.drop _).take _
structure semO (X : Cx) (e : Option Expr) (σ : L2.St) (H : Hp) (Q : Option Int → Hp → Prop) : Prop where
  run : ∀ pins s, Inv X pins σ H s → wpAny (model X.prog X.w) X.A (evalPart e X.env) (fun u s' => ∃ o H', Inv X pins σ H' s' ∧ IsPart u o ∧ Q o H') X.xe s
theorem po_s {e : Option Expr} : PO X e (semO X e) := ⟨fun pins s σ H Q I h => h.run pins s I⟩
def JO (X : Cx) (F0 : Hp) (e : Option Expr) (ρ : Rho) (μ : Mu) (o : Option Int) : Prop := ∀ F σ H (q : Option Int → Hp → Prop), Rep X.K F0 ρ μ F σ H → (∀ F' H', Same F F' → MRep X.K μ F' H' → q o H') → semO X e σ H q
theorem jo_none : JO X F0 none ρ μ none := fun F σ H q R k => ⟨fun pins s I => po_none.run pins s σ H q I (k F H (Same.refl _) R.m)⟩
theorem jo_some {i : Int} (h : JV X F0 e ρ μ (.int i) μ) : JO X F0 (some e) ρ μ (some i) := fun F σ H q R k => ⟨fun pins s I => (po_some pe_s).run pins s σ H q I (h.run R fun v F' H' hv s m R' => by
  cases hv
  exact ⟨i, rfl, k F' H' s m⟩)⟩
theorem jv_slice {lo hi : Option Expr} {l u : Option Int} {p2 : Pos} (ha : JV X F0 a ρ μ d μ) (hd : d = .lst ds ∨ d = .sq ds) (hl : JO X F0 lo ρ μ l) (hu : JO X F0 hi ρ μ u) : JV X F0 (.Subscript a (.Slice lo hi none p2) pos) ρ μ (.lst (cutD ds l u)) μ := fun F σ H q R k =>
  of_pe (pe_slice sl_list pe_s po_s po_s) (ha.run R fun v F1 H1 h1 s1 m1 R1 => hl F1 σ H1 _ R1 fun F2 H2 s2 m2 => hu F2 σ H2 _ (R1.go s2 m2) fun F3 H3 s3 m3 => by
    have h3 := h1.mono (s2.trans s3)
    have done : ∀ n xs, v = .ref n → SqL X.K H3 n xs → DAts X.K F3 xs ds → rSlL X.K v l u H3 q := fun n xs e hs t => by
      refine ⟨n, xs, e, hs, fun p hp => ?_⟩
      have sm := same_upd (o := HO.lst (cutV xs l u)) (m3.fresh hp)
      exact k _ _ _ _ _ ⟨rfl, rfl⟩ (.lst upd_same ((cut_at t).mono sm)) ((s1.trans (s2.trans s3)).trans sm) (m3.grow hp _)
    rcases hd with rfl | rfl
    · cases h3 with
      | @lst n xs _ e t => exact done n xs rfl (SqL.of (m3.sub _ _ e)) t
    · cases h3 with
      | @sq n xs _ e t => exact done n xs rfl (m3.sub.seq e) t)
/-- xs[::-1], a list that may change -/
theorem j_revM {kk : Nat} {p1 p2 p3 : Pos} (ha : JV X F0 a ρ μ (.lst ds) μ1) (hq : ∀ n, μ1 n = none → Q (.adr n) (μ1.put n (.lst ds.reverse))) : J X F0 (.Subscript a (.Slice none none (some (.UnaryOp .USub (.Constant (.int 1) kk p1) p2)) p3) pos) ρ μ Q := fun F σ H q R k =>
  of_pe (pe_revL pe_s) (ha.run R fun v F1 H1 h1 s1 m1 R1 => by
    cases h1 with
    | @lst n xs _ e t =>
      exact ⟨n, xs, rfl, SqL.of (m1.sub _ _ e), fun p hp => k _ _ _ _ _ (hq p (m1.free hp)) .adr s1 (m1.newL hp t.reverse)⟩)

/-! ### own calls -/
theorem call_to {vs : List V} {μ' : Mu} {F1 H1 : Hp} (hv : DAts K F1 vs ds) (m : MRep K μ' F1 H1) (s : Same F F1) (r : Same F0 F1) (hf : f ds μ' Q (RW TL F0 E)) (k : ∀ v d μ' F' H', Q d μ' → DAt K F' v d → Same F F' → MRep K μ' F' H' → q v H') : SpD K TL f (vs ++ []) H1 q E :=
  ⟨F1, ds, μ', Q, RW TL F0 E, by rw [List.append_nil]; exact hv, m, hf, fun v d μ' F' H' hq hd s' m' => k v d μ' F' H' hq hd (s.trans s') m', fun z => z.ext r⟩
theorem j_call (C : Cal X.prog X.w X.K X.mg X.base TL x k f) (G : GX X E) (hr : Room k X.A) (ha : JA X F0 (e :: es) ρ μ fun ds μ1 => f ds μ1 Q (RW TL F0 E)) (hg : Gl X x := by rfl) (hdb : (x == ("__debug__" : Str)) = false := by decide)
    (he : starEach (e :: es) X.env = (false, eval e X.env) :: starEach es X.env := by rfl) (hpl : (backTo pos (starEach es X.env)).any (·.1) = false := by rfl) : J X F0 (.Call (.Name x p) (e :: es) [] pos) ρ μ Q := fun F σ H q R k => by
  obtain ⟨fa, fd, ps, hm, hk, hb, FO⟩ := C.ex
  refine of_pe (pe_call FO hr hg hm hk hb .nil G.pa pa_s hdb he hpl) (ha F σ H _ R fun vs ds μ' F1 H1 hf hv s m => ?_)
  exact call_to hv m s (R.fro.trans s) hf k
theorem j_methM {C n : Addr} {m : Str} {fs : List (Str × D)} {pl : Sem Bool} (M : Met X.prog X.w X.K X.mg X.base TL C m k f) (G : GX X E) (hr : Room k X.A) (ho : JV X F0 o ρ μ (.adr n) μ1) (hn : μ1 n = some (.ins C fs)) (hl : fs.lookup m = none) (ha : JA X F0 (e :: es) ρ μ1 fun ds μ2 => f (.adr n :: ds) μ2 Q (RW TL F0 E))
    (hst : starEach (e :: es) X.env = (false, eval e X.env) :: starEach es X.env := by rfl) (hpl : (backTo pos (starEach es X.env)).any (·.1) = false := by rfl)
    (ht : eval (.Call (.Attribute o m apos) (e :: es) [] pos) X.env = (do
      let ov ← eval o X.env
      standAt apos.atName
      let (f, first) ← holding [ov] (getMethod ov m pl)
      callWith pos f first (backTo pos (starEach (e :: es) X.env)) (backToKw pos (keywordEach [] X.env))) := by rfl) : J X F0 (.Call (.Attribute o m apos) (e :: es) [] pos) ρ μ Q := fun F σ H q R kk => by
  obtain ⟨fa, fd, ps, hm, hb, FO⟩ := M.ex
  refine of_pe (pe_meth pe_s M.cl hm FO hr hb .nil G.pa pa_s hst hpl ht) (ho.run R fun v F1 H1 h1 s1 m1 R1 => ?_)
  cases h1
  obtain ⟨dx, gs, eg, tg⟩ := m1.inst hn
  refine ⟨n, dx, gs, rfl, eg, tg.lookup_none hl, ha F1 σ H1 _ R1 fun vs ds μ' F2 H2 hf hv s2 m2 => ?_⟩
  exact call_to (vs := .ref n :: vs) (.cons .adr hv) m2 (s1.trans s2) (R1.fro.trans s2) hf kk
theorem j_methM0 {C n : Addr} {m : Str} {fs : List (Str × D)} {pl : Sem Bool} (M : Met X.prog X.w X.K X.mg X.base TL C m k f) (G : GX X E) (hr : Room k X.A) (ho : JV X F0 o ρ μ (.adr n) μ1) (hn : μ1 n = some (.ins C fs)) (hl : fs.lookup m = none) (hf : f [.adr n] μ1 Q (RW TL F0 E))
    (ht : eval (.Call (.Attribute o m apos) [] [] pos) X.env = (do
      let ov ← eval o X.env
      standAt apos.atName
      let (f, first) ← holding [ov] (getMethod ov m pl)
      callWith pos f first (backTo pos (starEach [] X.env)) (backToKw pos (keywordEach [] X.env))) := by rfl) : J X F0 (.Call (.Attribute o m apos) [] [] pos) ρ μ Q := fun F σ H q R kk => by
  obtain ⟨fa, fd, ps, hm, hb, FO⟩ := M.ex
  refine of_pe (pe_meth0 pe_s M.cl hm FO hr hb .nil G.pa ht) (ho.run R fun v F1 H1 h1 s1 m1 R1 => ?_)
  cases h1
  obtain ⟨dx, gs, eg, tg⟩ := m1.inst hn
  exact ⟨n, dx, gs, rfl, eg, tg.lookup_none hl, call_to (vs := [.ref n]) (.cons .adr .nil) m1 s1 R1.fro hf kk⟩
theorem j_methO {C : Addr} {m : Str} {ns : List Str} {gs : List D} {pl : Sem Bool} (M : Met X.prog X.w X.K X.mg X.base TL C m k f) (G : GX X E) (hr : Room k X.A) (ho : JV X F0 o ρ μ (.obj C ns gs) μ1) (hl : ns.contains m = false) (ha : JA X F0 (e :: es) ρ μ1 fun ds μ2 => f (.obj C ns gs :: ds) μ2 Q (RW TL F0 E))
    (hst : starEach (e :: es) X.env = (false, eval e X.env) :: starEach es X.env := by rfl) (hpl : (backTo pos (starEach es X.env)).any (·.1) = false := by rfl)
    (ht : eval (.Call (.Attribute o m apos) (e :: es) [] pos) X.env = (do
      let ov ← eval o X.env
      standAt apos.atName
      let (f, first) ← holding [ov] (getMethod ov m pl)
      callWith pos f first (backTo pos (starEach (e :: es) X.env)) (backToKw pos (keywordEach [] X.env))) := by rfl) : J X F0 (.Call (.Attribute o m apos) (e :: es) [] pos) ρ μ Q := fun F σ H q R kk => by
  obtain ⟨fa, fd, ps, hm, hb, FO⟩ := M.ex
  refine of_pe (pe_meth pe_s M.cl hm FO hr hb .nil G.pa pa_s hst hpl ht) (ho.run R fun v F1 H1 h1 s1 m1 R1 => ?_)
  cases h1 with
  | @obj n _ dx xs _ _ eg l t =>
    refine ⟨n, dx, _, rfl, m1.sub _ _ eg, getD_none hl, ha F1 σ H1 _ R1 fun vs ds μ' F2 H2 hf hv s2 m2 => ?_⟩
    exact call_to (vs := .ref n :: vs) (.cons (.obj (s2 _ _ eg) l (t.mono s2)) hv) m2 (s1.trans s2) (R1.fro.trans s2) hf kk
/-- a new instance -/
theorem j_make {C : Addr} (M : Mak X.prog X.w X.K X.mg X.base TL C x k f) (G : GX X E) (hr : Room (k + 1) X.A) (ha : JA X F0 (e :: es) ρ μ fun ds μ1 => ∀ n, μ1 n = none → f (.adr n :: ds) (μ1.put n (.ins C [])) (fun d μ' => d = .non ∧ Q (.adr n) μ') (RW TL F0 E)) (hg : Gl X x := by rfl) (hdb : (x == ("__debug__" : Str)) = false := by decide)
    (he : starEach (e :: es) X.env = (false, eval e X.env) :: starEach es X.env := by rfl) (hpl : (backTo pos (starEach es X.env)).any (·.1) = false := by rfl) : J X F0 (.Call (.Name x p) (e :: es) [] pos) ρ μ Q := fun F σ H q R kk => by
  obtain ⟨fa, fd, ps, hm, mk, hb, FO⟩ := M.ex
  refine of_pe (pe_make mk FO hr hg hm hb .nil G.pa pa_s hdb he hpl) (ha F σ H _ R fun vs ds μ' F1 H1 hf hv s m => fun n dx hn hdx hne => ?_)
  have m2 : MRep X.K μ' F1 (upd H1 dx (.own n)) := m.beside hdx _
  have hn2 : upd H1 dx (.own n) n = none := by rw [upd_ne (Ne.symm hne)]; exact hn
  have m3 : MRep X.K (μ'.put n (.ins C [])) F1 (upd (upd H1 dx (.own n)) n (.ins C dx [])) := m2.put (m2.fresh hn2) ⟨dx, [], upd_same, .nil⟩
  refine call_to (vs := .ref n :: vs) (.cons .adr hv) m3 s (R.fro.trans s) (hf n (m.free hn)) ?_
  rintro v d μ2 F2 H2 ⟨rfl, hq⟩ hd s2 m4
  cases hd
  exact ⟨rfl, kk _ _ _ F2 H2 hq .adr s2 m4⟩
/-- a new instance that is never changed behind its __init__ -/
theorem j_makeZ {C : Addr} (M : Mak X.prog X.w X.K X.mg X.base TL C x k f) (G : GX X E) (hr : Room (k + 1) X.A)
    (ha : JA X F0 (e :: es) ρ μ fun ds μ1 => ∀ n, μ1 n = none → f (.adr n :: ds) (μ1.put n (.ins C [])) (fun d μ' => d = .non ∧ ∃ fs, μ' = μ1.put n (.ins C fs) ∧ Q (.obj C (fs.map (·.1)) (fs.map (·.2))) μ1) (RW TL F0 E)) (hg : Gl X x := by rfl) (hdb : (x == ("__debug__" : Str)) = false := by decide)
    (he : starEach (e :: es) X.env = (false, eval e X.env) :: starEach es X.env := by rfl) (hpl : (backTo pos (starEach es X.env)).any (·.1) = false := by rfl) : J X F0 (.Call (.Name x p) (e :: es) [] pos) ρ μ Q := fun F σ H q R kk => by
  obtain ⟨fa, fd, ps, hm, mk, hb, FO⟩ := M.ex
  refine of_pe (pe_make mk FO hr hg hm hb .nil G.pa pa_s hdb he hpl) (ha F σ H _ R fun vs ds μ' F1 H1 hf hv s m => fun n dx hn hdx hne => ?_)
  have m2 : MRep X.K μ' F1 (upd H1 dx (.own n)) := m.beside hdx _
  have hn2 : upd H1 dx (.own n) n = none := by rw [upd_ne (Ne.symm hne)]; exact hn
  have m3 : MRep X.K (μ'.put n (.ins C [])) F1 (upd (upd H1 dx (.own n)) n (.ins C dx [])) := m2.put (m2.fresh hn2) ⟨dx, [], upd_same, .nil⟩
  have hfree := m.free hn
  refine call_to (vs := .ref n :: vs) (.cons .adr hv) m3 s (R.fro.trans s) (hf n hfree) ?_
  rintro v d μ2 F2 H2 ⟨rfl, fs, rfl, hq⟩ hd s2 m4
  cases hd
  refine ⟨rfl, ?_⟩
  obtain ⟨fn, dx', gs, eg, tg⟩ := m4.mu n _ Mu.put_same
  obtain ⟨e1, e2, e3⟩ := tg.split
  have sm := same_upd (o := HO.ins C dx' gs) fn
  have m5 : MRep X.K μ' (upd F2 n (.ins C dx' gs)) H2 := m4.freeze eg fn fun b mo hb => by
    have hbn : b ≠ n := fun z => by rw [z, hfree] at hb; cases hb
    exact ⟨by rw [Mu.put_ne hbn]; exact hb, hbn⟩
  refine kk _ _ _ _ _ hq (.obj (dx := dx') (xs := gs.map (·.2)) ?_ e2 (e3.mono sm)) (s2.trans sm) m5
  rw [← e1]
  exact upd_same

/-! ### statements -/
variable {st : Stmt} {sts rest : List Stmt} {DE : DEnds}
theorem ss_nil (h : DE.nx ρ μ) : JSs X F0 [] ρ μ DE := fun F σ H D R c => of_pss pss_nil (c.nx ρ μ F σ H h R (Same.refl _))
theorem ss_cons (h : JS X F0 st ρ μ { DE with nx := fun ρ' μ' => JSs X F0 rest ρ' μ' DE }) : JSs X F0 (st :: rest) ρ μ DE := fun F σ H D R c =>
  of_pss (pss_cons ps_s pss_s) (h F σ H _ R ⟨fun ρ' μ' F' σ' H' a b s => a F' σ' H' D b (c.ext s), c.rt, c.bk, c.ct⟩)
theorem JSs.mono {DE' : DEnds} (h : JSs X F0 sts ρ μ DE) (h1 : ∀ r m, DE.nx r m → DE'.nx r m) (h2 : ∀ d m, DE.rt d m → DE'.rt d m) (h3 : ∀ r m, DE.bk r m → DE'.bk r m) (h4 : ∀ r m, DE.ct r m → DE'.ct r m) : JSs X F0 sts ρ μ DE' := fun F σ H D R c =>
  h F σ H D R ⟨fun ρ' μ' F' σ' H' a => c.nx _ _ _ _ _ (h1 _ _ a), fun v d μ' F' H' a => c.rt _ _ _ _ _ (h2 _ _ a), fun ρ' μ' F' σ' H' a => c.bk _ _ _ _ _ (h3 _ _ a), fun ρ' μ' F' σ' H' a => c.ct _ _ _ _ _ (h4 _ _ a)⟩
theorem js_set (i : Nat) (G : GX X E) {n : Str} (he : J X F0 e ρ μ fun d μ1 => DE.nx (ρ.set i (some d)) μ1) (hi : X.N[i]? = some n := by rfl) (hx : Loc X.env.scope n := by first | exact Or.inl rfl | exact Or.inr rfl)
    (hs : swapsWith e (some (.Name n pos')) pos.line X.env = pure false := by rfl) (hf : X.fn n = true ∨ X.env.scope.names.lookup n = some .local := by first | exact .inl rfl | exact .inr rfl) : JS X F0 (.Assign [.Name n pos'] e pos) ρ μ DE := fun F σ H D R c =>
  of_ps (ps_set G.nd hi hx pe_s hs hf) (he F σ H _ R fun v d μ' F' H' hq hd s m => c.nx _ μ' F' _ H' hq ((R.go s m).set i hd) s)
theorem ss_setJ (i : Nat) (G : GX X E) {n : Str} (he : J X F0 e ρ μ fun d μ1 => JSs X F0 rest (ρ.set i (some d)) μ1 DE) (hi : X.N[i]? = some n := by rfl) (hx : Loc X.env.scope n := by first | exact Or.inl rfl | exact Or.inr rfl)
    (hs : swapsWith e (some (.Name n pos')) pos.line X.env = pure false := by rfl) (hf : X.fn n = true ∨ X.env.scope.names.lookup n = some .local := by first | exact .inl rfl | exact .inr rfl) : JSs X F0 (.Assign [.Name n pos'] e pos :: rest) ρ μ DE := ss_cons (js_set i G he hi hx hs hf)
theorem ss_set (i : Nat) (G : GX X E) {n : Str} (he : JV X F0 e ρ μ d μ1) (h : JSs X F0 rest (ρ.set i (some d)) μ1 DE) (hi : X.N[i]? = some n := by rfl) (hx : Loc X.env.scope n := by first | exact Or.inl rfl | exact Or.inr rfl)
    (hs : swapsWith e (some (.Name n pos')) pos.line X.env = pure false := by rfl) (hf : X.fn n = true ∨ X.env.scope.names.lookup n = some .local := by first | exact .inl rfl | exact .inr rfl) : JSs X F0 (.Assign [.Name n pos'] e pos :: rest) ρ μ DE := ss_setJ i G (he.at h) hi hx hs hf
theorem ss_exprJ (he : J X F0 e ρ μ fun _ μ1 => JSs X F0 rest ρ μ1 DE) (hs : swapsWith e none pos.line X.env = pure false := by rfl) : JSs X F0 (.Expr e pos :: rest) ρ μ DE := ss_cons fun F σ H D R c =>
  of_ps (ps_expr pe_s hs) (he F σ H _ R fun v d μ' F' H' hq hd s m => c.nx _ μ' F' _ H' hq (R.go s m) s)
theorem ss_expr (he : JV X F0 e ρ μ d μ1) (h : JSs X F0 rest ρ μ1 DE) (hs : swapsWith e none pos.line X.env = pure false := by rfl) : JSs X F0 (.Expr e pos :: rest) ρ μ DE := ss_exprJ (he.at h) hs
theorem ss_retJ (he : J X F0 e ρ μ DE.rt) : JSs X F0 (.Return (some e) pos :: rest) ρ μ DE := ss_cons fun F σ H D R c => of_ps (ps_ret pe_s) (he F σ H _ R fun v d μ' F' H' hq hd s m => c.rt v d μ' F' H' hq hd s m)
theorem ss_ret (he : JV X F0 e ρ μ d μ1) (h : DE.rt d μ1) : JSs X F0 (.Return (some e) pos :: rest) ρ μ DE := ss_retJ (he.at h)
theorem ss_retN (h : DE.rt .non μ) : JSs X F0 (.Return none pos :: rest) ρ μ DE := ss_cons fun F σ H D R c => of_ps ps_retN (c.rt .non .non μ F H h .non (Same.refl _) R.m)
theorem ss_ifT {t : Expr} {body orelse : List Stmt} (ht : JB X F0 t ρ μ true) (h : JSs X F0 body ρ μ { DE with nx := fun ρ' μ' => JSs X F0 rest ρ' μ' DE }) : JSs X F0 (.If t body orelse pos :: rest) ρ μ DE := ss_cons fun F σ H D R c =>
  of_ps (ps_if pt_s pss_s pss_s) (ht.run R fun F1 H1 s m R1 => by
    show (if true = true then _ else _)
    rw [if_pos rfl]
    exact h F1 σ H1 D R1 (c.ext s))
theorem ss_ifF {t : Expr} {body orelse : List Stmt} (ht : JB X F0 t ρ μ false) (h : JSs X F0 orelse ρ μ { DE with nx := fun ρ' μ' => JSs X F0 rest ρ' μ' DE }) : JSs X F0 (.If t body orelse pos :: rest) ρ μ DE := ss_cons fun F σ H D R c =>
  of_ps (ps_if pt_s pss_s pss_s) (ht.run R fun F1 H1 s m R1 => by
    show (if false = true then _ else _)
    rw [if_neg Bool.false_ne_true]
    exact h F1 σ H1 D R1 (c.ext s))
theorem ss_if0 {t : Expr} {body : List Stmt} (ht : JB X F0 t ρ μ false) (h : JSs X F0 rest ρ μ DE) : JSs X F0 (.If t body [] pos :: rest) ρ μ DE := ss_ifF ht (ss_nil h)
theorem ss_if {t : Expr} {body orelse : List Stmt} {b' : Bool} (ht : JB X F0 t ρ μ b') (h1 : b' = true → JSs X F0 body ρ μ { DE with nx := fun ρ' μ' => JSs X F0 rest ρ' μ' DE }) (h2 : b' = false → JSs X F0 orelse ρ μ { DE with nx := fun ρ' μ' => JSs X F0 rest ρ' μ' DE }) : JSs X F0 (.If t body orelse pos :: rest) ρ μ DE := by
  cases b' with
  | true => exact ss_ifT ht (h1 rfl)
  | false => exact ss_ifF ht (h2 rfl)
/-- o.f = e, o mutable -/
theorem ss_fld {n C : Addr} {fs : List (Str × D)} {f : Str} (he : JV X F0 e ρ μ d μ1) (ho : JV X F0 o ρ μ1 (.adr n) μ1) (hn : μ1 n = some (.ins C fs)) (cl : Cls X.K C) (na : NoAttr X.K C f) (hl : fs.length < 1000) (h : JSs X F0 rest ρ (μ1.put n (.ins C (putD f d fs))) DE)
    (hs : swapsWith e (some (.Attribute o f pos')) pos.line X.env = pure false := by rfl) : JSs X F0 (.Assign [.Attribute o f pos'] e pos :: rest) ρ μ DE := ss_cons fun F σ H D R c =>
  of_ps (ps_fld pe_s pe_s hs) (he.run R fun v F1 H1 h1 s1 m1 R1 => ho.run R1 fun w F2 H2 h2 s2 m2 R2 => by
    cases h2
    obtain ⟨fn, dx, gs, eg, tg⟩ := m2.mu n _ hn
    refine ⟨n, C, dx, gs, rfl, eg, cl, na, by rw [tg.length]; exact hl, ?_⟩
    have m3 : MRep X.K (μ1.put n (.ins C (putD f d fs))) F2 (upd H2 n (.ins C dx (putF f v gs))) := m2.put fn ⟨dx, _, upd_same, tg.put (h1.mono s2)⟩
    exact c.nx _ _ F2 _ _ h (R2.go (Same.refl _) m3) (s1.trans s2))
/-- .. the value a new list that may change -/
theorem ss_fldJ {n C : Addr} {fs : List (Str × D)} {f : Str} (he : J X F0 e ρ μ fun d μ1 => JV X F0 o ρ μ1 (.adr n) μ1 ∧ μ1 n = some (.ins C fs) ∧ JSs X F0 rest ρ (μ1.put n (.ins C (putD f d fs))) DE) (cl : Cls X.K C) (na : NoAttr X.K C f) (hl : fs.length < 1000)
    (hs : swapsWith e (some (.Attribute o f pos')) pos.line X.env = pure false := by rfl) : JSs X F0 (.Assign [.Attribute o f pos'] e pos :: rest) ρ μ DE := ss_cons fun F σ H D R c =>
  of_ps (ps_fld pe_s pe_s hs) (he F σ H _ R fun v d μ1 F1 H1 ⟨ho, hn, h⟩ h1 s1 m1 => ho.run (R.go s1 m1) fun w F2 H2 h2 s2 m2 R2 => by
    cases h2
    obtain ⟨fn, dx, gs, eg, tg⟩ := m2.mu n _ hn
    refine ⟨n, C, dx, gs, rfl, eg, cl, na, by rw [tg.length]; exact hl, ?_⟩
    have m3 : MRep X.K (μ1.put n (.ins C (putD f d fs))) F2 (upd H2 n (.ins C dx (putF f v gs))) := m2.put fn ⟨dx, _, upd_same, tg.put (h1.mono s2)⟩
    exact c.nx _ _ F2 _ _ h (R2.go (Same.refl _) m3) (s1.trans s2))
/-- raise X('..') -/
theorem ss_raise {bmB : List Value} {B newId initId : String} {m : Str} {j : Nat} {p2 : Pos} (G : GX X E) (tk : Takes X (fun cls d _ H => E cls d H)) (FB : ExcBaseFacts B newId initId bmB) (xe : PySem.W.excIn X.K TL bmB newId = true) (gC : X.mg x = some (.ref TL)) (kC : PySem.W.keepIn X.K (.ref TL) = true) (r : Raises X (.ref TL))
    (h : RW TL F0 E) (hg : Gl X x := by rfl) (hdb : (x == ("__debug__" : Str)) = false := by decide) : JSs X F0 (.Raise (some (.Call (.Name x p) [.Constant (.str m) j p2] [] pos)) none pos' :: rest) ρ μ DE := ss_cons fun F σ H D R c =>
  of_ps (ps_raise G.calm tk (pmk_own FB xe gC kC r hg hdb)) (h H (R.fro.trans R.m.sub))

/-! ### targets -/
def JG (X : Cx) (F0 : Hp) (tg : Expr) (d : D) (ρ : Rho) (μ : Mu) (Q : Rho → Mu → Prop) : Prop :=
  ∀ F σ H v (q : L2.St → Hp → Prop), Rep X.K F0 ρ μ F σ H → DAt X.K F v d → (∀ ρ' μ' F' σ' H', Q ρ' μ' → Rep X.K F0 ρ' μ' F' σ' H' → Same F F' → q σ' H') → semG X tg v σ H q
structure semGs (X : Cx) (ts : List Expr) (vs : List V) (σ : L2.St) (H : Hp) (Q : L2.St → Hp → Prop) : Prop where
  run : ∀ pins s us, Inv X pins σ H s → Vals vs us → wpAny (model X.prog X.w) X.A (assignInOrder ((assignEach ts X.env).map (·.2)) us) (fun _ s' => ∃ σ' H', Inv X pins σ' H' s' ∧ Q σ' H') X.xe s
theorem pgs_s {ts : List Expr} : PGs X ts (semGs X ts) := ⟨fun pins s σ H vs us Q I r h => h.run pins s us I r⟩
def JGs (X : Cx) (F0 : Hp) (ts : List Expr) (ds : List D) (ρ : Rho) (μ : Mu) (Q : Rho → Mu → Prop) : Prop :=
  ∀ F σ H vs (q : L2.St → Hp → Prop), Rep X.K F0 ρ μ F σ H → DAts X.K F vs ds → (∀ ρ' μ' F' σ' H', Q ρ' μ' → Rep X.K F0 ρ' μ' F' σ' H' → Same F F' → q σ' H') → semGs X ts vs σ H q
theorem jg_name (i : Nat) (G : GX X E) {n : Str} {Q : Rho → Mu → Prop} (h : Q (ρ.set i (some d)) μ) (hi : X.N[i]? = some n := by rfl) (hx : Loc X.env.scope n := by first | exact Or.inl rfl | exact Or.inr rfl) (hf : X.fn n = true ∨ X.env.scope.names.lookup n = some .local := by first | exact .inl rfl | exact .inr rfl) :
    JG X F0 (.Name n pos) d ρ μ Q := fun F σ H v q R hd k => ⟨fun pins s u I r => (pg_name G.nd hi hx hf).run pins s σ H v u q I r (k _ _ F _ H h (R.set i hd) (Same.refl _))⟩
theorem jgs_nil {Q : Rho → Mu → Prop} (h : Q ρ μ) : JGs X F0 [] [] ρ μ Q := fun F σ H vs q R hd k => by
  cases hd
  exact ⟨fun pins s us I r => pgs_nil.run pins s σ H [] us q I r ⟨rfl, k _ _ F _ H h R (Same.refl _)⟩⟩
theorem jgs_cons {tg : Expr} {ts : List Expr} {Q : Rho → Mu → Prop} (h : JG X F0 tg d ρ μ fun ρ' μ' => JGs X F0 ts ds ρ' μ' Q) (hs : (assignEach (tg :: ts) X.env).map (·.2) = assign tg X.env :: (assignEach ts X.env).map (·.2) := by rfl) : JGs X F0 (tg :: ts) (d :: ds) ρ μ Q := fun F σ H vs q R hd k => by
  cases hd with
  | @cons v _ vr _ h1 h2 =>
    refine ⟨fun pins s us I r => (pgs_cons pg_s pgs_s hs).run pins s σ H _ us q I r ⟨v, vr, rfl, ?_⟩⟩
    exact h F σ H v _ R h1 fun ρ' μ' F' σ' H' hq R' s' => hq F' σ' H' vr q R' (h2.mono s') fun ρ2 μ2 F2 σ2 H2 a b s2 => k ρ2 μ2 F2 σ2 H2 a b (s'.trans s2)
theorem jg_tup {ts : List Expr} {kk n : Nat} {Q : Rho → Mu → Prop} (G : GX X E) (h : JGs X F0 ts ds ρ μ Q) (hl : ds.length = n := by rfl) (hn : (assignEach ts X.env).length = n := by rfl) (hst : (assignEach ts X.env).findIdx? (·.1) = none := by rfl) : JG X F0 (.Tuple ts kk pos) (.tup ds) ρ μ Q := fun F σ H v q R hd k => by
  cases hd with
  | @tup a xs _ e t => exact ⟨fun pins s u I r => (pg_tup G.calm pgs_s hn hst).run pins s σ H _ u q I r ⟨a, xs, rfl, SqT.of (R.m.sub _ _ e), t.length.trans hl, h F σ H xs q R t k⟩⟩
theorem jg_lst {ts : List Expr} {kk n : Nat} {Q : Rho → Mu → Prop} (G : GX X E) (h : JGs X F0 ts ds ρ μ Q) (hl : ds.length = n := by rfl) (hn : (assignEach ts X.env).length = n := by rfl) (hst : (assignEach ts X.env).findIdx? (·.1) = none := by rfl) : JG X F0 (.Tuple ts kk pos) (.lst ds) ρ μ Q := fun F σ H v q R hd k => by
  cases hd with
  | @lst a xs _ e t => exact ⟨fun pins s u I r => (pg_lst G.calm pgs_s hn hst).run pins s σ H _ u q I r ⟨a, xs, rfl, SqL.of (R.m.sub _ _ e), t.length.trans hl, h F σ H xs q R t k⟩⟩
theorem ss_asg {tg : Expr} (he : JV X F0 e ρ μ d μ1) (hg : JG X F0 tg d ρ μ1 fun ρ' μ' => JSs X F0 rest ρ' μ' DE) (hs : swapsWithSole [tg] e pos.line X.env = pure false := by rfl) (hw : swappedStores [tg] e X.env = pure none := by rfl) (h1 : (assignEach [tg] X.env).map (·.2) = [assign tg X.env] := by rfl) :
    JSs X F0 (.Assign [tg] e pos :: rest) ρ μ DE := ss_cons fun F σ H D R c =>
  of_ps (ps_asg pe_s pg_s hs hw h1) (he.run R fun v F1 H1 hv s m R1 => hg F1 σ H1 v _ R1 hv fun ρ' μ' F' σ' H' a b s' => c.nx ρ' μ' F' σ' H' a b (s.trans s'))

/-! ### loops -/
/-- for over a list or a tuple that is never changed -/
theorem ss_for {tg iter : Expr} {body : List Stmt} (G : GX X E) (hi : JV X F0 iter ρ μ d μ1) (hd : d = .lst ds ∨ d = .tup ds) (W : Nat → Rho → Mu → Prop) (h0 : W 0 ρ μ1)
    (step : ∀ i d ρ' μ', ds[i]? = some d → W i ρ' μ' → JG X F0 tg d ρ' μ' fun ρ2 μ2 => JSs X F0 body ρ2 μ2 { nx := W (i + 1), ct := W (i + 1), bk := fun r m => JSs X F0 rest r m DE, rt := DE.rt })
    (done : ∀ ρ' μ', W ds.length ρ' μ' → JSs X F0 rest ρ' μ' DE) (hs : ∀ x, foldedSetIterable iter X.env x = pure x := by intro _; rfl) : JSs X F0 (.For tg iter body [] pos :: rest) ρ μ DE := ss_cons fun F σ H D R c => by
  rcases hd with rfl | rfl
  · refine of_ps (ps_for G.po G.calm (pi_list pe_s) pg_s pss_s hs) (hi.run R fun v F1 H1 h1 s1 m1 R1 => ?_)
    cases h1 with
    | @lst a xs _ e t =>
      refine ⟨a, rfl, ⟨xs, SqL.of (m1.sub _ _ e)⟩, for_list (K := X.K) (a := a) (xs := xs) (fun i σ' H' => ∃ ρ' μ' F', W i ρ' μ' ∧ Rep X.K F0 ρ' μ' F' σ' H' ∧ Same F1 F') ⟨ρ, μ1, F1, h0, R1, Same.refl _⟩ ?_ ?_ ?_⟩
      · rintro i σ' H' _ ⟨ρ', μ', F', _, R', s'⟩
        exact SqL.of (R'.m.sub _ _ (s' _ _ e))
      · rintro i y σ' H' hy ⟨ρ', μ', F', w, R', s'⟩
        obtain ⟨d, hd, hv⟩ := t.getV hy
        refine step i d ρ' μ' hd w F' σ' H' y _ R' (hv.mono s') fun ρ2 μ2 F2 σ2 H2 hb R2 s2 => hb F2 σ2 H2 _ R2 ⟨?_, ?_, ?_, ?_⟩
        · exact fun ρ3 μ3 F3 σ3 H3 a3 b3 s3 => ⟨ρ3, μ3, F3, a3, b3, s'.trans (s2.trans s3)⟩
        · exact fun v3 d3 μ3 F3 H3 a3 b3 s3 m3 => c.rt v3 d3 μ3 F3 H3 a3 b3 (s1.trans (s'.trans (s2.trans s3))) m3
        · exact fun ρ3 μ3 F3 σ3 H3 a3 b3 s3 => c.nx ρ3 μ3 F3 σ3 H3 a3 b3 (s1.trans (s'.trans (s2.trans s3)))
        · exact fun ρ3 μ3 F3 σ3 H3 a3 b3 s3 => ⟨ρ3, μ3, F3, a3, b3, s'.trans (s2.trans s3)⟩
      · rintro σ' H' ⟨ρ', μ', F', w, R', s'⟩
        rw [t.length] at w
        exact c.nx ρ' μ' F' σ' H' (done ρ' μ' w) R' (s1.trans s')
  · refine of_ps (ps_for G.po G.calm (pi_tup pe_s) pg_s pss_s hs) (hi.run R fun v F1 H1 h1 s1 m1 R1 => ?_)
    cases h1 with
    | @tup a xs _ e t =>
      refine ⟨a, rfl, ⟨xs, SqT.of (m1.sub _ _ e)⟩, for_tup (K := X.K) (a := a) (xs := xs) (fun i σ' H' => ∃ ρ' μ' F', W i ρ' μ' ∧ Rep X.K F0 ρ' μ' F' σ' H' ∧ Same F1 F') ⟨ρ, μ1, F1, h0, R1, Same.refl _⟩ ?_ ?_ ?_⟩
      · rintro i σ' H' _ ⟨ρ', μ', F', _, R', s'⟩
        exact SqT.of (R'.m.sub _ _ (s' _ _ e))
      · rintro i y σ' H' hy ⟨ρ', μ', F', w, R', s'⟩
        obtain ⟨d, hd, hv⟩ := t.getV hy
        refine step i d ρ' μ' hd w F' σ' H' y _ R' (hv.mono s') fun ρ2 μ2 F2 σ2 H2 hb R2 s2 => hb F2 σ2 H2 _ R2 ⟨?_, ?_, ?_, ?_⟩
        · exact fun ρ3 μ3 F3 σ3 H3 a3 b3 s3 => ⟨ρ3, μ3, F3, a3, b3, s'.trans (s2.trans s3)⟩
        · exact fun v3 d3 μ3 F3 H3 a3 b3 s3 m3 => c.rt v3 d3 μ3 F3 H3 a3 b3 (s1.trans (s'.trans (s2.trans s3))) m3
        · exact fun ρ3 μ3 F3 σ3 H3 a3 b3 s3 => c.nx ρ3 μ3 F3 σ3 H3 a3 b3 (s1.trans (s'.trans (s2.trans s3)))
        · exact fun ρ3 μ3 F3 σ3 H3 a3 b3 s3 => ⟨ρ3, μ3, F3, a3, b3, s'.trans (s2.trans s3)⟩
      · rintro σ' H' ⟨ρ', μ', F', w, R', s'⟩
        rw [t.length] at w
        exact c.nx ρ' μ' F' σ' H' (done ρ' μ' w) R' (s1.trans s')
/-- for i in range(n) -/
theorem ss_forR (B : Bl X.mg) {tg a : Expr} {body : List Stmt} {p1 p2 : Pos} {n : Nat} (G : GX X E) (hi : JV X F0 a ρ μ (.int (n : Int)) μ1) (hn : n ≤ 100000) (W : Nat → Rho → Mu → Prop) (h0 : W 0 ρ μ1)
    (step : ∀ i ρ' μ', i < n → W i ρ' μ' → JG X F0 tg (.int (i : Int)) ρ' μ' fun ρ2 μ2 => JSs X F0 body ρ2 μ2 { nx := W (i + 1), ct := W (i + 1), bk := fun r m => JSs X F0 rest r m DE, rt := DE.rt })
    (done : ∀ ρ' μ', W n ρ' μ' → JSs X F0 rest ρ' μ' DE) (hg : Gl X "range" := by rfl) (hs1 : starEach [a] X.env = [(false, eval a X.env)] := by rfl) (hs : ∀ x, foldedSetIterable (.Call (.Name "range" p1) [a] [] p2) X.env x = pure x := by intro _; rfl) :
    JSs X F0 (.For tg (.Call (.Name "range" p1) [a] [] p2) body [] pos :: rest) ρ μ DE := ss_cons fun F σ H D R c => by
  refine of_ps (ps_for G.po G.calm (pi_range1 hg B.range (pa_cons pe_s pa_nil hs1) hs1) pg_s pss_s hs) (hi.run R fun v F1 H1 h1 s1 m1 R1 => ?_)
  cases h1
  refine ⟨n, rfl, by omega, by omega, ?_⟩
  have e : ((n : Int)).toNat = n := by omega
  rw [e]
  refine for_range (lo := 0) (n := n) (fun i σ' H' => ∃ ρ' μ' F', W i ρ' μ' ∧ Rep X.K F0 ρ' μ' F' σ' H' ∧ Same F1 F') ⟨ρ, μ1, F1, h0, R1, Same.refl _⟩ ?_ ?_
  · rintro i σ' H' hlt ⟨ρ', μ', F', w, R', s'⟩
    have ei : (0 : Int) + (i : Int) = i := by omega
    rw [ei]
    refine step i ρ' μ' hlt w F' σ' H' _ _ R' .int fun ρ2 μ2 F2 σ2 H2 hb R2 s2 => hb F2 σ2 H2 _ R2 ⟨?_, ?_, ?_, ?_⟩
    · exact fun ρ3 μ3 F3 σ3 H3 a3 b3 s3 => ⟨ρ3, μ3, F3, a3, b3, s'.trans (s2.trans s3)⟩
    · exact fun v3 d3 μ3 F3 H3 a3 b3 s3 m3 => c.rt v3 d3 μ3 F3 H3 a3 b3 (s1.trans (s'.trans (s2.trans s3))) m3
    · exact fun ρ3 μ3 F3 σ3 H3 a3 b3 s3 => c.nx ρ3 μ3 F3 σ3 H3 a3 b3 (s1.trans (s'.trans (s2.trans s3)))
    · exact fun ρ3 μ3 F3 σ3 H3 a3 b3 s3 => ⟨ρ3, μ3, F3, a3, b3, s'.trans (s2.trans s3)⟩
  · rintro σ' H' ⟨ρ', μ', F', w, R', s'⟩
    exact c.nx ρ' μ' F' σ' H' (done ρ' μ' w) R' (s1.trans s')
/-- for i in range(n - 1, -1, -1) -/
theorem ss_forD (B : Bl X.mg) {tg a b c' : Expr} {body : List Stmt} {p1 p2 : Pos} {n : Nat} (G : GX X E) (hi : JVs X F0 [a, b, c'] ρ μ [.int ((n : Int) - 1), .int (-1), .int (-1)] μ1) (hn : n ≤ 100000) (W : Nat → Rho → Mu → Prop) (h0 : W 0 ρ μ1)
    (step : ∀ i ρ' μ', i < n → W i ρ' μ' → JG X F0 tg (.int ((n : Int) - 1 - i)) ρ' μ' fun ρ2 μ2 => JSs X F0 body ρ2 μ2 { nx := W (i + 1), ct := W (i + 1), bk := fun r m => JSs X F0 rest r m DE, rt := DE.rt })
    (done : ∀ ρ' μ', W n ρ' μ' → JSs X F0 rest ρ' μ' DE) (hg : Gl X "range" := by rfl) (hs1 : starEach [a, b, c'] X.env = (false, eval a X.env) :: starEach [b, c'] X.env := by rfl) (hpl : (backTo p2 (starEach [b, c'] X.env)).any (·.1) = false := by rfl)
    (hs : ∀ x, foldedSetIterable (.Call (.Name "range" p1) [a, b, c'] [] p2) X.env x = pure x := by intro _; rfl) : JSs X F0 (.For tg (.Call (.Name "range" p1) [a, b, c'] [] p2) body [] pos :: rest) ρ μ DE := ss_cons fun F σ H D R c => by
  refine of_ps (ps_for G.po G.calm (pi_range3 hg B.range pa_s hs1 hpl) pg_s pss_s hs) (hi F σ H _ R ?_)
  rintro vs _ _ F1 H1 ⟨rfl, rfl⟩ hv s1 m1
  have R1 := R.go s1 m1
  cases hv with
  | cons q1 hv =>
    cases hv with
    | cons q2 hv =>
      cases hv with
      | cons q3 hv =>
        cases hv
        cases q1; cases q2; cases q3
        have rg : RgC ((n : Int) - 1) (-1) (-1) n := by
          have h := RgC.neg (i := (n : Int) - 1) (j := -1) (by omega) (by omega) (by omega) (by omega)
          have e : ((n : Int) - 1 - (-1)).toNat = n := by omega
          rw [e] at h
          exact h
        refine ⟨_, _, _, n, rfl, rg, ?_⟩
        refine for_rangeC (lo := (n : Int) - 1) (c := -1) (n := n) (fun i σ' H' => ∃ ρ' μ' F', W i ρ' μ' ∧ Rep X.K F0 ρ' μ' F' σ' H' ∧ Same F1 F') ⟨ρ, _, F1, h0, R1, Same.refl _⟩ ?_ ?_
        · rintro i σ' H' hlt ⟨ρ', μ', F', w, R', s'⟩
          have ei : (n : Int) - 1 + (i : Nat) * (-1) = (n : Int) - 1 - i := by omega
          rw [ei]
          refine step i ρ' μ' hlt w F' σ' H' _ _ R' .int fun ρ2 μ2 F2 σ2 H2 hb R2 s2 => hb F2 σ2 H2 _ R2 ⟨?_, ?_, ?_, ?_⟩
          · exact fun ρ3 μ3 F3 σ3 H3 a3 b3 s3 => ⟨ρ3, μ3, F3, a3, b3, s'.trans (s2.trans s3)⟩
          · exact fun v3 d3 μ3 F3 H3 a3 b3 s3 m3 => c.rt v3 d3 μ3 F3 H3 a3 b3 (s1.trans (s'.trans (s2.trans s3))) m3
          · exact fun ρ3 μ3 F3 σ3 H3 a3 b3 s3 => c.nx ρ3 μ3 F3 σ3 H3 a3 b3 (s1.trans (s'.trans (s2.trans s3)))
          · exact fun ρ3 μ3 F3 σ3 H3 a3 b3 s3 => ⟨ρ3, μ3, F3, a3, b3, s'.trans (s2.trans s3)⟩
        · rintro σ' H' ⟨ρ', μ', F', w, R', s'⟩
          exact c.nx ρ' μ' F' σ' H' (done ρ' μ' w) R' (s1.trans s')
/-- while, by a word with its measure -/
theorem ss_while {t : Expr} {body : List Stmt} (G : GX X E) (W : Nat → Rho → Mu → Prop) {m0 : Nat} (h0 : W m0 ρ μ)
    (step : ∀ m ρ' μ', W m ρ' μ' → ∃ b', JB X F0 t ρ' μ' b' ∧ (b' = true → JSs X F0 body ρ' μ' { nx := fun r u => ∃ m', m' < m ∧ W m' r u, ct := fun r u => ∃ m', m' < m ∧ W m' r u, bk := fun r u => JSs X F0 rest r u DE, rt := DE.rt }) ∧ (b' = false → JSs X F0 rest ρ' μ' DE)) :
    JSs X F0 (.While t body [] pos :: rest) ρ μ DE := ss_cons fun F σ H D R c => by
  refine of_ps (ps_while G.po pt_s pss_s) ⟨fun m σ' H' => ∃ ρ' μ' F', W m ρ' μ' ∧ Rep X.K F0 ρ' μ' F' σ' H' ∧ Same F F', ⟨m0, ρ, μ, F, h0, R, Same.refl _⟩, ?_⟩
  rintro m σ' H' ⟨ρ', μ', F', w, R', s'⟩
  obtain ⟨b', hb, h1, h2⟩ := step m ρ' μ' w
  refine hb.run R' fun F2 H2 s2 m2 R2 => ?_
  cases b' with
  | true =>
    rw [if_pos rfl]
    refine ⟨fun σ3 H3 => ∃ m', m' < m ∧ ∃ ρ' μ' F', W m' ρ' μ' ∧ Rep X.K F0 ρ' μ' F' σ3 H3 ∧ Same F F', fun σ3 H3 z => z, h1 rfl F2 σ' H2 _ R2 ⟨?_, ?_, ?_, ?_⟩⟩
    · rintro ρ3 μ3 F3 σ3 H3 ⟨m', hm, w3⟩ R3 s3
      exact ⟨m', hm, ρ3, μ3, F3, w3, R3, s'.trans (s2.trans s3)⟩
    · exact fun v3 d3 μ3 F3 H3 a3 b3 s3 m3 => c.rt v3 d3 μ3 F3 H3 a3 b3 (s'.trans (s2.trans s3)) m3
    · exact fun ρ3 μ3 F3 σ3 H3 a3 b3 s3 => c.nx ρ3 μ3 F3 σ3 H3 a3 b3 (s'.trans (s2.trans s3))
    · rintro ρ3 μ3 F3 σ3 H3 ⟨m', hm, w3⟩ R3 s3
      exact ⟨m', hm, ρ3, μ3, F3, w3, R3, s'.trans (s2.trans s3)⟩
  | false =>
    rw [if_neg Bool.false_ne_true]
    exact c.nx ρ' μ' F2 σ' H2 (h2 rfl) R2 (s'.trans s2)
end
end Gs

/-! The rules of the layer: comprehensions, try. -/
namespace Gs
open PySem PySem.Spec PyProof.Rows L2
def wipeD (ρ : Rho) : List Nat → Rho
  | [] => ρ
  | v :: vs => (wipeD ρ vs).set v none
section
variable {K : PySem.W.Frag} {F0 F H : Hp} {ρ : Rho} {μ : Mu} {σ : L2.St}
theorem wipe_rep (R : Rep K F0 ρ μ F σ H) : ∀ vs : List Nat, Rep K F0 (wipeD ρ vs) μ F (wipe σ vs) H
  | [] => R
  | v :: vs => by
    have R' := wipe_rep R vs
    refine ⟨R'.fro, R'.m, ?_, fun i d e => ?_⟩
    · show ((wipe σ vs).set v none).length = ((wipeD ρ vs).set v none).length
      rw [List.length_set, List.length_set, R'.len]
    · show ∃ w, ((wipe σ vs).set v none)[i]? = some (some w) ∧ _
      have e' : ((wipeD ρ vs).set v none)[i]? = some (some d) := e
      by_cases hi : v = i
      · subst hi
        by_cases hv : v < (wipeD ρ vs).length
        · rw [List.getElem?_set_self hv] at e'; cases e'
        · rw [List.getElem?_eq_none (by rw [List.length_set]; omega)] at e'; cases e'
      · rw [List.getElem?_set_ne hi] at e' ⊢
        exact R'.at_ i d e'
end
section
variable {X : Cx} {F0 F H : Hp} {σ : L2.St} {ρ : Rho} {μ μ1 μ2 μ3 : Mu} {elt iter : Expr} {es : List Expr} {d : D} {ds : List D} {pos p apos pos' : Pos} {Q Q' : D → Mu → Prop} {x : Str} {q : VK} {E : XK} {TL : Addr} {k : Nat} {f : Fn} {scope : Scope}
/-- within a comprehension's block nothing is raised -/
theorem GX.blk (G : GX X E) (s : Shared) (H : Hp) (cenv : Env) (fp : List Addr) : GX (X.blk s H scope cenv fp) E0 := ⟨G.nd, G.calm, PassesOwn.never, passL⟩
theorem wipe1 {σ : L2.St} {i : Nat} {x : Option V} : wipe ((wipe σ [i]).set i x) [i] = wipe σ [i] := by
  show ((σ.set i none).set i x).set i none = σ.set i none
  rw [List.set_set, List.set_set]
theorem wipe2 {σ : L2.St} {i j : Nat} {x y : Option V} (h : i ≠ j) : wipe (((wipe σ [i, j]).set i x).set j y) [i, j] = wipe σ [i, j] := by
  show (((((σ.set j none).set i none).set i x).set j y).set j none).set i none = (σ.set j none).set i none
  rw [List.set_set, List.set_set, List.set_comm _ _ h, List.set_set, List.set_set]
theorem take_snoc {α : Type} {l : List α} {i : Nat} {x : α} (h : l[i]? = some x) : l.take (i + 1) = l.take i ++ [x] := by
  rw [List.take_add_one, h]
  rfl
def semB (X : Cx) (scope : Scope) (elt : Expr) : TE := fun σ H Q => ∀ s H' C cl fp, sem (X.blk s H' scope (compEnvC scope cl C X.env) fp) elt σ H Q
def semBT (X : Cx) (scope : Scope) (ifs : List Expr) : TT := fun σ H Q => ∀ s H' C cl fp pins st, Inv (X.blk s H' scope (compEnvC scope cl C X.env) fp) pins σ H st →
  wpAny (model X.prog X.w) X.A (forIn ifs true fun c r => if r = true then do let ok ← isTrue c (compEnvC scope cl C X.env) (eval c (compEnvC scope cl C X.env)); pure (ForInStep.yield ok) else pure (ForInStep.yield r)) (TP (X.blk s H' scope (compEnvC scope cl C X.env) fp) pins σ Q) (fun _ _ => False) st
theorem bt_nil {Q : Bool → Hp → Prop} (h : Q true H) : semBT X scope [] σ H Q := fun s H' C cl fp pins st I => (pts_nil (X := X.blk s H' scope (compEnvC scope cl C X.env) fp)).run pins st σ H Q I h
theorem bt_one {t : Expr} {Q : Bool → Hp → Prop} (h : ∀ s H' C cl fp, semT (X.blk s H' scope (compEnvC scope cl C X.env) fp) t σ H Q) : semBT X scope [t] σ H Q := fun s H' C cl fp pins st I => (pts_one (X := X.blk s H' scope (compEnvC scope cl C X.env) fp) pt_s).run pins st σ H Q I (h s H' C cl fp)
/-- [elt for n in iter] -/
theorem jv_lc1 {α : Type} {n : Str} {i : Nat} {pn : Pos} (G : GX X E) (ps : List α) (en : α → D) (hi : JV X F0 iter ρ μ (.lst (ps.map en)) μ) (ok : BlkOk X.N X.env.scope scope [(n, i)]) (hlen : ps.length ≤ 100000) (hin : X.N[i]? = some n)
    (hl : ∀ (s : Shared) (H : Hp) (C : Addr) (cl : List (Str × Addr)) (fp : List Addr), Loc (X.blk s H scope (compEnvC scope cl C X.env) fp).env.scope n)
    (hf : ∀ (s : Shared) (H : Hp) (C : Addr) (cl : List (Str × Addr)) (fp : List Addr), (X.blk s H scope (compEnvC scope cl C X.env) fp).fn n = true ∨ (X.blk s H scope (compEnvC scope cl C X.env) fp).env.scope.names.lookup n = some .local)
    (g : α → D) (he : ∀ (s : Shared) (H : Hp) (C : Addr) (cl : List (Str × Addr)) (fp : List Addr) (p : α) (μ' : Mu), p ∈ ps → JV (X.blk s H scope (compEnvC scope cl C X.env) fp) F0 elt ((wipeD ρ [i]).set i (some (en p))) μ' (g p) μ')
    (hs : ∀ x, foldedSetIterable iter X.env x = pure x := by intro _; rfl) : JV X F0 (.ListComp elt [⟨.Name n pn, iter, [], 0⟩] scope pos) ρ μ (.lst (ps.map g)) μ := fun F σ H q R k => by
  refine of_pe (pe_lc (own := [(n, i)]) (g := gName i) (tt := tYes) (te := semB X scope elt) G.calm G.nd (pi_list pe_s) ok (fun s H C cl fp => pg_name G.nd hin (hl s H C cl fp) (hf s H C cl fp)) (fun _ _ _ _ _ => pts_nil)
    (fun s H C cl fp => ⟨fun pins st σ' H' Q I h => (h s H C cl fp).run pins st I⟩) hs) (hi.run R fun v F1 H1 h1 s1 m1 R1 => ?_)
  cases h1 with
  | @lst a xs _ e t =>
    refine ⟨a, rfl, ⟨xs, SqL.of (m1.sub _ _ e)⟩, fun n' hn => ?_⟩
    have hfree := m1.free hn
    have hF1 := m1.fresh hn
    refine lc_list (K := X.K) (a := a) (xs := xs) (g := gName i) (tt := tYes) (te := semB X scope elt) (vs := [i]) (σ := σ) (Qd := fun H' => q (.ref n') H') (fun j H' => ∃ F', Same F1 F' ∧ MRep X.K (μ.put n' (.lst ((ps.take j).map g))) F' H') ⟨F1, Same.refl _, m1.newL hn .nil⟩ ?_ ?_ ?_
    · rintro j H' _ ⟨F', s', m'⟩
      exact SqL.of (m'.sub _ _ (s' _ _ e))
    · rintro j y H' hy ⟨F', s', m'⟩
      obtain ⟨d, hd, hv⟩ := t.getV hy
      rw [List.getElem?_map] at hd
      obtain ⟨p, hp, ed⟩ : ∃ p, ps[j]? = some p ∧ en p = d := by
        cases q : ps[j]? with
        | none => rw [q] at hd; cases hd
        | some p => rw [q] at hd; exact ⟨p, rfl, Option.some.inj hd⟩
      subst ed
      refine ⟨wipe1, ?_⟩
      have go : semB X scope elt ((wipe σ [i]).set i (some y)) H' (fun y H4 => ∃ acc, H4 n' = some (.lst acc) ∧ acc.length < sizeLine ∧ ∃ F', Same F1 F' ∧ MRep X.K (μ.put n' (.lst ((ps.take (j + 1)).map g))) F' (upd H4 n' (.lst (acc ++ [y])))) := by
        intro st H'' C cl fp
        have R' : Rep X.K F0 ((wipeD ρ [i]).set i (some (en p))) (μ.put n' (.lst ((ps.take j).map g))) F' ((wipe σ [i]).set i (some y)) H' := (wipe_rep (R1.go s' m') [i]).set i (hv.mono s')
        refine (he st H'' C cl fp p _ (List.mem_of_getElem? hp)).run R' fun v2 F2 H2 hv2 s2 m2 R2 => ?_
        obtain ⟨acc, ea, ta⟩ := m2.list Mu.put_same
        have hle : ((ps.take j).map g).length ≤ ps.length := by
          rw [List.length_map, List.length_take]
          exact Nat.min_le_right _ _
        refine ⟨acc, ea, by rw [ta.length]; exact smallT (by omega), F2, s'.trans s2, ?_⟩
        have m3 := m2.writeL Mu.put_same (ta.append (.cons hv2 .nil))
        rw [Mu.put_put] at m3
        rw [take_snoc hp, List.map_append]
        exact m3
      exact iteT (B := ∃ F', Same F1 F' ∧ MRep X.K (μ.put n' (.lst ((ps.take (j + 1)).map g))) F' H') go
    · rintro H' ⟨F', s', m'⟩
      rw [t.length, List.length_map, List.take_length] at m'
      obtain ⟨fn, acc, ea, ta⟩ := m'.mu n' _ Mu.put_same
      have sm := same_upd (o := HO.lst acc) fn
      have m5 : MRep X.K μ (upd F' n' (.lst acc)) H' := m'.freeze ea fn fun b mo hb => by
        have hbn : b ≠ n' := fun z => by rw [z, hfree] at hb; cases hb
        exact ⟨by rw [Mu.put_ne hbn]; exact hb, hbn⟩
      exact k _ _ _ _ _ ⟨rfl, rfl⟩ (.lst upd_same (ta.mono sm)) (s1.trans (s'.trans sm)) m5
/-- y = [elt for n, m in iter if test] (test: pr) -/
theorem ss_lc2 {α : Type} {y n m : Str} {iy i j : Nat} {py pn pm pt spos : Pos} {kt : Nat} {rest : List Stmt} {DE : DEnds} {ifs : List Expr} (G : GX X E) (ps : List α) (e1 e2 : α → D) (hi : JV X F0 iter ρ μ (.lst (ps.map fun p => .tup [e1 p, e2 p])) μ) (hij : i ≠ j) (ok : BlkOk X.N X.env.scope scope [(n, i), (m, j)]) (hlen : ps.length ≤ 100000) (hin : X.N[i]? = some n) (hjm : X.N[j]? = some m)
    (hl : ∀ (s : Shared) (H : Hp) (C : Addr) (cl : List (Str × Addr)) (fp : List Addr), (X.blk s H scope (compEnvC scope cl C X.env) fp).env.scope.names.lookup n = some .local ∧ (X.blk s H scope (compEnvC scope cl C X.env) fp).env.scope.names.lookup m = some .local)
    (hrows : ∀ (s : Shared) (H : Hp) (C : Addr) (cl : List (Str × Addr)) (fp : List Addr), PGs (X.blk s H scope (compEnvC scope cl C X.env) fp) [.Name n pn, .Name m pm] (gCons (gName i) (gCons (gName j) gNil)) →
      PG (X.blk s H scope (compEnvC scope cl C X.env) fp) (.Tuple [.Name n pn, .Name m pm] kt pt) (gTup X.K 2 (gCons (gName i) (gCons (gName j) gNil))))
    (hrow2 : ∀ (s : Shared) (H : Hp) (C : Addr) (cl : List (Str × Addr)) (fp : List Addr), PG (X.blk s H scope (compEnvC scope cl C X.env) fp) (.Name n pn) (gName i) → PG (X.blk s H scope (compEnvC scope cl C X.env) fp) (.Name m pm) (gName j) →
      PGs (X.blk s H scope (compEnvC scope cl C X.env) fp) [.Name n pn, .Name m pm] (gCons (gName i) (gCons (gName j) gNil)))
    (pr : α → Bool) (g : α → D)
    (ht : (ifs = [] ∧ ∀ p, pr p = true) ∨ ∃ t, ifs = [t] ∧ ∀ (s : Shared) (H : Hp) (C : Addr) (cl : List (Str × Addr)) (fp : List Addr) (p : α) (μ' : Mu), p ∈ ps → JB (X.blk s H scope (compEnvC scope cl C X.env) fp) F0 t (((wipeD ρ [i, j]).set i (some (e1 p))).set j (some (e2 p))) μ' (pr p))
    (he : ∀ (s : Shared) (H : Hp) (C : Addr) (cl : List (Str × Addr)) (fp : List Addr) (p : α) (μ' : Mu), p ∈ ps → JV (X.blk s H scope (compEnvC scope cl C X.env) fp) F0 elt (((wipeD ρ [i, j]).set i (some (e1 p))).set j (some (e2 p))) μ' (g p) μ')
    (h : JSs X F0 rest (ρ.set iy (some (.lst ((ps.filter pr).map g)))) μ DE)
    (hy : X.N[iy]? = some y) (hyl : X.env.scope.names.lookup y = some .local)
    (hsw : swapsWith (.ListComp elt [⟨.Tuple [.Name n pn, .Name m pm] kt pt, iter, ifs, 0⟩] scope pos) (some (.Name y py)) spos.line X.env = pure true)
    (hs : ∀ x, foldedSetIterable iter X.env x = pure x := by intro _; rfl) : JSs X F0 (.Assign [.Name y py] (.ListComp elt [⟨.Tuple [.Name n pn, .Name m pm] kt pt, iter, ifs, 0⟩] scope pos) spos :: rest) ρ μ DE := ss_cons fun F σ H D R c => by
  refine of_ps (ps_setLc (own := [(n, i), (m, j)]) (g := gTup X.K 2 (gCons (gName i) (gCons (gName j) gNil))) (tt := semBT X scope ifs)
    (te := semB X scope elt) G.calm G.nd hy hyl hsw (pi_list pe_s) ok
    (fun s H C cl fp => hrows s H C cl fp (hrow2 s H C cl fp (pg_name G.nd hin (Or.inl (hl s H C cl fp).1) (Or.inr (hl s H C cl fp).1)) (pg_name G.nd hjm (Or.inl (hl s H C cl fp).2) (Or.inr (hl s H C cl fp).2))))
    (fun s H C cl fp => ⟨fun pins st σ' H' Q I h => h s H C cl fp pins st I⟩)
    (fun s H C cl fp => ⟨fun pins st σ' H' Q I h => (h s H C cl fp).run pins st I⟩) hs) (hi.run R fun v F1 H1 h1 s1 m1 R1 => ?_)
  cases h1 with
  | @lst a xs _ e t =>
    refine ⟨a, rfl, ⟨xs, SqL.of (m1.sub _ _ e)⟩, fun n' hn => ?_⟩
    have hfree := m1.free hn
    have hF1 := m1.fresh hn
    refine lc_list (K := X.K) (a := a) (xs := xs) (g := gTup X.K 2 (gCons (gName i) (gCons (gName j) gNil))) (tt := semBT X scope ifs) (te := semB X scope elt) (vs := [i, j]) (σ := σ) (Qd := fun H' => gName iy (.ref n') σ H' D.nx) (fun l H' => ∃ F', Same F1 F' ∧ MRep X.K (μ.put n' (.lst (((ps.take l).filter pr).map g))) F' H') ⟨F1, Same.refl _, m1.newL hn .nil⟩ ?_ ?_ ?_
    · rintro l H' _ ⟨F', s', m'⟩
      exact SqL.of (m'.sub _ _ (s' _ _ e))
    · rintro l z H' hz ⟨F', s', m'⟩
      obtain ⟨d, hd, hv⟩ := t.getV hz
      rw [List.getElem?_map] at hd
      cases hp : ps[l]? with
      | none => rw [hp] at hd; cases hd
      | some p =>
        rw [hp] at hd
        have ed : Gs.D.tup [e1 p, e2 p] = d := Option.some.inj hd
        subst ed
        have hv' := hv.mono s'
        cases hv' with
        | @tup b ys _ eb tb =>
          cases tb with
          | @cons v1 _ _ _ q1 tb =>
            cases tb with
            | @cons v2 _ _ _ q2 tb =>
              cases tb
              refine ⟨b, _, rfl, SqT.of (m'.sub _ _ eb), rfl, v1, _, rfl, v2, _, rfl, rfl, wipe2 hij, ?_⟩
              have R' : Rep X.K F0 (((wipeD ρ [i, j]).set i (some (e1 p))).set j (some (e2 p))) (μ.put n' (.lst (((ps.take l).filter pr).map g))) F' (((wipe σ [i, j]).set i (some v1)).set j (some v2)) H' := ((wipe_rep (R1.go s' m') [i, j]).set i q1).set j q2
              have hmem := List.mem_of_getElem? hp
              have hle : (((ps.take l).filter pr).map g).length ≤ ps.length := by
                rw [List.length_map]
                refine Nat.le_trans (List.length_filter_le _ _) ?_
                rw [List.length_take]
                exact Nat.min_le_right _ _
              -- behind the test
              have go : ∀ (b' : Bool) (F2 : Hp) (H2 : Hp), b' = pr p → Same F' F2 → MRep X.K (μ.put n' (.lst (((ps.take l).filter pr).map g))) F2 H2 →
                  (if b' = true then semB X scope elt (((wipe σ [i, j]).set i (some v1)).set j (some v2)) H2 (fun y H4 => ∃ acc, H4 n' = some (.lst acc) ∧ acc.length < sizeLine ∧ ∃ F', Same F1 F' ∧ MRep X.K (μ.put n' (.lst (((ps.take (l + 1)).filter pr).map g))) F' (upd H4 n' (.lst (acc ++ [y]))))
                    else ∃ F', Same F1 F' ∧ MRep X.K (μ.put n' (.lst (((ps.take (l + 1)).filter pr).map g))) F' H2) := by
                intro b' F2 H2 eb s2 m2
                have R2 := R'.go s2 m2
                rw [take_snoc hp, List.filter_append]
                cases b' with
                | true =>
                  refine iteT ?_
                  intro st H'' C cl fp
                  refine (he st H'' C cl fp p _ hmem).run R2 fun w F3 H3 hw s3 m3 R3 => ?_
                  obtain ⟨acc, ea, ta⟩ := m3.list Mu.put_same
                  refine ⟨acc, ea, by rw [ta.length]; exact smallT (by omega), F3, s'.trans (s2.trans s3), ?_⟩
                  have m4 := m3.writeL Mu.put_same (ta.append (.cons hw .nil))
                  rw [Mu.put_put] at m4
                  rw [List.filter_cons_of_pos (by rw [← eb]), List.filter_nil, List.map_append]
                  exact m4
                | false =>
                  refine iteF ⟨F2, s'.trans s2, ?_⟩
                  rw [List.filter_cons_of_neg (by rw [← eb]; exact Bool.false_ne_true), List.filter_nil, List.append_nil]
                  exact m2
              rcases ht with ⟨rfl, hpr⟩ | ⟨tst, rfl, htst⟩
              · exact bt_nil (go true F' H' (hpr p).symm (Same.refl _) m')
              · refine bt_one fun st H'' C cl fp => ?_
                exact (htst st H'' C cl fp p _ hmem).run R' fun F2 H2 s2 m2 R2 => go _ F2 H2 rfl s2 m2
    · rintro H' ⟨F', s', m'⟩
      rw [t.length, List.length_map, List.take_length] at m'
      obtain ⟨fn, acc, ea, ta⟩ := m'.mu n' _ Mu.put_same
      have sm := same_upd (o := HO.lst acc) fn
      have m5 : MRep X.K μ (upd F' n' (.lst acc)) H' := m'.freeze ea fn fun b mo hb => by
        have hbn : b ≠ n' := fun z => by rw [z, hfree] at hb; cases hb
        exact ⟨by rw [Mu.put_ne hbn]; exact hb, hbn⟩
      exact c.nx _ _ _ _ _ h ((R1.go (s'.trans sm) m5).set iy (.lst upd_same (ta.mono sm))) (s1.trans (s'.trans sm))
/-- try: y = f(e) except C: y = None -/
theorem ss_try {y C : Str} {i : Nat} {py py2 pC p1 p2 p3 p4 p5 : Pos} {e : Expr} {kk : Nat} {rest : List Stmt} {DE : DEnds} (Cl : Cal X.prog X.w X.K X.mg X.base TL x k f) (G : GX X E) (hstk : X.stack = X.env :: X.outer) (hfr : X.env.frame = some X.env.locals) (hr : Room k X.A)
    (hC : Names X C (.ref TL)) (hex : PySem.W.exmOne X.K (.ref TL) (.ref TL) = some true) (ha : ∀ pn xe, JVs (X.tr pn xe) F0 [e] ρ μ ds μ1) (hf : f ds μ1 (fun d μ' => JSs X F0 rest (ρ.set i (some d)) μ' DE) (JSs X F0 rest (ρ.set i (some .non)) Mu.none DE))
    (hy : X.N[i]? = some y) (hl : X.env.scope.names.lookup y = some .local) (hg : Gl X x) (hdb : (x == ("__debug__" : Str)) = false) (he : starEach [e] X.env = (false, eval e X.env) :: starEach [] X.env) (hpl : (backTo p1 (starEach [] X.env)).any (·.1) = false)
    (hs1 : swapsWith (.Call (.Name x p) [e] [] p1) (some (.Name y py)) p2.line X.env = pure false) (hs2 : swapsWith (.Constant .none kk p3) (some (.Name y py2)) p4.line X.env = pure false) :
    JSs X F0 (.Try [.Assign [.Name y py] (.Call (.Name x p) [e] [] p1) p2] [.ExceptHandler (some (.Name C pC)) none [.Assign [.Name y py2] (.Constant .none kk p3) p4] p5] [] [] pos :: rest) ρ μ DE := ss_cons fun F σ H D R c => by
  refine of_ps (ps_try_only (tb := fun W D σ H => ∀ pn xe, Takes (X.tr pn xe) W → PassesOwn (model X.prog X.w) X.A X.env xe → semSs (X.tr pn xe) [.Assign [.Name y py] (.Call (.Name x p) [e] [] p1) p2] D σ H)
    (ts := fun _ _ _ => tAsg (tC .non) (gName i)) (Wout := fun _ _ _ _ => False) hstk hfr hC takes0 (fun W pn xe tk po => ⟨fun pins s σ' H' D' I h => (h pn xe tk po).run pins s I⟩)
    (fun a oe cls d pn _ _ => pss_one (ps_set G.nd hy (.inl hl) pe_non hs2 (.inr hl)))) ?_
  intro pn xe tk po
  obtain ⟨fa, fd, ps, hm, hk, hb, FO⟩ := Cl.ex
  refine of_pss (X := X.tr pn xe) (pss_one (ps_set (X := X.tr pn xe) G.nd hy (.inl hl) (pe_callS (X := X.tr pn xe) (E := WE (wOnly X.K (.ref TL) (fun _ _ _ => tAsg (tC .non) (gName i)) (fun _ _ _ _ => False) D)) FO hr hg hm hk hb (fun σ => passAt tk σ) pa_s hdb he hpl) hs1 (.inr hl))) ?_
  refine ha pn xe F σ H _ R ?_
  rintro vs _ _ F1 H1 ⟨rfl, rfl⟩ hv s1 m1
  refine ⟨F1, _, _, _, _, hv, m1, hf, fun v d μ' F' H' hq hd s2 m2 => ?_, fun hq H' s2 => ?_⟩
  · exact c.nx _ _ F' _ H' hq ((R.go (s1.trans s2) m2).set i hd) (s1.trans s2)
  · refine ⟨true, hex, fun _ a ha => ?_, fun z => Bool.noConfusion z⟩
    have R' : Rep X.K F0 ρ Mu.none F1 σ H' := R.go s1 ⟨s2, fun _ _ z => nomatch z⟩
    exact c.nx _ _ F1 _ H' hq (R'.set i .non) s1
end
end Gs

/-! The mirror of the run, and the law in plain Lean. -/
namespace Gs
open PySem
inductive BW where
  | plus | minus | less | call
  deriving DecidableEq
inductive Tm where
  | gap | odd (s : Str) | num (n : Int) | truth (b : Bool) | name (x : Str)
  | bin (w : BW) (l r : Tm) | ite (c a b : Tm) | fn (x : Str) (t : Tm) | rc (f x : Str) (t : Tm) | lt (x : Str) (a b : Tm)
inductive Th where
  | num (n : Int) | truth (b : Bool) | row (k : Nat)
def BW.w : BW → Str
  | .plus => "plus" | .minus => "minus" | .less => "less" | .call => "call"
def Tm.word : Tm → Str
  | .gap => "gap" | .odd _ => "odd" | .num _ => "num" | .truth _ => "truth" | .name _ => "name" | .bin w _ _ => w.w | .ite _ _ _ => "if" | .fn _ _ => "fn" | .rc _ _ _ => "rec" | .lt _ _ _ => "let"
def Tm.parts : Tm → List Tm
  | .bin _ l r => [l, r] | .ite c a b => [c, a, b] | .fn _ t => [t] | .rc _ _ t => [t] | .lt _ a b => [a, b] | _ => []
def Tm.at? : Tm → List Nat → Option Tm
  | t, [] => some t
  | t, k :: p => match t.parts[k]? with
    | some u => u.at? p
    | none => none
theorem Tm.at_snoc : ∀ (p : List Nat) (t : Tm) {u v : Tm} {k : Nat}, t.at? p = some u → u.parts[k]? = some v → t.at? (p ++ [k]) = some v
  | [], t, u, v, k, h, e => by
    have h' : t = u := Option.some.inj h
    subst h'
    show (match t.parts[k]? with | some u => u.at? [] | none => none) = some v
    rw [e]
    rfl
  | j :: p, t, u, v, k, h, e => by
    show (match t.parts[j]? with | some u => u.at? (p ++ [k]) | none => none) = some v
    have h' : (match t.parts[j]? with | some u => u.at? p | none => none) = some u := h
    cases q : t.parts[j]? with
    | none => rw [q] at h'; cases h'
    | some w =>
      rw [q] at h'
      exact Tm.at_snoc p w h' e
abbrev Ar := List (Str × Th)
structure Row where
  fm : Tm
  place : List Nat
  ops : List Th
  ar : Ar
inductive Tk where
  | visit (p : List Nat) (t : Tm) (ar : Ar)
  | bind (p : List Nat) (x : Str) (a b : Tm) (ar : Ar)
  | choose (p : List Nat) (c a b : Tm) (ar : Ar)
  | join (p : List Nat) (w : BW) (l r : Tm) (ar : Ar)
def Tk.place : Tk → List Nat
  | .visit p _ _ => p | .bind p _ _ _ _ => p | .choose p _ _ _ _ => p | .join p _ _ _ _ => p
def Tk.form : Tk → Tm
  | .visit _ t _ => t | .bind _ x a b _ => .lt x a b | .choose _ c a b _ => .ite c a b | .join _ w l r _ => .bin w l r
def Tk.ar : Tk → Ar
  | .visit _ _ r => r | .bind _ _ _ _ r => r | .choose _ _ _ _ r => r | .join _ _ _ _ r => r
structure MS where
  steps : Nat
  rows : List Row
  tasks : List Tk
  things : List Th
inductive Res where
  | go (s : MS) | long | stuck
def mk (s : MS) (fm : Tm) (p : List Nat) (ops : List Th) (ar : Ar) : MS := { s with rows := s.rows ++ [⟨fm, p, ops, ar⟩], things := .row s.rows.length :: s.things }
def push (s : MS) (v : Th) : MS := { s with things := v :: s.things }
def todo (s : MS) (ts : List Tk) : MS := { s with tasks := ts ++ s.tasks }
def lookL (ar : Ar) (x : Str) : Option Th := ar.reverse.lookup x
def reck : BW → Int → Int → Th
  | .plus, i, j => .num (i + j) | .minus, i, j => .num (i - j) | _, i, j => .truth (decide (i < j))
def Tm.isGap : Tm → Bool
  | .gap => true
  | _ => false
def Tm.cost (t : Tm) : Nat := if t.isGap then 0 else 1
def come (s : MS) (p : List Nat) (t : Tm) (ar : Ar) : MS := match t with
  | .gap => mk s .gap p [] ar
  | .odd x => mk s (.odd x) p [] []
  | .num n => push s (.num n)
  | .truth b => push s (.truth b)
  | .name x => match lookL ar x with
    | some v => push s v
    | none => mk s (.name x) p [] []
  | .fn x t => mk s (.fn x t) p [] ar
  | .rc f x t => mk s (.rc f x t) p [] ar
  | .lt x a b => todo s [.visit (p ++ [0]) a ar, .bind p x a b ar]
  | .ite c a b => todo s [.visit (p ++ [0]) c ar, .choose p c a b ar]
  | .bin w l r => todo s [.visit (p ++ [0]) l ar, .visit (p ++ [1]) r ar, .join p w l r ar]
def chooseS (s : MS) (p : List Nat) (c a b : Tm) (ar : Ar) (v : Th) : MS := match v with
  | .truth true => todo s [.visit (p ++ [1]) a ar]
  | .truth false => todo s [.visit (p ++ [2]) b ar]
  | v => mk s (.ite c a b) p [v] ar
def callS (s : MS) (p : List Nat) (l r : Tm) (v1 v2 : Th) : MS := match v1 with
  | .row k => match s.rows[k]? with
    | some row => match row.fm with
      | .fn x t => todo s [.visit (row.place ++ [0]) t (row.ar ++ [(x, v2)])]
      | .rc f x t => todo s [.visit (row.place ++ [0]) t (row.ar ++ [(f, .row k), (x, v2)])]
      | _ => mk s (.bin .call l r) p [.row k, v2] []
    | none => mk s (.bin .call l r) p [.row k, v2] []
  | v1 => mk s (.bin .call l r) p [v1, v2] []
def joinS (s : MS) (p : List Nat) (w : BW) (l r : Tm) (v1 v2 : Th) : MS :=
  if w = .call then callS s p l r v1 v2 else match v1, v2 with
    | .num i, .num j => push s (reck w i j)
    | v1, v2 => mk s (.bin w l r) p [v1, v2] []
def step (s : MS) : Res := match s.tasks with
  | [] => .stuck
  | .visit p t ar :: r => if t.isGap = false ∧ 500 < s.steps + 1 then .long else .go (come { s with tasks := r, steps := s.steps + t.cost } p t ar)
  | .bind p x a b ar :: r => match s.things with
    | v :: g => .go { s with tasks := .visit (p ++ [1]) b (ar ++ [(x, v)]) :: r, things := g }
    | [] => .stuck
  | .choose p c a b ar :: r => match s.things with
    | v :: g => .go (chooseS { s with tasks := r, things := g } p c a b ar v)
    | [] => .stuck
  | .join p w l rr ar :: r => match s.things with
    | v2 :: v1 :: g => .go (joinS { s with tasks := r, things := g } p w l rr v1 v2)
    | _ => .stuck
structure Rec where
  ans : Th
  rows : List Row
  steps : Nat
inductive Out : MS → Option Rec → Prop
  | done {s : MS} {a : Th} : s.tasks = [] → s.things = [a] → Out s (some ⟨a, s.rows, s.steps⟩)
  | long {s : MS} : step s = .long → Out s none
  | more {s s' : MS} {o : Option Rec} : step s = .go s' → Out s' o → Out s o
theorem step_nil {s : MS} (h : s.tasks = []) : step s = .stuck := by unfold step; rw [h]
theorem Out.det {s : MS} {o : Option Rec} (h : Out s o) : ∀ {o' : Option Rec}, Out s o' → o = o' := by
  induction h with
  | done h1 h2 =>
    intro o' h
    cases h with
    | done q1 q2 =>
      rw [h2] at q2
      have e := (List.cons.inj q2).1
      rw [e]
    | long q => rw [step_nil h1] at q; cases q
    | more q _ => rw [step_nil h1] at q; cases q
  | long h1 =>
    intro o' h
    cases h with
    | done q1 q2 => rw [step_nil q1] at h1; cases h1
    | long q => rfl
    | more q _ => rw [h1] at q; cases q
  | more h1 _ ih =>
    intro o' h
    cases h with
    | done q1 q2 => rw [step_nil q1] at h1; cases h1
    | long q => rw [h1] at q; cases q
    | more q r =>
      rw [h1] at q
      have e := Res.go.inj q
      subst e
      exact ih r
def init (t : Tm) : MS := ⟨0, [], [.visit [] t []], []⟩

/-! ### moved -/
def shTh (k : Nat) : Th → Th
  | .row j => .row (j + k)
  | v => v
def shAr (k : Nat) (ar : Ar) : Ar := ar.map fun p => (p.1, shTh k p.2)
def shRow (i k : Nat) (r : Row) : Row := ⟨r.fm, i :: r.place, r.ops.map (shTh k), shAr k r.ar⟩
def shTk (i k : Nat) : Tk → Tk
  | .visit p t ar => .visit (i :: p) t (shAr k ar)
  | .bind p x a b ar => .bind (i :: p) x a b (shAr k ar)
  | .choose p c a b ar => .choose (i :: p) c a b (shAr k ar)
  | .join p w l r ar => .join (i :: p) w l r (shAr k ar)
def emb (i d : Nat) (R0 : List Row) (B : List Tk) (G : List Th) (s : MS) : MS :=
  ⟨s.steps + d, R0 ++ s.rows.map (shRow i R0.length), s.tasks.map (shTk i R0.length) ++ B, s.things.map (shTh R0.length) ++ G⟩
section
variable {i d : Nat} {R0 : List Row} {B : List Tk} {G : List Th} {s : MS}
theorem emb_mk (fm : Tm) (p : List Nat) (ops : List Th) (ar : Ar) : emb i d R0 B G (mk s fm p ops ar) = mk (emb i d R0 B G s) fm (i :: p) (ops.map (shTh R0.length)) (shAr R0.length ar) := by
  unfold emb mk
  simp only [List.map_append, List.map_cons, List.map_nil, List.length_append, List.length_map, List.append_assoc, List.cons_append, shTh, shRow]
  rw [Nat.add_comm s.rows.length]
theorem emb_push (v : Th) : emb i d R0 B G (push s v) = push (emb i d R0 B G s) (shTh R0.length v) := by
  unfold emb push
  simp only [List.map_cons, List.cons_append]
theorem emb_todo (ts : List Tk) : emb i d R0 B G (todo s ts) = todo (emb i d R0 B G s) (ts.map (shTk i R0.length)) := by
  unfold emb todo
  simp only [List.map_append, List.append_assoc]
theorem look_sh (k : Nat) (x : Str) : ∀ ar : Ar, (shAr k ar).lookup x = (ar.lookup x).map (shTh k)
  | [] => rfl
  | (y, v) :: r => by
    show List.lookup x ((y, shTh k v) :: shAr k r) = Option.map (shTh k) (List.lookup x ((y, v) :: r))
    by_cases h : x = y
    · subst h
      simp [List.lookup]
    · have h' : (x == y) = false := by simpa using h
      simp only [List.lookup, h']
      exact look_sh k x r
theorem lookL_sh (k : Nat) (x : Str) (ar : Ar) : lookL (shAr k ar) x = (lookL ar x).map (shTh k) := by
  unfold lookL
  rw [← look_sh]
  unfold shAr
  rw [List.map_reverse]
theorem emb_come (p : List Nat) (t : Tm) (ar : Ar) : emb i d R0 B G (come s p t ar) = come (emb i d R0 B G s) (i :: p) t (shAr R0.length ar) := by
  cases t with
  | gap => exact emb_mk ..
  | odd x => exact emb_mk ..
  | num n => exact emb_push _
  | truth b => exact emb_push _
  | name x =>
    show emb i d R0 B G (match lookL ar x with | some v => push s v | none => mk s (.name x) p [] []) = (match lookL (shAr R0.length ar) x with | some v => push (emb i d R0 B G s) v | none => mk (emb i d R0 B G s) (.name x) (i :: p) [] [])
    rw [lookL_sh]
    cases lookL ar x with
    | none => exact emb_mk ..
    | some v => exact emb_push _
  | fn x t => exact emb_mk ..
  | rc f x t => exact emb_mk ..
  | lt x a b => exact emb_todo _
  | ite c a b => exact emb_todo _
  | bin w l r => exact emb_todo _
theorem emb_choose (p : List Nat) (c a b : Tm) (ar : Ar) (v : Th) : emb i d R0 B G (chooseS s p c a b ar v) = chooseS (emb i d R0 B G s) (i :: p) c a b (shAr R0.length ar) (shTh R0.length v) := by
  cases v with
  | num n => exact emb_mk ..
  | row k => exact emb_mk ..
  | truth b =>
    cases b with
    | true => exact emb_todo _
    | false => exact emb_todo _
theorem emb_row {k : Nat} {row : Row} (h : s.rows[k]? = some row) : (emb i d R0 B G s).rows[k + R0.length]? = some (shRow i R0.length row) := by
  show (R0 ++ s.rows.map (shRow i R0.length))[k + R0.length]? = _
  rw [List.getElem?_append_right (Nat.le_add_left _ _), Nat.add_sub_cancel, List.getElem?_map, h]
  rfl
theorem emb_call {p : List Nat} {l r : Tm} {v1 v2 : Th} (hv : ∀ k, v1 = .row k → k < s.rows.length) : emb i d R0 B G (callS s p l r v1 v2) = callS (emb i d R0 B G s) (i :: p) l r (shTh R0.length v1) (shTh R0.length v2) := by
  cases v1 with
  | num n => exact emb_mk ..
  | truth b => exact emb_mk ..
  | row k =>
    have hk := hv k rfl
    have e : s.rows[k]? = some s.rows[k] := List.getElem?_eq_getElem hk
    have e2 := emb_row (i := i) (d := d) (R0 := R0) (B := B) (G := G) e
    generalize s.rows[k] = row at e e2
    unfold callS shTh
    simp only [e, e2]
    obtain ⟨fm, pl, ops, ar⟩ := row
    simp only [shRow]
    cases fm <;> simp only [emb_mk, emb_todo, shAr, shTk, shTh, List.map_cons, List.map_nil, List.map_append, List.cons_append]
theorem emb_join {p : List Nat} {w : BW} {l r : Tm} {v1 v2 : Th} (hv : ∀ k, v1 = .row k → k < s.rows.length) : emb i d R0 B G (joinS s p w l r v1 v2) = joinS (emb i d R0 B G s) (i :: p) w l r (shTh R0.length v1) (shTh R0.length v2) := by
  unfold joinS
  by_cases hw : w = .call
  · rw [if_pos hw, if_pos hw]
    exact emb_call hv
  · rw [if_neg hw, if_neg hw]
    cases v1 <;> cases v2 <;> first | exact emb_mk .. | (simp only [shTh]; rw [emb_push]; cases w <;> rfl)
end

/-! ### what holds of each state -/
def Th.lt (n : Nat) : Th → Prop
  | .row k => k < n
  | _ => True
theorem Th.lt.mono {n m : Nat} {v : Th} (h : v.lt n) (l : n ≤ m) : v.lt m := by
  cases v with
  | row k => exact Nat.lt_of_lt_of_le h l
  | _ => trivial
def Bal : List Tk → Nat → Prop
  | [], n => n = 1
  | .visit _ _ _ :: r, n => Bal r (n + 1)
  | .bind _ _ _ _ _ :: r, n => 1 ≤ n ∧ Bal r n
  | .choose _ _ _ _ _ :: r, n => 1 ≤ n ∧ Bal r n
  | .join _ _ _ _ _ :: r, n => 2 ≤ n ∧ Bal r (n - 1)
structure RowOk (T : Tm) (n k : Nat) (row : Row) : Prop where
  at_ : T.at? row.place = some row.fm
  ops : ∀ v ∈ row.ops, v.lt k
  ar : ∀ p ∈ row.ar, p.2.lt k
  szo : row.ops.length ≤ 2
  szp : row.place.length ≤ n
  sza : row.ar.length ≤ n
structure TkOk (T : Tm) (n k : Nat) (t : Tk) : Prop where
  at_ : T.at? t.place = some t.form
  ar : ∀ p ∈ t.ar, p.2.lt k
  szp : t.place.length ≤ n
  sza : t.ar.length ≤ n
structure Ok (T : Tm) (n : Nat) (s : MS) : Prop where
  steps : s.steps ≤ 500
  rows : ∀ k row, s.rows[k]? = some row → RowOk T n k row
  tasks : ∀ t ∈ s.tasks, TkOk T n s.rows.length t
  things : ∀ v ∈ s.things, v.lt s.rows.length
  bal : Bal s.tasks s.things.length
  szr : s.rows.length ≤ n
  szt : s.things.length ≤ n
theorem RowOk.mono {T : Tm} {n m k : Nat} {row : Row} (h : RowOk T n k row) (l : n ≤ m) : RowOk T m k row := ⟨h.at_, h.ops, h.ar, h.szo, Nat.le_trans h.szp l, Nat.le_trans h.sza l⟩
theorem TkOk.mono {T : Tm} {n m k j : Nat} {t : Tk} (h : TkOk T n k t) (l : n ≤ m) (l2 : k ≤ j) : TkOk T m j t := ⟨h.at_, fun p hp => (h.ar p hp).mono l2, Nat.le_trans h.szp l, Nat.le_trans h.sza l⟩
section
variable {T : Tm} {n : Nat} {s : MS}
/-- a row is made; behind it the tasks go on -/
theorem ok_mk {fm : Tm} {p : List Nat} {ops : List Th} {ar : Ar} (hs : s.steps ≤ 500) (hr : ∀ k row, s.rows[k]? = some row → RowOk T n k row) (ht : ∀ t ∈ s.tasks, TkOk T n s.rows.length t) (hv : ∀ v ∈ s.things, v.lt s.rows.length) (hb : Bal s.tasks (s.things.length + 1)) (h1 : s.rows.length ≤ n) (h2 : s.things.length ≤ n)
    (ha : T.at? p = some fm) (ho : ∀ v ∈ ops, v.lt s.rows.length) (har : ∀ q ∈ ar, q.2.lt s.rows.length) (h3 : ops.length ≤ 2) (h4 : p.length ≤ n + 2) (h5 : ar.length ≤ n + 2) : Ok T (n + 2) (mk s fm p ops ar) := by
  refine ⟨hs, fun k row e => ?_, fun t h => ?_, fun v h => ?_, hb, ?_, ?_⟩
  · have e' : (s.rows ++ [⟨fm, p, ops, ar⟩])[k]? = some row := e
    by_cases hk : k < s.rows.length
    · rw [List.getElem?_append_left hk] at e'
      exact (hr k row e').mono (by omega)
    · rw [List.getElem?_append_right (by omega)] at e'
      have hk' : k = s.rows.length := by
        cases q : k - s.rows.length with
        | zero => omega
        | succ m => rw [q] at e'; simp at e'
      subst hk'
      rw [Nat.sub_self] at e'
      have e2 : (⟨fm, p, ops, ar⟩ : Row) = row := Option.some.inj e'
      subst e2
      exact ⟨ha, ho, har, h3, h4, h5⟩
  · refine (ht t h).mono (by omega) ?_
    show s.rows.length ≤ (s.rows ++ [_]).length
    rw [List.length_append]; omega
  · have hl : s.rows.length + 1 = (s.rows ++ [(⟨fm, p, ops, ar⟩ : Row)]).length := by rw [List.length_append]; rfl
    show v.lt (s.rows ++ [(⟨fm, p, ops, ar⟩ : Row)]).length
    rw [← hl]
    rcases List.mem_cons.mp (show v ∈ Th.row s.rows.length :: s.things from h) with rfl | h
    · exact Nat.lt_succ_self _
    · exact (hv v h).mono (Nat.le_succ _)
  · show (s.rows ++ [_]).length ≤ n + 2
    rw [List.length_append, List.length_singleton]; omega
  · show (s.things.length + 1) ≤ n + 2
    omega
theorem ok_push {v : Th} (hs : s.steps ≤ 500) (hr : ∀ k row, s.rows[k]? = some row → RowOk T n k row) (ht : ∀ t ∈ s.tasks, TkOk T n s.rows.length t) (hv : ∀ v ∈ s.things, v.lt s.rows.length) (hb : Bal s.tasks (s.things.length + 1)) (h1 : s.rows.length ≤ n) (h2 : s.things.length ≤ n)
    (h : v.lt s.rows.length) : Ok T (n + 2) (push s v) := by
  refine ⟨hs, fun k row e => (hr k row e).mono (by omega), fun t q => (ht t q).mono (by omega) (Nat.le_refl _), fun u q => ?_, hb, ?_, ?_⟩
  · rcases List.mem_cons.mp (show u ∈ v :: s.things from q) with rfl | q
    · exact h
    · exact hv u q
  · show s.rows.length ≤ n + 2
    omega
  · show (s.things.length + 1) ≤ n + 2
    omega
theorem ok_todo {ts : List Tk} (hs : s.steps ≤ 500) (hr : ∀ k row, s.rows[k]? = some row → RowOk T n k row) (ht : ∀ t ∈ s.tasks, TkOk T n s.rows.length t) (hv : ∀ v ∈ s.things, v.lt s.rows.length) (hb : Bal (ts ++ s.tasks) s.things.length) (h1 : s.rows.length ≤ n) (h2 : s.things.length ≤ n)
    (h : ∀ t ∈ ts, TkOk T (n + 2) s.rows.length t) : Ok T (n + 2) (todo s ts) := by
  refine ⟨hs, fun k row e => (hr k row e).mono (by omega), fun t q => ?_, hv, hb, ?_, ?_⟩
  · rcases List.mem_append.mp (show t ∈ ts ++ s.tasks from q) with q | q
    · exact h t q
    · exact (ht t q).mono (by omega) (Nat.le_refl _)
  · show s.rows.length ≤ n + 2
    omega
  · show s.things.length ≤ n + 2
    omega
theorem lookL_mem {ar : Ar} {x : Str} {v : Th} (h : lookL ar x = some v) : ∃ p ∈ ar, p.2 = v := by
  have aux : ∀ l : Ar, l.lookup x = some v → ∃ p ∈ l, p.2 = v := by
    intro l
    induction l with
    | nil => intro h; cases h
    | cons q r ih =>
      intro h
      obtain ⟨y, u⟩ := q
      by_cases hy : x = y
      · subst hy
        have e : u = v := by simpa [List.lookup] using h
        exact ⟨(x, u), List.mem_cons_self, e⟩
      · have hy' : (x == y) = false := by simpa using hy
        have e : r.lookup x = some v := by simpa [List.lookup, hy'] using h
        obtain ⟨p, hp, e⟩ := ih e
        exact ⟨p, List.mem_cons_of_mem _ hp, e⟩
  obtain ⟨p, hp, e⟩ := aux _ h
  exact ⟨p, List.mem_reverse.mp hp, e⟩
theorem snoc_len (p : List Nat) (k : Nat) (h : p.length ≤ n) : (p ++ [k]).length ≤ n + 2 := by rw [List.length_append, List.length_singleton]; omega
theorem ok_step {s' : MS} (h : Ok T n s) (e : step s = .go s') : Ok T (n + 2) s' := by
  obtain ⟨st, rows, tasks, things⟩ := s
  obtain ⟨hs, hr, ht, hv, hb, h1, h2⟩ := h
  cases tasks with
  | nil => cases e
  | cons t r =>
    have hrt : ∀ u ∈ r, TkOk T n rows.length u := fun u hu => ht u (List.mem_cons_of_mem _ hu)
    have ht0 := ht t List.mem_cons_self
    cases t with
    | visit p t ar =>
      have e' : (if t.isGap = false ∧ 500 < st + 1 then Res.long else .go (come ⟨st + t.cost, rows, r, things⟩ p t ar)) = .go s' := e
      by_cases hc : t.isGap = false ∧ 500 < st + 1
      · rw [if_pos hc] at e'; cases e'
      · rw [if_neg hc] at e'
        have e2 := Res.go.inj e'
        subst e2
        have hs' : st + t.cost ≤ 500 := by
          unfold Tm.cost
          cases q : t.isGap with
          | true => rw [if_pos rfl]; exact hs
          | false =>
            rw [if_neg Bool.false_ne_true]
            rw [q] at hc
            have hs0 : st ≤ 500 := hs
            exact Classical.byContradiction fun z => hc ⟨rfl, by omega⟩
        obtain ⟨ha, har, hp1, hp2⟩ := ht0
        have ha : T.at? p = some t := ha
        have har : ∀ q ∈ ar, q.2.lt rows.length := har
        have hp1 : p.length ≤ n := hp1
        have hp2 : ar.length ≤ n := hp2
        have nov : ∀ v ∈ ([] : List Th), v.lt rows.length := fun v hv => nomatch hv
        have noa : ∀ q ∈ ([] : Ar), q.2.lt rows.length := fun v hv => nomatch hv
        cases t with
        | gap => exact ok_mk hs' hr hrt hv hb h1 h2 ha nov har (Nat.zero_le _) (by omega) (by omega)
        | odd x => exact ok_mk hs' hr hrt hv hb h1 h2 ha nov noa (Nat.zero_le _) (by omega) (Nat.zero_le _)
        | num k => exact ok_push hs' hr hrt hv hb h1 h2 trivial
        | truth b => exact ok_push hs' hr hrt hv hb h1 h2 trivial
        | name x =>
          show Ok T (n + 2) (match lookL ar x with | some v => push _ v | none => mk _ (.name x) p [] [])
          cases q : lookL ar x with
          | none => exact ok_mk hs' hr hrt hv hb h1 h2 ha nov noa (Nat.zero_le _) (by omega) (Nat.zero_le _)
          | some v =>
            obtain ⟨w, hw, e⟩ := lookL_mem q
            exact ok_push hs' hr hrt hv hb h1 h2 (by rw [← e]; exact har w hw)
        | fn x t => exact ok_mk hs' hr hrt hv hb h1 h2 ha nov har (Nat.zero_le _) (by omega) (by omega)
        | rc f x t => exact ok_mk hs' hr hrt hv hb h1 h2 ha nov har (Nat.zero_le _) (by omega) (by omega)
        | lt x a b =>
          refine ok_todo hs' hr hrt hv ⟨Nat.succ_le_succ (Nat.zero_le _), hb⟩ h1 h2 fun u hu => ?_
          rcases List.mem_cons.mp hu with rfl | hu
          · exact ⟨Tm.at_snoc p T ha rfl, har, snoc_len p 0 hp1, by show ar.length ≤ n + 2; omega⟩
          · rcases List.mem_cons.mp hu with rfl | hu
            · exact ⟨ha, har, by show p.length ≤ n + 2; omega, by show ar.length ≤ n + 2; omega⟩
            · cases hu
        | ite c a b =>
          refine ok_todo hs' hr hrt hv ⟨Nat.succ_le_succ (Nat.zero_le _), hb⟩ h1 h2 fun u hu => ?_
          rcases List.mem_cons.mp hu with rfl | hu
          · exact ⟨Tm.at_snoc p T ha rfl, har, snoc_len p 0 hp1, by show ar.length ≤ n + 2; omega⟩
          · rcases List.mem_cons.mp hu with rfl | hu
            · exact ⟨ha, har, by show p.length ≤ n + 2; omega, by show ar.length ≤ n + 2; omega⟩
            · cases hu
        | bin w l rr =>
          refine ok_todo hs' hr hrt hv ⟨Nat.succ_le_succ (Nat.succ_le_succ (Nat.zero_le _)), hb⟩ h1 h2 fun u hu => ?_
          rcases List.mem_cons.mp hu with rfl | hu
          · exact ⟨Tm.at_snoc p T ha rfl, har, snoc_len p 0 hp1, by show ar.length ≤ n + 2; omega⟩
          · rcases List.mem_cons.mp hu with rfl | hu
            · exact ⟨Tm.at_snoc p T ha rfl, har, snoc_len p 1 hp1, by show ar.length ≤ n + 2; omega⟩
            · rcases List.mem_cons.mp hu with rfl | hu
              · exact ⟨ha, har, by show p.length ≤ n + 2; omega, by show ar.length ≤ n + 2; omega⟩
              · cases hu
    | bind p x a b ar =>
      cases things with
      | nil => cases e
      | cons v g =>
        have e2 := Res.go.inj e
        subst e2
        obtain ⟨ha, har, hp1, hp2⟩ := ht0
        have hp1 : p.length ≤ n := hp1
        have hp2 : ar.length ≤ n := hp2
        have hv0 : v.lt rows.length := hv v List.mem_cons_self
        have hl : g.length + 1 ≤ n := h2
        refine ok_todo (s := ⟨st, rows, r, g⟩) (ts := [.visit (p ++ [1]) b (ar ++ [(x, v)])]) hs hr hrt (fun u hu => hv u (List.mem_cons_of_mem _ hu)) hb.2 h1 (by show g.length ≤ n; omega) fun u hu => ?_
        rcases List.mem_cons.mp hu with rfl | hu
        · refine ⟨Tm.at_snoc p T ha rfl, fun q hq => ?_, snoc_len p 1 hp1, ?_⟩
          · rcases List.mem_append.mp hq with hq | hq
            · exact har q hq
            · rcases List.mem_cons.mp hq with rfl | hq
              · exact hv0
              · cases hq
          · show (ar ++ [(x, v)]).length ≤ n + 2
            rw [List.length_append, List.length_singleton]; omega
        · cases hu
    | choose p c a b ar =>
      cases things with
      | nil => cases e
      | cons v g =>
        have e2 := Res.go.inj e
        subst e2
        obtain ⟨ha, har, hp1, hp2⟩ := ht0
        have hp1 : p.length ≤ n := hp1
        have hp2 : ar.length ≤ n := hp2
        have hv0 : v.lt rows.length := hv v List.mem_cons_self
        have hvg : ∀ u ∈ g, u.lt rows.length := fun u hu => hv u (List.mem_cons_of_mem _ hu)
        have hl : g.length + 1 ≤ n := h2
        have one : ∀ u ∈ [v], u.lt rows.length := fun u hu => by
          rcases List.mem_cons.mp hu with rfl | hu
          · exact hv0
          · cases hu
        have hmk : Ok T (n + 2) (mk ⟨st, rows, r, g⟩ (.ite c a b) p [v] ar) := ok_mk hs hr hrt hvg hb.2 h1 (by show g.length ≤ n; omega) ha one har (by simp) (by omega) (by omega)
        cases v with
        | num k => exact hmk
        | row k => exact hmk
        | truth z =>
          cases z with
          | true =>
            refine ok_todo (s := ⟨st, rows, r, g⟩) hs hr hrt hvg hb.2 h1 (by show g.length ≤ n; omega) fun u hu => ?_
            rcases List.mem_cons.mp hu with rfl | hu
            · exact ⟨Tm.at_snoc p T ha rfl, har, snoc_len p 1 hp1, by show ar.length ≤ n + 2; omega⟩
            · cases hu
          | false =>
            refine ok_todo (s := ⟨st, rows, r, g⟩) hs hr hrt hvg hb.2 h1 (by show g.length ≤ n; omega) fun u hu => ?_
            rcases List.mem_cons.mp hu with rfl | hu
            · exact ⟨Tm.at_snoc p T ha rfl, har, snoc_len p 2 hp1, by show ar.length ≤ n + 2; omega⟩
            · cases hu
    | join p w l rr ar =>
      cases things with
      | nil => cases e
      | cons v2 g =>
        cases g with
        | nil => cases e
        | cons v1 g =>
          have e2 := Res.go.inj e
          subst e2
          obtain ⟨ha, har, hp1, hp2⟩ := ht0
          have hp1 : p.length ≤ n := hp1
          have hv2 : v2.lt rows.length := hv v2 List.mem_cons_self
          have hv1 : v1.lt rows.length := hv v1 (List.mem_cons_of_mem _ List.mem_cons_self)
          have hvg : ∀ u ∈ g, u.lt rows.length := fun u hu => hv u (List.mem_cons_of_mem _ (List.mem_cons_of_mem _ hu))
          have hl : g.length + 1 + 1 ≤ n := h2
          have hl' : g.length ≤ n := by omega
          have two : ∀ u ∈ [v1, v2], u.lt rows.length := fun u hu => by
            rcases List.mem_cons.mp hu with rfl | hu
            · exact hv1
            · rcases List.mem_cons.mp hu with rfl | hu
              · exact hv2
              · cases hu
          have noa : ∀ q ∈ ([] : Ar), q.2.lt rows.length := fun v hv => nomatch hv
          have hb' : Bal r (g.length + 1) := hb.2
          have hmk : Ok T (n + 2) (mk ⟨st, rows, r, g⟩ (.bin w l rr) p [v1, v2] []) := ok_mk hs hr hrt hvg hb' h1 hl' ha two noa (by simp) (by omega) (Nat.zero_le _)
          show Ok T (n + 2) (joinS ⟨st, rows, r, g⟩ p w l rr v1 v2)
          unfold joinS
          by_cases hw : w = .call
          · rw [if_pos hw]
            subst hw
            cases v1 with
            | num k => exact hmk
            | truth k => exact hmk
            | row k =>
              have hk : k < rows.length := hv1
              have er : rows[k]? = some rows[k] := List.getElem?_eq_getElem hk
              generalize rows[k] = row at er
              have ro := hr k row er
              unfold callS
              simp only [er]
              obtain ⟨fm, pl, ops, ra⟩ := row
              have q1 : T.at? pl = some fm := ro.at_
              have q2 : ∀ q ∈ ra, q.2.lt rows.length := fun q hq => (ro.ar q hq).mono (Nat.le_of_lt hk)
              have q3 : pl.length ≤ n := ro.szp
              have q4 : ra.length ≤ n := ro.sza
              cases fm with
              | fn x t =>
                refine ok_todo (s := ⟨st, rows, r, g⟩) hs hr hrt hvg hb' h1 hl' fun u hu => ?_
                rcases List.mem_cons.mp hu with rfl | hu
                · refine ⟨Tm.at_snoc pl T q1 rfl, fun q hq => ?_, snoc_len pl 0 q3, ?_⟩
                  · rcases List.mem_append.mp hq with hq | hq
                    · exact q2 q hq
                    · rcases List.mem_cons.mp hq with rfl | hq
                      · exact hv2
                      · cases hq
                  · show (ra ++ [(x, v2)]).length ≤ n + 2
                    rw [List.length_append, List.length_singleton]; omega
                · cases hu
              | rc f x t =>
                refine ok_todo (s := ⟨st, rows, r, g⟩) hs hr hrt hvg hb' h1 hl' fun u hu => ?_
                rcases List.mem_cons.mp hu with rfl | hu
                · refine ⟨Tm.at_snoc pl T q1 rfl, fun q hq => ?_, snoc_len pl 0 q3, ?_⟩
                  · rcases List.mem_append.mp hq with hq | hq
                    · exact q2 q hq
                    · rcases List.mem_cons.mp hq with rfl | hq
                      · exact hk
                      · rcases List.mem_cons.mp hq with rfl | hq
                        · exact hv2
                        · cases hq
                  · show (ra ++ [(f, .row k), (x, v2)]).length ≤ n + 2
                    rw [List.length_append]
                    show ra.length + 2 ≤ n + 2
                    omega
                · cases hu
              | _ => exact hmk
          · rw [if_neg hw]
            cases v1 with
            | num i =>
              cases v2 with
              | num j => exact ok_push hs hr hrt hvg hb' h1 hl' (by cases w <;> trivial)
              | truth j => exact hmk
              | row j => exact hmk
            | truth i => exact hmk
            | row i => exact hmk
end
/-! ### the measure -/
def Tk.wt : Tk → Nat
  | .visit _ _ _ => 1
  | _ => 2
def meas (s : MS) : Nat := (500 - s.steps) * 4 + (s.tasks.map Tk.wt).sum
theorem meas_step {s s' : MS} (hs : s.steps ≤ 500) (e : step s = .go s') : meas s' < meas s ∧ s.steps ≤ s'.steps ∧ s'.steps ≤ 500 ∧ s'.steps ≤ s.steps + 1 := by
  obtain ⟨st, rows, tasks, things⟩ := s
  have hs : st ≤ 500 := hs
  cases tasks with
  | nil => cases e
  | cons t r =>
    cases t with
    | visit p t ar =>
      have e' : (if t.isGap = false ∧ 500 < st + 1 then Res.long else .go (come ⟨st + t.cost, rows, r, things⟩ p t ar)) = .go s' := e
      by_cases hc : t.isGap = false ∧ 500 < st + 1
      · rw [if_pos hc] at e'; cases e'
      · rw [if_neg hc] at e'
        have e2 := Res.go.inj e'
        subst e2
        have rel : ∀ s1 : MS, s1.steps = st + t.cost → (t.isGap = true → (s1.tasks.map Tk.wt).sum = (r.map Tk.wt).sum) → (s1.tasks.map Tk.wt).sum ≤ (r.map Tk.wt).sum + 4 → meas s1 < meas ⟨st, rows, .visit p t ar :: r, things⟩ ∧ st ≤ s1.steps ∧ s1.steps ≤ 500 ∧ s1.steps ≤ st + 1 := by
          intro s1 e1 e2 e3
          unfold meas
          have ew : ((Tk.visit p t ar :: r).map Tk.wt).sum = (r.map Tk.wt).sum + 1 := by
            rw [List.map_cons, List.sum_cons]
            show 1 + _ = _
            omega
          rw [ew, e1]
          unfold Tm.cost
          cases q : t.isGap with
          | true =>
            rw [if_pos rfl]
            have e4 := e2 q
            show (500 - (st + 0)) * 4 + _ < (500 - st) * 4 + _ ∧ _
            refine ⟨by omega, by omega, by omega, by omega⟩
          | false =>
            rw [if_neg Bool.false_ne_true]
            rw [q] at hc
            have hst : ¬ 500 < st + 1 := fun z => hc ⟨rfl, z⟩
            show (500 - (st + 1)) * 4 + _ < (500 - st) * 4 + _ ∧ _
            refine ⟨by omega, by omega, by omega, by omega⟩
        have rest0 : (r.map Tk.wt).sum ≤ (r.map Tk.wt).sum + 4 := Nat.le_add_right _ _
        cases t with
        | gap => exact rel _ rfl (fun _ => rfl) rest0
        | odd x => exact rel _ rfl (fun z => nomatch z) rest0
        | num k => exact rel _ rfl (fun z => nomatch z) rest0
        | truth b => exact rel _ rfl (fun z => nomatch z) rest0
        | name x =>
          have e5 : come ⟨st + (Tm.name x).cost, rows, r, things⟩ p (.name x) ar = (match lookL ar x with | some v => push ⟨st + (Tm.name x).cost, rows, r, things⟩ v | none => mk ⟨st + (Tm.name x).cost, rows, r, things⟩ (.name x) p [] []) := rfl
          rw [e5]
          cases lookL ar x with
          | none => exact rel _ rfl (fun z => nomatch z) rest0
          | some v => exact rel _ rfl (fun z => nomatch z) rest0
        | fn x t => exact rel _ rfl (fun z => nomatch z) rest0
        | rc f x t => exact rel _ rfl (fun z => nomatch z) rest0
        | lt x a b => exact rel _ rfl (fun z => nomatch z) (by show 1 + (2 + (r.map Tk.wt).sum) ≤ _; omega)
        | ite c a b => exact rel _ rfl (fun z => nomatch z) (by show 1 + (2 + (r.map Tk.wt).sum) ≤ _; omega)
        | bin w l rr => exact rel _ rfl (fun z => nomatch z) (by show 1 + (1 + (2 + (r.map Tk.wt).sum)) ≤ _; omega)
    | bind p x a b ar =>
      cases things with
      | nil => cases e
      | cons v g =>
        have e2 := Res.go.inj e
        subst e2
        refine ⟨?_, Nat.le_refl _, hs, Nat.le_succ _⟩
        show (500 - st) * 4 + (1 + (r.map Tk.wt).sum) < (500 - st) * 4 + (2 + (r.map Tk.wt).sum)
        omega
    | choose p c a b ar =>
      cases things with
      | nil => cases e
      | cons v g =>
        have e2 := Res.go.inj e
        subst e2
        have e3 : (chooseS ⟨st, rows, r, g⟩ p c a b ar v).steps = st ∧ ((chooseS ⟨st, rows, r, g⟩ p c a b ar v).tasks.map Tk.wt).sum ≤ 1 + (r.map Tk.wt).sum := by
          cases v with
          | num k => exact ⟨rfl, Nat.le_add_left _ _⟩
          | row k => exact ⟨rfl, Nat.le_add_left _ _⟩
          | truth z => cases z <;> exact ⟨rfl, Nat.le_refl _⟩
        refine ⟨?_, by rw [e3.1]; exact Nat.le_refl _, by rw [e3.1]; exact hs, by rw [e3.1]; exact Nat.le_succ _⟩
        have goal : meas (chooseS ⟨st, rows, r, g⟩ p c a b ar v) < (500 - st) * 4 + (2 + (r.map Tk.wt).sum) := by
          unfold meas
          rw [e3.1]
          have := e3.2
          omega
        exact goal
    | join p w l rr ar =>
      cases things with
      | nil => cases e
      | cons v2 g =>
        cases g with
        | nil => cases e
        | cons v1 g =>
          have e2 := Res.go.inj e
          subst e2
          have e3 : (joinS ⟨st, rows, r, g⟩ p w l rr v1 v2).steps = st ∧ ((joinS ⟨st, rows, r, g⟩ p w l rr v1 v2).tasks.map Tk.wt).sum ≤ 1 + (r.map Tk.wt).sum := by
            unfold joinS
            by_cases hw : w = .call
            · rw [if_pos hw]
              cases v1 with
              | num k => exact ⟨rfl, Nat.le_add_left _ _⟩
              | truth k => exact ⟨rfl, Nat.le_add_left _ _⟩
              | row k =>
                unfold callS
                cases er : rows[k]? with
                | none =>
                  simp only [er]
                  exact ⟨rfl, Nat.le_add_left _ _⟩
                | some row =>
                  simp only [er]
                  obtain ⟨fm, pl, ops, ra⟩ := row
                  cases fm <;> first | exact ⟨rfl, Nat.le_add_left _ _⟩ | exact ⟨rfl, Nat.le_refl _⟩
            · rw [if_neg hw]
              cases v1 <;> cases v2 <;> exact ⟨rfl, Nat.le_add_left _ _⟩
          refine ⟨?_, by rw [e3.1]; exact Nat.le_refl _, by rw [e3.1]; exact hs, by rw [e3.1]; exact Nat.le_succ _⟩
          have goal : meas (joinS ⟨st, rows, r, g⟩ p w l rr v1 v2) < (500 - st) * 4 + (2 + (r.map Tk.wt).sum) := by
            unfold meas
            rw [e3.1]
            have := e3.2
            omega
          exact goal
/-- no state of a run is stuck -/
theorem step_some {T : Tm} {n : Nat} {s : MS} (h : Ok T n s) (ht : s.tasks ≠ []) : step s = .long ∨ ∃ s', step s = .go s' := by
  obtain ⟨st, rows, tasks, things⟩ := s
  obtain ⟨hs, hr, hk, hv, hb, h1, h2⟩ := h
  cases tasks with
  | nil => exact absurd rfl ht
  | cons t r =>
    cases t with
    | visit p t ar =>
      by_cases hc : t.isGap = false ∧ 500 < st + 1
      · exact .inl (if_pos hc)
      · exact .inr ⟨_, if_neg hc⟩
    | bind p x a b ar =>
      cases things with
      | nil => exact absurd hb.1 (by show ¬ 1 ≤ 0; omega)
      | cons v g => exact .inr ⟨_, rfl⟩
    | choose p c a b ar =>
      cases things with
      | nil => exact absurd hb.1 (by show ¬ 1 ≤ 0; omega)
      | cons v g => exact .inr ⟨_, rfl⟩
    | join p w l rr ar =>
      cases things with
      | nil => exact absurd hb.1 (by show ¬ 2 ≤ 0; omega)
      | cons v g =>
        cases g with
        | nil => exact absurd hb.1 (by show ¬ 2 ≤ 1; omega)
        | cons u g => exact .inr ⟨_, rfl⟩
theorem ok_init (t : Tm) : Ok t 0 (init t) := by
  refine ⟨Nat.zero_le _, fun k row e => ?_, fun u hu => ?_, (fun v hv => nomatch hv), rfl, Nat.le_refl _, Nat.le_refl _⟩
  · have e' : ([] : List Row)[k]? = some row := e
    simp at e'
  · rcases List.mem_cons.mp (show u ∈ [Tk.visit [] t []] from hu) with rfl | hu
    · exact ⟨rfl, (fun p hp => nomatch hp), Nat.le_refl _, Nat.le_refl _⟩
    · cases hu
theorem meas_init (t : Tm) : meas (init t) = 2001 := rfl

/-! ### a part's run within the whole's -/
section
variable {i d : Nat} {R0 : List Row} {B : List Tk} {G : List Th} {s s' : MS}
theorem emb_step {T : Tm} {n : Nat} (h : Ok T n s) (e : step s = .go s') (hd : s.steps + d ≤ 500) : (s'.steps + d ≤ 500 → step (emb i d R0 B G s) = .go (emb i d R0 B G s')) ∧ (500 < s'.steps + d → step (emb i d R0 B G s) = .long) := by
  have hm := meas_step h.steps e
  obtain ⟨st, rows, tasks, things⟩ := s
  cases tasks with
  | nil => cases e
  | cons t r =>
    cases t with
    | visit p t ar =>
      have e' : (if t.isGap = false ∧ 500 < st + 1 then Res.long else .go (come ⟨st + t.cost, rows, r, things⟩ p t ar)) = .go s' := e
      have hd : st + d ≤ 500 := hd
      by_cases hc : t.isGap = false ∧ 500 < st + 1
      · rw [if_pos hc] at e'; cases e'
      · rw [if_neg hc] at e'
        have e2 := Res.go.inj e'
        have es : s'.steps = st + t.cost := by
          rw [← e2]
          cases t with
          | name x =>
            show (match lookL ar x with | some v => push ⟨st + (Tm.name x).cost, rows, r, things⟩ v | none => mk ⟨st + (Tm.name x).cost, rows, r, things⟩ (.name x) p [] []).steps = _
            cases lookL ar x <;> rfl
          | _ => rfl
        have goal : ∀ b : Bool, b = t.isGap → (s'.steps + d ≤ 500 → ¬ (t.isGap = false ∧ 500 < st + d + 1)) ∧ (500 < s'.steps + d → t.isGap = false ∧ 500 < st + d + 1) := by
          intro b hb
          rw [es]
          unfold Tm.cost
          rw [← hb]
          cases b with
          | true => exact ⟨(fun _ z => nomatch z.1), fun z => absurd z (by show ¬ 500 < st + 0 + d; omega)⟩
          | false =>
            refine ⟨fun z w => ?_, fun z => ⟨rfl, ?_⟩⟩
            · have z : st + 1 + d ≤ 500 := z
              have := w.2
              omega
            · have z : 500 < st + 1 + d := z
              omega
        have goal := goal _ rfl
        refine ⟨fun z => ?_, fun z => ?_⟩
        · show (if t.isGap = false ∧ 500 < st + d + 1 then Res.long else .go (come ⟨st + d + t.cost, R0 ++ rows.map (shRow i R0.length), r.map (shTk i R0.length) ++ B, things.map (shTh R0.length) ++ G⟩ (i :: p) t (shAr R0.length ar))) = _
          rw [if_neg (goal.1 z), ← e2, emb_come]
          congr 2
          unfold emb
          have ec : st + d + t.cost = st + t.cost + d := by omega
          rw [ec]
        · show (if t.isGap = false ∧ 500 < st + d + 1 then Res.long else .go _) = _
          rw [if_pos (goal.2 z)]
    | bind p x a b ar =>
      cases things with
      | nil => cases e
      | cons v g =>
        have e2 := Res.go.inj e
        have es : s'.steps = st := by rw [← e2]
        have hd : st + d ≤ 500 := hd
        refine ⟨fun _ => ?_, fun z => absurd z (by rw [es]; omega)⟩
        rw [← e2]
        show Res.go _ = Res.go _
        congr 1
        unfold emb
        simp only [List.map_cons, List.cons_append, shTk, shAr, List.map_append, List.map_nil]
        rfl
    | choose p c a b ar =>
      cases things with
      | nil => cases e
      | cons v g =>
        have e2 := Res.go.inj e
        have es : s'.steps = st := by
          rw [← e2]
          cases v with
          | truth z => cases z <;> rfl
          | _ => rfl
        have hd : st + d ≤ 500 := hd
        refine ⟨fun _ => ?_, fun z => absurd z (by rw [es]; omega)⟩
        rw [← e2, emb_choose]
        rfl
    | join p w l rr ar =>
      cases things with
      | nil => cases e
      | cons v2 g =>
        cases g with
        | nil => cases e
        | cons v1 g =>
          have e2 := Res.go.inj e
          have hv1 : v1.lt rows.length := h.things v1 (List.mem_cons_of_mem _ List.mem_cons_self)
          have hd : st + d ≤ 500 := hd
          have es : s'.steps = st := by
            have z := hm.2.1
            have z2 := hm.1
            rw [← e2]
            unfold joinS
            by_cases hw : w = .call
            · rw [if_pos hw]
              unfold callS
              cases v1 with
              | num k => rfl
              | truth k => rfl
              | row k =>
                simp only
                cases er : rows[k]? with
                | none => rfl
                | some row =>
                  obtain ⟨fm, pl, ops, ra⟩ := row
                  cases fm <;> rfl
            · rw [if_neg hw]
              cases v1 <;> cases v2 <;> rfl
          refine ⟨fun _ => ?_, fun z => absurd z (by rw [es]; omega)⟩
          rw [← e2]
          show Res.go (joinS (emb i d R0 B G ⟨st, rows, r, g⟩) (i :: p) w l rr (shTh R0.length v1) (shTh R0.length v2)) = _
          rw [emb_join (s := ⟨st, rows, r, g⟩) fun k ek => by rw [ek] at hv1; exact hv1]
theorem emb_long (e : step s = .long) : step (emb i d R0 B G s) = .long := by
  obtain ⟨st, rows, tasks, things⟩ := s
  cases tasks with
  | nil => cases e
  | cons t r =>
    cases t with
    | visit p t ar =>
      have e' : (if t.isGap = false ∧ 500 < st + 1 then Res.long else .go (come ⟨st + t.cost, rows, r, things⟩ p t ar)) = .long := e
      by_cases hc : t.isGap = false ∧ 500 < st + 1
      · show (if t.isGap = false ∧ 500 < st + d + 1 then Res.long else .go _) = _
        rw [if_pos ⟨hc.1, by have := hc.2; omega⟩]
      · rw [if_neg hc] at e'; cases e'
    | bind p x a b ar => cases things <;> cases e
    | choose p c a b ar => cases things <;> cases e
    | join p w l rr ar =>
      cases things with
      | nil => cases e
      | cons v g => cases g <;> cases e
end
/-- the state that a part's run leaves in the whole -/
def landed (i d : Nat) (R0 : List Row) (B : List Tk) (G : List Th) (r : Rec) : MS := ⟨r.steps + d, R0 ++ r.rows.map (shRow i R0.length), B, shTh R0.length r.ans :: G⟩
theorem out_steps {s : MS} {o : Option Rec} (h : Out s o) : ∀ {r : Rec}, o = some r → s.steps ≤ 500 → s.steps ≤ r.steps := by
  induction h with
  | done h1 h2 =>
    intro r e _
    have e' := Option.some.inj e
    subst e'
    exact Nat.le_refl _
  | long _ => intro r e _; cases e
  | more h1 _ ih =>
    intro r e hs
    have m := meas_step hs h1
    exact Nat.le_trans m.2.1 (ih e m.2.2.1)
theorem part_run {s : MS} {o : Option Rec} (h : Out s o) {i d : Nat} {R0 : List Row} {B : List Tk} {G : List Th} {T : Tm} : ∀ n : Nat, Ok T n s → s.steps + d ≤ 500 →
    match o with
    | none => Out (emb i d R0 B G s) none
    | some r => if r.steps + d ≤ 500 then ∀ o', Out (landed i d R0 B G r) o' → Out (emb i d R0 B G s) o' else Out (emb i d R0 B G s) none := by
  induction h with
  | @done s a h1 h2 =>
    intro n _ hd
    show if s.steps + d ≤ 500 then _ else _
    rw [if_pos hd]
    intro o' ho
    have e : landed i d R0 B G ⟨a, s.rows, s.steps⟩ = emb i d R0 B G s := by
      unfold landed emb
      rw [h1, h2]
      rfl
    rw [← e]
    exact ho
  | long h1 =>
    intro n _ hd
    exact .long (emb_long h1)
  | @more s s' o h1 h2 ih =>
    intro n ok hd
    have es := emb_step (i := i) (R0 := R0) (B := B) (G := G) ok h1 hd
    have m := meas_step ok.steps h1
    by_cases hs : s'.steps + d ≤ 500
    · have q := ih (n + 2) (ok_step ok h1) hs
      have e := es.1 hs
      cases o with
      | none => exact .more e q
      | some r =>
        show if r.steps + d ≤ 500 then _ else _
        have q : if r.steps + d ≤ 500 then ∀ o', Out (landed i d R0 B G r) o' → Out (emb i d R0 B G s') o' else Out (emb i d R0 B G s') none := q
        by_cases hr : r.steps + d ≤ 500
        · rw [if_pos hr] at q ⊢
          exact fun o' ho => .more e (q o' ho)
        · rw [if_neg hr] at q ⊢
          exact .more e q
    · have e := es.2 (by omega)
      cases o with
      | none => exact .long e
      | some r =>
        show if r.steps + d ≤ 500 then _ else _
        have hr := out_steps h2 rfl m.2.2.1
        rw [if_neg (by omega)]
        exact .long e

/-! ### what is due -/
def moved (r : Rec) (i k : Nat) : List Row := r.rows.map (shRow i k)
def Th.isNum : Th → Bool
  | .num _ => true
  | _ => false
def joined (w : BW) (l r : Tm) (a b : Th) (rows : List Row) : Th × List Row := match w, a, b with
  | .plus, .num i, .num j => (.num (i + j), rows)
  | .minus, .num i, .num j => (.num (i - j), rows)
  | .less, .num i, .num j => (.truth (decide (i < j)), rows)
  | w, a, b => (.row rows.length, rows ++ [⟨.bin w l r, [], [a, b], []⟩])
def dueB (w : BW) (l r : Tm) (r1 : Rec) (o2 : Option Rec) : Option Rec := match o2 with
  | none => none
  | some r2 =>
    let rows1 := moved r1 0 0
    let j := joined w l r r1.ans (shTh rows1.length r2.ans) (rows1 ++ moved r2 1 rows1.length)
    some ⟨j.1, j.2, r1.steps + 1 + r2.steps⟩
def dueI (c a b : Tm) (r1 : Rec) (o2 : Option Rec) : Option Rec :=
  let rows1 := moved r1 0 0
  match r1.ans with
  | .truth true => match o2 with
    | none => none
    | some r2 => some ⟨shTh rows1.length r2.ans, rows1 ++ moved r2 1 rows1.length, r1.steps + 1 + r2.steps⟩
  | .truth false => some ⟨.num 5, rows1, r1.steps + 1 + 1⟩
  | v => some ⟨.row rows1.length, rows1 ++ [⟨.ite c a b, [], [v], []⟩], r1.steps + 1⟩
/-- what is refused: more than 500 -/
def within (o : Option Rec) : Option Rec := match o with
  | none => none
  | some r => if 500 < r.steps then none else some r
def lawOf (o1 : Option Rec) (f : Rec → Option Rec) : Option Rec := match o1 with
  | none => none
  | some r1 => within (f r1)
theorem shTh_zero (v : Th) : shTh 0 v = v := by cases v <;> rfl
/-- the answer is the row of a function -/
def callee (r : Rec) : Prop := ∃ k row, r.ans = .row k ∧ r.rows[k]? = some row ∧ ((∃ x t, row.fm = .fn x t) ∨ ∃ f x t, row.fm = .rc f x t)
theorem join_due {w : BW} {l r : Tm} {r1 : Rec} {a2 : Th} {rows2 : List Row} {st : Nat} (hc : w = .call → ¬ callee r1) (hlt : r1.ans.lt r1.rows.length) :
    joinS ⟨st, moved r1 0 0 ++ rows2, [], []⟩ [] w l r r1.ans a2 = ⟨st, (joined w l r r1.ans a2 (moved r1 0 0 ++ rows2)).2, [], [(joined w l r r1.ans a2 (moved r1 0 0 ++ rows2)).1]⟩ := by
  unfold joinS
  by_cases hw : w = .call
  · rw [if_pos hw]
    subst hw
    unfold callS joined mk
    cases e : r1.ans with
    | num k => rfl
    | truth k => rfl
    | row k =>
      simp only
      rw [e] at hlt
      have hk : k < r1.rows.length := hlt
      have e1 : r1.rows[k]? = some r1.rows[k] := List.getElem?_eq_getElem hk
      have e2 : (moved r1 0 0 ++ rows2)[k]? = some (shRow 0 0 r1.rows[k]) := by
        unfold moved
        rw [List.getElem?_append_left (by rw [List.length_map]; exact hk), List.getElem?_map, e1]
        rfl
      rw [e2]
      have no := hc rfl
      have no1 : ∀ x t, r1.rows[k].fm ≠ .fn x t := fun x t z => no ⟨k, _, e, e1, .inl ⟨x, t, z⟩⟩
      have no2 : ∀ f x t, r1.rows[k].fm ≠ .rc f x t := fun f x t z => no ⟨k, _, e, e1, .inr ⟨f, x, t, z⟩⟩
      show (match (shRow 0 0 r1.rows[k]).fm with | .fn x t => _ | .rc f x t => _ | _ => _) = _
      have e3 : (shRow 0 0 r1.rows[k]).fm = r1.rows[k].fm := rfl
      rw [e3]
      cases q : r1.rows[k].fm with
      | fn x t => exact absurd q (no1 x t)
      | rc f x t => exact absurd q (no2 f x t)
      | _ => rfl
  · rw [if_neg hw]
    cases w with
    | call => exact absurd rfl hw
    | plus => cases e1 : r1.ans <;> cases a2 <;> rfl
    | minus => cases e1 : r1.ans <;> cases a2 <;> rfl
    | less => cases e1 : r1.ans <;> cases a2 <;> rfl
theorem out_end {s : MS} {a : Th} (h1 : s.tasks = []) (h2 : s.things = [a]) : Out s (some ⟨a, s.rows, s.steps⟩) := .done h1 h2
/-- what a run leaves -/
structure RecOk (T : Tm) (r : Rec) : Prop where
  steps : r.steps ≤ 500
  rows : ∀ k row, r.rows[k]? = some row → RowOk T 4002 k row
  ans : r.ans.lt r.rows.length
  szr : r.rows.length ≤ 4002
/-- THE LAW, plus, minus, less, call -/
theorem law_bin {w : BW} {l r : Tm} {o1 o2 o : Option Rec} (h1 : Out (init l) o1) (h2 : Out (init r) o2) (h : Out (init (.bin w l r)) o) (hlt : ∀ r1, o1 = some r1 → r1.ans.lt r1.rows.length) (hc : ∀ r1, o1 = some r1 → w = .call → ¬ callee r1) :
    o = lawOf o1 (fun r1 => dueB w l r r1 o2) := by
  have first : step (init (.bin w l r)) = .go (emb 0 1 [] [.visit [1] r [], .join [] w l r []] [] (init l)) := rfl
  have p1 := part_run h1 (i := 0) (d := 1) (R0 := []) (B := [.visit [1] r [], .join [] w l r []]) (G := []) (T := l) 0 (ok_init l) (by show 0 + 1 ≤ 500; omega)
  cases o1 with
  | none => exact h.det (.more first p1)
  | some r1 =>
    have p1 : if r1.steps + 1 ≤ 500 then ∀ o', Out (landed 0 1 [] [.visit [1] r [], .join [] w l r []] [] r1) o' → Out (emb 0 1 [] [.visit [1] r [], .join [] w l r []] [] (init l)) o' else Out (emb 0 1 [] [.visit [1] r [], .join [] w l r []] [] (init l)) none := p1
    by_cases hs1 : r1.steps + 1 ≤ 500
    · rw [if_pos hs1] at p1
      have e1 : landed 0 1 [] [.visit [1] r [], .join [] w l r []] [] r1 = emb 1 (r1.steps + 1) (moved r1 0 0) [.join [] w l r []] [r1.ans] (init r) := by
        unfold landed emb init moved
        simp only [List.map_cons, List.map_nil, List.nil_append, List.append_nil, List.cons_append, List.length_nil, shTk, shAr, shTh_zero, Nat.zero_add]
      have p2 := part_run h2 (i := 1) (d := r1.steps + 1) (R0 := moved r1 0 0) (B := [.join [] w l r []]) (G := [r1.ans]) (T := r) 0 (ok_init r) (by show 0 + (r1.steps + 1) ≤ 500; omega)
      cases o2 with
      | none => exact h.det (.more first (p1 _ (by rw [e1]; exact p2)))
      | some r2 =>
        have p2 : if r2.steps + (r1.steps + 1) ≤ 500 then ∀ o', Out (landed 1 (r1.steps + 1) (moved r1 0 0) [.join [] w l r []] [r1.ans] r2) o' → Out (emb 1 (r1.steps + 1) (moved r1 0 0) [.join [] w l r []] [r1.ans] (init r)) o' else Out (emb 1 (r1.steps + 1) (moved r1 0 0) [.join [] w l r []] [r1.ans] (init r)) none := p2
        show o = if 500 < r1.steps + 1 + r2.steps then none else _
        by_cases hs2 : r2.steps + (r1.steps + 1) ≤ 500
        · rw [if_pos hs2] at p2
          rw [if_neg (by omega)]
          refine h.det (.more first (p1 _ ?_))
          rw [e1]
          refine p2 _ ?_
          have st : step (landed 1 (r1.steps + 1) (moved r1 0 0) [.join [] w l r []] [r1.ans] r2) = .go ⟨r1.steps + 1 + r2.steps, (joined w l r r1.ans (shTh (moved r1 0 0).length r2.ans) (moved r1 0 0 ++ moved r2 1 (moved r1 0 0).length)).2, [], [(joined w l r r1.ans (shTh (moved r1 0 0).length r2.ans) (moved r1 0 0 ++ moved r2 1 (moved r1 0 0).length)).1]⟩ := by
            rw [← join_due (hc r1 rfl) (hlt r1 rfl), Nat.add_comm (r1.steps + 1) r2.steps]
            rfl
          exact .more st (out_end rfl rfl)
        · rw [if_neg hs2] at p2
          rw [if_pos (by omega)]
          exact h.det (.more first (p1 _ (by rw [e1]; exact p2)))
    · rw [if_neg hs1] at p1
      have e := h.det (.more first p1)
      rw [e]
      cases o2 with
      | none => rfl
      | some r2 =>
        show none = if 500 < r1.steps + 1 + r2.steps then none else _
        rw [if_pos (by omega)]
theorem dueI_true {c a b : Tm} {r1 : Rec} {o2 : Option Rec} (e : r1.ans = .truth true) : dueI c a b r1 o2 = (match o2 with | none => none | some r2 => some ⟨shTh (moved r1 0 0).length r2.ans, moved r1 0 0 ++ moved r2 1 (moved r1 0 0).length, r1.steps + 1 + r2.steps⟩) := by
  unfold dueI
  rw [e]
/-- THE LAW, if -/
theorem law_if {c a : Tm} {o1 o2 o : Option Rec} (h1 : Out (init c) o1) (h2 : Out (init a) o2) (h : Out (init (.ite c a (.num 5))) o) :
    o = lawOf o1 (fun r1 => dueI c a (.num 5) r1 o2) := by
  have first : step (init (.ite c a (.num 5))) = .go (emb 0 1 [] [.choose [] c a (.num 5) []] [] (init c)) := rfl
  have p1 := part_run h1 (i := 0) (d := 1) (R0 := []) (B := [.choose [] c a (.num 5) []]) (G := []) (T := c) 0 (ok_init c) (by show 0 + 1 ≤ 500; omega)
  cases o1 with
  | none => exact h.det (.more first p1)
  | some r1 =>
    have p1 : if r1.steps + 1 ≤ 500 then ∀ o', Out (landed 0 1 [] [.choose [] c a (.num 5) []] [] r1) o' → Out (emb 0 1 [] [.choose [] c a (.num 5) []] [] (init c)) o' else Out (emb 0 1 [] [.choose [] c a (.num 5) []] [] (init c)) none := p1
    have e1 : landed 0 1 [] [.choose [] c a (.num 5) []] [] r1 = ⟨r1.steps + 1, moved r1 0 0, [.choose [] c a (.num 5) []], [r1.ans]⟩ := by
      unfold landed moved
      simp only [List.nil_append, List.length_nil, shTh_zero]
    have st : step ⟨r1.steps + 1, moved r1 0 0, [.choose [] c a (.num 5) []], [r1.ans]⟩ = .go (chooseS ⟨r1.steps + 1, moved r1 0 0, [], []⟩ [] c a (.num 5) [] r1.ans) := rfl
    -- the answer of the first is no truth
    have other : (∀ b, r1.ans ≠ .truth b) → o = within (some ⟨.row (moved r1 0 0).length, moved r1 0 0 ++ [⟨.ite c a (.num 5), [], [r1.ans], []⟩], r1.steps + 1⟩) := fun hne => by
      show o = if 500 < r1.steps + 1 then none else _
      by_cases hs1 : r1.steps + 1 ≤ 500
      · rw [if_pos hs1] at p1
        rw [if_neg (by omega)]
        refine h.det (.more first (p1 _ ?_))
        rw [e1]
        refine .more st ?_
        have e2 : chooseS ⟨r1.steps + 1, moved r1 0 0, [], []⟩ [] c a (.num 5) [] r1.ans = mk ⟨r1.steps + 1, moved r1 0 0, [], []⟩ (.ite c a (.num 5)) [] [r1.ans] [] := by
          unfold chooseS
          cases e : r1.ans with
          | truth b => exact absurd e (hne b)
          | _ => rfl
        rw [e2]
        exact out_end rfl rfl
      · rw [if_neg hs1] at p1
        rw [if_pos (by omega)]
        exact h.det (.more first p1)
    cases e : r1.ans with
    | num k =>
      have q := other (fun b z => by rw [e] at z; cases z)
      have ed : dueI c a (.num 5) r1 o2 = some ⟨.row (moved r1 0 0).length, moved r1 0 0 ++ [⟨.ite c a (.num 5), [], [r1.ans], []⟩], r1.steps + 1⟩ := by
        unfold dueI
        rw [e]
      show o = within (dueI c a (.num 5) r1 o2)
      rw [q, ed]
    | row k =>
      have q := other (fun b z => by rw [e] at z; cases z)
      have ed : dueI c a (.num 5) r1 o2 = some ⟨.row (moved r1 0 0).length, moved r1 0 0 ++ [⟨.ite c a (.num 5), [], [r1.ans], []⟩], r1.steps + 1⟩ := by
        unfold dueI
        rw [e]
      show o = within (dueI c a (.num 5) r1 o2)
      rw [q, ed]
    | truth b =>
      cases b with
      | false =>
        have ed : dueI c a (.num 5) r1 o2 = some ⟨.num 5, moved r1 0 0, r1.steps + 1 + 1⟩ := by unfold dueI; rw [e]
        show o = within (dueI c a (.num 5) r1 o2)
        rw [ed]
        show o = if 500 < r1.steps + 1 + 1 then none else _
        by_cases hs1 : r1.steps + 1 ≤ 500
        · rw [if_pos hs1] at p1
          have go : step ⟨r1.steps + 1, moved r1 0 0, [.choose [] c a (.num 5) []], [r1.ans]⟩ = .go ⟨r1.steps + 1, moved r1 0 0, [.visit [2] (.num 5) []], []⟩ := by rw [e]; rfl
          by_cases hs2 : 500 < r1.steps + 1 + 1
          · rw [if_pos hs2]
            refine h.det (.more first (p1 _ ?_))
            rw [e1]
            refine .more go (.long ?_)
            show (if _ then _ else _) = _
            rw [if_pos ⟨rfl, hs2⟩]
          · rw [if_neg hs2]
            refine h.det (.more first (p1 _ ?_))
            rw [e1]
            refine .more go (.more (s' := ⟨r1.steps + 1 + 1, moved r1 0 0, [], [.num 5]⟩) ?_ (out_end rfl rfl))
            show (if _ then _ else _) = _
            rw [if_neg fun z => hs2 z.2]
            rfl
        · rw [if_neg hs1] at p1
          rw [if_pos (by omega)]
          exact h.det (.more first p1)
      | true =>
        have ed := dueI_true (c := c) (a := a) (b := .num 5) (o2 := o2) e
        show o = within (dueI c a (.num 5) r1 o2)
        rw [ed]
        by_cases hs1 : r1.steps + 1 ≤ 500
        · rw [if_pos hs1] at p1
          have go : step ⟨r1.steps + 1, moved r1 0 0, [.choose [] c a (.num 5) []], [r1.ans]⟩ = .go (emb 1 (r1.steps + 1) (moved r1 0 0) [] [] (init a)) := by
            rw [e]
            show Res.go _ = Res.go _
            congr 1
            unfold emb init
            simp [todo, shTk, shAr]
            rfl
          have p2 := part_run h2 (i := 1) (d := r1.steps + 1) (R0 := moved r1 0 0) (B := []) (G := []) (T := a) 0 (ok_init a) (by show 0 + (r1.steps + 1) ≤ 500; omega)
          cases o2 with
          | none => exact h.det (.more first (p1 _ (by rw [e1]; exact .more go p2)))
          | some r2 =>
            have p2 : if r2.steps + (r1.steps + 1) ≤ 500 then ∀ o', Out (landed 1 (r1.steps + 1) (moved r1 0 0) [] [] r2) o' → Out (emb 1 (r1.steps + 1) (moved r1 0 0) [] [] (init a)) o' else Out (emb 1 (r1.steps + 1) (moved r1 0 0) [] [] (init a)) none := p2
            show o = if 500 < r1.steps + 1 + r2.steps then none else _
            by_cases hs2 : r2.steps + (r1.steps + 1) ≤ 500
            · rw [if_pos hs2] at p2
              rw [if_neg (by omega)]
              refine h.det (.more first (p1 _ ?_))
              rw [e1]
              refine .more go (p2 _ ?_)
              rw [Nat.add_comm (r1.steps + 1) r2.steps]
              exact out_end (s := landed 1 (r1.steps + 1) (moved r1 0 0) [] [] r2) rfl rfl
            · rw [if_neg hs2] at p2
              rw [if_pos (by omega)]
              exact h.det (.more first (p1 _ (by rw [e1]; exact .more go p2)))
        · rw [if_neg hs1] at p1
          have e5 := h.det (.more first p1)
          rw [e5]
          cases o2 with
          | none => rfl
          | some r2 =>
            show none = if 500 < r1.steps + 1 + r2.steps then none else _
            rw [if_pos (by omega)]
end Gs

/-! The walk of the machine. -/
namespace Gs
open PySem PySem.Spec PyProof.Rows L2
/-! ### the text by places -/
def top (i : Nat) : Stmt := PySem.Challenge.pw_gapscribe_k48_whole_side_by_side.main.body.getD i (.Pass ⟨0, 0, 0, 0⟩)
abbrev sFormAt : Stmt := top 5
abbrev sIsCalled : Stmt := top 7
abbrev sMInit : Stmt := inClass (top 10) 0
abbrev sCount : Stmt := inClass (top 10) 1
abbrev sMake : Stmt := inClass (top 10) 2
abbrev sRunOff : Stmt := inClass (top 10) 3
abbrev sTInit : Stmt := inClass (top 11) 0
abbrev sTAct : Stmt := inClass (top 11) 1
abbrev sBAct : Stmt := inClass (top 12) 0
abbrev sCAct : Stmt := inClass (top 13) 0
abbrev sJAct : Stmt := inClass (top 14) 0
abbrev sLookUp : Stmt := top 15
abbrev sCome : Stmt := top 16
abbrev sReck : Stmt := top 17
abbrev sJoin : Stmt := top 18
abbrev sChoose : Stmt := top 19
abbrev sCallOn : Stmt := top 20
abbrev sRun : Stmt := top 22

/-! ### data -/
def Tm.note : Tm → D
  | .odd s => .str s | .num n => .int n | .truth b => .bl b | .name x => .str x | .fn x _ => .str x | .rc f x _ => .tup [.str f, .str x] | .lt x _ _ => .str x | _ => .non
def Tm.d : Tm → D
  | .gap => .tup [.str "gap", .non, .tup []]
  | .odd s => .tup [.str "odd", .str s, .tup []]
  | .num n => .tup [.str "num", .int n, .tup []]
  | .truth b => .tup [.str "truth", .bl b, .tup []]
  | .name x => .tup [.str "name", .str x, .tup []]
  | .bin w l r => .tup [.str w.w, .non, .tup [l.d, r.d]]
  | .ite c a b => .tup [.str "if", .non, .tup [c.d, a.d, b.d]]
  | .fn x t => .tup [.str "fn", .str x, .tup [t.d]]
  | .rc f x t => .tup [.str "rec", .tup [.str f, .str x], .tup [t.d]]
  | .lt x a b => .tup [.str "let", .str x, .tup [a.d, b.d]]
theorem Tm.d_eq (t : Tm) : t.d = .tup [.str t.word, t.note, .tup (t.parts.map Tm.d)] := by cases t <;> rfl
def Th.d : Th → D
  | .num n => .tup [.str "num", .int n]
  | .truth b => .tup [.str "truth", .bl b]
  | .row k => .tup [.str "row", .int (k : Int)]
def placeD (p : List Nat) : D := .tup (p.map fun (k : Nat) => D.int (k : Int))
def pairD (p : Str × Th) : D := .tup [.str p.1, p.2.d]
def arD (ar : Ar) : D := .lst (ar.map pairD)
def Row.d (r : Row) : D := .tup [.str r.fm.word, placeD r.place, .lst (r.ops.map Th.d), arD r.ar]
/-- the classes of the tasks -/
structure CA where
  CM : Addr
  CT : Addr
  CB : Addr
  CC : Addr
  CJ : Addr
def Tk.cls (A : CA) : Tk → Addr
  | .visit _ _ _ => A.CT | .bind _ _ _ _ _ => A.CB | .choose _ _ _ _ _ => A.CC | .join _ _ _ _ _ => A.CJ
def Tk.d (A : CA) (t : Tk) : D := .obj (t.cls A) ["place", "form", "around"] [placeD t.place, t.form.d, arD t.ar]
structure MA where
  m : Addr
  r : Addr
  t : Addr
  g : Addr
structure MAt (A : CA) (M : MA) (T : Tm) (μ : Mu) (s : MS) : Prop where
  m : μ M.m = some (.ins A.CM [("tree", T.d), ("steps", .int (s.steps : Int)), ("rows", .adr M.r), ("tasks", .adr M.t), ("things", .adr M.g)])
  r : μ M.r = some (.lst (s.rows.map Row.d))
  t : μ M.t = some (.lst (s.tasks.map (Tk.d A)).reverse)
  g : μ M.g = some (.lst (s.things.map Th.d).reverse)
  rt : M.r ≠ M.t
  rg : M.r ≠ M.g
  tg : M.t ≠ M.g
section
variable {A : CA} {M : MA} {T : Tm} {μ : Mu} {s : MS}
theorem ne_mo {μ : Mu} {a b : Addr} {C : Addr} {fs : List (Str × D)} {ds : List D} (h1 : μ a = some (.ins C fs)) (h2 : μ b = some (.lst ds)) : a ≠ b := fun e => by rw [e, h2] at h1; cases h1
theorem MAt.mr (h : MAt A M T μ s) : M.m ≠ M.r := ne_mo h.m h.r
theorem MAt.mt (h : MAt A M T μ s) : M.m ≠ M.t := ne_mo h.m h.t
theorem MAt.mg (h : MAt A M T μ s) : M.m ≠ M.g := ne_mo h.m h.g
theorem MAt.putS (h : MAt A M T μ s) (n : Nat) : MAt A M T (μ.put M.m (.ins A.CM [("tree", T.d), ("steps", .int (n : Int)), ("rows", .adr M.r), ("tasks", .adr M.t), ("things", .adr M.g)])) { s with steps := n } :=
  ⟨Mu.put_same, by rw [Mu.put_ne h.mr.symm]; exact h.r, by rw [Mu.put_ne h.mt.symm]; exact h.t, by rw [Mu.put_ne h.mg.symm]; exact h.g, h.rt, h.rg, h.tg⟩
theorem MAt.putR (h : MAt A M T μ s) (rows : List Row) : MAt A M T (μ.put M.r (.lst (rows.map Row.d))) { s with rows := rows } :=
  ⟨by rw [Mu.put_ne h.mr]; exact h.m, Mu.put_same, by rw [Mu.put_ne h.rt.symm]; exact h.t, by rw [Mu.put_ne h.rg.symm]; exact h.g, h.rt, h.rg, h.tg⟩
theorem MAt.putT (h : MAt A M T μ s) (ts : List Tk) : MAt A M T (μ.put M.t (.lst (ts.map (Tk.d A)).reverse)) { s with tasks := ts } :=
  ⟨by rw [Mu.put_ne h.mt]; exact h.m, by rw [Mu.put_ne h.rt]; exact h.r, Mu.put_same, by rw [Mu.put_ne h.tg.symm]; exact h.g, h.rt, h.rg, h.tg⟩
theorem MAt.putG (h : MAt A M T μ s) (gs : List Th) : MAt A M T (μ.put M.g (.lst (gs.map Th.d).reverse)) { s with things := gs } :=
  ⟨by rw [Mu.put_ne h.mg]; exact h.m, by rw [Mu.put_ne h.rg]; exact h.r, by rw [Mu.put_ne h.tg]; exact h.t, Mu.put_same, h.rt, h.rg, h.tg⟩
theorem rev_cons {α β : Type} (f : α → β) (x : α) (l : List α) : ((x :: l).map f).reverse = (l.map f).reverse ++ [f x] := by rw [List.map_cons, List.reverse_cons]
end
/-- what the top has written of the classes -/
structure Txt (K : PySem.W.Frag) (mg : Str → Option Value) (TL : Addr) (A : CA) : Prop where
  bl : Bl mg
  most : ∃ tk, mg "MOST" = some (.int 500 tk)
  clM : Cls K A.CM
  nTree : NoAttr K A.CM "tree"
  nSteps : NoAttr K A.CM "steps"
  nRows : NoAttr K A.CM "rows"
  nTasks : NoAttr K A.CM "tasks"
  nThings : NoAttr K A.CM "things"
  task : ∀ C, C ∈ [A.CT, A.CB, A.CC, A.CJ] → Cls K C ∧ NoAttr K C "place" ∧ NoAttr K C "form" ∧ NoAttr K C "around"
  gTL : mg "TooLong" = some (.ref TL)
  kTL : PySem.W.keepIn K (.ref TL) = true
  xTL : ∃ bmB B newId initId, ExcBaseFacts B newId initId bmB ∧ PySem.W.excIn K TL bmB newId = true
  bTL : PySem.W.subIn K (.ref TL) (.type "BaseException") = some true
  tTL : PySem.W.typeIn K (.ref TL) = some (.type "type")
theorem cal_of {P : Program} {w : World} {K : PySem.W.Frag} {mg : Str → Option Value} {base : Heap} {TL : Addr} {x qual : Str} {st : Stmt} {fa : Addr} {fd : FuncData} {ps : List Str} {k : Nat} {f : Fn} (F : Fun K x qual st fa fd) (hm : mg x = some (.ref fa)) (hb : Binds K fd ps [])
    (ok : FnOk P w K mg base (L2.CX P w) k fa fd ps (SpD K TL f)) : Cal P w K mg base TL x k f := ⟨fa, fd, ps, hm, F.kp, hb, ok⟩
theorem Cal.mono {P : Program} {w : World} {K : PySem.W.Frag} {mg : Str → Option Value} {base : Heap} {TL : Addr} {x : Str} {j k : Nat} {f : Fn} (C : Cal P w K mg base TL x j f) (h : j ≤ k) : Cal P w K mg base TL x k f := by
  obtain ⟨a, fd, ps, h1, h2, h3, h4⟩ := C.ex
  exact ⟨a, fd, ps, h1, h2, h3, h4.mono h⟩
theorem JB.is {X : Cx} {F0 : Hp} {e : Expr} {ρ : Rho} {μ : Mu} {b b' : Bool} (h : JB X F0 e ρ μ b) (q : b = b') : JB X F0 e ρ μ b' := by rw [← q]; exact h
theorem JV.is {X : Cx} {F0 : Hp} {e : Expr} {ρ : Rho} {μ μ1 : Mu} {d d' : D} (h : JV X F0 e ρ μ d μ1) (q : d = d') : JV X F0 e ρ μ d' μ1 := by rw [← q]; exact h
section
variable {P : Program} {w : World} {K : PySem.W.Frag} {mg : Str → Option Value} {base : Heap} {TL : Addr} {A : CA}
/-! ### form_at -/
def fFormAt : Fn := fun ds μ Q _ => ∃ T p u, ds = [Tm.d T, placeD p] ∧ T.at? p = some u ∧ p.length ≤ 10000 ∧ Q u.d μ
theorem scFormAt : FnScope ["tree", "place", "form", "k"] ["tree", "place"] (defScope sFormAt) := ⟨rfl, rfl, rfl, by decide +kernel, rfl, by decide +kernel, by decide +kernel⟩
theorem parts_le (t : Tm) : t.parts.length ≤ 100000 := by
  cases t <;> simp [Tm.parts]
theorem ok_form_at {f : Addr} {fd : FuncData} {k : Nat} (F : Fun K "form_at" "form_at" sFormAt f fd) (Tx : Txt K mg TL A) : FnOk P w K mg base (L2.CX P w) (k + 1) f fd ["tree", "place"] (SpD K TL fFormAt) := by
  refine fn_ok F scFormAt (fun ds μ q R h => ?_) (fun cdv Ar outer s H E F0 ds μ q R hr G hf hR => ?_)
  · obtain ⟨T, p, u, rfl, _⟩ := h
    rfl
  · obtain ⟨T, p, u, rfl, hat, hlen, hq⟩ := hf
    -- form = tree
    refine ss_set 2 G (jv_var 0) ?_
    -- for k in place:
    refine ss_for G (ds := p.map fun (k : Nat) => D.int (k : Int)) (jv_var 1) (.inr rfl) (fun i ρ μ' => ∃ v k4, ρ = [some T.d, some (placeD p), some (Tm.d v), k4] ∧ μ' = μ ∧ v.at? (p.drop i) = some u) ⟨T, none, rfl, rfl, hat⟩ ?_ ?_
    · rintro i d ρ' μ' hi ⟨v, k4, rfl, rfl, hv⟩
      rw [List.getElem?_map] at hi
      cases hp : p[i]? with
      | none => rw [hp] at hi; cases hi
      | some k =>
        rw [hp] at hi
        have ed : D.int (k : Int) = d := Option.some.inj hi
        subst ed
        have hdrop : p.drop i = k :: p.drop (i + 1) := by
          obtain ⟨hl, he⟩ := List.getElem?_eq_some_iff.mp hp
          rw [← he]
          exact List.drop_eq_getElem_cons hl
        rw [hdrop] at hv
        have hv2 : (match v.parts[k]? with | some u => u.at? (p.drop (i + 1)) | none => none) = some u := hv
        cases hk : v.parts[k]? with
        | none => rw [hk] at hv2; cases hv2
        | some z =>
          rw [hk] at hv2
          have hv2 : z.at? (p.drop (i + 1)) = some u := hv2
          obtain ⟨hkl, hke⟩ := List.getElem?_eq_some_iff.mp hk
          have hitem : atI (v.parts.map Tm.d) (k : Int) = some z.d := atI_nat (by rw [List.getElem?_map, hk]; rfl)
          refine jg_name 3 G ?_
          -- if not 0 <= k < len(form[2]): raise
          have e1 : decide ((0 : Int) ≤ (k : Int)) = true := decide_eq_true (by omega)
          have e2 : decide ((k : Int) < (((v.parts.map Tm.d).length : Nat) : Int)) = true := decide_eq_true (by rw [List.length_map]; omega)
          refine ss_if0 (JB.is (jb_not (jb_chain op_le op_lt rv_le (fun _ => rv_lt) jv_int (jv_var 3) (jv_len Tx.bl (jv_ixT rfl (JV.is (jv_var 2) v.d_eq) jv_int) rfl (by rw [List.length_map]; exact parts_le v)))) (by rw [e1, e2]; rfl)) ?_
          -- form = form[2][k]
          refine ss_set 2 G (jv_ixT hitem (jv_ixT rfl (JV.is (jv_var 2) v.d_eq) jv_int) (jv_var 3)) (ss_nil ⟨z, _, rfl, rfl, hv2⟩)
    · rintro ρ' μ' ⟨v, k4, rfl, rfl, hv⟩
      rw [List.length_map, List.drop_length] at hv
      have e : v = u := Option.some.inj hv
      subst e
      exact ss_ret (jv_var 2) hq
/-! ### is_called -/
def isFun (v : Th) (rows : List Row) : Bool := match v with
  | .row k => match rows[k]? with
    | some row => inS row.fm.word ["fn", "rec"]
    | none => false
  | _ => false
def fIsCalled : Fn := fun ds μ Q _ => ∃ (v : Th) (n : Addr) (rows : List Row), ds = [v.d, .adr n] ∧ μ n = some (.lst (rows.map Row.d)) ∧ v.lt rows.length ∧ Q (.bl (isFun v rows)) μ
theorem scIsCalled : FnScope ["thing", "rows"] ["thing", "rows"] (defScope sIsCalled) := ⟨rfl, rfl, rfl, by decide +kernel, rfl, by decide +kernel, by decide +kernel⟩
theorem ok_is_called {f : Addr} {fd : FuncData} {k : Nat} (F : Fun K "is_called" "is_called" sIsCalled f fd) : FnOk P w K mg base (L2.CX P w) (k + 1) f fd ["thing", "rows"] (SpD K TL fIsCalled) := by
  refine fn_ok F scIsCalled (fun ds μ q R h => ?_) (fun cdv Ar outer s H E F0 ds μ q R hr G hf hR => ?_)
  · obtain ⟨v, n, rows, rfl, _⟩ := h
    rfl
  · obtain ⟨v, n, rows, rfl, hn, hv, hq⟩ := hf
    cases v with
    | num j => exact ss_ret (jv_andF (JV.is (jv_cmp op_eq rv_eqS (jv_ixT rfl (JV.is (jv_var 0) rfl) jv_int) jv_str) rfl)) hq
    | truth j => exact ss_ret (jv_andF (JV.is (jv_cmp op_eq rv_eqS (jv_ixT rfl (JV.is (jv_var 0) rfl) jv_int) jv_str) rfl)) hq
    | row j =>
      have hj : j < rows.length := hv
      have e : rows[j]? = some rows[j] := List.getElem?_eq_getElem hj
      have e2 : isFun (.row j) rows = inS rows[j].fm.word ["fn", "rec"] := by
        show (match rows[j]? with | some row => inS row.fm.word ["fn", "rec"] | none => false) = _
        rw [e]
      rw [e2] at hq
      refine ss_ret (jv_andT (JV.is (jv_cmp op_eq rv_eqS (jv_ixT rfl (JV.is (jv_var 0) rfl) jv_int) jv_str) rfl) (jv_one (jv_cmp op_in_seq (rv_inT (ts := ["fn", "rec"]))
        (jv_ixT (d := .str rows[j].fm.word) rfl (JV.is (jv_ixM (d := rows[j].d) (jv_var 1) (jv_ixT rfl (JV.is (jv_var 0) rfl) jv_int) hn (atI_nat (by rw [List.getElem?_map, e]; rfl))) rfl) jv_int) (jv_tup (ja_cons jv_str (ja_cons jv_str ja_nil)))))) hq
/-! ### Machine -/
structure Sz (T : Tm) (s : MS) : Prop where
  rows : ∀ k row, s.rows[k]? = some row → RowOk T 10000 k row
  lr : s.rows.length ≤ 10000
  lt : s.tasks.length ≤ 10000
  lg : s.things.length ≤ 10000
def fMInit (A : CA) : Fn := fun ds μ Q _ => ∃ (n : Addr) (T : Tm), ds = [.adr n, T.d, .int 0] ∧ μ n = some (.ins A.CM []) ∧ ∀ M μ', MAt A M T μ' ⟨0, [], [], []⟩ → M.m = n → Q .non μ'
theorem scMInit : FnScope ["self", "tree", "steps"] ["self", "tree", "steps"] (defScope sMInit) := ⟨rfl, rfl, rfl, by decide +kernel, rfl, by decide +kernel, by decide +kernel⟩
theorem ok_minit {f : Addr} {fd : FuncData} {k : Nat} (F : Fun K "__init__" "Machine.__init__" sMInit f fd) (Tx : Txt K mg TL A) : FnOk P w K mg base (L2.CX P w) (k + 1) f fd ["self", "tree", "steps"] (SpD K TL (fMInit A)) := by
  refine fn_ok F scMInit (fun ds μ q R h => ?_) (fun cdv Ar outer s H E F0 ds μ q R hr G hf hR => ?_)
  · obtain ⟨n, T, rfl, _⟩ := h
    rfl
  · obtain ⟨n, T, rfl, hn, hq⟩ := hf
    refine ss_fld (jv_var 1) (jv_var 0) hn Tx.clM Tx.nTree (by show (0 : Nat) < 1000; decide) ?_
    refine ss_fld (jv_var 2) (jv_var 0) Mu.put_same Tx.clM Tx.nSteps (by show (1 : Nat) < 1000; decide) ?_
    refine ss_fldJ (j_lstM ja_nil fun r hr' => ⟨jv_var 0, by rw [Mu.put_ne (fun z => by rw [← z, Mu.put_same] at hr'; cases hr')]; exact Mu.put_same, ?_⟩) Tx.clM Tx.nRows (by show (2 : Nat) < 1000; decide)
    have nr : n ≠ r := fun z => by rw [← z, Mu.put_same] at hr'; cases hr'
    refine ss_fldJ (j_lstM ja_nil fun t ht' => ⟨jv_var 0, by rw [Mu.put_ne (fun z => by rw [← z, Mu.put_same] at ht'; cases ht')]; exact Mu.put_same, ?_⟩) Tx.clM Tx.nTasks (by show (3 : Nat) < 1000; decide)
    have nt : n ≠ t := fun z => by rw [← z, Mu.put_same] at ht'; cases ht'
    have rt : r ≠ t := fun z => by rw [← z, Mu.put_ne nr.symm, Mu.put_same] at ht'; cases ht'
    refine ss_fldJ (j_lstM ja_nil fun g hg' => ⟨jv_var 0, by rw [Mu.put_ne (fun z => by rw [← z, Mu.put_same] at hg'; cases hg')]; exact Mu.put_same, ?_⟩) Tx.clM Tx.nThings (by show (4 : Nat) < 1000; decide)
    have ng : n ≠ g := fun z => by rw [← z, Mu.put_same] at hg'; cases hg'
    have tg : t ≠ g := fun z => by rw [← z, Mu.put_ne nt.symm, Mu.put_same] at hg'; cases hg'
    have rg : r ≠ g := fun z => by rw [← z, Mu.put_ne nr.symm, Mu.put_ne rt, Mu.put_ne nr.symm, Mu.put_same] at hg'; cases hg'
    refine ss_nil (hq ⟨n, r, t, g⟩ _ ⟨Mu.put_same, ?_, ?_, ?_, rt, rg, tg⟩ rfl)
    · show Mu.put _ _ _ r = _
      rw [Mu.put_ne nr.symm, Mu.put_ne rg, Mu.put_ne nr.symm, Mu.put_ne rt, Mu.put_ne nr.symm, Mu.put_same]
      rfl
    · show Mu.put _ _ _ t = _
      rw [Mu.put_ne nt.symm, Mu.put_ne tg, Mu.put_ne nt.symm, Mu.put_same]
      rfl
    · show Mu.put _ _ _ g = _
      rw [Mu.put_ne ng.symm, Mu.put_same]
      rfl
def fCount (A : CA) : Fn := fun ds μ Q R => ∃ (M : MA) (T : Tm) (s : MS), ds = [.adr M.m] ∧ MAt A M T μ s ∧ (500 < s.steps + 1 → R) ∧ (¬ 500 < s.steps + 1 → ∀ μ', MAt A M T μ' { s with steps := s.steps + 1 } → Q .non μ')
theorem scCount : FnScope ["self"] ["self"] (defScope sCount) := ⟨rfl, rfl, rfl, by decide +kernel, rfl, by decide +kernel, by decide +kernel⟩
theorem ok_count {f : Addr} {fd : FuncData} {k : Nat} (F : Fun K "count_step" "Machine.count_step" sCount f fd) (Tx : Txt K mg TL A) : FnOk P w K mg base (L2.CX P w) (k + 1) f fd ["self"] (SpD K TL (fCount A)) := by
  refine fn_ok F scCount (fun ds μ q R h => ?_) (fun cdv Ar outer s H E F0 ds μ q R hr G hf hR => ?_)
  · obtain ⟨M, T, s, rfl, _⟩ := h
    rfl
  · obtain ⟨M, T, s, rfl, hM, h1, h2⟩ := hf
    obtain ⟨tk, hmost⟩ := Tx.most
    obtain ⟨bmB, B, newId, initId, FB, xe⟩ := Tx.xTL
    refine ss_fld (jv_add (jv_fldM (jv_var 0) hM.m Tx.clM Tx.nSteps rfl) jv_int) (jv_var 0) hM.m Tx.clM Tx.nSteps (by show (5 : Nat) < 1000; decide) ?_
    have hM2 := hM.putS (s.steps + 1)
    refine ss_if (jb_cmp op_gt rv_gt (jv_fldM (jv_var 0) Mu.put_same Tx.clM Tx.nSteps rfl) (jv_gint hmost ⟨tk, rfl⟩)) (fun e => ?_) (fun e => ?_)
    · have e' : (500 : Int) < (s.steps : Int) + 1 := of_decide_eq_true e
      exact ss_raise G (takes_of rfl rfl rfl rfl) FB xe Tx.gTL Tx.kTL (raises_own Tx.bTL Tx.tTL) (hR (h1 (by omega)))
    · have e' : ¬ (500 : Int) < (s.steps : Int) + 1 := of_decide_eq_false e
      exact ss_nil (ss_nil (h2 (by omega) _ hM2))
def fMake (A : CA) : Fn := fun ds μ Q _ => ∃ (M : MA) (T : Tm) (s : MS) (fm : Tm) (p : List Nat) (ops : List Th) (ar : Ar), ds = [.adr M.m, .str fm.word, placeD p, .lst (ops.map Th.d), arD ar] ∧ MAt A M T μ s ∧ s.rows.length ≤ 10000 ∧ s.things.length ≤ 10000 ∧ ∀ μ', MAt A M T μ' (mk s fm p ops ar) → Q .non μ'
theorem scMake : FnScope ["self", "word", "place", "operands", "around"] ["self", "word", "place", "operands", "around"] (defScope sMake) := ⟨rfl, rfl, rfl, by decide +kernel, rfl, by decide +kernel, by decide +kernel⟩
theorem ok_make {f : Addr} {fd : FuncData} {k : Nat} (F : Fun K "make_row" "Machine.make_row" sMake f fd) (Tx : Txt K mg TL A) : FnOk P w K mg base (L2.CX P w) (k + 1) f fd ["self", "word", "place", "operands", "around"] (SpD K TL (fMake A)) := by
  refine fn_ok F scMake (fun ds μ q R h => ?_) (fun cdv Ar outer s H E F0 ds μ q R hr G hf hR => ?_)
  · obtain ⟨M, T, s, fm, p, ops, ar, rfl, _⟩ := h
    rfl
  · obtain ⟨M, T, s, fm, p, ops, ar, rfl, hM, hl1, hl2, hq⟩ := hf
    refine ss_expr (jv_append (jv_fldM (jv_var 0) hM.m Tx.clM Tx.nRows rfl) hM.r (jv_tup (ja_cons (jv_var 1) (ja_cons (jv_var 2) (ja_cons (jv_list Tx.bl (jv_var 3)) (ja_cons (jv_list Tx.bl (jv_var 4)) ja_nil))))) hM.r (by rw [List.length_map]; omega)) ?_
    have e1 : (s.rows ++ [(⟨fm, p, ops, ar⟩ : Row)]).map Row.d = s.rows.map Row.d ++ [.tup [.str fm.word, placeD p, .lst (ops.map Th.d), arD ar]] := by rw [List.map_append]; rfl
    have hM2 : MAt A M T (μ.put M.r (.lst (s.rows.map Row.d ++ [.tup [.str fm.word, placeD p, .lst (ops.map Th.d), arD ar]]))) { s with rows := s.rows ++ [⟨fm, p, ops, ar⟩] } := by
      rw [← e1]
      exact hM.putR _
    have e2 : ((((s.rows ++ [(⟨fm, p, ops, ar⟩ : Row)]).map Row.d).length : Nat) : Int) - 1 = (s.rows.length : Int) := by
      rw [List.length_map, List.length_append, List.length_singleton]
      omega
    refine ss_expr (jv_append (jv_fldM (jv_var 0) hM2.m Tx.clM Tx.nThings rfl) hM2.g (jv_tup (ja_cons jv_str (ja_cons (JV.is (jv_sub (jv_lenM Tx.bl (jv_fldM (jv_var 0) hM2.m Tx.clM Tx.nRows rfl) hM2.r) jv_int) (congrArg D.int e2)) ja_nil))) hM2.g (by rw [List.length_reverse, List.length_map]; show s.things.length ≤ _; omega)) (ss_nil (hq _ ?_))
    have hM3 := hM2.putG (.row s.rows.length :: s.things)
    rw [rev_cons] at hM3
    exact hM3
/-! ### Task -/
def fTInit (A : CA) : Fn := fun ds μ Q _ => ∃ (n C : Addr) (p fm ar : D), ds = [.adr n, p, fm, ar] ∧ C ∈ [A.CT, A.CB, A.CC, A.CJ] ∧ μ n = some (.ins C []) ∧ Q .non (μ.put n (.ins C [("place", p), ("form", fm), ("around", ar)]))
theorem scTInit : FnScope ["self", "place", "form", "around"] ["self", "place", "form", "around"] (defScope sTInit) := ⟨rfl, rfl, rfl, by decide +kernel, rfl, by decide +kernel, by decide +kernel⟩
theorem ok_tinit {f : Addr} {fd : FuncData} {k : Nat} (F : Fun K "__init__" "Task.__init__" sTInit f fd) (Tx : Txt K mg TL A) : FnOk P w K mg base (L2.CX P w) (k + 1) f fd ["self", "place", "form", "around"] (SpD K TL (fTInit A)) := by
  refine fn_ok F scTInit (fun ds μ q R h => ?_) (fun cdv Ar outer s H E F0 ds μ q R hr G hf hR => ?_)
  · obtain ⟨n, C, p, fm, ar, rfl, _⟩ := h
    rfl
  · obtain ⟨n, C, p, fm, ar, rfl, hC, hn, hq⟩ := hf
    obtain ⟨cl, n1, n2, n3⟩ := Tx.task C hC
    refine ss_fld (jv_var 1) (jv_var 0) hn cl n1 (by show (0 : Nat) < 1000; decide) ?_
    refine ss_fld (jv_var 2) (jv_var 0) Mu.put_same cl n2 (by show (1 : Nat) < 1000; decide) ?_
    refine ss_fld (jv_var 3) (jv_var 0) Mu.put_same cl n3 (by show (2 : Nat) < 1000; decide) ?_
    refine ss_nil ?_
    show q .non (Mu.put _ n _)
    rw [Mu.put_put, Mu.put_put]
    exact hq
theorem j_task {X : Cx} {F0 : Hp} {ρ : Rho} {μ : Mu} {E : XK} {x : Str} {C : Addr} {e1 e2 e3 : Expr} {p fm ar : D} {pp pos : Pos} (M : Mak X.prog X.w X.K X.mg X.base TL C x 1 (fTInit A)) (G : GX X E) (hr : Room 2 X.A) (hC : C ∈ [A.CT, A.CB, A.CC, A.CJ]) (ha : JVs X F0 [e1, e2, e3] ρ μ [p, fm, ar] μ) (hg : Gl X x := by rfl) (hdb : (x == ("__debug__" : Str)) = false := by decide)
    (he : starEach [e1, e2, e3] X.env = (false, eval e1 X.env) :: starEach [e2, e3] X.env := by rfl) (hpl : (backTo pos (starEach [e2, e3] X.env)).any (·.1) = false := by rfl) : JV X F0 (.Call (.Name x pp) [e1, e2, e3] [] pos) ρ μ (.obj C ["place", "form", "around"] [p, fm, ar]) μ :=
  j_makeZ M G hr (ha.at fun n hn => ⟨n, C, p, fm, ar, rfl, hC, Mu.put_same, rfl, _, Mu.put_put, rfl, rfl⟩) hg hdb he hpl
/-! ### look_up -/
def lookS (s : MS) (p : List Nat) (x : Str) (ar : Ar) : MS := match lookL ar x with
  | some v => push s v
  | none => mk s (.name x) p [] []
def fLookUp (A : CA) : Fn := fun ds μ Q _ => ∃ (M : MA) (T : Tm) (s : MS) (p : List Nat) (x : Str) (ar : Ar), ds = [.adr M.m, placeD p, .str x, arD ar] ∧ MAt A M T μ s ∧ s.rows.length ≤ 10000 ∧ s.things.length ≤ 10000 ∧ ar.length ≤ 10000 ∧ ∀ μ', MAt A M T μ' (lookS s p x ar) → Q .non μ'
theorem scLookUp : FnScope ["machine", "place", "name", "around", "k"] ["machine", "place", "name", "around"] (defScope sLookUp) := ⟨rfl, rfl, rfl, by decide +kernel, rfl, by decide +kernel, by decide +kernel⟩
theorem ok_look_up {f : Addr} {fd : FuncData} (F : Fun K "look_up" "look_up" sLookUp f fd) (Tx : Txt K mg TL A) (CMk : Met P w K mg base TL A.CM "make_row" 1 (fMake A)) : FnOk P w K mg base (L2.CX P w) 2 f fd ["machine", "place", "name", "around"] (SpD K TL (fLookUp A)) := by
  refine fn_ok F scLookUp (fun ds μ q R h => ?_) (fun cdv Ar outer s0 H E F0 ds μ q R hr G hf hR => ?_)
  · obtain ⟨M, T, s, p, x, ar, rfl, _⟩ := h
    rfl
  · obtain ⟨M, T, s, p, x, ar, rfl, hM, hl1, hl2, hl3, hq⟩ := hf
    have hlen : (ar.map pairD).length = ar.length := List.length_map _
    refine ss_forD Tx.bl (n := ar.length) (μ1 := μ) G ?_ (by omega) (fun i ρ μ' => ∃ k4, ρ = [some (.adr M.m), some (placeD p), some (.str x), some (arD ar), k4] ∧ μ' = μ ∧ lookL ar x = (ar.reverse.drop i).lookup x) ⟨none, rfl, rfl, rfl⟩ ?_ ?_
    · refine ja_cons (JV.is (jv_sub (jv_len Tx.bl (JV.is (jv_var 3) (show arD ar = .lst (ar.map pairD) from rfl)) rfl (by rw [hlen]; omega)) jv_int) (by rw [hlen])) (ja_cons (jv_neg jv_int) (ja_cons (jv_neg jv_int) ja_nil))
    · rintro i ρ' μ' hi ⟨k4, rfl, rfl, hlook⟩
      have hj : ar.length - 1 - i < ar.length := by omega
      obtain ⟨⟨y, v⟩, hy⟩ : ∃ z, ar[ar.length - 1 - i]? = some z := ⟨_, List.getElem?_eq_getElem hj⟩
      have hr2 : ar.reverse[i]? = some (y, v) := by rw [List.getElem?_reverse hi]; exact hy
      have hdrop : ar.reverse.drop i = (y, v) :: ar.reverse.drop (i + 1) := by
        obtain ⟨hl, he⟩ := List.getElem?_eq_some_iff.mp hr2
        rw [← he]
        exact List.drop_eq_getElem_cons hl
      rw [hdrop] at hlook
      have hitem : atI (ar.map pairD) ((ar.length : Int) - 1 - i) = some (pairD (y, v)) := by
        have e : (ar.length : Int) - 1 - i = ((ar.length - 1 - i : Nat) : Int) := by omega
        rw [e]
        exact atI_nat (by rw [List.getElem?_map, hy]; rfl)
      refine jg_name 4 G ?_
      refine ss_if (jb_cmp op_eq rv_eqS (jv_ixT (d := .str y) rfl (JV.is (jv_ixL hitem (JV.is (jv_var 3) (show arD ar = .lst (ar.map pairD) from rfl)) (jv_var 4)) rfl) jv_int) (jv_var 2)) (fun e => ?_) (fun e => ?_)
      · have e' : y = x := of_decide_eq_true e
        subst e'
        have hv : lookL ar y = some v := by rw [hlook]; simp [List.lookup]
        have hs : lookS s p y ar = push s v := by unfold lookS; rw [hv]
        refine ss_expr (jv_append (jv_fldM (jv_var 0) hM.m Tx.clM Tx.nThings rfl) hM.g (jv_ixT (d := v.d) rfl (JV.is (jv_ixL hitem (JV.is (jv_var 3) (show arD ar = .lst (ar.map pairD) from rfl)) (jv_var 4)) rfl) jv_int) hM.g (by rw [List.length_reverse, List.length_map]; omega)) (ss_retN (hq _ ?_))
        rw [hs]
        have h2 := hM.putG (v :: s.things)
        rw [rev_cons] at h2
        exact h2
      · have e' : ¬ y = x := of_decide_eq_false e
        refine ss_nil (ss_nil ⟨_, rfl, rfl, ?_⟩)
        rw [hlook]
        have q : (x == y) = false := by simpa using fun z => e' z.symm
        simp only [List.lookup, q]
    · rintro ρ' μ' ⟨k4, rfl, rfl, hlook⟩
      rw [List.drop_eq_nil_of_le (by rw [List.length_reverse]; exact Nat.le_refl _)] at hlook
      have hs : lookS s p x ar = mk s (.name x) p [] [] := by unfold lookS; rw [hlook]; rfl
      refine ss_exprJ (j_methM CMk G hr (jv_var 0) hM.m rfl ((ja_cons jv_str (ja_cons (jv_var 1) (ja_cons (jv_lst ja_nil) (ja_cons (jv_lst ja_nil) ja_nil)))).at ⟨M, T, s, .name x, p, [], [], rfl, hM, hl1, hl2, fun μ' hM' => ss_nil (hq μ' ?_)⟩))
      rw [hs]
      exact hM'
end
end Gs

/-! The walk of the machine, second half. -/
namespace Gs
open PySem PySem.Spec PyProof.Rows L2
def Th.tag : Th → Str
  | .num _ => "num" | .truth _ => "truth" | .row _ => "row"
def Th.val : Th → D
  | .num n => .int n | .truth b => .bl b | .row k => .int (k : Int)
theorem Th.d_eq (v : Th) : v.d = .tup [.str v.tag, v.val] := by cases v <;> rfl
def Th.isTruth : Th → Bool
  | .truth _ => true
  | _ => false
theorem Th.tag_num (v : Th) : decide (v.tag = "num") = v.isNum := by cases v <;> rfl
section
variable {P : Program} {w : World} {K : PySem.W.Frag} {mg : Str → Option Value} {base : Heap} {TL : Addr} {A : CA}
section
variable {M : MA} {T : Tm} {μ : Mu} {s : MS}
theorem MAt.addT (h : MAt A M T μ s) (t : Tk) : MAt A M T (μ.put M.t (.lst ((s.tasks.map (Tk.d A)).reverse ++ [t.d A]))) { s with tasks := t :: s.tasks } := by
  rw [← rev_cons]
  exact h.putT _
theorem MAt.addG (h : MAt A M T μ s) (v : Th) : MAt A M T (μ.put M.g (.lst ((s.things.map Th.d).reverse ++ [v.d]))) (push s v) := by
  rw [← rev_cons]
  exact h.putG _
theorem MAt.topG {v : Th} {g : List Th} (h : MAt A M T μ s) (e : s.things = v :: g) : μ M.g = some (.lst ((g.map Th.d).reverse ++ [v.d])) := by
  rw [← rev_cons, ← e]
  exact h.g
theorem MAt.topT {t : Tk} {r : List Tk} (h : MAt A M T μ s) (e : s.tasks = t :: r) : μ M.t = some (.lst ((r.map (Tk.d A)).reverse ++ [t.d A])) := by
  rw [← rev_cons, ← e]
  exact h.t
end
/-! ### reckoned -/
def fReck : Fn := fun ds μ Q _ => ∃ (b : BW) (i j : Int), ds = [.str b.w, .int i, .int j] ∧ b ≠ .call ∧ Q (reck b i j).d μ
theorem scReck : FnScope ["word", "one", "other"] ["word", "one", "other"] (defScope sReck) := ⟨rfl, rfl, rfl, by decide +kernel, rfl, by decide +kernel, by decide +kernel⟩
theorem ok_reck {f : Addr} {fd : FuncData} {k : Nat} (F : Fun K "reckoned" "reckoned" sReck f fd) : FnOk P w K mg base (L2.CX P w) (k + 1) f fd ["word", "one", "other"] (SpD K TL fReck) := by
  refine fn_ok F scReck (fun ds μ q R h => ?_) (fun cdv Ar outer s H E F0 ds μ q R hr G hf hR => ?_)
  · obtain ⟨b, i, j, rfl, _⟩ := h
    rfl
  · obtain ⟨b, i, j, rfl, hb, hq⟩ := hf
    cases b with
    | call => exact absurd rfl hb
    | plus => exact ss_ifT (JB.is (jb_cmp op_eq rv_eqS (JV.is (jv_var 0) (show D.str BW.plus.w = .str "plus" from rfl)) jv_str) rfl) (ss_ret (jv_tup (ja_cons jv_str (ja_cons (jv_add (jv_var 1) (jv_var 2)) ja_nil))) hq)
    | minus => exact ss_if0 (JB.is (jb_cmp op_eq rv_eqS (JV.is (jv_var 0) (show D.str BW.minus.w = .str "minus" from rfl)) jv_str) rfl) (ss_ifT (JB.is (jb_cmp op_eq rv_eqS (JV.is (jv_var 0) (show D.str BW.minus.w = .str "minus" from rfl)) jv_str) rfl) (ss_ret (jv_tup (ja_cons jv_str (ja_cons (jv_sub (jv_var 1) (jv_var 2)) ja_nil))) hq))
    | less => exact ss_if0 (JB.is (jb_cmp op_eq rv_eqS (JV.is (jv_var 0) (show D.str BW.less.w = .str "less" from rfl)) jv_str) rfl) (ss_if0 (JB.is (jb_cmp op_eq rv_eqS (JV.is (jv_var 0) (show D.str BW.less.w = .str "less" from rfl)) jv_str) rfl)
        (ss_ret (jv_tup (ja_cons jv_str (ja_cons (jv_cmp op_lt rv_lt (jv_var 1) (jv_var 2)) ja_nil))) hq))
/-! ### choose_one -/
def fChoose (A : CA) : Fn := fun ds μ Q _ => ∃ (M : MA) (T : Tm) (s : MS) (p : List Nat) (c a b : Tm) (ar : Ar) (v : Th), ds = [.adr M.m, placeD p, .lst [v.d], arD ar] ∧ MAt A M T μ s ∧ Sz T s ∧ T.at? p = some (.ite c a b) ∧ p.length ≤ 9000 ∧ ∀ μ', MAt A M T μ' (chooseS s p c a b ar v) → Q .non μ'
theorem scChoose : FnScope ["machine", "place", "operands", "around", "thing", "at"] ["machine", "place", "operands", "around"] (defScope sChoose) := ⟨rfl, rfl, rfl, by decide +kernel, rfl, by decide +kernel, by decide +kernel⟩
theorem place_snoc (p : List Nat) (k : Nat) : D.tup ((p.map fun (k : Nat) => D.int (k : Int)) ++ [.int (k : Int)]) = placeD (p ++ [k]) := by
  unfold placeD
  rw [List.map_append]
  rfl
theorem ok_choose {f : Addr} {fd : FuncData} (F : Fun K "choose_one" "choose_one" sChoose f fd) (Tx : Txt K mg TL A) (CMk : Met P w K mg base TL A.CM "make_row" 1 (fMake A)) (CFm : Cal P w K mg base TL "form_at" 1 fFormAt) (CTk : Mak P w K mg base TL A.CT "Task" 1 (fTInit A)) :
    FnOk P w K mg base (L2.CX P w) 3 f fd ["machine", "place", "operands", "around"] (SpD K TL (fChoose A)) := by
  refine fn_ok F scChoose (fun ds μ q R h => ?_) (fun cdv Ar outer s0 H E F0 ds μ q R hr G hf hR => ?_)
  · obtain ⟨M, T, s, p, c, a, b, ar, v, rfl, _⟩ := h
    rfl
  · obtain ⟨M, T, s, p, c, a, b, ar, v, rfl, hM, hs, hat, hpl, hq⟩ := hf
    have hr1 : Room 1 _ := hr.mono (by decide)
    refine ss_set 4 G (jv_ixL (d := v.d) rfl (jv_var 2) jv_int) ?_
    have go : ∀ (z : Bool) (u : Tm) (j : Nat), v = .truth z → (j : Int) = 2 - (if z then 1 else 0) → T.at? (p ++ [j]) = some u → chooseS s p c a b ar v = todo s [.visit (p ++ [j]) u ar] →
        JSs (cxOf (L2.CX P w) P w K mg base ["machine", "place", "operands", "around", "thing", "at"] "choose_one" (defScope sChoose) f cdv Ar outer s0 H E) F0 (defBody sChoose |>.drop 1) ([some (.adr M.m), some (placeD p), some (.lst [v.d]), some (arD ar), some v.d, none] : Rho) μ { nx := fun _ μ' => q .non μ', rt := q } := by
      intro z u j hv hj hu hcs
      subst hv
      refine ss_if0 (JB.is (jb_cmp op_ne rv_neS (jv_ixT (d := .str "truth") rfl (JV.is (jv_var 4) rfl) jv_int) jv_str) rfl) ?_
      have e1 : D.tup ((p.map fun (k : Nat) => D.int (k : Int)) ++ [.int (2 - (if z then 1 else 0))]) = placeD (p ++ [j]) := by rw [← place_snoc, hj]
      refine ss_set 5 G (JV.is (jv_catT (by rw [List.length_map]; simp; omega) (JV.is (jv_var 1) (show placeD p = .tup (p.map fun (k : Nat) => D.int (k : Int)) from rfl)) (jv_tup (ja_cons (jv_sub jv_int (jv_intB Tx.bl (jv_ixT (d := .bl z) rfl (JV.is (jv_var 4) rfl) jv_int))) ja_nil))) e1) ?_
      refine ss_expr (jv_append (jv_fldM (jv_var 0) hM.m Tx.clM Tx.nTasks rfl) hM.t (j_task CTk G hr (by simp) (ja_cons (jv_var 5) (ja_cons (d := u.d)
        (j_call CFm G hr1 ((ja_cons (jv_fldM (jv_var 0) hM.m Tx.clM Tx.nTree rfl) (ja_cons (jv_var 5) ja_nil)).at ⟨T, p ++ [j], u, rfl, hu, by rw [List.length_append, List.length_singleton]; omega, rfl, rfl⟩)) (ja_cons (jv_var 3) ja_nil)))) hM.t (by rw [List.length_reverse, List.length_map]; have := hs.lt; omega)) (ss_nil (hq _ ?_))
      rw [hcs]
      exact hM.addT (.visit (p ++ [j]) u ar)
    have other : v.isTruth = false → chooseS s p c a b ar v = mk s (.ite c a b) p [v] ar →
        JSs (cxOf (L2.CX P w) P w K mg base ["machine", "place", "operands", "around", "thing", "at"] "choose_one" (defScope sChoose) f cdv Ar outer s0 H E) F0 (defBody sChoose |>.drop 1) ([some (.adr M.m), some (placeD p), some (.lst [v.d]), some (arD ar), some v.d, none] : Rho) μ { nx := fun _ μ' => q .non μ', rt := q } := by
      intro hv hcs
      have e1 : (!decide (v.tag = "truth")) = true := by cases v <;> first | rfl | cases hv
      refine ss_ifT (JB.is (jb_cmp op_ne rv_neS (jv_ixT (d := .str v.tag) rfl (JV.is (jv_var 4) v.d_eq) jv_int) jv_str) e1) ?_
      refine ss_exprJ (j_methM CMk G hr1 (jv_var 0) hM.m rfl ((ja_cons jv_str (ja_cons (jv_var 1) (ja_cons (jv_var 2) (ja_cons (jv_var 3) ja_nil)))).at ⟨M, T, s, .ite c a b, p, [v], ar, rfl, hM, hs.lr, hs.lg, fun μ' hM' => ss_retN (hq μ' ?_)⟩))
      rw [hcs]
      exact hM'
    cases v with
    | num i => exact other rfl rfl
    | row i => exact other rfl rfl
    | truth z =>
      cases z with
      | true => exact go true a 1 rfl rfl (Tm.at_snoc p T hat rfl) rfl
      | false => exact go false b 2 rfl rfl (Tm.at_snoc p T hat rfl) rfl
/-! ### call_on -/
def fCallOn (A : CA) : Fn := fun ds μ Q _ => ∃ (M : MA) (T : Tm) (s : MS) (p : List Nat) (l r : Tm) (v1 v2 : Th), ds = [.adr M.m, placeD p, .lst [v1.d, v2.d]] ∧ MAt A M T μ s ∧ Sz T s ∧ v1.lt s.rows.length ∧ ∀ μ', MAt A M T μ' (callS s p l r v1 v2) → Q .non μ'
theorem scCallOn : FnScope ["machine", "place", "operands", "row", "form", "pairs"] ["machine", "place", "operands"] (defScope sCallOn) := ⟨rfl, rfl, rfl, by decide +kernel, rfl, by decide +kernel, by decide +kernel⟩
theorem isFun_row {k : Nat} {rows : List Row} {row : Row} (h : rows[k]? = some row) : isFun (.row k) rows = inS row.fm.word ["fn", "rec"] := by
  show (match rows[k]? with | some row => inS row.fm.word ["fn", "rec"] | none => false) = _
  rw [h]
theorem callS_not {s : MS} {p : List Nat} {l r : Tm} {v1 v2 : Th} (h : isFun v1 s.rows = false) : callS s p l r v1 v2 = mk s (.bin .call l r) p [v1, v2] [] := by
  cases v1 with
  | num i => rfl
  | truth i => rfl
  | row k =>
    unfold callS
    cases e : s.rows[k]? with
    | none => simp only [e]
    | some row =>
      simp only [e]
      rw [isFun_row e] at h
      obtain ⟨fm, pl, ops, ra⟩ := row
      cases fm <;> first | rfl | cases h
theorem callS_fn {s : MS} {p pl : List Nat} {l r t : Tm} {k : Nat} {v2 : Th} {x : Str} {ops : List Th} {ra : Ar} (h : s.rows[k]? = some ⟨.fn x t, pl, ops, ra⟩) : callS s p l r (.row k) v2 = todo s [.visit (pl ++ [0]) t (ra ++ [(x, v2)])] := by
  unfold callS
  simp only [h]
theorem callS_rc {s : MS} {p pl : List Nat} {l r t : Tm} {k : Nat} {v2 : Th} {g x : Str} {ops : List Th} {ra : Ar} (h : s.rows[k]? = some ⟨.rc g x t, pl, ops, ra⟩) : callS s p l r (.row k) v2 = todo s [.visit (pl ++ [0]) t (ra ++ [(g, .row k), (x, v2)])] := by
  unfold callS
  simp only [h]
theorem ok_call_on {f : Addr} {fd : FuncData} (F : Fun K "call_on" "call_on" sCallOn f fd) (Tx : Txt K mg TL A) (CMk : Met P w K mg base TL A.CM "make_row" 1 (fMake A)) (CFm : Cal P w K mg base TL "form_at" 1 fFormAt) (CIs : Cal P w K mg base TL "is_called" 1 fIsCalled)
    (CTk : Mak P w K mg base TL A.CT "Task" 1 (fTInit A)) : FnOk P w K mg base (L2.CX P w) 3 f fd ["machine", "place", "operands"] (SpD K TL (fCallOn A)) := by
  refine fn_ok F scCallOn (fun ds μ q R h => ?_) (fun cdv Ar outer s0 H E F0 ds μ q R hr G hf hR => ?_)
  · obtain ⟨M, T, s, p, l, r, v1, v2, rfl, _⟩ := h
    rfl
  · obtain ⟨M, T, s, p, l, r, v1, v2, rfl, hM, hs, hv1, hq⟩ := hf
    have hr1 : Room 1 _ := hr.mono (by decide)
    refine ss_if (b' := !isFun v1 s.rows) (jb_not (jb_val (j_call CIs G hr1 ((ja_cons (jv_ixL (d := v1.d) rfl (jv_var 2) jv_int) (ja_cons (jv_fldM (jv_var 0) hM.m Tx.clM Tx.nRows rfl) ja_nil)).at ⟨v1, M.r, s.rows, rfl, hM.r, hv1, rfl, rfl⟩)))) (fun e => ?_) (fun e => ?_)
    · have hfun : isFun v1 s.rows = false := by simpa using e
      refine ss_exprJ (j_methM CMk G hr1 (jv_var 0) hM.m rfl ((ja_cons jv_str (ja_cons (jv_var 1) (ja_cons (jv_var 2) (ja_cons (jv_lst ja_nil) ja_nil)))).at ⟨M, T, s, .bin .call l r, p, [v1, v2], [], rfl, hM, hs.lr, hs.lg, fun μ' hM' => ss_retN (hq μ' ?_)⟩))
      rw [callS_not hfun]
      exact hM'
    · have hfun : isFun v1 s.rows = true := by simpa using e
      refine ss_nil ?_
      cases v1 with
      | num i => cases hfun
      | truth i => cases hfun
      | row k =>
        have hk : k < s.rows.length := hv1
        obtain ⟨row, hrow⟩ : ∃ row, s.rows[k]? = some row := ⟨_, List.getElem?_eq_getElem hk⟩
        have ro := hs.rows k row hrow
        rw [isFun_row hrow] at hfun
        refine ss_set 3 G (jv_ixM (d := row.d) (jv_fldM (jv_var 0) hM.m Tx.clM Tx.nRows rfl) (jv_ixT (d := .int (k : Int)) rfl (jv_ixL (d := .tup [.str "row", .int (k : Int)]) rfl (jv_var 2) jv_int) jv_int) hM.r (atI_nat (by rw [List.getElem?_map, hrow]; rfl))) ?_
        have rowT : ∀ {X : Cx} {F0 : Hp} {ρ : Rho} {μ : Mu} {e : Expr}, JV X F0 e ρ μ row.d μ → JV X F0 e ρ μ (.tup [.str row.fm.word, placeD row.place, .lst (row.ops.map Th.d), arD row.ar]) μ := fun h => h
        refine ss_set 4 G (d := row.fm.d) (j_call CFm G hr1 ((ja_cons (jv_fldM (jv_var 0) hM.m Tx.clM Tx.nTree rfl) (ja_cons (jv_ixT (d := placeD row.place) rfl (rowT (jv_var 3)) jv_int) ja_nil)).at ⟨T, row.place, row.fm, rfl, ro.at_, ro.szp, rfl, rfl⟩)) ?_
        obtain ⟨fm, pl, ops, ra⟩ := row
        have hpl : pl.length ≤ 10000 := ro.szp
        have hra : ra.length ≤ 10000 := ro.sza
        have e1 : ∀ j : Nat, D.tup ((pl.map fun (k : Nat) => D.int (k : Int)) ++ [.int (j : Int)]) = placeD (pl ++ [j]) := place_snoc pl
        cases fm with
        | fn x t =>
          refine ss_set 5 G (d := .lst [.tup [.str x, v2.d]]) (jv_lst (ja_cons (jv_tup (ja_cons (jv_ixT (d := .str x) rfl (JV.is (jv_var 4) (Tm.d_eq _)) jv_int) (ja_cons (jv_ixL (d := v2.d) rfl (jv_var 2) jv_int) ja_nil))) ja_nil)) ?_
          refine ss_if0 (JB.is (jb_cmp op_eq rv_eqS (jv_ixT (d := .str "fn") rfl (rowT (jv_var 3)) jv_int) jv_str) rfl) ?_
          have e2 : D.lst (ra.map pairD ++ [.tup [.str x, v2.d]]) = arD (ra ++ [(x, v2)]) := by unfold arD; rw [List.map_append]; rfl
          refine ss_expr (jv_append (jv_fldM (jv_var 0) hM.m Tx.clM Tx.nTasks rfl) hM.t (j_task CTk G hr (by simp)
            (ja_cons (JV.is (jv_catT (by rw [List.length_map]; simp; omega) (jv_ixT (d := .tup (pl.map fun (k : Nat) => D.int (k : Int))) rfl (rowT (jv_var 3)) jv_int) (jv_tup (ja_cons jv_int ja_nil))) (e1 0))
            (ja_cons (jv_ixT (d := t.d) rfl (jv_ixT (d := .tup [t.d]) rfl (JV.is (jv_var 4) (Tm.d_eq _)) jv_int) jv_int)
            (ja_cons (JV.is (jv_catL (by rw [List.length_map]; simp; omega) (jv_ixT (d := .lst (ra.map pairD)) rfl (rowT (jv_var 3)) jv_int) (jv_var 5)) e2) ja_nil)))) hM.t (by rw [List.length_reverse, List.length_map]; have := hs.lt; omega)) (ss_nil (hq _ ?_))
          rw [callS_fn hrow]
          exact hM.addT (.visit (pl ++ [0]) t (ra ++ [(x, v2)]))
        | rc g x t =>
          refine ss_set 5 G (d := .lst [.tup [.tup [.str g, .str x], v2.d]]) (jv_lst (ja_cons (jv_tup (ja_cons (jv_ixT (d := .tup [.str g, .str x]) rfl (JV.is (jv_var 4) (Tm.d_eq _)) jv_int) (ja_cons (jv_ixL (d := v2.d) rfl (jv_var 2) jv_int) ja_nil))) ja_nil)) ?_
          refine ss_ifT (JB.is (jb_cmp op_eq rv_eqS (jv_ixT (d := .str "rec") rfl (rowT (jv_var 3)) jv_int) jv_str) rfl) ?_
          refine ss_set 5 G (d := .lst [.tup [.str g, Th.d (.row k)], .tup [.str x, v2.d]]) (jv_lst (ja_cons (jv_tup (ja_cons (jv_ixT (d := .str g) rfl (jv_ixT (d := .tup [.str g, .str x]) rfl (JV.is (jv_var 4) (Tm.d_eq _)) jv_int) jv_int) (ja_cons (jv_ixL (d := Th.d (.row k)) rfl (jv_var 2) jv_int) ja_nil)))
            (ja_cons (jv_tup (ja_cons (jv_ixT (d := .str x) rfl (jv_ixT (d := .tup [.str g, .str x]) rfl (JV.is (jv_var 4) (Tm.d_eq _)) jv_int) jv_int) (ja_cons (jv_ixL (d := v2.d) rfl (jv_var 2) jv_int) ja_nil))) ja_nil))) (ss_nil ?_)
          have e2 : D.lst (ra.map pairD ++ [.tup [.str g, Th.d (.row k)], .tup [.str x, v2.d]]) = arD (ra ++ [(g, .row k), (x, v2)]) := by unfold arD; rw [List.map_append]; rfl
          refine ss_expr (jv_append (jv_fldM (jv_var 0) hM.m Tx.clM Tx.nTasks rfl) hM.t (j_task CTk G hr (by simp)
            (ja_cons (JV.is (jv_catT (by rw [List.length_map]; simp; omega) (jv_ixT (d := .tup (pl.map fun (k : Nat) => D.int (k : Int))) rfl (rowT (jv_var 3)) jv_int) (jv_tup (ja_cons jv_int ja_nil))) (e1 0))
            (ja_cons (jv_ixT (d := t.d) rfl (jv_ixT (d := .tup [t.d]) rfl (JV.is (jv_var 4) (Tm.d_eq _)) jv_int) jv_int)
            (ja_cons (JV.is (jv_catL (by rw [List.length_map]; simp; omega) (jv_ixT (d := .lst (ra.map pairD)) rfl (rowT (jv_var 3)) jv_int) (jv_var 5)) e2) ja_nil)))) hM.t (by rw [List.length_reverse, List.length_map]; have := hs.lt; omega)) (ss_nil (hq _ ?_))
          rw [callS_rc hrow]
          exact hM.addT (.visit (pl ++ [0]) t (ra ++ [(g, .row k), (x, v2)]))
        | bin b l r => cases b <;> cases hfun
        | _ => cases hfun
/-! ### join_two -/
def fJoin (A : CA) : Fn := fun ds μ Q _ => ∃ (M : MA) (T : Tm) (s : MS) (p : List Nat) (b : BW) (l r : Tm) (v1 v2 : Th), ds = [.adr M.m, .str b.w, placeD p, .lst [v1.d, v2.d]] ∧ MAt A M T μ s ∧ Sz T s ∧ v1.lt s.rows.length ∧ ∀ μ', MAt A M T μ' (joinS s p b l r v1 v2) → Q .non μ'
theorem scJoin : FnScope ["machine", "word", "place", "operands", "one", "other"] ["machine", "word", "place", "operands"] (defScope sJoin) := ⟨rfl, rfl, rfl, by decide +kernel, rfl, by decide +kernel, by decide +kernel⟩
theorem joinS_not {s : MS} {p : List Nat} {b : BW} {l r : Tm} {v1 v2 : Th} (hb : b ≠ .call) (h : (v1.isNum && v2.isNum) = false) : joinS s p b l r v1 v2 = mk s (.bin b l r) p [v1, v2] [] := by
  unfold joinS
  rw [if_neg hb]
  cases v1 <;> cases v2 <;> first | rfl | cases h
theorem ok_join {f : Addr} {fd : FuncData} (F : Fun K "join_two" "join_two" sJoin f fd) (Tx : Txt K mg TL A) (CMk : Met P w K mg base TL A.CM "make_row" 1 (fMake A)) (CCl : Cal P w K mg base TL "call_on" 3 (fCallOn A)) (CRe : Cal P w K mg base TL "reckoned" 1 fReck) :
    FnOk P w K mg base (L2.CX P w) 4 f fd ["machine", "word", "place", "operands"] (SpD K TL (fJoin A)) := by
  refine fn_ok F scJoin (fun ds μ q R h => ?_) (fun cdv Ar outer s0 H E F0 ds μ q R hr G hf hR => ?_)
  · obtain ⟨M, T, s, p, b, l, r, v1, v2, rfl, _⟩ := h
    rfl
  · obtain ⟨M, T, s, p, b, l, r, v1, v2, rfl, hM, hs, hv1, hq⟩ := hf
    have hr1 : Room 1 _ := hr.mono (by decide)
    refine ss_asg (jv_var 3) (jg_lst G (jgs_cons (jg_name 4 G (jgs_cons (jg_name 5 G (jgs_nil ?_))))))
    by_cases hb : b = .call
    · subst hb
      have eJ : joinS s p .call l r v1 v2 = callS s p l r v1 v2 := if_pos rfl
      refine ss_ifT (JB.is (jb_cmp op_eq rv_eqS (JV.is (jv_var 1) (show D.str BW.call.w = .str "call" from rfl)) jv_str) rfl) ?_
      refine ss_exprJ (j_call CCl G hr ((ja_cons (jv_var 0) (ja_cons (jv_var 2) (ja_cons (jv_var 3) ja_nil))).at ⟨M, T, s, p, l, r, v1, v2, rfl, hM, hs, hv1, fun μ' hM' => ss_nil (ss_nil (hq μ' ?_))⟩))
      rw [eJ]
      exact hM'
    · have e0 : decide (b.w = "call") = false := by cases b <;> first | rfl | exact absurd rfl hb
      refine ss_ifF (JB.is (jb_cmp op_eq rv_eqS (jv_var 1) jv_str) e0) ?_
      refine ss_if (JB.is (jb_w (jw_and (jb_cmp op_eq rv_eqS (jv_ixT (d := .str v1.tag) rfl (JV.is (jv_var 4) v1.d_eq) jv_int) jv_str) fun _ => jw_and1 (jb_cmp op_eq rv_eqS (jv_ixT (d := .str v2.tag) rfl (JV.is (jv_var 5) v2.d_eq) jv_int) jv_str))) (by rw [Th.tag_num, Th.tag_num])) (fun e => ?_) (fun e => ?_)
      · cases v1 with
        | truth i => cases e
        | row i => cases e
        | num i =>
          cases v2 with
          | truth j => cases e
          | row j => cases e
          | num j =>
            have eJ : joinS s p b l r (.num i) (.num j) = push s (reck b i j) := if_neg hb
            refine ss_expr (jv_append (jv_fldM (jv_var 0) hM.m Tx.clM Tx.nThings rfl) hM.g (d := (reck b i j).d) (j_call CRe G hr1 ((ja_cons (jv_var 1) (ja_cons (jv_ixT (d := .int i) rfl (JV.is (jv_var 4) rfl) jv_int) (ja_cons (jv_ixT (d := .int j) rfl (JV.is (jv_var 5) rfl) jv_int) ja_nil))).at ⟨b, i, j, rfl, hb, rfl, rfl⟩)) hM.g (by rw [List.length_reverse, List.length_map]; have := hs.lg; omega)) (ss_nil (ss_nil (ss_nil (hq _ ?_))))
            rw [eJ]
            exact hM.addG _
      · refine ss_exprJ (j_methM CMk G hr1 (jv_var 0) hM.m rfl ((ja_cons (jv_var 1) (ja_cons (jv_var 2) (ja_cons (jv_var 3) (ja_cons (jv_lst ja_nil) ja_nil)))).at ⟨M, T, s, .bin b l r, p, [v1, v2], [], rfl, hM, hs.lr, hs.lg, fun μ' hM' => ss_nil (ss_nil (ss_nil (hq μ' ?_)))⟩))
        rw [joinS_not hb e]
        exact hM'
end
end Gs

/-! The walk of the machine, its last third. -/
namespace Gs
open PySem PySem.Spec PyProof.Rows L2
section
variable {P : Program} {w : World} {K : PySem.W.Frag} {mg : Str → Option Value} {base : Heap} {TL : Addr} {A : CA}
/-! ### come_to -/
def fCome (A : CA) : Fn := fun ds μ Q R => ∃ (M : MA) (T : Tm) (s : MS) (p : List Nat) (t : Tm) (ar : Ar), ds = [.adr M.m, placeD p, t.d, arD ar] ∧ MAt A M T μ s ∧ Sz T s ∧ s.tasks.length ≤ 9000 ∧ p.length ≤ 9000 ∧ ar.length ≤ 9000 ∧ (t.isGap = false ∧ 500 < s.steps + 1 → R) ∧
  (¬ (t.isGap = false ∧ 500 < s.steps + 1) → ∀ μ', MAt A M T μ' (come { s with steps := s.steps + t.cost } p t ar) → Q .non μ')
theorem scCome : FnScope ["machine", "place", "form", "around", "word", "note", "parts"] ["machine", "place", "form", "around"] (defScope sCome) := ⟨rfl, rfl, rfl, by decide +kernel, rfl, by decide +kernel, by decide +kernel⟩
structure CTx (P : Program) (w : World) (K : PySem.W.Frag) (mg : Str → Option Value) (base : Heap) (TL : Addr) (A : CA) : Prop where
  tx : Txt K mg TL A
  mr : Met P w K mg base TL A.CM "make_row" 1 (fMake A)
  cnt : Met P w K mg base TL A.CM "count_step" 1 (fCount A)
  fm : Cal P w K mg base TL "form_at" 1 fFormAt
  lk : Cal P w K mg base TL "look_up" 2 (fLookUp A)
  tk : Mak P w K mg base TL A.CT "Task" 1 (fTInit A)
  bd : Mak P w K mg base TL A.CB "Bind" 1 (fTInit A)
  ch : Mak P w K mg base TL A.CC "Choose" 1 (fTInit A)
  jn : Mak P w K mg base TL A.CJ "Join" 1 (fTInit A)
theorem come_rest (C : CTx P w K mg base TL A) {f : Addr} {cdv : Value} {Ar' : Around} {outer : List Env} {s0 : Shared} {H : Hp} {E : XK} {F0 : Hp} {μ : Mu} {q : D → Mu → Prop} (hr : Room 2 (Ar'.deeper (envOfC "come_to" (defScope sCome) s0.heap.objs.size f cdv)))
    (G : GX (cxOf (L2.CX P w) P w K mg base ["machine", "place", "form", "around", "word", "note", "parts"] "come_to" (defScope sCome) f cdv Ar' outer s0 H E) E)
    {M : MA} {T : Tm} {s : MS} {p : List Nat} {t : Tm} {ar : Ar} (hM : MAt A M T μ s) (hs : Sz T s) (hlt : s.tasks.length ≤ 9000) (hpl : p.length ≤ 9000) (har : ar.length ≤ 9000) (hq : ∀ μ', MAt A M T μ' (come s p t ar) → q .non μ') :
    JSs (cxOf (L2.CX P w) P w K mg base ["machine", "place", "form", "around", "word", "note", "parts"] "come_to" (defScope sCome) f cdv Ar' outer s0 H E) F0 ((defBody sCome).drop 2) ([some (.adr M.m), some (placeD p), some t.d, some (arD ar), some (.str t.word), some t.note, some (.tup (t.parts.map Tm.d))] : Rho) μ { nx := fun _ μ' => q .non μ', rt := q } := by
  have Tx := C.tx
  have hr1 : Room 1 (cxOf (L2.CX P w) P w K mg base ["machine", "place", "form", "around", "word", "note", "parts"] "come_to" (defScope sCome) f cdv Ar' outer s0 H E).A := hr.mono (by decide)
  have e1 : ∀ j : Nat, D.tup ((p.map fun (k : Nat) => D.int (k : Int)) ++ [.int (j : Int)]) = placeD (p ++ [j]) := place_snoc p
  have pT : placeD p = .tup (p.map fun (k : Nat) => D.int (k : Int)) := rfl
  have hcat : ∀ x : D, (p.map fun (k : Nat) => D.int (k : Int)).length + [x].length ≤ 100000 := fun x => by rw [List.length_map]; simp; omega
  cases t with
  | gap =>
    refine ss_ifF (JB.is (jb_cmp op_in_seq (rv_inT (ts := ["num", "truth"])) (JV.is (jv_var 4) (show D.str (Tm.gap).word = .str "gap" from rfl)) (jv_tup (ja_cons jv_str (ja_cons jv_str ja_nil)))) rfl) ?_
    refine ss_ifT (JB.is (jb_cmp op_in_seq (rv_inT (ts := ["gap", "fn", "rec"])) (JV.is (jv_var 4) (show D.str (Tm.gap).word = .str "gap" from rfl)) (jv_tup (ja_cons jv_str (ja_cons jv_str (ja_cons jv_str ja_nil))))) rfl) ?_
    exact ss_exprJ (j_methM C.mr G hr1 (jv_var 0) hM.m rfl ((ja_cons (jv_var 4) (ja_cons (jv_var 1) (ja_cons (jv_lst ja_nil) (ja_cons (jv_var 3) ja_nil)))).at ⟨M, T, s, .gap, p, [], ar, rfl, hM, hs.lr, hs.lg, fun μ' hM' => ss_nil (ss_nil (ss_nil (hq μ' hM')))⟩))
  | fn x t =>
    refine ss_ifF (JB.is (jb_cmp op_in_seq (rv_inT (ts := ["num", "truth"])) (JV.is (jv_var 4) (show D.str (Tm.fn x t).word = .str "fn" from rfl)) (jv_tup (ja_cons jv_str (ja_cons jv_str ja_nil)))) rfl) ?_
    refine ss_ifT (JB.is (jb_cmp op_in_seq (rv_inT (ts := ["gap", "fn", "rec"])) (JV.is (jv_var 4) (show D.str (Tm.fn x t).word = .str "fn" from rfl)) (jv_tup (ja_cons jv_str (ja_cons jv_str (ja_cons jv_str ja_nil))))) rfl) ?_
    exact ss_exprJ (j_methM C.mr G hr1 (jv_var 0) hM.m rfl ((ja_cons (jv_var 4) (ja_cons (jv_var 1) (ja_cons (jv_lst ja_nil) (ja_cons (jv_var 3) ja_nil)))).at ⟨M, T, s, .fn x t, p, [], ar, rfl, hM, hs.lr, hs.lg, fun μ' hM' => ss_nil (ss_nil (ss_nil (hq μ' hM')))⟩))
  | rc g x t =>
    refine ss_ifF (JB.is (jb_cmp op_in_seq (rv_inT (ts := ["num", "truth"])) (JV.is (jv_var 4) (show D.str (Tm.rc g x t).word = .str "rec" from rfl)) (jv_tup (ja_cons jv_str (ja_cons jv_str ja_nil)))) rfl) ?_
    refine ss_ifT (JB.is (jb_cmp op_in_seq (rv_inT (ts := ["gap", "fn", "rec"])) (JV.is (jv_var 4) (show D.str (Tm.rc g x t).word = .str "rec" from rfl)) (jv_tup (ja_cons jv_str (ja_cons jv_str (ja_cons jv_str ja_nil))))) rfl) ?_
    exact ss_exprJ (j_methM C.mr G hr1 (jv_var 0) hM.m rfl ((ja_cons (jv_var 4) (ja_cons (jv_var 1) (ja_cons (jv_lst ja_nil) (ja_cons (jv_var 3) ja_nil)))).at ⟨M, T, s, .rc g x t, p, [], ar, rfl, hM, hs.lr, hs.lg, fun μ' hM' => ss_nil (ss_nil (ss_nil (hq μ' hM')))⟩))
  | num n =>
    refine ss_ifT (JB.is (jb_cmp op_in_seq (rv_inT (ts := ["num", "truth"])) (JV.is (jv_var 4) (show D.str (Tm.num n).word = .str "num" from rfl)) (jv_tup (ja_cons jv_str (ja_cons jv_str ja_nil)))) rfl) ?_
    exact ss_expr (jv_append (jv_fldM (jv_var 0) hM.m Tx.clM Tx.nThings rfl) hM.g (d := (Th.num n).d) (jv_tup (ja_cons (jv_var 4) (ja_cons (jv_var 5) ja_nil))) hM.g (by rw [List.length_reverse, List.length_map]; have := hs.lg; omega)) (ss_nil (ss_nil (hq _ (hM.addG _))))
  | truth n =>
    refine ss_ifT (JB.is (jb_cmp op_in_seq (rv_inT (ts := ["num", "truth"])) (JV.is (jv_var 4) (show D.str (Tm.truth n).word = .str "truth" from rfl)) (jv_tup (ja_cons jv_str (ja_cons jv_str ja_nil)))) rfl) ?_
    exact ss_expr (jv_append (jv_fldM (jv_var 0) hM.m Tx.clM Tx.nThings rfl) hM.g (d := (Th.truth n).d) (jv_tup (ja_cons (jv_var 4) (ja_cons (jv_var 5) ja_nil))) hM.g (by rw [List.length_reverse, List.length_map]; have := hs.lg; omega)) (ss_nil (ss_nil (hq _ (hM.addG _))))
  | odd x =>
    have hw : D.str (Tm.odd x).word = .str "odd" := rfl
    refine ss_ifF (JB.is (jb_cmp op_in_seq (rv_inT (ts := ["num", "truth"])) (JV.is (jv_var 4) hw) (jv_tup (ja_cons jv_str (ja_cons jv_str ja_nil)))) rfl) ?_
    refine ss_ifF (JB.is (jb_cmp op_in_seq (rv_inT (ts := ["gap", "fn", "rec"])) (JV.is (jv_var 4) hw) (jv_tup (ja_cons jv_str (ja_cons jv_str (ja_cons jv_str ja_nil))))) rfl) ?_
    refine ss_ifT (JB.is (jb_cmp op_eq rv_eqS (JV.is (jv_var 4) hw) jv_str) rfl) ?_
    exact ss_exprJ (j_methM C.mr G hr1 (jv_var 0) hM.m rfl ((ja_cons (jv_var 4) (ja_cons (jv_var 1) (ja_cons (jv_lst ja_nil) (ja_cons (jv_lst ja_nil) ja_nil)))).at ⟨M, T, s, .odd x, p, [], [], rfl, hM, hs.lr, hs.lg, fun μ' hM' => ss_nil (ss_nil (ss_nil (ss_nil (hq μ' hM'))))⟩))
  | name x =>
    have hw : D.str (Tm.name x).word = .str "name" := rfl
    refine ss_ifF (JB.is (jb_cmp op_in_seq (rv_inT (ts := ["num", "truth"])) (JV.is (jv_var 4) hw) (jv_tup (ja_cons jv_str (ja_cons jv_str ja_nil)))) rfl) ?_
    refine ss_ifF (JB.is (jb_cmp op_in_seq (rv_inT (ts := ["gap", "fn", "rec"])) (JV.is (jv_var 4) hw) (jv_tup (ja_cons jv_str (ja_cons jv_str (ja_cons jv_str ja_nil))))) rfl) ?_
    refine ss_ifF (JB.is (jb_cmp op_eq rv_eqS (JV.is (jv_var 4) hw) jv_str) rfl) ?_
    refine ss_ifT (JB.is (jb_cmp op_eq rv_eqS (JV.is (jv_var 4) hw) jv_str) rfl) ?_
    exact ss_exprJ (j_call C.lk G hr ((ja_cons (jv_var 0) (ja_cons (jv_var 1) (ja_cons (jv_var 5) (ja_cons (jv_var 3) ja_nil)))).at ⟨M, T, s, p, x, ar, rfl, hM, hs.lr, hs.lg, by omega, fun μ' hM' => ss_nil (ss_nil (ss_nil (ss_nil (ss_nil (hq μ' hM')))))⟩))
  | lt x a b =>
    have hw : D.str (Tm.lt x a b).word = .str "let" := rfl
    refine ss_ifF (JB.is (jb_cmp op_in_seq (rv_inT (ts := ["num", "truth"])) (JV.is (jv_var 4) hw) (jv_tup (ja_cons jv_str (ja_cons jv_str ja_nil)))) rfl) ?_
    refine ss_ifF (JB.is (jb_cmp op_in_seq (rv_inT (ts := ["gap", "fn", "rec"])) (JV.is (jv_var 4) hw) (jv_tup (ja_cons jv_str (ja_cons jv_str (ja_cons jv_str ja_nil))))) rfl) ?_
    refine ss_ifF (JB.is (jb_cmp op_eq rv_eqS (JV.is (jv_var 4) hw) jv_str) rfl) ?_
    refine ss_ifF (JB.is (jb_cmp op_eq rv_eqS (JV.is (jv_var 4) hw) jv_str) rfl) ?_
    refine ss_ifT (JB.is (jb_cmp op_eq rv_eqS (JV.is (jv_var 4) hw) jv_str) rfl) ?_
    refine ss_expr (jv_append (jv_fldM (jv_var 0) hM.m Tx.clM Tx.nTasks rfl) hM.t (j_task C.bd G hr (by simp) (ja_cons (jv_var 1) (ja_cons (jv_var 2) (ja_cons (jv_var 3) ja_nil)))) hM.t (by rw [List.length_reverse, List.length_map]; omega)) ?_
    have hM2 := hM.addT (.bind p x a b ar)
    refine ss_expr (jv_append (jv_fldM (jv_var 0) hM2.m Tx.clM Tx.nTasks rfl) hM2.t (j_task C.tk G hr (by simp) (ja_cons (JV.is (jv_catT (hcat _) (JV.is (jv_var 1) pT) (jv_tup (ja_cons jv_int ja_nil))) (e1 0)) (ja_cons (jv_ixT (d := a.d) rfl (JV.is (jv_var 6) rfl) jv_int) (ja_cons (jv_var 3) ja_nil)))) hM2.t (by rw [List.length_reverse, List.length_map]; show (s.tasks.length + 1) ≤ _; omega)) ?_
    exact ss_nil (ss_nil (ss_nil (ss_nil (ss_nil (ss_nil (hq _ (hM2.addT (.visit (p ++ [0]) a ar))))))))
  | ite c a b =>
    have hw : D.str (Tm.ite c a b).word = .str "if" := rfl
    refine ss_ifF (JB.is (jb_cmp op_in_seq (rv_inT (ts := ["num", "truth"])) (JV.is (jv_var 4) hw) (jv_tup (ja_cons jv_str (ja_cons jv_str ja_nil)))) rfl) ?_
    refine ss_ifF (JB.is (jb_cmp op_in_seq (rv_inT (ts := ["gap", "fn", "rec"])) (JV.is (jv_var 4) hw) (jv_tup (ja_cons jv_str (ja_cons jv_str (ja_cons jv_str ja_nil))))) rfl) ?_
    refine ss_ifF (JB.is (jb_cmp op_eq rv_eqS (JV.is (jv_var 4) hw) jv_str) rfl) ?_
    refine ss_ifF (JB.is (jb_cmp op_eq rv_eqS (JV.is (jv_var 4) hw) jv_str) rfl) ?_
    refine ss_ifF (JB.is (jb_cmp op_eq rv_eqS (JV.is (jv_var 4) hw) jv_str) rfl) ?_
    refine ss_ifT (JB.is (jb_cmp op_eq rv_eqS (JV.is (jv_var 4) hw) jv_str) rfl) ?_
    refine ss_expr (jv_append (jv_fldM (jv_var 0) hM.m Tx.clM Tx.nTasks rfl) hM.t (j_task C.ch G hr (by simp) (ja_cons (jv_var 1) (ja_cons (jv_var 2) (ja_cons (jv_var 3) ja_nil)))) hM.t (by rw [List.length_reverse, List.length_map]; omega)) ?_
    have hM2 := hM.addT (.choose p c a b ar)
    refine ss_expr (jv_append (jv_fldM (jv_var 0) hM2.m Tx.clM Tx.nTasks rfl) hM2.t (j_task C.tk G hr (by simp) (ja_cons (JV.is (jv_catT (hcat _) (JV.is (jv_var 1) pT) (jv_tup (ja_cons jv_int ja_nil))) (e1 0)) (ja_cons (jv_ixT (d := c.d) rfl (JV.is (jv_var 6) rfl) jv_int) (ja_cons (jv_var 3) ja_nil)))) hM2.t (by rw [List.length_reverse, List.length_map]; show (s.tasks.length + 1) ≤ _; omega)) ?_
    exact ss_nil (ss_nil (ss_nil (ss_nil (ss_nil (ss_nil (ss_nil (hq _ (hM2.addT (.visit (p ++ [0]) c ar)))))))))
  | bin b l r =>
    have hn : inS b.w ["num", "truth"] = false ∧ inS b.w ["gap", "fn", "rec"] = false ∧ decide (b.w = "odd") = false ∧ decide (b.w = "name") = false ∧ decide (b.w = "let") = false ∧ decide (b.w = "if") = false := by cases b <;> exact ⟨rfl, rfl, rfl, rfl, rfl, rfl⟩
    obtain ⟨n1, n2, n3, n4, n5, n6⟩ := hn
    have hw : D.str (Tm.bin b l r).word = .str b.w := rfl
    refine ss_ifF (JB.is (jb_cmp op_in_seq (rv_inT (ts := ["num", "truth"])) (JV.is (jv_var 4) hw) (jv_tup (ja_cons jv_str (ja_cons jv_str ja_nil)))) n1) ?_
    refine ss_ifF (JB.is (jb_cmp op_in_seq (rv_inT (ts := ["gap", "fn", "rec"])) (JV.is (jv_var 4) hw) (jv_tup (ja_cons jv_str (ja_cons jv_str (ja_cons jv_str ja_nil))))) n2) ?_
    refine ss_ifF (JB.is (jb_cmp op_eq rv_eqS (JV.is (jv_var 4) hw) jv_str) n3) ?_
    refine ss_ifF (JB.is (jb_cmp op_eq rv_eqS (JV.is (jv_var 4) hw) jv_str) n4) ?_
    refine ss_ifF (JB.is (jb_cmp op_eq rv_eqS (JV.is (jv_var 4) hw) jv_str) n5) ?_
    refine ss_ifF (JB.is (jb_cmp op_eq rv_eqS (JV.is (jv_var 4) hw) jv_str) n6) ?_
    refine ss_expr (jv_append (jv_fldM (jv_var 0) hM.m Tx.clM Tx.nTasks rfl) hM.t (j_task C.jn G hr (by simp) (ja_cons (jv_var 1) (ja_cons (jv_var 2) (ja_cons (jv_var 3) ja_nil)))) hM.t (by rw [List.length_reverse, List.length_map]; omega)) ?_
    have hM2 := hM.addT (.join p b l r ar)
    refine ss_expr (jv_append (jv_fldM (jv_var 0) hM2.m Tx.clM Tx.nTasks rfl) hM2.t (j_task C.tk G hr (by simp) (ja_cons (JV.is (jv_catT (hcat _) (JV.is (jv_var 1) pT) (jv_tup (ja_cons jv_int ja_nil))) (e1 1)) (ja_cons (jv_ixT (d := r.d) rfl (JV.is (jv_var 6) rfl) jv_int) (ja_cons (jv_var 3) ja_nil)))) hM2.t (by rw [List.length_reverse, List.length_map]; show (s.tasks.length + 1) ≤ _; omega)) ?_
    have hM3 := hM2.addT (.visit (p ++ [1]) r ar)
    refine ss_expr (jv_append (jv_fldM (jv_var 0) hM3.m Tx.clM Tx.nTasks rfl) hM3.t (j_task C.tk G hr (by simp) (ja_cons (JV.is (jv_catT (hcat _) (JV.is (jv_var 1) pT) (jv_tup (ja_cons jv_int ja_nil))) (e1 0)) (ja_cons (jv_ixT (d := l.d) rfl (JV.is (jv_var 6) rfl) jv_int) (ja_cons (jv_var 3) ja_nil)))) hM3.t (by rw [List.length_reverse, List.length_map]; show (s.tasks.length + 1 + 1) ≤ _; omega)) ?_
    exact ss_nil (ss_nil (ss_nil (ss_nil (ss_nil (ss_nil (ss_nil (hq _ (hM3.addT (.visit (p ++ [0]) l ar)))))))))
theorem ok_come {f : Addr} {fd : FuncData} (F : Fun K "come_to" "come_to" sCome f fd) (C : CTx P w K mg base TL A) : FnOk P w K mg base (L2.CX P w) 3 f fd ["machine", "place", "form", "around"] (SpD K TL (fCome A)) := by
  refine fn_ok F scCome (fun ds μ q R h => ?_) (fun cdv Ar' outer s0 H E F0 ds μ q R hr G hf hR => ?_)
  · obtain ⟨M, T, s, p, t, ar, rfl, _⟩ := h
    rfl
  · obtain ⟨M, T, s, p, t, ar, rfl, hM, hs, hlt, hpl, har, hlong, hq⟩ := hf
    have hr1 : Room 1 (Ar'.deeper (envOfC "come_to" (defScope sCome) s0.heap.objs.size f cdv)) := hr.mono (by decide)
    refine ss_asg (JV.is (jv_var 2) t.d_eq) (jg_tup G (jgs_cons (jg_name 4 G (jgs_cons (jg_name 5 G (jgs_cons (jg_name 6 G (jgs_nil ?_))))))))
    have ew : (!decide (t.word = "gap")) = !t.isGap := by
      cases t with
      | bin b l r => cases b <;> rfl
      | _ => rfl
    refine ss_if (b' := !t.isGap) (JB.is (jb_cmp op_ne rv_neS (jv_var 4) jv_str) ew) (fun e => ?_) (fun e => ?_)
    · have hg : t.isGap = false := by simpa using e
      have hc : t.cost = 1 := by unfold Tm.cost; rw [hg]; rfl
      refine ss_exprJ (j_methM0 C.cnt G hr1 (jv_var 0) hM.m rfl ⟨M, T, s, rfl, hM, fun h => hR (hlong ⟨hg, h⟩), fun h μ' hM' => ss_nil ?_⟩)
      refine come_rest C hr G hM' ⟨hs.rows, hs.lr, hs.lt, hs.lg⟩ hlt hpl har fun μ'' hM'' => hq (fun z => h z.2) μ'' ?_
      rw [hc]
      exact hM''
    · have hg : t.isGap = true := by simpa using e
      have hc : t.cost = 0 := by unfold Tm.cost; rw [hg]; rfl
      refine ss_nil (come_rest C hr G hM hs hlt hpl har fun μ'' hM'' => hq (fun z => by rw [hg] at z; cases z.1) μ'' ?_)
      rw [hc]
      exact hM''
end
end Gs

/-! The walk of the machine: the tasks' acts, run_off, run. -/
namespace Gs
open PySem PySem.Spec PyProof.Rows L2
theorem meas_tasks (s : MS) : s.tasks.length ≤ meas s := by
  unfold meas
  have : ∀ l : List Tk, l.length ≤ (l.map Tk.wt).sum := by
    intro l
    induction l with
    | nil => exact Nat.le_refl _
    | cons t r ih =>
      rw [List.length_cons, List.map_cons, List.sum_cons]
      have : 1 ≤ t.wt := by cases t <;> simp [Tk.wt]
      omega
  have := this s.tasks
  omega
theorem sz_of {T : Tm} {n : Nat} {s : MS} {t : Tk} {r : List Tk} (h : Ok T n s) (hn : n ≤ 9000) (ht : s.tasks = t :: r) (hl : s.tasks.length ≤ 8000) : Sz T { s with tasks := r } := by
  refine ⟨fun k row e => (h.rows k row e).mono (by omega), Nat.le_trans h.szr (by omega), ?_, Nat.le_trans h.szt (by omega)⟩
  rw [ht, List.length_cons] at hl
  show r.length ≤ 10000
  omega
section
variable {P : Program} {w : World} {K : PySem.W.Frag} {mg : Str → Option Value} {base : Heap} {TL : Addr} {A : CA}
def fAct (A : CA) (κ : Tk → Bool) : Fn := fun ds μ Q R => ∃ (M : MA) (T : Tm) (n : Nat) (s : MS) (t : Tk) (r : List Tk), ds = [t.d A, .adr M.m] ∧ κ t = true ∧ s.tasks = t :: r ∧ MAt A M T μ { s with tasks := r } ∧ Ok T n s ∧ n ≤ 9000 ∧ s.tasks.length ≤ 8000 ∧
  (step s = .long → R) ∧ ∀ s' μ', step s = .go s' → MAt A M T μ' s' → Q .non μ'
def kV : Tk → Bool
  | .visit _ _ _ => true
  | _ => false
def kB : Tk → Bool
  | .bind _ _ _ _ _ => true
  | _ => false
def kC : Tk → Bool
  | .choose _ _ _ _ _ => true
  | _ => false
def kJ : Tk → Bool
  | .join _ _ _ _ _ => true
  | _ => false
theorem fAct_len {κ : Tk → Bool} (ds : List D) (μ : Mu) (q : D → Mu → Prop) (R : Prop) (h : fAct A κ ds μ q R) : ds.length = 2 := by
  obtain ⟨M, T, n, s, t, r, rfl, _⟩ := h
  rfl
theorem scTAct : FnScope ["self", "machine"] ["self", "machine"] (defScope sTAct) := ⟨rfl, rfl, rfl, by decide +kernel, rfl, by decide +kernel, by decide +kernel⟩
theorem scBAct : FnScope ["self", "machine", "around"] ["self", "machine"] (defScope sBAct) := ⟨rfl, rfl, rfl, by decide +kernel, rfl, by decide +kernel, by decide +kernel⟩
theorem scCAct : FnScope ["self", "machine"] ["self", "machine"] (defScope sCAct) := ⟨rfl, rfl, rfl, by decide +kernel, rfl, by decide +kernel, by decide +kernel⟩
theorem scJAct : FnScope ["self", "machine", "other", "one"] ["self", "machine"] (defScope sJAct) := ⟨rfl, rfl, rfl, by decide +kernel, rfl, by decide +kernel, by decide +kernel⟩
theorem ok_tact {f : Addr} {fd : FuncData} (F : Fun K "act" "Task.act" sTAct f fd) (Tx : Txt K mg TL A) (C : Cal P w K mg base TL "come_to" 3 (fCome A)) : FnOk P w K mg base (L2.CX P w) 4 f fd ["self", "machine"] (SpD K TL (fAct A kV)) := by
  refine fn_ok F scTAct (fun ds μ q R h => fAct_len ds μ q R h) (fun cdv Ar' outer s0 H E F0 ds μ q R hr G hf hR => ?_)
  obtain ⟨M, T, n, s, t, r, rfl, hk, ht, hM, ok, hn, hl, hlong, hgo⟩ := hf
  cases t with
  | bind _ _ _ _ _ => cases hk
  | choose _ _ _ _ _ => cases hk
  | join _ _ _ _ _ => cases hk
  | visit p t ar =>
    obtain ⟨cl, n1, n2, n3⟩ := Tx.task A.CT (by simp)
    have tok := ok.tasks (.visit p t ar) (by rw [ht]; exact List.mem_cons_self)
    have sz := sz_of ok hn ht hl
    have hpl : p.length ≤ n := tok.szp
    have har : ar.length ≤ n := tok.sza
    have hself : D.obj A.CT ["place", "form", "around"] [placeD p, t.d, arD ar] = Tk.d A (.visit p t ar) := rfl
    have hst : step s = if t.isGap = false ∧ 500 < s.steps + 1 then .long else .go (come { s with tasks := r, steps := s.steps + t.cost } p t ar) := by
      unfold step
      rw [ht]
    refine ss_exprJ (j_call C G hr ((ja_cons (jv_var 1) (ja_cons (jv_fldO (JV.is (jv_var 0) hself.symm) cl n1 rfl) (ja_cons (jv_fldO (JV.is (jv_var 0) hself.symm) cl n2 rfl) (ja_cons (jv_fldO (JV.is (jv_var 0) hself.symm) cl n3 rfl) ja_nil)))).at
      ⟨M, T, { s with tasks := r }, p, t, ar, rfl, hM, sz, ?_, by omega, by omega, fun h => hR (hlong (by rw [hst, if_pos h])), fun h μ' hM' => ss_nil (hgo _ μ' (by rw [hst, if_neg h]) hM')⟩))
    rw [ht, List.length_cons] at hl
    show r.length ≤ 9000
    omega
theorem ok_bact {f : Addr} {fd : FuncData} (F : Fun K "act" "Bind.act" sBAct f fd) (Tx : Txt K mg TL A) (CTk : Mak P w K mg base TL A.CT "Task" 1 (fTInit A)) : FnOk P w K mg base (L2.CX P w) 3 f fd ["self", "machine"] (SpD K TL (fAct A kB)) := by
  refine fn_ok F scBAct (fun ds μ q R h => fAct_len ds μ q R h) (fun cdv Ar' outer s0 H E F0 ds μ q R hr G hf hR => ?_)
  obtain ⟨M, T, n, s, t, r, rfl, hk, ht, hM, ok, hn, hl, hlong, hgo⟩ := hf
  cases t with
  | visit _ _ _ => cases hk
  | choose _ _ _ _ _ => cases hk
  | join _ _ _ _ _ => cases hk
  | bind p x a b ar =>
    obtain ⟨cl, n1, n2, n3⟩ := Tx.task A.CB (by simp)
    have tok := ok.tasks (.bind p x a b ar) (by rw [ht]; exact List.mem_cons_self)
    have sz := sz_of ok hn ht hl
    have hpl : p.length ≤ n := tok.szp
    have har : ar.length ≤ n := tok.sza
    have hself : D.obj A.CB ["place", "form", "around"] [placeD p, (Tm.lt x a b).d, arD ar] = Tk.d A (.bind p x a b ar) := rfl
    have hbal := ok.bal
    rw [ht] at hbal
    obtain ⟨v, g, hg⟩ : ∃ v g, s.things = v :: g := by
      cases e : s.things with
      | nil =>
        rw [e] at hbal
        exact absurd hbal.1 (by show ¬ 1 ≤ 0; omega)
      | cons v g => exact ⟨v, g, rfl⟩
    have hst : step s = .go { s with tasks := .visit (p ++ [1]) b (ar ++ [(x, v)]) :: r, things := g } := by
      unfold step
      rw [ht, hg]
    have e2 : D.lst (ar.map pairD ++ [.tup [.str x, v.d]]) = arD (ar ++ [(x, v)]) := by unfold arD; rw [List.map_append]; rfl
    have fmE : (Tm.lt x a b).d = .tup [.str "let", .str x, .tup [a.d, b.d]] := rfl
    refine ss_set 2 G (JV.is (jv_catL (xs := ar.map pairD) (ys := [.tup [.str x, v.d]]) (by rw [List.length_map]; simp; omega) (jv_fldO (JV.is (jv_var 0) hself.symm) cl n3 rfl)
      (jv_lst (ja_cons (jv_tup (ja_cons (jv_ixT (d := .str x) rfl (JV.is (jv_fldO (JV.is (jv_var 0) hself.symm) cl n2 rfl) fmE) jv_int) (ja_cons (jv_pop (jv_fldM (jv_var 1) hM.m Tx.clM Tx.nThings rfl) (hM.topG hg)) ja_nil))) ja_nil))) e2) ?_
    have hM2 := hM.putG g
    refine ss_expr (jv_append (jv_fldM (jv_var 1) hM2.m Tx.clM Tx.nTasks rfl) hM2.t (j_task CTk G hr (by simp) (ja_cons (JV.is (jv_catT (by rw [List.length_map]; simp; omega) (jv_fldO (d := .tup (p.map fun (k : Nat) => D.int (k : Int))) (JV.is (jv_var 0) hself.symm) cl n1 rfl) (jv_tup (ja_cons jv_int ja_nil))) (place_snoc p 1))
      (ja_cons (jv_ixT (d := b.d) rfl (jv_ixT (d := .tup [a.d, b.d]) rfl (JV.is (jv_fldO (JV.is (jv_var 0) hself.symm) cl n2 rfl) fmE) jv_int) jv_int) (ja_cons (jv_var 2) ja_nil)))) hM2.t (by rw [List.length_reverse, List.length_map]; have := sz.lt; show r.length ≤ _; have : r.length ≤ 10000 := this; omega)) ?_
    exact ss_nil (hgo _ _ hst (hM2.addT (.visit (p ++ [1]) b (ar ++ [(x, v)]))))
theorem ok_cact {f : Addr} {fd : FuncData} (F : Fun K "act" "Choose.act" sCAct f fd) (Tx : Txt K mg TL A) (C : Cal P w K mg base TL "choose_one" 3 (fChoose A)) : FnOk P w K mg base (L2.CX P w) 4 f fd ["self", "machine"] (SpD K TL (fAct A kC)) := by
  refine fn_ok F scCAct (fun ds μ q R h => fAct_len ds μ q R h) (fun cdv Ar' outer s0 H E F0 ds μ q R hr G hf hR => ?_)
  obtain ⟨M, T, n, s, t, r, rfl, hk, ht, hM, ok, hn, hl, hlong, hgo⟩ := hf
  cases t with
  | visit _ _ _ => cases hk
  | bind _ _ _ _ _ => cases hk
  | join _ _ _ _ _ => cases hk
  | choose p c a b ar =>
    obtain ⟨cl, n1, n2, n3⟩ := Tx.task A.CC (by simp)
    have tok := ok.tasks (.choose p c a b ar) (by rw [ht]; exact List.mem_cons_self)
    have sz := sz_of ok hn ht hl
    have hpl : p.length ≤ n := tok.szp
    have hself : D.obj A.CC ["place", "form", "around"] [placeD p, (Tm.ite c a b).d, arD ar] = Tk.d A (.choose p c a b ar) := rfl
    have hbal := ok.bal
    rw [ht] at hbal
    obtain ⟨v, g, hg⟩ : ∃ v g, s.things = v :: g := by
      cases e : s.things with
      | nil =>
        rw [e] at hbal
        exact absurd hbal.1 (by show ¬ 1 ≤ 0; omega)
      | cons v g => exact ⟨v, g, rfl⟩
    have hst : step s = .go (chooseS { s with tasks := r, things := g } p c a b ar v) := by
      unfold step
      rw [ht, hg]
    have hM2 := hM.putG g
    have hlg : g.length ≤ 10000 := by
      have z : s.things.length ≤ n := ok.szt
      rw [hg, List.length_cons] at z
      omega
    exact ss_exprJ (j_call C G hr ((ja_cons (jv_var 1) (ja_cons (jv_fldO (JV.is (jv_var 0) hself.symm) cl n1 rfl) (ja_cons (jv_lst (ja_cons (jv_pop (jv_fldM (jv_var 1) hM.m Tx.clM Tx.nThings rfl) (hM.topG hg)) ja_nil)) (ja_cons (jv_fldO (JV.is (jv_var 0) hself.symm) cl n3 rfl) ja_nil)))).at
      ⟨M, T, { s with tasks := r, things := g }, p, c, a, b, ar, v, rfl, hM2, ⟨sz.rows, sz.lr, sz.lt, hlg⟩, tok.at_, by omega, fun μ' hM' => ss_nil (hgo _ μ' hst hM')⟩))
theorem ok_jact {f : Addr} {fd : FuncData} (F : Fun K "act" "Join.act" sJAct f fd) (Tx : Txt K mg TL A) (C : Cal P w K mg base TL "join_two" 4 (fJoin A)) : FnOk P w K mg base (L2.CX P w) 5 f fd ["self", "machine"] (SpD K TL (fAct A kJ)) := by
  refine fn_ok F scJAct (fun ds μ q R h => fAct_len ds μ q R h) (fun cdv Ar' outer s0 H E F0 ds μ q R hr G hf hR => ?_)
  obtain ⟨M, T, n, s, t, r, rfl, hk, ht, hM, ok, hn, hl, hlong, hgo⟩ := hf
  cases t with
  | visit _ _ _ => cases hk
  | bind _ _ _ _ _ => cases hk
  | choose _ _ _ _ _ => cases hk
  | join p b l rr ar =>
    obtain ⟨cl, n1, n2, n3⟩ := Tx.task A.CJ (by simp)
    have tok := ok.tasks (.join p b l rr ar) (by rw [ht]; exact List.mem_cons_self)
    have sz := sz_of ok hn ht hl
    have hself : D.obj A.CJ ["place", "form", "around"] [placeD p, (Tm.bin b l rr).d, arD ar] = Tk.d A (.join p b l rr ar) := rfl
    have hbal := ok.bal
    rw [ht] at hbal
    obtain ⟨v2, v1, g, hg⟩ : ∃ v2 v1 g, s.things = v2 :: v1 :: g := by
      cases e : s.things with
      | nil =>
        rw [e] at hbal
        exact absurd hbal.1 (by show ¬ 2 ≤ 0; omega)
      | cons v g =>
        cases g with
        | nil =>
          rw [e] at hbal
          exact absurd hbal.1 (by show ¬ 2 ≤ 1; omega)
        | cons u g => exact ⟨v, u, g, rfl⟩
    have hst : step s = .go (joinS { s with tasks := r, things := g } p b l rr v1 v2) := by
      unfold step
      rw [ht, hg]
    have hM2 := hM.putG (v1 :: g)
    have hM3 := hM2.putG g
    have hlg : g.length ≤ 10000 := by
      have z : s.things.length ≤ n := ok.szt
      rw [hg, List.length_cons, List.length_cons] at z
      omega
    have hv1 : v1.lt s.rows.length := ok.things v1 (by rw [hg]; exact List.mem_cons_of_mem _ List.mem_cons_self)
    have fmE : (Tm.bin b l rr).d = .tup [.str b.w, .non, .tup [l.d, rr.d]] := rfl
    refine ss_set 2 G (jv_pop (jv_fldM (jv_var 1) hM.m Tx.clM Tx.nThings rfl) (hM.topG hg)) ?_
    refine ss_set 3 G (jv_pop (jv_fldM (jv_var 1) hM2.m Tx.clM Tx.nThings rfl) (hM2.topG rfl)) ?_
    exact ss_exprJ (j_call C G hr ((ja_cons (jv_var 1) (ja_cons (jv_ixT (d := .str b.w) rfl (JV.is (jv_fldO (JV.is (jv_var 0) hself.symm) cl n2 rfl) fmE) jv_int) (ja_cons (jv_fldO (JV.is (jv_var 0) hself.symm) cl n1 rfl) (ja_cons (jv_lst (ja_cons (jv_var 3) (ja_cons (jv_var 2) ja_nil))) ja_nil)))).at
      ⟨M, T, { s with tasks := r, things := g }, p, b, l, rr, v1, v2, rfl, hM3, ⟨sz.rows, sz.lr, sz.lt, hlg⟩, hv1, fun μ' hM' => ss_nil (hgo _ μ' hst hM')⟩))
/-! ### run_off -/
def fOff (A : CA) : Fn := fun ds μ Q R => ∃ (M : MA) (T : Tm) (n : Nat) (s : MS), ds = [.adr M.m] ∧ MAt A M T μ s ∧ Ok T n s ∧ n + 2 * meas s ≤ 4002 ∧ (Out s none → R) ∧ ∀ rec μ' s', Out s (some rec) → RecOk T rec → s'.rows = rec.rows → s'.steps = rec.steps → MAt A M T μ' s' → Q rec.ans.d μ'
theorem scRunOff : FnScope ["self", "task"] ["self"] (defScope sRunOff) := ⟨rfl, rfl, rfl, by decide +kernel, rfl, by decide +kernel, by decide +kernel⟩
theorem ok_run_off {f : Addr} {fd : FuncData} (F : Fun K "run_off" "Machine.run_off" sRunOff f fd) (Tx : Txt K mg TL A) (C1 : Met P w K mg base TL A.CT "act" 4 (fAct A kV)) (C2 : Met P w K mg base TL A.CB "act" 3 (fAct A kB)) (C3 : Met P w K mg base TL A.CC "act" 4 (fAct A kC)) (C4 : Met P w K mg base TL A.CJ "act" 5 (fAct A kJ)) :
    FnOk P w K mg base (L2.CX P w) 6 f fd ["self"] (SpD K TL (fOff A)) := by
  refine fn_ok F scRunOff (fun ds μ q R h => ?_) (fun cdv Ar' outer s0 H E F0 ds μ q R hr G hf hR => ?_)
  · obtain ⟨M, T, n, s, rfl, _⟩ := h
    rfl
  · obtain ⟨M, T, n, s, rfl, hM, ok, hn, hlong, hq⟩ := hf
    have hr3 : Room 3 (Ar'.deeper (envOfC "Machine.run_off" (defScope sRunOff) s0.heap.objs.size f cdv)) := hr.mono (by decide)
    have hr4 : Room 4 (Ar'.deeper (envOfC "Machine.run_off" (defScope sRunOff) s0.heap.objs.size f cdv)) := hr.mono (by decide)
    refine ss_while G (fun m ρ μ' => ∃ s' n' k1, m = meas s' ∧ ρ = ([some (.adr M.m), k1] : Rho) ∧ MAt A M T μ' s' ∧ Ok T n' s' ∧ n' + 2 * meas s' ≤ 4002 ∧ ∀ o, Out s' o → Out s o) ⟨s, n, none, rfl, rfl, hM, ok, hn, fun _ h => h⟩ ?_
    rintro m ρ' μ' ⟨s', n', k1, rfl, rfl, hM', ok', hn', ho⟩
    have hlen : (((s'.tasks.map (Tk.d A)).reverse.length : Nat) : Int) = (s'.tasks.length : Int) := by rw [List.length_reverse, List.length_map]
    refine ⟨decide ((0 : Int) < (s'.tasks.length : Int)), JB.is (jb_cmp op_gt rv_gt (jv_lenM Tx.bl (jv_fldM (jv_var 0) hM'.m Tx.clM Tx.nTasks rfl) hM'.t) jv_int) (by rw [hlen]), fun e => ?_, fun e => ?_⟩
    · have e' : (0 : Int) < (s'.tasks.length : Int) := of_decide_eq_true e
      obtain ⟨t, r, ht⟩ : ∃ t r, s'.tasks = t :: r := by
        cases q : s'.tasks with
        | nil => rw [q] at e'; exact absurd e' (by simp)
        | cons t r => exact ⟨t, r, rfl⟩
      have hts := meas_tasks s'
      refine ss_set 1 G (jv_pop (jv_fldM (jv_var 0) hM'.m Tx.clM Tx.nTasks rfl) (hM'.topT ht)) ?_
      have hM2 := hM'.putT r
      have hspec : ∀ κ : Tk → Bool, κ t = true → fAct A κ [t.d A, .adr M.m] (μ'.put M.t (.lst (r.map (Tk.d A)).reverse)) (fun _ μ1 => JSs (cxOf (L2.CX P w) P w K mg base ["self", "task"] "Machine.run_off" (defScope sRunOff) f cdv Ar' outer s0 H E) F0 [] ([some (.adr M.m), some (t.d A)] : Rho) μ1
          { nx := fun r u => ∃ m', m' < meas s' ∧ ∃ s' n' k1, m' = meas s' ∧ r = ([some (.adr M.m), k1] : Rho) ∧ MAt A M T u s' ∧ Ok T n' s' ∧ n' + 2 * meas s' ≤ 4002 ∧ ∀ o, Out s' o → Out s o, ct := fun r u => ∃ m', m' < meas s' ∧ ∃ s' n' k1, m' = meas s' ∧ r = ([some (.adr M.m), k1] : Rho) ∧ MAt A M T u s' ∧ Ok T n' s' ∧ n' + 2 * meas s' ≤ 4002 ∧ ∀ o, Out s' o → Out s o,
            bk := fun r u => JSs (cxOf (L2.CX P w) P w K mg base ["self", "task"] "Machine.run_off" (defScope sRunOff) f cdv Ar' outer s0 H E) F0 ((defBody sRunOff).drop 1) r u { nx := fun _ μ' => q .non μ', rt := q }, rt := q }) (RW TL F0 E) := fun κ hκ =>
        ⟨M, T, n', s', t, r, rfl, hκ, ht, hM2, ok', by omega, by omega, fun h => hR (hlong (ho _ (.long h))), fun s2 μ2 h2 hM3 => ss_nil ⟨meas s2, (meas_step ok'.steps h2).1, s2, n' + 2, _, rfl, rfl, hM3, ok_step ok' h2, by have := (meas_step ok'.steps h2).1; omega, fun o h => ho o (.more h2 h)⟩⟩
      cases t with
      | visit p t ar => exact ss_exprJ (j_methO C1 G hr4 (JV.is (jv_var 1) (show Tk.d A (.visit p t ar) = .obj A.CT ["place", "form", "around"] [placeD p, t.d, arD ar] from rfl)) rfl ((ja_cons (jv_var 0) ja_nil).at (hspec kV rfl)))
      | bind p x a b ar => exact ss_exprJ (j_methO C2 G hr3 (JV.is (jv_var 1) (show Tk.d A (.bind p x a b ar) = .obj A.CB ["place", "form", "around"] [placeD p, (Tm.lt x a b).d, arD ar] from rfl)) rfl ((ja_cons (jv_var 0) ja_nil).at (hspec kB rfl)))
      | choose p c a b ar => exact ss_exprJ (j_methO C3 G hr4 (JV.is (jv_var 1) (show Tk.d A (.choose p c a b ar) = .obj A.CC ["place", "form", "around"] [placeD p, (Tm.ite c a b).d, arD ar] from rfl)) rfl ((ja_cons (jv_var 0) ja_nil).at (hspec kC rfl)))
      | join p b l rr ar => exact ss_exprJ (j_methO C4 G hr (JV.is (jv_var 1) (show Tk.d A (.join p b l rr ar) = .obj A.CJ ["place", "form", "around"] [placeD p, (Tm.bin b l rr).d, arD ar] from rfl)) rfl ((ja_cons (jv_var 0) ja_nil).at (hspec kJ rfl)))
    · have e' : ¬ (0 : Int) < (s'.tasks.length : Int) := of_decide_eq_false e
      have ht : s'.tasks = [] := by
        cases q : s'.tasks with
        | nil => rfl
        | cons t r => rw [q, List.length_cons] at e'; exact absurd (by omega) e'
      have hbal := ok'.bal
      rw [ht] at hbal
      obtain ⟨a, hg⟩ : ∃ a, s'.things = [a] := by
        have hb : s'.things.length = 1 := hbal
        cases q : s'.things with
        | nil => rw [q] at hb; cases hb
        | cons a g =>
          rw [q, List.length_cons] at hb
          have : g = [] := List.eq_nil_of_length_eq_zero (by omega)
          exact ⟨a, by rw [this]⟩
      have hout : Out s (some ⟨a, s'.rows, s'.steps⟩) := ho _ (.done ht hg)
      refine ss_ret (jv_pop (jv_fldM (jv_var 0) hM'.m Tx.clM Tx.nThings rfl) (hM'.topG (g := []) hg)) (hq ⟨a, s'.rows, s'.steps⟩ _ { s' with things := [] } hout ⟨ok'.steps, fun k row e => (ok'.rows k row e).mono (by omega), ok'.things a (by rw [hg]; exact List.mem_cons_self), Nat.le_trans ok'.szr (by omega)⟩ rfl rfl (hM'.putG []))
/-! ### run -/
def Rec.d (r : Rec) : D := .tup [r.ans.d, .lst (r.rows.map Row.d), .int (r.steps : Int)]
def fRun : Fn := fun ds _ Q R => ∃ (T : Tm), ds = [T.d] ∧ (Out (init T) none → R) ∧ ∀ rec, Out (init T) (some rec) → RecOk T rec → Q rec.d Mu.none
theorem scRun : FnScope ["tree", "machine", "answer"] ["tree"] (defScope sRun) := ⟨rfl, rfl, rfl, by decide +kernel, rfl, by decide +kernel, by decide +kernel⟩
/-- a mutable list is frozen where it is read for good -/
theorem jv_freeze {X : Cx} {F0 : Hp} {e : Expr} {ρ : Rho} {μ μ1 μ2 : Mu} {n : Addr} {ds : List D} (h : JV X F0 e ρ μ (.adr n) μ1) (hn : μ1 n = some (.lst ds)) (h2 : ∀ a mo, μ2 a = some mo → μ1 a = some mo ∧ a ≠ n) : JV X F0 e ρ μ (.lst ds) μ2 := fun F σ H q R k =>
  h.run R fun v F1 H1 hv s m R1 => by
    cases hv
    obtain ⟨fn, xs, ex, tx⟩ := m.mu n _ hn
    have sm := same_upd (o := HO.lst xs) fn
    exact k _ _ _ _ _ ⟨rfl, rfl⟩ (.lst upd_same (tx.mono sm)) (s.trans sm) (m.freeze ex fn h2)
theorem J.less {X : Cx} {F0 : Hp} {e : Expr} {ρ : Rho} {μ : Mu} {Q : D → Mu → Prop} (h : J X F0 e ρ μ fun d _ => Q d Mu.none) : J X F0 e ρ μ Q := fun F σ H q R k => h F σ H q R fun v d μ' F' H' a b s m => k v d Mu.none F' H' a b s m.none
theorem ok_run {f : Addr} {fd : FuncData} (F : Fun K "run" "run" sRun f fd) (Tx : Txt K mg TL A) (CM : Mak P w K mg base TL A.CM "Machine" 1 (fMInit A)) (CTk : Mak P w K mg base TL A.CT "Task" 1 (fTInit A)) (CO : Met P w K mg base TL A.CM "run_off" 6 (fOff A)) : FnOk P w K mg base (L2.CX P w) 7 f fd ["tree"] (SpD K TL fRun) := by
  refine fn_ok F scRun (fun ds μ q R h => ?_) (fun cdv Ar' outer s0 H E F0 ds μ q R hr G hf hR => ?_)
  · obtain ⟨T, rfl, _⟩ := h
    rfl
  · obtain ⟨T, rfl, hlong, hq⟩ := hf
    have hr2 : Room 2 (Ar'.deeper (envOfC "run" (defScope sRun) s0.heap.objs.size f cdv)) := hr.mono (by decide)
    refine ss_setJ 1 G (j_make CM G hr2 ((ja_cons (jv_var 0) (ja_cons jv_int ja_nil)).at fun n hn => ⟨n, T, rfl, Mu.put_same, fun M μ1 hM hMn => ⟨rfl, ?_⟩⟩))
    subst hMn
    refine ss_expr (jv_append (jv_fldM (jv_var 1) hM.m Tx.clM Tx.nTasks rfl) hM.t (j_task CTk G hr2 (by simp) (ja_cons (jv_tup ja_nil) (ja_cons (jv_var 0) (ja_cons (jv_lst ja_nil) ja_nil)))) hM.t (by simp)) ?_
    have hM2 := hM.addT (.visit [] T [])
    refine ss_setJ 2 G (j_methM0 CO G hr (jv_var 1) hM2.m rfl ⟨M, T, 0, init T, rfl, hM2, ok_init T, by rw [meas_init]; decide, fun h => hR (hlong h), fun rec μ2 s2 ho rk e1 e2 hM3 => ?_⟩)
    refine ss_retJ (J.less ?_)
    have hrows := hM3.r
    have hstep := hM3.m
    rw [e1] at hrows
    rw [e2] at hstep
    refine (jv_tup (ja_cons (jv_var 2) (ja_cons (jv_freeze (μ2 := Mu.none.put M.m (.ins A.CM [("tree", T.d), ("steps", .int (rec.steps : Int)), ("rows", .adr M.r), ("tasks", .adr M.t), ("things", .adr M.g)])) (jv_fldM (jv_var 1) hM3.m Tx.clM Tx.nRows rfl) hrows fun a mo h => ?_)
      (ja_cons (jv_fldM (jv_var 1) Mu.put_same Tx.clM Tx.nSteps rfl) ja_nil)))).at (hq rec ho rk)
    by_cases ha : a = M.m
    · subst ha
      rw [Mu.put_same] at h
      exact ⟨hstep.trans h, hM3.mr⟩
    · rw [Mu.put_ne ha] at h
      cases h
end
end Gs

/-! The walk of the law's own defs: what a record is, what is due, what is the same. -/
namespace Gs
open PySem PySem.Spec PyProof.Rows L2
abbrev sSame : Stmt := top 26
abbrev sIsThing : Stmt := top 33
abbrev sIsRow : Stmt := top 34
abbrev sIsRecord : Stmt := top 35
abbrev sLRun : Stmt := top 36
abbrev sThing : Stmt := top 37
abbrev sMoved : Stmt := top 38
abbrev sJoined : Stmt := top 39
abbrev sDue : Stmt := top 40
section
variable {P : Program} {w : World} {K : PySem.W.Frag} {mg : Str → Option Value} {base : Heap} {TL : Addr} {A : CA}
/-- isinstance of a built-in type -/
theorem isi_bool {X : Cx} {F0 : Hp} {ρ : Rho} {μ μ1 : Mu} {a : Expr} {d : D} {n : String} {r : Bool} {p pt pos : Pos} (B : Bl X.mg) (ha : JV X F0 a ρ μ d μ1) (h : d.ty = some n) (hk : kitB n "bool" = some r) (hg : Gl X "isinstance" := by rfl) (hgt : Gl X "bool" := by rfl)
    (he : starEach [a, .Name "bool" pt] X.env = (false, eval a X.env) :: starEach [.Name "bool" pt] X.env := by rfl) (he2 : starEach [.Name "bool" pt] X.env = (false, eval (.Name "bool" pt) X.env) :: starEach [] X.env := by rfl) (hpl : (backTo pos (starEach [.Name "bool" pt] X.env)).any (·.1) = false := by rfl) :
    JV X F0 (.Call (.Name "isinstance" p) [a, .Name "bool" pt] [] pos) ρ μ (.bl r) μ1 := jv_isi B ha h hk B.bool (by decide +kernel) hg hgt (by decide) (by decide) he he2 hpl
theorem isi_int {X : Cx} {F0 : Hp} {ρ : Rho} {μ μ1 : Mu} {a : Expr} {d : D} {n : String} {r : Bool} {p pt pos : Pos} (B : Bl X.mg) (ha : JV X F0 a ρ μ d μ1) (h : d.ty = some n) (hk : kitB n "int" = some r) (hg : Gl X "isinstance" := by rfl) (hgt : Gl X "int" := by rfl)
    (he : starEach [a, .Name "int" pt] X.env = (false, eval a X.env) :: starEach [.Name "int" pt] X.env := by rfl) (he2 : starEach [.Name "int" pt] X.env = (false, eval (.Name "int" pt) X.env) :: starEach [] X.env := by rfl) (hpl : (backTo pos (starEach [.Name "int" pt] X.env)).any (·.1) = false := by rfl) :
    JV X F0 (.Call (.Name "isinstance" p) [a, .Name "int" pt] [] pos) ρ μ (.bl r) μ1 := jv_isi B ha h hk B.int (by decide +kernel) hg hgt (by decide) (by decide) he he2 hpl
theorem isi_str {X : Cx} {F0 : Hp} {ρ : Rho} {μ μ1 : Mu} {a : Expr} {d : D} {n : String} {r : Bool} {p pt pos : Pos} (B : Bl X.mg) (ha : JV X F0 a ρ μ d μ1) (h : d.ty = some n) (hk : kitB n "str" = some r) (hg : Gl X "isinstance" := by rfl) (hgt : Gl X "str" := by rfl)
    (he : starEach [a, .Name "str" pt] X.env = (false, eval a X.env) :: starEach [.Name "str" pt] X.env := by rfl) (he2 : starEach [.Name "str" pt] X.env = (false, eval (.Name "str" pt) X.env) :: starEach [] X.env := by rfl) (hpl : (backTo pos (starEach [.Name "str" pt] X.env)).any (·.1) = false := by rfl) :
    JV X F0 (.Call (.Name "isinstance" p) [a, .Name "str" pt] [] pos) ρ μ (.bl r) μ1 := jv_isi B ha h hk B.str (by decide +kernel) hg hgt (by decide) (by decide) he he2 hpl
theorem isi_list {X : Cx} {F0 : Hp} {ρ : Rho} {μ μ1 : Mu} {a : Expr} {d : D} {n : String} {r : Bool} {p pt pos : Pos} (B : Bl X.mg) (ha : JV X F0 a ρ μ d μ1) (h : d.ty = some n) (hk : kitB n "list" = some r) (hg : Gl X "isinstance" := by rfl) (hgt : Gl X "list" := by rfl)
    (he : starEach [a, .Name "list" pt] X.env = (false, eval a X.env) :: starEach [.Name "list" pt] X.env := by rfl) (he2 : starEach [.Name "list" pt] X.env = (false, eval (.Name "list" pt) X.env) :: starEach [] X.env := by rfl) (hpl : (backTo pos (starEach [.Name "list" pt] X.env)).any (·.1) = false := by rfl) :
    JV X F0 (.Call (.Name "isinstance" p) [a, .Name "list" pt] [] pos) ρ μ (.bl r) μ1 := jv_isi B ha h hk B.list (by decide +kernel) hg hgt (by decide) (by decide) he he2 hpl
theorem isi_tuple {X : Cx} {F0 : Hp} {ρ : Rho} {μ μ1 : Mu} {a : Expr} {d : D} {n : String} {r : Bool} {p pt pos : Pos} (B : Bl X.mg) (ha : JV X F0 a ρ μ d μ1) (h : d.ty = some n) (hk : kitB n "tuple" = some r) (hg : Gl X "isinstance" := by rfl) (hgt : Gl X "tuple" := by rfl)
    (he : starEach [a, .Name "tuple" pt] X.env = (false, eval a X.env) :: starEach [.Name "tuple" pt] X.env := by rfl) (he2 : starEach [.Name "tuple" pt] X.env = (false, eval (.Name "tuple" pt) X.env) :: starEach [] X.env := by rfl) (hpl : (backTo pos (starEach [.Name "tuple" pt] X.env)).any (·.1) = false := by rfl) :
    JV X F0 (.Call (.Name "isinstance" p) [a, .Name "tuple" pt] [] pos) ρ μ (.bl r) μ1 := jv_isi B ha h hk B.tuple (by decide +kernel) hg hgt (by decide) (by decide) he he2 hpl
/-! ### _law_same -/
def okS : Nat → D → Prop
  | _, .non => True
  | _, .bl _ => True
  | _, .int _ => True
  | _, .str _ => True
  | n + 1, .tup ds => ds.length ≤ 50000 ∧ ∀ d ∈ ds, okS n d
  | n + 1, .lst ds => ds.length ≤ 50000 ∧ ∀ d ∈ ds, okS n d
  | _, _ => False
def fSame (n : Nat) : Fn := fun ds μ Q _ => ∃ d, ds = [d, d] ∧ okS n d ∧ Q (.bl true) μ
theorem scSame : FnScope ["_law_found", "_law_due_here", "_law_k"] ["_law_found", "_law_due_here"] (defScope sSame) := ⟨rfl, rfl, rfl, by decide +kernel, rfl, by decide +kernel, by decide +kernel⟩
theorem same_len {n : Nat} (ds : List D) (μ : Mu) (q : D → Mu → Prop) (R : Prop) (h : fSame n ds μ q R) : ds.length = 2 := by
  obtain ⟨d, rfl, _⟩ := h
  rfl
/-- one layer, by what its parts do -/
theorem same_step {f : Addr} {fd : FuncData} {n k : Nat} (F : Fun K "_law_same" "_law_same" sSame f fd) (B : Bl mg) (hC : ∀ ds, (okS n (.tup ds) ∨ okS n (.lst ds)) → ds = [] ∨ ∃ j m, j ≤ k ∧ Cal P w K mg base TL "_law_same" j (fSame m) ∧ ∀ d ∈ ds, okS m d) :
    FnOk P w K mg base (L2.CX P w) (k + 1) f fd ["_law_found", "_law_due_here"] (SpD K TL (fSame n)) := by
  refine fn_ok F scSame (fun ds μ q R h => same_len ds μ q R h) (fun cdv Ar' outer s0 H E F0 ds μ q R hr G hf hR => ?_)
  obtain ⟨d, rfl, hd, hq⟩ := hf
  cases d with
  | adr a => cases n <;> cases hd
  | obj C ns ds => cases n <;> cases hd
  | sq ds => cases n <;> cases hd
  | bl b =>
    exact ss_ifT (jb_w (jw_orT (jb_val (isi_bool B (jv_var 0) rfl (by decide +kernel))))) (ss_ret (jv_andT (isi_bool B (jv_var 0) rfl (by decide +kernel)) (jv_andT (isi_bool B (jv_var 1) rfl (by decide +kernel)) (jv_one (JV.is (jv_cmp op_eq rv_eqB (jv_var 0) (jv_var 1)) (congrArg D.bl (decide_eq_true rfl)))))) hq)
  | non =>
    refine ss_if0 (jb_w (jw_orF (jb_val (isi_bool B (jv_var 0) rfl (by decide +kernel))) (jw_or1 (jb_val (isi_bool B (jv_var 1) rfl (by decide +kernel)))))) ?_
    refine ss_if0 (jb_w (jw_orF (jb_val (isi_list B (jv_var 1) rfl (by decide +kernel))) (jw_or1 (jb_val (isi_tuple B (jv_var 1) rfl (by decide +kernel)))))) ?_
    refine ss_if0 (jb_val (isi_str B (jv_var 1) rfl (by decide +kernel))) ?_
    refine ss_if0 (jb_val (isi_int B (jv_var 1) rfl (by decide +kernel))) ?_
    exact ss_ret (JV.is (d' := .bl true) (jv_andT (JV.is (jv_cmp op_isN rv_isN (jv_var 0) jv_non) rfl) (jv_one (jv_cmp op_isN rv_isN (jv_var 1) jv_non))) rfl) hq
  | int i =>
    refine ss_if0 (jb_w (jw_orF (jb_val (isi_bool B (jv_var 0) rfl (by decide +kernel))) (jw_or1 (jb_val (isi_bool B (jv_var 1) rfl (by decide +kernel)))))) ?_
    refine ss_if0 (jb_w (jw_orF (jb_val (isi_list B (jv_var 1) rfl (by decide +kernel))) (jw_or1 (jb_val (isi_tuple B (jv_var 1) rfl (by decide +kernel)))))) ?_
    refine ss_if0 (jb_val (isi_str B (jv_var 1) rfl (by decide +kernel))) ?_
    refine ss_ifT (jb_val (isi_int B (jv_var 1) rfl (by decide +kernel))) ?_
    exact ss_ret (jv_andT (isi_int B (jv_var 0) rfl (by decide +kernel)) (jv_one (JV.is (jv_cmp op_eq rv_eqI (jv_var 0) (jv_var 1)) (congrArg D.bl (decide_eq_true rfl))))) hq
  | str i =>
    refine ss_if0 (jb_w (jw_orF (jb_val (isi_bool B (jv_var 0) rfl (by decide +kernel))) (jw_or1 (jb_val (isi_bool B (jv_var 1) rfl (by decide +kernel)))))) ?_
    refine ss_if0 (jb_w (jw_orF (jb_val (isi_list B (jv_var 1) rfl (by decide +kernel))) (jw_or1 (jb_val (isi_tuple B (jv_var 1) rfl (by decide +kernel)))))) ?_
    refine ss_ifT (jb_val (isi_str B (jv_var 1) rfl (by decide +kernel))) ?_
    exact ss_ret (jv_andT (isi_str B (jv_var 0) rfl (by decide +kernel)) (jv_one (JV.is (jv_cmp op_eq rv_eqS (jv_var 0) (jv_var 1)) (congrArg D.bl (decide_eq_true rfl))))) hq
  | tup ds =>
    have hlen : ds.length ≤ 50000 := by cases n with
      | zero => cases hd
      | succ n => exact hd.1
    refine ss_if0 (jb_w (jw_orF (jb_val (isi_bool B (jv_var 0) rfl (by decide +kernel))) (jw_or1 (jb_val (isi_bool B (jv_var 1) rfl (by decide +kernel)))))) ?_
    refine ss_ifT (jb_w (jw_orF (jb_val (isi_list B (jv_var 1) rfl (by decide +kernel))) (jw_or1 (jb_val (isi_tuple B (jv_var 1) rfl (by decide +kernel)))))) ?_
    refine ss_if0 (JB.is (jb_w (jw_andT (JB.is (jb_not (jb_val (isi_list B (jv_var 0) rfl (by decide +kernel) (r := false)))) rfl) (jw_and1 (jb_not (jb_val (isi_tuple B (jv_var 0) rfl (by decide +kernel) (r := true))))))) rfl) ?_
    refine ss_if0 (jb_w (jw_orF (JB.is (jb_cmp op_ne rv_neB (isi_list B (jv_var 0) rfl (by decide +kernel) (r := false)) (isi_list B (jv_var 1) rfl (by decide +kernel) (r := false))) rfl)
      (jw_or1 (JB.is (jb_cmp op_ne rv_neI (jv_len B (jv_var 0) rfl (by omega)) (jv_len B (jv_var 1) rfl (by omega))) (by simp))))) ?_
    refine ss_forR B (n := ds.length) G (jv_len B (jv_var 1) rfl (by omega)) (by omega) (fun i ρ μ' => ∃ k2, ρ = ([some (.tup ds), some (.tup ds), k2] : Rho) ∧ μ' = μ) ⟨none, rfl, rfl⟩ ?_ ?_
    · rintro i ρ' μ' hi ⟨k2, rfl, rfl⟩
      have hi2 : ds[i]? = some ds[i] := List.getElem?_eq_getElem hi
      rcases hC ds (.inl hd) with rfl | ⟨j, m, hj, C, hm⟩
      · cases hi
      · refine jg_name 2 G ?_
        refine ss_if0 (JB.is (jb_not (jb_val (b' := true) (j_call C G (hr.mono hj) ((ja_cons (jv_ixT (atI_nat hi2) (jv_var 0) (jv_var 2)) (ja_cons (jv_ixT (atI_nat hi2) (jv_var 1) (jv_var 2)) ja_nil)).at ⟨ds[i], rfl, hm _ (List.getElem_mem hi), rfl, rfl⟩)))) rfl) (ss_nil ⟨_, rfl, rfl⟩)
    · rintro ρ' μ' ⟨k2, rfl, rfl⟩
      exact ss_ret jv_bl hq
  | lst ds =>
    have hlen : ds.length ≤ 50000 := by cases n with
      | zero => cases hd
      | succ n => exact hd.1
    refine ss_if0 (jb_w (jw_orF (jb_val (isi_bool B (jv_var 0) rfl (by decide +kernel))) (jw_or1 (jb_val (isi_bool B (jv_var 1) rfl (by decide +kernel)))))) ?_
    refine ss_ifT (jb_w (jw_orT (jb_val (isi_list B (jv_var 1) rfl (by decide +kernel))))) ?_
    refine ss_if0 (JB.is (jb_w (jw_andF (JB.is (jb_not (jb_val (isi_list B (jv_var 0) rfl (by decide +kernel) (r := true)))) rfl))) rfl) ?_
    refine ss_if0 (jb_w (jw_orF (JB.is (jb_cmp op_ne rv_neB (isi_list B (jv_var 0) rfl (by decide +kernel) (r := true)) (isi_list B (jv_var 1) rfl (by decide +kernel) (r := true))) rfl)
      (jw_or1 (JB.is (jb_cmp op_ne rv_neI (jv_len B (jv_var 0) rfl (by omega)) (jv_len B (jv_var 1) rfl (by omega))) (by simp))))) ?_
    refine ss_forR B (n := ds.length) G (jv_len B (jv_var 1) rfl (by omega)) (by omega) (fun i ρ μ' => ∃ k2, ρ = ([some (.lst ds), some (.lst ds), k2] : Rho) ∧ μ' = μ) ⟨none, rfl, rfl⟩ ?_ ?_
    · rintro i ρ' μ' hi ⟨k2, rfl, rfl⟩
      have hi2 : ds[i]? = some ds[i] := List.getElem?_eq_getElem hi
      rcases hC ds (.inr hd) with rfl | ⟨j, m, hj, C, hm⟩
      · cases hi
      · refine jg_name 2 G ?_
        refine ss_if0 (JB.is (jb_not (jb_val (b' := true) (j_call C G (hr.mono hj) ((ja_cons (jv_ixL (atI_nat hi2) (jv_var 0) (jv_var 2)) (ja_cons (jv_ixL (atI_nat hi2) (jv_var 1) (jv_var 2)) ja_nil)).at ⟨ds[i], rfl, hm _ (List.getElem_mem hi), rfl, rfl⟩)))) rfl) (ss_nil ⟨_, rfl, rfl⟩)
    · rintro ρ' μ' ⟨k2, rfl, rfl⟩
      exact ss_ret jv_bl hq
theorem cal_same {f : Addr} {fd : FuncData} (F : Fun K "_law_same" "_law_same" sSame f fd) (hm : mg "_law_same" = some (.ref f)) (hb : Binds K fd ["_law_found", "_law_due_here"] []) (B : Bl mg) : ∀ n : Nat, Cal P w K mg base TL "_law_same" (n + 1) (fSame n)
  | 0 => cal_of F hm hb (same_step F B fun ds h => by rcases h with h | h <;> cases h)
  | n + 1 => cal_of F hm hb (same_step F B fun ds h => .inr ⟨n + 1, n, Nat.le_refl _, cal_same F hm hb B n, by rcases h with h | h <;> exact h.2⟩)
end
end Gs

/-! The walk of the law's own defs: records. -/
namespace Gs
open PySem PySem.Spec PyProof.Rows L2
section
variable {P : Program} {w : World} {K : PySem.W.Frag} {mg : Str → Option Value} {base : Heap} {TL : Addr} {A : CA}
/-! ### _law_is_thing -/
def fIsThing : Fn := fun ds μ Q _ => ∃ (v : Th) (n : Nat), ds = [v.d, .int (n : Int)] ∧ v.lt n ∧ Q (.bl true) μ
theorem scIsThing : FnScope ["_law_thing_here", "_law_many"] ["_law_thing_here", "_law_many"] (defScope sIsThing) := ⟨rfl, rfl, rfl, by decide +kernel, rfl, by decide +kernel, by decide +kernel⟩
theorem ok_is_thing {f : Addr} {fd : FuncData} {k : Nat} (F : Fun K "_law_is_thing" "_law_is_thing" sIsThing f fd) (B : Bl mg) : FnOk P w K mg base (L2.CX P w) (k + 1) f fd ["_law_thing_here", "_law_many"] (SpD K TL fIsThing) := by
  refine fn_ok F scIsThing (fun ds μ q R h => ?_) (fun cdv Ar' outer s0 H E F0 ds μ q R hr G hf hR => ?_)
  · obtain ⟨v, n, rfl, _⟩ := h
    rfl
  · obtain ⟨v, n, rfl, hv, hq⟩ := hf
    refine ss_if0 (JB.is (jb_w (jw_orF (JB.is (jb_not (jb_val (isi_tuple B (JV.is (jv_var 0) v.d_eq) rfl (by decide +kernel) (r := true)))) rfl) (jw_orF (JB.is (jb_cmp op_ne rv_neI (jv_len B (JV.is (jv_var 0) v.d_eq) rfl (by simp)) jv_int) rfl)
      (jw_or1 (JB.is (jb_not (jb_val (isi_str B (jv_ixT (d := .str v.tag) rfl (JV.is (jv_var 0) v.d_eq) jv_int) rfl (by decide +kernel) (r := true)))) rfl))))) rfl) ?_
    cases v with
    | truth b =>
      exact ss_ifT (JB.is (jb_cmp op_eq rv_eqS (jv_ixT (d := .str "truth") rfl (JV.is (jv_var 0) rfl) jv_int) jv_str) rfl) (ss_ret (isi_bool B (jv_ixT (d := .bl b) rfl (JV.is (jv_var 0) rfl) jv_int) rfl (by decide +kernel)) hq)
    | num i =>
      refine ss_if0 (JB.is (jb_cmp op_eq rv_eqS (jv_ixT (d := .str "num") rfl (JV.is (jv_var 0) rfl) jv_int) jv_str) rfl) ?_
      refine ss_if0 (jb_w (jw_orF (JB.is (jb_not (jb_val (isi_int B (jv_ixT (d := .int i) rfl (JV.is (jv_var 0) rfl) jv_int) rfl (by decide +kernel) (r := true)))) rfl) (jw_or1 (jb_val (isi_bool B (jv_ixT (d := .int i) rfl (JV.is (jv_var 0) rfl) jv_int) rfl (by decide +kernel)))))) ?_
      refine ss_if0 (JB.is (jb_cmp op_eq rv_eqS (jv_ixT (d := .str "num") rfl (JV.is (jv_var 0) rfl) jv_int) jv_str) rfl) ?_
      exact ss_ret (JV.is (jv_cmp op_eq rv_eqS (jv_ixT (d := .str "num") rfl (JV.is (jv_var 0) rfl) jv_int) jv_str) rfl) hq
    | row i =>
      have hi : i < n := hv
      refine ss_if0 (JB.is (jb_cmp op_eq rv_eqS (jv_ixT (d := .str "row") rfl (JV.is (jv_var 0) rfl) jv_int) jv_str) rfl) ?_
      refine ss_if0 (jb_w (jw_orF (JB.is (jb_not (jb_val (isi_int B (jv_ixT (d := .int (i : Int)) rfl (JV.is (jv_var 0) rfl) jv_int) rfl (by decide +kernel) (r := true)))) rfl) (jw_or1 (jb_val (isi_bool B (jv_ixT (d := .int (i : Int)) rfl (JV.is (jv_var 0) rfl) jv_int) rfl (by decide +kernel)))))) ?_
      refine ss_ifT (JB.is (jb_cmp op_eq rv_eqS (jv_ixT (d := .str "row") rfl (JV.is (jv_var 0) rfl) jv_int) jv_str) rfl) ?_
      refine ss_ret (JV.is (jv_chain op_le op_lt rv_le (fun _ => rv_lt) jv_int (jv_ixT (d := .int (i : Int)) rfl (JV.is (jv_var 0) rfl) jv_int) (jv_var 1)) ?_) hq
      have e1 : decide ((0 : Int) ≤ (i : Int)) = true := decide_eq_true (by omega)
      have e2 : decide ((i : Int) < (n : Int)) = true := decide_eq_true (by omega)
      rw [e1, e2]
      rfl
/-! ### _law_is_row -/
def fIsRow : Fn := fun ds μ Q _ => ∃ (T : Tm) (row : Row) (k : Nat), ds = [row.d, .int (k : Int)] ∧ RowOk T 10000 k row ∧ Q (.bl true) μ
theorem scIsRow : FnScope ["_law_row", "_law_k", "_law_thing_here", "_law_pair"] ["_law_row", "_law_k"] (defScope sIsRow) := ⟨rfl, rfl, rfl, by decide +kernel, rfl, by decide +kernel, by decide +kernel⟩
theorem ok_is_row {f : Addr} {fd : FuncData} (F : Fun K "_law_is_row" "_law_is_row" sIsRow f fd) (B : Bl mg) (C : Cal P w K mg base TL "_law_is_thing" 1 fIsThing) : FnOk P w K mg base (L2.CX P w) 2 f fd ["_law_row", "_law_k"] (SpD K TL fIsRow) := by
  refine fn_ok F scIsRow (fun ds μ q R h => ?_) (fun cdv Ar' outer s0 H E F0 ds μ q R hr G hf hR => ?_)
  · obtain ⟨T, row, k, rfl, _⟩ := h
    rfl
  · obtain ⟨T, row, k, rfl, ro, hq⟩ := hf
    have e0 : row.d = .tup [.str row.fm.word, placeD row.place, .lst (row.ops.map Th.d), .lst (row.ar.map pairD)] := rfl
    have eP : placeD row.place = .tup (row.place.map fun (k : Nat) => D.int (k : Int)) := rfl
    refine ss_if0 (JB.is (jb_w (jw_orF (JB.is (jb_not (jb_val (isi_tuple B (JV.is (jv_var 0) e0) rfl (by decide +kernel) (r := true)))) rfl) (jw_or1 (JB.is (jb_cmp op_ne rv_neI (jv_len B (JV.is (jv_var 0) e0) rfl (by simp)) jv_int) rfl)))) rfl) ?_
    refine ss_if0 (jb_w (jw_orF (JB.is (jb_not (jb_val (isi_str B (jv_ixT (d := .str row.fm.word) rfl (JV.is (jv_var 0) e0) jv_int) rfl (by decide +kernel) (r := true)))) rfl) (jw_or1 (JB.is (jb_not (jb_val (isi_tuple B (JV.is (jv_ixT (d := placeD row.place) rfl (JV.is (jv_var 0) e0) jv_int) eP) rfl (by decide +kernel) (r := true)))) rfl)))) ?_
    refine ss_if0 (jb_w (jw_orF (JB.is (jb_not (jb_val (isi_list B (jv_ixT (d := .lst (row.ops.map Th.d)) rfl (JV.is (jv_var 0) e0) jv_int) rfl (by decide +kernel) (r := true)))) rfl) (jw_or1 (JB.is (jb_not (jb_val (isi_list B (jv_ixT (d := .lst (row.ar.map pairD)) rfl (JV.is (jv_var 0) e0) jv_int) rfl (by decide +kernel) (r := true)))) rfl)))) ?_
    refine ss_for G (ds := row.ops.map Th.d) (jv_ixT (d := .lst (row.ops.map Th.d)) rfl (JV.is (jv_var 0) e0) jv_int) (.inl rfl) (fun i ρ μ' => ∃ k2, ρ = ([some row.d, some (.int (k : Int)), k2, none] : Rho) ∧ μ' = μ) ⟨none, rfl, rfl⟩ ?_ ?_
    · rintro i d ρ' μ' hi ⟨k2, rfl, rfl⟩
      rw [List.getElem?_map] at hi
      cases hp : row.ops[i]? with
      | none => rw [hp] at hi; cases hi
      | some v =>
        rw [hp] at hi
        have ed : v.d = d := Option.some.inj hi
        subst ed
        refine jg_name 2 G ?_
        exact ss_if0 (JB.is (jb_not (jb_val (b' := true) (j_call C G hr ((ja_cons (jv_var 2) (ja_cons (jv_var 1) ja_nil)).at ⟨v, k, rfl, ro.ops v (List.mem_of_getElem? hp), rfl, rfl⟩)))) rfl) (ss_nil ⟨_, rfl, rfl⟩)
    · rintro ρ' μ0 ⟨k2, rfl, hμ0⟩
      rw [← hμ0] at hq
      refine ss_for G (ds := row.ar.map pairD) (jv_ixT (d := .lst (row.ar.map pairD)) rfl (JV.is (jv_var 0) e0) jv_int) (.inl rfl) (fun i ρ μ' => ∃ k3, ρ = ([some row.d, some (.int (k : Int)), k2, k3] : Rho) ∧ μ' = μ0) ⟨none, rfl, rfl⟩ ?_ ?_
      · rintro i d ρ' μ' hi ⟨k3, rfl, rfl⟩
        rw [List.getElem?_map] at hi
        cases hp : row.ar[i]? with
        | none => rw [hp] at hi; cases hi
        | some v =>
          rw [hp] at hi
          have ed : pairD v = d := Option.some.inj hi
          subst ed
          have eV : pairD v = .tup [.str v.1, v.2.d] := rfl
          refine jg_name 3 G ?_
          refine ss_if0 (JB.is (jb_w (jw_orF (JB.is (jb_not (jb_val (isi_tuple B (JV.is (jv_var 3) eV) rfl (by decide +kernel) (r := true)))) rfl) (jw_orF (JB.is (jb_cmp op_ne rv_neI (jv_len B (JV.is (jv_var 3) eV) rfl (by simp)) jv_int) rfl)
            (jw_or1 (JB.is (jb_not (jb_val (isi_str B (jv_ixT (d := .str v.1) rfl (JV.is (jv_var 3) eV) jv_int) rfl (by decide +kernel) (r := true)))) rfl))))) rfl) ?_
          exact ss_if0 (JB.is (jb_not (jb_val (b' := true) (j_call C G hr ((ja_cons (jv_ixT (d := v.2.d) rfl (JV.is (jv_var 3) eV) jv_int) (ja_cons (jv_var 1) ja_nil)).at ⟨v.2, k, rfl, ro.ar v (List.mem_of_getElem? hp), rfl, rfl⟩)))) rfl) (ss_nil ⟨_, rfl, rfl⟩)
      · rintro ρ' μ' ⟨k3, rfl, rfl⟩
        exact ss_ret jv_bl hq
/-! ### _law_is_record -/
def fIsRecord : Fn := fun ds μ Q _ => ∃ (T : Tm) (r : Rec), ds = [r.d] ∧ RecOk T r ∧ Q (.bl true) μ
theorem scIsRecord : FnScope ["_law_found", "_law_k"] ["_law_found"] (defScope sIsRecord) := ⟨rfl, rfl, rfl, by decide +kernel, rfl, by decide +kernel, by decide +kernel⟩
theorem ok_is_record {f : Addr} {fd : FuncData} (F : Fun K "_law_is_record" "_law_is_record" sIsRecord f fd) (B : Bl mg) (C : Cal P w K mg base TL "_law_is_thing" 1 fIsThing) (C2 : Cal P w K mg base TL "_law_is_row" 2 fIsRow) : FnOk P w K mg base (L2.CX P w) 3 f fd ["_law_found"] (SpD K TL fIsRecord) := by
  refine fn_ok F scIsRecord (fun ds μ q R h => ?_) (fun cdv Ar' outer s0 H E F0 ds μ q R hr G hf hR => ?_)
  · obtain ⟨T, r, rfl, _⟩ := h
    rfl
  · obtain ⟨T, r, rfl, rk, hq⟩ := hf
    have hr1 : Room 1 (Ar'.deeper (envOfC "_law_is_record" (defScope sIsRecord) s0.heap.objs.size f cdv)) := hr.mono (by decide)
    have e0 : r.d = .tup [r.ans.d, .lst (r.rows.map Row.d), .int (r.steps : Int)] := rfl
    have hlen : (r.rows.map Row.d).length = r.rows.length := List.length_map _
    have hl := rk.szr
    refine ss_if0 (JB.is (jb_w (jw_orF (JB.is (jb_not (jb_val (isi_tuple B (JV.is (jv_var 0) e0) rfl (by decide +kernel) (r := true)))) rfl) (jw_orF (JB.is (jb_cmp op_ne rv_neI (jv_len B (JV.is (jv_var 0) e0) rfl (by simp)) jv_int) rfl)
      (jw_or1 (JB.is (jb_not (jb_val (isi_list B (jv_ixT (d := .lst (r.rows.map Row.d)) rfl (JV.is (jv_var 0) e0) jv_int) rfl (by decide +kernel) (r := true)))) rfl))))) rfl) ?_
    refine ss_forR B (n := r.rows.length) G (JV.is (jv_len B (jv_ixT (d := .lst (r.rows.map Row.d)) rfl (JV.is (jv_var 0) e0) jv_int) rfl (by rw [hlen]; omega)) (by rw [hlen])) (by omega) (fun i ρ μ' => ∃ k1, ρ = ([some r.d, k1] : Rho) ∧ μ' = μ) ⟨none, rfl, rfl⟩ ?_ ?_
    · rintro i ρ' μ' hi ⟨k1, rfl, rfl⟩
      have hi2 : r.rows[i]? = some r.rows[i] := List.getElem?_eq_getElem hi
      refine jg_name 1 G ?_
      exact ss_if0 (JB.is (jb_not (jb_val (b' := true) (j_call C2 G hr ((ja_cons (jv_ixL (d := r.rows[i].d) (atI_nat (by rw [List.getElem?_map, hi2]; rfl)) (jv_ixT (d := .lst (r.rows.map Row.d)) rfl (JV.is (jv_var 0) e0) jv_int) (jv_var 1)) (ja_cons (jv_var 1) ja_nil)).at
        ⟨T, r.rows[i], i, rfl, (rk.rows i _ hi2).mono (by decide), rfl, rfl⟩)))) rfl) (ss_nil ⟨_, rfl, rfl⟩)
    · rintro ρ' μ' ⟨k1, rfl, rfl⟩
      refine ss_if0 (jb_w (jw_orF (JB.is (jb_not (jb_val (isi_int B (jv_ixT (d := .int (r.steps : Int)) rfl (JV.is (jv_var 0) e0) jv_int) rfl (by decide +kernel) (r := true)))) rfl) (jw_or1 (jb_val (isi_bool B (jv_ixT (d := .int (r.steps : Int)) rfl (JV.is (jv_var 0) e0) jv_int) rfl (by decide +kernel)))))) ?_
      exact ss_retJ (j_call C G hr1 ((ja_cons (jv_ixT (d := r.ans.d) rfl (JV.is (jv_var 0) e0) jv_int) (ja_cons (JV.is (jv_len B (jv_ixT (d := .lst (r.rows.map Row.d)) rfl (JV.is (jv_var 0) e0) jv_int) rfl (by rw [hlen]; omega)) (by rw [hlen])) ja_nil)).at ⟨r.ans, r.rows.length, rfl, rk.ans, hq⟩))
/-! ### _law_run -/
def optD : Option Rec → D
  | none => .non
  | some r => r.d
def fLRun : Fn := fun ds _ Q _ => ∃ (T : Tm), ds = [T.d] ∧ ∀ o, Out (init T) o → (∀ r, o = some r → RecOk T r) → Q (optD o) Mu.none
theorem scLRun : FnScope ["_law_tree", "_law_found"] ["_law_tree"] (defScope sLRun) := ⟨rfl, rfl, rfl, by decide +kernel, rfl, by decide +kernel, by decide +kernel⟩
theorem ok_lrun {f : Addr} {fd : FuncData} (F : Fun K "_law_run" "_law_run" sLRun f fd) (Tx : Txt K mg TL A) (hex : PySem.W.exmOne K (.ref TL) (.ref TL) = some true) (C : Cal P w K mg base TL "run" 7 fRun) : FnOk P w K mg base (L2.CX P w) 8 f fd ["_law_tree"] (SpD K TL fLRun) := by
  refine fn_ok F scLRun (fun ds μ q R h => ?_) (fun cdv Ar' outer s0 H E F0 ds μ q R hr G hf hR => ?_)
  · obtain ⟨T, rfl, _⟩ := h
    rfl
  · obtain ⟨T, rfl, hq⟩ := hf
    refine ss_set 1 G jv_non ?_
    refine ss_try (i := 1) (μ1 := μ) (ds := [T.d]) C G rfl rfl hr ⟨rfl, by decide, Or.inl Tx.gTL⟩ hex (fun pn xe => ja_cons (jv_var 0) ja_nil) ?_ rfl rfl rfl (by decide) rfl rfl rfl rfl
    exact ⟨T, rfl, fun h => ss_ret (jv_var 1) (hq none h (fun r z => nomatch z)), fun rec h rk => ss_ret (jv_var 1) (hq (some rec) h fun r z => by cases z; exact rk)⟩
/-! ### _law_thing -/
def fThing : Fn := fun ds μ Q _ => ∃ (v : Th) (k : Nat), ds = [v.d, .int (k : Int)] ∧ Q (shTh k v).d μ
theorem scThing : FnScope ["_law_thing_here", "_law_many"] ["_law_thing_here", "_law_many"] (defScope sThing) := ⟨rfl, rfl, rfl, by decide +kernel, rfl, by decide +kernel, by decide +kernel⟩
theorem ok_thing {f : Addr} {fd : FuncData} {k : Nat} (F : Fun K "_law_thing" "_law_thing" sThing f fd) : FnOk P w K mg base (L2.CX P w) (k + 1) f fd ["_law_thing_here", "_law_many"] (SpD K TL fThing) := by
  refine fn_ok F scThing (fun ds μ q R h => ?_) (fun cdv Ar' outer s0 H E F0 ds μ q R hr G hf hR => ?_)
  · obtain ⟨v, n, rfl, _⟩ := h
    rfl
  · obtain ⟨v, n, rfl, hq⟩ := hf
    cases v with
    | num i => exact ss_if0 (JB.is (jb_cmp op_eq rv_eqS (jv_ixT (d := .str "num") rfl (JV.is (jv_var 0) rfl) jv_int) jv_str) rfl) (ss_ret (jv_var 0) hq)
    | truth i => exact ss_if0 (JB.is (jb_cmp op_eq rv_eqS (jv_ixT (d := .str "truth") rfl (JV.is (jv_var 0) rfl) jv_int) jv_str) rfl) (ss_ret (jv_var 0) hq)
    | row i =>
      refine ss_ifT (JB.is (jb_cmp op_eq rv_eqS (jv_ixT (d := .str "row") rfl (JV.is (jv_var 0) rfl) jv_int) jv_str) rfl) (ss_ret (JV.is (jv_tup (ja_cons jv_str (ja_cons (jv_add (jv_ixT (d := .int (i : Int)) rfl (JV.is (jv_var 0) rfl) jv_int) (jv_var 1)) ja_nil))) ?_) hq)
      show D.tup [.str "row", .int ((i : Int) + (n : Int))] = .tup [.str "row", .int ((i + n : Nat) : Int)]
      rw [Int.natCast_add]
/-! ### _law_moved -/
/-- the j-th statement within the i-th, a for -/
def forBody (b : List Stmt) (i j : Nat) : Stmt := match b.getD i (.Pass ⟨0, 0, 0, 0⟩) with
  | .For _ _ body _ _ => body.getD j (.Pass ⟨0, 0, 0, 0⟩)
  | _ => .Pass ⟨0, 0, 0, 0⟩

def fMoved : Fn := fun ds μ Q _ => ∃ (T : Tm) (r : Rec) (i k : Nat), ds = [r.d, .tup [.int (i : Int)], .int (k : Int), .lst []] ∧ RecOk T r ∧ Q (.lst ((moved r i k).map Row.d)) μ
theorem scMoved : FnScope ["_law_record", "_law_ahead", "_law_many", "_law_pairs", "_law_rows", "_law_word", "_law_place", "_law_operands", "_law_around", "_law_kept", "_law_name", "_law_thing_here"] ["_law_record", "_law_ahead", "_law_many", "_law_pairs"] (defScope sMoved) := ⟨rfl, rfl, rfl, by decide +kernel, rfl, by decide +kernel, by decide +kernel⟩
theorem ok_moved {f : Addr} {fd : FuncData} (F : Fun K "_law_moved" "_law_moved" sMoved f fd) (B : Bl mg) (C : Cal P w K mg base TL "_law_thing" 1 fThing) : FnOk P w K mg base (L2.CX P w) 2 f fd ["_law_record", "_law_ahead", "_law_many", "_law_pairs"] (SpD K TL fMoved) := by
  refine fn_ok F scMoved (fun ds μ q R h => ?_) (fun cdv Ar' outer s0 H E F0 ds μ q R hr G hf hR => ?_)
  · obtain ⟨T, r, i, k, rfl, _⟩ := h
    rfl
  · obtain ⟨T, r, i, k, rfl, rk, hq⟩ := hf
    have e0 : r.d = .tup [r.ans.d, .lst (r.rows.map Row.d), .int (r.steps : Int)] := rfl
    refine ss_setJ 4 G (j_lstM ja_nil fun n hn => ?_)
    refine ss_for G (ds := r.rows.map Row.d) (jv_ixT (d := .lst (r.rows.map Row.d)) rfl (JV.is (jv_var 0) e0) jv_int) (.inl rfl)
      (fun j ρ μ' => ∃ k5 k6 k7 k8 k9, ρ = ([some r.d, some (.tup [.int (i : Int)]), some (.int (k : Int)), some (.lst []), some (.adr n), k5, k6, k7, k8, k9, none, none] : Rho) ∧ μ' = μ.put n (.lst (((r.rows.take j).map (shRow i k)).map Row.d))) ⟨none, none, none, none, none, rfl, rfl⟩ ?_ ?_
    · rintro j d ρ' μ' hj ⟨k5, k6, k7, k8, k9, rfl, rfl⟩
      rw [List.getElem?_map] at hj
      cases hp : r.rows[j]? with
      | none => rw [hp] at hj; cases hj
      | some row =>
        rw [hp] at hj
        have ed : row.d = d := Option.some.inj hj
        subst ed
        have ro := rk.rows j row hp
        have eR : row.d = .tup [.str row.fm.word, placeD row.place, .lst (row.ops.map Th.d), arD row.ar] := rfl
        rw [eR]
        refine jg_tup G (jgs_cons (jg_name 5 G (jgs_cons (jg_name 6 G (jgs_cons (jg_name 7 G (jgs_cons (jg_name 8 G (jgs_nil ?_)))))))))
        have eA : arD row.ar = .lst (row.ar.map fun p => .tup [.str p.1, p.2.d]) := rfl
        have hlen := ro.sza
        refine ss_lc2 (i := 10) (j := 11) (iy := 9) G row.ar (fun p => .str p.1) (fun p => p.2.d) (JV.is (jv_var 8) eA) (by decide) (blkOk_by (own := [("_law_name", 10), ("_law_thing_here", 11)]) (N := ["_law_record", "_law_ahead", "_law_many", "_law_pairs", "_law_rows", "_law_word", "_law_place", "_law_operands", "_law_around", "_law_kept", "_law_name", "_law_thing_here"]) (sc := defScope sMoved) (by decide +kernel)) (by omega) rfl rfl
          (fun _ _ _ _ _ => ⟨rfl, rfl⟩) (fun _ _ _ _ _ h => pg_tup G.calm h) (fun _ _ _ _ _ h1 h2 => pgs_cons h1 (pgs_cons h2 pgs_nil)) (fun _ => true) (fun p => pairD (p.1, shTh k p.2)) (.inl ⟨rfl, fun _ => rfl⟩) ?_ ?_ rfl rfl (sw_true rfl rfl rfl (by decide +kernel))
        · intro st H' C' cl fp p μ2 hp2
          exact jv_tup (ja_cons (jv_var 10) (ja_cons (d := (shTh k p.2).d) (j_call C (G.blk st H' (compEnvC _ cl C' _) fp) hr ((ja_cons (jv_var 11) (ja_cons (jv_var 2) ja_nil)).at ⟨p.2, k, rfl, rfl, rfl⟩)) ja_nil))
        · have eF : ((row.ar.filter fun _ => true).map fun p => pairD (p.1, shTh k p.2)) = (shAr k row.ar).map pairD := by
            rw [List.filter_eq_self.mpr fun _ _ => rfl]
            unfold shAr
            rw [List.map_map]
            rfl
          rw [eF]
          have eP : placeD row.place = .tup (row.place.map fun (k : Nat) => D.int (k : Int)) := rfl
          have eD : D.tup [.str row.fm.word, .tup ([D.int (i : Int)] ++ (row.place.map fun (k : Nat) => D.int (k : Int))), .lst (row.ops.map fun v => (shTh k v).d), .lst ((shAr k row.ar).map pairD)] = (shRow i k row).d := by
            unfold Row.d shRow arD
            simp only [List.map_map]
            rfl
          have eT : (((r.rows.take j).map (shRow i k)).map Row.d) ++ [(shRow i k row).d] = ((r.rows.take (j + 1)).map (shRow i k)).map Row.d := by
            rw [take_snoc hp, List.map_append, List.map_append]
            rfl
          have hle : (((r.rows.take j).map (shRow i k)).map Row.d).length ≤ 100000 := by
            rw [List.length_map, List.length_map, List.length_take]
            have := rk.szr
            omega
          have hpl := ro.szp
          have hol := ro.szo
          have fin : (μ.put n (.lst (((r.rows.take j).map (shRow i k)).map Row.d))).put n (.lst ((((r.rows.take j).map (shRow i k)).map Row.d) ++ [(shRow i k row).d])) = μ.put n (.lst (((r.rows.take (j + 1)).map (shRow i k)).map Row.d)) := by rw [Mu.put_put, eT]
          refine ss_if (jb_cmp op_in_seq (rv_inT (ts := ["gap", "fn", "rec", "if"])) (jv_var 5) (jv_tup (ja_cons jv_str (ja_cons jv_str (ja_cons jv_str (ja_cons jv_str ja_nil)))))) (fun _ => ss_set 9 G (d := .lst ((shAr k row.ar).map pairD)) (jv_catL (xs := []) (by rw [List.length_map]; unfold shAr; rw [List.length_map]; simp; omega) (jv_var 3) (jv_var 9)) (ss_nil ?_)) (fun _ => ss_nil ?_)
          all_goals
            refine ss_expr (jv_append (jv_var 4) Mu.put_same (JV.is (jv_tup (ja_cons (jv_var 5) (ja_cons (jv_catT (by rw [List.length_map]; simp; omega) (jv_var 1) (JV.is (jv_var 6) eP)) (ja_cons
              (jv_lc1 (i := 11) G row.ops Th.d (jv_var 7) (blkOk_by (own := [("_law_thing_here", 11)]) (N := ["_law_record", "_law_ahead", "_law_many", "_law_pairs", "_law_rows", "_law_word", "_law_place", "_law_operands", "_law_around", "_law_kept", "_law_name", "_law_thing_here"]) (sc := defScope sMoved) (by decide +kernel)) (by omega) rfl (fun _ _ _ _ _ => Or.inl rfl) (fun _ _ _ _ _ => Or.inr rfl) (fun v => (shTh k v).d)
                (fun st H' C' cl fp v μ2 hv2 => j_call C (G.blk st H' (compEnvC _ cl C' _) fp) hr ((ja_cons (jv_var 11) (ja_cons (jv_var 2) ja_nil)).at ⟨v, k, rfl, rfl, rfl⟩)))
              (ja_cons (jv_var 9) ja_nil))))) eD) Mu.put_same hle) (ss_nil ⟨_, _, _, _, _, rfl, fin⟩)
    · rintro ρ' μ' ⟨k5, k6, k7, k8, k9, rfl, rfl⟩
      rw [List.length_map, List.take_length]
      refine ss_ret (jv_freeze (jv_var 4) Mu.put_same fun a mo h => ?_) hq
      have ha : a ≠ n := fun z => by rw [z, hn] at h; cases h
      exact ⟨by rw [Mu.put_ne ha]; exact h, ha⟩
end
end Gs

/-! The walk of the law's own defs: what is due. -/
namespace Gs
open PySem PySem.Spec PyProof.Rows L2
/-- a list that may change, of two -/
theorem j_catM {X : Cx} {F0 : Hp} {ρ : Rho} {μ μ1 μ2 : Mu} {a b : Expr} {xs ys : List D} {pos : Pos} {Q : D → Mu → Prop} (hl : xs.length + ys.length ≤ 100000) (ha : JV X F0 a ρ μ (.lst xs) μ1) (hb : JV X F0 b ρ μ1 (.lst ys) μ2) (hq : ∀ n, μ2 n = none → Q (.adr n) (μ2.put n (.lst (xs ++ ys)))) : J X F0 (.BinOp a .Add b pos) ρ μ Q := fun F σ H q R k =>
  of_pe (pe_op op_cat pe_s pe_s) (ha.run2 hb R fun va vb F1 H1 h1 h2 s m R1 => by
    cases h1 with
    | @lst p vs _ e1 t1 =>
      cases h2 with
      | @lst p' ws _ e2 t2 =>
        have l1 := t1.length
        have l2 := t2.length
        exact ⟨p, p', vs, ws, rfl, rfl, m.sub _ _ e1, m.sub _ _ e2, small (by omega), fun n hn => k _ _ _ _ _ (hq n (m.free hn)) .adr s (m.newL hn (t1.append t2))⟩)
section
variable {P : Program} {w : World} {K : PySem.W.Frag} {mg : Str → Option Value} {base : Heap} {TL : Addr} {A : CA}
/-! ### _law_joined -/
def fJoined : Fn := fun ds μ Q _ => ∃ (b : BW) (l r : Tm) (v1 v2 : Th) (n : Addr) (rows : List Row), ds = [.str b.w, .tup [], v1.d, v2.d, .adr n] ∧ μ n = some (.lst (rows.map Row.d)) ∧ rows.length ≤ 50000 ∧ ∀ μ', μ' n = some (.lst ((joined b l r v1 v2 rows).2.map Row.d)) → Q (joined b l r v1 v2 rows).1.d μ'
theorem scJoined : FnScope ["_law_word", "_law_place", "_law_one", "_law_other", "_law_rows"] ["_law_word", "_law_place", "_law_one", "_law_other", "_law_rows"] (defScope sJoined) := ⟨rfl, rfl, rfl, by decide +kernel, rfl, by decide +kernel, by decide +kernel⟩
theorem joined_not {b : BW} {l r : Tm} {v1 v2 : Th} {rows : List Row} (h : ((!decide (b.w = "call")) && (v1.isNum && v2.isNum)) = false) : joined b l r v1 v2 rows = (.row rows.length, rows ++ [⟨.bin b l r, [], [v1, v2], []⟩]) := by
  cases b <;> cases v1 <;> cases v2 <;> first | rfl | cases h
theorem ok_joined {f : Addr} {fd : FuncData} {k : Nat} (F : Fun K "_law_joined" "_law_joined" sJoined f fd) (B : Bl mg) : FnOk P w K mg base (L2.CX P w) (k + 1) f fd ["_law_word", "_law_place", "_law_one", "_law_other", "_law_rows"] (SpD K TL fJoined) := by
  refine fn_ok F scJoined (fun ds μ q R h => ?_) (fun cdv Ar' outer s0 H E F0 ds μ q R hr G hf hR => ?_)
  · obtain ⟨b, l, r, v1, v2, n, rows, rfl, _⟩ := h
    rfl
  · obtain ⟨b, l, r, v1, v2, n, rows, rfl, hn, hlen, hq⟩ := hf
    refine ss_if (b' := (!decide (b.w = "call")) && (v1.isNum && v2.isNum)) (JB.is (jb_w (jw_and (jb_cmp op_ne rv_neS (jv_var 0) jv_str) fun _ => jw_and (jb_cmp op_eq rv_eqS (jv_ixT (d := .str v1.tag) rfl (JV.is (jv_var 2) v1.d_eq) jv_int) jv_str) fun _ => jw_and1 (jb_cmp op_eq rv_eqS (jv_ixT (d := .str v2.tag) rfl (JV.is (jv_var 3) v2.d_eq) jv_int) jv_str)))
      (by rw [Th.tag_num, Th.tag_num])) (fun e => ?_) (fun e => ?_)
    · cases v1 with
      | truth i => cases b <;> cases e
      | row i => cases b <;> cases e
      | num i =>
        cases v2 with
        | truth j => cases b <;> cases e
        | row j => cases b <;> cases e
        | num j =>
          cases b with
          | call => cases e
          | plus =>
            exact ss_ifT (JB.is (jb_cmp op_eq rv_eqS (JV.is (jv_var 0) (show D.str BW.plus.w = .str "plus" from rfl)) jv_str) rfl) (ss_ret (jv_tup (ja_cons jv_str (ja_cons (jv_add (jv_ixT (d := .int i) rfl (JV.is (jv_var 2) rfl) jv_int) (jv_ixT (d := .int j) rfl (JV.is (jv_var 3) rfl) jv_int)) ja_nil))) (hq μ hn))
          | minus =>
            exact ss_if0 (JB.is (jb_cmp op_eq rv_eqS (JV.is (jv_var 0) (show D.str BW.minus.w = .str "minus" from rfl)) jv_str) rfl) (ss_ifT (JB.is (jb_cmp op_eq rv_eqS (JV.is (jv_var 0) (show D.str BW.minus.w = .str "minus" from rfl)) jv_str) rfl) (ss_ret (jv_tup (ja_cons jv_str (ja_cons (jv_sub (jv_ixT (d := .int i) rfl (JV.is (jv_var 2) rfl) jv_int) (jv_ixT (d := .int j) rfl (JV.is (jv_var 3) rfl) jv_int)) ja_nil))) (hq μ hn)))
          | less =>
            exact ss_if0 (JB.is (jb_cmp op_eq rv_eqS (JV.is (jv_var 0) (show D.str BW.less.w = .str "less" from rfl)) jv_str) rfl) (ss_if0 (JB.is (jb_cmp op_eq rv_eqS (JV.is (jv_var 0) (show D.str BW.less.w = .str "less" from rfl)) jv_str) rfl)
              (ss_ret (jv_tup (ja_cons jv_str (ja_cons (jv_cmp op_lt rv_lt (jv_ixT (d := .int i) rfl (JV.is (jv_var 2) rfl) jv_int) (jv_ixT (d := .int j) rfl (JV.is (jv_var 3) rfl) jv_int)) ja_nil))) (hq μ hn)))
    · rw [joined_not e] at hq
      refine ss_nil ?_
      have e1 : (rows ++ [(⟨.bin b l r, [], [v1, v2], []⟩ : Row)]).map Row.d = rows.map Row.d ++ [.tup [.str b.w, .tup [], .lst [v1.d, v2.d], .lst []]] := by rw [List.map_append]; rfl
      have e2 : ((((rows.map Row.d) ++ [D.tup [.str b.w, .tup [], .lst [v1.d, v2.d], .lst []]]).length : Nat) : Int) - 1 = (rows.length : Int) := by
        rw [List.length_append, List.length_map, List.length_singleton]
        omega
      refine ss_expr (jv_append (jv_var 4) hn (jv_tup (ja_cons (jv_var 0) (ja_cons (jv_var 1) (ja_cons (jv_lst (ja_cons (jv_var 2) (ja_cons (jv_var 3) ja_nil))) (ja_cons (jv_lst ja_nil) ja_nil))))) hn (by rw [List.length_map]; omega)) ?_
      refine ss_ret (d := Th.d (.row rows.length)) (jv_tup (ja_cons jv_str (ja_cons (JV.is (jv_sub (jv_lenM B (jv_var 4) Mu.put_same) jv_int) (congrArg D.int e2)) ja_nil))) (hq _ ?_)
      rw [Mu.put_same, e1]
/-! ### _law_due -/
/-- which word: plus, minus, less, call (w) or if -/
inductive DW where
  | bin (b : BW) | iff
def DW.wd : DW → Str
  | .bin b => b.w
  | .iff => "if"
def dueOf (x : DW) (l r : Tm) (r1 : Rec) (o2 : Option Rec) : Option Rec := match x with
  | .bin b => dueB b l r r1 o2
  | .iff => dueI l r (.num 5) r1 o2
def fDue : Fn := fun ds μ Q _ => ∃ (x : DW) (l r T1 T2 : Tm) (r1 : Rec) (o2 : Option Rec), ds = [.str x.wd, r1.d, optD o2] ∧ RecOk T1 r1 ∧ (∀ r2, o2 = some r2 → RecOk T2 r2) ∧ Q (optD (dueOf x l r r1 o2)) Mu.none
theorem scDue : FnScope ["_law_word", "_law_first", "_law_second", "_law_rows", "_law_steps", "_law_left", "_law_right", "_law_answer"] ["_law_word", "_law_first", "_law_second"] (defScope sDue) := ⟨rfl, rfl, rfl, by decide +kernel, rfl, by decide +kernel, by decide +kernel⟩
theorem moved_len (r : Rec) (i k : Nat) : (moved r i k).length = r.rows.length := List.length_map _
theorem ok_due {f : Addr} {fd : FuncData} (F : Fun K "_law_due" "_law_due" sDue f fd) (B : Bl mg) (C1 : Cal P w K mg base TL "_law_moved" 2 fMoved) (C2 : Cal P w K mg base TL "_law_thing" 1 fThing) (C3 : Cal P w K mg base TL "_law_joined" 1 fJoined) : FnOk P w K mg base (L2.CX P w) 3 f fd ["_law_word", "_law_first", "_law_second"] (SpD K TL fDue) := by
  refine fn_ok F scDue (fun ds μ q R h => ?_) (fun cdv Ar' outer s0 H E F0 ds μ q R hr G hf hR => ?_)
  · obtain ⟨x, l, r, T1, T2, r1, o2, rfl, _⟩ := h
    rfl
  · obtain ⟨x, l, r, T1, T2, r1, o2, rfl, rk, rk2, hq⟩ := hf
    have hr1 : Room 1 (Ar'.deeper (envOfC "_law_due" (defScope sDue) s0.heap.objs.size f cdv)) := hr.mono (by decide)
    have e0 : r1.d = .tup [r1.ans.d, .lst (r1.rows.map Row.d), .int (r1.steps : Int)] := rfl
    have hl1 := rk.szr
    have hm1 : ((moved r1 0 0).map Row.d).length = (moved r1 0 0).length := List.length_map _
    have hml : (moved r1 0 0).length ≤ 4002 := by rw [moved_len]; exact hl1
    refine ss_set 3 G (d := .lst ((moved r1 0 0).map Row.d)) (j_call C1 G hr ((ja_cons (jv_var 1) (ja_cons (jv_tup (ja_cons jv_int ja_nil)) (ja_cons jv_int (ja_cons (jv_lst ja_nil) ja_nil)))).at ⟨T1, r1, 0, 0, rfl, rk, rfl, rfl⟩)) ?_
    refine ss_set 4 G (d := .int ((r1.steps + 1 : Nat) : Int)) (JV.is (jv_add (jv_ixT (d := .int (r1.steps : Int)) rfl (JV.is (jv_var 1) e0) jv_int) jv_int) (by rw [Int.natCast_add]; rfl)) ?_
    refine ss_set 5 G (jv_ixT (d := r1.ans.d) rfl (JV.is (jv_var 1) e0) jv_int) ?_
    -- the rest where the second is looked at
    have rest : (x = .iff → r1.ans = .truth true) → JSs (cxOf (L2.CX P w) P w K mg base ["_law_word", "_law_first", "_law_second", "_law_rows", "_law_steps", "_law_left", "_law_right", "_law_answer"] "_law_due" (defScope sDue) f cdv Ar' outer s0 H E) F0 ((defBody sDue).drop 5)
        ([some (.str x.wd), some r1.d, some (optD o2), some (.lst ((moved r1 0 0).map Row.d)), some (.int ((r1.steps + 1 : Nat) : Int)), some r1.ans.d, none, none] : Rho) μ { nx := fun _ μ' => q .non μ', rt := q } := by
      intro hx
      cases o2 with
      | none =>
        have hd : dueOf x l r r1 none = none := by
          cases x with
          | bin b => rfl
          | iff =>
            show dueI l r (.num 5) r1 none = none
            rw [dueI_true (hx rfl)]
        rw [hd] at hq
        refine ss_ifT (JB.is (jb_cmp op_isN rv_isN (JV.is (jv_var 2) (show optD none = D.non from rfl)) jv_non) rfl) (ss_retJ (J.less (jv_non.at hq)))
      | some r2 =>
        have rkk := rk2 r2 rfl
        have hl2 := rkk.szr
        have e2 : optD (some r2) = .tup [r2.ans.d, .lst (r2.rows.map Row.d), .int (r2.steps : Int)] := rfl
        refine ss_if0 (JB.is (jb_cmp op_isN rv_isN (JV.is (jv_var 2) e2) jv_non) rfl) ?_
        refine ss_set 6 G (d := (shTh (moved r1 0 0).length r2.ans).d) (j_call C2 G hr1 ((ja_cons (jv_ixT (d := r2.ans.d) rfl (JV.is (jv_var 2) e2) jv_int) (ja_cons (JV.is (jv_len B (jv_var 3) rfl (by rw [hm1]; omega)) (by rw [hm1])) ja_nil)).at ⟨r2.ans, (moved r1 0 0).length, rfl, rfl, rfl⟩)) ?_
        have hcat : ((moved r1 0 0).map Row.d).length + ((moved r2 1 (moved r1 0 0).length).map Row.d).length ≤ 100000 := by rw [List.length_map, List.length_map, moved_len, moved_len]; omega
        refine ss_setJ 3 G (j_catM hcat (jv_var 3) (j_call C1 G hr ((ja_cons (JV.is (jv_var 2) (show optD (some r2) = r2.d from rfl)) (ja_cons (jv_tup (ja_cons jv_int ja_nil)) (ja_cons (JV.is (jv_len B (jv_var 3) rfl (by rw [hm1]; omega)) (by rw [hm1])) (ja_cons (jv_lst ja_nil) ja_nil)))).at ⟨T2, r2, 1, (moved r1 0 0).length, rfl, rkk, rfl, rfl⟩)) fun n hn => ?_)
        rw [← List.map_append]
        have stE : (((r1.steps + 1 : Nat) : Int) + (r2.steps : Int)) = ((r1.steps + 1 + r2.steps : Nat) : Int) := by omega
        cases x with
        | iff =>
          have ha := hx rfl
          have hd : dueOf .iff l r r1 (some r2) = some ⟨shTh (moved r1 0 0).length r2.ans, moved r1 0 0 ++ moved r2 1 (moved r1 0 0).length, r1.steps + 1 + r2.steps⟩ := by
            show dueI l r (.num 5) r1 (some r2) = _
            rw [dueI_true ha]
          rw [hd] at hq
          refine ss_ifT (JB.is (jb_cmp op_eq rv_eqS (JV.is (jv_var 0) (show D.str DW.iff.wd = .str "if" from rfl)) jv_str) rfl) (ss_retJ (J.less ?_))
          refine (jv_tup (ja_cons (jv_var 6) (ja_cons (jv_freeze (μ2 := Mu.none) (jv_var 3) Mu.put_same (fun _ _ z => nomatch z)) (ja_cons (JV.is (jv_add (jv_var 4) (jv_ixT (d := .int (r2.steps : Int)) rfl (JV.is (jv_var 2) e2) jv_int)) (congrArg D.int stE)) ja_nil)))).at hq
        | bin b =>
          have hd : dueOf (.bin b) l r r1 (some r2) = some ⟨(joined b l r r1.ans (shTh (moved r1 0 0).length r2.ans) (moved r1 0 0 ++ moved r2 1 (moved r1 0 0).length)).1, (joined b l r r1.ans (shTh (moved r1 0 0).length r2.ans) (moved r1 0 0 ++ moved r2 1 (moved r1 0 0).length)).2, r1.steps + 1 + r2.steps⟩ := rfl
          rw [hd] at hq
          have hb : decide (DW.wd (.bin b) = "if") = false := by cases b <;> rfl
          refine ss_if0 (JB.is (jb_cmp op_eq rv_eqS (jv_var 0) jv_str) hb) ?_
          refine ss_setJ 7 G (j_call C3 G hr1 ((ja_cons (jv_var 0) (ja_cons (jv_tup ja_nil) (ja_cons (jv_var 5) (ja_cons (jv_var 6) (ja_cons (jv_var 3) ja_nil))))).at ⟨b, l, r, r1.ans, shTh (moved r1 0 0).length r2.ans, n, moved r1 0 0 ++ moved r2 1 (moved r1 0 0).length, rfl, Mu.put_same, by rw [List.length_append, moved_len, moved_len]; omega, fun μ' hμ' => ?_⟩))
          refine ss_retJ (J.less ?_)
          refine (jv_tup (ja_cons (jv_var 7) (ja_cons (jv_freeze (μ2 := Mu.none) (jv_var 3) hμ' (fun _ _ z => nomatch z)) (ja_cons (JV.is (jv_add (jv_var 4) (jv_ixT (d := .int (r2.steps : Int)) rfl (JV.is (jv_var 2) e2) jv_int)) (congrArg D.int stE)) ja_nil)))).at hq
    cases x with
    | bin b =>
      have hb : decide (DW.wd (.bin b) = "if") = false := by cases b <;> rfl
      refine ss_if0 (jb_w (jw_andF (JB.is (jb_cmp op_eq rv_eqS (jv_var 0) jv_str) hb))) ?_
      refine ss_if0 (jb_w (jw_andF (JB.is (jb_cmp op_eq rv_eqS (jv_var 0) jv_str) hb))) ?_
      exact rest fun z => nomatch z
    | iff =>
      have hw : D.str DW.iff.wd = .str "if" := rfl
      have other : r1.ans.isTruth = false → dueI l r (.num 5) r1 o2 = some ⟨.row (moved r1 0 0).length, moved r1 0 0 ++ [⟨.ite l r (.num 5), [], [r1.ans], []⟩], r1.steps + 1⟩ := by
        intro h
        unfold dueI
        cases e : r1.ans with
        | truth b => rw [e] at h; cases h
        | num i => rfl
        | row i => rfl
      by_cases ht : r1.ans.isTruth = true
      · obtain ⟨b, hb⟩ : ∃ b, r1.ans = .truth b := by
          cases e : r1.ans with
          | truth b => exact ⟨b, rfl⟩
          | num i => rw [e] at ht; cases ht
          | row i => rw [e] at ht; cases ht
        have eL : r1.ans.d = .tup [.str "truth", .bl b] := by rw [hb]; rfl
        refine ss_if0 (jb_w (jw_andT (JB.is (jb_cmp op_eq rv_eqS (JV.is (jv_var 0) hw) jv_str) rfl) (jw_and1 (JB.is (jb_cmp op_ne rv_neS (jv_ixT (d := .str "truth") rfl (JV.is (jv_var 5) eL) jv_int) jv_str) rfl)))) ?_
        cases b with
        | false =>
          have hd : dueOf .iff l r r1 o2 = some ⟨.num 5, moved r1 0 0, r1.steps + 1 + 1⟩ := by
            show dueI l r (.num 5) r1 o2 = _
            unfold dueI
            rw [hb]
          rw [hd] at hq
          refine ss_ifT (jb_w (jw_andT (JB.is (jb_cmp op_eq rv_eqS (JV.is (jv_var 0) hw) jv_str) rfl) (jw_and1 (JB.is (jb_not (jb_val (b' := false) (jv_ixT (d := .bl false) rfl (JV.is (jv_var 5) eL) jv_int))) rfl)))) ?_
          refine ss_retJ (J.less ((jv_tup (ja_cons (jv_tup (ja_cons jv_str (ja_cons jv_int ja_nil))) (ja_cons (jv_var 3) (ja_cons (JV.is (jv_add (jv_var 4) jv_int) (d' := .int ((r1.steps + 1 + 1 : Nat) : Int)) (congrArg D.int (by omega))) ja_nil)))).at hq))
        | true =>
          refine ss_if0 (jb_w (jw_andT (JB.is (jb_cmp op_eq rv_eqS (JV.is (jv_var 0) hw) jv_str) rfl) (jw_and1 (JB.is (jb_not (jb_val (b' := true) (jv_ixT (d := .bl true) rfl (JV.is (jv_var 5) eL) jv_int))) rfl)))) ?_
          exact rest fun _ => hb
      · have ht' : r1.ans.isTruth = false := by simpa using ht
        have hd : dueOf .iff l r r1 o2 = _ := other ht'
        rw [hd] at hq
        have eT : (!decide (r1.ans.tag = "truth")) = true := by
          cases e : r1.ans with
          | truth b => rw [e] at ht'; cases ht'
          | num i => rfl
          | row i => rfl
        refine ss_ifT (jb_w (jw_andT (JB.is (jb_cmp op_eq rv_eqS (JV.is (jv_var 0) hw) jv_str) rfl) (jw_and1 (JB.is (jb_cmp op_ne rv_neS (jv_ixT (d := .str r1.ans.tag) rfl (JV.is (jv_var 5) r1.ans.d_eq) jv_int) jv_str) eT)))) ?_
        have eR : D.lst ((moved r1 0 0).map Row.d ++ [.tup [.str "if", .tup [], .lst [r1.ans.d], .lst []]]) = .lst ((moved r1 0 0 ++ [(⟨.ite l r (.num 5), [], [r1.ans], []⟩ : Row)]).map Row.d) := by rw [List.map_append]; rfl
        refine ss_retJ (J.less ((jv_tup (ja_cons (JV.is (jv_tup (ja_cons jv_str (ja_cons (jv_len B (jv_var 3) rfl (by rw [hm1]; omega)) ja_nil))) (d' := Th.d (.row (moved r1 0 0).length)) (by rw [hm1]; rfl))
          (ja_cons (JV.is (jv_catL (by rw [hm1]; simp; omega) (jv_var 3) (jv_lst (ja_cons (jv_tup (ja_cons jv_str (ja_cons (jv_tup ja_nil) (ja_cons (jv_lst (ja_cons (jv_var 5) ja_nil)) (ja_cons (jv_lst ja_nil) ja_nil))))) ja_nil))) eR) (ja_cons (jv_var 4) ja_nil)))).at hq))
end
end Gs

/-! The walk of the law's own defs: cells, numbers, names, a tree's end. -/
namespace Gs
open PySem PySem.Spec PyProof.Rows L2
abbrev sCell : Stmt := top 24
abbrev sMixed : Stmt := top 25
abbrev sNames : Stmt := top 27
abbrev sNumber : Stmt := top 28
abbrev sFree : Stmt := top 29
abbrev sEnd : Stmt := top 31
theorem cdiv {i j : Int} (h : 0 < j ∧ j < 1073741824 := by decide) : CDiv i j := h
theorem cmulR {i j : Int} (h : -(2 ^ 64) < j ∧ j < 2 ^ 64 := by decide) : CMul i j := .inr h
theorem cmulL {i j : Int} (h : -(2 ^ 64) < i ∧ i < 2 ^ 64 := by decide) : CMul i j := .inl h
theorem pow18 : (10 : Int) ^ (18 : Int).toNat = 1000000000000000000 := by decide +kernel
theorem cpow18 : CPow 10 18 := ⟨by decide, by decide, by decide⟩
theorem str_app (s t : Str) : (s ++ t).length = s.length + t.length := by
  show (s.cps ++ t.cps).size = s.cps.size + t.cps.size
  exact Array.size_append
theorem log_small {z : Int} (h0 : 0 ≤ z) (h1 : z < 1000000000000000000) : z.natAbs.log2 < 1920 := by
  have h : z.natAbs < 2 ^ 64 := by
    have : (2 : Nat) ^ 64 = 18446744073709551616 := by decide
    omega
  by_cases hz : z.natAbs = 0
  · rw [hz]; decide
  · have := (Nat.log2_lt hz).mpr h
    omega
theorem odd_len {z : Int} (h0 : 0 ≤ z) (h1 : z < 1000000000000000000) : ("=" : Str).length + (PySem.Str.ofString (toString z)).length ≤ 100000 := by
  have h := int_text_len_1921 (log_small h0 h1)
  have e : ("=" : Str).length = 1 := rfl
  omega
section
variable {P : Program} {w : World} {K : PySem.W.Frag} {mg : Str → Option Value} {base : Heap} {TL : Addr} {A : CA}
def intsD (ns : List Int) : List D := ns.map D.int
def fCell : Fn := fun ds μ Q _ => ∃ (ns : List Int) (k : Nat), ds = [.sq (intsD ns), .int (k : Int)] ∧ ns.length ≤ 63 ∧ ∀ z, Q (.int z) μ
theorem scCell : FnScope ["_law_script", "_law_k"] ["_law_script", "_law_k"] (defScope sCell) := ⟨rfl, rfl, rfl, by decide +kernel, rfl, by decide +kernel, by decide +kernel⟩
theorem ok_cell {f : Addr} {fd : FuncData} {k : Nat} (F : Fun K "_law_cell" "_law_cell" sCell f fd) (B : Bl mg) : FnOk P w K mg base (L2.CX P w) (k + 1) f fd ["_law_script", "_law_k"] (SpD K TL fCell) := by
  refine fn_ok F scCell (fun ds μ q R h => ?_) (fun cdv Ar' outer s0 H E F0 ds μ q R hr G hf hR => ?_)
  · obtain ⟨ns, j, rfl, _⟩ := h
    rfl
  · obtain ⟨ns, j, rfl, hl, hq⟩ := hf
    have el : (intsD ns).length = ns.length := List.length_map _
    refine ss_if (JB.is (jb_cmp op_lt rv_lt (jv_var 1) (jv_len B (jv_var 0) rfl (by rw [el]; omega))) (by rw [el])) (fun e => ?_) (fun e => ?_)
    · have hj : (j : Int) < (ns.length : Int) := of_decide_eq_true e
      have hj2 : j < ns.length := by omega
      have hitem : atI (intsD ns) (j : Int) = some (.int ns[j]) := atI_nat (by unfold intsD; rw [List.getElem?_map, List.getElem?_eq_getElem hj2]; rfl)
      exact ss_ret (jv_ixQ hitem (jv_var 0) (jv_var 1)) (hq _)
    · exact ss_nil (ss_ret (jv_add (jv_mul cmulR (jv_var 1) jv_int) jv_int) (hq _))
def fMixed : Fn := fun ds μ Q _ => ∃ (c k : Int), ds = [.int c, .int k] ∧ ∀ z, 0 ≤ z → Q (.int z) μ
theorem scMixed : FnScope ["_law_cell_here", "_law_k"] ["_law_cell_here", "_law_k"] (defScope sMixed) := ⟨rfl, rfl, rfl, by decide +kernel, rfl, by decide +kernel, by decide +kernel⟩
theorem ok_mixed {f : Addr} {fd : FuncData} {k : Nat} (F : Fun K "_law_mixed" "_law_mixed" sMixed f fd) : FnOk P w K mg base (L2.CX P w) (k + 1) f fd ["_law_cell_here", "_law_k"] (SpD K TL fMixed) := by
  refine fn_ok F scMixed (fun ds μ q R h => ?_) (fun cdv Ar' outer s0 H E F0 ds μ q R hr G hf hR => ?_)
  · obtain ⟨c, j, rfl, _⟩ := h
    rfl
  · obtain ⟨c, j, rfl, hq⟩ := hf
    exact ss_ret (jv_mod (by decide) (jv_mul cmulR (jv_add (jv_add (jv_var 0) (jv_mul cmulL jv_int (jv_var 1))) jv_int) jv_int) jv_int) (hq _ (Int.emod_nonneg _ (by decide)))
def fNumber : Fn := fun ds μ Q _ => ∃ (c : Int), ds = [.int c] ∧ ∀ z, Q (.int z) μ
theorem scNumber : FnScope ["_law_cell_here"] ["_law_cell_here"] (defScope sNumber) := ⟨rfl, rfl, rfl, by decide +kernel, rfl, by decide +kernel, by decide +kernel⟩
theorem ok_number {f : Addr} {fd : FuncData} {k : Nat} (F : Fun K "_law_number" "_law_number" sNumber f fd) : FnOk P w K mg base (L2.CX P w) (k + 1) f fd ["_law_cell_here"] (SpD K TL fNumber) := by
  refine fn_ok F scNumber (fun ds μ q R h => ?_) (fun cdv Ar' outer s0 H E F0 ds μ q R hr G hf hR => ?_)
  · obtain ⟨c, rfl, _⟩ := h
    rfl
  · obtain ⟨c, rfl, hq⟩ := hf
    refine ss_if (jb_cmp op_eq rv_eqI (jv_mod (by decide) (jv_var 0) jv_int) jv_int) (fun _ => ss_ret (jv_mod (by decide) (jv_fdiv cdiv (jv_var 0) jv_int) jv_int) (hq _)) (fun _ => ss_nil ?_)
    refine ss_if (jb_cmp op_eq rv_eqI (jv_mod (by decide) (jv_var 0) jv_int) jv_int) (fun _ => ss_ret (jv_sub (jv_sub (jv_pow cpow18 jv_int jv_int) jv_int) (jv_mod (by decide) (jv_fdiv cdiv (jv_var 0) jv_int) jv_int)) (hq _)) (fun _ => ss_nil ?_)
    exact ss_ret (jv_mod (by rw [pow18]; decide) (jv_mul cmulR (jv_var 0) jv_int) (jv_pow cpow18 jv_int jv_int)) (hq _)
def fFree : Fn := fun ds μ Q _ => ∃ (ns : List Int), ds = [.sq (intsD ns)] ∧ ns.length ≤ 63 ∧ ∀ b, Q (.bl b) μ
theorem scFree : FnScope ["_law_script"] ["_law_script"] (defScope sFree) := ⟨rfl, rfl, rfl, by decide +kernel, rfl, by decide +kernel, by decide +kernel⟩
theorem ok_free {f : Addr} {fd : FuncData} (F : Fun K "_law_is_free" "_law_is_free" sFree f fd) (C : Cal P w K mg base TL "_law_cell" 1 fCell) : FnOk P w K mg base (L2.CX P w) 2 f fd ["_law_script"] (SpD K TL fFree) := by
  refine fn_ok F scFree (fun ds μ q R h => ?_) (fun cdv Ar' outer s0 H E F0 ds μ q R hr G hf hR => ?_)
  · obtain ⟨ns, rfl, _⟩ := h
    rfl
  · obtain ⟨ns, rfl, hl, hq⟩ := hf
    refine ss_retJ ?_
    intro F σ H' q' R' k
    -- the cell's value is any
    refine of_pe (pe_cmpR op_eq pe_s pe_int (nomark _)) ?_
    refine of_pe (pe_op op_mod pe_s pe_int) ?_
    refine (j_call (Q := fun d μ' => (∃ z, d = .int z) ∧ μ' = μ) C G hr ((ja_cons (jv_var 0) (ja_cons jv_int ja_nil)).at ⟨ns, 0, rfl, hl, fun z => ⟨⟨z, rfl⟩, rfl⟩⟩)) F σ H' _ R' ?_
    rintro v d μ' F' H2 ⟨⟨z, rfl⟩, rfl⟩ hv s m
    cases hv
    refine ⟨z, 2, rfl, rfl, (show (0 : Int) < 2 by decide), rfl, ?_⟩
    exact k _ _ _ F' H2 (hq _) .bl s m
/-! ### _law_names -/
def fNames : Fn := fun ds μ Q _ => ∃ (c : Int), ds = [.int c, .int 5] ∧ ∀ xs : List Str, xs.length = 5 → Q (.lst (xs.map D.str)) μ
theorem scNames : FnScope ["_law_cell_here", "_law_many", "_law_signs", "_law_kept", "_law_size", "_law_at", "_law_names_here", "_law_k", "_law_word", "_law_j", "_law_step"] ["_law_cell_here", "_law_many"] (defScope sNames) := ⟨rfl, rfl, rfl, by decide +kernel, rfl, by decide +kernel, by decide +kernel⟩
abbrev signs : Str := "abcdefghijklmnopqrstuvwxyz_"
theorem signs_len : signs.cps.toList.length = 27 := by decide +kernel
theorem sign_at (z : Int) : ∃ c, atI signs.cps.toList (z % 27) = some c := by
  have h0 := Int.emod_nonneg z (show (27 : Int) ≠ 0 by decide)
  have h1 := Int.emod_lt_of_pos z (show (0 : Int) < 27 by decide)
  obtain ⟨m, hm⟩ : ∃ m : Nat, z % 27 = (m : Int) := ⟨(z % 27).toNat, by omega⟩
  rw [hm] at h1 ⊢
  have hl : m < signs.cps.toList.length := by rw [signs_len]; omega
  exact ⟨signs.cps.toList[m], atI_nat (List.getElem?_eq_getElem hl)⟩
theorem ok_names {f : Addr} {fd : FuncData} (F : Fun K "_law_names" "_law_names" sNames f fd) (B : Bl mg) (C : Cal P w K mg base TL "_law_mixed" 1 fMixed) : FnOk P w K mg base (L2.CX P w) 2 f fd ["_law_cell_here", "_law_many"] (SpD K TL fNames) := by
  refine fn_ok F scNames (fun ds μ q R h => ?_) (fun cdv Ar' outer s0 H E F0 ds μ q R hr G hf hR => ?_)
  · obtain ⟨c, rfl, _⟩ := h
    rfl
  · obtain ⟨c, rfl, hq⟩ := hf
    refine ss_set 2 G jv_str ?_
    refine ss_set 3 G (d := .lst ((["let", "in", "if", "then", "else", "fn", "rec", "yes", "no"] : List Str).map D.str)) (jv_lst (ja_cons jv_str (ja_cons jv_str (ja_cons jv_str (ja_cons jv_str (ja_cons jv_str (ja_cons jv_str (ja_cons jv_str (ja_cons jv_str (ja_cons jv_str ja_nil)))))))))) ?_
    refine ss_setJ 0 G (j_call C G hr ((ja_cons (jv_var 0) (ja_cons jv_int ja_nil)).at ⟨c, 3, rfl, fun z hz => ?_⟩))
    have hs0 := Int.emod_nonneg z (show (8 : Int) ≠ 0 by decide)
    have hs1 := Int.emod_lt_of_pos z (show (0 : Int) < 8 by decide)
    refine ss_set 4 G (jv_add jv_int (jv_mod (by decide) (jv_var 0) jv_int)) ?_
    obtain ⟨sz, hsz, hszl, hszp⟩ : ∃ sz : Nat, (1 : Int) + z % 8 = (sz : Int) ∧ sz ≤ 8 ∧ 1 ≤ sz := ⟨(1 + z % 8).toNat, by omega, by omega, by omega⟩
    rw [hsz]
    refine ss_set 5 G (jv_mod (i := z / 8) (j := (sz : Int)) (by omega) (jv_fdiv (i := z) (j := 8) cdiv (jv_var 0) jv_int) (jv_var 4)) ?_
    generalize z / 8 % (sz : Int) = at_
    refine ss_setJ 6 G (j_lstM ja_nil fun n hn => ?_)
    refine ss_forR B (n := 5) G (jv_var 1) (by decide) (fun i ρ μ' => ∃ (xs : List Str) (k7 k8 k9 k10 : Option D), xs.length = i ∧ ρ = ([some (.int z), some (.int 5), some (.str signs), some (.lst ((["let", "in", "if", "then", "else", "fn", "rec", "yes", "no"] : List Str).map D.str)), some (.int (sz : Int)), some (.int at_), some (.adr n), k7, k8, k9, k10] : Rho) ∧ μ' = μ.put n (.lst (xs.map D.str)))
      ⟨[], none, none, none, none, rfl, rfl, rfl⟩ ?_ ?_
    · rintro i ρ' μ' hi ⟨xs, k7, k8, k9, k10, hxs, rfl, rfl⟩
      refine jg_name 7 G ?_
      refine ss_set 8 G jv_str ?_
      refine ss_forR B (n := sz) G (jv_var 4) (by omega) (fun j ρ μ' => ∃ (wd : Str) (k9 k10 : Option D), wd.length = j ∧ ρ = ([some (.int z), some (.int 5), some (.str signs), some (.lst ((["let", "in", "if", "then", "else", "fn", "rec", "yes", "no"] : List Str).map D.str)), some (.int (sz : Int)), some (.int at_), some (.adr n), some (.int (i : Int)), some (.str wd), k9, k10] : Rho) ∧ μ' = μ.put n (.lst (xs.map D.str)))
        ⟨"", k9, k10, rfl, rfl, rfl⟩ ?_ ?_
      · rintro j ρ' μ' hj ⟨wd, k9, k10, hwd, rfl, rfl⟩
        refine jg_name 9 G ?_
        refine ss_set 10 G (jv_add (jv_fdiv (show CDiv _ ((j : Int) + 1) from ⟨by omega, by omega⟩) (jv_fdiv cdiv (jv_var 0) jv_int) (jv_add (jv_var 9) jv_int)) (jv_mul cmulL jv_int (jv_var 9))) ?_
        generalize z / 64 / ((j : Int) + 1) + 5 * (j : Int) = stp
        obtain ⟨c2, hc2⟩ := sign_at (stp + (i : Int) * (if decide ((j : Int) = at_) = true then 1 else 0))
        refine ss_set 8 G (jv_addS (t := ⟨#[c2]⟩) (by rw [hwd]; show j + 1 ≤ _; omega) (jv_var 8) (jv_ixS (by show signs.cps.size ≤ _; decide +kernel) hc2 (jv_var 2) (jv_mod (by decide) (jv_add (jv_var 10) (jv_mul (cmulL ⟨by omega, by omega⟩) (jv_var 7) (jv_intB B (jv_cmp op_eq rv_eqI (jv_var 9) (jv_var 5))))) jv_int))) (ss_nil ⟨_, _, _, ?_, rfl, rfl⟩)
        rw [str_app, hwd]
        rfl
      · rintro ρ' μ' ⟨wd, k9, k10, hwd, rfl, rfl⟩
        refine ss_if (jb_cmp op_in_seq rv_inL (jv_var 8) (jv_var 3)) (fun _ => ss_set 8 G (jv_addS (by rw [hwd]; show sz + 1 ≤ _; omega) (jv_var 8) jv_str) (ss_nil ?_)) (fun _ => ss_nil ?_)
        · exact ss_expr (jv_append (jv_var 6) Mu.put_same (jv_var 8) Mu.put_same (by rw [List.length_map]; omega)) (ss_nil ⟨xs ++ [wd ++ "_"], _, _, _, _, (by rw [List.length_append, hxs]; rfl), rfl, (by rw [Mu.put_put, List.map_append]; rfl)⟩)
        · exact ss_expr (jv_append (jv_var 6) Mu.put_same (jv_var 8) Mu.put_same (by rw [List.length_map]; omega)) (ss_nil ⟨xs ++ [wd], _, _, _, _, (by rw [List.length_append, hxs]; rfl), rfl, (by rw [Mu.put_put, List.map_append]; rfl)⟩)
    · rintro ρ' μ' ⟨xs, k7, k8, k9, k10, hxs, rfl, rfl⟩
      refine ss_ret (jv_freeze (jv_var 6) Mu.put_same fun a mo h => ?_) (hq xs hxs)
      have ha : a ≠ n := fun z => by rw [z, hn] at h; cases h
      exact ⟨by rw [Mu.put_ne ha]; exact h, ha⟩
end
end Gs

/-! The walk of the law's own defs: a tree's end, any tree, a tree of the sort that is asked. -/
namespace Gs
open PySem PySem.Spec PyProof.Rows L2
abbrev sAny : Stmt := top 30
abbrev sForm : Stmt := top 32
abbrev Sar := List (Str × Str)
def sarD (ar : Sar) : D := .lst (ar.map fun p => .tup [.str p.1, .str p.2])
theorem str_at {ys : List Str} {i : Int} (h0 : 0 ≤ i) (h1 : i < (ys.length : Int)) : ∃ s, atI (ys.map D.str) i = some (.str s) := by
  obtain ⟨m, hm⟩ : ∃ m : Nat, i = (m : Int) := ⟨i.toNat, by omega⟩
  subst hm
  have hl : m < ys.length := by omega
  exact ⟨ys[m], atI_nat (by rw [List.getElem?_map, List.getElem?_eq_getElem hl]; rfl)⟩
theorem mod_in (z : Int) {n : Int} (h : 0 < n) : 0 ≤ z % n ∧ z % n < n := ⟨Int.emod_nonneg z (by omega), Int.emod_lt_of_pos z h⟩
section
variable {P : Program} {w : World} {K : PySem.W.Frag} {mg : Str → Option Value} {base : Heap} {TL : Addr} {A : CA}
def fEnd : Fn := fun ds μ Q _ => ∃ (c : Int) (ar : Sar) (xs : List Str) (s : Str), ds = [.int c, sarD ar, .lst (xs.map D.str), .str s] ∧ ar.length ≤ 50000 ∧ xs.length = 5 ∧ ∀ t : Tm, Q t.d μ
theorem scEnd : FnScope ["_law_cell_here", "_law_around", "_law_names_here", "_law_sort", "_law_pick", "_law_known", "_law_name", "_law_kind"] ["_law_cell_here", "_law_around", "_law_names_here", "_law_sort"] (defScope sEnd) := ⟨rfl, rfl, rfl, by decide +kernel, rfl, by decide +kernel, by decide +kernel⟩
theorem ok_end {f : Addr} {fd : FuncData} (F : Fun K "_law_end" "_law_end" sEnd f fd) (B : Bl mg) (C : Cal P w K mg base TL "_law_number" 1 fNumber) : FnOk P w K mg base (L2.CX P w) 2 f fd ["_law_cell_here", "_law_around", "_law_names_here", "_law_sort"] (SpD K TL fEnd) := by
  refine fn_ok F scEnd (fun ds μ q R h => ?_) (fun cdv Ar' outer s0 H E F0 ds μ q R hr G hf hR => ?_)
  · obtain ⟨c, ar, xs, s, rfl, _⟩ := h
    rfl
  · obtain ⟨c, ar, xs, s, rfl, har, hxs, hq⟩ := hf
    refine ss_set 4 G (jv_mod (i := c) (j := 8) (by decide) (jv_var 0) jv_int) ?_
    refine ss_set 0 G (jv_fdiv (i := c) (j := 8) cdiv (jv_var 0) jv_int) ?_
    generalize c % 8 = pick
    generalize c / 8 = z
    refine ss_lc2 (i := 6) (j := 7) (iy := 5) G ar (fun p => .str p.1) (fun p => .str p.2) (JV.is (jv_var 1) rfl) (by decide) (blkOk_by (own := [("_law_name", 6), ("_law_kind", 7)]) (N := ["_law_cell_here", "_law_around", "_law_names_here", "_law_sort", "_law_pick", "_law_known", "_law_name", "_law_kind"]) (sc := defScope sEnd) (by decide +kernel)) (by omega) rfl rfl
      (fun _ _ _ _ _ => ⟨rfl, rfl⟩) (fun _ _ _ _ _ h => pg_tup G.calm h) (fun _ _ _ _ _ h1 h2 => pgs_cons h1 (pgs_cons h2 pgs_nil)) (fun p => decide (p.2 = s)) (fun p => D.str p.1) (.inr ⟨_, rfl, fun _ _ _ _ _ p _ _ => jb_cmp op_eq rv_eqS (jv_var 7) (jv_var 3)⟩) (fun _ _ _ _ _ p _ _ => jv_var 6) ?_ rfl rfl (sw_true rfl rfl rfl (by decide +kernel))
    have eK : ((ar.filter fun p => decide (p.2 = s)).map fun p => D.str p.1) = ((ar.filter fun p => decide (p.2 = s)).map (·.1)).map D.str := by rw [List.map_map]; rfl
    have hkl : ((ar.filter fun p => decide (p.2 = s)).map (·.1)).length ≤ 50000 := by
      rw [List.length_map]
      exact Nat.le_trans (List.length_filter_le _ _) har
    rw [eK]
    generalize ((ar.filter fun p => decide (p.2 = s)).map (·.1)) = ks at hkl
    have hkm : (ks.map D.str).length = ks.length := List.length_map _
    refine ss_if (jb_cmp op_lt rv_lt (jv_var 4) jv_int) (fun _ => ss_ret (jv_tup (ja_cons jv_str (ja_cons jv_non (ja_cons (jv_tup ja_nil) ja_nil)))) (hq .gap)) (fun _ => ss_nil ?_)
    refine ss_if (jb_w (jw_and (jb_cmp op_lt rv_lt (jv_var 4) jv_int) fun _ => jw_and1 (jb_cmp op_gt rv_gt (jv_len B (jv_var 5) rfl (by rw [hkm]; omega)) jv_int))) (fun e => ?_) (fun _ => ss_nil ?_)
    · have hpos : (0 : Int) < (ks.length : Int) := by
        have e2 : decide ((0 : Int) < (((ks.map D.str).length : Nat) : Int)) = true := by
          cases q1 : decide (pick < 5) with
          | true => rw [q1] at e; exact e
          | false => rw [q1] at e; cases e
        rw [hkm] at e2
        exact of_decide_eq_true e2
      obtain ⟨y, hy⟩ := str_at (ys := ks) (mod_in z hpos).1 (mod_in z hpos).2
      exact ss_ret (jv_tup (ja_cons jv_str (ja_cons (jv_ixL hy (jv_var 5) (jv_mod hpos (jv_var 0) (JV.is (jv_len B (jv_var 5) rfl (by rw [hkm]; omega)) (by rw [hkm])))) (ja_cons (jv_tup ja_nil) ja_nil)))) (hq (.name y))
    obtain ⟨y4, hy4⟩ := str_at (ys := xs) (i := 4) (by decide) (by rw [hxs]; decide)
    refine ss_if (jb_w (jw_and (jb_cmp op_eq rv_eqI (jv_var 4) jv_int) fun _ => jw_and1 (jb_cmp op_eq rv_eqI (jv_mod (i := z) (j := 3) (by decide) (jv_var 0) jv_int) jv_int))) (fun _ => ss_ret (jv_tup (ja_cons jv_str (ja_cons (jv_ixL hy4 (jv_var 2) jv_int) (ja_cons (jv_tup ja_nil) ja_nil)))) (hq (.name y4))) (fun _ => ss_nil ?_)
    have hm3 := mod_in (z / 3) (show (0 : Int) < 1000 by decide)
    refine ss_if (jb_w (jw_and (jb_cmp op_eq rv_eqI (jv_var 4) jv_int) fun _ => jw_and1 (jb_cmp op_eq rv_eqI (jv_mod (i := z) (j := 3) (by decide) (jv_var 0) jv_int) jv_int)))
      (fun _ => ss_ret (jv_tup (ja_cons jv_str (ja_cons (jv_addS (odd_len hm3.1 (by omega)) jv_str (jv_strI B (jv_mod (i := z / 3) (j := 1000) (by decide) (jv_fdiv (i := z) (j := 3) cdiv (jv_var 0) jv_int) jv_int) (log_small hm3.1 (by omega)))) (ja_cons (jv_tup ja_nil) ja_nil)))) (hq (.odd _))) (fun _ => ss_nil ?_)
    refine ss_if (jb_cmp op_eq rv_eqS (jv_var 3) jv_str) (fun _ => ss_ret (jv_tup (ja_cons jv_str (ja_cons (jv_cmp op_eq rv_eqI (jv_mod (i := z) (j := 2) (by decide) (jv_var 0) jv_int) jv_int) (ja_cons (jv_tup ja_nil) ja_nil)))) (hq (.truth _))) (fun _ => ss_nil ?_)
    obtain ⟨ya, hya⟩ := str_at (ys := xs) (mod_in z (show (0 : Int) < 4 by decide)).1 (by have := (mod_in z (show (0 : Int) < 4 by decide)).2; rw [hxs]; omega)
    obtain ⟨yb, hyb⟩ := str_at (ys := xs) (mod_in (z / 4) (show (0 : Int) < 5 by decide)).1 (by have := (mod_in (z / 4) (show (0 : Int) < 5 by decide)).2; rw [hxs]; omega)
    refine ss_if (jb_cmp op_eq rv_eqS (jv_var 3) jv_str) (fun _ => ss_ret (jv_tup (ja_cons jv_str (ja_cons (jv_ixL hya (jv_var 2) (jv_mod (by decide) (jv_var 0) jv_int)) (ja_cons (jv_tup (ja_cons (jv_tup (ja_cons jv_str (ja_cons (jv_ixL hyb (jv_var 2) (jv_mod (i := z / 4) (j := 5) (by decide) (jv_fdiv (i := z) (j := 4) cdiv (jv_var 0) jv_int) jv_int)) (ja_cons (jv_tup ja_nil) ja_nil)))) ja_nil)) ja_nil))))
      (hq (.fn ya (.name yb)))) (fun _ => ss_nil ?_)
    exact ss_retJ (j_tup (ja_consJ (jv_str.at (ja_consJ (j_call C G hr ((ja_cons (jv_var 0) ja_nil).at ⟨z, rfl, fun n => (ja_cons (jv_tup ja_nil) ja_nil).at ⟨by simp, hq (.num n)⟩⟩))))))
end
end Gs

/-! The walk of the law's own defs: any tree. -/
namespace Gs
open PySem PySem.Spec PyProof.Rows L2
section
variable {X : Cx} {F0 : Hp} {ρ : Rho} {μ μ1 : Mu} {e o : Expr} {Q : D → Mu → Prop} {apos cpos : Pos} {n : Addr} {ds0 : List D}
theorem j_appendJ (ho : JV X F0 o ρ μ (.adr n) μ1) (h1 : μ1 n = some (.lst ds0)) (ha : J X F0 e ρ μ1 fun d μ2 => ∃ ds, μ2 n = some (.lst ds) ∧ ds.length ≤ 100000 ∧ Q .non (μ2.put n (.lst (ds ++ [d]))))
    (hbase : attributeBase o "append" X.env (eval o X.env) = eval o X.env := by rfl)
    (hfew : ((backTo cpos (starEach (e :: []) X.env)).all (fun x => !x.1) && (backToKw cpos (keywordEach [] X.env)).all (fun x => x.1.isSome) && decide ((e :: []).length + ([] : List Keyword).length + (if ([] : List Keyword).isEmpty then 0 else 1) < 30)) = true := by rfl)
    (hline : (apos.endLine == cpos.line) = true := by rfl) (hs : starEach (e :: []) X.env = (false, eval e X.env) :: starEach [] X.env := by rfl) (hplain : (backTo cpos (starEach [] X.env)).any (·.1) = false := by rfl) :
    J X F0 (.Call (.Attribute o "append" apos) [e] [] cpos) ρ μ Q := fun F σ H q R k => by
  refine of_pe (pe_bm PySem.F.plainAttrs_list PySem.F.slot_list_append PySem.F.type_list_append mt_append pe_s (pa_cons pe_s pa_nil hs) hbase hfew hline hs hplain) (ho.run R fun v F1 H1 h s m R1 => ?_)
  cases h
  obtain ⟨xs0, e0, _⟩ := m.list h1
  refine ⟨.inl ⟨rfl, xs0, SqL.of e0⟩, ha F1 _ H1 _ R1 fun y d μ2 F2 H2 ⟨ds, h2, hl, hq⟩ hy s2 m2 => ?_⟩
  obtain ⟨xs, e1, t⟩ := m2.list h2
  exact ⟨n, xs, y, rfl, rfl, e1, by rw [t.length]; exact smallT hl, k _ _ _ F2 _ hq .non (s.trans s2) (m2.writeL h2 (t.append (.cons hy .nil)))⟩
def Mu.del (μ : Mu) (a : Addr) : Mu := fun b => if b = a then Option.none else μ b
theorem Mu.del_ne {μ : Mu} {a b : Addr} (h : b ≠ a) : μ.del a b = μ b := if_neg h
theorem Mu.del_same {μ : Mu} {a : Addr} : μ.del a a = Option.none := if_pos rfl
theorem J.drop (a : Addr) (h : J X F0 e ρ μ fun d μ1 => Q d (μ1.del a)) : J X F0 e ρ μ Q := fun F σ H q R k => h F σ H q R fun v d μ' F' H' x y s m => k v d (μ'.del a) F' H' x y s (m.less fun b mo hb => by
  unfold Mu.del at hb
  by_cases z : b = a
  · rw [if_pos z] at hb; cases hb
  · rw [if_neg z] at hb; exact hb)
end
abbrev words : List Str := ["gap", "num", "name", "truth", "odd", "plus", "minus", "less", "call", "if", "fn", "rec", "let"]
theorem words_nd : words.Nodup := by decide +kernel
abbrev manyL : List D := [.int 0, .int 2, .int 2, .int 2, .int 2, .int 3, .int 1, .int 1, .int 2]
/-- the cells at p, all else as in μ -/
structure CM (μ : Mu) (p : Addr) (μ' : Mu) : Prop where
  at_ : ∃ ns, μ' p = some (.lst (intsD ns)) ∧ ns.length ≤ 1000
  oth : ∀ a, a ≠ p → μ' a = μ a
theorem CM.trans {μ μ1 μ2 : Mu} {p : Addr} (a : CM μ p μ1) (b : CM μ1 p μ2) : CM μ p μ2 := ⟨b.at_, fun x h => (b.oth x h).trans (a.oth x h)⟩
section
variable {P : Program} {w : World} {K : PySem.W.Frag} {mg : Str → Option Value} {base : Heap} {TL : Addr} {A : CA}
def fAny (n : Nat) : Fn := fun ds μ Q _ => ∃ (p : Addr) (xs : List Str), ds = [.adr p, .lst (xs.map D.str), .int (n : Int)] ∧ CM μ p μ ∧ xs.length = 5 ∧ ∀ (t : Tm) μ', CM μ p μ' → Q t.d μ'
abbrev nAny : List Str := ["_law_cells", "_law_names_here", "_law_deep", "_law_cell_here", "_law_rest", "_law_some", "_law_word", "_law_note", "_law_many", "_law_parts", "_law_k"]
theorem scAny : FnScope nAny ["_law_cells", "_law_names_here", "_law_deep"] (defScope sAny) := ⟨rfl, rfl, rfl, by decide +kernel, rfl, by decide +kernel, by decide +kernel⟩
abbrev XAny (P : Program) (w : World) (K : PySem.W.Frag) (mg : Str → Option Value) (base : Heap) (f : Addr) (cdv : Value) (Ar : Around) (outer : List Env) (s0 : Shared) (H : Hp) (E : XK) : Cx := cxOf (L2.CX P w) P w K mg base nAny "_law_any" (defScope sAny) f cdv Ar outer s0 H E
section
variable {f : Addr} {cdv : Value} {Ar' : Around} {outer : List Env} {s0 : Shared} {H : Hp} {E : XK} {F0 : Hp} {μ : Mu} {q : D → Mu → Prop} {n k : Nat}
/-- from _law_many on -/
theorem any_fin (B : Bl mg) (G : GX (XAny P w K mg base f cdv Ar' outer s0 H E) E) (hr : Room k (XAny P w K mg base f cdv Ar' outer s0 H E).A) (hC : n ≠ 0 → ∃ n', n = n' + 1 ∧ Cal P w K mg base TL "_law_any" k (fAny n')) {p : Addr} {xs : List Str} (hxs : xs.length = 5) (hq : ∀ (t : Tm) μ', CM μ p μ' → q t.d μ')
    {z r : Int} {j m : Nat} {wd : Str} {note : D} (hj : words[j]? = some wd) (hmany : atI manyL (if (j : Int) - 4 > 0 then (j : Int) - 4 else 0) = some (.int (m : Int))) (hm : m ≤ 3) (hn0 : m ≠ 0 → n ≠ 0) (ht : ∀ ts : List Tm, ts.length = m → ∃ t : Tm, t.d = .tup [.str wd, note, .tup (ts.map Tm.d)]) {μ1 : Mu} (hμ1 : CM μ p μ1) :
    JSs (XAny P w K mg base f cdv Ar' outer s0 H E) F0 ((defBody sAny).drop 13) ([some (.adr p), some (.lst (xs.map D.str)), some (.int (n : Int)), some (.int z), some (.int r), some (.lst (words.map D.str)), some (.str wd), some note, none, none, none] : Rho) μ1 { nx := fun _ μ' => q .non μ', rt := q } := by
  refine ss_set 8 G (d := .int (m : Int)) (jv_ixL hmany (jv_lst (ja_cons jv_int (ja_cons jv_int (ja_cons jv_int (ja_cons jv_int (ja_cons jv_int (ja_cons jv_int (ja_cons jv_int (ja_cons jv_int (ja_cons jv_int ja_nil)))))))))) (jv_max B G.calm jv_int (jv_sub (jv_index (jv_var 5) (jv_var 6) hj (fun a t ha hta => fun e => ?_)) jv_int))) ?_
  · subst e
    exact absurd (nd_ix words_nd hta hj) (by omega)
  refine ss_setJ 9 G (j_lstM ja_nil fun pn hpn => ?_)
  have hpp : pn ≠ p := fun e => by
    obtain ⟨ns, h, _⟩ := hμ1.at_
    rw [e, h] at hpn; cases hpn
  refine ss_forR B (n := m) G (jv_var 8) (by omega) (fun i ρ μ' => ∃ (ts : List Tm) (k10 : Option D), ts.length = i ∧ ρ = ([some (.adr p), some (.lst (xs.map D.str)), some (.int (n : Int)), some (.int z), some (.int r), some (.lst (words.map D.str)), some (.str wd), some note, some (.int (m : Int)), some (.adr pn), k10] : Rho) ∧
    μ' pn = some (.lst (ts.map Tm.d)) ∧ CM (μ1.put pn (.lst (ts.map Tm.d))) p μ') ⟨[], none, rfl, rfl, Mu.put_same, ?_, fun _ _ => rfl⟩ ?_ ?_
  · obtain ⟨ns, h1, h2⟩ := hμ1.at_
    exact ⟨ns, by rw [Mu.put_ne hpp.symm]; exact h1, h2⟩
  · rintro i ρ' μ' hi ⟨ts, k10, hts, rfl, hpn', hcm⟩
    obtain ⟨n', rfl, C⟩ := hC (hn0 (by omega))
    refine jg_name 10 G ?_
    have en : ((n' + 1 : Nat) : Int) - 1 = (n' : Int) := by omega
    refine ss_exprJ (j_appendJ (jv_var 9) hpn' (j_call C G hr ((ja_cons (jv_var 0) (ja_cons (jv_var 1) (ja_cons (JV.is (jv_sub (jv_var 2) jv_int) (congrArg D.int en)) ja_nil))).at ⟨p, xs, rfl, ⟨hcm.at_, fun _ _ => rfl⟩, hxs, fun t μ2 h2 => ?_⟩)))
    have e2 : μ2 pn = some (.lst (ts.map Tm.d)) := (h2.oth pn hpp).trans hpn'
    refine ⟨_, e2, by rw [List.length_map]; omega, ss_nil ⟨ts ++ [t], _, by rw [List.length_append, hts]; rfl, rfl, ?_, ?_, fun a ha => ?_⟩⟩
    · rw [Mu.put_same, List.map_append]; rfl
    · obtain ⟨ns, h1, h3⟩ := h2.at_
      exact ⟨ns, by rw [Mu.put_ne hpp.symm]; exact h1, h3⟩
    · by_cases hap : a = pn
      · subst hap
        rw [Mu.put_same, Mu.put_same, List.map_append]; rfl
      · rw [Mu.put_ne hap, Mu.put_ne hap, h2.oth a ha, hcm.oth a ha, Mu.put_ne hap]
  · rintro ρ' μ' ⟨ts, k10, hts, rfl, hpn', hcm⟩
    obtain ⟨t, et⟩ := ht ts hts
    refine ss_retJ (J.drop pn ((JV.is (jv_tup (ja_cons (jv_var 6) (ja_cons (jv_var 7) (ja_cons (jv_tupleM B (jv_var 9) hpn') ja_nil)))) et.symm).at (hq t _ ⟨?_, fun a ha => ?_⟩)))
    · obtain ⟨ns, h1, h3⟩ := hcm.at_
      exact ⟨ns, by rw [Mu.del_ne hpp.symm]; exact h1, h3⟩
    · by_cases hap : a = pn
      · subst hap
        rw [Mu.del_same, ← hμ1.oth a ha, hpn]
      · rw [Mu.del_ne hap, hcm.oth a ha, Mu.put_ne hap, hμ1.oth a ha]
end
end
end Gs

/-! The walk of the law's own defs: any tree, by its word. -/
namespace Gs
open PySem PySem.Spec PyProof.Rows L2
section
variable {P : Program} {w : World} {K : PySem.W.Frag} {mg : Str → Option Value} {base : Heap} {TL : Addr} {A : CA}
section
variable {f : Addr} {cdv : Value} {Ar' : Around} {outer : List Env} {s0 : Shared} {H : Hp} {E : XK} {F0 : Hp} {μ : Mu} {q : D → Mu → Prop} {n k : Nat}
/-- from the word on -/
theorem any_word (B : Bl mg) (G : GX (XAny P w K mg base f cdv Ar' outer s0 H E) E) (hr : Room k (XAny P w K mg base f cdv Ar' outer s0 H E).A) (hC : n ≠ 0 → ∃ n', n = n' + 1 ∧ Cal P w K mg base TL "_law_any" k (fAny n')) {p : Addr} {xs : List Str} (hxs : xs.length = 5) (hq : ∀ (t : Tm) μ', CM μ p μ' → q t.d μ')
    {z r : Int} {j : Nat} {wd : Str} (hj : words[j]? = some wd) (hn : n = 0 → j < 5) {μ1 : Mu} (hμ1 : CM μ p μ1) :
    JSs (XAny P w K mg base f cdv Ar' outer s0 H E) F0 ((defBody sAny).drop 6) ([some (.adr p), some (.lst (xs.map D.str)), some (.int (n : Int)), some (.int z), some (.int r), some (.lst (words.map D.str)), some (.str wd), none, none, none, none] : Rho) μ1 { nx := fun _ μ' => q .non μ', rt := q } := by
  have hxl : (xs.map D.str).length = 5 := by rw [List.length_map]; exact hxs
  have hxi : (((xs.map D.str).length : Nat) : Int) = 5 := by rw [hxl]; rfl
  have h5 := mod_in r (show (0 : Int) < 5 by decide)
  have h55 := mod_in (r / 5) (show (0 : Int) < 5 by decide)
  obtain ⟨y, hy⟩ := str_at (ys := xs) h5.1 (by rw [hxs]; exact h5.2)
  obtain ⟨y2, hy2⟩ := str_at (ys := xs) h55.1 (by rw [hxs]; exact h55.2)
  have lenE : ∀ {ρ : Rho} {μ : Mu} {p1 p2 p3 : Pos}, ρ[1]? = some (some (.lst (xs.map D.str))) → JV (XAny P w K mg base f cdv Ar' outer s0 H E) F0 (.Call (.Name "len" p1) [.Name "_law_names_here" p2] [] p3) ρ μ (.int 5) μ := fun h => JV.is (jv_len B (jv_var 1 h) rfl (by rw [hxl]; decide)) (congrArg D.int hxi)
  have r18 := mod_in r (show (0 : Int) < 1000000000000000000 by decide)
  -- the early ones
  by_cases e1 : wd = "num"
  · subst e1
    exact ss_ifT (JB.is (jb_cmp op_eq rv_eqS (jv_var 6) jv_str) rfl) (ss_ret (jv_tup (ja_cons (jv_var 6) (ja_cons (jv_mod (by rw [pow18]; decide) (jv_var 4) (jv_pow cpow18 jv_int jv_int)) (ja_cons (jv_tup ja_nil) ja_nil)))) (hq (.num _) _ hμ1))
  refine ss_if0 (JB.is (jb_cmp op_eq rv_eqS (jv_var 6) jv_str) (decide_eq_false e1)) ?_
  by_cases e2 : wd = "truth"
  · subst e2
    exact ss_ifT (JB.is (jb_cmp op_eq rv_eqS (jv_var 6) jv_str) rfl) (ss_ret (jv_tup (ja_cons (jv_var 6) (ja_cons (jv_cmp op_eq rv_eqI (jv_mod (i := r) (j := 2) (by decide) (jv_var 4) jv_int) jv_int) (ja_cons (jv_tup ja_nil) ja_nil)))) (hq (.truth _) _ hμ1))
  refine ss_if0 (JB.is (jb_cmp op_eq rv_eqS (jv_var 6) jv_str) (decide_eq_false e2)) ?_
  by_cases e3 : wd = "name"
  · subst e3
    exact ss_ifT (JB.is (jb_cmp op_eq rv_eqS (jv_var 6) jv_str) rfl) (ss_ret (jv_tup (ja_cons (jv_var 6) (ja_cons (jv_ixL hy (jv_var 1) (jv_mod (by decide) (jv_var 4) (lenE rfl))) (ja_cons (jv_tup ja_nil) ja_nil)))) (hq (.name y) _ hμ1))
  refine ss_if0 (JB.is (jb_cmp op_eq rv_eqS (jv_var 6) jv_str) (decide_eq_false e3)) ?_
  by_cases e4 : wd = "odd"
  · subst e4
    refine ss_ifT (JB.is (jb_cmp op_eq rv_eqS (jv_var 6) jv_str) rfl) (ss_ret (jv_tup (ja_cons (jv_var 6) (ja_cons (jv_addS (odd_len r18.1 r18.2) jv_str (jv_strI B (JV.is (jv_mod (by rw [pow18]; decide) (jv_var 4) (jv_pow cpow18 jv_int jv_int)) (by rw [pow18])) (log_small r18.1 r18.2))) (ja_cons (jv_tup ja_nil) ja_nil)))) (hq (.odd _) _ hμ1))
  refine ss_if0 (JB.is (jb_cmp op_eq rv_eqS (jv_var 6) jv_str) (decide_eq_false e4)) ?_
  refine ss_set 7 G jv_non ?_
  have hm5 : 5 ≤ j → n ≠ 0 := fun h e => by have := hn e; omega
  match j, hj, hn, hm5 with
  | 0, hj, hn, hm5 =>
    have e : "gap" = wd := Option.some.inj hj
    subst e
    refine ss_if0 (jb_w (jw_orF (JB.is (jb_cmp op_eq rv_eqS (jv_var 6) jv_str) rfl) (jw_or1 (JB.is (jb_cmp op_eq rv_eqS (jv_var 6) jv_str) rfl)))) ?_
    refine ss_if0 (JB.is (jb_cmp op_eq rv_eqS (jv_var 6) jv_str) rfl) ?_
    refine any_fin B G hr hC hxs hq (j := 0) (m := 0) rfl rfl (by decide) (fun h => absurd rfl h) (fun ts h => ?_) hμ1
    have : ts = [] := List.eq_nil_of_length_eq_zero h
    subst this
    exact ⟨.gap, rfl⟩
  | 1, hj, hn, hm5 => exact absurd (Option.some.inj hj).symm e1
  | 2, hj, hn, hm5 => exact absurd (Option.some.inj hj).symm e3
  | 3, hj, hn, hm5 => exact absurd (Option.some.inj hj).symm e2
  | 4, hj, hn, hm5 => exact absurd (Option.some.inj hj).symm e4
  | 5, hj, hn, hm5 =>
    have e : "plus" = wd := Option.some.inj hj
    subst e
    refine ss_if0 (jb_w (jw_orF (JB.is (jb_cmp op_eq rv_eqS (jv_var 6) jv_str) rfl) (jw_or1 (JB.is (jb_cmp op_eq rv_eqS (jv_var 6) jv_str) rfl)))) ?_
    refine ss_if0 (JB.is (jb_cmp op_eq rv_eqS (jv_var 6) jv_str) rfl) ?_
    refine any_fin B G hr hC hxs hq (j := 5) (m := 2) rfl rfl (by decide) (fun h => hm5 (by decide)) (fun ts h => ?_) hμ1
    match ts, h with
    | [a, b], _ => exact ⟨.bin .plus a b, rfl⟩
  | 6, hj, hn, hm5 =>
    have e : "minus" = wd := Option.some.inj hj
    subst e
    refine ss_if0 (jb_w (jw_orF (JB.is (jb_cmp op_eq rv_eqS (jv_var 6) jv_str) rfl) (jw_or1 (JB.is (jb_cmp op_eq rv_eqS (jv_var 6) jv_str) rfl)))) ?_
    refine ss_if0 (JB.is (jb_cmp op_eq rv_eqS (jv_var 6) jv_str) rfl) ?_
    refine any_fin B G hr hC hxs hq (j := 6) (m := 2) rfl rfl (by decide) (fun h => hm5 (by decide)) (fun ts h => ?_) hμ1
    match ts, h with
    | [a, b], _ => exact ⟨.bin .minus a b, rfl⟩
  | 7, hj, hn, hm5 =>
    have e : "less" = wd := Option.some.inj hj
    subst e
    refine ss_if0 (jb_w (jw_orF (JB.is (jb_cmp op_eq rv_eqS (jv_var 6) jv_str) rfl) (jw_or1 (JB.is (jb_cmp op_eq rv_eqS (jv_var 6) jv_str) rfl)))) ?_
    refine ss_if0 (JB.is (jb_cmp op_eq rv_eqS (jv_var 6) jv_str) rfl) ?_
    refine any_fin B G hr hC hxs hq (j := 7) (m := 2) rfl rfl (by decide) (fun h => hm5 (by decide)) (fun ts h => ?_) hμ1
    match ts, h with
    | [a, b], _ => exact ⟨.bin .less a b, rfl⟩
  | 8, hj, hn, hm5 =>
    have e : "call" = wd := Option.some.inj hj
    subst e
    refine ss_if0 (jb_w (jw_orF (JB.is (jb_cmp op_eq rv_eqS (jv_var 6) jv_str) rfl) (jw_or1 (JB.is (jb_cmp op_eq rv_eqS (jv_var 6) jv_str) rfl)))) ?_
    refine ss_if0 (JB.is (jb_cmp op_eq rv_eqS (jv_var 6) jv_str) rfl) ?_
    refine any_fin B G hr hC hxs hq (j := 8) (m := 2) rfl rfl (by decide) (fun h => hm5 (by decide)) (fun ts h => ?_) hμ1
    match ts, h with
    | [a, b], _ => exact ⟨.bin .call a b, rfl⟩
  | 9, hj, hn, hm5 =>
    have e : "if" = wd := Option.some.inj hj
    subst e
    refine ss_if0 (jb_w (jw_orF (JB.is (jb_cmp op_eq rv_eqS (jv_var 6) jv_str) rfl) (jw_or1 (JB.is (jb_cmp op_eq rv_eqS (jv_var 6) jv_str) rfl)))) ?_
    refine ss_if0 (JB.is (jb_cmp op_eq rv_eqS (jv_var 6) jv_str) rfl) ?_
    refine any_fin B G hr hC hxs hq (j := 9) (m := 3) rfl rfl (by decide) (fun h => hm5 (by decide)) (fun ts h => ?_) hμ1
    match ts, h with
    | [a, b, c], _ => exact ⟨.ite a b c, rfl⟩
  | 10, hj, hn, hm5 =>
    have e : "fn" = wd := Option.some.inj hj
    subst e
    refine ss_ifT (jb_w (jw_orT (JB.is (jb_cmp op_eq rv_eqS (jv_var 6) jv_str) rfl))) (ss_set 7 G (jv_ixL hy (jv_var 1) (jv_mod (by decide) (jv_var 4) (lenE rfl))) (ss_nil ?_))
    refine ss_if0 (JB.is (jb_cmp op_eq rv_eqS (jv_var 6) jv_str) rfl) ?_
    refine any_fin B G hr hC hxs hq (j := 10) (m := 1) rfl rfl (by decide) (fun h => hm5 (by decide)) (fun ts h => ?_) hμ1
    match ts, h with
    | [a], _ => exact ⟨.fn y a, rfl⟩
  | 11, hj, hn, hm5 =>
    have e : "rec" = wd := Option.some.inj hj
    subst e
    refine ss_if0 (jb_w (jw_orF (JB.is (jb_cmp op_eq rv_eqS (jv_var 6) jv_str) rfl) (jw_or1 (JB.is (jb_cmp op_eq rv_eqS (jv_var 6) jv_str) rfl)))) ?_
    refine ss_ifT (JB.is (jb_cmp op_eq rv_eqS (jv_var 6) jv_str) rfl) (ss_set 7 G (jv_tup (ja_cons (jv_ixL hy (jv_var 1) (jv_mod (by decide) (jv_var 4) (lenE rfl))) (ja_cons (jv_ixL hy2 (jv_var 1) (jv_mod (by decide) (jv_fdiv cdiv (jv_var 4) (lenE rfl)) (lenE rfl))) ja_nil))) (ss_nil ?_))
    refine any_fin B G hr hC hxs hq (j := 11) (m := 1) rfl rfl (by decide) (fun h => hm5 (by decide)) (fun ts h => ?_) hμ1
    match ts, h with
    | [a], _ => exact ⟨.rc y y2 a, rfl⟩
  | 12, hj, hn, hm5 =>
    have e : "let" = wd := Option.some.inj hj
    subst e
    refine ss_ifT (jb_w (jw_orF (JB.is (jb_cmp op_eq rv_eqS (jv_var 6) jv_str) rfl) (jw_or1 (JB.is (jb_cmp op_eq rv_eqS (jv_var 6) jv_str) rfl)))) (ss_set 7 G (jv_ixL hy (jv_var 1) (jv_mod (by decide) (jv_var 4) (lenE rfl))) (ss_nil ?_))
    refine ss_if0 (JB.is (jb_cmp op_eq rv_eqS (jv_var 6) jv_str) rfl) ?_
    refine any_fin B G hr hC hxs hq (j := 12) (m := 2) rfl rfl (by decide) (fun h => hm5 (by decide)) (fun ts h => ?_) hμ1
    match ts, h with
    | [a, b], _ => exact ⟨.lt y a b, rfl⟩
  | j + 13, hj, hn, hm5 =>
    have h : words[j + 13]? = none := List.getElem?_eq_none (by show 13 ≤ j + 13; omega)
    rw [h] at hj
    cases hj
end
end
end Gs

/-! The walk of the law's own defs: any tree, whole; a tree of the sort that is asked. -/
namespace Gs
open PySem PySem.Spec PyProof.Rows L2
theorem word_at {ys : List Str} (z : Int) {n : Int} (h : 0 < n) (hl : n ≤ (ys.length : Int)) : ∃ (j : Nat) (s : Str), ys[j]? = some s ∧ atI (ys.map D.str) (z % n) = some (.str s) ∧ (j : Int) < n := by
  obtain ⟨h0, h1⟩ := mod_in z h
  obtain ⟨m, hm⟩ : ∃ m : Nat, z % n = (m : Int) := ⟨(z % n).toNat, by omega⟩
  have hlt : m < ys.length := by omega
  refine ⟨m, ys[m], List.getElem?_eq_getElem hlt, ?_, by omega⟩
  rw [hm]
  exact atI_nat (by rw [List.getElem?_map, List.getElem?_eq_getElem hlt]; rfl)
abbrev kinds : List Str := ["num", "truth", "fun"]
theorem CM.popped {μ μ' : Mu} {p : Addr} {l : List Int} {a : Int} (h : CM μ p μ') (e : μ' p = some (.lst (intsD (l ++ [a])))) (hl : (l ++ [a]).length ≤ 1000) : CM μ p (μ'.put p (.lst (intsD l))) := by
  refine ⟨⟨l, Mu.put_same, by rw [List.length_append] at hl; omega⟩, fun b hb => ?_⟩
  rw [Mu.put_ne hb]
  exact h.oth b hb
section
variable {P : Program} {w : World} {K : PySem.W.Frag} {mg : Str → Option Value} {base : Heap} {TL : Addr} {A : CA}
theorem any_step {f : Addr} {fd : FuncData} {n c : Nat} (F : Fun K "_law_any" "_law_any" sAny f fd) (B : Bl mg) (hC : n ≠ 0 → ∃ n', n = n' + 1 ∧ Cal P w K mg base TL "_law_any" c (fAny n')) : FnOk P w K mg base (L2.CX P w) (c + 1) f fd ["_law_cells", "_law_names_here", "_law_deep"] (SpD K TL (fAny n)) := by
  refine fn_ok F scAny (fun ds μ q R h => ?_) (fun cdv Ar' outer s0 H E F0 ds μ q R hr G hf hR => ?_)
  · obtain ⟨p, xs, rfl, _⟩ := h
    rfl
  · obtain ⟨p, xs, rfl, hcm, hxs, hq⟩ := hf
    have mid : ∀ (z : Int) (μ1 : Mu), CM μ p μ1 → JSs (XAny P w K mg base f cdv Ar' outer s0 H E) F0 ((defBody sAny).drop 2) ([some (.adr p), some (.lst (xs.map D.str)), some (.int (n : Int)), some (.int z), none, none, none, none, none, none, none] : Rho) μ1 { nx := fun _ μ' => q .non μ', rt := q } := by
      intro z μ1 h1
      refine ss_set 4 G (jv_fdiv (i := z) (j := 13) cdiv (jv_var 3) jv_int) ?_
      refine ss_set 5 G (d := .lst (words.map D.str)) (jv_lst (ja_cons jv_str (ja_cons jv_str (ja_cons jv_str (ja_cons jv_str (ja_cons jv_str (ja_cons jv_str (ja_cons jv_str (ja_cons jv_str (ja_cons jv_str (ja_cons jv_str (ja_cons jv_str (ja_cons jv_str (ja_cons jv_str ja_nil)))))))))))))) ?_
      obtain ⟨j, wd, hj, hw, _⟩ := word_at (ys := words) z (n := 13) (by decide) (by decide)
      obtain ⟨j5, wd5, hj5, hw5, hl5⟩ := word_at (ys := words) z (n := 5) (by decide) (by decide)
      refine ss_set 6 G (jv_ixL hw (jv_var 5) (jv_mod (i := z) (j := 13) (by decide) (jv_var 3) jv_int)) ?_
      have hq' : ∀ (t : Tm) μ', CM μ1 p μ' → q t.d μ' := fun t μ' h => hq t μ' (h1.trans h)
      by_cases hn : n = 0
      · subst hn
        refine ss_ifT (JB.is (jb_cmp op_eq rv_eqI (jv_var 2) jv_int) rfl) (ss_set 6 G (jv_ixL hw5 (jv_var 5) (jv_mod (i := z) (j := 5) (by decide) (jv_var 3) jv_int)) (ss_nil ?_))
        exact any_word B G hr hC hxs hq hj5 (fun _ => by omega) h1
      · refine ss_if0 (JB.is (jb_cmp op_eq rv_eqI (jv_var 2) jv_int) (decide_eq_false (by omega))) ?_
        exact any_word B G hr hC hxs hq hj (fun h => absurd h hn) h1
    refine ss_set 3 G jv_int ?_
    obtain ⟨ns, e, hl⟩ := hcm.at_
    rcases List.eq_nil_or_concat ns with rfl | ⟨l, a, rfl⟩
    · exact ss_if0 (JB.is (jb_cmp op_gt rv_gt (jv_lenM B (jv_var 0) e) jv_int) rfl) (mid 0 μ hcm)
    · rw [List.concat_eq_append] at e hl
      have e' : μ p = some (.lst (intsD l ++ [.int a])) := by rw [e]; unfold intsD; rw [List.map_append]; rfl
      refine ss_ifT (JB.is (jb_cmp op_gt rv_gt (jv_lenM B (jv_var 0) e) jv_int) (decide_eq_true ?_)) (ss_set 3 G (jv_pop (jv_var 0) e') (ss_nil (mid a _ (hcm.popped e hl))))
      unfold intsD
      rw [List.length_map, List.length_append]
      show (0 : Int) < ((l.length + 1 : Nat) : Int)
      omega
theorem cal_any {f : Addr} {fd : FuncData} (F : Fun K "_law_any" "_law_any" sAny f fd) (hm : mg "_law_any" = some (.ref f)) (hb : Binds K fd ["_law_cells", "_law_names_here", "_law_deep"] []) (B : Bl mg) : ∀ n : Nat, Cal P w K mg base TL "_law_any" (n + 1) (fAny n)
  | 0 => cal_of F hm hb (any_step F B fun h => absurd rfl h)
  | n + 1 => cal_of F hm hb (any_step F B fun _ => ⟨n, rfl, cal_any F hm hb B n⟩)

/-! ### a tree of the sort that is asked -/
def fForm (n : Nat) : Fn := fun ds μ Q _ => ∃ (p : Addr) (ar : Sar) (xs : List Str) (room : Int) (s : Str), ds = [.adr p, sarD ar, .lst (xs.map D.str), .int room, .str s] ∧ CM μ p μ ∧ xs.length = 5 ∧ room ≤ (n : Int) ∧ ar.length + 2 * n ≤ 1000 ∧ ∀ (t : Tm) μ', CM μ p μ' → Q t.d μ'
theorem scForm : FnScope ["_law_cells", "_law_around", "_law_names_here", "_law_room", "_law_sort", "_law_cell_here", "_law_pick", "_law_one", "_law_rest", "_law_name", "_law_kind", "_law_first", "_law_other", "_law_more", "_law_word"] ["_law_cells", "_law_around", "_law_names_here", "_law_room", "_law_sort"] (defScope sForm) := ⟨rfl, rfl, rfl, by decide +kernel, rfl, by decide +kernel, by decide +kernel⟩
theorem sar1 {ar : Sar} {a b : Str} : (ar.map fun p => D.tup [.str p.1, .str p.2]) ++ [.tup [.str a, .str b]] = (ar ++ [(a, b)]).map fun p => D.tup [.str p.1, .str p.2] := by rw [List.map_append]; rfl
theorem sar2 {ar : Sar} {a b c d : Str} : (ar.map fun p => D.tup [.str p.1, .str p.2]) ++ [.tup [.str a, .str b], .tup [.str c, .str d]] = (ar ++ [(a, b), (c, d)]).map fun p => D.tup [.str p.1, .str p.2] := by rw [List.map_append]; rfl
theorem form_step {f : Addr} {fd : FuncData} {n c : Nat} (F : Fun K "_law_form" "_law_form" sForm f fd) (B : Bl mg) (CM1 : Cal P w K mg base TL "_law_mixed" c fMixed) (CE : Cal P w K mg base TL "_law_end" c fEnd) (hC : n ≠ 0 → ∃ n', n = n' + 1 ∧ Cal P w K mg base TL "_law_form" c (fForm n')) : FnOk P w K mg base (L2.CX P w) (c + 1) f fd ["_law_cells", "_law_around", "_law_names_here", "_law_room", "_law_sort"] (SpD K TL (fForm n)) := by
  refine fn_ok F scForm (fun ds μ q R h => ?_) (fun cdv Ar' outer s0 H E F0 ds μ q R hr G hf hR => ?_)
  · obtain ⟨p, ar, xs, room, s, rfl, _⟩ := h
    rfl
  · obtain ⟨p, ar, xs, room, s, rfl, hcm, hxs, hroom, har, hq⟩ := hf
    have mid : ∀ (z : Int) (μ1 : Mu), CM μ p μ1 → JSs (cxOf (L2.CX P w) P w K mg base ["_law_cells", "_law_around", "_law_names_here", "_law_room", "_law_sort", "_law_cell_here", "_law_pick", "_law_one", "_law_rest", "_law_name", "_law_kind", "_law_first", "_law_other", "_law_more", "_law_word"] "_law_form" (defScope sForm) f cdv Ar' outer s0 H E) F0 ((defBody sForm).drop 2) ([some (.adr p), some (sarD ar), some (.lst (xs.map D.str)), some (.int room), some (.str s), some (.int z), none, none, none, none, none, none, none, none, none] : Rho) μ1 { nx := fun _ μ' => q .non μ', rt := q } := by
      intro z μ1 h1
      have hq1 : ∀ (t : Tm) μ', CM μ1 p μ' → q t.d μ' := fun t μ' h => hq t μ' (h1.trans h)
      have h11 : CM μ1 p μ1 := ⟨h1.at_, fun _ _ => rfl⟩
      refine ss_set 6 G (jv_mod (i := z) (j := 13) (by decide) (jv_var 5) jv_int) ?_
      obtain ⟨hp0, hp13⟩ := mod_in z (show (0 : Int) < 13 by decide)
      generalize z % 13 = pick at hp0 hp13
      obtain ⟨ns, ens, hns⟩ := h1.at_
      refine ss_setJ 5 G (j_call CM1 G hr ((ja_cons (jv_var 5) (ja_cons (jv_lenM B (jv_var 0) ens) ja_nil)).at ⟨z, _, rfl, fun y hy0 => ?_⟩))
      have mid2 : ∀ s : Str, JSs (cxOf (L2.CX P w) P w K mg base ["_law_cells", "_law_around", "_law_names_here", "_law_room", "_law_sort", "_law_cell_here", "_law_pick", "_law_one", "_law_rest", "_law_name", "_law_kind", "_law_first", "_law_other", "_law_more", "_law_word"] "_law_form" (defScope sForm) f cdv Ar' outer s0 H E) F0 ((defBody sForm).drop 5) ([some (.adr p), some (sarD ar), some (.lst (xs.map D.str)), some (.int room), some (.str s), some (.int y), some (.int pick), none, none, none, none, none, none, none, none] : Rho) μ1 { nx := fun _ μ' => q .non μ', rt := q } := by
        intro s
        have harl : ar.length ≤ 50000 := by omega
        by_cases hr3 : room < 3
        · exact ss_ifT (jb_w (jw_orT (JB.is (jb_cmp op_lt rv_lt (jv_var 3) jv_int) (decide_eq_true hr3)))) (ss_retJ (j_call CE G hr ((ja_cons (jv_var 5) (ja_cons (jv_var 1) (ja_cons (jv_var 2) (ja_cons (jv_var 4) ja_nil)))).at ⟨y, ar, xs, s, rfl, harl, hxs, fun t => hq1 t _ h11⟩)))
        by_cases hp2 : pick < 2
        · exact ss_ifT (jb_w (jw_orF (JB.is (jb_cmp op_lt rv_lt (jv_var 3) jv_int) (decide_eq_false hr3)) (jw_or1 (JB.is (jb_cmp op_lt rv_lt (jv_var 6) jv_int) (decide_eq_true hp2))))) (ss_retJ (j_call CE G hr ((ja_cons (jv_var 5) (ja_cons (jv_var 1) (ja_cons (jv_var 2) (ja_cons (jv_var 4) ja_nil)))).at ⟨y, ar, xs, s, rfl, harl, hxs, fun t => hq1 t _ h11⟩)))
        refine ss_if0 (jb_w (jw_orF (JB.is (jb_cmp op_lt rv_lt (jv_var 3) jv_int) (decide_eq_false hr3)) (jw_or1 (JB.is (jb_cmp op_lt rv_lt (jv_var 6) jv_int) (decide_eq_false hp2))))) ?_
        obtain ⟨n', rfl, C⟩ := hC (by omega)
        have hr2 : 0 < room - 2 := by omega
        obtain ⟨ho0, ho1⟩ := mod_in y hr2
        refine ss_set 7 G (jv_add jv_int (jv_mod hr2 (jv_var 5) (jv_sub (jv_var 3) jv_int))) ?_
        generalize y % (room - 2) = o' at ho0 ho1
        refine ss_set 8 G (jv_sub (jv_sub (jv_var 3) jv_int) (jv_var 7)) ?_
        obtain ⟨_, nm, _, hnm, _⟩ := word_at (ys := xs) (y / 7) (n := 4) (by decide) (by rw [hxs]; decide)
        obtain ⟨_, nm2, _, hnm2, _⟩ := word_at (ys := xs) (y / 28) (n := 4) (by decide) (by rw [hxs]; decide)
        refine ss_set 9 G (jv_ixL hnm (jv_var 2) (jv_mod (i := y / 7) (j := 4) (by decide) (jv_fdiv (i := y) (j := 7) cdiv (jv_var 5) jv_int) jv_int)) ?_
        have hone : 1 + o' ≤ (n' : Int) := by omega
        have hrest : room - 1 - (1 + o') ≤ (n' : Int) := by omega
        generalize 1 + o' = o at hone hrest
        generalize room - 1 - o = rs at hrest
        have hrs2 : (rs + 1) / 2 ≤ (n' : Int) := by omega
        have har' : ar.length + 2 * n' ≤ 1000 := by omega
        have har1 : ∀ a b : Str, (ar ++ [(a, b)]).length + 2 * n' ≤ 1000 := fun a b => by
          rw [List.length_append]
          show ar.length + 1 + 2 * n' ≤ 1000
          omega
        have har2 : ∀ a b a' b' : Str, (ar ++ [(a, b), (a', b')]).length + 2 * n' ≤ 1000 := fun a b a' b' => by
          rw [List.length_append]
          show ar.length + 2 + 2 * n' ≤ 1000
          omega
        have arL : ∀ (ys : Sar), ys.length ≤ 2 → (ar.map fun p => D.tup [.str p.1, .str p.2]).length + (ys.map fun p => D.tup [.str p.1, .str p.2]).length ≤ 100000 := fun ys h => by
          rw [List.length_map, List.length_map]
          omega
        by_cases hp5 : pick < 5
        · obtain ⟨_, kd, _, hkd, _⟩ := word_at (ys := kinds) (y / 3) (n := 3) (by decide) (by decide)
          refine ss_ifT (JB.is (jb_cmp op_lt rv_lt (jv_var 6) jv_int) (decide_eq_true hp5)) ?_
          refine ss_set 10 G (jv_ixL hkd (jv_lst (ja_cons jv_str (ja_cons jv_str (ja_cons jv_str ja_nil)))) (jv_mod (i := y / 3) (j := 3) (by decide) (jv_fdiv (i := y) (j := 3) cdiv (jv_var 5) jv_int) jv_int)) ?_
          refine ss_setJ 11 G (j_call C G hr ((ja_cons (jv_var 0) (ja_cons (jv_var 1) (ja_cons (jv_var 2) (ja_cons (jv_var 7) (ja_cons (jv_var 10) ja_nil))))).at ⟨p, ar, xs, o, kd, rfl, h11, hxs, hone, har', fun t1 μ2 h2 => ?_⟩))
          refine ss_retJ (j_tup (ja_consJ (jv_str.at (ja_consJ ((jv_var 9).at (ja_consJ (j_tup (ja_consJ ((jv_var 11).at (ja_consJ (j_call C G hr ((ja_cons (jv_var 0) (ja_cons (JV.is (jv_catL (arL [(nm, kd)] (Nat.le_succ 1)) (jv_var 1) (jv_lst (ja_cons (jv_tup (ja_cons (jv_var 9) (ja_cons (jv_var 10) ja_nil))) ja_nil))) (congrArg D.lst sar1)) (ja_cons (jv_var 2) (ja_cons (jv_var 8) (ja_cons (jv_var 4) ja_nil))))).at ⟨p, ar ++ [(nm, kd)], xs, rs, s, rfl, ⟨h2.at_, fun _ _ => rfl⟩, hxs, hrest, har1 _ _, fun t2 μ3 h3 => ?_⟩))))))))))))
          exact ja_nil.at ⟨by simp, ja_nil.at ⟨by simp, hq1 (.lt nm t1 t2) _ (h2.trans h3)⟩⟩
        refine ss_if0 (JB.is (jb_cmp op_lt rv_lt (jv_var 6) jv_int) (decide_eq_false hp5)) ?_
        by_cases hp7 : pick < 7
        · refine ss_ifT (JB.is (jb_cmp op_lt rv_lt (jv_var 6) jv_int) (decide_eq_true hp7)) ?_
          refine ss_setJ 11 G (j_call C G hr ((ja_cons (jv_var 0) (ja_cons (jv_var 1) (ja_cons (jv_var 2) (ja_cons (jv_var 7) (ja_cons jv_str ja_nil))))).at ⟨p, ar, xs, o, _, rfl, h11, hxs, hone, har', fun t1 μ2 h2 => ?_⟩))
          refine ss_setJ 12 G (j_call C G hr ((ja_cons (jv_var 0) (ja_cons (jv_var 1) (ja_cons (jv_var 2) (ja_cons (jv_fdiv (i := rs + 1) (j := 2) cdiv (jv_add (jv_var 8) jv_int) jv_int) (ja_cons (jv_var 4) ja_nil))))).at ⟨p, ar, xs, _, s, rfl, ⟨h2.at_, fun _ _ => rfl⟩, hxs, hrs2, har', fun t2 μ3 h3 => ?_⟩))
          refine ss_retJ (j_tup (ja_consJ (jv_str.at (ja_consJ (jv_non.at (ja_consJ (j_tup (ja_consJ ((jv_var 11).at (ja_consJ ((jv_var 12).at (ja_consJ (j_call C G hr ((ja_cons (jv_var 0) (ja_cons (jv_var 1) (ja_cons (jv_var 2) (ja_cons (jv_fdiv (i := rs + 1) (j := 2) cdiv (jv_add (jv_var 8) jv_int) jv_int) (ja_cons (jv_var 4) ja_nil))))).at ⟨p, ar, xs, _, s, rfl, ⟨h3.at_, fun _ _ => rfl⟩, hxs, hrs2, har', fun t3 μ4 h4 => ?_⟩))))))))))))))
          exact ja_nil.at ⟨by simp, ja_nil.at ⟨by simp, hq1 (.ite t1 t2 t3) _ ((h2.trans h3).trans h4)⟩⟩
        refine ss_if0 (JB.is (jb_cmp op_lt rv_lt (jv_var 6) jv_int) (decide_eq_false hp7)) ?_
        by_cases hf : s = "fun"
        · subst hf
          have hroom1 : room - 1 ≤ (n' : Int) := by omega
          by_cases hp10 : pick < 10
          · refine ss_ifT (jb_w (jw_andT (JB.is (jb_cmp op_eq rv_eqS (jv_var 4) jv_str) rfl) (jw_and1 (JB.is (jb_cmp op_lt rv_lt (jv_var 6) jv_int) (decide_eq_true hp10))))) ?_
            refine ss_retJ (j_tup (ja_consJ (jv_str.at (ja_consJ ((jv_var 9).at (ja_consJ (j_tup (ja_consJ (j_call C G hr ((ja_cons (jv_var 0) (ja_cons (JV.is (jv_catL (arL [(nm, "num")] (Nat.le_succ 1)) (jv_var 1) (jv_lst (ja_cons (jv_tup (ja_cons (jv_var 9) (ja_cons jv_str ja_nil))) ja_nil))) (congrArg D.lst sar1)) (ja_cons (jv_var 2) (ja_cons (jv_sub (jv_var 3) jv_int) (ja_cons jv_str ja_nil))))).at ⟨p, ar ++ ([(nm, "num")] : Sar), xs, room - 1, "num", rfl, h11, hxs, hroom1, har1 _ _, fun t1 μ2 h2 => ?_⟩))))))))))
            exact ja_nil.at ⟨by simp, ja_nil.at ⟨by simp, hq1 (.fn nm t1) _ h2⟩⟩
          · refine ss_if0 (jb_w (jw_andT (JB.is (jb_cmp op_eq rv_eqS (jv_var 4) jv_str) rfl) (jw_and1 (JB.is (jb_cmp op_lt rv_lt (jv_var 6) jv_int) (decide_eq_false hp10))))) ?_
            refine ss_ifT (JB.is (jb_cmp op_eq rv_eqS (jv_var 4) jv_str) rfl) ?_
            refine ss_set 13 G (JV.is (jv_catL (arL [(nm2, "fun"), (nm, "num")] (Nat.le_refl 2)) (jv_var 1) (jv_lst (ja_cons (jv_tup (ja_cons (jv_ixL hnm2 (jv_var 2) (jv_mod (i := y / 28) (j := 4) (by decide) (jv_fdiv (i := y) (j := 28) cdiv (jv_var 5) jv_int) jv_int)) (ja_cons jv_str ja_nil))) (ja_cons (jv_tup (ja_cons (jv_var 9) (ja_cons jv_str ja_nil))) ja_nil)))) (congrArg D.lst sar2)) ?_
            refine ss_retJ (j_tup (ja_consJ (jv_str.at (ja_consJ ((jv_tup (ja_cons (jv_ixL hnm2 (jv_var 2) (jv_mod (i := y / 28) (j := 4) (by decide) (jv_fdiv (i := y) (j := 28) cdiv (jv_var 5) jv_int) jv_int)) (ja_cons (jv_var 9) ja_nil))).at (ja_consJ (j_tup (ja_consJ (j_call C G hr ((ja_cons (jv_var 0) (ja_cons (jv_var 13) (ja_cons (jv_var 2) (ja_cons (jv_sub (jv_var 3) jv_int) (ja_cons jv_str ja_nil))))).at ⟨p, ar ++ ([(nm2, "fun"), (nm, "num")] : Sar), xs, room - 1, "num", rfl, h11, hxs, hroom1, har2 _ _ _ _, fun t1 μ2 h2 => ?_⟩))))))))))
            exact ja_nil.at ⟨by simp, ja_nil.at ⟨by simp, hq1 (.rc nm2 nm t1) _ h2⟩⟩
        refine ss_if0 (jb_w (jw_andF (JB.is (jb_cmp op_eq rv_eqS (jv_var 4) jv_str) (decide_eq_false hf)))) ?_
        refine ss_if0 (JB.is (jb_cmp op_eq rv_eqS (jv_var 4) jv_str) (decide_eq_false hf)) ?_
        -- the two operands, of sort num
        have two : ∀ (x : BW) (k14 : Option D) (wd : Str), k14 = some (.str wd) → x.w = wd → JSs (cxOf (L2.CX P w) P w K mg base ["_law_cells", "_law_around", "_law_names_here", "_law_room", "_law_sort", "_law_cell_here", "_law_pick", "_law_one", "_law_rest", "_law_name", "_law_kind", "_law_first", "_law_other", "_law_more", "_law_word"] "_law_form" (defScope sForm) f cdv Ar' outer s0 H E) F0 ((defBody sForm).drop 16) ([some (.adr p), some (sarD ar), some (.lst (xs.map D.str)), some (.int room), some (.str s), some (.int y), some (.int pick), some (.int o), some (.int rs), some (.str nm), none, none, none, none, k14] : Rho) μ1 { nx := fun _ μ' => q .non μ', rt := q } := by
          rintro x _ wd rfl rfl
          refine ss_setJ 11 G (j_call C G hr ((ja_cons (jv_var 0) (ja_cons (jv_var 1) (ja_cons (jv_var 2) (ja_cons (jv_var 7) (ja_cons jv_str ja_nil))))).at ⟨p, ar, xs, o, _, rfl, h11, hxs, hone, har', fun t1 μ2 h2 => ?_⟩))
          refine ss_retJ (j_tup (ja_consJ ((jv_var 14).at (ja_consJ (jv_non.at (ja_consJ (j_tup (ja_consJ ((jv_var 11).at (ja_consJ (j_call C G hr ((ja_cons (jv_var 0) (ja_cons (jv_var 1) (ja_cons (jv_var 2) (ja_cons (jv_var 8) (ja_cons jv_str ja_nil))))).at ⟨p, ar, xs, rs, _, rfl, ⟨h2.at_, fun _ _ => rfl⟩, hxs, hrest, har', fun t2 μ3 h3 => ?_⟩))))))))))))
          exact ja_nil.at ⟨by simp, ja_nil.at ⟨by simp, hq1 (.bin x t1 t2) _ (h2.trans h3)⟩⟩
        by_cases hs : s = "num"
        · subst hs
          by_cases hp9 : pick > 9
          · refine ss_ifT (jb_w (jw_andT (JB.is (jb_cmp op_eq rv_eqS (jv_var 4) jv_str) rfl) (jw_and1 (JB.is (jb_cmp op_gt rv_gt (jv_var 6) jv_int) (decide_eq_true hp9))))) ?_
            refine ss_setJ 11 G (j_call C G hr ((ja_cons (jv_var 0) (ja_cons (jv_var 1) (ja_cons (jv_var 2) (ja_cons (jv_var 7) (ja_cons jv_str ja_nil))))).at ⟨p, ar, xs, o, _, rfl, h11, hxs, hone, har', fun t1 μ2 h2 => ?_⟩))
            refine ss_retJ (j_tup (ja_consJ (jv_str.at (ja_consJ (jv_non.at (ja_consJ (j_tup (ja_consJ ((jv_var 11).at (ja_consJ (j_call C G hr ((ja_cons (jv_var 0) (ja_cons (jv_var 1) (ja_cons (jv_var 2) (ja_cons (jv_var 8) (ja_cons jv_str ja_nil))))).at ⟨p, ar, xs, rs, _, rfl, ⟨h2.at_, fun _ _ => rfl⟩, hxs, hrest, har', fun t2 μ3 h3 => ?_⟩))))))))))))
            exact ja_nil.at ⟨by simp, ja_nil.at ⟨by simp, hq1 (.bin .call t1 t2) _ (h2.trans h3)⟩⟩
          refine ss_if0 (jb_w (jw_andT (JB.is (jb_cmp op_eq rv_eqS (jv_var 4) jv_str) rfl) (jw_and1 (JB.is (jb_cmp op_gt rv_gt (jv_var 6) jv_int) (decide_eq_false hp9))))) ?_
          refine ss_set 14 G jv_str ?_
          refine ss_ifT (JB.is (jb_cmp op_eq rv_eqS (jv_var 4) jv_str) rfl) ?_
          have hcases : pick = 7 ∨ pick = 8 ∨ pick = 9 := by omega
          rcases hcases with rfl | rfl | rfl
          · exact ss_set 14 G (jv_ixL (ds := [.str "plus", .str "plus", .str "minus"]) (i := 0) (d := .str "plus") rfl (jv_lst (ja_cons jv_str (ja_cons jv_str (ja_cons jv_str ja_nil)))) (JV.is (jv_sub (jv_var 6) jv_int) rfl)) (ss_nil (two .plus _ _ rfl rfl))
          · exact ss_set 14 G (jv_ixL (ds := [.str "plus", .str "plus", .str "minus"]) (i := 1) (d := .str "plus") rfl (jv_lst (ja_cons jv_str (ja_cons jv_str (ja_cons jv_str ja_nil)))) (JV.is (jv_sub (jv_var 6) jv_int) rfl)) (ss_nil (two .plus _ _ rfl rfl))
          · exact ss_set 14 G (jv_ixL (ds := [.str "plus", .str "plus", .str "minus"]) (i := 2) (d := .str "minus") rfl (jv_lst (ja_cons jv_str (ja_cons jv_str (ja_cons jv_str ja_nil)))) (JV.is (jv_sub (jv_var 6) jv_int) rfl)) (ss_nil (two .minus _ _ rfl rfl))
        refine ss_if0 (jb_w (jw_andF (JB.is (jb_cmp op_eq rv_eqS (jv_var 4) jv_str) (decide_eq_false hs)))) ?_
        refine ss_set 14 G jv_str ?_
        refine ss_if0 (JB.is (jb_cmp op_eq rv_eqS (jv_var 4) jv_str) (decide_eq_false hs)) ?_
        exact two .less _ _ rfl rfl
      obtain ⟨_, kd, _, hkd, _⟩ := word_at (ys := kinds) y (n := 3) (by decide) (by decide)
      exact ss_if (jb_cmp op_eq rv_eqI (jv_var 6) jv_int) (fun _ => ss_set 4 G (jv_ixL hkd (jv_lst (ja_cons jv_str (ja_cons jv_str (ja_cons jv_str ja_nil)))) (jv_mod (i := y) (j := 3) (by decide) (jv_var 5) jv_int)) (ss_nil (mid2 _))) (fun _ => ss_nil (mid2 _))
    refine ss_set 5 G jv_int ?_
    obtain ⟨ns, e, hl⟩ := hcm.at_
    rcases List.eq_nil_or_concat ns with rfl | ⟨l, a, rfl⟩
    · exact ss_if0 (JB.is (jb_cmp op_gt rv_gt (jv_lenM B (jv_var 0) e) jv_int) rfl) (mid 0 μ hcm)
    · rw [List.concat_eq_append] at e hl
      have e' : μ p = some (.lst (intsD l ++ [.int a])) := by rw [e]; unfold intsD; rw [List.map_append]; rfl
      refine ss_ifT (JB.is (jb_cmp op_gt rv_gt (jv_lenM B (jv_var 0) e) jv_int) (decide_eq_true ?_)) (ss_set 5 G (jv_pop (jv_var 0) e') (ss_nil (mid a _ (hcm.popped e hl))))
      unfold intsD
      rw [List.length_map, List.length_append]
      show (0 : Int) < ((l.length + 1 : Nat) : Int)
      omega
theorem cal_form {f : Addr} {fd : FuncData} (F : Fun K "_law_form" "_law_form" sForm f fd) (hm : mg "_law_form" = some (.ref f)) (hb : Binds K fd ["_law_cells", "_law_around", "_law_names_here", "_law_room", "_law_sort"] []) (B : Bl mg) (CM1 : Cal P w K mg base TL "_law_mixed" 1 fMixed) (CE : Cal P w K mg base TL "_law_end" 2 fEnd) : ∀ n : Nat, Cal P w K mg base TL "_law_form" (n + 3) (fForm n)
  | 0 => cal_of F hm hb (form_step F B (CM1.mono (by omega)) (CE.mono (by omega)) fun h => absurd rfl h)
  | n + 1 => cal_of F hm hb (form_step F B (CM1.mono (by omega)) (CE.mono (by omega)) fun _ => ⟨n, rfl, cal_form F hm hb B CM1 CE n⟩)
end
end Gs

/-! The walk of the law's own defs: the law. -/
namespace Gs
open PySem PySem.Spec PyProof.Rows L2
section
variable {X : Cx} {F0 : Hp} {ρ : Rho} {μ μ1 : Mu} {a b : Expr} {E : XK} {pos : Pos} {Q : D → Mu → Prop} {DE : DEnds} {rest : List Stmt}
theorem j_opJ {op : Operator} {r : R2} (ho : OpR X (binaryOp op) r) (ha : J X F0 a ρ μ fun da μ1 => ∃ db d, JV X F0 b ρ μ1 db μ1 ∧ RV2 X.K r da db μ1 d ∧ Q d μ1) : J X F0 (.BinOp a op b pos) ρ μ Q := fun F σ H q R k =>
  of_pe (pe_op ho pe_s pe_s) (ha F σ H _ R fun va da μ1 F1 H1 ⟨db, d, hb, hr, hQ⟩ h1 s1 m1 => hb.run (R.go s1 m1) fun vb F2 H2 h2 s2 m2 R2 => hr F2 H2 va vb q (h1.mono s2) h2 m2 fun v F3 H3 h3 s3 m3 => k v _ _ F3 H3 hQ h3 ((s1.trans s2).trans s3) m3)
theorem j_modJ {j : Int} (hj : 0 < j) (ha : J X F0 a ρ μ fun da μ1 => ∃ i, da = .int i ∧ JV X F0 b ρ μ1 (.int j) μ1 ∧ Q (.int (i % j)) μ1) : J X F0 (.BinOp a .Mod b pos) ρ μ Q :=
  j_opJ op_mod (ha.mono (by rintro _ μ1 ⟨i, rfl, hb, hQ⟩; exact ⟨_, _, hb, rv_i (C := fun _ j => 0 < j) hj (g' := fun i j => .int (i % j)) fun _ => .int, hQ⟩))
theorem j_fdivJ {j : Int} (hj : 0 < j ∧ j < 1073741824) (ha : J X F0 a ρ μ fun da μ1 => ∃ i, da = .int i ∧ JV X F0 b ρ μ1 (.int j) μ1 ∧ Q (.int (i / j)) μ1) : J X F0 (.BinOp a .FloorDiv b pos) ρ μ Q :=
  j_opJ op_fdiv (ha.mono (by rintro _ μ1 ⟨i, rfl, hb, hQ⟩; exact ⟨_, _, hb, rv_i (show CDiv i j from hj) (g' := fun i j => .int (i / j)) fun _ => .int, hQ⟩))
theorem j_ixLJ {ds : List D} (ha : JV X F0 a ρ μ (.lst ds) μ1) (hb : J X F0 b ρ μ1 fun db μ2 => ∃ i d, db = .int i ∧ atI ds i = some d ∧ Q d μ2) (hs : PlainIx b := by intro _ _; rfl) : J X F0 (.Subscript a b pos) ρ μ Q := fun F σ H q R k =>
  of_pe (pe_ix ix_list pe_s pe_s hs) (ha.run R fun va F1 H1 h1 s1 m1 R1 => hb F1 σ H1 _ R1 fun vb db μ2 F2 H2 ⟨i, d, e, hi, hQ⟩ h2 s2 m2 => by
    subst e
    cases h2
    have h1' := h1.mono s2
    cases h1' with
    | @lst p vs _ e t =>
      obtain ⟨v, g1, g2⟩ := atI_at t hi
      exact ⟨p, vs, i, v, rfl, rfl, SqL.of (m2.sub _ _ e), g1, k _ _ _ _ _ hQ g2 (s1.trans s2) m2⟩)
theorem ss_ifJ {t : Expr} {body orelse : List Stmt} (ht : J X F0 t ρ μ fun d μ1 => ∃ b, d = .bl b ∧ (b = true → JSs X F0 body ρ μ1 { DE with nx := fun ρ' μ' => JSs X F0 rest ρ' μ' DE }) ∧ (b = false → JSs X F0 orelse ρ μ1 { DE with nx := fun ρ' μ' => JSs X F0 rest ρ' μ' DE })) (hw : ∀ whole, isTrue t X.env whole = (do let v ← whole; standAt t.pos; holding [v] (truthy v)) := by intro _; rfl) :
    JSs X F0 (.If t body orelse pos :: rest) ρ μ DE := ss_cons fun F σ H D R c =>
  of_ps (ps_if (pt_val pe_s hw) pss_s pss_s) (ht F σ H _ R fun v d μ1 F1 H1 ⟨b, e, h1, h2⟩ hv s m => by
    subst e
    cases hv
    refine ⟨b, rfl, ?_⟩
    cases b with
    | true =>
      rw [if_pos rfl]
      exact h1 rfl F1 σ H1 D (R.go s m) (c.ext s)
    | false =>
      rw [if_neg Bool.false_ne_true]
      exact h2 rfl F1 σ H1 D (R.go s m) (c.ext s))
end
theorem cut_ints (ns : List Int) (lo hi : Option Int) : ∃ ms, cutD (intsD ns) lo hi = intsD ms ∧ ms.length ≤ ns.length := by
  unfold cutD intsD
  refine ⟨(ns.drop (HT.sIx (ns.map D.int).length 0 lo)).take (HT.sIx (ns.map D.int).length (ns.map D.int).length hi - HT.sIx (ns.map D.int).length 0 lo), ?_, ?_⟩
  · rw [List.map_take, List.map_drop]
  · rw [List.length_take, List.length_drop]
    omega
theorem cm_new {n : Addr} {ms : List Int} {lo hi : Option Int} (h : ms.length ≤ 1000) : CM (Mu.none.put n (.lst (cutD (intsD ms) lo hi).reverse)) n (Mu.none.put n (.lst (cutD (intsD ms) lo hi).reverse)) := by
  obtain ⟨ks, e, hk⟩ := cut_ints ms lo hi
  refine ⟨⟨ks.reverse, ?_, by rw [List.length_reverse]; omega⟩, fun _ _ => rfl⟩
  rw [Mu.put_same, e]
  unfold intsD
  rw [List.map_reverse]
theorem ok_str (n : Nat) (s : Str) : okS n (.str s) := by cases n <;> trivial
theorem ok_int (n : Nat) (s : Int) : okS n (.int s) := by cases n <;> trivial
theorem ok_bl (n : Nat) (s : Bool) : okS n (.bl s) := by cases n <;> trivial
theorem ok_tup {n : Nat} {ds : List D} (h : ds.length ≤ 50000) (h2 : ∀ d ∈ ds, okS n d) : okS (n + 1) (.tup ds) := ⟨h, h2⟩
theorem ok_lst {n : Nat} {ds : List D} (h : ds.length ≤ 50000) (h2 : ∀ d ∈ ds, okS n d) : okS (n + 1) (.lst ds) := ⟨h, h2⟩
theorem ok_nil {n : Nat} : ∀ d ∈ ([] : List D), okS n d := fun _ h => nomatch h
theorem ok_cons {n : Nat} {d : D} {ds : List D} (h : okS n d) (h2 : ∀ d ∈ ds, okS n d) : ∀ e ∈ d :: ds, okS n e := fun e he => by
  rcases List.mem_cons.mp he with rfl | he
  · exact h
  · exact h2 e he
theorem ok_th (n : Nat) (v : Th) : okS (n + 1) v.d := by
  cases v with
  | num i => exact ok_tup (by simp) (ok_cons (ok_str _ _) (ok_cons (ok_int _ _) ok_nil))
  | truth i => exact ok_tup (by simp) (ok_cons (ok_str _ _) (ok_cons (ok_bl _ _) ok_nil))
  | row i => exact ok_tup (by simp) (ok_cons (ok_str _ _) (ok_cons (ok_int _ _) ok_nil))
theorem ok_same {T : Tm} {r : Rec} (h : RecOk T r) : okS 7 r.d := by
  refine ok_tup (by simp) (ok_cons (ok_th 5 _) (ok_cons (ok_lst (by rw [List.length_map]; have := h.szr; omega) fun d hd => ?_) (ok_cons (ok_int _ _) ok_nil)))
  obtain ⟨row, hrow, rfl⟩ := List.mem_map.mp hd
  obtain ⟨k, hk, ek⟩ := List.mem_iff_getElem.mp hrow
  have ro := h.rows k row (by rw [List.getElem?_eq_getElem hk, ek])
  refine ok_tup (by simp) (ok_cons (ok_str _ _) (ok_cons (ok_tup (by rw [List.length_map]; have := ro.szp; omega) fun d hd => ?_) (ok_cons (ok_lst (by rw [List.length_map]; have := ro.szo; omega) fun d hd => ?_) (ok_cons (ok_lst (by rw [List.length_map]; have := ro.sza; omega) fun d hd => ?_) ok_nil))))
  · obtain ⟨_, _, rfl⟩ := List.mem_map.mp hd
    exact ok_int _ _
  · obtain ⟨_, _, rfl⟩ := List.mem_map.mp hd
    exact ok_th _ _
  · obtain ⟨p, _, rfl⟩ := List.mem_map.mp hd
    exact ok_tup (by simp) (ok_cons (ok_str _ _) (ok_cons (ok_th _ _) ok_nil))
abbrev words5 : List Str := ["plus", "minus", "less", "call", "if"]
theorem dw_of {j : Nat} {s : Str} (h : words5[j]? = some s) (hj : (j : Int) < 5) : ∃ x : DW, s = x.wd := by
  match j, h, hj with
  | 0, h, _ => exact ⟨.bin .plus, (Option.some.inj h).symm⟩
  | 1, h, _ => exact ⟨.bin .minus, (Option.some.inj h).symm⟩
  | 2, h, _ => exact ⟨.bin .less, (Option.some.inj h).symm⟩
  | 3, h, _ => exact ⟨.bin .call, (Option.some.inj h).symm⟩
  | 4, h, _ => exact ⟨.iff, (Option.some.inj h).symm⟩
  | j + 5, _, h => omega
def treeOf (x : DW) (l r : Tm) : Tm := match x with
  | .bin b => .bin b l r
  | .iff => .ite l r (.num 5)
theorem due_law {x : DW} {l r : Tm} {o1 o2 o : Option Rec} (h1 : Out (init l) o1) (h2 : Out (init r) o2) (h : Out (init (treeOf x l r)) o) (hlt : ∀ r1, o1 = some r1 → RecOk l r1) (hc : ∀ r1, o1 = some r1 → x = .bin .call → ¬ callee r1) : o = lawOf o1 (fun r1 => dueOf x l r r1 o2) := by
  cases x with
  | bin b => exact law_bin h1 h2 h (fun r1 e => (hlt r1 e).ans) fun r1 e hb => hc r1 e (by rw [hb])
  | iff => exact law_if h1 h2 h
def testOf : Stmt → Expr
  | .If t _ _ _ => t
  | _ => .Constant .none 0 ⟨0, 0, 0, 0⟩
theorem rc_fn {row : Row} (h : (∃ x t, row.fm = .fn x t) ∨ ∃ f x t, row.fm = .rc f x t) : inS row.fm.word ["fn", "rec"] = true := by
  rcases h with ⟨x, t, e⟩ | ⟨f, x, t, e⟩ <;> (rw [e]; rfl)
section
variable {P : Program} {w : World} {K : PySem.W.Frag} {mg : Str → Option Value} {base : Heap} {TL : Addr} {A : CA}
abbrev sLaw : Stmt := top 41
def fLaw : Fn := fun ds μ Q _ => ∃ (ns : List Int), ds = [.sq (intsD ns)] ∧ ns.length ≤ 63 ∧ μ = Mu.none ∧ Q (.bl true) Mu.none
theorem scLaw : FnScope ["_law_script", "_law_names_here", "_law_cells", "_law_half", "_law_cell_here", "_law_sort", "_law_one", "_law_other", "_law_word", "_law_first", "_law_second", "_law_found", "_law_tree", "_law_whole", "_law_due_here"] ["_law_script"] (defScope sLaw) := ⟨rfl, rfl, rfl, by decide +kernel, rfl, by decide +kernel, by decide +kernel⟩
/-- all that the law calls -/
structure Calls (P : Program) (w : World) (K : PySem.W.Frag) (mg : Str → Option Value) (base : Heap) (TL : Addr) (k : Nat) : Prop where
  names : Cal P w K mg base TL "_law_names" k fNames
  cell : Cal P w K mg base TL "_law_cell" k fCell
  mixed : Cal P w K mg base TL "_law_mixed" k fMixed
  form : Cal P w K mg base TL "_law_form" k (fForm 13)
  any : Cal P w K mg base TL "_law_any" k (fAny 30)
  free : Cal P w K mg base TL "_law_is_free" k fFree
  run : Cal P w K mg base TL "_law_run" k fLRun
  isRec : Cal P w K mg base TL "_law_is_record" k fIsRecord
  due : Cal P w K mg base TL "_law_due" k fDue
  same : Cal P w K mg base TL "_law_same" k (fSame 7)
theorem ok_law {f : Addr} {fd : FuncData} {k : Nat} (F : Fun K "law" "law" sLaw f fd) (B : Bl mg) (C : Calls P w K mg base TL k) : FnOk P w K mg base (L2.CX P w) (k + 1) f fd ["_law_script"] (SpD K TL fLaw) := by
  refine fn_ok F scLaw (fun ds μ q R h => ?_) (fun cdv Ar' outer s0 H E F0 ds μ q R hr G hf hR => ?_)
  · obtain ⟨ns, rfl, _⟩ := h
    rfl
  · obtain ⟨ns, rfl, hns, rfl, hq⟩ := hf
    refine ss_setJ 1 G (j_call C.names G hr (ja_consJ (j_call C.cell G hr ((ja_cons (jv_var 0) (ja_cons jv_int ja_nil)).at ⟨ns, 1, rfl, hns, fun z1 => (ja_cons jv_int ja_nil).at ⟨z1, rfl, fun xs hxs => ?_⟩⟩))))
    obtain ⟨ms, ems, hms⟩ := cut_ints ns (some 3) (some 60)
    have hml : (intsD ms).length = ms.length := List.length_map _
    have hm1000 : ms.length ≤ 1000 := by omega
    refine ss_set 2 G (JV.is (jv_slice (jv_var 0) (.inr rfl) (jo_some jv_int) (jo_some jv_int)) (congrArg D.lst ems)) ?_
    have hlen1 : (0 : Int) < (((intsD ms).length : Nat) : Int) + 1 := by omega
    refine ss_setJ 3 G (j_modJ hlen1 (j_call C.cell G hr ((ja_cons (jv_var 0) (ja_cons jv_int ja_nil)).at ⟨ns, 2, rfl, hns, fun z2 => ⟨z2, rfl, jv_add (jv_len B (jv_var 2) rfl (by rw [hml]; omega)) jv_int, ?_⟩⟩)))
    generalize z2 % ((((intsD ms).length : Nat) : Int) + 1) = half
    refine ss_setJ 4 G (j_call C.mixed G hr (ja_consJ (j_call C.cell G hr ((ja_cons (jv_var 0) (ja_cons jv_int ja_nil)).at ⟨ns, 0, rfl, hns, fun z0 => (ja_cons jv_int ja_nil).at ⟨z0, 0, rfl, fun y hy => ?_⟩⟩))))
    obtain ⟨_, sort, _, hsort, _⟩ := word_at (ys := ["num", "num", "truth"]) y (n := 3) (by decide) (by decide)
    refine ss_set 5 G (jv_ixL hsort (jv_lst (ja_cons jv_str (ja_cons jv_str (ja_cons jv_str ja_nil)))) (jv_mod (i := y) (j := 3) (by decide) (jv_var 4) jv_int)) ?_
    have hr13a := mod_in (y / 3) (show (0 : Int) < 13 by decide)
    have hr13b := mod_in (y / 39) (show (0 : Int) < 13 by decide)
    refine ss_setJ 6 G (J.less (j_call C.form G hr (ja_consJ (j_revM (jv_slice (jv_var 2) (.inl rfl) jo_none (jo_some (jv_var 3))) fun n hn => (ja_cons (jv_lst ja_nil) (ja_cons (jv_var 1) (ja_cons (jv_add jv_int (jv_mod (i := y / 3) (j := 13) (by decide) (jv_fdiv (i := y) (j := 3) cdiv (jv_var 4) jv_int) jv_int)) (ja_cons (jv_var 5) ja_nil)))).at ⟨n, [], xs, _, sort, rfl, cm_new hm1000, hxs, by omega, by simp, fun t1 μ1 _ => ?_⟩))))
    refine ss_setJ 7 G (J.less (j_call C.form G hr (ja_consJ (j_revM (jv_slice (jv_var 2) (.inl rfl) (jo_some (jv_var 3)) jo_none) fun n hn => (ja_cons (jv_lst ja_nil) (ja_cons (jv_var 1) (ja_cons (jv_add jv_int (jv_mod (i := y / 39) (j := 13) (by decide) (jv_fdiv (i := y) (j := 39) cdiv (jv_var 4) jv_int) jv_int)) (ja_cons jv_str ja_nil)))).at ⟨n, [], xs, _, _, rfl, cm_new hm1000, hxs, by omega, by simp, fun t2 μ1 _ => ?_⟩))))
    have tail : ∀ (t1 t2 : Tm), JSs (cxOf (L2.CX P w) P w K mg base ["_law_script", "_law_names_here", "_law_cells", "_law_half", "_law_cell_here", "_law_sort", "_law_one", "_law_other", "_law_word", "_law_first", "_law_second", "_law_found", "_law_tree", "_law_whole", "_law_due_here"] "law" (defScope sLaw) f cdv Ar' outer s0 H E) F0 ((defBody sLaw).drop 8) ([some (.sq (intsD ns)), some (.lst (xs.map D.str)), some (.lst (intsD ms)), some (.int half), some (.int y), some (.str sort), some t1.d, some t2.d, none, none, none, none, none, none, none] : Rho) Mu.none { nx := fun _ μ' => q .non μ', rt := q } := by
      intro t1 t2
      refine ss_setJ 8 G (j_ixLJ (ds := words5.map D.str) (jv_lst (ja_cons jv_str (ja_cons jv_str (ja_cons jv_str (ja_cons jv_str (ja_cons jv_str ja_nil)))))) (j_modJ (j := 5) (by decide) (j_fdivJ (j := 2) (by decide) (j_call C.cell G hr ((ja_cons (jv_var 0) (ja_cons jv_int ja_nil)).at ⟨ns, 0, rfl, hns, fun z => ⟨z, rfl, jv_int, z / 2, rfl, jv_int, ?_⟩⟩)))))
      obtain ⟨j5, wd, hj5, hwd, hl5⟩ := word_at (ys := words5) (z / 2) (n := 5) (by decide) (by decide)
      refine ⟨_, _, rfl, hwd, ?_⟩
      obtain ⟨x0, rfl⟩ := dw_of hj5 hl5
      refine ss_setJ 9 G (j_call C.run G hr ((ja_cons (jv_var 6) ja_nil).at ⟨t1, rfl, fun o1 h1 hk1 => ?_⟩))
      refine ss_setJ 10 G (j_call C.run G hr ((ja_cons (jv_var 7) ja_nil).at ⟨t2, rfl, fun o2 h2 hk2 => ?_⟩))
      refine ss_for G (jv_tup (ja_cons (jv_var 9) (ja_cons (jv_var 10) ja_nil))) (.inr rfl) (fun i ρ μ' => ∃ k11 : Option D, ρ = ([some (.sq (intsD ns)), some (.lst (xs.map D.str)), some (.lst (intsD ms)), some (.int half), some (.int y), some (.str sort), some t1.d, some t2.d, some (.str x0.wd), some (optD o1), some (optD o2), k11, none, none, none] : Rho) ∧ μ' = Mu.none) ⟨none, rfl, rfl⟩ ?_ ?_
      · rintro i d ρ' μ' hd ⟨k11, rfl, rfl⟩
        have ho : ∃ (o : Option Rec) (T : Tm), d = optD o ∧ ∀ r, o = some r → RecOk T r := by
          match i, hd with
          | 0, hd => exact ⟨o1, t1, (Option.some.inj hd).symm, hk1⟩
          | 1, hd => exact ⟨o2, t2, (Option.some.inj hd).symm, hk2⟩
          | i + 2, hd => cases hd
        obtain ⟨o, T, rfl, ho⟩ := ho
        refine jg_name 11 G ?_
        cases o with
        | none => exact ss_if0 (jb_w (jw_andF (JB.is (jb_cmp op_notN rv_notN (JV.is (jv_var 11) (show optD none = D.non from rfl)) jv_non) rfl))) (ss_nil ⟨_, rfl, rfl⟩)
        | some r =>
          refine ss_if0 (jb_w (jw_andT (JB.is (jb_cmp op_notN rv_notN (JV.is (jv_var 11) (show optD (some r) = D.tup [r.ans.d, .lst (r.rows.map Row.d), .int (r.steps : Int)] from rfl)) jv_non) rfl) (jw_and1 (JB.is (jb_not (jb_val (b' := true) (j_call C.isRec G hr ((ja_cons (JV.is (jv_var 11) (show optD (some r) = r.d from rfl)) ja_nil).at ⟨T, r, rfl, ho r rfl, rfl, rfl⟩)))) rfl)))) (ss_nil ⟨_, rfl, rfl⟩)
      · rintro ρ' μ' ⟨k11, rfl, rfl⟩
        have fin : ∀ x : DW, (∀ r1, o1 = some r1 → x = .bin .call → ¬ callee r1) → JSs (cxOf (L2.CX P w) P w K mg base ["_law_script", "_law_names_here", "_law_cells", "_law_half", "_law_cell_here", "_law_sort", "_law_one", "_law_other", "_law_word", "_law_first", "_law_second", "_law_found", "_law_tree", "_law_whole", "_law_due_here"] "law" (defScope sLaw) f cdv Ar' outer s0 H E) F0 ((defBody sLaw).drop 13) ([some (.sq (intsD ns)), some (.lst (xs.map D.str)), some (.lst (intsD ms)), some (.int half), some (.int y), some (.str sort), some t1.d, some t2.d, some (.str x.wd), some (optD o1), some (optD o2), k11, none, none, none] : Rho) Mu.none { nx := fun _ μ' => q .non μ', rt := q } := by
          intro x hc
          have fin2 : JSs (cxOf (L2.CX P w) P w K mg base ["_law_script", "_law_names_here", "_law_cells", "_law_half", "_law_cell_here", "_law_sort", "_law_one", "_law_other", "_law_word", "_law_first", "_law_second", "_law_found", "_law_tree", "_law_whole", "_law_due_here"] "law" (defScope sLaw) f cdv Ar' outer s0 H E) F0 ((defBody sLaw).drop 15) ([some (.sq (intsD ns)), some (.lst (xs.map D.str)), some (.lst (intsD ms)), some (.int half), some (.int y), some (.str sort), some t1.d, some t2.d, some (.str x.wd), some (optD o1), some (optD o2), k11, some (treeOf x t1 t2).d, none, none] : Rho) Mu.none { nx := fun _ μ' => q .non μ', rt := q } := by
            refine ss_setJ 13 G (j_call C.run G hr ((ja_cons (jv_var 12) ja_nil).at ⟨treeOf x t1 t2, rfl, fun o h3 hk3 => ?_⟩))
            have hlaw := due_law h1 h2 h3 hk1 hc
            cases o1 with
            | none =>
              have eo : o = none := hlaw
              subst eo
              exact ss_ifT (JB.is (jb_cmp op_isN rv_isN (JV.is (jv_var 9) (show optD none = D.non from rfl)) jv_non) rfl) (ss_ret (JV.is (jv_cmp op_isN rv_isN (JV.is (jv_var 13) (show optD none = D.non from rfl)) jv_non) rfl) hq)
            | some r1 =>
              refine ss_if0 (JB.is (jb_cmp op_isN rv_isN (JV.is (jv_var 9) (show optD (some r1) = D.tup [r1.ans.d, .lst (r1.rows.map Row.d), .int (r1.steps : Int)] from rfl)) jv_non) rfl) ?_
              refine ss_setJ 14 G (j_call C.due G hr ((ja_cons (jv_var 8) (ja_cons (JV.is (jv_var 9) (show optD (some r1) = r1.d from rfl)) (ja_cons (jv_var 10) ja_nil))).at ⟨x, t1, t2, t1, t2, r1, o2, rfl, hk1 r1 rfl, hk2, ?_⟩))
              have hlaw2 : o = within (dueOf x t1 t2 r1 o2) := hlaw
              generalize dueOf x t1 t2 r1 o2 = due at hlaw2
              cases due with
              | none =>
                have eo : o = none := hlaw2
                subst eo
                exact ss_ifT (jb_w (jw_orT (JB.is (jb_cmp op_isN rv_isN (JV.is (jv_var 14) (show optD none = D.non from rfl)) jv_non) rfl))) (ss_ret (JV.is (jv_cmp op_isN rv_isN (JV.is (jv_var 13) (show optD none = D.non from rfl)) jv_non) rfl) hq)
              | some r =>
                have er : optD (some r) = D.tup [r.ans.d, .lst (r.rows.map Row.d), .int (r.steps : Int)] := rfl
                by_cases h500 : 500 < r.steps
                · have eo : o = none := by rw [hlaw2]; unfold within; exact if_pos h500
                  subst eo
                  exact ss_ifT (jb_w (jw_orF (JB.is (jb_cmp op_isN rv_isN (JV.is (jv_var 14) er) jv_non) rfl) (jw_or1 (JB.is (jb_cmp op_gt rv_gt (jv_ixT (d := .int (r.steps : Int)) rfl (JV.is (jv_var 14) er) jv_int) jv_int) (decide_eq_true (by omega)))))) (ss_ret (JV.is (jv_cmp op_isN rv_isN (JV.is (jv_var 13) (show optD none = D.non from rfl)) jv_non) rfl) hq)
                · have eo : o = some r := by rw [hlaw2]; unfold within; exact if_neg h500
                  subst eo
                  refine ss_if0 (jb_w (jw_orF (JB.is (jb_cmp op_isN rv_isN (JV.is (jv_var 14) er) jv_non) rfl) (jw_or1 (JB.is (jb_cmp op_gt rv_gt (jv_ixT (d := .int (r.steps : Int)) rfl (JV.is (jv_var 14) er) jv_int) jv_int) (decide_eq_false (by omega)))))) ?_
                  exact ss_ret (d := .bl true) (jv_andT (JV.is (jv_cmp op_notN rv_notN (JV.is (jv_var 13) er) jv_non) rfl) (jv_one (j_call C.same G hr ((ja_cons (JV.is (jv_var 13) (show optD (some r) = r.d from rfl)) (ja_cons (JV.is (jv_var 14) (show optD (some r) = r.d from rfl)) ja_nil)).at ⟨r.d, rfl, ok_same (hk3 r rfl), rfl, rfl⟩)))) hq
          refine ss_set 12 G (jv_tup (ja_cons (jv_var 8) (ja_cons jv_non (ja_cons (jv_tup (ja_cons (jv_var 6) (ja_cons (jv_var 7) ja_nil))) ja_nil)))) ?_
          cases x with
          | bin b =>
            have hb : decide (DW.wd (.bin b) = "if") = false := by cases b <;> rfl
            exact ss_if0 (JB.is (jb_cmp op_eq rv_eqS (jv_var 8) jv_str) hb) fin2
          | iff =>
            exact ss_ifT (JB.is (jb_cmp op_eq rv_eqS (jv_var 8) jv_str) rfl) (ss_set 12 G (JV.is (jv_tup (ja_cons jv_str (ja_cons jv_non (ja_cons (jv_tup (ja_cons (jv_var 6) (ja_cons (jv_var 7) (ja_cons (jv_tup (ja_cons jv_str (ja_cons jv_int (ja_cons (jv_tup ja_nil) ja_nil)))) ja_nil)))) ja_nil)))) (show _ = (treeOf .iff t1 t2).d from rfl)) (ss_nil fin2))
        by_cases hx : x0 = .bin .call
        · subst hx
          cases o1 with
          | none => exact ss_if0 (jb_w (jw_andT (JB.is (jb_cmp op_eq rv_eqS (jv_var 8) jv_str) rfl) (jw_andF (JB.is (jb_cmp op_notN rv_notN (JV.is (jv_var 9) (show optD none = D.non from rfl)) jv_non) rfl)))) (fin _ fun r1 z => nomatch z)
          | some r1 =>
            have e9 : optD (some r1) = D.tup [r1.ans.d, .lst (r1.rows.map Row.d), .int (r1.steps : Int)] := rfl
            have w1 : ∀ (b : Bool), decide (r1.ans.tag = "row") = b → JB (cxOf (L2.CX P w) P w K mg base ["_law_script", "_law_names_here", "_law_cells", "_law_half", "_law_cell_here", "_law_sort", "_law_one", "_law_other", "_law_word", "_law_first", "_law_second", "_law_found", "_law_tree", "_law_whole", "_law_due_here"] "law" (defScope sLaw) f cdv Ar' outer s0 H E) F0 (testOf ((defBody sLaw).getD 12 (.Pass ⟨0, 0, 0, 0⟩))) ([some (.sq (intsD ns)), some (.lst (xs.map D.str)), some (.lst (intsD ms)), some (.int half), some (.int y), some (.str sort), some t1.d, some t2.d, some (.str (DW.bin .call).wd), some (optD (some r1)), some (optD o2), k11, none, none, none] : Rho) Mu.none b := fun b hb =>
              jb_w (jw_andT (JB.is (jb_cmp op_eq rv_eqS (jv_var 8) jv_str) rfl) (jw_andT (JB.is (jb_cmp op_notN rv_notN (JV.is (jv_var 9) e9) jv_non) rfl) (jw_and1 (JB.is (jb_cmp op_eq rv_eqS (jv_ixT (d := .str r1.ans.tag) rfl (JV.is (jv_ixT (d := r1.ans.d) rfl (JV.is (jv_var 9) e9) jv_int) r1.ans.d_eq) jv_int) jv_str) hb))))
            cases ea : r1.ans with
            | num i =>
              refine ss_if0 (w1 false (by rw [ea]; rfl)) (fin _ fun r1' e' _ hcal => ?_)
              cases e'
              obtain ⟨k, row, ek, _⟩ := hcal
              rw [ea] at ek; cases ek
            | truth i =>
              refine ss_if0 (w1 false (by rw [ea]; rfl)) (fin _ fun r1' e' _ hcal => ?_)
              cases e'
              obtain ⟨k, row, ek, _⟩ := hcal
              rw [ea] at ek; cases ek
            | row k =>
              refine ss_ifT (w1 true (by rw [ea]; rfl)) ?_
              have hlt : (Th.row k).lt r1.rows.length := by rw [← ea]; exact (hk1 r1 rfl).ans
              have hk : k < r1.rows.length := hlt
              have hget : atI (r1.rows.map Row.d) (k : Int) = some r1.rows[k].d := atI_nat (by rw [List.getElem?_map, List.getElem?_eq_getElem hk]; rfl)
              have eans : r1.ans.d = .tup [.str "row", .int (k : Int)] := by rw [ea]; rfl
              refine ss_if (jb_cmp op_in_seq (rv_inT (s := r1.rows[k].fm.word) (ts := ["fn", "rec"])) (jv_ixT (d := .str r1.rows[k].fm.word) rfl (JV.is (jv_ixL hget (jv_ixT (d := .lst (r1.rows.map Row.d)) rfl (JV.is (jv_var 9) e9) jv_int) (jv_ixT (d := .int (k : Int)) rfl (JV.is (jv_ixT (d := r1.ans.d) rfl (JV.is (jv_var 9) e9) jv_int) eans) jv_int)) (show r1.rows[k].d = .tup [.str r1.rows[k].fm.word, placeD r1.rows[k].place, .lst (r1.rows[k].ops.map Th.d), arD r1.rows[k].ar] from rfl)) jv_int) (jv_tup (ja_cons jv_str (ja_cons jv_str ja_nil)))) (fun _ => ?_) (fun hin => ss_nil (ss_nil ?_))
              · exact ss_set 8 G (d := .str (DW.bin .minus).wd) jv_str (ss_nil (ss_nil (fin (.bin .minus) fun _ _ h => by cases h)))
              · refine fin _ fun r1' e' _ hcal => ?_
                cases e'
                obtain ⟨k', row, ek, hrow, hfn⟩ := hcal
                rw [ea] at ek
                cases ek
                rw [List.getElem?_eq_getElem hk] at hrow
                have er := Option.some.inj hrow
                subst er
                rw [rc_fn hfn] at hin
                cases hin
        · have hw : decide (x0.wd = "call") = false := by
            cases x0 with
            | iff => rfl
            | bin b => cases b <;> first | rfl | exact absurd rfl hx
          exact ss_if0 (jb_w (jw_andF (JB.is (jb_cmp op_eq rv_eqS (jv_var 8) jv_str) hw))) (fin _ fun _ _ h => absurd h hx)
    refine ss_ifJ (j_call C.free G hr ((ja_cons (jv_var 0) ja_nil).at ⟨ns, rfl, hns, fun b => ⟨b, rfl, fun _ => ?_, fun _ => ss_nil (tail t1 t2)⟩⟩))
    refine ss_setJ 6 G (J.less (j_call C.any G hr (ja_consJ (j_revM (jv_slice (jv_var 2) (.inl rfl) jo_none (jo_some (jv_var 3))) fun n hn => (ja_cons (jv_var 1) (ja_cons jv_int ja_nil)).at ⟨n, xs, rfl, cm_new hm1000, hxs, fun t1 μ1 _ => ?_⟩))))
    refine ss_setJ 7 G (J.less (j_call C.any G hr (ja_consJ (j_revM (jv_slice (jv_var 2) (.inl rfl) (jo_some (jv_var 3)) jo_none) fun n hn => (ja_cons (jv_var 1) (ja_cons jv_int ja_nil)).at ⟨n, xs, rfl, cm_new hm1000, hxs, fun t2 μ1 _ => ?_⟩))))
    exact ss_nil (tail t1 t2)
end
end Gs

/-! All defs of the text, put together. -/
namespace Gs
open PySem PySem.Spec PyProof.Rows L2
def spLaw (K : PySem.W.Frag) : Sp := fun vs H Q _ => ∃ (a : Addr) (ns : List Int), vs = [.ref a] ∧ SqL K H a (ns.map V.int) ∧ ns.length ≤ 63 ∧ ∀ H', Q (.bl true) H'
theorem exm_own {K : PySem.W.Frag} {S : Addr} (h1 : PySem.W.subIn K (.ref S) (.type "BaseException") = some true) (h2 : PySem.W.isClsIn K S = true) (h3 : PySem.W.typeIn K (.ref S) = some (.type "type")) (h4 : PySem.W.subIn K (.ref S) (.ref S) = some true) : PySem.W.exmOne K (.ref S) (.ref S) = some true := by
  have e1 : (PySem.W.subIn K (.ref S) (.type "BaseException") == some true) = true := by rw [h1]; rfl
  have e2 : ((PySem.W.clsIn K S).isSome && PySem.W.typeIn K (.ref S) == some (.type "type")) = true := by
    rw [show (PySem.W.clsIn K S).isSome = true from h2, h3]; rfl
  show (if (PySem.W.subIn K (.ref S) (.type "BaseException") == some true) = true then (if ((PySem.W.clsIn K S).isSome && PySem.W.typeIn K (.ref S) == some (.type "type")) = true then PySem.W.subIn K (.ref S) (.ref S) else none) else none) = some true
  rw [if_pos e1, if_pos e2]
  exact h4
theorem ints_at {K : PySem.W.Frag} {F : Hp} : ∀ ns : List Int, DAts K F (ns.map V.int) (intsD ns)
  | [] => .nil
  | n :: ns => .cons .int (ints_at ns)
theorem all_mk {P : Program} {w : World} {K : PySem.W.Frag} {h : Heap} {mg : Str → Option Value} {fa CM CT CB CC CJ TL : Addr} {tk : Tok} (X : K.In h) (G : h.Ns mainGlobals mg) (hfa : mg "law" = some (.ref fa))
    {f1 f2 f3 f4 f5 f6 f7 f8 f9 f10 f11 f12 f13 f14 f15 f16 f17 f18 f19 f20 f21 f22 f23 f24 f25 f26 f27 f28 f29 f30 f31 f32 f33 f34 f35 f36 : Addr}
    {od1 an1 od2 an2 od3 an3 od4 an4 od5 an5 od6 an6 od7 an7 od8 an8 od9 an9 od10 an10 od11 an11 od12 an12 od13 an13 od14 an14 od15 an15 od16 an16 od17 an17 od18 an18 od19 an19 od20 an20 od21 an21 od22 an22 od23 an23 od24 an24 od25 an25 od26 an26 od27 an27 od28 an28 od29 an29 od30 an30 od31 an31 od32 an32 od33 an33 od34 an34 od35 an35 od36 an36 : Option Addr}
    {sl1 sl2 sl3 sl4 sl5 sl6 sl7 sl8 sl9 sl10 sl11 sl12 sl13 sl14 sl15 sl16 sl17 sl18 sl19 sl20 sl21 sl22 sl23 sl24 sl25 sl26 sl27 sl28 sl29 sl30 sl31 sl32 sl33 sl34 sl35 sl36 : Array (Option Value)}
    {oc1 kV1 dc1 pm1 cd1 ct1 oc2 kV2 dc2 pm2 cd2 ct2 oc3 kV3 dc3 pm3 cd3 ct3 oc4 kV4 dc4 pm4 cd4 ct4 oc5 kV5 dc5 pm5 cd5 ct5 oc6 kV6 dc6 pm6 cd6 ct6 oc7 kV7 dc7 pm7 cd7 ct7 oc8 kV8 dc8 pm8 cd8 ct8 oc9 kV9 dc9 pm9 cd9 ct9 oc10 kV10 dc10 pm10 cd10 ct10 oc11 kV11 dc11 pm11 cd11 ct11 oc12 kV12 dc12 pm12 cd12 ct12 oc13 kV13 dc13 pm13 cd13 ct13 oc14 kV14 dc14 pm14 cd14 ct14 oc15 kV15 dc15 pm15 cd15 ct15 oc16 kV16 dc16 pm16 cd16 ct16 oc17 kV17 dc17 pm17 cd17 ct17 oc18 kV18 dc18 pm18 cd18 ct18 oc19 kV19 dc19 pm19 cd19 ct19 oc20 kV20 dc20 pm20 cd20 ct20 oc21 kV21 dc21 pm21 cd21 ct21 oc22 kV22 dc22 pm22 cd22 ct22 oc23 kV23 dc23 pm23 cd23 ct23 oc24 kV24 dc24 pm24 cd24 ct24 oc25 kV25 dc25 pm25 cd25 ct25 oc26 kV26 dc26 pm26 cd26 ct26 oc27 kV27 dc27 pm27 cd27 ct27 oc28 kV28 dc28 pm28 cd28 ct28 oc29 kV29 dc29 pm29 cd29 ct29 oc30 kV30 dc30 pm30 cd30 ct30 oc31 kV31 dc31 pm31 cd31 ct31 oc32 kV32 dc32 pm32 cd32 ct32 oc33 kV33 dc33 pm33 cd33 ct33 oc34 kV34 dc34 pm34 cd34 ct34 oc35 kV35 dc35 pm35 cd35 ct35 oc36 kV36 dc36 pm36 cd36 ct36 : Value}
    (aCM : PySem.W.nsIn K mainGlobals "Machine" = some (some (.ref CM)))
    (aCT : PySem.W.nsIn K mainGlobals "Task" = some (some (.ref CT)))
    (aCB : PySem.W.nsIn K mainGlobals "Bind" = some (some (.ref CB)))
    (aCC : PySem.W.nsIn K mainGlobals "Choose" = some (some (.ref CC)))
    (aCJ : PySem.W.nsIn K mainGlobals "Join" = some (some (.ref CJ)))
    (aTL : PySem.W.nsIn K mainGlobals "TooLong" = some (some (.ref TL)))
    (aMOST : PySem.W.nsIn K mainGlobals "MOST" = some (some (.int 500 tk)))
    (a1 : PySem.W.findIn K (.ref CM) "__init__" = some (some (.ref f1)))
    (i1 : PySem.W.isFn K (.ref f1) = true)
    (l1 : K.lookup f1 = some ⟨oc1, od1, .func (PySem.W.fnOf "__init__" "Machine.__init__" (defArgs sMInit) (defBody sMInit) (defScope sMInit) .none kV1 dc1 pm1 an1 cd1 ct1), sl1⟩)
    (c1 : PySem.W.codeIn K cd1 "Machine.__init__" = true)
    (k1 : PySem.W.keepIn K (.ref f1) = true)
    (a2 : PySem.W.findIn K (.ref CM) "count_step" = some (some (.ref f2)))
    (i2 : PySem.W.isFn K (.ref f2) = true)
    (l2 : K.lookup f2 = some ⟨oc2, od2, .func (PySem.W.fnOf "count_step" "Machine.count_step" (defArgs sCount) (defBody sCount) (defScope sCount) .none kV2 dc2 pm2 an2 cd2 ct2), sl2⟩)
    (c2 : PySem.W.codeIn K cd2 "Machine.count_step" = true)
    (k2 : PySem.W.keepIn K (.ref f2) = true)
    (a3 : PySem.W.findIn K (.ref CM) "make_row" = some (some (.ref f3)))
    (i3 : PySem.W.isFn K (.ref f3) = true)
    (l3 : K.lookup f3 = some ⟨oc3, od3, .func (PySem.W.fnOf "make_row" "Machine.make_row" (defArgs sMake) (defBody sMake) (defScope sMake) .none kV3 dc3 pm3 an3 cd3 ct3), sl3⟩)
    (c3 : PySem.W.codeIn K cd3 "Machine.make_row" = true)
    (k3 : PySem.W.keepIn K (.ref f3) = true)
    (a4 : PySem.W.findIn K (.ref CM) "run_off" = some (some (.ref f4)))
    (i4 : PySem.W.isFn K (.ref f4) = true)
    (l4 : K.lookup f4 = some ⟨oc4, od4, .func (PySem.W.fnOf "run_off" "Machine.run_off" (defArgs sRunOff) (defBody sRunOff) (defScope sRunOff) .none kV4 dc4 pm4 an4 cd4 ct4), sl4⟩)
    (c4 : PySem.W.codeIn K cd4 "Machine.run_off" = true)
    (k4 : PySem.W.keepIn K (.ref f4) = true)
    (a5 : PySem.W.findIn K (.ref CT) "__init__" = some (some (.ref f5)))
    (i5 : PySem.W.isFn K (.ref f5) = true)
    (l5 : K.lookup f5 = some ⟨oc5, od5, .func (PySem.W.fnOf "__init__" "Task.__init__" (defArgs sTInit) (defBody sTInit) (defScope sTInit) .none kV5 dc5 pm5 an5 cd5 ct5), sl5⟩)
    (c5 : PySem.W.codeIn K cd5 "Task.__init__" = true)
    (k5 : PySem.W.keepIn K (.ref f5) = true)
    (a6 : PySem.W.findIn K (.ref CT) "act" = some (some (.ref f6)))
    (i6 : PySem.W.isFn K (.ref f6) = true)
    (l6 : K.lookup f6 = some ⟨oc6, od6, .func (PySem.W.fnOf "act" "Task.act" (defArgs sTAct) (defBody sTAct) (defScope sTAct) .none kV6 dc6 pm6 an6 cd6 ct6), sl6⟩)
    (c6 : PySem.W.codeIn K cd6 "Task.act" = true)
    (k6 : PySem.W.keepIn K (.ref f6) = true)
    (a7 : PySem.W.findIn K (.ref CB) "act" = some (some (.ref f7)))
    (i7 : PySem.W.isFn K (.ref f7) = true)
    (l7 : K.lookup f7 = some ⟨oc7, od7, .func (PySem.W.fnOf "act" "Bind.act" (defArgs sBAct) (defBody sBAct) (defScope sBAct) .none kV7 dc7 pm7 an7 cd7 ct7), sl7⟩)
    (c7 : PySem.W.codeIn K cd7 "Bind.act" = true)
    (k7 : PySem.W.keepIn K (.ref f7) = true)
    (a8 : PySem.W.findIn K (.ref CC) "act" = some (some (.ref f8)))
    (i8 : PySem.W.isFn K (.ref f8) = true)
    (l8 : K.lookup f8 = some ⟨oc8, od8, .func (PySem.W.fnOf "act" "Choose.act" (defArgs sCAct) (defBody sCAct) (defScope sCAct) .none kV8 dc8 pm8 an8 cd8 ct8), sl8⟩)
    (c8 : PySem.W.codeIn K cd8 "Choose.act" = true)
    (k8 : PySem.W.keepIn K (.ref f8) = true)
    (a9 : PySem.W.findIn K (.ref CJ) "act" = some (some (.ref f9)))
    (i9 : PySem.W.isFn K (.ref f9) = true)
    (l9 : K.lookup f9 = some ⟨oc9, od9, .func (PySem.W.fnOf "act" "Join.act" (defArgs sJAct) (defBody sJAct) (defScope sJAct) .none kV9 dc9 pm9 an9 cd9 ct9), sl9⟩)
    (c9 : PySem.W.codeIn K cd9 "Join.act" = true)
    (k9 : PySem.W.keepIn K (.ref f9) = true)
    (a10 : PySem.W.nsIn K mainGlobals "form_at" = some (some (.ref f10)))
    (l10 : K.lookup f10 = some ⟨oc10, od10, .func (PySem.W.fnOf "form_at" "form_at" (defArgs sFormAt) (defBody sFormAt) (defScope sFormAt) .none kV10 dc10 pm10 an10 cd10 ct10), sl10⟩)
    (c10 : PySem.W.codeIn K cd10 "form_at" = true)
    (k10 : PySem.W.keepIn K (.ref f10) = true)
    (a11 : PySem.W.nsIn K mainGlobals "is_called" = some (some (.ref f11)))
    (l11 : K.lookup f11 = some ⟨oc11, od11, .func (PySem.W.fnOf "is_called" "is_called" (defArgs sIsCalled) (defBody sIsCalled) (defScope sIsCalled) .none kV11 dc11 pm11 an11 cd11 ct11), sl11⟩)
    (c11 : PySem.W.codeIn K cd11 "is_called" = true)
    (k11 : PySem.W.keepIn K (.ref f11) = true)
    (a12 : PySem.W.nsIn K mainGlobals "look_up" = some (some (.ref f12)))
    (l12 : K.lookup f12 = some ⟨oc12, od12, .func (PySem.W.fnOf "look_up" "look_up" (defArgs sLookUp) (defBody sLookUp) (defScope sLookUp) .none kV12 dc12 pm12 an12 cd12 ct12), sl12⟩)
    (c12 : PySem.W.codeIn K cd12 "look_up" = true)
    (k12 : PySem.W.keepIn K (.ref f12) = true)
    (a13 : PySem.W.nsIn K mainGlobals "come_to" = some (some (.ref f13)))
    (l13 : K.lookup f13 = some ⟨oc13, od13, .func (PySem.W.fnOf "come_to" "come_to" (defArgs sCome) (defBody sCome) (defScope sCome) .none kV13 dc13 pm13 an13 cd13 ct13), sl13⟩)
    (c13 : PySem.W.codeIn K cd13 "come_to" = true)
    (k13 : PySem.W.keepIn K (.ref f13) = true)
    (a14 : PySem.W.nsIn K mainGlobals "reckoned" = some (some (.ref f14)))
    (l14 : K.lookup f14 = some ⟨oc14, od14, .func (PySem.W.fnOf "reckoned" "reckoned" (defArgs sReck) (defBody sReck) (defScope sReck) .none kV14 dc14 pm14 an14 cd14 ct14), sl14⟩)
    (c14 : PySem.W.codeIn K cd14 "reckoned" = true)
    (k14 : PySem.W.keepIn K (.ref f14) = true)
    (a15 : PySem.W.nsIn K mainGlobals "join_two" = some (some (.ref f15)))
    (l15 : K.lookup f15 = some ⟨oc15, od15, .func (PySem.W.fnOf "join_two" "join_two" (defArgs sJoin) (defBody sJoin) (defScope sJoin) .none kV15 dc15 pm15 an15 cd15 ct15), sl15⟩)
    (c15 : PySem.W.codeIn K cd15 "join_two" = true)
    (k15 : PySem.W.keepIn K (.ref f15) = true)
    (a16 : PySem.W.nsIn K mainGlobals "choose_one" = some (some (.ref f16)))
    (l16 : K.lookup f16 = some ⟨oc16, od16, .func (PySem.W.fnOf "choose_one" "choose_one" (defArgs sChoose) (defBody sChoose) (defScope sChoose) .none kV16 dc16 pm16 an16 cd16 ct16), sl16⟩)
    (c16 : PySem.W.codeIn K cd16 "choose_one" = true)
    (k16 : PySem.W.keepIn K (.ref f16) = true)
    (a17 : PySem.W.nsIn K mainGlobals "call_on" = some (some (.ref f17)))
    (l17 : K.lookup f17 = some ⟨oc17, od17, .func (PySem.W.fnOf "call_on" "call_on" (defArgs sCallOn) (defBody sCallOn) (defScope sCallOn) .none kV17 dc17 pm17 an17 cd17 ct17), sl17⟩)
    (c17 : PySem.W.codeIn K cd17 "call_on" = true)
    (k17 : PySem.W.keepIn K (.ref f17) = true)
    (a18 : PySem.W.nsIn K mainGlobals "run" = some (some (.ref f18)))
    (l18 : K.lookup f18 = some ⟨oc18, od18, .func (PySem.W.fnOf "run" "run" (defArgs sRun) (defBody sRun) (defScope sRun) .none kV18 dc18 pm18 an18 cd18 ct18), sl18⟩)
    (c18 : PySem.W.codeIn K cd18 "run" = true)
    (k18 : PySem.W.keepIn K (.ref f18) = true)
    (a19 : PySem.W.nsIn K mainGlobals "_law_cell" = some (some (.ref f19)))
    (l19 : K.lookup f19 = some ⟨oc19, od19, .func (PySem.W.fnOf "_law_cell" "_law_cell" (defArgs sCell) (defBody sCell) (defScope sCell) .none kV19 dc19 pm19 an19 cd19 ct19), sl19⟩)
    (c19 : PySem.W.codeIn K cd19 "_law_cell" = true)
    (k19 : PySem.W.keepIn K (.ref f19) = true)
    (a20 : PySem.W.nsIn K mainGlobals "_law_mixed" = some (some (.ref f20)))
    (l20 : K.lookup f20 = some ⟨oc20, od20, .func (PySem.W.fnOf "_law_mixed" "_law_mixed" (defArgs sMixed) (defBody sMixed) (defScope sMixed) .none kV20 dc20 pm20 an20 cd20 ct20), sl20⟩)
    (c20 : PySem.W.codeIn K cd20 "_law_mixed" = true)
    (k20 : PySem.W.keepIn K (.ref f20) = true)
    (a21 : PySem.W.nsIn K mainGlobals "_law_same" = some (some (.ref f21)))
    (l21 : K.lookup f21 = some ⟨oc21, od21, .func (PySem.W.fnOf "_law_same" "_law_same" (defArgs sSame) (defBody sSame) (defScope sSame) .none kV21 dc21 pm21 an21 cd21 ct21), sl21⟩)
    (c21 : PySem.W.codeIn K cd21 "_law_same" = true)
    (k21 : PySem.W.keepIn K (.ref f21) = true)
    (a22 : PySem.W.nsIn K mainGlobals "_law_names" = some (some (.ref f22)))
    (l22 : K.lookup f22 = some ⟨oc22, od22, .func (PySem.W.fnOf "_law_names" "_law_names" (defArgs sNames) (defBody sNames) (defScope sNames) .none kV22 dc22 pm22 an22 cd22 ct22), sl22⟩)
    (c22 : PySem.W.codeIn K cd22 "_law_names" = true)
    (k22 : PySem.W.keepIn K (.ref f22) = true)
    (a23 : PySem.W.nsIn K mainGlobals "_law_number" = some (some (.ref f23)))
    (l23 : K.lookup f23 = some ⟨oc23, od23, .func (PySem.W.fnOf "_law_number" "_law_number" (defArgs sNumber) (defBody sNumber) (defScope sNumber) .none kV23 dc23 pm23 an23 cd23 ct23), sl23⟩)
    (c23 : PySem.W.codeIn K cd23 "_law_number" = true)
    (k23 : PySem.W.keepIn K (.ref f23) = true)
    (a24 : PySem.W.nsIn K mainGlobals "_law_is_free" = some (some (.ref f24)))
    (l24 : K.lookup f24 = some ⟨oc24, od24, .func (PySem.W.fnOf "_law_is_free" "_law_is_free" (defArgs sFree) (defBody sFree) (defScope sFree) .none kV24 dc24 pm24 an24 cd24 ct24), sl24⟩)
    (c24 : PySem.W.codeIn K cd24 "_law_is_free" = true)
    (k24 : PySem.W.keepIn K (.ref f24) = true)
    (a25 : PySem.W.nsIn K mainGlobals "_law_any" = some (some (.ref f25)))
    (l25 : K.lookup f25 = some ⟨oc25, od25, .func (PySem.W.fnOf "_law_any" "_law_any" (defArgs sAny) (defBody sAny) (defScope sAny) .none kV25 dc25 pm25 an25 cd25 ct25), sl25⟩)
    (c25 : PySem.W.codeIn K cd25 "_law_any" = true)
    (k25 : PySem.W.keepIn K (.ref f25) = true)
    (a26 : PySem.W.nsIn K mainGlobals "_law_end" = some (some (.ref f26)))
    (l26 : K.lookup f26 = some ⟨oc26, od26, .func (PySem.W.fnOf "_law_end" "_law_end" (defArgs sEnd) (defBody sEnd) (defScope sEnd) .none kV26 dc26 pm26 an26 cd26 ct26), sl26⟩)
    (c26 : PySem.W.codeIn K cd26 "_law_end" = true)
    (k26 : PySem.W.keepIn K (.ref f26) = true)
    (a27 : PySem.W.nsIn K mainGlobals "_law_form" = some (some (.ref f27)))
    (l27 : K.lookup f27 = some ⟨oc27, od27, .func (PySem.W.fnOf "_law_form" "_law_form" (defArgs sForm) (defBody sForm) (defScope sForm) .none kV27 dc27 pm27 an27 cd27 ct27), sl27⟩)
    (c27 : PySem.W.codeIn K cd27 "_law_form" = true)
    (k27 : PySem.W.keepIn K (.ref f27) = true)
    (a28 : PySem.W.nsIn K mainGlobals "_law_is_thing" = some (some (.ref f28)))
    (l28 : K.lookup f28 = some ⟨oc28, od28, .func (PySem.W.fnOf "_law_is_thing" "_law_is_thing" (defArgs sIsThing) (defBody sIsThing) (defScope sIsThing) .none kV28 dc28 pm28 an28 cd28 ct28), sl28⟩)
    (c28 : PySem.W.codeIn K cd28 "_law_is_thing" = true)
    (k28 : PySem.W.keepIn K (.ref f28) = true)
    (a29 : PySem.W.nsIn K mainGlobals "_law_is_row" = some (some (.ref f29)))
    (l29 : K.lookup f29 = some ⟨oc29, od29, .func (PySem.W.fnOf "_law_is_row" "_law_is_row" (defArgs sIsRow) (defBody sIsRow) (defScope sIsRow) .none kV29 dc29 pm29 an29 cd29 ct29), sl29⟩)
    (c29 : PySem.W.codeIn K cd29 "_law_is_row" = true)
    (k29 : PySem.W.keepIn K (.ref f29) = true)
    (a30 : PySem.W.nsIn K mainGlobals "_law_is_record" = some (some (.ref f30)))
    (l30 : K.lookup f30 = some ⟨oc30, od30, .func (PySem.W.fnOf "_law_is_record" "_law_is_record" (defArgs sIsRecord) (defBody sIsRecord) (defScope sIsRecord) .none kV30 dc30 pm30 an30 cd30 ct30), sl30⟩)
    (c30 : PySem.W.codeIn K cd30 "_law_is_record" = true)
    (k30 : PySem.W.keepIn K (.ref f30) = true)
    (a31 : PySem.W.nsIn K mainGlobals "_law_run" = some (some (.ref f31)))
    (l31 : K.lookup f31 = some ⟨oc31, od31, .func (PySem.W.fnOf "_law_run" "_law_run" (defArgs sLRun) (defBody sLRun) (defScope sLRun) .none kV31 dc31 pm31 an31 cd31 ct31), sl31⟩)
    (c31 : PySem.W.codeIn K cd31 "_law_run" = true)
    (k31 : PySem.W.keepIn K (.ref f31) = true)
    (a32 : PySem.W.nsIn K mainGlobals "_law_thing" = some (some (.ref f32)))
    (l32 : K.lookup f32 = some ⟨oc32, od32, .func (PySem.W.fnOf "_law_thing" "_law_thing" (defArgs sThing) (defBody sThing) (defScope sThing) .none kV32 dc32 pm32 an32 cd32 ct32), sl32⟩)
    (c32 : PySem.W.codeIn K cd32 "_law_thing" = true)
    (k32 : PySem.W.keepIn K (.ref f32) = true)
    (a33 : PySem.W.nsIn K mainGlobals "_law_moved" = some (some (.ref f33)))
    (l33 : K.lookup f33 = some ⟨oc33, od33, .func (PySem.W.fnOf "_law_moved" "_law_moved" (defArgs sMoved) (defBody sMoved) (defScope sMoved) .none kV33 dc33 pm33 an33 cd33 ct33), sl33⟩)
    (c33 : PySem.W.codeIn K cd33 "_law_moved" = true)
    (k33 : PySem.W.keepIn K (.ref f33) = true)
    (a34 : PySem.W.nsIn K mainGlobals "_law_joined" = some (some (.ref f34)))
    (l34 : K.lookup f34 = some ⟨oc34, od34, .func (PySem.W.fnOf "_law_joined" "_law_joined" (defArgs sJoined) (defBody sJoined) (defScope sJoined) .none kV34 dc34 pm34 an34 cd34 ct34), sl34⟩)
    (c34 : PySem.W.codeIn K cd34 "_law_joined" = true)
    (k34 : PySem.W.keepIn K (.ref f34) = true)
    (a35 : PySem.W.nsIn K mainGlobals "_law_due" = some (some (.ref f35)))
    (l35 : K.lookup f35 = some ⟨oc35, od35, .func (PySem.W.fnOf "_law_due" "_law_due" (defArgs sDue) (defBody sDue) (defScope sDue) .none kV35 dc35 pm35 an35 cd35 ct35), sl35⟩)
    (c35 : PySem.W.codeIn K cd35 "_law_due" = true)
    (k35 : PySem.W.keepIn K (.ref f35) = true)
    (a36 : PySem.W.nsIn K mainGlobals "law" = some (some (.ref f36)))
    (l36 : K.lookup f36 = some ⟨oc36, od36, .func (PySem.W.fnOf "law" "law" (defArgs sLaw) (defBody sLaw) (defScope sLaw) .none kV36 dc36 pm36 an36 cd36 ct36), sl36⟩)
    (c36 : PySem.W.codeIn K cd36 "law" = true)
    (k36 : PySem.W.keepIn K (.ref f36) = true)
    (nCB : PySem.W.findIn K (.ref CB) "__init__" = some (some (.ref f5)))
    (nCC : PySem.W.findIn K (.ref CC) "__init__" = some (some (.ref f5)))
    (nCJ : PySem.W.findIn K (.ref CJ) "__init__" = some (some (.ref f5)))
    (pgCM : PySem.W.plainGet K CM Str.empty = true)
    (hdCM : PySem.W.hasDictIn K CM = true)
    (poCM : PySem.W.plainOver K CM = true)
    (saCM : PySem.W.findIn K (.ref CM) "__setattr__" = some (some (.builtin "object.__setattr__")))
    (mkCM : PySem.W.makesIn K CM = true)
    (kcCM : PySem.W.keepIn K (.ref CM) = true)
    (pgCT : PySem.W.plainGet K CT Str.empty = true)
    (hdCT : PySem.W.hasDictIn K CT = true)
    (poCT : PySem.W.plainOver K CT = true)
    (saCT : PySem.W.findIn K (.ref CT) "__setattr__" = some (some (.builtin "object.__setattr__")))
    (mkCT : PySem.W.makesIn K CT = true)
    (kcCT : PySem.W.keepIn K (.ref CT) = true)
    (pgCB : PySem.W.plainGet K CB Str.empty = true)
    (hdCB : PySem.W.hasDictIn K CB = true)
    (poCB : PySem.W.plainOver K CB = true)
    (saCB : PySem.W.findIn K (.ref CB) "__setattr__" = some (some (.builtin "object.__setattr__")))
    (mkCB : PySem.W.makesIn K CB = true)
    (kcCB : PySem.W.keepIn K (.ref CB) = true)
    (pgCC : PySem.W.plainGet K CC Str.empty = true)
    (hdCC : PySem.W.hasDictIn K CC = true)
    (poCC : PySem.W.plainOver K CC = true)
    (saCC : PySem.W.findIn K (.ref CC) "__setattr__" = some (some (.builtin "object.__setattr__")))
    (mkCC : PySem.W.makesIn K CC = true)
    (kcCC : PySem.W.keepIn K (.ref CC) = true)
    (pgCJ : PySem.W.plainGet K CJ Str.empty = true)
    (hdCJ : PySem.W.hasDictIn K CJ = true)
    (poCJ : PySem.W.plainOver K CJ = true)
    (saCJ : PySem.W.findIn K (.ref CJ) "__setattr__" = some (some (.builtin "object.__setattr__")))
    (mkCJ : PySem.W.makesIn K CJ = true)
    (kcCJ : PySem.W.keepIn K (.ref CJ) = true)
    (m_tree : PySem.W.findIn K (.ref CM) "tree" = some none)
    (m_steps : PySem.W.findIn K (.ref CM) "steps" = some none)
    (m_rows : PySem.W.findIn K (.ref CM) "rows" = some none)
    (m_tasks : PySem.W.findIn K (.ref CM) "tasks" = some none)
    (m_things : PySem.W.findIn K (.ref CM) "things" = some none)
    (tCT_place : PySem.W.findIn K (.ref CT) "place" = some none)
    (tCT_form : PySem.W.findIn K (.ref CT) "form" = some none)
    (tCT_around : PySem.W.findIn K (.ref CT) "around" = some none)
    (tCB_place : PySem.W.findIn K (.ref CB) "place" = some none)
    (tCB_form : PySem.W.findIn K (.ref CB) "form" = some none)
    (tCB_around : PySem.W.findIn K (.ref CB) "around" = some none)
    (tCC_place : PySem.W.findIn K (.ref CC) "place" = some none)
    (tCC_form : PySem.W.findIn K (.ref CC) "form" = some none)
    (tCC_around : PySem.W.findIn K (.ref CC) "around" = some none)
    (tCJ_place : PySem.W.findIn K (.ref CJ) "place" = some none)
    (tCJ_form : PySem.W.findIn K (.ref CJ) "form" = some none)
    (tCJ_around : PySem.W.findIn K (.ref CJ) "around" = some none)
    (kTL : PySem.W.keepIn K (.ref TL) = true)
    (xTL : PySem.W.excIn K TL [.type "ValueError", .type "Exception", .type "BaseException", .type "object"] "ValueError.__new__" = true)
    (bTL : PySem.W.subIn K (.ref TL) (.type "BaseException") = some true)
    (tTL : PySem.W.typeIn K (.ref TL) = some (.type "type"))
    (iTL : PySem.W.isClsIn K TL = true)
    (sTL : PySem.W.subIn K (.ref TL) (.ref TL) = some true)
    (z_len : PySem.W.nsIn K mainGlobals "len" = some none)
    (z_isinstance : PySem.W.nsIn K mainGlobals "isinstance" = some none)
    (z_list : PySem.W.nsIn K mainGlobals "list" = some none)
    (z_tuple : PySem.W.nsIn K mainGlobals "tuple" = some none)
    (z_str : PySem.W.nsIn K mainGlobals "str" = some none)
    (z_int : PySem.W.nsIn K mainGlobals "int" = some none)
    (z_bool : PySem.W.nsIn K mainGlobals "bool" = some none)
    (z_range : PySem.W.nsIn K mainGlobals "range" = some none)
    (z_max : PySem.W.nsIn K mainGlobals "max" = some none) :
    ∃ fd : FuncData, (∀ (s : Shared) (v : Value), BindsTo s fd ⟨[v], []⟩ [("_law_script", v)]) ∧ ∀ base : Heap, K.In base → base.Ns mainGlobals mg → FnOk P w K mg base (L2.CX P w) 32 fa fd ["_law_script"] (spLaw K) := by
  have e := hfa.symm.trans (PySem.W.mg_of X G a36)
  cases e
  have F1 := fun_mk (st := sMInit) l1 c1 k1
  have F2 := fun_mk (st := sCount) l2 c2 k2
  have F3 := fun_mk (st := sMake) l3 c3 k3
  have F4 := fun_mk (st := sRunOff) l4 c4 k4
  have F5 := fun_mk (st := sTInit) l5 c5 k5
  have F6 := fun_mk (st := sTAct) l6 c6 k6
  have F7 := fun_mk (st := sBAct) l7 c7 k7
  have F8 := fun_mk (st := sCAct) l8 c8 k8
  have F9 := fun_mk (st := sJAct) l9 c9 k9
  have F10 := fun_mk (st := sFormAt) l10 c10 k10
  have F11 := fun_mk (st := sIsCalled) l11 c11 k11
  have F12 := fun_mk (st := sLookUp) l12 c12 k12
  have F13 := fun_mk (st := sCome) l13 c13 k13
  have F14 := fun_mk (st := sReck) l14 c14 k14
  have F15 := fun_mk (st := sJoin) l15 c15 k15
  have F16 := fun_mk (st := sChoose) l16 c16 k16
  have F17 := fun_mk (st := sCallOn) l17 c17 k17
  have F18 := fun_mk (st := sRun) l18 c18 k18
  have F19 := fun_mk (st := sCell) l19 c19 k19
  have F20 := fun_mk (st := sMixed) l20 c20 k20
  have F21 := fun_mk (st := sSame) l21 c21 k21
  have F22 := fun_mk (st := sNames) l22 c22 k22
  have F23 := fun_mk (st := sNumber) l23 c23 k23
  have F24 := fun_mk (st := sFree) l24 c24 k24
  have F25 := fun_mk (st := sAny) l25 c25 k25
  have F26 := fun_mk (st := sEnd) l26 c26 k26
  have F27 := fun_mk (st := sForm) l27 c27 k27
  have F28 := fun_mk (st := sIsThing) l28 c28 k28
  have F29 := fun_mk (st := sIsRow) l29 c29 k29
  have F30 := fun_mk (st := sIsRecord) l30 c30 k30
  have F31 := fun_mk (st := sLRun) l31 c31 k31
  have F32 := fun_mk (st := sThing) l32 c32 k32
  have F33 := fun_mk (st := sMoved) l33 c33 k33
  have F34 := fun_mk (st := sJoined) l34 c34 k34
  have F35 := fun_mk (st := sDue) l35 c35 k35
  have F36 := fun_mk (st := sLaw) l36 c36 k36
  have b1 := F1.binds (ps := ["self", "tree", "steps"]) fun _ _ _ _ _ _ us hl => match us, hl with | [_, _, _], _ => rfl
  have b2 := F2.binds (ps := ["self"]) fun _ _ _ _ _ _ us hl => match us, hl with | [_], _ => rfl
  have b3 := F3.binds (ps := ["self", "word", "place", "operands", "around"]) fun _ _ _ _ _ _ us hl => match us, hl with | [_, _, _, _, _], _ => rfl
  have b4 := F4.binds (ps := ["self"]) fun _ _ _ _ _ _ us hl => match us, hl with | [_], _ => rfl
  have b5 := F5.binds (ps := ["self", "place", "form", "around"]) fun _ _ _ _ _ _ us hl => match us, hl with | [_, _, _, _], _ => rfl
  have b6 := F6.binds (ps := ["self", "machine"]) fun _ _ _ _ _ _ us hl => match us, hl with | [_, _], _ => rfl
  have b7 := F7.binds (ps := ["self", "machine"]) fun _ _ _ _ _ _ us hl => match us, hl with | [_, _], _ => rfl
  have b8 := F8.binds (ps := ["self", "machine"]) fun _ _ _ _ _ _ us hl => match us, hl with | [_, _], _ => rfl
  have b9 := F9.binds (ps := ["self", "machine"]) fun _ _ _ _ _ _ us hl => match us, hl with | [_, _], _ => rfl
  have b10 := F10.binds (ps := ["tree", "place"]) fun _ _ _ _ _ _ us hl => match us, hl with | [_, _], _ => rfl
  have b11 := F11.binds (ps := ["thing", "rows"]) fun _ _ _ _ _ _ us hl => match us, hl with | [_, _], _ => rfl
  have b12 := F12.binds (ps := ["machine", "place", "name", "around"]) fun _ _ _ _ _ _ us hl => match us, hl with | [_, _, _, _], _ => rfl
  have b13 := F13.binds (ps := ["machine", "place", "form", "around"]) fun _ _ _ _ _ _ us hl => match us, hl with | [_, _, _, _], _ => rfl
  have b14 := F14.binds (ps := ["word", "one", "other"]) fun _ _ _ _ _ _ us hl => match us, hl with | [_, _, _], _ => rfl
  have b15 := F15.binds (ps := ["machine", "word", "place", "operands"]) fun _ _ _ _ _ _ us hl => match us, hl with | [_, _, _, _], _ => rfl
  have b16 := F16.binds (ps := ["machine", "place", "operands", "around"]) fun _ _ _ _ _ _ us hl => match us, hl with | [_, _, _, _], _ => rfl
  have b17 := F17.binds (ps := ["machine", "place", "operands"]) fun _ _ _ _ _ _ us hl => match us, hl with | [_, _, _], _ => rfl
  have b18 := F18.binds (ps := ["tree"]) fun _ _ _ _ _ _ us hl => match us, hl with | [_], _ => rfl
  have b19 := F19.binds (ps := ["_law_script", "_law_k"]) fun _ _ _ _ _ _ us hl => match us, hl with | [_, _], _ => rfl
  have b20 := F20.binds (ps := ["_law_cell_here", "_law_k"]) fun _ _ _ _ _ _ us hl => match us, hl with | [_, _], _ => rfl
  have b21 := F21.binds (ps := ["_law_found", "_law_due_here"]) fun _ _ _ _ _ _ us hl => match us, hl with | [_, _], _ => rfl
  have b22 := F22.binds (ps := ["_law_cell_here", "_law_many"]) fun _ _ _ _ _ _ us hl => match us, hl with | [_, _], _ => rfl
  have b23 := F23.binds (ps := ["_law_cell_here"]) fun _ _ _ _ _ _ us hl => match us, hl with | [_], _ => rfl
  have b24 := F24.binds (ps := ["_law_script"]) fun _ _ _ _ _ _ us hl => match us, hl with | [_], _ => rfl
  have b25 := F25.binds (ps := ["_law_cells", "_law_names_here", "_law_deep"]) fun _ _ _ _ _ _ us hl => match us, hl with | [_, _, _], _ => rfl
  have b26 := F26.binds (ps := ["_law_cell_here", "_law_around", "_law_names_here", "_law_sort"]) fun _ _ _ _ _ _ us hl => match us, hl with | [_, _, _, _], _ => rfl
  have b27 := F27.binds (ps := ["_law_cells", "_law_around", "_law_names_here", "_law_room", "_law_sort"]) fun _ _ _ _ _ _ us hl => match us, hl with | [_, _, _, _, _], _ => rfl
  have b28 := F28.binds (ps := ["_law_thing_here", "_law_many"]) fun _ _ _ _ _ _ us hl => match us, hl with | [_, _], _ => rfl
  have b29 := F29.binds (ps := ["_law_row", "_law_k"]) fun _ _ _ _ _ _ us hl => match us, hl with | [_, _], _ => rfl
  have b30 := F30.binds (ps := ["_law_found"]) fun _ _ _ _ _ _ us hl => match us, hl with | [_], _ => rfl
  have b31 := F31.binds (ps := ["_law_tree"]) fun _ _ _ _ _ _ us hl => match us, hl with | [_], _ => rfl
  have b32 := F32.binds (ps := ["_law_thing_here", "_law_many"]) fun _ _ _ _ _ _ us hl => match us, hl with | [_, _], _ => rfl
  have b33 := F33.binds (ps := ["_law_record", "_law_ahead", "_law_many", "_law_pairs"]) fun _ _ _ _ _ _ us hl => match us, hl with | [_, _, _, _], _ => rfl
  have b34 := F34.binds (ps := ["_law_word", "_law_place", "_law_one", "_law_other", "_law_rows"]) fun _ _ _ _ _ _ us hl => match us, hl with | [_, _, _, _, _], _ => rfl
  have b35 := F35.binds (ps := ["_law_word", "_law_first", "_law_second"]) fun _ _ _ _ _ _ us hl => match us, hl with | [_, _, _], _ => rfl
  have g10 := PySem.W.mg_of X G a10
  have g11 := PySem.W.mg_of X G a11
  have g12 := PySem.W.mg_of X G a12
  have g13 := PySem.W.mg_of X G a13
  have g14 := PySem.W.mg_of X G a14
  have g15 := PySem.W.mg_of X G a15
  have g16 := PySem.W.mg_of X G a16
  have g17 := PySem.W.mg_of X G a17
  have g18 := PySem.W.mg_of X G a18
  have g19 := PySem.W.mg_of X G a19
  have g20 := PySem.W.mg_of X G a20
  have g21 := PySem.W.mg_of X G a21
  have g22 := PySem.W.mg_of X G a22
  have g23 := PySem.W.mg_of X G a23
  have g24 := PySem.W.mg_of X G a24
  have g25 := PySem.W.mg_of X G a25
  have g26 := PySem.W.mg_of X G a26
  have g27 := PySem.W.mg_of X G a27
  have g28 := PySem.W.mg_of X G a28
  have g29 := PySem.W.mg_of X G a29
  have g30 := PySem.W.mg_of X G a30
  have g31 := PySem.W.mg_of X G a31
  have g32 := PySem.W.mg_of X G a32
  have g33 := PySem.W.mg_of X G a33
  have g34 := PySem.W.mg_of X G a34
  have g35 := PySem.W.mg_of X G a35
  have g36 := PySem.W.mg_of X G a36
  have B : Bl mg := ⟨PySem.W.mg_none_of X G z_len, PySem.W.mg_none_of X G z_isinstance, PySem.W.mg_none_of X G z_list, PySem.W.mg_none_of X G z_tuple, PySem.W.mg_none_of X G z_str, PySem.W.mg_none_of X G z_int, PySem.W.mg_none_of X G z_bool, PySem.W.mg_none_of X G z_range, PySem.W.mg_none_of X G z_max⟩
  have clCM : Cls K CM := ⟨pgCM, hdCM, poCM, saCM⟩
  have clCT : Cls K CT := ⟨pgCT, hdCT, poCT, saCT⟩
  have clCB : Cls K CB := ⟨pgCB, hdCB, poCB, saCB⟩
  have clCC : Cls K CC := ⟨pgCC, hdCC, poCC, saCC⟩
  have clCJ : Cls K CJ := ⟨pgCJ, hdCJ, poCJ, saCJ⟩
  have hTask : ∀ C, C ∈ [CT, CB, CC, CJ] → Cls K C ∧ NoAttr K C "place" ∧ NoAttr K C "form" ∧ NoAttr K C "around" := fun C hC => by
        rcases List.mem_cons.mp hC with rfl | hC
        · exact ⟨clCT, tCT_place, tCT_form, tCT_around⟩
        rcases List.mem_cons.mp hC with rfl | hC
        · exact ⟨clCB, tCB_place, tCB_form, tCB_around⟩
        rcases List.mem_cons.mp hC with rfl | hC
        · exact ⟨clCC, tCC_place, tCC_form, tCC_around⟩
        rcases List.mem_cons.mp hC with rfl | hC
        · exact ⟨clCJ, tCJ_place, tCJ_form, tCJ_around⟩
        cases hC
  have Tx : Txt K mg TL ⟨CM, CT, CB, CC, CJ⟩ :=
    { bl := B, most := ⟨_, PySem.W.mg_of X G aMOST⟩, clM := clCM, nTree := m_tree, nSteps := m_steps, nRows := m_rows, nTasks := m_tasks, nThings := m_things,
      task := hTask, gTL := PySem.W.mg_of X G aTL, kTL := kTL, xTL := ⟨_, _, _, _, PySem.F.excBase_ValueError, xTL⟩, bTL := bTL, tTL := tTL }
  refine ⟨PySem.W.fnOf "law" "law" (defArgs sLaw) (defBody sLaw) (defScope sLaw) .none kV36 dc36 pm36 an36 cd36 ct36, fun s v => .of_eq rfl, fun base _ _ => ?_⟩
  have KM : Mak P w K mg base TL CM "Machine" 1 (fMInit ⟨CM, CT, CB, CC, CJ⟩) := ⟨_, _, _, PySem.W.mg_of X G aCM, ⟨mkCM, a1, i1, kcCM⟩, b1, ok_minit F1 Tx⟩
  have OT : FnOk P w K mg base (L2.CX P w) 1 f5 _ ["self", "place", "form", "around"] (SpD K TL (fTInit ⟨CM, CT, CB, CC, CJ⟩)) := ok_tinit F5 Tx
  have KCT : Mak P w K mg base TL CT "Task" 1 (fTInit ⟨CM, CT, CB, CC, CJ⟩) := ⟨_, _, _, PySem.W.mg_of X G aCT, ⟨mkCT, a5, i5, kcCT⟩, b5, OT⟩
  have KCB : Mak P w K mg base TL CB "Bind" 1 (fTInit ⟨CM, CT, CB, CC, CJ⟩) := ⟨_, _, _, PySem.W.mg_of X G aCB, ⟨mkCB, nCB, i5, kcCB⟩, b5, OT⟩
  have KCC : Mak P w K mg base TL CC "Choose" 1 (fTInit ⟨CM, CT, CB, CC, CJ⟩) := ⟨_, _, _, PySem.W.mg_of X G aCC, ⟨mkCC, nCC, i5, kcCC⟩, b5, OT⟩
  have KCJ : Mak P w K mg base TL CJ "Join" 1 (fTInit ⟨CM, CT, CB, CC, CJ⟩) := ⟨_, _, _, PySem.W.mg_of X G aCJ, ⟨mkCJ, nCJ, i5, kcCJ⟩, b5, OT⟩
  have M2 : Met P w K mg base TL CM "count_step" 1 (fCount ⟨CM, CT, CB, CC, CJ⟩) := ⟨clCM, _, _, _, ⟨a2, i2, k2⟩, b2, ok_count F2 Tx⟩
  have M3 : Met P w K mg base TL CM "make_row" 1 (fMake ⟨CM, CT, CB, CC, CJ⟩) := ⟨clCM, _, _, _, ⟨a3, i3, k3⟩, b3, ok_make F3 Tx⟩
  have C10 : Cal P w K mg base TL "form_at" 1 fFormAt := cal_of F10 g10 b10 (ok_form_at F10 Tx)
  have C11 : Cal P w K mg base TL "is_called" 1 fIsCalled := cal_of F11 g11 b11 (ok_is_called F11)
  have C12 : Cal P w K mg base TL "look_up" 2 (fLookUp ⟨CM, CT, CB, CC, CJ⟩) := cal_of F12 g12 b12 (ok_look_up F12 Tx M3)
  have CT0 : CTx P w K mg base TL ⟨CM, CT, CB, CC, CJ⟩ := ⟨Tx, M3, M2, C10, C12, KCT, KCB, KCC, KCJ⟩
  have C13 : Cal P w K mg base TL "come_to" 3 (fCome ⟨CM, CT, CB, CC, CJ⟩) := cal_of F13 g13 b13 (ok_come F13 CT0)
  have C14 : Cal P w K mg base TL "reckoned" 1 fReck := cal_of F14 g14 b14 (ok_reck F14)
  have C16 : Cal P w K mg base TL "choose_one" 3 (fChoose ⟨CM, CT, CB, CC, CJ⟩) := cal_of F16 g16 b16 (ok_choose F16 Tx M3 C10 KCT)
  have C17 : Cal P w K mg base TL "call_on" 3 (fCallOn ⟨CM, CT, CB, CC, CJ⟩) := cal_of F17 g17 b17 (ok_call_on F17 Tx M3 C10 C11 KCT)
  have C15 : Cal P w K mg base TL "join_two" 4 (fJoin ⟨CM, CT, CB, CC, CJ⟩) := cal_of F15 g15 b15 (ok_join F15 Tx M3 C17 C14)
  have M6 : Met P w K mg base TL CT "act" 4 (fAct ⟨CM, CT, CB, CC, CJ⟩ kV) := ⟨clCT, _, _, _, ⟨a6, i6, k6⟩, b6, ok_tact F6 Tx C13⟩
  have M7 : Met P w K mg base TL CB "act" 3 (fAct ⟨CM, CT, CB, CC, CJ⟩ kB) := ⟨clCB, _, _, _, ⟨a7, i7, k7⟩, b7, ok_bact F7 Tx KCT⟩
  have M8 : Met P w K mg base TL CC "act" 4 (fAct ⟨CM, CT, CB, CC, CJ⟩ kC) := ⟨clCC, _, _, _, ⟨a8, i8, k8⟩, b8, ok_cact F8 Tx C16⟩
  have M9 : Met P w K mg base TL CJ "act" 5 (fAct ⟨CM, CT, CB, CC, CJ⟩ kJ) := ⟨clCJ, _, _, _, ⟨a9, i9, k9⟩, b9, ok_jact F9 Tx C15⟩
  have M4 : Met P w K mg base TL CM "run_off" 6 (fOff ⟨CM, CT, CB, CC, CJ⟩) := ⟨clCM, _, _, _, ⟨a4, i4, k4⟩, b4, ok_run_off F4 Tx M6 M7 M8 M9⟩
  have C18 : Cal P w K mg base TL "run" 7 fRun := cal_of F18 g18 b18 (ok_run F18 Tx KM KCT M4)
  have C31 : Cal P w K mg base TL "_law_run" 8 fLRun := cal_of F31 g31 b31 (ok_lrun F31 Tx (exm_own bTL iTL tTL sTL) C18)
  have C19 : Cal P w K mg base TL "_law_cell" 1 fCell := cal_of F19 g19 b19 (ok_cell F19 B)
  have C20 : Cal P w K mg base TL "_law_mixed" 1 fMixed := cal_of F20 g20 b20 (ok_mixed F20)
  have C23 : Cal P w K mg base TL "_law_number" 1 fNumber := cal_of F23 g23 b23 (ok_number F23)
  have C24 : Cal P w K mg base TL "_law_is_free" 2 fFree := cal_of F24 g24 b24 (ok_free F24 C19)
  have C22 : Cal P w K mg base TL "_law_names" 2 fNames := cal_of F22 g22 b22 (ok_names F22 B C20)
  have C26 : Cal P w K mg base TL "_law_end" 2 fEnd := cal_of F26 g26 b26 (ok_end F26 B C23)
  have C25 : Cal P w K mg base TL "_law_any" 31 (fAny 30) := cal_any F25 g25 b25 B 30
  have C27 : Cal P w K mg base TL "_law_form" 16 (fForm 13) := cal_form F27 g27 b27 B C20 C26 13
  have C21 : Cal P w K mg base TL "_law_same" 8 (fSame 7) := cal_same F21 g21 b21 B 7
  have C28 : Cal P w K mg base TL "_law_is_thing" 1 fIsThing := cal_of F28 g28 b28 (ok_is_thing F28 B)
  have C29 : Cal P w K mg base TL "_law_is_row" 2 fIsRow := cal_of F29 g29 b29 (ok_is_row F29 B C28)
  have C30 : Cal P w K mg base TL "_law_is_record" 3 fIsRecord := cal_of F30 g30 b30 (ok_is_record F30 B C28 C29)
  have C32 : Cal P w K mg base TL "_law_thing" 1 fThing := cal_of F32 g32 b32 (ok_thing F32)
  have C33 : Cal P w K mg base TL "_law_moved" 2 fMoved := cal_of F33 g33 b33 (ok_moved F33 B C32)
  have C34 : Cal P w K mg base TL "_law_joined" 1 fJoined := cal_of F34 g34 b34 (ok_joined F34 B)
  have C35 : Cal P w K mg base TL "_law_due" 3 fDue := cal_of F35 g35 b35 (ok_due F35 B C33 C32 C34)
  have CA : Calls P w K mg base TL 31 := ⟨C22.mono (by decide), C19.mono (by decide), C20.mono (by decide), C27.mono (by decide), C25.mono (by decide), C24.mono (by decide), C31.mono (by decide), C30.mono (by decide), C35.mono (by decide), C21.mono (by decide)⟩
  refine (ok_law F36 B CA).imp fun vs H Q E hsp => ?_
  obtain ⟨a, ns, rfl, hs, hl, hq⟩ := hsp
  exact ⟨H, [.sq (intsD ns)], Mu.none, fun d _ => d = .bl true, False, .cons (.sq hs (ints_at ns)) .nil, ⟨Same.refl _, fun _ _ z => nomatch z⟩, ⟨ns, rfl, hl, rfl, rfl⟩, fun v d μ' F' H' e hd _ _ => by
    subst e
    cases hd
    exact hq H', fun z => z.elim⟩
theorem walk {l : PySem.W.OpenLaw} {q : Program} {loose : List Str} {XP : (Str → Option Value) → Heap → Prop} {YP : World → Heap → Prop} {d : DefRec} {K : Params → PySem.W.Frag} (hn : l.most = some 63) (hdf : d.params.defaults = [])
    (hY : ∀ (w : World) (h : Heap), YP w h → (K w.params).In h)
    (F : ∀ (w : World) (mg : Str → Option Value) (fa : Addr) (h : Heap), (K w.params).In h → h.Ns mainGlobals mg → mg d.name = some (.ref fa) →
      ∃ fd : FuncData, (∀ (s : Shared) (u : Value), BindsTo s fd ⟨[u], []⟩ [("_law_script", u)]) ∧ ∀ base : Heap, (K w.params).In base → base.Ns mainGlobals mg → FnOk l.prog w (K w.params) mg base (L2.CX l.prog w) 32 fa fd ["_law_script"] (spLaw (K w.params))) :
    PySem.W.WalkO q loose XP YP l.row.toRowW d [] (fun f vs => PySem.call f vs) :=
  L2.walk_of (n := 63) (k := 32) (x := "_law_script") (CX := fun w => L2.CX l.prog w) (sp := fun w => spLaw (K w.params)) hn (by decide) hdf ⟨rfl, by decide, by decide⟩ hY F (fun _ _ a ns hl _ hS => ⟨a, ns, rfl, hS, hl, fun _ => rfl⟩) fun _ _ _ _ _ h => by
    obtain ⟨_, _, _, _, _, _, _, _, _, _, _, _, z⟩ := h
    exact z
end Gs

open PySem PySem.W PyProof.Rows
set_option maxRecDepth 100000 in
set_option maxHeartbeats 0 in
theorem PySem.Challenge.cw_gapscribe_k48_whole_side_by_side_holds : PySem.Challenge.rw_gapscribe_k48_whole_side_by_side.Holds := by
  w_on; o_law; k_head; (case hw => w_witness2)
  k_fill
  refine Gs.walk (l := PySem.Challenge.rw_gapscribe_k48_whole_side_by_side) rfl rfl (fun w h Y => PySem.W.kIn_of Y) ?F
  case F =>
    intro w mg fa h KX G hmg
    refine' Gs.all_mk KX G hmg ?aCM ?aCT ?aCB ?aCC ?aCJ ?aTL ?aMOST ?a1 ?i1 ?l1 ?c1 ?k1 ?a2 ?i2 ?l2 ?c2 ?k2 ?a3 ?i3 ?l3 ?c3 ?k3 ?a4 ?i4 ?l4 ?c4 ?k4 ?a5 ?i5 ?l5 ?c5 ?k5 ?a6 ?i6 ?l6 ?c6 ?k6 ?a7 ?i7 ?l7 ?c7 ?k7 ?a8 ?i8 ?l8 ?c8 ?k8 ?a9 ?i9 ?l9 ?c9 ?k9 ?a10 ?l10 ?c10 ?k10 ?a11 ?l11 ?c11 ?k11 ?a12 ?l12 ?c12 ?k12 ?a13 ?l13 ?c13 ?k13 ?a14 ?l14 ?c14 ?k14 ?a15 ?l15 ?c15 ?k15 ?a16 ?l16 ?c16 ?k16 ?a17 ?l17 ?c17 ?k17 ?a18 ?l18 ?c18 ?k18 ?a19 ?l19 ?c19 ?k19 ?a20 ?l20 ?c20 ?k20 ?a21 ?l21 ?c21 ?k21 ?a22 ?l22 ?c22 ?k22 ?a23 ?l23 ?c23 ?k23 ?a24 ?l24 ?c24 ?k24 ?a25 ?l25 ?c25 ?k25 ?a26 ?l26 ?c26 ?k26 ?a27 ?l27 ?c27 ?k27 ?a28 ?l28 ?c28 ?k28 ?a29 ?l29 ?c29 ?k29 ?a30 ?l30 ?c30 ?k30 ?a31 ?l31 ?c31 ?k31 ?a32 ?l32 ?c32 ?k32 ?a33 ?l33 ?c33 ?k33 ?a34 ?l34 ?c34 ?k34 ?a35 ?l35 ?c35 ?k35 ?a36 ?l36 ?c36 ?k36 ?nCB ?nCC ?nCJ ?pgCM ?hdCM ?poCM ?saCM ?mkCM ?kcCM ?pgCT ?hdCT ?poCT ?saCT ?mkCT ?kcCT ?pgCB ?hdCB ?poCB ?saCB ?mkCB ?kcCB ?pgCC ?hdCC ?poCC ?saCC ?mkCC ?kcCC ?pgCJ ?hdCJ ?poCJ ?saCJ ?mkCJ ?kcCJ ?m_tree ?m_steps ?m_rows ?m_tasks ?m_things ?tCT_place ?tCT_form ?tCT_around ?tCB_place ?tCB_form ?tCB_around ?tCC_place ?tCC_form ?tCC_around ?tCJ_place ?tCJ_form ?tCJ_around ?kTL ?xTL ?bTL ?tTL ?iTL ?sTL ?z_len ?z_isinstance ?z_list ?z_tuple ?z_str ?z_int ?z_bool ?z_range ?z_max
    (case aCM => k_is)
    (case aCT => k_is)
    (case aCB => k_is)
    (case aCC => k_is)
    (case aCJ => k_is)
    (case aTL => k_is)
    (case aMOST => k_is)
    (case a1 => k_is)
    (case i1 => k_is)
    (case l1 => k_is)
    (case c1 => k_is)
    (case k1 => k_is)
    (case a2 => k_is)
    (case i2 => k_is)
    (case l2 => k_is)
    (case c2 => k_is)
    (case k2 => k_is)
    (case a3 => k_is)
    (case i3 => k_is)
    (case l3 => k_is)
    (case c3 => k_is)
    (case k3 => k_is)
    (case a4 => k_is)
    (case i4 => k_is)
    (case l4 => k_is)
    (case c4 => k_is)
    (case k4 => k_is)
    (case a5 => k_is)
    (case i5 => k_is)
    (case l5 => k_is)
    (case c5 => k_is)
    (case k5 => k_is)
    (case a6 => k_is)
    (case i6 => k_is)
    (case l6 => k_is)
    (case c6 => k_is)
    (case k6 => k_is)
    (case a7 => k_is)
    (case i7 => k_is)
    (case l7 => k_is)
    (case c7 => k_is)
    (case k7 => k_is)
    (case a8 => k_is)
    (case i8 => k_is)
    (case l8 => k_is)
    (case c8 => k_is)
    (case k8 => k_is)
    (case a9 => k_is)
    (case i9 => k_is)
    (case l9 => k_is)
    (case c9 => k_is)
    (case k9 => k_is)
    (case a10 => k_is)
    (case l10 => k_is)
    (case c10 => k_is)
    (case k10 => k_is)
    (case a11 => k_is)
    (case l11 => k_is)
    (case c11 => k_is)
    (case k11 => k_is)
    (case a12 => k_is)
    (case l12 => k_is)
    (case c12 => k_is)
    (case k12 => k_is)
    (case a13 => k_is)
    (case l13 => k_is)
    (case c13 => k_is)
    (case k13 => k_is)
    (case a14 => k_is)
    (case l14 => k_is)
    (case c14 => k_is)
    (case k14 => k_is)
    (case a15 => k_is)
    (case l15 => k_is)
    (case c15 => k_is)
    (case k15 => k_is)
    (case a16 => k_is)
    (case l16 => k_is)
    (case c16 => k_is)
    (case k16 => k_is)
    (case a17 => k_is)
    (case l17 => k_is)
    (case c17 => k_is)
    (case k17 => k_is)
    (case a18 => k_is)
    (case l18 => k_is)
    (case c18 => k_is)
    (case k18 => k_is)
    (case a19 => k_is)
    (case l19 => k_is)
    (case c19 => k_is)
    (case k19 => k_is)
    (case a20 => k_is)
    (case l20 => k_is)
    (case c20 => k_is)
    (case k20 => k_is)
    (case a21 => k_is)
    (case l21 => k_is)
    (case c21 => k_is)
    (case k21 => k_is)
    (case a22 => k_is)
    (case l22 => k_is)
    (case c22 => k_is)
    (case k22 => k_is)
    (case a23 => k_is)
    (case l23 => k_is)
    (case c23 => k_is)
    (case k23 => k_is)
    (case a24 => k_is)
    (case l24 => k_is)
    (case c24 => k_is)
    (case k24 => k_is)
    (case a25 => k_is)
    (case l25 => k_is)
    (case c25 => k_is)
    (case k25 => k_is)
    (case a26 => k_is)
    (case l26 => k_is)
    (case c26 => k_is)
    (case k26 => k_is)
    (case a27 => k_is)
    (case l27 => k_is)
    (case c27 => k_is)
    (case k27 => k_is)
    (case a28 => k_is)
    (case l28 => k_is)
    (case c28 => k_is)
    (case k28 => k_is)
    (case a29 => k_is)
    (case l29 => k_is)
    (case c29 => k_is)
    (case k29 => k_is)
    (case a30 => k_is)
    (case l30 => k_is)
    (case c30 => k_is)
    (case k30 => k_is)
    (case a31 => k_is)
    (case l31 => k_is)
    (case c31 => k_is)
    (case k31 => k_is)
    (case a32 => k_is)
    (case l32 => k_is)
    (case c32 => k_is)
    (case k32 => k_is)
    (case a33 => k_is)
    (case l33 => k_is)
    (case c33 => k_is)
    (case k33 => k_is)
    (case a34 => k_is)
    (case l34 => k_is)
    (case c34 => k_is)
    (case k34 => k_is)
    (case a35 => k_is)
    (case l35 => k_is)
    (case c35 => k_is)
    (case k35 => k_is)
    (case a36 => k_is)
    (case l36 => k_is)
    (case c36 => k_is)
    (case k36 => k_is)
    (case nCB => k_is)
    (case nCC => k_is)
    (case nCJ => k_is)
    (case pgCM => k_is)
    (case hdCM => k_is)
    (case poCM => k_is)
    (case saCM => k_is)
    (case mkCM => k_is)
    (case kcCM => k_is)
    (case pgCT => k_is)
    (case hdCT => k_is)
    (case poCT => k_is)
    (case saCT => k_is)
    (case mkCT => k_is)
    (case kcCT => k_is)
    (case pgCB => k_is)
    (case hdCB => k_is)
    (case poCB => k_is)
    (case saCB => k_is)
    (case mkCB => k_is)
    (case kcCB => k_is)
    (case pgCC => k_is)
    (case hdCC => k_is)
    (case poCC => k_is)
    (case saCC => k_is)
    (case mkCC => k_is)
    (case kcCC => k_is)
    (case pgCJ => k_is)
    (case hdCJ => k_is)
    (case poCJ => k_is)
    (case saCJ => k_is)
    (case mkCJ => k_is)
    (case kcCJ => k_is)
    (case m_tree => k_is)
    (case m_steps => k_is)
    (case m_rows => k_is)
    (case m_tasks => k_is)
    (case m_things => k_is)
    (case tCT_place => k_is)
    (case tCT_form => k_is)
    (case tCT_around => k_is)
    (case tCB_place => k_is)
    (case tCB_form => k_is)
    (case tCB_around => k_is)
    (case tCC_place => k_is)
    (case tCC_form => k_is)
    (case tCC_around => k_is)
    (case tCJ_place => k_is)
    (case tCJ_form => k_is)
    (case tCJ_around => k_is)
    (case kTL => k_is)
    (case xTL => k_exc)
    (case bTL => k_is)
    (case tTL => k_is)
    (case iTL => k_is)
    (case sTL => first | rfl | k_is)
    (case z_len => k_is)
    (case z_isinstance => k_is)
    (case z_list => k_is)
    (case z_tuple => k_is)
    (case z_str => k_is)
    (case z_int => k_is)
    (case z_bool => k_is)
    (case z_range => k_is)
    (case z_max => k_is)
