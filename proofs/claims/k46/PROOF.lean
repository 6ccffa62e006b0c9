import PyProof.Rows.All
import Wide.All
import OpenK.AllK
import Wide.FinOn
import HandS.ForMost
import HandS.Exc
import HandS.WordsExc
import HandS.IsInst
import HandS.StrMore
import HandS.Wide
import HandS.WideBits
import HandS.Flow
import HandS.Style
import HandS.Conv
import HandS.CallSlots
import PyProof.ReprRoads
import PyProof.Rows.FactsN_isinstance
import PyProof.Rows.SeqCalls
import PyProof.Rows.FactsT3
import KE.KExcSuper
import HandS.ExcSuper
import HandS.HeadWalk
import HandS.ExcIs
import KE.KExcIs
import HandS.ExcField
import HandS.EndBits
import PySem.Challenge.RW_countscribe_k46_least_runs
section
set_option Elab.async false
set_option linter.all false
set_option maxRecDepth 100000
set_option maxHeartbeats 2000000
/-! DX1: data, cells, what it is that they stand in a heap. -/
namespace DX
open PySem PySem.Spec L2

/-- a datum; mr: a list that still changes (a cell); scr: the script -/
inductive D where
  | non | bl (b : Bool) | int (i : Int) | str (s : Str) | lst (xs : List D) | tup (xs : List D)
  | exn (c : Str) (v : D) | mr (k : Nat) | scr (ns : List Int)
abbrev DEnv := List (Option D)
abbrev DMem := List (Option (List D))

mutual
def D.py : D → PyData
  | .non => .none
  | .bl b => .bool b
  | .int i => .int i
  | .str s => .str s
  | .lst xs => .list (D.pys xs)
  | .tup xs => .tuple (D.pys xs)
  | .exn _ _ => .none
  | .mr _ => .none
  | .scr _ => .none
def D.pys : List D → List PyData
  | [] => []
  | x :: xs => x.py :: D.pys xs
end
mutual
/-- plain data alone within -/
def D.pure : D → Bool
  | .non => true
  | .bl _ => true
  | .int _ => true
  | .str _ => true
  | .lst xs => D.pures xs
  | .tup xs => D.pures xs
  | .exn _ _ => false
  | .mr _ => false
  | .scr _ => false
def D.pures : List D → Bool
  | [] => true
  | x :: xs => x.pure && D.pures xs
end

mutual
/-- no cell within -/
def D.noMr : D → Bool
  | .non => true
  | .bl _ => true
  | .int _ => true
  | .str _ => true
  | .lst xs => D.noMrs xs
  | .tup xs => D.noMrs xs
  | .exn _ v => v.noMr
  | .mr _ => false
  | .scr _ => true
def D.noMrs : List D → Bool
  | [] => true
  | x :: xs => x.noMr && D.noMrs xs
end

/-- an error object at a, of the class at C, its own dict at dx -/
def exFact (a C dx : Addr) (h : Heap) : Prop := ∃ oe vs, h.get? a = some oe ∧ oe.cls = .ref C ∧ oe.dict = some dx ∧ oe.data = .fields vs
/-- what the readings lean on: the written part, the module's names -/
structure KM where
  K : PySem.W.Frag
  mg : Str → Option Value
/-- where the cells stand; what no longer changes -/
structure Fz where
  ρ : List Addr
  F : Hp

mutual
/-- the value v stands for the datum -/
def Rd (M : KM) (Z : Fz) (v : V) : D → Prop
  | .non => v = .non
  | .bl b => v = .bl b
  | .int i => v = .int i
  | .str s => v = .str s
  | .lst ds => ∃ a xs, v = .ref a ∧ Z.F a = some (.lst xs) ∧ RdL M Z xs ds
  | .tup ds => ∃ a xs, v = .ref a ∧ SqT M.K Z.F a xs ∧ RdL M Z xs ds
  | .exn c d => ∃ a C dx u, v = .ref a ∧ M.mg c = some (.ref C) ∧ Z.F a = some (.ext (exFact a C dx)) ∧ Z.F dx = some (.xd [(("value" : Str), u)]) ∧ Rd M Z u d
  | .mr k => ∃ a, Z.ρ[k]? = some a ∧ v = .ref a
  | .scr ns => ∃ a, v = .ref a ∧ SqL M.K Z.F a (ns.map V.int)
def RdL (M : KM) (Z : Fz) (vs : List V) : List D → Prop
  | [] => vs = []
  | d :: ds => ∃ x xs, vs = x :: xs ∧ Rd M Z x d ∧ RdL M Z xs ds
end

theorem Same.sqT {K : PySem.W.Frag} {H H' : Hp} {a : Addr} {xs : List V} (e : Same H H') (h : SqT K H a xs) : SqT K H' a xs := by
  rcases h with (h | ⟨o, h⟩) | h
  · exact .inl (.inl (e _ _ h))
  · exact .inl (.inr ⟨o, e _ _ h⟩)
  · exact .inr h
structure Ext (Z Z' : Fz) : Prop where
  same : Same Z.F Z'.F
  pre : ∀ (k : Nat) (a : Addr), Z.ρ[k]? = some a → Z'.ρ[k]? = some a
theorem Ext.refl (Z : Fz) : Ext Z Z := ⟨.refl _, fun _ _ h => h⟩
theorem Ext.trans {Z Z' Z'' : Fz} (a : Ext Z Z') (b : Ext Z' Z'') : Ext Z Z'' := ⟨a.same.trans b.same, fun k x h => b.pre k x (a.pre k x h)⟩
section
variable {M : KM} {Z Z' : Fz}
mutual
theorem Rd.mono (e : Ext Z Z') {v : V} : ∀ {d : D}, Rd M Z v d → Rd M Z' v d
  | .non, h => h
  | .bl _, h => h
  | .int _, h => h
  | .str _, h => h
  | .lst ds, h => by
    unfold Rd at h ⊢
    obtain ⟨a, xs, e1, q, r⟩ := h
    exact ⟨a, xs, e1, e.same _ _ q, RdL.mono e r⟩
  | .tup ds, h => by
    unfold Rd at h ⊢
    obtain ⟨a, xs, e1, q, r⟩ := h
    exact ⟨a, xs, e1, Same.sqT e.same q, RdL.mono e r⟩
  | .exn c d, h => by
    unfold Rd at h ⊢
    obtain ⟨a, C, dx, u, e1, hc, h1, h2, r⟩ := h
    exact ⟨a, C, dx, u, e1, hc, e.same _ _ h1, e.same _ _ h2, Rd.mono e r⟩
  | .mr k, h => by
    unfold Rd at h ⊢
    obtain ⟨a, h1, h2⟩ := h
    exact ⟨a, e.pre k a h1, h2⟩
  | .scr ns, h => by
    unfold Rd at h ⊢
    obtain ⟨a, h1, h2⟩ := h
    exact ⟨a, h1, e.same.seq h2⟩
theorem RdL.mono (e : Ext Z Z') {vs : List V} : ∀ {ds : List D}, RdL M Z vs ds → RdL M Z' vs ds
  | [], h => h
  | d :: ds, h => by
    unfold RdL at h ⊢
    obtain ⟨x, xs, e1, h1, h2⟩ := h
    exact ⟨x, xs, e1, Rd.mono e h1, RdL.mono e h2⟩
end
theorem RdL.length : ∀ {ds : List D} {vs : List V}, RdL M Z vs ds → vs.length = ds.length
  | [], _, h => by unfold RdL at h; rw [h]; rfl
  | d :: ds, _, h => by
    unfold RdL at h
    obtain ⟨x, xs, rfl, _, h2⟩ := h
    rw [List.length_cons, List.length_cons, RdL.length h2]
theorem RdL.get : ∀ {ds : List D} {vs : List V} {i : Nat} {d : D}, RdL M Z vs ds → ds[i]? = some d → ∃ v, vs[i]? = some v ∧ Rd M Z v d
  | [], _, _, _, _, e => by simp at e
  | d' :: ds, _, 0, d, h, e => by
    unfold RdL at h
    obtain ⟨x, xs, rfl, h1, _⟩ := h
    have e' : d' = d := Option.some.inj e
    subst e'
    exact ⟨x, rfl, h1⟩
  | d' :: ds, _, i + 1, d, h, e => by
    unfold RdL at h
    obtain ⟨x, xs, rfl, _, h2⟩ := h
    obtain ⟨v, q1, q2⟩ := RdL.get (i := i) h2 (show ds[i]? = some d from e)
    exact ⟨v, q1, q2⟩
/-- .. the other way round -/
theorem RdL.back {ds : List D} {vs : List V} {i : Nat} {v : V} (h : RdL M Z vs ds) (e : vs[i]? = some v) : ∃ d, ds[i]? = some d ∧ Rd M Z v d := by
  have hl := h.length
  have hi : i < ds.length := by
    have := (List.getElem?_eq_some_iff.mp e).1
    omega
  obtain ⟨v', q1, q2⟩ := h.get (List.getElem?_eq_getElem hi)
  rw [e] at q1
  cases q1
  exact ⟨_, List.getElem?_eq_getElem hi, q2⟩
theorem RdL.nil : RdL M Z [] [] := by unfold RdL; rfl
theorem RdL.cons {v : V} {vs : List V} {d : D} {ds : List D} (h : Rd M Z v d) (t : RdL M Z vs ds) : RdL M Z (v :: vs) (d :: ds) := by
  unfold RdL
  exact ⟨v, vs, rfl, h, t⟩
theorem RdL.append : ∀ {ds es : List D} {vs us : List V}, RdL M Z vs ds → RdL M Z us es → RdL M Z (vs ++ us) (ds ++ es)
  | [], _, _, _, h, h' => by unfold RdL at h; rw [h]; exact h'
  | d :: ds, _, _, _, h, h' => by
    unfold RdL at h
    obtain ⟨x, xs, rfl, h1, h2⟩ := h
    exact .cons h1 (RdL.append h2 h')
theorem RdL.take : ∀ {ds : List D} {vs : List V} (n : Nat), RdL M Z vs ds → RdL M Z (vs.take n) (ds.take n)
  | _, _, 0, _ => .nil
  | [], _, _ + 1, h => by unfold RdL at h; rw [h]; exact .nil
  | d :: ds, _, n + 1, h => by
    unfold RdL at h
    obtain ⟨x, xs, rfl, h1, h2⟩ := h
    exact .cons h1 (RdL.take n h2)
theorem RdL.drop : ∀ {ds : List D} {vs : List V} (n : Nat), RdL M Z vs ds → RdL M Z (vs.drop n) (ds.drop n)
  | _, _, 0, h => h
  | [], _, _ + 1, h => by unfold RdL at h; rw [h]; exact .nil
  | d :: ds, _, n + 1, h => by
    unfold RdL at h
    obtain ⟨x, xs, rfl, h1, h2⟩ := h
    exact RdL.drop n h2
theorem RdL.reverse {ds : List D} {vs : List V} (h : RdL M Z vs ds) : RdL M Z vs.reverse ds.reverse := by
  induction ds generalizing vs with
  | nil => unfold RdL at h; rw [h]; exact .nil
  | cons d ds ih =>
    unfold RdL at h
    obtain ⟨x, xs, rfl, h1, h2⟩ := h
    rw [List.reverse_cons, List.reverse_cons]
    exact (ih h2).append (.cons h1 .nil)
theorem RdL.set : ∀ {ds : List D} {vs : List V} (i : Nat) {v : V} {d : D}, Rd M Z v d → RdL M Z vs ds → RdL M Z (vs.set i v) (ds.set i d)
  | [], _, _, _, _, _, h => by unfold RdL at h; rw [h]; exact .nil
  | d' :: ds, _, 0, _, _, r, h => by
    unfold RdL at h
    obtain ⟨x, xs, rfl, h1, h2⟩ := h
    exact .cons r h2
  | d' :: ds, _, i + 1, _, _, r, h => by
    unfold RdL at h
    obtain ⟨x, xs, rfl, h1, h2⟩ := h
    exact .cons h1 (RdL.set i r h2)
theorem RdL.rep {ds : List D} {vs : List V} (h : RdL M Z vs ds) : ∀ k : Nat, RdL M Z (List.replicate k vs).flatten (List.replicate k ds).flatten
  | 0 => .nil
  | k + 1 => by
    rw [List.replicate_succ, List.replicate_succ, List.flatten_cons, List.flatten_cons]
    exact h.append (RdL.rep h k)
theorem RdL.ints : ∀ (ns : List Int), RdL M Z (ns.map V.int) (ns.map D.int)
  | [] => .nil
  | n :: ns => .cons (by unfold Rd; rfl) (RdL.ints ns)
mutual
theorem Rd.dp {v : V} : ∀ {d : D}, Rd M Z v d → d.pure = true → Dp M.K Z.F v d.py
  | .non, h, _ => by unfold Rd at h; subst h; exact .non
  | .bl b, h, _ => by unfold Rd at h; subst h; exact .bl b
  | .int i, h, _ => by unfold Rd at h; subst h; exact .int i
  | .str s, h, _ => by unfold Rd at h; subst h; exact .str s
  | .lst ds, h, p => by
    unfold Rd at h
    obtain ⟨a, xs, rfl, q, r⟩ := h
    exact .lst (SqL.of q) (RdL.dps r p)
  | .tup ds, h, p => by
    unfold Rd at h
    obtain ⟨a, xs, rfl, q, r⟩ := h
    exact .tup q (RdL.dps r p)
  | .exn _ _, _, p => by cases p
  | .mr _, _, p => by cases p
  | .scr _, _, p => by cases p
theorem RdL.dps {vs : List V} : ∀ {ds : List D}, RdL M Z vs ds → D.pures ds = true → DpAll M.K Z.F vs (D.pys ds)
  | [], h, _ => by unfold RdL at h; subst h; exact .nil
  | d :: ds, h, p => by
    unfold RdL at h
    obtain ⟨x, xs, rfl, h1, h2⟩ := h
    have p' : (d.pure && D.pures ds) = true := p
    rw [Bool.and_eq_true] at p'
    exact .cons (Rd.dp h1 p'.1) (RdL.dps h2 p'.2)
end
end

/-! ### cells -/
structure RelM (M : KM) (Z : Fz) (H : Hp) (m : DMem) : Prop where
  same : Same Z.F H
  len : Z.ρ.length = m.length
  cell : ∀ (k : Nat) (ds : List D), m[k]? = some (some ds) → ∃ a xs, Z.ρ[k]? = some a ∧ Z.F a = none ∧ H a = some (.lst xs) ∧ RdL M Z xs ds
  low : ∀ (k : Nat) (ds : List D), m[k]? = some (some ds) → D.noMrs ds = true
  inj : ∀ (j k : Nat) (ds es : List D) (a : Addr), m[j]? = some (some ds) → m[k]? = some (some es) → Z.ρ[j]? = some a → Z.ρ[k]? = some a → j = k
structure RelE (M : KM) (Z : Fz) (σ : L2.St) (env : DEnv) : Prop where
  len : env.length = σ.length
  get : ∀ (i : Nat) (s : D), env[i]? = some (some s) → ∃ v, σ[i]? = some (some v) ∧ Rd M Z v s
theorem RelE.mono {M : KM} {Z Z' : Fz} {σ : L2.St} {env : DEnv} (e : Ext Z Z') (h : RelE M Z σ env) : RelE M Z' σ env :=
  ⟨h.len, fun i s q => let ⟨v, h1, h2⟩ := h.get i s q; ⟨v, h1, h2.mono e⟩⟩
theorem RelE.set {M : KM} {Z : Fz} {σ : L2.St} {env : DEnv} (h : RelE M Z σ env) (i : Nat) {v : V} {s : D} (r : Rd M Z v s) : RelE M Z (σ.set i (some v)) (env.set i (some s)) := by
  refine ⟨by rw [List.length_set, List.length_set]; exact h.len, fun j t q => ?_⟩
  by_cases hj : i = j
  · subst hj
    have hi : i < env.length := by
      have := (List.getElem?_eq_some_iff.mp q).1
      rw [List.length_set] at this
      exact this
    rw [List.getElem?_set_self hi] at q
    cases q
    exact ⟨v, List.getElem?_set_self (by rw [← h.len]; exact hi), r⟩
  · rw [List.getElem?_set_ne hj] at q
    rw [List.getElem?_set_ne hj]
    exact h.get j t q
theorem RelE.unset {M : KM} {Z : Fz} {σ : L2.St} {env : DEnv} (h : RelE M Z σ env) (i : Nat) : RelE M Z (σ.set i none) (env.set i none) := by
  refine ⟨by rw [List.length_set, List.length_set]; exact h.len, fun j t q => ?_⟩
  by_cases hj : i = j
  · subst hj
    have hi : i < env.length := by
      have := (List.getElem?_eq_some_iff.mp q).1
      rw [List.length_set] at this
      exact this
    rw [List.getElem?_set_self hi] at q
    cases q
  · rw [List.getElem?_set_ne hj] at q
    rw [List.getElem?_set_ne hj]
    exact h.get j t q

section
variable {M : KM} {Z : Fz} {H : Hp} {m : DMem}
/-- a new object that no longer changes -/
abbrev Fz.add (Z : Fz) (p : Addr) (o : HO) : Fz := ⟨Z.ρ, upd Z.F p o⟩
theorem RelM.ext (R : RelM M Z H m) {p : Addr} {o : HO} (hp : H p = none) : Ext Z (Z.add p o) := ⟨fun b x e => by
  show upd Z.F p o b = _
  rw [upd_ne (ne_of_none (R.same b x e) hp)]
  exact e, fun _ _ h => h⟩
theorem RelM.alloc (R : RelM M Z H m) {p : Addr} {o : HO} (hp : H p = none) : RelM M (Z.add p o) (upd H p o) m where
  same := fun b x e => by
    have e : upd Z.F p o b = some x := e
    by_cases hb : b = p
    · subst hb
      rw [upd_same] at e ⊢
      exact e
    · rw [upd_ne hb] at e
      rw [upd_ne hb]
      exact R.same b x e
  len := R.len
  cell := fun k ds e => by
    obtain ⟨a, xs, h1, h2, h3, h4⟩ := R.cell k ds e
    have hap : a ≠ p := ne_of_none h3 hp
    exact ⟨a, xs, h1, (upd_ne hap).trans h2, by rw [upd_ne hap]; exact h3, RdL.mono (R.ext hp) h4⟩
  low := R.low
  inj := R.inj
/-- a heap that grew -/
theorem RelM.grow (R : RelM M Z H m) {H' : Hp} (e : Same H H') : RelM M Z H' m :=
  ⟨R.same.trans e, R.len, fun k ds q => let ⟨a, xs, h1, h2, h3, h4⟩ := R.cell k ds q; ⟨a, xs, h1, h2, e _ _ h3, h4⟩, R.low, R.inj⟩
/-- a new object at p that is a cell -/
abbrev Fz.cell (Z : Fz) (p : Addr) : Fz := ⟨Z.ρ ++ [p], Z.F⟩
theorem Fz.ext_cell (Z : Fz) (p : Addr) : Ext Z (Z.cell p) := ⟨.refl _, fun k a h => by
  show (Z.ρ ++ [p])[k]? = some a
  rw [List.getElem?_append_left (List.getElem?_eq_some_iff.mp h).1]
  exact h⟩
theorem RelM.new (R : RelM M Z H m) {p : Addr} {xs : List V} {ds : List D} (hp : H p = none) (r : RdL M Z xs ds) (hn : D.noMrs ds = true) : RelM M (Z.cell p) (upd H p (.lst xs)) (m ++ [some ds]) where
  same := fun b x e => by
    rw [upd_ne (ne_of_none (R.same b x e) hp)]
    exact R.same b x e
  len := by
    show (Z.ρ ++ [p]).length = _
    rw [List.length_append, List.length_append, R.len]; rfl
  cell := fun k es e => by
    by_cases hk : k < m.length
    · rw [List.getElem?_append_left hk] at e
      obtain ⟨a, xs', h1, h2, h3, h4⟩ := R.cell k es e
      have hap : a ≠ p := ne_of_none h3 hp
      exact ⟨a, xs', (Z.ext_cell p).pre k a h1, h2, by rw [upd_ne hap]; exact h3, RdL.mono (Z.ext_cell p) h4⟩
    · have hk' : k = m.length := by
        have := (List.getElem?_eq_some_iff.mp e).1
        rw [List.length_append, List.length_singleton] at this
        omega
      subst hk'
      have e' : (m ++ [some ds])[m.length]? = some (some ds) := by simp
      rw [e'] at e
      cases e
      refine ⟨p, xs, ?_, R.same.free hp, upd_same, RdL.mono (Z.ext_cell p) r⟩
      show (Z.ρ ++ [p])[m.length]? = some p
      rw [← R.len]
      simp
  low := fun k es e => by
    by_cases hk : k < m.length
    · rw [List.getElem?_append_left hk] at e
      exact R.low k es e
    · have hk' : k = m.length := by
        have := (List.getElem?_eq_some_iff.mp e).1
        rw [List.length_append, List.length_singleton] at this
        omega
      subst hk'
      have e' : (m ++ [some ds])[m.length]? = some (some ds) := by simp
      rw [e'] at e
      cases e
      exact hn
  inj := fun j k ds' es' a hj hk e1 e2 => by
    have e1 : (Z.ρ ++ [p])[j]? = some a := e1
    have e2 : (Z.ρ ++ [p])[k]? = some a := e2
    have lj := (List.getElem?_eq_some_iff.mp hj).1
    have lk := (List.getElem?_eq_some_iff.mp hk).1
    rw [List.length_append, List.length_singleton] at lj lk
    have old : ∀ {i : Nat} {es : List D}, i < m.length → (m ++ [some ds])[i]? = some (some es) → (Z.ρ ++ [p])[i]? = some a → a ≠ p ∧ m[i]? = some (some es) ∧ Z.ρ[i]? = some a := fun {i es} hi h1 h2 => by
      rw [List.getElem?_append_left hi] at h1
      rw [List.getElem?_append_left (by rw [R.len]; exact hi)] at h2
      obtain ⟨a', xs', g1, g2, g3, g4⟩ := R.cell i es h1
      rw [g1] at h2
      cases h2
      exact ⟨ne_of_none g3 hp, h1, g1⟩
    have new : ∀ {i : Nat}, i = m.length → (Z.ρ ++ [p])[i]? = some a → a = p := fun {i} hi h2 => by
      subst hi
      have e' : (Z.ρ ++ [p])[m.length]? = some p := by rw [← R.len]; simp
      rw [e'] at h2
      cases h2
      rfl
    by_cases h1 : j < m.length
    · by_cases h2 : k < m.length
      · obtain ⟨_, a1, a2⟩ := old h1 hj e1
        obtain ⟨_, b1, b2⟩ := old h2 hk e2
        exact R.inj j k _ _ a a1 b1 a2 b2
      · exact absurd (new (by omega) e2) (old h1 hj e1).1
    · by_cases h2 : k < m.length
      · exact absurd (new (by omega) e1) (old h2 hk e2).1
      · omega
/-- a cell is changed -/
theorem RelM.put (R : RelM M Z H m) {k : Nat} {ds es : List D} {a : Addr} {ys : List V} (hk : m[k]? = some (some ds)) (ha : Z.ρ[k]? = some a) (r : RdL M Z ys es) (hn : D.noMrs es = true) : RelM M Z (upd H a (.lst ys)) (m.set k (some es)) where
  same := fun b x e => by
    obtain ⟨a', xs, h1, h2, h3, h4⟩ := R.cell k ds hk
    rw [h1] at ha
    cases ha
    have hb : b ≠ a := fun z => by
      rw [z, h2] at e
      cases e
    rw [upd_ne hb]
    exact R.same b x e
  len := by rw [List.length_set]; exact R.len
  cell := fun j fs e => by
    obtain ⟨a', xs, h1, h2, h3, h4⟩ := R.cell k ds hk
    rw [h1] at ha
    cases ha
    by_cases hj : k = j
    · subst hj
      have hl := (List.getElem?_eq_some_iff.mp hk).1
      rw [List.getElem?_set_self hl] at e
      cases e
      exact ⟨a, ys, h1, h2, upd_same, r⟩
    · rw [List.getElem?_set_ne hj] at e
      obtain ⟨b, zs, g1, g2, g3, g4⟩ := R.cell j fs e
      have hb : b ≠ a := fun z => by
        subst z
        exact hj (R.inj k j _ _ b hk e h1 g1)
      exact ⟨b, zs, g1, g2, by rw [upd_ne hb]; exact g3, g4⟩
  low := fun j fs e => by
    by_cases hj : k = j
    · subst hj
      have hl := (List.getElem?_eq_some_iff.mp hk).1
      rw [List.getElem?_set_self hl] at e
      cases e
      exact hn
    · rw [List.getElem?_set_ne hj] at e
      exact R.low j fs e
  inj := fun i j ds' es' b hi hj e1 e2 => by
    have look : ∀ {i : Nat} {es' : List D}, (m.set k (some es))[i]? = some (some es') → ∃ fs, m[i]? = some (some fs) := fun {i es'} h => by
      by_cases hi : k = i
      · subst hi
        exact ⟨ds, hk⟩
      · rw [List.getElem?_set_ne hi] at h
        exact ⟨_, h⟩
    obtain ⟨f1, g1⟩ := look hi
    obtain ⟨f2, g2⟩ := look hj
    exact R.inj i j _ _ b g1 g2 e1 e2
end

/-! ### the cells from n on are frozen, what they hold with them -/
mutual
/-- the datum, its cells by g -/
def frzW (g : Nat → Option D) : D → Option D
  | .non => some .non
  | .bl b => some (.bl b)
  | .int i => some (.int i)
  | .str s => some (.str s)
  | .lst xs => (frzWL g xs).map D.lst
  | .tup xs => (frzWL g xs).map D.tup
  | .exn c v => (frzW g v).map (D.exn c)
  | .mr k => g k
  | .scr ns => some (.scr ns)
def frzWL (g : Nat → Option D) : List D → Option (List D)
  | [] => some []
  | x :: xs => match frzW g x, frzWL g xs with
    | some y, some ys => some (y :: ys)
    | _, _ => none
end
/-- the cell k: below n itself, else what it holds -/
def frzM (m : DMem) (n k : Nat) : Option D := if k < n then some (.mr k) else match m[k]? with
  | some (some ds) => some (.lst ds)
  | _ => none
/-- the datum, its cells from n on read out -/
def frz (m : DMem) (n : Nat) (d : D) : Option D := if d.noMr = true then some d else frzW (frzM m n) d

section
variable {M : KM} {Z Z' : Fz} {H : Hp} {m : DMem} {n : Nat}
mutual
theorem frzW_rd {g : Nat → Option D} (hF : Same Z.F Z'.F) (hg : ∀ k a d, Z.ρ[k]? = some a → g k = some d → Rd M Z' (.ref a) d) {v : V} : ∀ {d d' : D}, Rd M Z v d → frzW g d = some d' → Rd M Z' v d'
  | .non, _, h, e => by unfold frzW at e; cases e; exact h
  | .bl _, _, h, e => by unfold frzW at e; cases e; exact h
  | .int _, _, h, e => by unfold frzW at e; cases e; exact h
  | .str _, _, h, e => by unfold frzW at e; cases e; exact h
  | .lst ds, d', h, e => by
    unfold frzW at e
    obtain ⟨es, e1, rfl⟩ := Option.map_eq_some_iff.mp e
    unfold Rd at h ⊢
    obtain ⟨a, xs, e2, q, r⟩ := h
    exact ⟨a, xs, e2, hF _ _ q, frzWL_rd hF hg r e1⟩
  | .tup ds, d', h, e => by
    unfold frzW at e
    obtain ⟨es, e1, rfl⟩ := Option.map_eq_some_iff.mp e
    unfold Rd at h ⊢
    obtain ⟨a, xs, e2, q, r⟩ := h
    exact ⟨a, xs, e2, Same.sqT hF q, frzWL_rd hF hg r e1⟩
  | .exn c d, d', h, e => by
    unfold frzW at e
    obtain ⟨d2, e1, rfl⟩ := Option.map_eq_some_iff.mp e
    unfold Rd at h ⊢
    obtain ⟨a, C, dx, u, e2, hc, h1, h2, r⟩ := h
    exact ⟨a, C, dx, u, e2, hc, hF _ _ h1, hF _ _ h2, frzW_rd hF hg r e1⟩
  | .mr k, d', h, e => by
    unfold frzW at e
    unfold Rd at h
    obtain ⟨a, h1, rfl⟩ := h
    exact hg k a d' h1 e
  | .scr ns, _, h, e => by
    unfold frzW at e
    cases e
    unfold Rd at h ⊢
    obtain ⟨a, h1, h2⟩ := h
    exact ⟨a, h1, hF.seq h2⟩
theorem frzWL_rd {g : Nat → Option D} (hF : Same Z.F Z'.F) (hg : ∀ k a d, Z.ρ[k]? = some a → g k = some d → Rd M Z' (.ref a) d) {vs : List V} : ∀ {ds es : List D}, RdL M Z vs ds → frzWL g ds = some es → RdL M Z' vs es
  | [], _, h, e => by unfold frzWL at e; cases e; unfold RdL at h ⊢; exact h
  | d :: ds, es, h, e => by
    unfold frzWL at e
    split at e
    · rename_i y ys h1 h2
      cases e
      unfold RdL at h
      obtain ⟨x, xs, rfl, r1, r2⟩ := h
      exact .cons (frzW_rd hF hg r1 h1) (frzWL_rd hF hg r2 h2)
    · cases e
end
open Classical in
/-- the world in which the cells from n on no longer change -/
noncomputable def Fz.froz (Z : Fz) (H : Hp) (m : DMem) (n : Nat) : Fz :=
  ⟨Z.ρ.take n, fun a => if ∃ k ds, n ≤ k ∧ m[k]? = some (some ds) ∧ Z.ρ[k]? = some a then H a else Z.F a⟩
theorem Fz.froz_yes {a : Addr} (h : ∃ k ds, n ≤ k ∧ m[k]? = some (some ds) ∧ Z.ρ[k]? = some a) : (Z.froz H m n).F a = H a := by
  unfold Fz.froz
  exact if_pos h
theorem Fz.froz_no {a : Addr} (h : ¬ ∃ k ds, n ≤ k ∧ m[k]? = some (some ds) ∧ Z.ρ[k]? = some a) : (Z.froz H m n).F a = Z.F a := by
  unfold Fz.froz
  exact if_neg h
theorem RelM.froz_same (R : RelM M Z H m) : Same Z.F (Z.froz H m n).F := fun a o e => by
  by_cases h : ∃ k ds, n ≤ k ∧ m[k]? = some (some ds) ∧ Z.ρ[k]? = some a
  · rw [Fz.froz_yes h]
    exact R.same a o e
  · rw [Fz.froz_no h]
    exact e
theorem RelM.froz_ext {Z0 : Fz} (R : RelM M Z H m) (e : Ext Z0 Z) (hl : Z0.ρ.length ≤ n) : Ext Z0 (Z.froz H m n) := ⟨e.same.trans R.froz_same, fun k a h => by
  show (Z.ρ.take n)[k]? = some a
  rw [List.getElem?_take_of_lt (Nat.lt_of_lt_of_le (List.getElem?_eq_some_iff.mp h).1 hl)]
  exact e.pre k a h⟩
mutual
theorem Rd.low (hF : Same Z.F Z'.F) {v : V} : ∀ {d : D}, Rd M Z v d → d.noMr = true → Rd M Z' v d
  | .non, h, _ => h
  | .bl _, h, _ => h
  | .int _, h, _ => h
  | .str _, h, _ => h
  | .lst ds, h, n => by
    unfold Rd at h ⊢
    obtain ⟨a, xs, e1, q, r⟩ := h
    exact ⟨a, xs, e1, hF _ _ q, RdL.low hF r n⟩
  | .tup ds, h, n => by
    unfold Rd at h ⊢
    obtain ⟨a, xs, e1, q, r⟩ := h
    exact ⟨a, xs, e1, Same.sqT hF q, RdL.low hF r n⟩
  | .exn c d, h, n => by
    unfold Rd at h ⊢
    obtain ⟨a, C, dx, u, e1, hc, h1, h2, r⟩ := h
    exact ⟨a, C, dx, u, e1, hc, hF _ _ h1, hF _ _ h2, Rd.low hF r n⟩
  | .mr k, h, n => by cases n
  | .scr ns, h, _ => by
    unfold Rd at h ⊢
    obtain ⟨a, h1, h2⟩ := h
    exact ⟨a, h1, hF.seq h2⟩
theorem RdL.low (hF : Same Z.F Z'.F) {vs : List V} : ∀ {ds : List D}, RdL M Z vs ds → D.noMrs ds = true → RdL M Z' vs ds
  | [], h, _ => by unfold RdL at h ⊢; exact h
  | d :: ds, h, n => by
    unfold RdL at h ⊢
    obtain ⟨x, xs, e1, h1, h2⟩ := h
    have n' : (d.noMr && D.noMrs ds) = true := n
    rw [Bool.and_eq_true] at n'
    exact ⟨x, xs, e1, Rd.low hF h1 n'.1, RdL.low hF h2 n'.2⟩
end
theorem RelM.frzM_rd (R : RelM M Z H m) (k : Nat) (a : Addr) (d : D) (h : Z.ρ[k]? = some a) (e : frzM m n k = some d) : Rd M (Z.froz H m n) (.ref a) d := by
  unfold frzM at e
  split at e
  · rename_i hk
    cases e
    unfold Rd
    refine ⟨a, ?_, rfl⟩
    show (Z.ρ.take n)[k]? = some a
    rw [List.getElem?_take_of_lt hk]
    exact h
  · rename_i hk
    split at e
    · rename_i ds hm
      cases e
      obtain ⟨a', xs, g1, g2, g3, g4⟩ := R.cell k ds hm
      rw [h] at g1
      cases g1
      unfold Rd
      refine ⟨a, xs, rfl, ?_, RdL.low R.froz_same g4 (R.low k ds hm)⟩
      rw [Fz.froz_yes ⟨k, ds, by omega, hm, h⟩]
      exact g3
    · cases e
theorem frz_rd (R : RelM M Z H m) {v : V} {d d' : D} (h : Rd M Z v d) (e : frz m n d = some d') : Rd M (Z.froz H m n) v d' := by
  unfold frz at e
  split at e
  · rename_i hn
    cases e
    exact h.low R.froz_same hn
  · exact frzW_rd R.froz_same R.frzM_rd h e
theorem RelM.froz (R : RelM M Z H m) : RelM M (Z.froz H m n) H (m.take n) where
  same := fun a o e => by
    by_cases h : ∃ k ds, n ≤ k ∧ m[k]? = some (some ds) ∧ Z.ρ[k]? = some a
    · rw [Fz.froz_yes h] at e
      exact e
    · rw [Fz.froz_no h] at e
      exact R.same a o e
  len := by
    show (Z.ρ.take n).length = _
    rw [List.length_take, List.length_take, R.len]
  cell := fun k ds e => by
    have hk : k < n := by
      have := (List.getElem?_eq_some_iff.mp e).1
      rw [List.length_take] at this
      omega
    have e' := e
    rw [List.getElem?_take_of_lt hk] at e'
    obtain ⟨a, xs, h1, h2, h3, h4⟩ := R.cell k ds e'
    refine ⟨a, xs, ?_, ?_, h3, RdL.low R.froz_same h4 (R.low k ds e')⟩
    · show (Z.ρ.take n)[k]? = some a
      rw [List.getElem?_take_of_lt hk]
      exact h1
    · rw [Fz.froz_no]
      · exact h2
      · rintro ⟨j, es, hj, e2, e3⟩
        have := R.inj k j _ _ a e' e2 h1 e3
        omega
  low := fun k ds e => by
    have hk : k < n := by
      have := (List.getElem?_eq_some_iff.mp e).1
      rw [List.length_take] at this
      omega
    rw [List.getElem?_take_of_lt hk] at e
    exact R.low k ds e
  inj := fun j k ds es a hj hk e1 e2 => by
    have e1 : (Z.ρ.take n)[j]? = some a := e1
    have e2 : (Z.ρ.take n)[k]? = some a := e2
    have lj : j < n := by
      have := (List.getElem?_eq_some_iff.mp hj).1
      rw [List.length_take] at this
      omega
    have lk : k < n := by
      have := (List.getElem?_eq_some_iff.mp hk).1
      rw [List.length_take] at this
      omega
    rw [List.getElem?_take_of_lt lj] at hj e1
    rw [List.getElem?_take_of_lt lk] at hk e2
    exact R.inj j k _ _ a hj hk e1 e2
end
end DX
end

section
set_option Elab.async false
set_option linter.all false
set_option maxRecDepth 100000
set_option maxHeartbeats 2000000
/-! DX2: what an expression is worth as a function of data. -/
namespace DX
open PySem PySem.Spec L2

inductive XO (α : Type) where
  | ok (a : α) (m : DMem) | ex (c : Str) (d : D) (m : DMem) | bad
def XO.bind {α β : Type} (r : XO α) (k : α → DMem → XO β) : XO β :=
  match r with
  | .ok a m => k a m
  | .ex c d m => .ex c d m
  | .bad => .bad
abbrev DE := DEnv → DMem → XO D
abbrev DT := DEnv → DMem → XO Bool
abbrev DA := DEnv → DMem → XO (List D)

/-- the wish about errors -/
abbrev WXs := Value → Option Addr → L2.St → Hp → Prop
def PostX (M : KM) (W : WXs) (σ : L2.St) (Z : Fz) (c : Str) (d : D) (m : DMem) : Prop :=
  ∀ C dx v H' Z', M.mg c = some (.ref C) → Ext Z Z' → RelM M Z' H' m → Z'.F dx = some (.xd [(("value" : Str), v)]) → Rd M Z' v d → W (.ref C) (some dx) σ H'
def Post (M : KM) (W : WXs) (σ : L2.St) (Z : Fz) {α β : Type} (RR : Fz → β → α → Prop) (r : XO α) (Q : β → Hp → Prop) : Prop :=
  match r with
  | .ok a m => ∀ b H' Z', Ext Z Z' → RelM M Z' H' m → RR Z' b a → Q b H'
  | .ex c d m => PostX M W σ Z c d m
  | .bad => False
section
variable {M : KM} {W : WXs} {σ : L2.St} {Z Z1 : Fz} {H : Hp} {m : DMem} {α β γ δ : Type} {RR : Fz → β → α → Prop} {RS : Fz → δ → γ → Prop}
theorem PostX.ext {c : Str} {d : D} (e : Ext Z Z1) (h : PostX M W σ Z c d m) : PostX M W σ Z1 c d m := fun C dx v H' Z' hc e' R h1 h2 => h C dx v H' Z' hc (e.trans e') R h1 h2
theorem Post.ext {r : XO α} {Q : β → Hp → Prop} (e : Ext Z Z1) (h : Post M W σ Z RR r Q) : Post M W σ Z1 RR r Q := by
  cases r with
  | ok a m => exact fun b H' Z' e' R rr => h b H' Z' (e.trans e') R rr
  | ex c d m => exact PostX.ext e h
  | bad => exact h
theorem Post.bind {r : XO α} {k : α → DMem → XO γ} {Q : δ → Hp → Prop} {Q1 : β → Hp → Prop} (h : Post M W σ Z RS (r.bind k) Q)
    (step : ∀ a m1 b H1 Z1, r = .ok a m1 → Ext Z Z1 → RelM M Z1 H1 m1 → RR Z1 b a → Post M W σ Z1 RS (k a m1) Q → Q1 b H1) : Post M W σ Z RR r Q1 := by
  cases r with
  | ok a m => exact fun b H' Z' e R rr => step a m b H' Z' rfl e R rr (Post.ext e h)
  | ex c d m => exact h
  | bad => exact h
theorem Post.here {a : α} {Q : β → Hp → Prop} (R : RelM M Z H m) {b : β} (rr : RR Z b a) (h : Post M W σ Z RR (.ok a m) Q) : Q b H := h b H Z (.refl _) R rr
end

def SndE (M : KM) (W : WXs) (t : TE) (f : DE) : Prop := ∀ σ H env m Z Q, RelM M Z H m → RelE M Z σ env → Post M W σ Z (Rd M) (f env m) Q → t σ H Q
def SndT (M : KM) (W : WXs) (t : TT) (f : DT) : Prop := ∀ σ H env m Z Q, RelM M Z H m → RelE M Z σ env → Post M W σ Z (fun _ b a => b = a) (f env m) Q → t σ H Q
def SndA (M : KM) (W : WXs) (t : TA) (f : DA) : Prop := ∀ σ H env m Z Q, RelM M Z H m → RelE M Z σ env → Post M W σ Z (RdL M) (f env m) Q → t σ H Q
abbrev Cx.km (X : Cx) : KM := ⟨X.K, X.mg⟩
structure PD (X : Cx) (W : WXs) (e : Expr) (t : TE) (f : DE) : Prop where
  pe : PE X e t
  sn : SndE (Cx.km X) W t f
structure PTD (X : Cx) (W : WXs) (e : Expr) (t : TT) (f : DT) : Prop where
  pt : PT X e t
  sn : SndT (Cx.km X) W t f
structure PWD (X : Cx) (W : WXs) (e : Expr) (t : TT) (f : DT) : Prop where
  pw : PW X e t
  sn : SndT (Cx.km X) W t f
structure PAD (X : Cx) (W : WXs) (es : List Expr) (t : TA) (f : DA) : Prop where
  pa : PA X es t
  sn : SndA (Cx.km X) W t f

/-! ### the datum behind a value: a cell is read out -/
def rs (s : D) (m : DMem) : Option D :=
  match s with
  | .mr k => match m[k]? with
    | some (some ds) => some (.lst ds)
    | _ => none
  | .scr _ => none
  | x => some x
/-- .. the script too -/
def rq (s : D) (m : DMem) : Option D :=
  match s with
  | .scr ns => some (.lst (ns.map D.int))
  | s => rs s m
/-- tracked in H, the items in the world -/
def RdT (M : KM) (Z : Fz) (H : Hp) (v : V) : D → Prop
  | .lst ds => ∃ a xs, v = .ref a ∧ H a = some (.lst xs) ∧ RdL M Z xs ds
  | d => Rd M Z v d
def RdQ (M : KM) (Z : Fz) (H : Hp) (v : V) : D → Prop
  | .lst ds => ∃ a xs, v = .ref a ∧ SqL M.K H a xs ∧ RdL M Z xs ds
  | .tup ds => ∃ a xs, v = .ref a ∧ SqT M.K H a xs ∧ RdL M Z xs ds
  | d => Rd M Z v d
section
variable {M : KM} {W : WXs} {Z : Fz} {H : Hp} {m : DMem} {v : V} {s : D} {d : D}
theorem rs_rd (R : RelM M Z H m) (r : Rd M Z v s) (e : rs s m = some d) : RdT M Z H v d := by
  cases s with
  | mr k =>
    unfold Rd at r
    obtain ⟨a, h1, h2⟩ := r
    unfold rs at e
    dsimp only at e
    split at e
    · rename_i ds hk
      cases e
      obtain ⟨a', xs, g1, g2, g3, g4⟩ := R.cell k ds hk
      rw [h1] at g1
      cases g1
      exact ⟨a, xs, h2, g3, g4⟩
    · cases e
  | scr ns => cases e
  | lst ds =>
    have e' : D.lst ds = d := Option.some.inj e
    subst e'
    unfold Rd at r
    obtain ⟨a, xs, e1, q, r2⟩ := r
    exact ⟨a, xs, e1, R.same _ _ q, r2⟩
  | non => cases (show some D.non = some d from e); exact r
  | bl b => cases (show some (D.bl b) = some d from e); exact r
  | int b => cases (show some (D.int b) = some d from e); exact r
  | str b => cases (show some (D.str b) = some d from e); exact r
  | tup b => cases (show some (D.tup b) = some d from e); exact r
  | exn b c => cases (show some (D.exn b c) = some d from e); exact r
theorem RdT.q (R : RelM M Z H m) (h : RdT M Z H v d) : RdQ M Z H v d := by
  cases d with
  | lst ds =>
    obtain ⟨a, xs, e, q, r⟩ := h
    exact ⟨a, xs, e, SqL.of q, r⟩
  | tup ds =>
    have h' : Rd M Z v (.tup ds) := h
    unfold Rd at h'
    obtain ⟨a, xs, e, q, r⟩ := h'
    exact ⟨a, xs, e, Same.sqT R.same q, r⟩
  | _ => exact h
theorem rq_rd (R : RelM M Z H m) (r : Rd M Z v s) (e : rq s m = some d) : RdQ M Z H v d := by
  cases s with
  | scr ns =>
    have e' : D.lst (ns.map D.int) = d := Option.some.inj e
    subst e'
    unfold Rd at r
    obtain ⟨a, h1, h2⟩ := r
    exact ⟨a, _, h1, R.same.seq h2, RdL.ints ns⟩
  | _ => exact (rs_rd R r e).q R
/-- the whole read in H -/
abbrev Fz.at (Z : Fz) (H : Hp) : Fz := ⟨Z.ρ, H⟩
theorem RelM.up (R : RelM M Z H m) : Ext Z (Z.at H) := ⟨R.same, fun _ _ h => h⟩
theorem RdT.full (R : RelM M Z H m) (h : RdT M Z H v d) : Rd M (Z.at H) v d := by
  cases d with
  | lst ds =>
    obtain ⟨a, xs, e, q, r⟩ := h
    unfold Rd
    exact ⟨a, xs, e, q, RdL.mono R.up r⟩
  | non => exact Rd.mono R.up (show Rd M Z v .non from h)
  | bl b => exact Rd.mono R.up (show Rd M Z v (.bl b) from h)
  | int b => exact Rd.mono R.up (show Rd M Z v (.int b) from h)
  | str b => exact Rd.mono R.up (show Rd M Z v (.str b) from h)
  | tup b => exact Rd.mono R.up (show Rd M Z v (.tup b) from h)
  | exn b c => exact Rd.mono R.up (show Rd M Z v (.exn b c) from h)
  | mr b => exact Rd.mono R.up (show Rd M Z v (.mr b) from h)
  | scr b => exact Rd.mono R.up (show Rd M Z v (.scr b) from h)
end

/-! ### names, constants -/
section
variable {M : KM} {W : WXs}
def dVar (i : Nat) : DE := fun env m => match env[i]? with
  | some (some s) => .ok s m
  | _ => .bad
def dK (s : D) : DE := fun _ m => .ok s m
theorem sn_var (i : Nat) : SndE M W (tVar i) (dVar i) := fun σ H env m Z Q R E h => by
  unfold dVar at h
  split at h
  · rename_i s hs
    obtain ⟨v, h1, h2⟩ := E.get i s hs
    exact ⟨v, h1, Post.here R h2 h⟩
  · exact h.elim
theorem sn_c {v : V} {s : D} (r : ∀ Z, Rd M Z v s) : SndE M W (tC v) (dK s) := fun σ H env m Z Q R E h => Post.here R (r Z) h
theorem rd_int {Z : Fz} {i : Int} : Rd M Z (.int i) (.int i) := by unfold Rd; rfl
theorem rd_bl {Z : Fz} {i : Bool} : Rd M Z (.bl i) (.bl i) := by unfold Rd; rfl
theorem rd_str {Z : Fz} {i : Str} : Rd M Z (.str i) (.str i) := by unfold Rd; rfl
theorem rd_non {Z : Fz} : Rd M Z .non .non := by unfold Rd; rfl
end
section
variable {X : Cx} {W : WXs}
theorem pdv (i : Nat) {x : Str} {pos : Pos} (hN : X.N[i]? = some x := by rfl) (hv : Vis X.env.scope x := by first | exact Or.inl rfl | exact Or.inr (Or.inl rfl) | exact Or.inr (Or.inr rfl)) (hd : (x == ("__debug__" : Str)) = false := by decide)
    (hcd : (x == ("__classdict__" : Str)) = false := by decide) : PD X W (.Name x pos) (tVar i) (dVar i) := ⟨pe_var hN hv hd hcd, sn_var i⟩
theorem pd_int {i j pos} : PD X W (.Constant (.int i) j pos) (tC (.int i)) (dK (.int i)) := ⟨pe_int, sn_c fun _ => rd_int⟩
theorem pd_bl {b j pos} : PD X W (.Constant (.bool b) j pos) (tC (.bl b)) (dK (.bl b)) := ⟨pe_bl, sn_c fun _ => rd_bl⟩
theorem pd_non {j pos} : PD X W (.Constant .none j pos) (tC .non) (dK .non) := ⟨pe_non, sn_c fun _ => rd_non⟩
theorem pd_str {x j pos} : PD X W (.Constant (.str x) j pos) (tC (.str x)) (dK (.str x)) := ⟨pe_str, sn_c fun _ => rd_str⟩
/-- a module's text or number -/
theorem pd_gstr {x z : Str} {t : Tok} {pos : Pos} (hg : Gl X x) (hm : X.mg x = some (.str z t)) (hd : (x == ("__debug__" : Str)) = false := by decide) : PD X W (.Name x pos) (tC (.str z)) (dK (.str z)) := ⟨pe_glob hg hm ⟨t, rfl⟩ hd, sn_c fun _ => rd_str⟩
theorem pd_gint {x : Str} {z : Int} {t : Tok} {pos : Pos} (hg : Gl X x) (hm : X.mg x = some (.int z t)) (hd : (x == ("__debug__" : Str)) = false := by decide) : PD X W (.Name x pos) (tC (.int z)) (dK (.int z)) := ⟨pe_glob hg hm ⟨t, rfl⟩ hd, sn_c fun _ => rd_int⟩
end

/-! ### operators by their data -/
/-- two tracked operands, a new datum -/
def OpS (M : KM) (r : R2) (g : D → D → Option D) : Prop := ∀ x y a b H Z m Q z, RelM M Z H m → RdT M Z H x a → RdT M Z H y b → g a b = some z →
  (∀ v H' Z', Ext Z Z' → RelM M Z' H' m → Rd M Z' v z → Q v H') → r x y H Q
def o2 (g : D → D → Option D) (a b : D) (m : DMem) : XO D :=
  match rs a m, rs b m with
  | some x, some y => match g x y with
    | some z => .ok z m
    | none => .bad
  | _, _ => .bad
def dOp (g : D → D → Option D) (fa fb : DE) : DE := fun env m => (fa env m).bind fun a m1 => (fb env m1).bind fun b m2 => o2 g a b m2
/-- two operands that are read alone -/
def OpQ (M : KM) (r : R2) (g : D → D → Option D) : Prop := ∀ x y a b H Z m Q z, RelM M Z H m → RdQ M Z H x a → RdQ M Z H y b → g a b = some z →
  (∀ v H' Z', Ext Z Z' → RelM M Z' H' m → Rd M Z' v z → Q v H') → r x y H Q
def o2q (g : D → D → Option D) (a b : D) (m : DMem) : XO D :=
  match rq a m, rq b m with
  | some x, some y => match g x y with
    | some z => .ok z m
    | none => .bad
  | _, _ => .bad
def dOpq (g : D → D → Option D) (fa fb : DE) : DE := fun env m => (fa env m).bind fun a m1 => (fb env m1).bind fun b m2 => o2q g a b m2
section
variable {M : KM} {W : WXs} {ta tb : TE} {fa fb : DE} {r r' : R2} {g g' : D → D → Option D}
theorem sn_op (h : OpS M r g) (ha : SndE M W ta fa) (hb : SndE M W tb fb) : SndE M W (tOp r ta tb) (dOp g fa fb) := fun σ H env m Z Q R E hp => by
  refine ha σ H env m Z _ R E (Post.bind hp fun a m1 x H1 Z1 _ e1 R1 rx hp1 => ?_)
  refine hb σ H1 env m1 Z1 _ R1 (E.mono e1) (Post.bind hp1 fun b m2 y H2 Z2 _ e2 R2' ry hp2 => ?_)
  unfold o2 at hp2
  split at hp2
  · rename_i da db ea eb
    split at hp2
    · rename_i z ez
      exact h x y da db H2 Z2 m2 Q z R2' (rs_rd R2' (rx.mono e2) ea) (rs_rd R2' ry eb) ez hp2
    · exact hp2.elim
  · exact hp2.elim
theorem sn_opq (h : OpQ M r g) (ha : SndE M W ta fa) (hb : SndE M W tb fb) : SndE M W (tOp r ta tb) (dOpq g fa fb) := fun σ H env m Z Q R E hp => by
  refine ha σ H env m Z _ R E (Post.bind hp fun a m1 x H1 Z1 _ e1 R1 rx hp1 => ?_)
  refine hb σ H1 env m1 Z1 _ R1 (E.mono e1) (Post.bind hp1 fun b m2 y H2 Z2 _ e2 R2' ry hp2 => ?_)
  unfold o2q at hp2
  split at hp2
  · rename_i da db ea eb
    split at hp2
    · rename_i z ez
      exact h x y da db H2 Z2 m2 Q z R2' (rq_rd R2' (rx.mono e2) ea) (rq_rd R2' ry eb) ez hp2
    · exact hp2.elim
  · exact hp2.elim
theorem OpS.or (h : OpS M r g) (h' : OpS M r' g') : OpS M (fun x y H Q => r x y H Q ∨ r' x y H Q) (fun a b => match g a b with | some z => some z | none => g' a b) := fun x y a b H Z m Q z R ra rb e k => by
  dsimp only at e
  split at e
  · rename_i z' ez
    exact .inl (h x y a b H Z m Q z R ra rb (ez.trans e) k)
  · exact .inr (h' x y a b H Z m Q z R ra rb e k)
theorem OpQ.or (h : OpQ M r g) (h' : OpQ M r' g') : OpQ M (fun x y H Q => r x y H Q ∨ r' x y H Q) (fun a b => match g a b with | some z => some z | none => g' a b) := fun x y a b H Z m Q z R ra rb e k => by
  dsimp only at e
  split at e
  · rename_i z' ez
    exact .inl (h x y a b H Z m Q z R ra rb (ez.trans e) k)
  · exact .inr (h' x y a b H Z m Q z R ra rb e k)
theorem OpS.of {g'' : D → D → Option D} (h : OpS M r g) (e : ∀ a b, g'' a b = g a b) : OpS M r g'' := fun x y a b H Z m Q z R ra rb q k => h x y a b H Z m Q z R ra rb (by rw [← e]; exact q) k
theorem OpQ.of {g'' : D → D → Option D} (h : OpQ M r g) (e : ∀ a b, g'' a b = g a b) : OpQ M r g'' := fun x y a b H Z m Q z R ra rb q k => h x y a b H Z m Q z R ra rb (by rw [← e]; exact q) k
end
end DX
end

section
set_option Elab.async false
set_option linter.all false
set_option maxRecDepth 100000
set_option maxHeartbeats 2000000
/-! DX3: the operators. -/
namespace DX
open PySem PySem.Spec L2

/-! ### arithmetic -/
def gI (f : Int → Int → Option D) : D → D → Option D
  | .int i, .int j => f i j
  | _, _ => none
section
variable {M : KM}
/-- two ints to a flat datum -/
theorem ops_int {C : Int → Int → Prop} {gv : Int → Int → V} {f : Int → Int → Option D} (h : ∀ i j z, f i j = some z → C i j ∧ ∀ Z, Rd M Z (gv i j) z) : OpS M (rI C gv) (gI f) := fun x y a b H Z m Q z R ra rb e k => by
  unfold gI at e
  split at e
  · rename_i i j
    have ra : Rd M Z x (.int i) := ra
    have rb : Rd M Z y (.int j) := rb
    unfold Rd at ra rb
    obtain ⟨c, r⟩ := h i j z e
    exact ⟨i, j, ra, rb, c, k _ H Z (.refl _) R (r Z)⟩
  · cases e
theorem ops_int0 {gv : Int → Int → V} {f : Int → Int → Option D} (h : ∀ i j z, f i j = some z → ∀ Z, Rd M Z (gv i j) z) : OpS M (rI0 gv) (gI f) := fun x y a b H Z m Q z R ra rb e k => by
  unfold gI at e
  split at e
  · rename_i i j
    have ra : Rd M Z x (.int i) := ra
    have rb : Rd M Z y (.int j) := rb
    unfold Rd at ra rb
    exact ⟨i, j, ra, rb, k _ H Z (.refl _) R (h i j z e Z)⟩
  · cases e
theorem ops_ii {gv : Int → Int → V} {f : Int → Int → D} (h : ∀ i j Z, Rd M Z (gv i j) (f i j)) : OpS M (rI0 gv) (gI fun i j => some (f i j)) := ops_int0 fun i j z e Z => by
  cases e
  exact h i j Z
end
def gSub : D → D → Option D := gI fun i j => some (.int (i - j))
theorem ops_sub {M : KM} : OpS M (rI0 fun i j => .int (i - j)) gSub := ops_ii fun _ _ _ => rd_int
def CMod (_ j : Int) : Prop := j ≠ 0
def gMod : D → D → Option D := gI fun i j => if j ≠ 0 then some (.int (i.fmod j)) else none
theorem ops_mod {M : KM} : OpS M (rI (fun _ j => j ≠ 0) fun i j => .int (i.fmod j)) gMod := ops_int fun i j z e => by
  split at e
  · rename_i h
    cases e
    exact ⟨h, fun _ => rd_int⟩
  · cases e
def CFdv (_ j : Int) : Prop := j ≠ 0 ∧ j.natAbs.log2 < 9000
def gFdv : D → D → Option D := gI fun i j => if j ≠ 0 ∧ j.natAbs.log2 < 9000 then some (.int (i.fdiv j)) else none
theorem op_fdv {X : Cx} : OpR X (binaryOp .FloorDiv) (rI CFdv fun i j => .int (i.fdiv j)) := opI fun i j _ _ _ _ _ hc q => PyProof.Rows.floordiv_int hc.1 q (.inl (PyProof.noPylong_of_log2 hc.2))
theorem ops_fdv {M : KM} : OpS M (rI CFdv fun i j => .int (i.fdiv j)) gFdv := ops_int fun i j z e => by
  split at e
  · rename_i h
    cases e
    exact ⟨h, fun _ => rd_int⟩
  · cases e
def CPw (i j : Int) : Prop := 0 ≤ j ∧ (Builtin.Int.intBits i : Int) * j ≤ 2 ^ 27
def gPow : D → D → Option D := gI fun i j => if 0 ≤ j ∧ (Builtin.Int.intBits i : Int) * j ≤ 2 ^ 27 then some (.int (i ^ j.toNat)) else none
theorem op_pw {X : Cx} : OpR X (binaryOp .Pow) (rI CPw fun i j => .int (i ^ j.toNat)) := opI fun _ _ _ _ _ _ _ hc q => PyProof.Rows.pow_int hc.1 hc.2 q
theorem ops_pow {M : KM} : OpS M (rI CPw fun i j => .int (i ^ j.toNat)) gPow := ops_int fun i j z e => by
  split at e
  · rename_i h
    cases e
    exact ⟨h, fun _ => rd_int⟩
  · cases e

/-! ### + -/
def gAdd : D → D → Option D
  | .int i, .int j => some (.int (i + j))
  | .str x, .str y => if x.length + y.length ≤ sizeLine then some (.str (x ++ y)) else none
  | .lst xs, .lst ys => if xs.length + ys.length ≤ sizeLine then some (.lst (xs ++ ys)) else none
  | .tup xs, .tup ys => if xs ≠ [] ∧ ys ≠ [] ∧ xs.length + ys.length ≤ sizeLine then some (.tup (xs ++ ys)) else none
  | _, _ => none
/-- + of ints, texts, lists, tuples -/
def rAddD (K : PySem.W.Frag) : R2 := fun x y H Q => rI0 (fun i j => .int (i + j)) x y H Q ∨ (∃ i j, x = .str i ∧ y = .str j ∧ i.length + j.length ≤ sizeLine ∧ Q (.str (i ++ j)) H) ∨ rCat x y H Q ∨ rCatT K x y H Q
theorem op_addD {X : Cx} : OpR X (binaryOp .Add) (rAddD X.K) := op_add.or (op_add_str.or (op_cat.or op_catT))
theorem RdL.ne_nil {M : KM} {Z : Fz} {vs : List V} {ds : List D} (h : RdL M Z vs ds) (n : ds ≠ []) : vs ≠ [] := fun e => by
  subst e
  have := h.length
  cases ds with
  | nil => exact n rfl
  | cons _ _ => cases this
theorem ops_add {M : KM} : OpS M (rAddD M.K) gAdd := fun x y a b H Z m Q z R ra rb e k => by
  unfold gAdd at e
  split at e
  · rename_i i j
    cases e
    have ra : Rd M Z x (.int i) := ra
    have rb : Rd M Z y (.int j) := rb
    unfold Rd at ra rb
    exact .inl ⟨i, j, ra, rb, k _ H Z (.refl _) R rd_int⟩
  · rename_i i j
    split at e
    · rename_i hl
      cases e
      have ra : Rd M Z x (.str i) := ra
      have rb : Rd M Z y (.str j) := rb
      unfold Rd at ra rb
      exact .inr (.inl ⟨i, j, ra, rb, hl, k _ H Z (.refl _) R rd_str⟩)
    · cases e
  · rename_i xs ys
    split at e
    · rename_i hl
      cases e
      obtain ⟨l, us, rfl, h1, r1⟩ := ra
      obtain ⟨b, ws, rfl, h2, r2⟩ := rb
      refine .inr (.inr (.inl ⟨l, b, us, ws, rfl, rfl, h1, h2, by rw [r1.length, r2.length]; exact hl, fun p hp => ?_⟩))
      refine k _ _ _ (R.ext hp) (R.alloc hp) ?_
      unfold Rd
      exact ⟨p, _, rfl, upd_same, RdL.mono (R.ext hp) (r1.append r2)⟩
    · cases e
  · rename_i xs ys
    split at e
    · rename_i hl
      cases e
      obtain ⟨l, us, rfl, h1, r1⟩ := RdT.q R ra
      obtain ⟨b, ws, rfl, h2, r2⟩ := RdT.q R rb
      refine .inr (.inr (.inr ⟨l, b, us, ws, rfl, rfl, h1, h2, r1.ne_nil hl.1, by rw [r1.length, r2.length]; exact hl.2.2, fun z => absurd z (r2.ne_nil hl.2.1), fun _ p hp => ?_⟩))
      refine k _ _ _ (R.ext hp) (R.alloc hp) ?_
      unfold Rd
      exact ⟨p, _, rfl, .inl (.inl upd_same), RdL.mono (R.ext hp) (r1.append r2)⟩
    · cases e
  · cases e

/-! ### * -/
def gMul : D → D → Option D
  | .int i, .int j => if (Builtin.Int.intBits i : Int) + (Builtin.Int.intBits j : Int) ≤ 134217728 then some (.int (i * j)) else none
  | .lst xs, .int k => if -(2 ^ 63) ≤ k ∧ k < 2 ^ 63 ∧ xs.length * k.toNat ≤ sizeLine then some (.lst (List.replicate k.toNat xs).flatten) else none
  | _, _ => none
def rMulD : R2 := fun x y H Q => rI CMulX (fun i j => .int (i * j)) x y H Q ∨ rRep x y H Q
theorem op_mulD {X : Cx} : OpR X (binaryOp .Mult) rMulD := op_mulX.or op_rep
theorem ops_mul {M : KM} : OpS M rMulD gMul := fun x y a b H Z m Q z R ra rb e k => by
  unfold gMul at e
  split at e
  · rename_i i j
    split at e
    · rename_i hl
      cases e
      have ra : Rd M Z x (.int i) := ra
      have rb : Rd M Z y (.int j) := rb
      unfold Rd at ra rb
      exact .inl ⟨i, j, ra, rb, hl, k _ H Z (.refl _) R rd_int⟩
    · cases e
  · rename_i xs j
    split at e
    · rename_i hl
      cases e
      obtain ⟨l, us, rfl, h1, r1⟩ := ra
      have rb : Rd M Z y (.int j) := rb
      unfold Rd at rb
      refine .inr ⟨l, j, us, rfl, rb, h1, hl.1, hl.2.1, by rw [r1.length]; exact hl.2.2, fun p hp => ?_⟩
      refine k _ _ _ (R.ext hp) (R.alloc hp) ?_
      unfold Rd
      exact ⟨p, _, rfl, upd_same, RdL.mono (R.ext hp) (r1.rep _)⟩
    · cases e
  · cases e

/-! ### comparisons of ints -/
def gLt : D → D → Option D := gI fun i j => some (.bl (decide (i < j)))
def gLe : D → D → Option D := gI fun i j => some (.bl (decide (i ≤ j)))
def gGt : D → D → Option D := gI fun i j => some (.bl (decide (j < i)))
def gGe : D → D → Option D := gI fun i j => some (.bl (decide (j ≤ i)))
theorem ops_lt {M : KM} : OpS M (rI0 fun i j => .bl (decide (i < j))) gLt := ops_ii fun _ _ _ => rd_bl
theorem ops_le {M : KM} : OpS M (rI0 fun i j => .bl (decide (i ≤ j))) gLe := ops_ii fun _ _ _ => rd_bl
theorem ops_gt {M : KM} : OpS M (rI0 fun i j => .bl (decide (j < i))) gGt := ops_ii fun _ _ _ => rd_bl
theorem ops_ge {M : KM} : OpS M (rI0 fun i j => .bl (decide (j ≤ i))) gGe := ops_ii fun _ _ _ => rd_bl

/-! ### == and != -/
def shapedD (d : D) : Bool := d.pure && SeqAt.shaped d.py
/-- Python's == of plain data -/
def eqD (a b : D) : Bool := PyData.eqv a.py b.py
def gEq (a b : D) : Option D := if shapedD a = true ∧ shapedD b = true then some (.bl (eqD a b)) else none
def gNe (a b : D) : Option D := if shapedD a = true ∧ shapedD b = true then some (.bl (!eqD a b)) else none
theorem ops_eq {M : KM} : OpS M (rEqD M.K) gEq := fun x y a b H Z m Q z R ra rb e k => by
  unfold gEq at e
  split at e
  · rename_i h
    cases e
    obtain ⟨h1, h2⟩ := h
    unfold shapedD at h1 h2
    rw [Bool.and_eq_true] at h1 h2
    exact ⟨_, _, Rd.dp (ra.full R) h1.1, Rd.dp (rb.full R) h2.1, h1.2, h2.2, k _ H Z (.refl _) R rd_bl⟩
  · cases e
theorem ops_ne {M : KM} : OpS M (rNeD M.K) gNe := fun x y a b H Z m Q z R ra rb e k => by
  unfold gNe at e
  split at e
  · rename_i h
    cases e
    obtain ⟨h1, h2⟩ := h
    unfold shapedD at h1 h2
    rw [Bool.and_eq_true] at h1 h2
    exact ⟨_, _, Rd.dp (ra.full R) h1.1, Rd.dp (rb.full R) h2.1, h1.2, h2.2, k _ H Z (.refl _) R rd_bl⟩
  · cases e

/-! ### is None, is True -/
def D.isNon : D → Bool
  | .non => true
  | _ => false
theorem Rd.non_iff {M : KM} {Z : Fz} {v : V} {d : D} (h : Rd M Z v d) : decide (v = .non) = d.isNon := by
  cases d <;> unfold Rd at h <;> first
    | (subst h; rfl)
    | (obtain ⟨_, _, h, _⟩ := h; subst h; rfl)
    | (obtain ⟨_, h, _⟩ := h; subst h; rfl)
    | (obtain ⟨_, _, _, _, h, _⟩ := h; subst h; rfl)
    | (obtain ⟨_, _, h⟩ := h; subst h; rfl)
def gIs : D → D → Option D
  | d, .non => some (.bl d.isNon)
  | .bl a, .bl b => some (.bl (decide (a = b)))
  | _, _ => none
def gIsNot : D → D → Option D
  | d, .non => some (.bl (!d.isNon))
  | .bl a, .bl b => some (.bl (!decide (a = b)))
  | _, _ => none
def rIsD : R2 := fun x y H Q => (y = .non ∧ Q (.bl (decide (x = .non))) H) ∨ rIsB x y H Q
def rIsNotD : R2 := fun x y H Q => (y = .non ∧ Q (.bl (!decide (x = .non))) H) ∨ rNotB x y H Q
theorem op_isD {X : Cx} : OpR X (compareOp .Is) rIsD := op_isN.or op_isBl
theorem op_isNotD {X : Cx} : OpR X (compareOp .IsNot) rIsNotD := op_notN.or op_notBl
/-- a slot's value as it stands (not read out) -/
def o2r (g : D → D → Option D) (a b : D) (m : DMem) : XO D :=
  match g a b with
  | some z => .ok z m
  | none => .bad
def OpW (M : KM) (r : R2) (g : D → D → Option D) : Prop := ∀ x y a b H Z m Q z, RelM M Z H m → Rd M Z x a → Rd M Z y b → g a b = some z →
  (∀ v H' Z', Ext Z Z' → RelM M Z' H' m → Rd M Z' v z → Q v H') → r x y H Q
def dOpw (g : D → D → Option D) (fa fb : DE) : DE := fun env m => (fa env m).bind fun a m1 => (fb env m1).bind fun b m2 => o2r g a b m2
theorem sn_opw {M : KM} {W : WXs} {ta tb : TE} {fa fb : DE} {r : R2} {g : D → D → Option D} (h : OpW M r g) (ha : SndE M W ta fa) (hb : SndE M W tb fb) : SndE M W (tOp r ta tb) (dOpw g fa fb) := fun σ H env m Z Q R E hp => by
  refine ha σ H env m Z _ R E (Post.bind hp fun a m1 x H1 Z1 _ e1 R1 rx hp1 => ?_)
  refine hb σ H1 env m1 Z1 _ R1 (E.mono e1) (Post.bind hp1 fun b m2 y H2 Z2 _ e2 R2' ry hp2 => ?_)
  unfold o2r at hp2
  split at hp2
  · rename_i z ez
    exact h x y a b H2 Z2 m2 Q z R2' (rx.mono e2) ry ez hp2
  · exact hp2.elim
theorem opw_is {M : KM} : OpW M rIsD gIs := fun x y a b H Z m Q z R ra rb e k => by
  unfold gIs at e
  split at e
  · cases e
    unfold Rd at rb
    refine .inl ⟨rb, ?_⟩
    rw [ra.non_iff]
    exact k _ H Z (.refl _) R rd_bl
  · cases e
    unfold Rd at ra rb
    exact .inr ⟨_, _, ra, rb, k _ H Z (.refl _) R rd_bl⟩
  · cases e
theorem opw_isNot {M : KM} : OpW M rIsNotD gIsNot := fun x y a b H Z m Q z R ra rb e k => by
  unfold gIsNot at e
  split at e
  · cases e
    unfold Rd at rb
    refine .inl ⟨rb, ?_⟩
    rw [ra.non_iff]
    exact k _ H Z (.refl _) R rd_bl
  · cases e
    unfold Rd at ra rb
    exact .inr ⟨_, _, ra, rb, k _ H Z (.refl _) R rd_bl⟩
  · cases e

/-! ### in, not in: flat values -/
def D.toV : D → Option V
  | .non => some .non
  | .bl b => some (.bl b)
  | .int i => some (.int i)
  | .str s => some (.str s)
  | _ => none
def toVs : List D → Option (List V)
  | [] => some []
  | d :: ds => match d.toV, toVs ds with
    | some v, some vs => some (v :: vs)
    | _, _ => none
theorem Rd.toV {M : KM} {Z : Fz} {v w : V} {d : D} (h : Rd M Z v d) (e : d.toV = some w) : v = w ∧ flatV v = true := by
  cases d <;> unfold D.toV at e <;> first
    | cases e; unfold Rd at h; subst h; exact ⟨rfl, rfl⟩
    | cases e
theorem RdL.toVs {M : KM} {Z : Fz} : ∀ {ds : List D} {vs ws : List V}, RdL M Z vs ds → toVs ds = some ws → vs = ws ∧ vs.all flatV = true
  | [], vs, ws, h, e => by
    unfold RdL at h
    unfold DX.toVs at e
    cases e
    subst h
    exact ⟨rfl, rfl⟩
  | d :: ds, vs, ws, h, e => by
    unfold RdL at h
    obtain ⟨x, xs, rfl, h1, h2⟩ := h
    unfold DX.toVs at e
    split at e
    · rename_i v us e1 e2
      cases e
      obtain ⟨rfl, f1⟩ := h1.toV e1
      obtain ⟨rfl, f2⟩ := RdL.toVs h2 e2
      refine ⟨rfl, ?_⟩
      rw [List.all_cons, f1, f2]
      rfl
    · cases e
def D.items : D → Option (List D)
  | .lst xs => some xs
  | .tup xs => some xs
  | _ => none
def gInB (x y : D) : Option Bool := match x.toV, y.items with
  | some v, some ds => match toVs ds with
    | some ws => some (inV v ws)
    | none => none
  | _, _ => none
def gIn (x y : D) : Option D := (gInB x y).map D.bl
def gNotIn (x y : D) : Option D := (gInB x y).map fun b => .bl (!b)
theorem RdQ.items {M : KM} {Z : Fz} {H : Hp} {v : V} {d : D} {ds : List D} (h : RdQ M Z H v d) (e : d.items = some ds) : ∃ a xs, v = .ref a ∧ (SqL M.K H a xs ∨ SqT M.K H a xs) ∧ RdL M Z xs ds := by
  cases d <;> unfold D.items at e <;> first
    | (cases e; obtain ⟨a, xs, e1, q, r⟩ := h; first | exact ⟨a, xs, e1, .inl q, r⟩ | exact ⟨a, xs, e1, .inr q, r⟩)
    | cases e
theorem toV_flat {M : KM} {Z : Fz} {H : Hp} {x : V} {a : D} {w : V} (ra : RdQ M Z H x a) (e : a.toV = some w) : x = w ∧ flatV x = true := by
  cases a <;> first
    | exact Rd.toV (M := M) (Z := Z) (show Rd M Z x _ from ra) e
    | cases e
theorem opq_in {M : KM} : OpQ M (rIn M.K false) gIn := fun x y a b H Z m Q z R ra rb e k => by
  unfold gIn gInB at e
  split at e
  · rename_i v ds e1 e2
    split at e
    · rename_i ws e3
      cases e
      obtain ⟨rfl, f1⟩ := toV_flat ra e1
      obtain ⟨p, xs, rfl, q, r⟩ := rb.items e2
      obtain ⟨rfl, f2⟩ := r.toVs e3
      exact ⟨p, xs, rfl, q, f1, f2, k _ H Z (.refl _) R rd_bl⟩
    · cases e
  · cases e
theorem opq_notIn {M : KM} : OpQ M (rIn M.K true) gNotIn := fun x y a b H Z m Q z R ra rb e k => by
  unfold gNotIn gInB at e
  split at e
  · rename_i v ds e1 e2
    split at e
    · rename_i ws e3
      cases e
      obtain ⟨rfl, f1⟩ := toV_flat ra e1
      obtain ⟨p, xs, rfl, q, r⟩ := rb.items e2
      obtain ⟨rfl, f2⟩ := r.toVs e3
      exact ⟨p, xs, rfl, q, f1, f2, k _ H Z (.refl _) R rd_bl⟩
    · cases e
  · cases e

/-! ### o[i] -/
def gIx : D → D → Option D
  | .lst ds, .int i => atI ds i
  | .tup ds, .int i => atI ds i
  | .str z, .int i => if z.length ≤ sizeLine then (atI z.cps.toList i).map fun c => .str ⟨#[c]⟩ else none
  | _, _ => none
theorem RdL.atI {M : KM} {Z : Fz} {ds : List D} {vs : List V} {i : Int} {d : D} (h : RdL M Z vs ds) (e : L2.atI ds i = some d) : ∃ v, L2.atI vs i = some v ∧ Rd M Z v d := by
  unfold L2.atI at e ⊢
  rw [h.length]
  cases q : ixN ds.length i with
  | none => rw [q] at e; cases e
  | some j =>
    rw [q] at e
    exact h.get (show ds[j]? = some d from e)
theorem opq_ix {M : KM} : OpQ M (rIx M.K) gIx := fun x y a b H Z m Q z R ra rb e k => by
  unfold gIx at e
  split at e
  · rename_i ds i
    have rb : Rd M Z y (.int i) := rb
    unfold Rd at rb
    obtain ⟨p, xs, rfl, q, r⟩ := ra
    obtain ⟨v, e1, r1⟩ := r.atI e
    exact .inl ⟨p, xs, i, v, rfl, rb, q, e1, k _ H Z (.refl _) R r1⟩
  · rename_i ds i
    have rb : Rd M Z y (.int i) := rb
    unfold Rd at rb
    obtain ⟨p, xs, rfl, q, r⟩ := ra
    obtain ⟨v, e1, r1⟩ := r.atI e
    exact .inr (.inl ⟨p, xs, i, v, rfl, rb, q, e1, k _ H Z (.refl _) R r1⟩)
  · rename_i s i
    split at e
    · rename_i hl
      obtain ⟨c, e1, rfl⟩ := Option.map_eq_some_iff.mp e
      have ra : Rd M Z x (.str s) := ra
      have rb : Rd M Z y (.int i) := rb
      unfold Rd at ra rb
      exact .inr (.inr ⟨s, i, c, ra, rb, hl, e1, k _ H Z (.refl _) R rd_str⟩)
    · cases e
  · cases e

/-! ### the rules -/
section
variable {X : Cx} {W : WXs} {a b : Expr} {ta tb : TE} {fa fb : DE} {pos : Pos}
theorem pd_add (ha : PD X W a ta fa) (hb : PD X W b tb fb) : PD X W (.BinOp a .Add b pos) (tOp (rAddD X.K) ta tb) (dOp gAdd fa fb) := ⟨pe_op op_addD ha.pe hb.pe, sn_op ops_add ha.sn hb.sn⟩
theorem pd_sub (ha : PD X W a ta fa) (hb : PD X W b tb fb) : PD X W (.BinOp a .Sub b pos) (tOp (rI0 fun i j => .int (i - j)) ta tb) (dOp gSub fa fb) := ⟨pe_op op_sub ha.pe hb.pe, sn_op ops_sub ha.sn hb.sn⟩
theorem pd_mul (ha : PD X W a ta fa) (hb : PD X W b tb fb) : PD X W (.BinOp a .Mult b pos) (tOp rMulD ta tb) (dOp gMul fa fb) := ⟨pe_op op_mulD ha.pe hb.pe, sn_op ops_mul ha.sn hb.sn⟩
theorem pd_mod (ha : PD X W a ta fa) (hb : PD X W b tb fb) : PD X W (.BinOp a .Mod b pos) (tOp (rI (fun _ j => j ≠ 0) fun i j => .int (i.fmod j)) ta tb) (dOp gMod fa fb) := ⟨pe_op op_modN ha.pe hb.pe, sn_op ops_mod ha.sn hb.sn⟩
theorem pd_fdv (ha : PD X W a ta fa) (hb : PD X W b tb fb) : PD X W (.BinOp a .FloorDiv b pos) (tOp (rI CFdv fun i j => .int (i.fdiv j)) ta tb) (dOp gFdv fa fb) := ⟨pe_op op_fdv ha.pe hb.pe, sn_op ops_fdv ha.sn hb.sn⟩
theorem pd_pow (ha : PD X W a ta fa) (hb : PD X W b tb fb) : PD X W (.BinOp a .Pow b pos) (tOp (rI CPw fun i j => .int (i ^ j.toNat)) ta tb) (dOp gPow fa fb) := ⟨pe_op op_pw ha.pe hb.pe, sn_op ops_pow ha.sn hb.sn⟩
theorem pd_lt (ha : PD X W a ta fa) (hb : PD X W b tb fb) : PD X W (.Compare a [.Lt] [b] pos) (tOp (rI0 fun i j => .bl (decide (i < j))) ta tb) (dOp gLt fa fb) := ⟨pe_cmpR op_lt ha.pe hb.pe (nomark _), sn_op ops_lt ha.sn hb.sn⟩
theorem pd_le (ha : PD X W a ta fa) (hb : PD X W b tb fb) : PD X W (.Compare a [.LtE] [b] pos) (tOp (rI0 fun i j => .bl (decide (i ≤ j))) ta tb) (dOp gLe fa fb) := ⟨pe_cmpR op_le ha.pe hb.pe (nomark _), sn_op ops_le ha.sn hb.sn⟩
theorem pd_gt (ha : PD X W a ta fa) (hb : PD X W b tb fb) : PD X W (.Compare a [.Gt] [b] pos) (tOp (rI0 fun i j => .bl (decide (j < i))) ta tb) (dOp gGt fa fb) := ⟨pe_cmpR op_gt ha.pe hb.pe (nomark _), sn_op ops_gt ha.sn hb.sn⟩
theorem pd_ge (ha : PD X W a ta fa) (hb : PD X W b tb fb) : PD X W (.Compare a [.GtE] [b] pos) (tOp (rI0 fun i j => .bl (decide (j ≤ i))) ta tb) (dOp gGe fa fb) := ⟨pe_cmpR op_ge ha.pe hb.pe (nomark _), sn_op ops_ge ha.sn hb.sn⟩
theorem pd_eq (hu : X.A.units + 64 < cLine) (ha : PD X W a ta fa) (hb : PD X W b tb fb) : PD X W (.Compare a [.Eq] [b] pos) (tOp (rEqD X.K) ta tb) (dOp gEq fa fb) := ⟨pe_cmpR (op_eqD hu) ha.pe hb.pe (nomark _), sn_op ops_eq ha.sn hb.sn⟩
theorem pd_ne (hu : X.A.units + 64 < cLine) (ha : PD X W a ta fa) (hb : PD X W b tb fb) : PD X W (.Compare a [.NotEq] [b] pos) (tOp (rNeD X.K) ta tb) (dOp gNe fa fb) := ⟨pe_cmpR (op_neD hu) ha.pe hb.pe (nomark _), sn_op ops_ne ha.sn hb.sn⟩
theorem pd_is (ha : PD X W a ta fa) (hb : PD X W b tb fb) : PD X W (.Compare a [.Is] [b] pos) (tOp rIsD ta tb) (dOpw gIs fa fb) := ⟨pe_cmpR op_isD ha.pe hb.pe (nomark _), sn_opw opw_is ha.sn hb.sn⟩
theorem pd_isNot (ha : PD X W a ta fa) (hb : PD X W b tb fb) : PD X W (.Compare a [.IsNot] [b] pos) (tOp rIsNotD ta tb) (dOpw gIsNot fa fb) := ⟨pe_cmpR op_isNotD ha.pe hb.pe (nomark _), sn_opw opw_isNot ha.sn hb.sn⟩
theorem pd_in (ha : PD X W a ta fa) (hb : PD X W b tb fb) (hm : behindInMarks .In b = false := by rfl) : PD X W (.Compare a [.In] [b] pos) (tOp (rIn X.K false) ta tb) (dOpq gIn fa fb) := ⟨pe_cmpR op_in_seq ha.pe hb.pe hm, sn_opq opq_in ha.sn hb.sn⟩
theorem pd_notIn (ha : PD X W a ta fa) (hb : PD X W b tb fb) (hm : behindInMarks .NotIn b = false := by rfl) : PD X W (.Compare a [.NotIn] [b] pos) (tOp (rIn X.K true) ta tb) (dOpq gNotIn fa fb) := ⟨pe_cmpR op_notIn_seq ha.pe hb.pe hm, sn_opq opq_notIn ha.sn hb.sn⟩
theorem pd_ix (ha : PD X W a ta fa) (hb : PD X W b tb fb) (hs : PlainIx b := by exact fun _ _ => rfl) : PD X W (.Subscript a b pos) (tOp (rIx X.K) ta tb) (dOpq gIx fa fb) := ⟨pe_ix ix_seq ha.pe hb.pe hs, sn_opq opq_ix ha.sn hb.sn⟩

/-! ### -a -/
def gNeg : D → Option D
  | .int i => some (.int (-i))
  | _ => none
def dUn (g : D → Option D) (fa : DE) : DE := fun env m => (fa env m).bind fun a m1 => match rq a m1 with
  | some x => match g x with
    | some z => .ok z m1
    | none => .bad
  | none => .bad
theorem pd_neg (ha : PD X W a ta fa) : PD X W (.UnaryOp .USub a pos) (tUn (rU fun i => .int (-i)) ta) (dUn gNeg fa) := ⟨pe_un un_neg ha.pe, fun σ H env m Z Q R E hp => by
  refine ha.sn σ H env m Z _ R E (Post.bind hp fun a m1 x H1 Z1 _ e1 R1 rx hp1 => ?_)
  split at hp1
  · rename_i d ed
    split at hp1
    · rename_i z ez
      have rd := rq_rd R1 rx ed
      unfold gNeg at ez
      split at ez
      · rename_i i
        cases ez
        have rd : Rd (Cx.km X) Z1 x (.int i) := rd
        unfold Rd at rd
        exact ⟨i, rd, Post.here R1 rd_int hp1⟩
      · cases ez
    · exact hp1.elim
  · exact hp1.elim⟩

/-! ### truth, and, or, not, if .. else -/
def truD : D → Option Bool
  | .non => some false
  | .bl b => some b
  | .int i => some (i != 0)
  | .str y => if y.length ≤ sizeLine then some ((y.length : Int) != 0) else none
  | .lst xs => some (!xs.isEmpty)
  | .tup xs => some (!xs.isEmpty)
  | _ => none
theorem RdL.isEmpty {M : KM} {Z : Fz} {vs : List V} {ds : List D} (h : RdL M Z vs ds) : vs.isEmpty = ds.isEmpty := by
  have := h.length
  cases vs <;> cases ds <;> first | rfl | cases this
theorem tru_rd {M : KM} {Z : Fz} {H : Hp} {x : V} {d : D} {k : Bool} (h : RdQ M Z H x d) (e : truD d = some k) : TruV M.K x H k := by
  unfold truD at e
  split at e
  · cases e
    have h : Rd M Z x .non := h
    unfold Rd at h
    subst h
    exact rfl
  · cases e
    have h : Rd M Z x (.bl _) := h
    unfold Rd at h
    subst h
    exact rfl
  · cases e
    have h : Rd M Z x (.int _) := h
    unfold Rd at h
    subst h
    exact rfl
  · split at e
    · rename_i hl
      cases e
      have h : Rd M Z x (.str _) := h
      unfold Rd at h
      subst h
      exact ⟨hl, rfl⟩
    · cases e
  · cases e
    obtain ⟨a, xs, rfl, q, r⟩ := h
    exact .inl ⟨xs, q, by rw [r.isEmpty]⟩
  · cases e
    obtain ⟨a, xs, rfl, q, r⟩ := h
    exact .inr (.inl ⟨xs, q, by rw [r.isEmpty]⟩)
  · cases e
def tru (d : D) (m : DMem) : Option Bool := (rq d m).bind truD
theorem tru_of {M : KM} {Z : Fz} {H : Hp} {m : DMem} {x : V} {d : D} {k : Bool} (R : RelM M Z H m) (h : Rd M Z x d) (e : tru d m = some k) : TruV M.K x H k := by
  unfold tru at e
  cases q : rq d m with
  | none => rw [q] at e; cases e
  | some y =>
    rw [q] at e
    exact tru_rd (rq_rd R h q) e
def dTest (fa : DE) : DT := fun env m => (fa env m).bind fun a m1 => match tru a m1 with
  | some k => .ok k m1
  | none => .bad
def tTru (K : PySem.W.Frag) (ta : TE) : TT := fun σ H Q => ta σ H fun x H1 => ∃ k, TruV K x H1 k ∧ Q k H1
theorem ptd_of (ha : PD X W a ta fa) (he : ∀ whole, isTrue a X.env whole = (do let v ← whole; standAt a.pos; holding [v] (truthy v)) := by intro _; rfl) : PTD X W a (fun σ H Q => ta σ H fun x H1 => ∃ k, TruV X.K x H1 k ∧ Q k H1) (dTest fa) :=
  ⟨pt_truth ha.pe he, fun σ H env m Z Q R E hp => by
    refine ha.sn σ H env m Z _ R E (Post.bind hp fun a m1 x H1 Z1 _ e1 R1 rx hp1 => ?_)
    split at hp1
    · rename_i k ek
      exact ⟨k, tru_of R1 rx ek, Post.here R1 rfl hp1⟩
    · exact hp1.elim⟩
/-- a comparison as a test -/
theorem ptd_cmp {op : CmpOp} {r : R2} {f : DE} (ho : OpR X (compareOp op) r) (hm : behindInMarks op b = false) (ha : PE X a ta) (hb : PE X b tb) (hs : SndE (Cx.km X) W (tOp r ta tb) f)
    (hbl : ∀ env m d m', f env m = .ok d m' → ∃ k, d = .bl k) : PTD X W (.Compare a [op] [b] pos) (tTest (tOp r ta tb)) (dTest f) :=
  ⟨pt_cmpR ho ha hb hm, fun σ H env m Z Q R E hp => by
    refine hs σ H env m Z _ R E (Post.bind hp fun a m1 x H1 Z1 ea e1 R1 rx hp1 => ?_)
    obtain ⟨k, rfl⟩ := hbl _ _ _ _ ea
    unfold Rd at rx
    refine ⟨k, rx, ?_⟩
    exact Post.here R1 rfl (show Post _ _ _ _ _ (.ok k m1) Q from hp1)⟩
end
end DX
end

section
set_option Elab.async false
set_option linter.all false
set_option maxRecDepth 100000
set_option maxHeartbeats 2000000
/-! DX4: tests, displays, slices, built-in calls. -/
namespace DX
open PySem PySem.Spec L2

/-! ### tests -/
theorem isbl_gI {f : Int → Int → Bool} {a b z : D} (e : gI (fun i j => some (.bl (f i j))) a b = some z) : ∃ k, z = .bl k := by
  unfold gI at e
  split at e
  · cases e; exact ⟨_, rfl⟩
  · cases e
def IsBl (g : D → D → Option D) : Prop := ∀ a b z, g a b = some z → ∃ k, z = .bl k
theorem isbl_lt : IsBl gLt := fun _ _ _ e => isbl_gI e
theorem isbl_le : IsBl gLe := fun _ _ _ e => isbl_gI e
theorem isbl_gt : IsBl gGt := fun _ _ _ e => isbl_gI e
theorem isbl_ge : IsBl gGe := fun _ _ _ e => isbl_gI e
theorem isbl_eq : IsBl gEq := fun a b z e => by
  unfold gEq at e
  split at e
  · cases e; exact ⟨_, rfl⟩
  · cases e
theorem isbl_ne : IsBl gNe := fun a b z e => by
  unfold gNe at e
  split at e
  · cases e; exact ⟨_, rfl⟩
  · cases e
theorem isbl_is : IsBl gIs := fun a b z e => by
  unfold gIs at e
  split at e <;> first | (cases e; exact ⟨_, rfl⟩) | cases e
theorem isbl_isNot : IsBl gIsNot := fun a b z e => by
  unfold gIsNot at e
  split at e <;> first | (cases e; exact ⟨_, rfl⟩) | cases e
theorem isbl_in : IsBl gIn := fun a b z e => by
  obtain ⟨k, _, rfl⟩ := Option.map_eq_some_iff.mp e
  exact ⟨k, rfl⟩
theorem isbl_notIn : IsBl gNotIn := fun a b z e => by
  obtain ⟨k, _, rfl⟩ := Option.map_eq_some_iff.mp e
  exact ⟨_, rfl⟩
theorem bind_ok {α β : Type} {r : XO α} {k : α → DMem → XO β} {b : β} {m : DMem} (h : r.bind k = .ok b m) : ∃ a m1, r = .ok a m1 ∧ k a m1 = .ok b m := by
  cases r with
  | ok a m1 => exact ⟨a, m1, rfl, h⟩
  | ex c d m1 => cases h
  | bad => cases h
theorem dOp_bl {g : D → D → Option D} (hg : IsBl g) {fa fb : DE} {env : DEnv} {m m' : DMem} {d : D} (h : dOp g fa fb env m = .ok d m') : ∃ k, d = .bl k := by
  obtain ⟨a, m1, _, h⟩ := bind_ok h
  obtain ⟨b, m2, _, h⟩ := bind_ok h
  unfold o2 at h
  split at h
  · split at h
    · rename_i z ez
      cases h
      exact hg _ _ _ ez
    · cases h
  · cases h
theorem dOpq_bl {g : D → D → Option D} (hg : IsBl g) {fa fb : DE} {env : DEnv} {m m' : DMem} {d : D} (h : dOpq g fa fb env m = .ok d m') : ∃ k, d = .bl k := by
  obtain ⟨a, m1, _, h⟩ := bind_ok h
  obtain ⟨b, m2, _, h⟩ := bind_ok h
  unfold o2q at h
  split at h
  · split at h
    · rename_i z ez
      cases h
      exact hg _ _ _ ez
    · cases h
  · cases h
theorem dOpw_bl {g : D → D → Option D} (hg : IsBl g) {fa fb : DE} {env : DEnv} {m m' : DMem} {d : D} (h : dOpw g fa fb env m = .ok d m') : ∃ k, d = .bl k := by
  obtain ⟨a, m1, _, h⟩ := bind_ok h
  obtain ⟨b, m2, _, h⟩ := bind_ok h
  unfold o2r at h
  split at h
  · rename_i z ez
    cases h
    exact hg _ _ _ ez
  · cases h
section
variable {X : Cx} {W : WXs} {a b : Expr} {ta tb : TE} {fa fb : DE} {pos : Pos}
theorem ptd_lt (ha : PD X W a ta fa) (hb : PD X W b tb fb) : PTD X W (.Compare a [.Lt] [b] pos) (tTest (tOp (rI0 fun i j => .bl (decide (i < j))) ta tb)) (dTest (dOp gLt fa fb)) := ptd_cmp op_lt (nomark _) ha.pe hb.pe (sn_op ops_lt ha.sn hb.sn) fun _ _ _ _ => dOp_bl isbl_lt
theorem ptd_le (ha : PD X W a ta fa) (hb : PD X W b tb fb) : PTD X W (.Compare a [.LtE] [b] pos) (tTest (tOp (rI0 fun i j => .bl (decide (i ≤ j))) ta tb)) (dTest (dOp gLe fa fb)) := ptd_cmp op_le (nomark _) ha.pe hb.pe (sn_op ops_le ha.sn hb.sn) fun _ _ _ _ => dOp_bl isbl_le
theorem ptd_gt (ha : PD X W a ta fa) (hb : PD X W b tb fb) : PTD X W (.Compare a [.Gt] [b] pos) (tTest (tOp (rI0 fun i j => .bl (decide (j < i))) ta tb)) (dTest (dOp gGt fa fb)) := ptd_cmp op_gt (nomark _) ha.pe hb.pe (sn_op ops_gt ha.sn hb.sn) fun _ _ _ _ => dOp_bl isbl_gt
theorem ptd_ge (ha : PD X W a ta fa) (hb : PD X W b tb fb) : PTD X W (.Compare a [.GtE] [b] pos) (tTest (tOp (rI0 fun i j => .bl (decide (j ≤ i))) ta tb)) (dTest (dOp gGe fa fb)) := ptd_cmp op_ge (nomark _) ha.pe hb.pe (sn_op ops_ge ha.sn hb.sn) fun _ _ _ _ => dOp_bl isbl_ge
theorem ptd_eq (hu : X.A.units + 64 < cLine) (ha : PD X W a ta fa) (hb : PD X W b tb fb) : PTD X W (.Compare a [.Eq] [b] pos) (tTest (tOp (rEqD X.K) ta tb)) (dTest (dOp gEq fa fb)) := ptd_cmp (op_eqD hu) (nomark _) ha.pe hb.pe (sn_op ops_eq ha.sn hb.sn) fun _ _ _ _ => dOp_bl isbl_eq
theorem ptd_ne (hu : X.A.units + 64 < cLine) (ha : PD X W a ta fa) (hb : PD X W b tb fb) : PTD X W (.Compare a [.NotEq] [b] pos) (tTest (tOp (rNeD X.K) ta tb)) (dTest (dOp gNe fa fb)) := ptd_cmp (op_neD hu) (nomark _) ha.pe hb.pe (sn_op ops_ne ha.sn hb.sn) fun _ _ _ _ => dOp_bl isbl_ne
theorem ptd_is (ha : PD X W a ta fa) (hb : PD X W b tb fb) : PTD X W (.Compare a [.Is] [b] pos) (tTest (tOp rIsD ta tb)) (dTest (dOpw gIs fa fb)) := ptd_cmp op_isD (nomark _) ha.pe hb.pe (sn_opw opw_is ha.sn hb.sn) fun _ _ _ _ => dOpw_bl isbl_is
theorem ptd_isNot (ha : PD X W a ta fa) (hb : PD X W b tb fb) : PTD X W (.Compare a [.IsNot] [b] pos) (tTest (tOp rIsNotD ta tb)) (dTest (dOpw gIsNot fa fb)) := ptd_cmp op_isNotD (nomark _) ha.pe hb.pe (sn_opw opw_isNot ha.sn hb.sn) fun _ _ _ _ => dOpw_bl isbl_isNot
theorem ptd_in (ha : PD X W a ta fa) (hb : PD X W b tb fb) (hm : behindInMarks .In b = false := by rfl) : PTD X W (.Compare a [.In] [b] pos) (tTest (tOp (rIn X.K false) ta tb)) (dTest (dOpq gIn fa fb)) := ptd_cmp op_in_seq hm ha.pe hb.pe (sn_opq opq_in ha.sn hb.sn) fun _ _ _ _ => dOpq_bl isbl_in
theorem ptd_notIn (ha : PD X W a ta fa) (hb : PD X W b tb fb) (hm : behindInMarks .NotIn b = false := by rfl) : PTD X W (.Compare a [.NotIn] [b] pos) (tTest (tOp (rIn X.K true) ta tb)) (dTest (dOpq gNotIn fa fb)) := ptd_cmp op_notIn_seq hm ha.pe hb.pe (sn_opq opq_notIn ha.sn hb.sn) fun _ _ _ _ => dOpq_bl isbl_notIn

def dAnd (f g : DT) : DT := fun env m => (f env m).bind fun k m1 => if k = true then g env m1 else .ok false m1
def dOr (f g : DT) : DT := fun env m => (f env m).bind fun k m1 => if k = true then .ok true m1 else g env m1
def dNot (f : DT) : DT := fun env m => (f env m).bind fun k m1 => .ok (!k) m1
variable {tA tB : TT} {fA fB : DT} {rest : List Expr}
theorem pwd_and1 (ha : PTD X W a tA fA) : PWD X W (.BoolOp .And [a] pos) tA fA := ⟨pw_and1 ha.pt, ha.sn⟩
theorem pwd_or1 (ha : PTD X W a tA fA) : PWD X W (.BoolOp .Or [a] pos) tA fA := ⟨pw_or1 ha.pt, ha.sn⟩
theorem pwd_and (ha : PTD X W a tA fA) (hb : PWD X W (.BoolOp .And (b :: rest) pos) tB fB) : PWD X W (.BoolOp .And (a :: b :: rest) pos) (tAnd tA tB) (dAnd fA fB) := ⟨pw_and ha.pt hb.pw, fun σ H env m Z Q R E hp => by
  refine ha.sn σ H env m Z _ R E (Post.bind hp fun k m1 x H1 Z1 _ e1 R1 rx hp1 => ?_)
  subst rx
  cases x with
  | true => rw [if_pos rfl] at hp1 ⊢; exact hb.sn σ H1 env m1 Z1 Q R1 (E.mono e1) hp1
  | false => rw [if_neg Bool.false_ne_true] at hp1 ⊢; exact Post.here R1 rfl hp1⟩
theorem pwd_or (ha : PTD X W a tA fA) (hb : PWD X W (.BoolOp .Or (b :: rest) pos) tB fB) : PWD X W (.BoolOp .Or (a :: b :: rest) pos) (tOr tA tB) (dOr fA fB) := ⟨pw_or ha.pt hb.pw, fun σ H env m Z Q R E hp => by
  refine ha.sn σ H env m Z _ R E (Post.bind hp fun k m1 x H1 Z1 _ e1 R1 rx hp1 => ?_)
  subst rx
  cases x with
  | true => rw [if_pos rfl] at hp1 ⊢; exact Post.here R1 rfl hp1
  | false => rw [if_neg Bool.false_ne_true] at hp1 ⊢; exact hb.sn σ H1 env m1 Z1 Q R1 (E.mono e1) hp1⟩
theorem PWD.ptd {e : Expr} (h : PWD X W e tA fA) : PTD X W e tA fA := ⟨h.pw.pt, h.sn⟩
theorem ptd_not (ha : PTD X W a tA fA) : PTD X W (.UnaryOp .Not a pos) (tNot tA) (dNot fA) := ⟨pt_not ha.pt, fun σ H env m Z Q R E hp => by
  refine ha.sn σ H env m Z _ R E (Post.bind hp fun k m1 x H1 Z1 _ e1 R1 rx hp1 => ?_)
  subst rx
  exact Post.here R1 rfl hp1⟩
/-! ### and, or, not as values -/
def dAndV (f g : DE) : DE := fun env m => (f env m).bind fun a m1 => match tru a m1 with
  | some k => if k = true then g env m1 else .ok a m1
  | none => .bad
def dOrV (f g : DE) : DE := fun env m => (f env m).bind fun a m1 => match tru a m1 with
  | some k => if k = true then .ok a m1 else g env m1
  | none => .bad
def dNotV (f : DE) : DE := fun env m => (f env m).bind fun a m1 => match tru a m1 with
  | some k => .ok (.bl (!k)) m1
  | none => .bad
theorem pd_one {op} (h : PD X W a ta fa) : PD X W (.BoolOp op [a] pos) ta fa := ⟨pe_one h.pe, h.sn⟩
theorem pd_and (ha : PD X W a ta fa) (hb : PD X W (.BoolOp .And (b :: rest) pos) tb fb) : PD X W (.BoolOp .And (a :: b :: rest) pos) (tAndT X.K ta tb) (dAndV fa fb) := ⟨pe_andT ha.pe hb.pe, fun σ H env m Z Q R E hp => by
  refine ha.sn σ H env m Z _ R E (Post.bind hp fun d m1 x H1 Z1 _ e1 R1 rx hp1 => ?_)
  split at hp1
  · rename_i k ek
    refine ⟨k, tru_of R1 rx ek, ?_⟩
    cases k with
    | true => rw [if_pos rfl] at hp1 ⊢; exact hb.sn σ H1 env m1 Z1 Q R1 (E.mono e1) hp1
    | false => rw [if_neg Bool.false_ne_true] at hp1 ⊢; exact Post.here R1 rx hp1
  · exact hp1.elim⟩
theorem pd_or (ha : PD X W a ta fa) (hb : PD X W (.BoolOp .Or (b :: rest) pos) tb fb) : PD X W (.BoolOp .Or (a :: b :: rest) pos) (tOrT X.K ta tb) (dOrV fa fb) := ⟨pe_orT ha.pe hb.pe, fun σ H env m Z Q R E hp => by
  refine ha.sn σ H env m Z _ R E (Post.bind hp fun d m1 x H1 Z1 _ e1 R1 rx hp1 => ?_)
  split at hp1
  · rename_i k ek
    refine ⟨k, tru_of R1 rx ek, ?_⟩
    cases k with
    | true => rw [if_pos rfl] at hp1 ⊢; exact Post.here R1 rx hp1
    | false => rw [if_neg Bool.false_ne_true] at hp1 ⊢; exact hb.sn σ H1 env m1 Z1 Q R1 (E.mono e1) hp1
  · exact hp1.elim⟩
theorem pd_not (ha : PD X W a ta fa) : PD X W (.UnaryOp .Not a pos) (tNotT X.K ta) (dNotV fa) := ⟨pe_notT ha.pe, fun σ H env m Z Q R E hp => by
  refine ha.sn σ H env m Z _ R E (Post.bind hp fun d m1 x H1 Z1 _ e1 R1 rx hp1 => ?_)
  split at hp1
  · rename_i k ek
    exact ⟨k, tru_of R1 rx ek, Post.here R1 rd_bl hp1⟩
  · exact hp1.elim⟩
def dIf (c : DT) (f g : DE) : DE := fun env m => (c env m).bind fun k m1 => if k = true then f env m1 else g env m1
theorem pd_if {c : Expr} {tc : TT} {fc : DT} (hc : PTD X W c tc fc) (ha : PD X W a ta fa) (hb : PD X W b tb fb) : PD X W (.IfExp c a b pos) (tIf tc ta tb) (dIf fc fa fb) := ⟨pe_ifExp hc.pt ha.pe hb.pe, fun σ H env m Z Q R E hp => by
  refine hc.sn σ H env m Z _ R E (Post.bind hp fun k m1 x H1 Z1 _ e1 R1 rx hp1 => ?_)
  subst rx
  cases x with
  | true => rw [if_pos rfl] at hp1 ⊢; exact ha.sn σ H1 env m1 Z1 Q R1 (E.mono e1) hp1
  | false => rw [if_neg Bool.false_ne_true] at hp1 ⊢; exact hb.sn σ H1 env m1 Z1 Q R1 (E.mono e1) hp1⟩
end

/-! ### argument lists, displays -/
def dNil : DA := fun _ m => .ok [] m
def dCons (f : DE) (g : DA) : DA := fun env m => (f env m).bind fun a m1 => (g env m1).bind fun as m2 => .ok (a :: as) m2
def dTup (f : DA) : DE := fun env m => (f env m).bind fun as m1 => if as.length ≤ sizeLine then .ok (.tup as) m1 else .bad
def dLst (f : DA) : DE := fun env m => (f env m).bind fun as m1 => if as.length ≤ sizeLine then .ok (.lst as) m1 else .bad
/-- a new list that will still change -/
def dCell (f : DA) : DE := fun env m => (f env m).bind fun as m1 => if as.length ≤ sizeLine ∧ D.noMrs as = true then .ok (.mr m1.length) (m1 ++ [some as]) else .bad
section
variable {X : Cx} {W : WXs} {e : Expr} {es : List Expr} {te : TE} {t : TA} {fe : DE} {f : DA} {pos : Pos}
theorem pad_nil : PAD X W [] tNil dNil := ⟨pa_nil, fun σ H env m Z Q R E hp => Post.here R .nil hp⟩
theorem pad_cons (he : PD X W e te fe) (hs : PAD X W es t f) (hst : starEach (e :: es) X.env = (false, eval e X.env) :: starEach es X.env := by rfl) : PAD X W (e :: es) (tCons te t) (dCons fe f) := ⟨pa_cons he.pe hs.pa hst, fun σ H env m Z Q R E hp => by
  refine he.sn σ H env m Z _ R E (Post.bind hp fun a m1 x H1 Z1 _ e1 R1 rx hp1 => ?_)
  refine hs.sn σ H1 env m1 Z1 _ R1 (E.mono e1) (Post.bind hp1 fun as m2 xs H2 Z2 _ e2 R2 rxs hp2 => ?_)
  exact Post.here R2 (.cons (rx.mono e2) rxs) hp2⟩
theorem pd_tup {x1} (h : PAD X W es t f) : PD X W (.Tuple es x1 pos) (tTup t) (dTup f) := ⟨pe_tup h.pa, fun σ H env m Z Q R E hp => by
  refine h.sn σ H env m Z _ R E (Post.bind hp fun as m1 xs H1 Z1 _ e1 R1 rx hp1 => ?_)
  split at hp1
  · rename_i hl
    refine ⟨by rw [rx.length]; exact hl, fun p hp => hp1 _ _ _ (R1.ext hp) (R1.alloc hp) ?_⟩
    unfold Rd
    exact ⟨p, xs, rfl, .inl (.inl upd_same), RdL.mono (R1.ext hp) rx⟩
  · exact hp1.elim⟩
theorem pd_lst (h : PAD X W es t f) : PD X W (.List es pos) (tLst t) (dLst f) := ⟨pe_lst h.pa, fun σ H env m Z Q R E hp => by
  refine h.sn σ H env m Z _ R E (Post.bind hp fun as m1 xs H1 Z1 _ e1 R1 rx hp1 => ?_)
  split at hp1
  · rename_i hl
    refine ⟨by rw [rx.length]; exact hl, fun p hp => hp1 _ _ _ (R1.ext hp) (R1.alloc hp) ?_⟩
    unfold Rd
    exact ⟨p, xs, rfl, upd_same, RdL.mono (R1.ext hp) rx⟩
  · exact hp1.elim⟩
theorem rd_cell {M : KM} {Z : Fz} {H : Hp} {m : DMem} {p : Addr} (R : RelM M Z H m) : Rd M (Z.cell p) (.ref p) (.mr m.length) := by
  unfold Rd
  refine ⟨p, ?_, rfl⟩
  show (Z.ρ ++ [p])[m.length]? = some p
  rw [← R.len]
  simp
theorem pd_cell (h : PAD X W es t f) : PD X W (.List es pos) (tLst t) (dCell f) := ⟨pe_lst h.pa, fun σ H env m Z Q R E hp => by
  refine h.sn σ H env m Z _ R E (Post.bind hp fun as m1 xs H1 Z1 _ e1 R1 rx hp1 => ?_)
  split at hp1
  · rename_i hl
    exact ⟨by rw [rx.length]; exact hl.1, fun p hp => hp1 _ _ _ (Z1.ext_cell p) (R1.new hp rx hl.2) (rd_cell R1)⟩
  · exact hp1.elim⟩
end

/-! ### slices -/
abbrev DO := DEnv → DMem → XO (Option Int)
def SndO (M : KM) (W : WXs) (t : TO) (f : DO) : Prop := ∀ σ H env m Z Q, RelM M Z H m → RelE M Z σ env → Post M W σ Z (fun _ b a => b = a) (f env m) Q → t σ H Q
structure POD (X : Cx) (W : WXs) (e : Option Expr) (t : TO) (f : DO) : Prop where
  po : PO X e t
  sn : SndO (Cx.km X) W t f
def dNoPart : DO := fun _ m => .ok none m
def dPart (f : DE) : DO := fun env m => (f env m).bind fun a m1 => match a with
  | .int i => .ok (some i) m1
  | _ => .bad
/-- a part of a list; cell: the new list will still change -/
def gSl : D → Option Int → Option Int → Option D
  | .lst xs, lo, hi => some (.lst ((xs.drop (HT.sIx xs.length 0 lo)).take (HT.sIx xs.length xs.length hi - HT.sIx xs.length 0 lo)))
  | .str z, lo, hi => if z.length ≤ sizeLine then some (.str (cutS z lo hi)) else none
  | .tup xs, lo, hi => if HT.sIx xs.length 0 lo = 0 ∧ HT.sIx xs.length xs.length hi = xs.length then none else some (.tup ((xs.drop (HT.sIx xs.length 0 lo)).take (HT.sIx xs.length xs.length hi - HT.sIx xs.length 0 lo)))
  | _, _, _ => none
def dSl (fe : DE) (fl fh : DO) : DE := fun env m => (fe env m).bind fun a m1 => (fl env m1).bind fun l m2 => (fh env m2).bind fun h m3 => match rq a m3 with
  | some x => match gSl x l h with
    | some z => .ok z m3
    | none => .bad
  | none => .bad
def dSlC (fe : DE) (fl fh : DO) : DE := fun env m => (fe env m).bind fun a m1 => (fl env m1).bind fun l m2 => (fh env m2).bind fun h m3 => match rq a m3 with
  | some (.lst xs) => if D.noMrs ((xs.drop (HT.sIx xs.length 0 l)).take (HT.sIx xs.length xs.length h - HT.sIx xs.length 0 l)) = true then
      .ok (.mr m3.length) (m3 ++ [some ((xs.drop (HT.sIx xs.length 0 l)).take (HT.sIx xs.length xs.length h - HT.sIx xs.length 0 l))]) else .bad
  | _ => .bad
def rSlD (K : PySem.W.Frag) : V → Option Int → Option Int → Hp → VK → Prop := fun x lo hi H Q => rSlL K x lo hi H Q ∨ rSlS x lo hi H Q ∨ rSlT K x lo hi H Q
section
variable {X : Cx} {W : WXs} {e : Expr} {te : TE} {fe : DE} {lo hi : Option Expr} {tl th : TO} {fl fh : DO} {pos p2 : Pos}
theorem pod_none : POD X W none tNoPart dNoPart := ⟨po_none, fun σ H env m Z Q R E hp => Post.here R rfl hp⟩
theorem pod_some (h : PD X W e te fe) : POD X W (some e) (tPart te) (dPart fe) := ⟨po_some h.pe, fun σ H env m Z Q R E hp => by
  refine h.sn σ H env m Z _ R E (Post.bind hp fun a m1 x H1 Z1 _ e1 R1 rx hp1 => ?_)
  split at hp1
  · unfold Rd at rx
    exact ⟨_, rx, Post.here R1 rfl hp1⟩
  · exact hp1.elim⟩
theorem sl_D : SlR X (rSlD X.K) := sl_list.or (sl_str.or sl_tup)
theorem RdL.cut {M : KM} {Z : Fz} {ds : List D} {vs : List V} (h : RdL M Z vs ds) (lo hi : Option Int) : RdL M Z (cutV vs lo hi) ((ds.drop (HT.sIx ds.length 0 lo)).take (HT.sIx ds.length ds.length hi - HT.sIx ds.length 0 lo)) := by
  unfold cutV
  rw [h.length]
  exact (h.drop _).take _
theorem pd_sl (he : PD X W e te fe) (hl : POD X W lo tl fl) (hh : POD X W hi th fh) : PD X W (.Subscript e (.Slice lo hi none p2) pos) (tSl (rSlD X.K) te tl th) (dSl fe fl fh) := ⟨pe_slice sl_D he.pe hl.po hh.po, fun σ H env m Z Q R E hp => by
  refine he.sn σ H env m Z _ R E (Post.bind hp fun a m1 x H1 Z1 _ e1 R1 rx hp1 => ?_)
  refine hl.sn σ H1 env m1 Z1 _ R1 (E.mono e1) (Post.bind hp1 fun l m2 l' H2 Z2 _ e2 R2 rl hp2 => ?_)
  refine hh.sn σ H2 env m2 Z2 _ R2 (E.mono (e1.trans e2)) (Post.bind hp2 fun h m3 h' H3 Z3 _ e3 R3 rh hp3 => ?_)
  subst rl rh
  split at hp3
  · rename_i d ed
    split at hp3
    · rename_i z ez
      have rd := rq_rd R3 (rx.mono (e2.trans e3)) ed
      unfold gSl at ez
      split at ez
      · cases ez
        obtain ⟨p, xs, rfl, q, r⟩ := rd
        refine .inl ⟨p, xs, rfl, q, fun p' hp' => hp3 _ _ _ (R3.ext hp') (R3.alloc hp') ?_⟩
        unfold Rd
        exact ⟨p', _, rfl, upd_same, RdL.mono (R3.ext hp') (r.cut _ _)⟩
      · split at ez
        · rename_i hz
          cases ez
          have rd : Rd (Cx.km X) Z3 x (.str _) := rd
          unfold Rd at rd
          exact .inr (.inl ⟨_, rd, hz, Post.here R3 rd_str hp3⟩)
        · cases ez
      · split at ez
        · cases ez
        · rename_i hn
          cases ez
          obtain ⟨p, xs, rfl, q, r⟩ := rd
          refine .inr (.inr ⟨p, xs, rfl, q, by rw [r.length]; exact hn, fun p' hp' => hp3 _ _ _ (R3.ext hp') (R3.alloc hp') ?_⟩)
          unfold Rd
          exact ⟨p', _, rfl, .inl (.inl upd_same), RdL.mono (R3.ext hp') (r.cut _ _)⟩
      · cases ez
    · exact hp3.elim
  · exact hp3.elim⟩
theorem pd_slC (he : PD X W e te fe) (hl : POD X W lo tl fl) (hh : POD X W hi th fh) : PD X W (.Subscript e (.Slice lo hi none p2) pos) (tSl (rSlD X.K) te tl th) (dSlC fe fl fh) := ⟨pe_slice sl_D he.pe hl.po hh.po, fun σ H env m Z Q R E hp => by
  refine he.sn σ H env m Z _ R E (Post.bind hp fun a m1 x H1 Z1 _ e1 R1 rx hp1 => ?_)
  refine hl.sn σ H1 env m1 Z1 _ R1 (E.mono e1) (Post.bind hp1 fun l m2 l' H2 Z2 _ e2 R2 rl hp2 => ?_)
  refine hh.sn σ H2 env m2 Z2 _ R2 (E.mono (e1.trans e2)) (Post.bind hp2 fun h m3 h' H3 Z3 _ e3 R3 rh hp3 => ?_)
  subst rl rh
  split at hp3
  · rename_i ds ed
    obtain ⟨p, xs, rfl, q, r⟩ := rq_rd R3 (rx.mono (e2.trans e3)) ed
    split at hp3
    · rename_i hn
      exact .inl ⟨p, xs, rfl, q, fun p' hp' => hp3 _ _ _ (Z3.ext_cell p') (R3.new hp' (r.cut _ _) hn) (rd_cell R3)⟩
    · exact hp3.elim
  · exact hp3.elim⟩
end

/-! ### calls of built-ins -/
def rqs (as : List D) (m : DMem) : Option (List D) := match as with
  | [] => some []
  | a :: as => match rq a m, rqs as m with
    | some d, some ds => some (d :: ds)
    | _, _ => none
theorem rqs_rd {M : KM} {Z : Fz} {H : Hp} {m : DMem} (R : RelM M Z H m) : ∀ {as ds : List D} {vs : List V}, RdL M Z vs as → rqs as m = some ds → Paired (RdQ M Z H) vs ds
  | [], ds, vs, h, e => by
    unfold RdL at h
    unfold rqs at e
    cases e
    subst h
    exact .nil
  | a :: as, ds, vs, h, e => by
    unfold RdL at h
    obtain ⟨x, xs, rfl, h1, h2⟩ := h
    unfold rqs at e
    split at e
    · rename_i d ds' e1 e2
      cases e
      exact .cons (rq_rd R h1 e1) (rqs_rd R h2 e2)
    · cases e
def CallS (M : KM) (r : List V → Hp → VK → Prop) (g : List D → Option D) : Prop := ∀ vs ds H Z m Q z, RelM M Z H m → Paired (RdQ M Z H) vs ds → g ds = some z →
  (∀ v H' Z', Ext Z Z' → RelM M Z' H' m → Rd M Z' v z → Q v H') → r vs H Q
def dB (g : List D → Option D) (f : DA) : DE := fun env m => (f env m).bind fun as m1 => match rqs as m1 with
  | some ds => match g ds with
    | some z => .ok z m1
    | none => .bad
  | none => .bad
theorem sn_b {M : KM} {W : WXs} {r : List V → Hp → VK → Prop} {g : List D → Option D} {t : TA} {f : DA} (hc : CallS M r g) (ha : SndA M W t f) : SndE M W (tCB r t) (dB g f) := fun σ H env m Z Q R E hp => by
  refine ha σ H env m Z _ R E (Post.bind hp fun as m1 vs H1 Z1 _ e1 R1 rx hp1 => ?_)
  split at hp1
  · rename_i ds ed
    split at hp1
    · rename_i z ez
      exact hc vs ds H1 Z1 m1 Q z R1 (rqs_rd R1 rx ed) ez hp1
    · exact hp1.elim
  · exact hp1.elim
theorem CallS.or {M : KM} {r r' : List V → Hp → VK → Prop} {g g' : List D → Option D} (h : CallS M r g) (h' : CallS M r' g') : CallS M (fun xs H Q => r xs H Q ∨ r' xs H Q) (fun ds => match g ds with | some z => some z | none => g' ds) := fun vs ds H Z m Q z R rx e k => by
  dsimp only at e
  split at e
  · rename_i z' ez
    exact .inl (h vs ds H Z m Q z R rx (ez.trans e) k)
  · exact .inr (h' vs ds H Z m Q z R rx e k)
theorem paired1 {α β : Type} {F : α → β → Prop} {vs : List α} {b : β} (h : Paired F vs [b]) : ∃ a, vs = [a] ∧ F a b := by
  cases h with
  | cons h1 h2 => cases h2; exact ⟨_, rfl, h1⟩
theorem paired2 {α β : Type} {F : α → β → Prop} {vs : List α} {b c : β} (h : Paired F vs [b, c]) : ∃ a d, vs = [a, d] ∧ F a b ∧ F d c := by
  cases h with
  | cons h1 h2 =>
    obtain ⟨d, rfl, h3⟩ := paired1 h2
    exact ⟨_, d, rfl, h1, h3⟩
/-- len -/
def gLen : List D → Option D
  | [.str y] => if y.length ≤ sizeLine then some (.int y.length) else none
  | [.lst xs] => some (.int xs.length)
  | [.tup xs] => some (.int xs.length)
  | _ => none
theorem cs_len {M : KM} : CallS M (fun xs H Q => ∃ x n, xs = [x] ∧ LenV M.K x H n ∧ Q (.int n) H) gLen := fun vs ds H Z m Q z R rx e k => by
  unfold gLen at e
  split at e
  · split at e
    · rename_i hl
      cases e
      obtain ⟨x, rfl, r⟩ := paired1 rx
      have r : Rd M Z x (.str _) := r
      unfold Rd at r
      subst r
      exact ⟨_, _, rfl, ⟨hl, rfl⟩, k _ H Z (.refl _) R rd_int⟩
    · cases e
  · cases e
    obtain ⟨x, rfl, p, xs, rfl, q, r⟩ := paired1 rx
    exact ⟨_, _, rfl, .inl ⟨xs, q, rfl⟩, k _ H Z (.refl _) R (by rw [r.length]; exact rd_int)⟩
  · cases e
    obtain ⟨x, rfl, p, xs, rfl, q, r⟩ := paired1 rx
    exact ⟨_, _, rfl, .inr ⟨xs, q, rfl⟩, k _ H Z (.refl _) R (by rw [r.length]; exact rd_int)⟩
  · cases e
/-- ints of a list -/
def toIs : List D → Option (List Int)
  | [] => some []
  | .int i :: ds => (toIs ds).map (i :: ·)
  | _ :: _ => none
theorem RdL.toIs {M : KM} {Z : Fz} : ∀ {ds : List D} {vs : List V} {ns : List Int}, RdL M Z vs ds → DX.toIs ds = some ns → vs = ns.map V.int
  | [], vs, ns, h, e => by
    unfold RdL at h
    unfold DX.toIs at e
    cases e
    exact h
  | d :: ds, vs, ns, h, e => by
    unfold RdL at h
    obtain ⟨x, xs, rfl, h1, h2⟩ := h
    unfold DX.toIs at e
    split at e
    · cases ‹d :: ds = []›
    · rename_i i ds' he
      cases he
      obtain ⟨ms, e1, rfl⟩ := Option.map_eq_some_iff.mp e
      unfold Rd at h1
      subst h1
      rw [RdL.toIs h2 e1]
      rfl
    · cases e
/-- sum, max, min of a list of ints; max, min of two -/
def gSum : List D → Option D
  | [.lst xs] => (toIs xs).map fun ns => .int ns.sum
  | _ => none
theorem cs_sum {M : KM} : CallS M (rSum M.K) gSum := fun vs ds H Z m Q z R rx e k => by
  unfold gSum at e
  split at e
  · obtain ⟨ns, e1, rfl⟩ := Option.map_eq_some_iff.mp e
    obtain ⟨x, rfl, p, xs, rfl, q, r⟩ := paired1 rx
    rw [r.toIs e1] at q
    exact ⟨p, ns, rfl, q, k _ H Z (.refl _) R rd_int⟩
  · cases e
def gMax2 : List D → Option D
  | [.int i, .int j] => some (.int (if j > i then j else i))
  | _ => none
def gMin2 : List D → Option D
  | [.int i, .int j] => some (.int (if j < i then j else i))
  | _ => none
theorem cs_max2 {M : KM} : CallS M (fun xs H Q => ∃ i j, xs = [.int i, .int j] ∧ Q (.int (if j > i then j else i)) H) gMax2 := fun vs ds H Z m Q z R rx e k => by
  unfold gMax2 at e
  split at e
  · cases e
    obtain ⟨x, y, rfl, r1, r2⟩ := paired2 rx
    have r1 : Rd M Z x (.int _) := r1
    have r2 : Rd M Z y (.int _) := r2
    unfold Rd at r1 r2
    subst r1 r2
    exact ⟨_, _, rfl, k _ H Z (.refl _) R rd_int⟩
  · cases e
theorem cs_min2 {M : KM} : CallS M (fun xs H Q => ∃ i j, xs = [.int i, .int j] ∧ Q (.int (if j < i then j else i)) H) gMin2 := fun vs ds H Z m Q z R rx e k => by
  unfold gMin2 at e
  split at e
  · cases e
    obtain ⟨x, y, rfl, r1, r2⟩ := paired2 rx
    have r1 : Rd M Z x (.int _) := r1
    have r2 : Rd M Z y (.int _) := r2
    unfold Rd at r1 r2
    subst r1 r2
    exact ⟨_, _, rfl, k _ H Z (.refl _) R rd_int⟩
  · cases e
/-- int(..) -/
def gInt : List D → Option D
  | [.int i] => some (.int i)
  | [.bl k] => some (.int (if k then 1 else 0))
  | _ => none
theorem cs_int {M : KM} : CallS M (fun xs H Q => (∃ i, xs = [.int i] ∧ Q (.int i) H) ∨ ∃ k, xs = [.bl k] ∧ Q (.int (if k then 1 else 0)) H) gInt := fun vs ds H Z m Q z R rx e k => by
  unfold gInt at e
  split at e
  · cases e
    obtain ⟨x, rfl, r1⟩ := paired1 rx
    have r1 : Rd M Z x (.int _) := r1
    unfold Rd at r1
    subst r1
    exact .inl ⟨_, rfl, k _ H Z (.refl _) R rd_int⟩
  · cases e
    obtain ⟨x, rfl, r1⟩ := paired1 rx
    have r1 : Rd M Z x (.bl _) := r1
    unfold Rd at r1
    subst r1
    exact .inr ⟨_, rfl, k _ H Z (.refl _) R rd_int⟩
  · cases e
/-- list(..), of a list or a tuple -/
def gList : List D → Option D
  | [.lst xs] => some (.lst xs)
  | [.tup xs] => some (.lst xs)
  | _ => none
def rListD (K : PySem.W.Frag) : List V → Hp → VK → Prop := fun xs H Q => ∃ p ys, xs = [.ref p] ∧ (SqL K H p ys ∨ SqT K H p ys) ∧ ∀ l, H l = none → Q (.ref l) (upd H l (.lst ys))
theorem cs_list {M : KM} : CallS M (DX.rListD M.K) gList := fun vs ds H Z m Q z R rx e k => by
  unfold gList at e
  split at e
  · cases e
    obtain ⟨x, rfl, p, xs, rfl, q, r⟩ := paired1 rx
    refine ⟨p, xs, rfl, .inl q, fun l hl => k _ _ _ (R.ext hl) (R.alloc hl) ?_⟩
    unfold Rd
    exact ⟨l, xs, rfl, upd_same, RdL.mono (R.ext hl) r⟩
  · cases e
    obtain ⟨x, rfl, p, xs, rfl, q, r⟩ := paired1 rx
    refine ⟨p, xs, rfl, .inr q, fun l hl => k _ _ _ (R.ext hl) (R.alloc hl) ?_⟩
    unfold Rd
    exact ⟨l, xs, rfl, upd_same, RdL.mono (R.ext hl) r⟩
  · cases e
/-- tuple(..) -/
def gTuple : List D → Option D
  | [.lst xs] => some (.tup xs)
  | _ => none
theorem cs_tuple {M : KM} : CallS M (fun xs H Q => ∃ p ys, xs = [.ref p] ∧ ((SqL M.K H p ys ∧ ∀ l, H l = none → Q (.ref l) (upd H l (.tup ys))) ∨ (SqT M.K H p ys ∧ Q (.ref p) H))) gTuple := fun vs ds H Z m Q z R rx e k => by
  unfold gTuple at e
  split at e
  · cases e
    obtain ⟨x, rfl, p, xs, rfl, q, r⟩ := paired1 rx
    refine ⟨p, xs, rfl, .inl ⟨q, fun l hl => k _ _ _ (R.ext hl) (R.alloc hl) ?_⟩⟩
    unfold Rd
    exact ⟨l, xs, rfl, .inl (.inl upd_same), RdL.mono (R.ext hl) r⟩
  · cases e
end DX
end

section
set_option Elab.async false
set_option linter.all false
set_option maxRecDepth 100000
set_option maxHeartbeats 2000000
/-! DX5: statements, targets, loops, comprehensions. -/
namespace DX
open PySem PySem.Spec L2

/-- a statement's end -/
inductive SO where
  | nx (e : DEnv) (m : DMem) | rt (d : D) (m : DMem) | bk (e : DEnv) (m : DMem) | ct (e : DEnv) (m : DMem) | ex (c : Str) (d : D) (e : DEnv) (m : DMem) | bad
abbrev DS := DEnv → DMem → SO
def SO.then (r : SO) (k : DEnv → DMem → SO) : SO := match r with
  | .nx e m => k e m
  | r => r
/-- an expression's result ahead of what is done with it -/
def XO.to {α : Type} (r : XO α) (env : DEnv) (k : α → DMem → SO) : SO := match r with
  | .ok a m => k a m
  | .ex c d m => .ex c d env m
  | .bad => .bad
def PostS (M : KM) (W : WXs) (Z : Fz) (r : SO) (T : Ends) : Prop := match r with
  | .nx e m => ∀ σ' H' Z', Ext Z Z' → RelM M Z' H' m → RelE M Z' σ' e → T.nx σ' H'
  | .rt d m => ∀ v H' Z', Ext Z Z' → RelM M Z' H' m → Rd M Z' v d → T.rt v H'
  | .bk e m => ∀ σ' H' Z', Ext Z Z' → RelM M Z' H' m → RelE M Z' σ' e → T.bk σ' H'
  | .ct e m => ∀ σ' H' Z', Ext Z Z' → RelM M Z' H' m → RelE M Z' σ' e → T.ct σ' H'
  | .ex c d e m => ∀ σ' Z1, Ext Z Z1 → RelE M Z1 σ' e → PostX M W σ' Z1 c d m
  | .bad => False
section
variable {M : KM} {W : WXs} {σ : L2.St} {Z Z1 : Fz} {H : Hp} {m : DMem} {env : DEnv} {α β : Type} {RR : Fz → β → α → Prop} {T : Ends}
theorem PostS.ext {r : SO} (e : Ext Z Z1) (h : PostS M W Z r T) : PostS M W Z1 r T := by
  cases r with
  | nx _ _ => exact fun σ' H' Z' e' => h σ' H' Z' (e.trans e')
  | rt _ _ => exact fun v H' Z' e' => h v H' Z' (e.trans e')
  | bk _ _ => exact fun σ' H' Z' e' => h σ' H' Z' (e.trans e')
  | ct _ _ => exact fun σ' H' Z' e' => h σ' H' Z' (e.trans e')
  | ex c d _ _ => exact fun σ' Z2 e' => h σ' Z2 (e.trans e')
  | bad => exact h
theorem PostS.to {r : XO α} {k : α → DMem → SO} {Q1 : β → Hp → Prop} (E : RelE M Z σ env) (h : PostS M W Z (r.to env k) T)
    (step : ∀ a m1 b H1 Z1, r = .ok a m1 → Ext Z Z1 → RelM M Z1 H1 m1 → RR Z1 b a → PostS M W Z1 (k a m1) T → Q1 b H1) : Post M W σ Z RR r Q1 := by
  cases r with
  | ok a m => exact fun b H' Z' e R rr => step a m b H' Z' rfl e R rr (PostS.ext e h)
  | ex c d m => exact h σ Z (.refl _) E
  | bad => exact h
end
def SndS (M : KM) (W : WXs) (t : TS) (f : DS) : Prop := ∀ σ H env m Z T, RelM M Z H m → RelE M Z σ env → PostS M W Z (f env m) T → t T σ H
structure PSD (X : Cx) (W : WXs) (st : Stmt) (t : TS) (f : DS) : Prop where
  ps : PS X st t
  sn : SndS (Cx.km X) W t f
structure PSsD (X : Cx) (W : WXs) (st : List Stmt) (t : TS) (f : DS) : Prop where
  ps : PSs X st t
  sn : SndS (Cx.km X) W t f

def dNext : DS := fun env m => .nx env m
def dSeq (f g : DS) : DS := fun env m => (f env m).then g
def dRet (f : DE) : DS := fun env m => (f env m).to env fun a m1 => .rt a m1
def dRetN : DS := fun _ m => .rt .non m
def dDrop (f : DE) : DS := fun env m => (f env m).to env fun _ m1 => .nx env m1
def dSet (i : Nat) (f : DE) : DS := fun env m => (f env m).to env fun a m1 => .nx (env.set i (some a)) m1
def dIfS (c : DT) (f g : DS) : DS := fun env m => (c env m).to env fun k m1 => if k = true then f env m1 else g env m1
def dBreak : DS := fun env m => .bk env m
def dCont : DS := fun env m => .ct env m
section
variable {X : Cx} {W : WXs} {st : Stmt} {rest : List Stmt} {t u : TS} {f g : DS} {e : Expr} {te : TE} {fe : DE} {pos : Pos}
theorem pssd_nil : PSsD X W [] tNext dNext := ⟨pss_nil, fun σ H env m Z T R E h => h σ H Z (.refl _) R E⟩
theorem pssd_cons (h1 : PSD X W st t f) (h2 : PSsD X W rest u g) : PSsD X W (st :: rest) (tSeq t u) (dSeq f g) := ⟨pss_cons h1.ps h2.ps, fun σ H env m Z T R E h => by
  refine h1.sn σ H env m Z { T with nx := u T } R E ?_
  unfold dSeq at h
  cases q : f env m with
  | nx e' m' => rw [q] at h; exact fun σ' H' Z' x R' E' => h2.sn σ' H' e' m' Z' T R' E' (PostS.ext x h)
  | rt _ _ => rw [q] at h; exact h
  | bk _ _ => rw [q] at h; exact h
  | ct _ _ => rw [q] at h; exact h
  | ex _ _ _ _ => rw [q] at h; exact h
  | bad => rw [q] at h; exact h⟩
theorem pssd_one (h1 : PSD X W st t f) : PSsD X W [st] t f := ⟨pss_one h1.ps, h1.sn⟩
theorem psd_ret (he : PD X W e te fe) : PSD X W (.Return (some e) pos) (tRet te) (dRet fe) := ⟨ps_ret he.pe, fun σ H env m Z T R E h =>
  he.sn σ H env m Z _ R E (PostS.to E h fun a m1 x H1 Z1 _ e1 R1 rx h1 => h1 x H1 Z1 (.refl _) R1 rx)⟩
theorem psd_retN : PSD X W (.Return none pos) tRetN dRetN := ⟨ps_retN, fun σ H env m Z T R E h => h .non H Z (.refl _) R rd_non⟩
theorem psd_expr (he : PD X W e te fe) (hs : swapsWith e none pos.line X.env = pure false := by rfl) : PSD X W (.Expr e pos) (tDrop te) (dDrop fe) := ⟨ps_expr he.pe hs, fun σ H env m Z T R E h =>
  he.sn σ H env m Z _ R E (PostS.to E h fun a m1 x H1 Z1 _ e1 R1 rx h1 => h1 σ H1 Z1 (.refl _) R1 (E.mono e1))⟩
theorem psd_set {i : Nat} {x : Str} {pos' : Pos} (hN : X.N.Nodup) (hi : X.N[i]? = some x) (hx : Loc X.env.scope x) (he : PD X W e te fe) (hs : swapsWith e (some (.Name x pos')) pos.line X.env = pure false := by rfl) (hf : X.fn x = true ∨ X.env.scope.names.lookup x = some .local := by first | exact .inl rfl | exact .inr rfl | assumption) :
    PSD X W (.Assign [.Name x pos'] e pos) (tAsg te (gName i)) (dSet i fe) := ⟨ps_set hN hi hx he.pe hs hf, fun σ H env m Z T R E h =>
  he.sn σ H env m Z _ R E (PostS.to E h fun a m1 x H1 Z1 _ e1 R1 rx h1 => h1 _ H1 Z1 (.refl _) R1 ((E.mono e1).set i rx))⟩
theorem psd_if {c : Expr} {a b : List Stmt} {tc : TT} {fc : DT} (hc : PTD X W c tc fc) (ha : PSsD X W a t f) (hb : PSsD X W b u g) : PSD X W (.If c a b pos) (tIfS tc t u) (dIfS fc f g) := ⟨ps_if hc.pt ha.ps hb.ps, fun σ H env m Z T R E h =>
  hc.sn σ H env m Z _ R E (PostS.to E h fun a m1 x H1 Z1 _ e1 R1 rx h1 => by
    subst rx
    cases x with
    | true => rw [if_pos rfl] at h1 ⊢; exact ha.sn σ H1 env m1 Z1 T R1 (E.mono e1) h1
    | false => rw [if_neg Bool.false_ne_true] at h1 ⊢; exact hb.sn σ H1 env m1 Z1 T R1 (E.mono e1) h1)⟩
theorem psd_pass : PSD X W (.Pass pos) tNext dNext := ⟨ps_pass, fun σ H env m Z T R E h => h σ H Z (.refl _) R E⟩
theorem psd_break : PSD X W (.Break pos) tBreak dBreak := ⟨ps_break, fun σ H env m Z T R E h => h σ H Z (.refl _) R E⟩
theorem psd_cont : PSD X W (.Continue pos) tCont dCont := ⟨ps_continue, fun σ H env m Z T R E h => h σ H Z (.refl _) R E⟩
end

/-! ### targets -/
abbrev DTg := D → DEnv → Option DEnv
/-- the slots forgotten -/
def wipeD (env : DEnv) : List Nat → DEnv
  | [] => env
  | v :: vs => (wipeD env vs).set v none
theorem wipe_set {σ : L2.St} {i : Nat} {x : Option V} : ∀ {ws : List Nat}, i ∈ ws → wipe (σ.set i x) ws = wipe σ ws
  | [], h => by cases h
  | w :: ws, h => by
    unfold wipe
    by_cases hi : i ∈ ws
    · rw [wipe_set hi]
    · have e : i = w := (List.mem_cons.mp h).resolve_right hi
      subst e
      have key : ∀ {us : List Nat}, i ∉ us → wipe (σ.set i x) us = (wipe σ us).set i x := fun {us} => by
        induction us with
        | nil => intro _; rfl
        | cons u us ih =>
          intro h
          have h1 : i ≠ u := fun z => h (by rw [z]; exact List.mem_cons_self)
          have h2 : i ∉ us := fun z => h (List.mem_cons_of_mem _ z)
          show (wipe (σ.set i x) us).set u none = ((wipe σ us).set u none).set i x
          rw [ih h2, List.set_comm _ _ h1]
      rw [key hi, List.set_set]
def SndG (M : KM) (sl : List Nat) (g : TG) (f : DTg) : Prop := ∀ v d σ H env m Z Q env', RelM M Z H m → RelE M Z σ env → Rd M Z v d → f d env = some env' →
  (∀ σ', RelE M Z σ' env' → (∀ ws, (∀ i ∈ sl, i ∈ ws) → wipe σ' ws = wipe σ ws) → Q σ' H) → g v σ H Q
structure PGD (X : Cx) (tg : Expr) (sl : List Nat) (g : TG) (f : DTg) : Prop where
  pg : PG X tg g
  sn : SndG (Cx.km X) sl g f
abbrev DTgs := List D → DEnv → Option DEnv
def SndGs (M : KM) (sl : List Nat) (g : TGs) (f : DTgs) : Prop := ∀ vs ds σ H env m Z Q env', RelM M Z H m → RelE M Z σ env → RdL M Z vs ds → f ds env = some env' →
  (∀ σ', RelE M Z σ' env' → (∀ ws, (∀ i ∈ sl, i ∈ ws) → wipe σ' ws = wipe σ ws) → Q σ' H) → g vs σ H Q
structure PGsD (X : Cx) (ts : List Expr) (sl : List Nat) (g : TGs) (f : DTgs) : Prop where
  pg : PGs X ts g
  sn : SndGs (Cx.km X) sl g f
def dgName (i : Nat) : DTg := fun d env => some (env.set i (some d))
def dgNil : DTgs := fun ds env => match ds with
  | [] => some env
  | _ => none
def dgCons (f : DTg) (g : DTgs) : DTgs := fun ds env => match ds with
  | d :: ds => (f d env).bind fun env1 => g ds env1
  | [] => none
def dgTup (n : Nat) (g : DTgs) : DTg := fun d env => match d with
  | .tup ds => if ds.length = n then g ds env else none
  | _ => none
section
variable {X : Cx} {pos : Pos}
theorem pgd_name {i : Nat} {x : Str} (hN : X.N.Nodup) (hi : X.N[i]? = some x) (hx : Loc X.env.scope x) (hf : X.fn x = true ∨ X.env.scope.names.lookup x = some .local := by first | exact .inl rfl | exact .inr rfl | assumption) : PGD X (.Name x pos) [i] (gName i) (dgName i) :=
  ⟨pg_name hN hi hx hf, fun v d σ H env m Z Q env' R E r e k => by
    cases e
    exact k _ (E.set i r) fun ws h => wipe_set (h i (List.mem_singleton.mpr rfl))⟩
theorem pgsd_nil : PGsD X [] [] gNil dgNil := ⟨pgs_nil, fun vs ds σ H env m Z Q env' R E r e k => by
  unfold dgNil at e
  split at e
  · cases e
    unfold RdL at r
    exact ⟨r, k σ E fun _ _ => rfl⟩
  · cases e⟩
theorem pgsd_cons {e : Expr} {es : List Expr} {sl sl' : List Nat} {t : TG} {u : TGs} {f : DTg} {g : DTgs} (h1 : PGD X e sl t f) (h2 : PGsD X es sl' u g)
    (hs : (assignEach (e :: es) X.env).map (·.2) = assign e X.env :: (assignEach es X.env).map (·.2) := by rfl) : PGsD X (e :: es) (sl ++ sl') (gCons t u) (dgCons f g) :=
  ⟨pgs_cons h1.pg h2.pg hs, fun vs ds σ H env m Z Q env' R E r eq k => by
    unfold dgCons at eq
    split at eq
    · rename_i d ds'
      obtain ⟨env1, e1, e2⟩ := Option.bind_eq_some_iff.mp eq
      unfold RdL at r
      obtain ⟨v, us, rfl, r1, r2⟩ := r
      refine ⟨v, us, rfl, h1.sn v d σ H env m Z _ env1 R E r1 e1 fun σ1 E1 w1 => ?_⟩
      refine h2.sn us ds' σ1 H env1 m Z Q env' R E1 r2 e2 fun σ2 E2 w2 => k σ2 E2 fun ws h => ?_
      rw [w2 ws fun i hi => h i (List.mem_append_right _ hi), w1 ws fun i hi => h i (List.mem_append_left _ hi)]
    · cases eq⟩
theorem pgd_tup {es : List Expr} {k : Nat} {sl : List Nat} {t : TGs} {g : DTgs} {n : Nat} (hc : X.calm = true) (h : PGsD X es sl t g)
    (hn : (assignEach es X.env).length = n := by rfl) (hst : (assignEach es X.env).findIdx? (·.1) = none := by rfl) : PGD X (.Tuple es k pos) sl (gTup X.K n t) (dgTup n g) :=
  ⟨pg_tup hc h.pg hn hst, fun v d σ H env m Z Q env' R E r e k => by
    unfold dgTup at e
    split at e
    · rename_i ds
      split at e
      · rename_i hl
        unfold Rd at r
        obtain ⟨a, xs, e1, q, r2⟩ := r
        exact ⟨a, xs, e1, Same.sqT R.same q, by rw [r2.length]; exact hl, h.sn xs ds σ H env m Z Q env' R E r2 e k⟩
      · cases e
    · cases e⟩
/-- target = e, by the target's rule -/
def dAsg (f : DE) (g : DTg) : DS := fun env m => (f env m).to env fun a m1 => match g a env with
  | some env1 => .nx env1 m1
  | none => .bad
variable {W : WXs} {e : Expr} {te : TE} {fe : DE}
theorem psd_asg {tg : Expr} {sl : List Nat} {g : TG} {fg : DTg} (he : PD X W e te fe) (hg : PGD X tg sl g fg) (hs : swapsWithSole [tg] e pos.line X.env = pure false := by rfl) (hw : swappedStores [tg] e X.env = pure none := by rfl)
    (h1 : (assignEach [tg] X.env).map (·.2) = [assign tg X.env] := by rfl) : PSD X W (.Assign [tg] e pos) (tAsg te g) (dAsg fe fg) := ⟨ps_asg he.pe hg.pg hs hw h1, fun σ H env m Z T R E h =>
  he.sn σ H env m Z _ R E (PostS.to E h fun a m1 x H1 Z1 _ e1 R1 rx h1 => by
    split at h1
    · rename_i env1 q
      exact hg.sn x a σ H1 env m1 Z1 _ env1 R1 (E.mono e1) rx q fun σ' E' _ => h1 σ' H1 Z1 (.refl _) R1 E'
    · exact h1.elim)⟩
/-- a, b = x, y (plain local names) -/
def dPar (i j : Nat) (f : DA) : DS := fun env m => (f env m).to env fun as m1 => match as with
  | [a, b] => .nx ((env.set i (some a)).set j (some b)) m1
  | _ => .bad
theorem psd_par {i j : Nat} {x y : Str} {a b : Expr} {ta : TA} {fa : DA} {px py pt : Pos} {kt k2 pt2} (hc : X.calm = true) (hN : X.N.Nodup) (hi : X.N[i]? = some x) (hj : X.N[j]? = some y) (hij : i ≠ j)
    (hx : X.env.scope.names.lookup x = some .local) (hy : X.env.scope.names.lookup y = some .local) (ha : PAD X W [a, b] ta fa)
    (hw : swappedStores [.Tuple [.Name x px, .Name y py] kt pt] (.Tuple [a, b] k2 pt2) X.env = pure (some [x, y]))
    (hs : swapsWithSole [.Tuple [.Name x px, .Name y py] kt pt] (.Tuple [a, b] k2 pt2) pos.line X.env = pure false := by rfl) :
    PSD X W (.Assign [.Tuple [.Name x px, .Name y py] kt pt] (.Tuple [a, b] k2 pt2) pos) (tPar i j ta) (dPar i j fa) := ⟨ps_par hc hN hi hj hij hx hy ha.pa hw hs, fun σ H env m Z T R E h =>
  ha.sn σ H env m Z _ R E (PostS.to E h fun as m1 vs H1 Z1 _ e1 R1 rx h1 => by
    split at h1
    · unfold RdL at rx
      obtain ⟨v, us, rfl, r1, rx⟩ := rx
      unfold RdL at rx
      obtain ⟨w, us2, rfl, r2, rx⟩ := rx
      unfold RdL at rx
      subst rx
      exact ⟨v, w, rfl, h1 _ H1 Z1 (.refl _) R1 (((E.mono e1).set i r1).set j r2)⟩
    · exact h1.elim)⟩
end

/-! ### while -/
def dWhileN (c : DT) (b : DS) : Nat → DS
  | 0 => fun _ _ => .bad
  | n + 1 => fun env m => (c env m).to env fun k m1 => if k = true then
      match b env m1 with
      | .nx e m2 => dWhileN c b n e m2
      | .ct e m2 => dWhileN c b n e m2
      | .bk e m2 => .nx e m2
      | r => r
    else .nx env m1
/-- turns enough for all that is written here -/
def fuel : Nat := 18446744073709551616
def dWhile (c : DT) (b : DS) : DS := dWhileN c b fuel
section
variable {X : Cx} {W : WXs} {pos : Pos}
theorem sn_while {M : KM} {tc : TT} {tb : TS} {fc : DT} {fb : DS} (hc : SndT M W tc fc) (hb : SndS M W tb fb) : SndS M W (tWhile tc tb) (dWhile fc fb) := fun σ H env m Z T R E h => by
  refine ⟨fun n σ' H' => ∃ env' m' Z', RelM M Z' H' m' ∧ RelE M Z' σ' env' ∧ PostS M W Z' (dWhileN fc fb n env' m') T, ⟨fuel, env, m, Z, R, E, h⟩, ?_⟩
  rintro n σ1 H1 ⟨env1, m1, Z1, R1, E1, h1⟩
  cases n with
  | zero => exact False.elim h1
  | succ n =>
    unfold dWhileN at h1
    refine hc σ1 H1 env1 m1 Z1 _ R1 E1 (PostS.to E1 h1 fun k m2 x H2 Z2 _ e2 R2 rx h2 => ?_)
    subst rx
    cases x with
    | false => rw [if_neg Bool.false_ne_true] at h2 ⊢; exact h2 σ1 H2 Z2 (.refl _) R2 (E1.mono e2)
    | true =>
      rw [if_pos rfl] at h2 ⊢
      refine ⟨fun σ' H' => ∃ env' m' Z', RelM M Z' H' m' ∧ RelE M Z' σ' env' ∧ PostS M W Z' (dWhileN fc fb n env' m') T, fun σ' H' p => ⟨n, Nat.lt_succ_self n, p⟩, ?_⟩
      refine hb σ1 H2 env1 m2 Z2 _ R2 (E1.mono e2) ?_
      cases q : fb env1 m2 with
      | nx e' m' => rw [q] at h2; exact fun σ' H' Z' x R' E' => ⟨e', m', Z', R', E', PostS.ext x h2⟩
      | ct e' m' => rw [q] at h2; exact fun σ' H' Z' x R' E' => ⟨e', m', Z', R', E', PostS.ext x h2⟩
      | bk _ _ => rw [q] at h2; exact h2
      | rt _ _ => rw [q] at h2; exact h2
      | ex _ _ _ _ => rw [q] at h2; exact h2
      | bad => rw [q] at h2; exact h2
theorem psd_while {c : Expr} {body : List Stmt} {tc : TT} {tb : TS} {fc : DT} {fb : DS} (hp : PassesOwn (model X.prog X.w) X.A X.env X.xe) (hc : PTD X W c tc fc) (hb : PSsD X W body tb fb) : PSD X W (.While c body [] pos) (tWhile tc tb) (dWhile fc fb) := ⟨ps_while hp hc.pt hb.ps, sn_while hc.sn hb.sn⟩
end

/-! ### what is walked -/
inductive Src where
  | items (ds : List D) | cell (k : Nat)
def Src.at (s : Src) (m : DMem) (i : Nat) : Option (Option D) := match s with
  | .items ds => some ds[i]?
  | .cell k => match m[k]? with
    | some (some ds) => some ds[i]?
    | _ => none
def Src.size (s : Src) (m : DMem) : Nat := match s with
  | .items ds => ds.length
  | .cell k => match m[k]? with
    | some (some ds) => ds.length
    | _ => 0
def Walks (M : KM) (J : It) (Z : Fz) (s : Src) : Prop := ∀ i H Z1 m, Ext Z Z1 → RelM M Z1 H m → match s.at m i with
  | some (some d) => J.go i H ∧ ∀ x H', J.yld i H x H' → ∃ Z', Ext Z1 Z' ∧ RelM M Z' H' m ∧ Rd M Z' x d
  | some none => J.stop i H
  | none => True
abbrev DI := DEnv → DMem → XO Src
def PostI (M : KM) (W : WXs) (σ : L2.St) (Z : Fz) (r : XO Src) (R : It → Hp → Prop) : Prop := match r with
  | .ok s m => ∀ J H' Z', Ext Z Z' → RelM M Z' H' m → Walks M J Z' s → R J H'
  | .ex c d m => PostX M W σ Z c d m
  | .bad => False
def SndI (M : KM) (W : WXs) (wi : TI) (f : DI) : Prop := ∀ σ H env m Z R, RelM M Z H m → RelE M Z σ env → PostI M W σ Z (f env m) R → wi σ H R
structure PID (X : Cx) (W : WXs) (tg iter : Expr) (wi : TI) (f : DI) : Prop where
  pi : PI X tg iter wi
  sn : SndI (Cx.km X) W wi f
theorem PostI.bind {M : KM} {W : WXs} {σ : L2.St} {Z : Fz} {α β : Type} {RR : Fz → β → α → Prop} {r : XO α} {k : α → DMem → XO Src} {R : It → Hp → Prop} {Q1 : β → Hp → Prop} (h : PostI M W σ Z (r.bind k) R)
    (step : ∀ a m1 b H1 Z1, r = .ok a m1 → Ext Z Z1 → RelM M Z1 H1 m1 → RR Z1 b a → PostI M W σ Z1 (k a m1) R → Q1 b H1) : Post M W σ Z RR r Q1 := by
  cases r with
  | ok a m =>
    refine fun b H' Z' e R' rr => step a m b H' Z' rfl e R' rr ?_
    have h' : PostI M W σ Z (k a m) R := h
    cases q : k a m with
    | ok s m' => rw [q] at h'; exact fun J H2 Z2 e2 => h' J H2 Z2 (e.trans e2)
    | ex c d m' => rw [q] at h'; exact PostX.ext e h'
    | bad => rw [q] at h'; exact h'
  | ex c d m => exact h
  | bad => exact h
/-- a list (a cell), a tuple -/
def srcL (m : DMem) (d : D) : Option Src := match d with
  | .lst ds => some (.items ds)
  | .mr k => match m[k]? with
    | some (some _) => some (.cell k)
    | _ => none
  | .scr ns => some (.items (ns.map D.int))
  | _ => none
def srcT (_ : DMem) (d : D) : Option Src := match d with
  | .tup ds => some (.items ds)
  | _ => none
def dSrc (g : DMem → D → Option Src) (f : DE) : DI := fun env m => (f env m).bind fun a m1 => match g m1 a with
  | some s => .ok s m1
  | none => .bad
theorem walks_list {M : KM} {Z : Fz} {H : Hp} {m : DMem} {a : Addr} {d : D} {s : Src} (R : RelM M Z H m) (r : Rd M Z (.ref a) d) {m' : DMem} (e : srcL m' d = some s) : Walks M (Itl M.K a) Z s := by
  intro i H1 Z1 m1 x R1
  have go : ∀ {xs : List V} {ds : List D}, SqL M.K H1 a xs → RdL M Z1 xs ds → (∀ (ys : List V), SqL M.K H1 a ys → True) → match (some ds[i]? : Option (Option D)) with
      | some (some d) => (Itl M.K a).go i H1 ∧ ∀ y H', (Itl M.K a).yld i H1 y H' → ∃ Z', Ext Z1 Z' ∧ RelM M Z' H' m1 ∧ Rd M Z' y d
      | some none => (Itl M.K a).stop i H1
      | none => True := fun {xs ds} q r' _ => by
    cases hd : ds[i]? with
    | some d =>
      obtain ⟨v, e1, r1⟩ := r'.get hd
      refine ⟨⟨xs, v, q, e1⟩, fun y H' hy => ?_⟩
      obtain ⟨rfl, fy⟩ := hy
      have e2 := fy xs q
      rw [e1] at e2
      cases e2
      exact ⟨Z1, .refl _, R1, r1⟩
    | none =>
      refine ⟨xs, q, ?_⟩
      rw [r'.length]
      exact List.getElem?_eq_none_iff.mp hd
  cases d with
  | lst ds =>
    cases e
    have r1 := r.mono x
    unfold Rd at r1
    obtain ⟨b, xs, e1, q, r2⟩ := r1
    cases e1
    exact go (SqL.of (R1.same _ _ q)) r2 fun _ _ => trivial
  | scr ns =>
    cases e
    have r1 := r.mono x
    unfold Rd at r1
    obtain ⟨b, e1, q⟩ := r1
    cases e1
    exact go (R1.same.seq q) (RdL.ints ns) fun _ _ => trivial
  | mr k =>
    have es : s = .cell k := by
      unfold srcL at e
      dsimp only at e
      split at e
      · cases e; rfl
      · cases e
    subst es
    have r1 := r.mono x
    unfold Rd at r1
    obtain ⟨b, e1, e2⟩ := r1
    cases e2
    unfold Src.at
    dsimp only
    cases hm : m1[k]? with
    | none => trivial
    | some c =>
      cases c with
      | none => trivial
      | some ds =>
        obtain ⟨b, xs, g1, g2, g3, g4⟩ := R1.cell k ds hm
        rw [e1] at g1
        cases g1
        exact go (SqL.of g3) g4 fun _ _ => trivial
  | _ => cases e
theorem walks_tup {M : KM} {Z : Fz} {H : Hp} {m : DMem} {a : Addr} {d : D} {s : Src} (R : RelM M Z H m) (r : Rd M Z (.ref a) d) {m' : DMem} (e : srcT m' d = some s) : Walks M (Itt M.K a) Z s := by
  intro i H1 Z1 m1 x R1
  cases d with
  | tup ds =>
    cases e
    have r1 := r.mono x
    unfold Rd at r1
    obtain ⟨b, xs, e1, q, r'⟩ := r1
    cases e1
    have q := Same.sqT R1.same q
    unfold Src.at
    dsimp only
    cases hd : ds[i]? with
    | some d =>
      obtain ⟨v, e1, r1⟩ := r'.get hd
      refine ⟨⟨xs, v, q, e1⟩, fun y H' hy => ?_⟩
      obtain ⟨rfl, fy⟩ := hy
      have e2 := fy xs q
      rw [e1] at e2
      cases e2
      exact ⟨Z1, .refl _, R1, r1⟩
    | none =>
      refine ⟨xs, q, ?_⟩
      rw [r'.length]
      exact List.getElem?_eq_none_iff.mp hd
  | _ => cases e
theorem rd_ref {M : KM} {Z : Fz} {v : V} {d : D} {s : Src} (r : Rd M Z v d) {m' : DMem} (e : srcL m' d = some s) : ∃ a, v = .ref a := by
  cases d with
  | lst ds => unfold Rd at r; obtain ⟨a, xs, e1, _⟩ := r; exact ⟨a, e1⟩
  | mr k => unfold Rd at r; obtain ⟨a, e0, e1⟩ := r; exact ⟨a, e1⟩
  | scr ns => unfold Rd at r; obtain ⟨a, e0, e1⟩ := r; exact ⟨a, e0⟩
  | _ => cases e
theorem rd_refT {M : KM} {Z : Fz} {v : V} {d : D} {s : Src} (r : Rd M Z v d) {m' : DMem} (e : srcT m' d = some s) : ∃ a, v = .ref a := by
  cases d <;> first
    | (cases e; unfold Rd at r; obtain ⟨a, xs, e1, _⟩ := r; exact ⟨a, e1⟩)
    | cases e
section
variable {X : Cx} {W : WXs} {tg l : Expr} {tl : TE} {fl : DE}
theorem pid_list (hl : PD X W l tl fl) : PID X W tg l (iList X.K tl) (dSrc srcL fl) := ⟨pi_list hl.pe, fun σ H env m Z R RM E h => by
  refine hl.sn σ H env m Z _ RM E (PostI.bind h fun a m1 x H1 Z1 _ e1 R1 rx h1 => ?_)
  split at h1
  · rename_i s hs
    obtain ⟨p, rfl⟩ := rd_ref rx hs
    have w := walks_list R1 rx hs
    refine ⟨p, rfl, ?_, h1 _ H1 Z1 (.refl _) R1 w⟩
    cases a with
    | lst ds =>
      unfold Rd at rx
      obtain ⟨b, xs, e2, q, _⟩ := rx
      cases e2
      exact ⟨xs, SqL.of (R1.same _ _ q)⟩
    | scr ns =>
      unfold Rd at rx
      obtain ⟨b, e2, q⟩ := rx
      cases e2
      exact ⟨_, R1.same.seq q⟩
    | mr k =>
      unfold srcL at hs
      dsimp only at hs
      split at hs
      · rename_i ds hm
        obtain ⟨b, xs, g1, g2, g3, g4⟩ := R1.cell k ds hm
        unfold Rd at rx
        obtain ⟨b', e2, e3⟩ := rx
        cases e3
        rw [e2] at g1
        cases g1
        exact ⟨xs, SqL.of g3⟩
      · cases hs
    | _ => cases hs
  · exact h1.elim⟩
theorem pid_tup (hl : PD X W l tl fl) : PID X W tg l (iTup X.K tl) (dSrc srcT fl) := ⟨pi_tup hl.pe, fun σ H env m Z R RM E h => by
  refine hl.sn σ H env m Z _ RM E (PostI.bind h fun a m1 x H1 Z1 _ e1 R1 rx h1 => ?_)
  split at h1
  · rename_i s hs
    obtain ⟨p, rfl⟩ := rd_refT rx hs
    have w := walks_tup R1 rx hs
    refine ⟨p, rfl, ?_, h1 _ H1 Z1 (.refl _) R1 w⟩
    cases a with
    | tup ds =>
      unfold Rd at rx
      obtain ⟨b, xs, e2, q, _⟩ := rx
      cases e2
      exact ⟨xs, Same.sqT R1.same q⟩
    | _ => cases hs
  · exact h1.elim⟩
/-- range(n), range(a, b) -/
def rangeD (lo : Int) (n : Nat) : List D := (List.range n).map fun (i : Nat) => .int (lo + i)
theorem walks_range {M : KM} {Z : Fz} {lo : Int} {n : Nat} : Walks M (Itr lo n) Z (.items (rangeD lo n)) := by
  intro i H1 Z1 m1 x R1
  unfold Src.at rangeD
  dsimp only
  by_cases hi : i < n
  · rw [List.getElem?_map, List.getElem?_range hi]
    refine ⟨hi, fun y H' hy => ?_⟩
    obtain ⟨rfl, rfl⟩ := hy
    exact ⟨Z1, .refl _, R1, rd_int⟩
  · rw [List.getElem?_eq_none (by rw [List.length_map, List.length_range]; omega)]
    exact Nat.le_of_not_lt hi
def dRng1 (f : DA) : DI := fun env m => (f env m).bind fun as m1 => match as with
  | [.int j] => if -(2 ^ 62) ≤ j ∧ j < 2 ^ 62 then .ok (.items (rangeD 0 j.toNat)) m1 else .bad
  | _ => .bad
def dRng2 (f : DA) : DI := fun env m => (f env m).bind fun as m1 => match as with
  | [.int i, .int j] => if -(2 ^ 62) ≤ i ∧ i < 2 ^ 62 ∧ -(2 ^ 62) ≤ j ∧ j < 2 ^ 62 then .ok (.items (rangeD i (j - i).toNat)) m1 else .bad
  | _ => .bad
variable {a b : Expr} {ta : TA} {fa : DA} {p pos : Pos}
theorem pid_range1 (hg : Gl X "range") (hm : X.mg "range" = none) (ha : PAD X W [a] ta fa) (hs : starEach [a] X.env = [(false, eval a X.env)] := by rfl) : PID X W tg (.Call (.Name "range" p) [a] [] pos) (iRng1 ta) (dRng1 fa) := ⟨pi_range1 hg hm ha.pa hs, fun σ H env m Z R RM E h => by
  refine ha.sn σ H env m Z _ RM E (PostI.bind h fun as m1 vs H1 Z1 _ e1 R1 rx h1 => ?_)
  split at h1
  · rename_i j
    split at h1
    · rename_i hj
      unfold RdL at rx
      obtain ⟨v, us, rfl, r1, rx⟩ := rx
      unfold RdL at rx
      subst rx
      unfold Rd at r1
      subst r1
      exact ⟨_, rfl, hj.1, hj.2, h1 _ H1 Z1 (.refl _) R1 walks_range⟩
    · exact h1.elim
  · exact h1.elim⟩
theorem pid_range2 (hg : Gl X "range") (hm : X.mg "range" = none) (ha : PAD X W [a, b] ta fa) (hs : starEach [a, b] X.env = [(false, eval a X.env), (false, eval b X.env)] := by rfl) (hs2 : starEach [b] X.env = [(false, eval b X.env)] := by rfl) : PID X W tg (.Call (.Name "range" p) [a, b] [] pos) (iRng2 ta) (dRng2 fa) := ⟨pi_range2 hg hm ha.pa hs hs2, fun σ H env m Z R RM E h => by
  refine ha.sn σ H env m Z _ RM E (PostI.bind h fun as m1 vs H1 Z1 _ e1 R1 rx h1 => ?_)
  split at h1
  · rename_i i j
    split at h1
    · rename_i hj
      unfold RdL at rx
      obtain ⟨v, us, rfl, r1, rx⟩ := rx
      unfold RdL at rx
      obtain ⟨v2, us2, rfl, r2, rx⟩ := rx
      unfold RdL at rx
      subst rx
      unfold Rd at r1 r2
      subst r1 r2
      exact ⟨_, _, rfl, hj, h1 _ H1 Z1 (.refl _) R1 walks_range⟩
    · exact h1.elim
  · exact h1.elim⟩
end

/-! ### for -/
def dForN (s : Src) (tg : DTg) (b : DS) : Nat → Nat → DS
  | 0, i => fun env m => match s.at m i with
    | some none => .nx env m
    | _ => .bad
  | n + 1, i => fun env m => match s.at m i with
    | some none => .nx env m
    | some (some d) => match tg d env with
      | some env1 => match b env1 m with
        | .nx e m2 => dForN s tg b n (i + 1) e m2
        | .ct e m2 => dForN s tg b n (i + 1) e m2
        | .bk e m2 => .nx e m2
        | r => r
      | none => .bad
    | none => .bad
def dFor (f : DI) (tg : DTg) (b : DS) : DS := fun env m => (f env m).to env fun s m1 => dForN s tg b (s.size m1) 0 env m1
theorem PostI.to {M : KM} {W : WXs} {σ : L2.St} {Z : Fz} {env : DEnv} {r : XO Src} {k : Src → DMem → SO} {T : Ends} {R : It → Hp → Prop} (E : RelE M Z σ env) (h : PostS M W Z (r.to env k) T)
    (step : ∀ s m1 J H1 Z1, r = .ok s m1 → Ext Z Z1 → RelM M Z1 H1 m1 → Walks M J Z1 s → PostS M W Z1 (k s m1) T → R J H1) : PostI M W σ Z r R := by
  cases r with
  | ok s m => exact fun J H' Z' e R' w => step s m J H' Z' rfl e R' w (PostS.ext e h)
  | ex c d m => exact h σ Z (.refl _) E
  | bad => exact h
theorem sn_for {M : KM} {W : WXs} {wi : TI} {fi : DI} {sl : List Nat} {g : TG} {fg : DTg} {tb : TS} {fb : DS} (hi : SndI M W wi fi) (hg : SndG M sl g fg) (hb : SndS M W tb fb) : SndS M W (tFor wi g tb) (dFor fi fg fb) := fun σ H env m Z T R E h => by
  refine hi σ H env m Z _ R E (PostI.to E h fun s m1 J H1 Z1 _ e1 R1 w h1 => ?_)
  refine ⟨fun i n σ' H' => ∃ env' m' Z', Ext Z1 Z' ∧ RelM M Z' H' m' ∧ RelE M Z' σ' env' ∧ PostS M W Z' (dForN s fg fb n i env' m') T, ⟨_, env, m1, Z1, .refl _, R1, E.mono e1, h1⟩, ?_⟩
  rintro i n σ2 H2 ⟨env2, m2, Z2, e2, R2, E2, h2⟩
  have wi := w i H2 Z2 m2 e2 R2
  cases n with
  | zero =>
    unfold dForN at h2
    split at h2
    · rename_i q
      rw [q] at wi
      exact .inl ⟨wi, h2 σ2 H2 Z2 (.refl _) R2 E2⟩
    · exact False.elim h2
  | succ n =>
    unfold dForN at h2
    split at h2
    · rename_i q
      rw [q] at wi
      exact .inl ⟨wi, h2 σ2 H2 Z2 (.refl _) R2 E2⟩
    · rename_i d q
      rw [q] at wi
      obtain ⟨go, yl⟩ := wi
      refine .inr ⟨go, fun σ' H' => ∃ env' m' Z', Ext Z1 Z' ∧ RelM M Z' H' m' ∧ RelE M Z' σ' env' ∧ PostS M W Z' (dForN s fg fb n (i + 1) env' m') T, fun σ' H' p => ⟨n, Nat.lt_succ_self n, p⟩, fun x H3 hy => ?_⟩
      obtain ⟨Z3, e3, R3, rx⟩ := yl x H3 hy
      split at h2
      · rename_i env3 q3
        refine hg x d σ2 H3 env2 m2 Z3 _ env3 R3 (E2.mono e3) rx q3 fun σ3 E3 _ => ?_
        refine hb σ3 H3 env3 m2 Z3 _ R3 E3 ?_
        cases q4 : fb env3 m2 with
        | nx e' m' => rw [q4] at h2; exact fun σ' H' Z' x R' E' => ⟨e', m', Z', (e2.trans e3).trans x, R', E', PostS.ext (e3.trans x) h2⟩
        | ct e' m' => rw [q4] at h2; exact fun σ' H' Z' x R' E' => ⟨e', m', Z', (e2.trans e3).trans x, R', E', PostS.ext (e3.trans x) h2⟩
        | bk _ _ => rw [q4] at h2; exact PostS.ext e3 (T := T) h2
        | rt _ _ => rw [q4] at h2; exact PostS.ext e3 (T := T) h2
        | ex _ _ _ _ => rw [q4] at h2; exact PostS.ext e3 (T := T) h2
        | bad => rw [q4] at h2; exact h2
      · exact False.elim h2
    · exact False.elim h2
section
variable {X : Cx} {W : WXs} {pos : Pos}
theorem psd_for {tg iter : Expr} {body : List Stmt} {wi : TI} {fi : DI} {sl : List Nat} {g : TG} {fg : DTg} {tb : TS} {fb : DS} (hp : PassesOwn (model X.prog X.w) X.A X.env X.xe) (hc : X.calm = true) (hi : PID X W tg iter wi fi) (hg : PGD X tg sl g fg) (hb : PSsD X W body tb fb)
    (hs : ∀ x, foldedSetIterable iter X.env x = pure x := by intro _; rfl) : PSD X W (.For tg iter body [] pos) (tFor wi g tb) (dFor fi fg fb) := ⟨ps_for hp hc hi.pi hg.pg hb.ps hs, sn_for hi.sn hg.sn hb.sn⟩
end

/-! ### comprehensions -/
theorem RelE.wipe {M : KM} {Z : Fz} {σ : L2.St} {env : DEnv} (h : RelE M Z σ env) : ∀ ws : List Nat, RelE M Z (L2.wipe σ ws) (wipeD env ws)
  | [] => h
  | w :: ws => (RelE.wipe h ws).unset w
/-- W0: no error leaves -/
abbrev W0 : WXs := fun _ _ _ _ => False
/-- the turns; the new list is the cell k -/
def dLcN (s : Src) (tg : DTg) (tt : DT) (fe : DE) (k : Nat) (env : DEnv) : Nat → Nat → DMem → XO Unit
  | 0, i => fun m => match s.at m i with
    | some none => .ok () m
    | _ => .bad
  | n + 1, i => fun m => match s.at m i with
    | some none => .ok () m
    | some (some d) => match tg d env with
      | some env1 => match tt env1 m with
        | .ok true m1 => match fe env1 m1 with
          | .ok a m2 => match m2[k]? with
            | some (some acc) => if acc.length < sizeLine ∧ a.noMr = true then dLcN s tg tt fe k env n (i + 1) (m2.set k (some (acc ++ [a]))) else .bad
            | _ => .bad
          | _ => .bad
        | .ok false m1 => dLcN s tg tt fe k env n (i + 1) m1
        | _ => .bad
      | none => .bad
    | none => .bad
/-- the new list still changes behind it -/
def dLcC (f : DI) (tg : DTg) (tt : DT) (fe : DE) (ws : List Nat) : DE := fun env m => (f env m).bind fun s m1 => (dLcN s tg tt fe m1.length (wipeD env ws) (s.size m1) 0 (m1 ++ [some []])).bind fun _ m2 => .ok (.mr m1.length) m2
/-- all cells from n on are frozen -/
def frzTo (n : Nat) (d : D) (m : DMem) : XO D := match frz m n d with
  | some d' => .ok d' (m.take n)
  | none => .bad
def dFrz (f : DE) : DE := fun env m => (f env m).bind fun d m1 => frzTo m.length d m1
def dLc (f : DI) (tg : DTg) (tt : DT) (fe : DE) (ws : List Nat) : DE := dFrz (dLcC f tg tt fe ws)
def dYes : DT := fun _ m => .ok true m
theorem sn_frz {M : KM} {W : WXs} {t : TE} {f : DE} (h : SndE M W t f) : SndE M W t (dFrz f) := fun σ H env m Z Q R E hp => by
  refine h σ H env m Z Q R E ?_
  unfold dFrz at hp
  cases q : f env m with
  | bad => rw [q] at hp; exact hp
  | ex c d m1 => rw [q] at hp; exact hp
  | ok d m1 =>
    rw [q] at hp
    have hp : Post M W σ Z (Rd M) (frzTo m.length d m1) Q := hp
    intro v H1 Z1 e1 R1 r1
    unfold frzTo at hp
    split at hp
    · rename_i d' q2
      exact hp v H1 (Z1.froz H1 m1 m.length) (R1.froz_ext e1 (Nat.le_of_eq R.len)) R1.froz (frz_rd R1 r1 q2)
    · exact hp.elim
theorem sn_lcC {M : KM} {W : WXs} {wi : TI} {fi : DI} {sl ws : List Nat} {g : TG} {fg : DTg} {tt : TT} {ft : DT} {te : TE} {fe : DE} (hi : SndI M W wi fi) (hg : SndG M sl g fg) (ht : SndT M W0 tt ft) (he : SndE M W0 te fe) (hw : ∀ i ∈ sl, i ∈ ws) : SndE M W (tLc wi g tt te ws) (dLcC fi fg ft fe ws) := fun σ H env m Z Q R E hp => by
  refine hi σ H env m Z _ R E ?_
  unfold dLcC at hp
  cases qs : fi env m with
  | bad => rw [qs] at hp; exact hp
  | ex c d m1 => rw [qs] at hp; exact hp
  | ok s m1 =>
    rw [qs] at hp
    have hp : Post M W σ Z (Rd M) ((dLcN s fg ft fe m1.length (wipeD env ws) (s.size m1) 0 (m1 ++ [some []])).bind fun _ m2 => .ok (.mr m1.length) m2) Q := hp
    intro J H1 Z1 e1 R1 w p hp'
    have hp := Post.ext (e1.trans (Z1.ext_cell p)) hp
    refine ⟨fun i n H' => ∃ m' Z', Ext (Z1.cell p) Z' ∧ RelM M Z' H' m' ∧ Post M W σ Z' (Rd M) ((dLcN s fg ft fe m1.length (wipeD env ws) n i m').bind fun _ m2 => .ok (.mr m1.length) m2) Q, ⟨_, _, _, .refl _, R1.new hp' .nil rfl, hp⟩, ?_⟩
    have atp : ∀ {Z' : Fz}, Ext (Z1.cell p) Z' → Z'.ρ[m1.length]? = some p := fun {Z'} x => x.pre _ _ (by
      show (Z1.ρ ++ [p])[m1.length]? = some p
      rw [← R1.len]
      simp)
    rintro i n H2 ⟨m2, Z2, e2, R2, h2⟩
    have wi := w i H2 Z2 m2 ((Z1.ext_cell p).trans e2) R2
    have E2 : RelE M Z2 (L2.wipe σ ws) (wipeD env ws) := (E.mono ((e1.trans (Z1.ext_cell p)).trans e2)).wipe ws
    have fin : Post M W σ Z2 (Rd M) (.ok (.mr m1.length) m2) Q → Q (.ref p) H2 := fun h => Post.here R2 (by unfold Rd; exact ⟨p, atp e2, rfl⟩) h
    cases n with
    | zero =>
      unfold dLcN at h2
      split at h2
      · rename_i q
        rw [q] at wi
        exact .inl ⟨wi, fin h2⟩
      · exact False.elim h2
    | succ n =>
      unfold dLcN at h2
      split at h2
      · rename_i q
        rw [q] at wi
        exact .inl ⟨wi, fin h2⟩
      · rename_i d q
        rw [q] at wi
        obtain ⟨go, yl⟩ := wi
        refine .inr ⟨go, fun H' => ∃ m' Z', Ext (Z1.cell p) Z' ∧ RelM M Z' H' m' ∧ Post M W σ Z' (Rd M) ((dLcN s fg ft fe m1.length (wipeD env ws) n (i + 1) m').bind fun _ m2 => .ok (.mr m1.length) m2) Q, fun H' p => ⟨n, Nat.lt_succ_self n, p⟩, fun x H3 hy => ?_⟩
        obtain ⟨Z3, e3, R3, rx⟩ := yl x H3 hy
        split at h2
        · rename_i env3 q3
          refine hg x d _ H3 _ m2 Z3 _ env3 R3 (E2.mono e3) rx q3 fun σ3 E3 w3 => ⟨(w3 ws hw).trans ?_, ?_⟩
          · have again : ∀ us : List Nat, (∀ u ∈ us, u ∈ ws) → L2.wipe (L2.wipe σ ws) us = L2.wipe σ ws := fun us => by
              induction us with
              | nil => intro _; rfl
              | cons u us ih =>
                intro hu
                show (L2.wipe (L2.wipe σ ws) us).set u none = _
                rw [ih fun z hz => hu z (List.mem_cons_of_mem _ hz)]
                have : ∀ {vs : List Nat}, u ∈ vs → (L2.wipe σ vs).set u none = L2.wipe σ vs := fun {vs} => by
                  induction vs with
                  | nil => intro h; cases h
                  | cons v vs ih2 =>
                    intro h
                    show ((L2.wipe σ vs).set v none).set u none = (L2.wipe σ vs).set v none
                    by_cases hv : v = u
                    · subst hv; rw [List.set_set]
                    · rw [List.set_comm _ _ hv, ih2 ((List.mem_cons.mp h).resolve_left (Ne.symm hv))]
                exact this (hu u List.mem_cons_self)
            exact again ws fun _ h => h
          refine ht σ3 H3 env3 m2 Z3 _ R3 E3 ?_
          cases q4 : ft env3 m2 with
          | bad => rw [q4] at h2; exact False.elim h2
          | ex _ _ _ => rw [q4] at h2; exact False.elim h2
          | ok b m4 =>
            rw [q4] at h2
            intro b' H4 Z4 e4 R4 rb
            subst rb
            cases b' with
            | false =>
              rw [if_neg Bool.false_ne_true]
              exact ⟨m4, Z4, (e2.trans e3).trans e4, R4, Post.ext (e3.trans e4) h2⟩
            | true =>
              rw [if_pos rfl]
              dsimp only at h2
              refine he σ3 H4 env3 m4 Z4 _ R4 (E3.mono e4) ?_
              cases q5 : fe env3 m4 with
              | bad => rw [q5] at h2; exact False.elim h2
              | ex _ _ _ => rw [q5] at h2; exact False.elim h2
              | ok a m5 =>
                rw [q5] at h2
                intro y H5 Z5 e5 R5 ry
                dsimp only at h2
                split at h2
                · rename_i acc q6
                  split at h2
                  · rename_i hl
                    obtain ⟨p', xs, g1, g2, g3, g4⟩ := R5.cell _ acc q6
                    have x5 := (((e2.trans e3).trans e4).trans e5)
                    have hp5 := atp x5
                    rw [hp5] at g1
                    cases g1
                    refine ⟨xs, g3, by rw [g4.length]; exact hl.1, _, Z5, x5, R5.put q6 hp5 (g4.append (.cons ry .nil)) ?_, Post.ext ((e3.trans e4).trans e5) h2⟩
                    have key : ∀ {l : List D}, D.noMrs l = true → D.noMrs (l ++ [a]) = true := fun {l} => by
                      induction l with
                      | nil => intro _; show (a.noMr && true) = true; rw [hl.2]; rfl
                      | cons z l ih =>
                        intro h
                        have h' : (z.noMr && D.noMrs l) = true := h
                        rw [Bool.and_eq_true] at h'
                        show (z.noMr && D.noMrs (l ++ [a])) = true
                        rw [h'.1, ih h'.2]
                        rfl
                    exact key (R5.low _ acc q6)
                  · exact False.elim h2
                · exact False.elim h2
        · exact False.elim h2
      · exact False.elim h2
end DX
end

section
set_option Elab.async false
set_option linter.all false
set_option maxRecDepth 100000
set_option maxHeartbeats 2000000
/-! DX6: defs of one's own (with the room for repr), built-in rules. -/
namespace DX
open PySem PySem.Spec PyProof.Rows L2

/-! ### a def's promise, with repr's room -/
structure FnG (P : Program) (w : World) (K : PySem.W.Frag) (mg : Str → Option Value) (base : Heap) (k : Nat) (f : Addr) (fd : FuncData) (ps : List Str) (sp : Sp) : Prop where
  len : ∀ vs H Q E, sp vs H Q E → vs.length = ps.length
  run : ∀ (A : Around) (outer : List Env) (s : Shared) (H : Hp) (args : Args) (us : List Value) (vs : List V) (Q : VK) (E : XK), A.guards = some [] → Room k A → Env0 P w K mg base A outer s H → BindsTo s fd args (ps.zip us) → Vals vs us → sp vs H Q E →
    codeAny (model P w) A (.call (.ref f) args) (CR (L2.CX P w) outer P w H s Q E) s
/-- the promise of a denotation -/
def spD (M : KM) (n : Nat) (F : List D → DMem → XO D) : Sp := fun vs H Q E => ∃ Z m ds, RelM M Z H m ∧ RdL M Z vs ds ∧ ds.length = n ∧ Post M (fun cls d _ H => E cls d H) [] Z (Rd M) (F ds m) Q
/-- a def by its body; fz: its own cells are frozen at its end -/
def dDef (n : Nat) (body : DS) (fz : Bool) : List D → DMem → XO D := fun ds m =>
  match body (ds.map some ++ List.replicate (n - ds.length) none) m with
  | .rt d m1 => if fz = true then frzTo m.length d m1 else .ok d m1
  | .nx _ m1 => if fz = true then frzTo m.length .non m1 else .ok .non m1
  | .ex c d _ m1 => match frz m1 m.length d with
    | some d' => .ex c d' (m1.take m.length)
    | none => .bad
  | _ => .bad
theorem fnG_of {P : Program} {w : World} {K : PySem.W.Frag} {mg : Str → Option Value} {base : Heap} {k : Nat} {f : Addr} {name qual : Str} {params : Arguments} {body : List Stmt} {scope : Scope} {dV kV doc pm cdv ct oc : Value} {an od : Option Addr}
    {osl : Array (Option Value)} {N ps : List Str} {sp : Sp} (lk : K.lookup f = some ⟨oc, od, .func (PySem.W.fnOf name qual params body scope dV kV doc pm an cdv ct), osl⟩) (hcd : PySem.W.codeIn K cdv qual = true) (S : FnScope N ps scope)
    (len : ∀ vs H Q E, sp vs H Q E → vs.length = ps.length)
    (hbody : ∀ (A : Around) (outer : List Env) (s : Shared) (H : Hp) (vs : List V) (Q : VK) (E : XK), A.guards = some [] → Room k (A.deeper (envOfC qual scope s.heap.objs.size f cdv)) → sp vs H Q E →
      ∃ t, PSs (cxOf (L2.CX P w) P w K mg base N qual scope f cdv A outer s H E) body t ∧ t { nx := fun _ H' => Q .non H', rt := Q } (L2.start N vs) H) :
    FnG P w K mg base (k + 1) f (PySem.W.fnOf name qual params body scope dV kV doc pm an cdv ct) ps sp := by
  refine ⟨len, fun A outer s H args us vs Q E hgA hr e0 hb r hsp => ?_⟩
  have hl := len _ _ _ _ hsp
  have KX : K.In s.heap := e0.mod.kin.keeps fun b o e => (e0.bs b o e).1
  have lim : s.heap.NoLimit := e0.mod.nolimit.keeps fun b o e => (e0.bs b o e).1
  have hkind : ∀ y ∈ ps.zip us, scope.names.lookup y.1 = some .local ∨ (scope.names.lookup y.1 = some .cell ∧ ((cellsFrom (s.heap.objs.size + 1) scope.names []).lookup y.1).isSome = true) := fun ⟨n, v⟩ hy => by
    rcases S.par n (List.of_mem_zip hy).1 with q | q
    · exact .inl q
    · exact .inr ⟨q, PySem.W.cellsFrom_some _ _ _ (.inl q)⟩
  refine codeAny_call_function hr.depth (KX _ _ lk) rfl S.co S.gen rfl (PySem.W.codeRec_of KX hcd) (hb _ _ _ _ ?_)
  refine wpAny_newFunctionEnv_cells S.kind hkind fun env he s1 x => ?_
  subst he
  refine ⟨lim.keeps x.toInCall.keep, codeAny_func ?_⟩
  obtain ⟨t, ht, hq⟩ := hbody A outer s H vs Q E hgA (hr.deeper _) hsp
  have I : Inv (cxOf (L2.CX P w) P w K mg base N qual scope f cdv A outer s H E) [] (L2.start N vs) H s1 := inv_start S hr.hd e0 hl r x
  refine wpAny_mono (ht.run [] s1 (L2.start N vs) H _ I hq) (fun fl s' hs => ?_) fun e s' hs => hs
  have fin : ∀ {σ' : L2.St} {H' : Hp} {v : V} {u : Value}, Inv (cxOf (L2.CX P w) P w K mg base N qual scope f cdv A outer s H E) [] σ' H' s' → RelV v u → Q v H' → CE outer P w H s Q u s' :=
    fun {σ' H' v u} J rv q => ⟨v, H', J.os, J.bare, J.base, J.hok, rv, q⟩
  cases fl with
  | ret u =>
    obtain ⟨v, σ', H', J, rv, q⟩ := hs
    exact fin J rv q
  | next =>
    obtain ⟨σ', H', J, q⟩ := hs
    exact fin (v := V.non) (u := Value.none) J rfl q
  | brk =>
    obtain ⟨_, _, _, q⟩ := hs
    exact False.elim q
  | cont =>
    obtain ⟨_, _, _, q⟩ := hs
    exact False.elim q
theorem start_rel {M : KM} {Z : Fz} : ∀ {ds : List D} {vs : List V} (N : List Str), RdL M Z vs ds → RelE M Z (L2.start N vs) (ds.map some ++ List.replicate (N.length - ds.length) none) := fun {ds vs} N r => by
  have hl := r.length
  unfold L2.start
  rw [hl]
  refine ⟨by simp [hl], fun i s h => ?_⟩
  by_cases hi : i < ds.length
  · rw [List.getElem?_append_left (by simpa using hi), List.getElem?_map] at h
    cases q : ds[i]? with
    | none => rw [q] at h; cases h
    | some d =>
      rw [q] at h
      have e : d = s := Option.some.inj (Option.some.inj h)
      subst e
      obtain ⟨v, h1, h2⟩ := r.get q
      refine ⟨v, ?_, h2⟩
      rw [List.getElem?_append_left (by rw [List.length_map, hl]; exact hi), List.getElem?_map, h1]
      rfl
  · rw [List.getElem?_append_right (by simpa using hi), List.getElem?_replicate] at h
    split at h <;> cases h
/-- THE RULE for a def: its body's denotation -/
theorem def_ok {P : Program} {w : World} {K : PySem.W.Frag} {mg : Str → Option Value} {base : Heap} {x qual : Str} {st : Stmt} {f : Addr} {fd : FuncData} {N ps : List Str} {k n : Nat} {fz : Bool} {body : DS} (F : Fun K x qual st f fd) (S : FnScope N ps (defScope st)) (hn : N.length = n)
    (hbody : ∀ (cdv : Value) (A : Around) (outer : List Env) (s : Shared) (H : Hp) (E : XK), A.guards = some [] → Room k (A.deeper (envOfC qual (defScope st) s.heap.objs.size f cdv)) →
      ∃ t, PSsD (cxOf (L2.CX P w) P w K mg base N qual (defScope st) f cdv A outer s H E) (fun cls d _ H => E cls d H) (defBody st) t body) :
    FnG P w K mg base (k + 1) f fd ps (spD ⟨K, mg⟩ ps.length (dDef n body fz)) := by
  obtain ⟨oc, od, kV, doc, pm, an, cdv, ct, osl, rfl, lk, hcd⟩ := F.ex
  refine fnG_of lk hcd S (fun vs H Q E h => ?_) fun A outer s H vs Q E hg hr hsp => ?_
  · obtain ⟨Z, m, ds, R, r, hl, _⟩ := h
    rw [r.length, hl]
  · obtain ⟨t, ht⟩ := hbody cdv A outer s H E hg hr
    refine ⟨t, ht.ps, ?_⟩
    obtain ⟨Z, m, ds, R, r, hl, h⟩ := hsp
    have hE := start_rel (M := ⟨K, mg⟩) N r
    rw [hn] at hE
    refine ht.sn (L2.start N vs) H _ m Z _ R hE ?_
    unfold dDef at h
    have out : ∀ {d : D} {m1 : DMem}, Post ⟨K, mg⟩ (fun cls d _ H => E cls d H) [] Z (Rd ⟨K, mg⟩) (if fz = true then frzTo m.length d m1 else .ok d m1) Q → ∀ v H' Z', Ext Z Z' → RelM ⟨K, mg⟩ Z' H' m1 → Rd ⟨K, mg⟩ Z' v d → Q v H' := fun {d m1} h v H' Z' e R' r' => by
      split at h
      · unfold frzTo at h
        split at h
        · rename_i d' q
          exact h v H' (Z'.froz H' m1 m.length) (R'.froz_ext e (Nat.le_of_eq R.len)) R'.froz (frz_rd R' r' q)
        · exact h.elim
      · exact h v H' Z' e R' r'
    cases q : body (ds.map some ++ List.replicate (n - ds.length) none) m with
    | rt d m1 => rw [q] at h; exact fun v H' Z' e R' r' => out h v H' Z' e R' r'
    | nx e m1 => rw [q] at h; exact fun σ' H' Z' e R' _ => out h .non H' Z' e R' rd_non
    | bk _ _ => rw [q] at h; exact h.elim
    | ct _ _ => rw [q] at h; exact h.elim
    | bad => rw [q] at h; exact h.elim
    | ex c d e1 m1 =>
      rw [q] at h
      dsimp only at h
      split at h
      · rename_i d' q2
        intro σ' Z1 e Er C dx v H' Z' hc e' R' h1 h2
        exact h C dx v H' (Z'.froz H' m1 m.length) hc (R'.froz_ext (e.trans e') (Nat.le_of_eq R.len)) R'.froz (R'.froz_same _ _ h1) (frz_rd R' h2 q2)
      · exact h.elim

/-! ### calls -/
section
variable {X : Cx} {W : WXs} {k : Nat} {f : Addr} {fd : FuncData} {ps : List Str} {x : Str} {p pos : Pos} {e : Expr} {es : List Expr} {t tk : TA} {fa fk : DA} {Fd : List D → DMem → XO D}
def tCallG (sp : Sp) (W : WXs) (t : TA) : TE := fun σ H Q => t σ H fun vs H1 => sp vs H1 Q fun cls d H' => W cls d σ H'
theorem run_fnG {pins : List (Addr × Obj)} {σ : L2.St} {H : Hp} {s : Shared} {Q : VK} {us : List Value} {vs : List V} {args : Args} {sp : Sp} {E : XK} (F : FnG X.prog X.w X.K X.mg X.base k f fd ps sp) (hgd : X.A.guards = some []) (hr : Room k X.A) (tk : Takes X W) (hE : ∀ cls d H', E cls d H' → W cls d σ H')
    (I : Inv X pins σ H s) (hb : BindsTo s fd args (ps.zip us)) (r : Vals vs us) (h : sp vs H Q E) : codeAny (model X.prog X.w) X.A (.call (.ref f) args) (fun r s' => match r with | .ok (.ret u) => EP X pins σ Q u s' | .ok _ => False | .error e => X.xe e s') s := by
  refine codeAny_mono (F.run X.A X.stack s H args us vs Q E hgd hr I.env0 hb r h) fun r s' hq => ?_
  cases r with
  | error e => exact tk e s' (XE.of_call I hE hq)
  | ok fl =>
    cases fl with
    | ret u => exact I.after hq
    | next => exact False.elim hq
    | brk => exact False.elim hq
    | cont => exact False.elim hq
theorem run_fnG' {pins : List (Addr × Obj)} {σ : L2.St} {H : Hp} {s : Shared} {Q : VK} {us : List Value} {kw : List (Str × Value)} {ws : List Value} {vs : List V} {sp : Sp} {E : XK} (F : FnG X.prog X.w X.K X.mg X.base k f fd ps sp) (hgd : X.A.guards = some []) (hr : Room k X.A) (tk : Takes X W) (hE : ∀ cls d H', E cls d H' → W cls d σ H')
    (I : Inv X pins σ H s) (hb : BindsTo s fd ⟨us, kw⟩ (ps.zip ws)) (r : Vals vs ws) (h : sp vs H Q E) : wpAny (model X.prog X.w) X.A (call (.ref f) us kw) (EP X pins σ Q) X.xe s := by
  refine wpAny_call (codeAny_mono (run_fnG F hgd hr tk hE I hb r h) fun r s' hq => ?_)
  cases r with
  | error e => exact hq
  | ok fl => cases fl <;> exact hq
/-- f(e, ..): the arguments as they stand, behind them the defaults dds -/
def dCall (Fd : List D → DMem → XO D) (fa : DA) : DE := fun env m => (fa env m).bind fun as m1 => Fd as m1
def dCallD (Fd : List D → DMem → XO D) (dds : List D) (fa : DA) : DE := fun env m => (fa env m).bind fun as m1 => Fd (as ++ dds) m1
theorem sn_call {M : KM} {n : Nat} (hn : ∀ env m as m1, fa env m = .ok as m1 → as.length = n) (ha : SndA M W t fa) : SndE M W (tCallG (spD M n Fd) W t) (dCall Fd fa) := fun σ H env m Z Q R E hp => by
  refine ha σ H env m Z _ R E (Post.bind hp fun as m1 vs H1 Z1 ea e1 R1 rx hp1 => ?_)
  refine ⟨Z1, m1, as, R1, rx, hn _ _ _ _ ea, ?_⟩
  cases q : Fd as m1 with
  | ok d m2 => rw [q] at hp1; exact hp1
  | ex c d m2 => rw [q] at hp1; exact hp1
  | bad => rw [q] at hp1; exact hp1
theorem pd_call (F : FnG X.prog X.w X.K X.mg X.base k f fd ps (spD (Cx.km X) ps.length Fd)) (hgd : X.A.guards = some []) (hr : Room k X.A) (hg : Gl X x) (hm : X.mg x = some (.ref f)) (hk : PySem.W.keepIn X.K (.ref f) = true) (hb : Binds X.K fd ps []) (tk : Takes X W)
    (ha : PAD X W (e :: es) t fa) (hn : ∀ env m as m1, fa env m = .ok as m1 → as.length = ps.length) (hdb : (x == ("__debug__" : Str)) = false := by decide) (he : starEach (e :: es) X.env = (false, eval e X.env) :: starEach es X.env := by rfl) (hpl : (backTo pos (starEach es X.env)).any (·.1) = false := by rfl) :
    PD X W (.Call (.Name x p) (e :: es) [] pos) (tCallG (spD (Cx.km X) ps.length Fd) W t) (dCall Fd fa) := by
  refine ⟨⟨fun pins s σ H Q I h => ?_⟩, sn_call hn ha.sn⟩
  refine wpAny_Call_Name_kw (ld_glob I hg hm ?_ hdb)
  refine PySem.W.callWith_K (h₀ := X.base) I.ok.mod.kin hk (thn (ha.pa.run pos pins s σ H _ I h) fun us s1 ⟨vs, H1, I1, r, q⟩ => ⟨I1.kIn, ?_⟩) he hpl
  have hl : (us ++ []).length = ps.length := by rw [List.append_nil, ← r.length]; exact F.len _ _ _ _ q
  have hbt := hb s1 us I1.kIn hl
  rw [List.append_nil] at hbt
  exact run_fnG' F hgd hr tk (fun _ _ _ h => h) I1 hbt r q
/-- f() -/
theorem pd_call0 (F : FnG X.prog X.w X.K X.mg X.base k f fd ps (spD (Cx.km X) ps.length Fd)) (hgd : X.A.guards = some []) (hr : Room k X.A) (hg : Gl X x) (hm : X.mg x = some (.ref f)) (hk : PySem.W.keepIn X.K (.ref f) = true) (hb : Binds X.K fd ps []) (tk : Takes X W) (hn : ps.length = 0)
    (hdb : (x == ("__debug__" : Str)) = false := by decide) : PD X W (.Call (.Name x p) [] [] pos) (tCallG (spD (Cx.km X) ps.length Fd) W tNil) (dCall Fd dNil) := by
  refine ⟨⟨fun pins s σ H Q I h => ?_⟩, sn_call (fun env m as m1 e => by cases e; exact hn.symm) pad_nil.sn (M := Cx.km X) (W := W)⟩
  refine wpAny_Call_Name_kw (ld_glob I hg hm ?_ hdb)
  have h : spD (Cx.km X) ps.length Fd [] H Q _ := h
  have hl : ([] ++ [] : List Value).length = ps.length := by rw [hn]; rfl
  have hbt := hb s [] I.kIn hl
  exact PySem.W.callWith_K0 I.kIn hk (run_fnG' F hgd hr tk (fun _ _ _ h => h) I hbt .nil h)
/-- f(k = e, ..): keywords alone; perm puts the values in the parameters' order -/
def dCallK (Fd : List D → DMem → XO D) (gD : List D → List D) (fk : DA) : DE := fun env m => (fk env m).bind fun as m1 => Fd (gD as) m1
end
/-- the length of an argument list's value -/
theorem len_nil {env : DEnv} {m m1 : DMem} {as : List D} (h : dNil env m = .ok as m1) : as.length = 0 := by cases h; rfl
theorem len_cons {f : DE} {g : DA} {n : Nat} (hg : ∀ env m as m1, g env m = .ok as m1 → as.length = n) : ∀ env m as m1, dCons f g env m = .ok as m1 → as.length = n + 1 := fun env m as m1 h => by
  obtain ⟨a, m2, _, h⟩ := bind_ok h
  obtain ⟨bs, m3, h2, h⟩ := bind_ok h
  cases h
  rw [List.length_cons, hg _ _ _ _ h2]
theorem len0 : ∀ env m as m1, dNil env m = .ok as m1 → as.length = 0 := fun _ _ _ _ h => len_nil h

/-! ### repr -/
def gRepr : List D → Option D
  | [d] => if d.pure = true ∧ d.py.showable = true ∧ d.py.hasDict = false ∧ d.py.depth + 2 ≤ 64 ∧ d.py.shown.length ≤ sizeLine then some (.str d.py.shown) else none
  | _ => none
def rReprD (K : PySem.W.Frag) : List V → Hp → VK → Prop := fun xs H Q => ∃ x d, xs = [x] ∧ Dp K H x d ∧ d.showable = true ∧ d.hasDict = false ∧ d.depth + 2 ≤ 64 ∧ d.shown.length ≤ sizeLine ∧ Q (.str d.shown) H
theorem call_reprD {X : Cx} (hgd : X.A.guards = some []) (hu : X.A.units + 64 < cLine) : CallR X (.builtin "repr") (rReprD X.K) := by
  intro pins s σ H xs us Q I r h
  obtain ⟨x, d, rfl, hd, h1, h2, h3, h4, q⟩ := h
  obtain ⟨u, rfl, rx⟩ := vals1 r
  obtain ⟨as, hr⟩ := Dp.reads I d x u hd rx
  have fin : ∀ h' t tk, (∀ b o, s.heap.get? b = some o → h'.get? b = some o) → EP X pins σ Q (.str d.shown t) { s with heap := h', toks := tk } := fun h' t tk hk => ⟨.str d.shown, H, I.kept (t' := tk) hk, ⟨t, rfl⟩, q⟩
  cases hr with
  | none =>
    refine PySem.P.repr_of_none ?_
    have := fin s.heap s.toks (s.toks + 1) (fun _ _ e => e)
    simp only [PyData.shown] at this
    exact this
  | bool b =>
    refine PySem.P.repr_of_bool ?_
    have := fin s.heap s.toks (s.toks + 1) (fun _ _ e => e)
    simp only [PyData.shown] at this
    exact this
  | int i t =>
    refine PySem.P.repr_of_int (by simpa [PyData.showable] using h1) ?_
    have := fin s.heap s.toks (s.toks + 1) (fun _ _ e => e)
    simp only [PyData.shown] at this
    exact this
  | str y t =>
    have := fin s.heap s.toks (s.toks + 1) (fun _ _ e => e)
    simp only [PyData.shown] at this h4
    exact PySem.P.repr_of_str this h4
  | list a b c e => exact repr_of_reads' (.list a b c e) h1 (fun z => by rw [h2] at z; cases z) hgd (by omega) (fun _ _ e => e) fin h4
  | tuple a b c e => exact repr_of_reads' (.tuple a b c e) h1 (fun z => by rw [h2] at z; cases z) hgd (by omega) (fun _ _ e => e) fin h4
  | dict a b c e g => exact repr_of_reads' (.dict a b c e g) h1 (fun z => by rw [h2] at z; cases z) hgd (by omega) (fun _ _ e => e) fin h4
/-- read in H as a whole -/
theorem RdQ.dp {M : KM} {Z : Fz} {H : Hp} {m : DMem} {v : V} {d : D} (R : RelM M Z H m) (h : RdQ M Z H v d) (p : d.pure = true) : Dp M.K H v d.py := by
  cases d with
  | lst ds =>
    obtain ⟨a, xs, rfl, q, r⟩ := h
    exact .lst q (RdL.dps (RdL.mono R.up r) p)
  | tup ds =>
    obtain ⟨a, xs, rfl, q, r⟩ := h
    exact .tup q (RdL.dps (RdL.mono R.up r) p)
  | non => exact Rd.dp (Rd.mono R.up (show Rd M Z v .non from h)) p
  | bl b => exact Rd.dp (Rd.mono R.up (show Rd M Z v (.bl b) from h)) p
  | int b => exact Rd.dp (Rd.mono R.up (show Rd M Z v (.int b) from h)) p
  | str b => exact Rd.dp (Rd.mono R.up (show Rd M Z v (.str b) from h)) p
  | exn b c => cases p
  | mr b => cases p
  | scr b => cases p
theorem cs_repr {M : KM} : CallS M (rReprD M.K) gRepr := fun vs ds H Z m Q z R rx e k => by
  unfold gRepr at e
  split at e
  · split at e
    · rename_i h
      cases e
      obtain ⟨x, rfl, r⟩ := paired1 rx
      exact ⟨x, _, rfl, r.dp R h.1, h.2.1, h.2.2.1, h.2.2.2.1, h.2.2.2.2, k _ H Z (.refl _) R rd_str⟩
    · cases e
  · cases e
end DX
end

section
set_option Elab.async false
set_option linter.all false
set_option maxRecDepth 100000
set_option maxHeartbeats 2000000
/-! DX7: the built-in calls as rules; calls by keywords; cells changed. -/
namespace DX
open PySem PySem.Spec PyProof.Rows L2

section
variable {X : Cx} {W : WXs} {e a b : Expr} {es : List Expr} {p pos : Pos} {te ta tb : TE} {fe fa fb : DE} {t : TA} {f : DA}
theorem pd_len (hg : Gl X "len") (hm : X.mg "len" = none) (ha : PAD X W [e] t f) (hst : starEach [e] X.env = (false, eval e X.env) :: starEach [] X.env := by rfl) (hpl : (backTo pos (starEach [] X.env)).any (·.1) = false := by rfl) : PD X W (.Call (.Name "len" p) [e] [] pos) (tCB (fun xs H Q => ∃ x n, xs = [x] ∧ LenV X.K x H n ∧ Q (.int n) H) t) (dB gLen f) :=
  ⟨pe_callB call_len hg hm PySem.boot_len ha.pa (by decide) (by decide) hst hpl, sn_b cs_len ha.sn⟩
theorem pd_sum (hc : X.calm = true) (hg : Gl X "sum") (hm : X.mg "sum" = none) (ha : PAD X W [e] t f) (hst : starEach [e] X.env = (false, eval e X.env) :: starEach [] X.env := by rfl) (hpl : (backTo pos (starEach [] X.env)).any (·.1) = false := by rfl) : PD X W (.Call (.Name "sum" p) [e] [] pos) (tCB (rSum X.K) t) (dB gSum f) :=
  ⟨pe_callB (cr_sum hc) hg hm boot_sum ha.pa (by decide) (by decide) hst hpl, sn_b cs_sum ha.sn⟩
theorem pd_max2 (hc : X.calm = true) (hg : Gl X "max") (hm : X.mg "max" = none) (ha : PAD X W [a, b] t f) (hst : starEach [a, b] X.env = (false, eval a X.env) :: starEach [b] X.env := by rfl) (hpl : (backTo pos (starEach [b] X.env)).any (·.1) = false := by rfl) : PD X W (.Call (.Name "max" p) [a, b] [] pos) (tCB (fun xs H Q => ∃ i j, xs = [.int i, .int j] ∧ Q (.int (if j > i then j else i)) H) t) (dB gMax2 f) :=
  ⟨pe_callB (call_max2 hc) hg hm boot_max ha.pa (by decide) (by decide) hst hpl, sn_b cs_max2 ha.sn⟩
theorem pd_min2 (hc : X.calm = true) (hg : Gl X "min") (hm : X.mg "min" = none) (ha : PAD X W [a, b] t f) (hst : starEach [a, b] X.env = (false, eval a X.env) :: starEach [b] X.env := by rfl) (hpl : (backTo pos (starEach [b] X.env)).any (·.1) = false := by rfl) : PD X W (.Call (.Name "min" p) [a, b] [] pos) (tCB (fun xs H Q => ∃ i j, xs = [.int i, .int j] ∧ Q (.int (if j < i then j else i)) H) t) (dB gMin2 f) :=
  ⟨pe_callB (call_min2 hc) hg hm boot_min ha.pa (by decide) (by decide) hst hpl, sn_b cs_min2 ha.sn⟩
theorem pd_intOf (hg : Gl X "int") (hm : X.mg "int" = none) (ha : PAD X W [e] t f) (hst : starEach [e] X.env = (false, eval e X.env) :: starEach [] X.env := by rfl) (hpl : (backTo pos (starEach [] X.env)).any (·.1) = false := by rfl) : PD X W (.Call (.Name "int" p) [e] [] pos) (tCB (fun xs H Q => (∃ i, xs = [.int i] ∧ Q (.int i) H) ∨ ∃ k, xs = [.bl k] ∧ Q (.int (if k then 1 else 0)) H) t) (dB gInt f) :=
  ⟨pe_callTy call_int1 hg hm (by decide +kernel) ha.pa (by decide) (by decide) hst hpl, sn_b cs_int ha.sn⟩
theorem pd_listOf (hg : Gl X "list") (hm : X.mg "list" = none) (ha : PAD X W [e] t f) (hst : starEach [e] X.env = (false, eval e X.env) :: starEach [] X.env := by rfl) (hpl : (backTo pos (starEach [] X.env)).any (·.1) = false := by rfl) : PD X W (.Call (.Name "list" p) [e] [] pos) (tCB (DX.rListD X.K) t) (dB gList f) :=
  ⟨pe_callTy call_list_of hg hm (by decide +kernel) ha.pa (by decide) (by decide) hst hpl, sn_b cs_list ha.sn⟩
theorem pd_tupleOf (hg : Gl X "tuple") (hm : X.mg "tuple" = none) (ha : PAD X W [e] t f) (hst : starEach [e] X.env = (false, eval e X.env) :: starEach [] X.env := by rfl) (hpl : (backTo pos (starEach [] X.env)).any (·.1) = false := by rfl) : PD X W (.Call (.Name "tuple" p) [e] [] pos) (tCB (fun xs H Q => ∃ p ys, xs = [.ref p] ∧ ((SqL X.K H p ys ∧ ∀ l, H l = none → Q (.ref l) (upd H l (.tup ys))) ∨ (SqT X.K H p ys ∧ Q (.ref p) H))) t) (dB gTuple f) :=
  ⟨pe_callTy call_tuple_of hg hm (by decide +kernel) ha.pa (by decide) (by decide) hst hpl, sn_b cs_tuple ha.sn⟩
theorem pd_repr (hgd : X.A.guards = some []) (hu : X.A.units + 64 < cLine) (hg : Gl X "repr") (hm : X.mg "repr" = none) (ha : PAD X W [e] t f) (hst : starEach [e] X.env = (false, eval e X.env) :: starEach [] X.env := by rfl) (hpl : (backTo pos (starEach [] X.env)).any (·.1) = false := by rfl) : PD X W (.Call (.Name "repr" p) [e] [] pos) (tCB (rReprD X.K) t) (dB gRepr f) :=
  ⟨pe_callB (call_reprD hgd hu) hg hm boot_repr ha.pa (by decide) (by decide) hst hpl, sn_b cs_repr ha.sn⟩

/-! ### n.bit_length() -/
def gBits : D → Option D
  | .int i => some (.int (Builtin.Int.intBits i : Nat))
  | _ => none
def dRaw (g : D → Option D) (f : DE) : DE := fun env m => (f env m).bind fun a m1 => match g a with
  | some z => .ok z m1
  | none => .bad
theorem pd_bits {apos : Pos} (ha : PD X W a ta fa) (hbase : attributeBase a "bit_length" X.env (eval a X.env) = eval a X.env := by rfl) (hline : (apos.endLine == pos.line) = true := by rfl) : PD X W (.Call (.Attribute a "bit_length" apos) [] [] pos) (tBits ta) (dRaw gBits fa) :=
  ⟨pe_bits ha.pe hbase hline, fun σ H env m Z Q R E hp => by
    refine ha.sn σ H env m Z _ R E (Post.bind hp fun d m1 x H1 Z1 _ e1 R1 rx hp1 => ?_)
    split at hp1
    · rename_i z ez
      unfold gBits at ez
      split at ez
      · cases ez
        unfold Rd at rx
        exact ⟨_, rx, Post.here R1 rd_int hp1⟩
      · cases ez
    · exact hp1.elim⟩
/-! ### s.strip(t) -/
def dStrip (f : DE) (fs : DA) : DE := fun env m => (f env m).bind fun o m1 => match o with
  | .str y => (fs env m1).bind fun as m2 => match as with
    | [.str b] => if y.length ≤ sizeLine then .ok (.str (Txt.stripChars y b)) m2 else .bad
    | _ => .bad
  | _ => .bad
theorem pd_strip {apos : Pos} (ha : PD X W a ta fa) (hs : PAD X W [e] t f) (hbase : attributeBase a "strip" X.env (eval a X.env) = eval a X.env := by rfl)
    (hfew : ((backTo pos (starEach [e] X.env)).all (fun x => !x.1) && (backToKw pos (keywordEach [] X.env)).all (fun x => x.1.isSome)
      && decide ([e].length + ([] : List Keyword).length + (if ([] : List Keyword).isEmpty then 0 else 1) < 30)) = true := by rfl)
    (hline : (apos.endLine == pos.line) = true := by rfl) (hst : starEach [e] X.env = (false, eval e X.env) :: starEach [] X.env := by rfl) (hplain : (backTo pos (starEach [] X.env)).any (·.1) = false := by rfl) :
    PD X W (.Call (.Attribute a "strip" apos) [e] [] pos) (tBM X.K "str" (fun x xs H Q => ∃ a b, x = .str a ∧ xs = [.str b] ∧ a.length ≤ sizeLine ∧ Q (.str (Txt.stripChars a b)) H) ta t) (dStrip fa f) :=
  ⟨pe_bm PySem.F.plainAttrs_str PySem.F.slot_str_strip PySem.F.type_str_strip mt_stripChars ha.pe hs.pa hbase hfew hline hst hplain, fun σ H env m Z Q R E hp => by
    refine ha.sn σ H env m Z _ R E (Post.bind hp fun d m1 x H1 Z1 _ e1 R1 rx hp1 => ?_)
    split at hp1
    · unfold Rd at rx
      subst rx
      refine ⟨rfl, ?_⟩
      refine hs.sn σ H1 env m1 Z1 _ R1 (E.mono e1) (Post.bind hp1 fun as m2 vs H2 Z2 _ e2 R2 rxs hp2 => ?_)
      split at hp2
      · split at hp2
        · rename_i hl
          unfold RdL at rxs
          obtain ⟨v, us, rfl, r1, rxs⟩ := rxs
          unfold RdL at rxs
          subst rxs
          unfold Rd at r1
          subst r1
          exact ⟨_, _, rfl, rfl, hl, Post.here R2 rd_str hp2⟩
        · exact hp2.elim
      · exact hp2.elim
    · exact hp1.elim⟩

/-! ### xs.append(e), xs.pop(), a cell -/
def cellAt (k : Nat) (m : DMem) : Option (List D) := match m[k]? with
  | some (some es) => some es
  | _ => none
theorem cellAt_iff {k : Nat} {m : DMem} {es : List D} (h : cellAt k m = some es) : m[k]? = some (some es) := by
  unfold cellAt at h
  split at h
  · cases h; assumption
  · cases h
theorem noMrs_append {a : D} : ∀ {l : List D}, D.noMrs l = true → a.noMr = true → D.noMrs (l ++ [a]) = true
  | [], _, ha => by show (a.noMr && true) = true; rw [ha]; rfl
  | z :: l, h, ha => by
    have h' : (z.noMr && D.noMrs l) = true := h
    rw [Bool.and_eq_true] at h'
    show (z.noMr && D.noMrs (l ++ [a])) = true
    rw [h'.1, noMrs_append h'.2 ha]
    rfl
def dAppend (f : DE) (fs : DA) : DE := fun env m => (f env m).bind fun o m1 => match o with
  | .mr k => match cellAt k m1 with
    | some _ => (fs env m1).bind fun as m2 => match as with
      | [a] => match cellAt k m2 with
        | some es => if es.length < sizeLine ∧ a.noMr = true then .ok .non (m2.set k (some (es ++ [a]))) else .bad
        | none => .bad
      | _ => .bad
    | none => .bad
  | _ => .bad
theorem cell_rd {M : KM} {Z : Fz} {H : Hp} {m : DMem} {k : Nat} {es : List D} {x : V} (R : RelM M Z H m) (r : Rd M Z x (.mr k)) (h : cellAt k m = some es) : ∃ l xs, x = .ref l ∧ Z.ρ[k]? = some l ∧ H l = some (.lst xs) ∧ RdL M Z xs es := by
  unfold Rd at r
  obtain ⟨l, h1, rfl⟩ := r
  obtain ⟨a, xs, g1, g2, g3, g4⟩ := R.cell k es (cellAt_iff h)
  rw [h1] at g1
  cases g1
  exact ⟨l, xs, rfl, h1, g3, g4⟩
theorem pd_append {apos : Pos} (ha : PD X W a ta fa) (hs : PAD X W [e] t f) (hbase : attributeBase a "append" X.env (eval a X.env) = eval a X.env := by rfl)
    (hfew : ((backTo pos (starEach [e] X.env)).all (fun x => !x.1) && (backToKw pos (keywordEach [] X.env)).all (fun x => x.1.isSome)
      && decide ([e].length + ([] : List Keyword).length + (if ([] : List Keyword).isEmpty then 0 else 1) < 30)) = true := by rfl)
    (hline : (apos.endLine == pos.line) = true := by rfl) (hst : starEach [e] X.env = (false, eval e X.env) :: starEach [] X.env := by rfl) (hplain : (backTo pos (starEach [] X.env)).any (·.1) = false := by rfl) :
    PD X W (.Call (.Attribute a "append" apos) [e] [] pos) (tBM X.K "list" rAppend ta t) (dAppend fa f) :=
  ⟨pe_bm PySem.F.plainAttrs_list PySem.F.slot_list_append PySem.F.type_list_append mt_append ha.pe hs.pa hbase hfew hline hst hplain, fun σ H env m Z Q R E hp => by
    refine ha.sn σ H env m Z _ R E (Post.bind hp fun d m1 x H1 Z1 _ e1 R1 rx hp1 => ?_)
    split at hp1
    · rename_i k
      split at hp1
      · rename_i es0 q0
        obtain ⟨l, xs, rfl, hl, hH, _⟩ := cell_rd R1 rx q0
        refine ⟨.inl ⟨rfl, xs, SqL.of hH⟩, ?_⟩
        refine hs.sn σ H1 env m1 Z1 _ R1 (E.mono e1) (Post.bind hp1 fun as m2 vs H2 Z2 _ e2 R2 rxs hp2 => ?_)
        split at hp2
        · split at hp2
          · rename_i es q
            split at hp2
            · rename_i hz
              unfold RdL at rxs
              obtain ⟨v, us, rfl, r1, rxs⟩ := rxs
              unfold RdL at rxs
              subst rxs
              obtain ⟨l2, ys, el, hl2, hH2, ry⟩ := cell_rd R2 (rx.mono e2) q
              cases el
              refine ⟨l, ys, v, rfl, rfl, hH2, by rw [ry.length]; exact hz.1, ?_⟩
              exact hp2 _ _ Z2 (.refl _) (R2.put (cellAt_iff q) hl2 (ry.append (.cons r1 .nil)) (noMrs_append (R2.low _ _ (cellAt_iff q)) hz.2)) rd_non
            · exact hp2.elim
          · exact hp2.elim
        · exact hp2.elim
      · exact hp1.elim
    · exact hp1.elim⟩
def dPop (f : DE) : DE := fun env m => (f env m).bind fun o m1 => match o with
  | .mr k => match cellAt k m1 with
    | some es => match es[es.length - 1]? with
      | some a => .ok a (m1.set k (some es.dropLast))
      | none => .bad
    | none => .bad
  | _ => .bad
theorem noMrs_take : ∀ {l : List D} (n : Nat), D.noMrs l = true → D.noMrs (l.take n) = true
  | [], n, _ => by rw [List.take_nil]; rfl
  | z :: l, 0, _ => rfl
  | z :: l, n + 1, h => by
    have h' : (z.noMr && D.noMrs l) = true := h
    rw [Bool.and_eq_true] at h'
    show (z.noMr && D.noMrs (l.take n)) = true
    rw [h'.1, noMrs_take n h'.2]
    rfl
theorem pd_pop {apos : Pos} (ha : PD X W a ta fa) (hbase : attributeBase a "pop" X.env (eval a X.env) = eval a X.env := by rfl) (hline : (apos.endLine == pos.line) = true := by rfl) :
    PD X W (.Call (.Attribute a "pop" apos) [] [] pos) (tBM0 X.K "list" rPop ta) (dPop fa) :=
  ⟨pe_bm0 PySem.F.plainAttrs_list PySem.F.slot_list_pop PySem.F.type_list_pop mt_pop ha.pe hbase hline, fun σ H env m Z Q R E hp => by
    refine ha.sn σ H env m Z _ R E (Post.bind hp fun d m1 x H1 Z1 _ e1 R1 rx hp1 => ?_)
    split at hp1
    · rename_i k
      split at hp1
      · rename_i es q
        split at hp1
        · rename_i a ea
          obtain ⟨l, xs, rfl, hl, hH, ry⟩ := cell_rd R1 rx q
          refine ⟨.inl ⟨rfl, xs, SqL.of hH⟩, ?_⟩
          obtain ⟨v, h1, h2⟩ := ry.get ea
          refine ⟨l, xs, v, rfl, rfl, hH, by rw [ry.length]; exact h1, ?_⟩
          have hd : RdL (Cx.km X) Z1 xs.dropLast es.dropLast := by
            rw [List.dropLast_eq_take, List.dropLast_eq_take, ry.length]
            exact ry.take _
          exact hp1 _ _ Z1 (.refl _) (R1.put (cellAt_iff q) hl hd (by rw [List.dropLast_eq_take]; exact noMrs_take _ (R1.low _ _ (cellAt_iff q)))) h2
        · exact hp1.elim
      · exact hp1.elim
    · exact hp1.elim⟩

/-! ### xs[i] = e, a cell -/
def dSetIx (f : DE) (fo fi : DE) : DS := fun env m => (f env m).to env fun a m1 => (fo env m1).to env fun o m2 => (fi env m2).to env fun i m3 => match o, i with
  | .mr k, .int j => match cellAt k m3 with
    | some es => match ixN es.length j with
      | some n => if a.noMr = true then .nx env (m3.set k (some (es.set n a))) else .bad
      | none => .bad
    | none => .bad
  | _, _ => .bad
theorem noMrs_set {a : D} (ha : a.noMr = true) : ∀ {l : List D} (n : Nat), D.noMrs l = true → D.noMrs (l.set n a) = true
  | [], _, _ => rfl
  | z :: l, 0, h => by
    have h' : (z.noMr && D.noMrs l) = true := h
    rw [Bool.and_eq_true] at h'
    show (a.noMr && D.noMrs l) = true
    rw [ha, h'.2]
    rfl
  | z :: l, n + 1, h => by
    have h' : (z.noMr && D.noMrs l) = true := h
    rw [Bool.and_eq_true] at h'
    show (z.noMr && D.noMrs (l.set n a)) = true
    rw [h'.1, noMrs_set ha n h'.2]
    rfl
theorem psd_setIx {o i : Expr} {to ti : TE} {fo fi : DE} {tpos : Pos} (he : PD X W e te fe) (ho : PD X W o to fo) (hi : PD X W i ti fi)
    (hs : swapsWithSole [.Subscript o i tpos] e pos.line X.env = pure false := by rfl) (hw : swappedStores [.Subscript o i tpos] e X.env = pure none := by rfl)
    (h1 : (assignEach [.Subscript o i tpos] X.env).map (·.2) = [assign (.Subscript o i tpos) X.env] := by rfl)
    (ha : ∀ v, assign (.Subscript o i tpos) X.env v = (do
      let ov ← holding [v] (eval o X.env)
      let iv ← holding [v, ov] (eval i X.env)
      standAt tpos
      holding [v, ov, iv] (setItem ov iv v)
      release [v, ov, iv] []) := by intro _; rfl) : PSD X W (.Assign [.Subscript o i tpos] e pos) (tAsg te (L2.gSub to ti rSetL)) (dSetIx fe fo fi) :=
  ⟨ps_asg he.pe (pg_sub ho.pe hi.pe set_list ha) hs hw h1, fun σ H env m Z T R E h => by
    refine he.sn σ H env m Z _ R E (PostS.to E h fun a m1 x H1 Z1 _ e1 R1 rx h1 => ?_)
    refine ho.sn σ H1 env m1 Z1 _ R1 (E.mono e1) (PostS.to (E.mono e1) h1 fun ov m2 y H2 Z2 _ e2 R2 ry h2 => ?_)
    refine hi.sn σ H2 env m2 Z2 _ R2 (E.mono (e1.trans e2)) (PostS.to (E.mono (e1.trans e2)) h2 fun iv m3 z H3 Z3 _ e3 R3 rz h3 => ?_)
    split at h3
    · rename_i k j
      split at h3
      · rename_i es q
        split at h3
        · rename_i n hn
          split at h3
          · rename_i ha
            obtain ⟨l, xs, rfl, hl, hH, r⟩ := cell_rd R3 (ry.mono e3) q
            unfold Rd at rz
            subst rz
            refine ⟨l, xs, _, n, rfl, rfl, hH, by rw [r.length]; exact hn, ?_⟩
            exact h3 σ _ Z3 (.refl _) (R3.put (cellAt_iff q) hl (RdL.set n (rx.mono (e2.trans e3)) r) (noMrs_set ha n (R3.low _ _ (cellAt_iff q)))) (E.mono ((e1.trans e2).trans e3))
          · exact h3.elim
        · exact h3.elim
      · exact h3.elim
    · exact h3.elim⟩

/-! ### list(range(..)) -/
def dListRng1 (f : DE) : DE := fun env m => (f env m).bind fun a m1 => match a with
  | .int n => if -(2 ^ 62) ≤ n ∧ n ≤ 16777216 then .ok (.lst (rangeD 0 n.toNat)) m1 else .bad
  | _ => .bad
theorem rdl_range {M : KM} {Z : Fz} {a b : Int} : RdL M Z (rgV a b) (rangeD a (b - a).toNat) := by
  unfold rgV rangeD
  generalize List.range (b - a).toNat = l
  induction l with
  | nil => exact .nil
  | cons x l ih => exact .cons rd_int ih
theorem pd_listRng1 {p2 pos2 : Pos} (hc : X.calm = true) (hg : Gl X "list") (hm : X.mg "list" = none) (hg2 : Gl X "range") (hm2 : X.mg "range" = none) (ha : PD X W a ta fa) (na : starEach [a] X.env = (false, eval a X.env) :: starEach [] X.env := by rfl)
    (na2 : starEach [.Call (.Name "range" p2) [a] [] pos2] X.env = (false, eval (.Call (.Name "range" p2) [a] [] pos2) X.env) :: starEach [] X.env := by rfl) : PD X W (.Call (.Name "list" p) [.Call (.Name "range" p2) [a] [] pos2] [] pos) (tLstRg (tRg1 ta)) (dListRng1 fa) :=
  ⟨pe_listRg hc hg hm (prg_1 hg2 hm2 ha.pe na) na2, fun σ H env m Z Q R E hp => by
    refine ha.sn σ H env m Z _ R E (Post.bind hp fun d m1 x H1 Z1 _ e1 R1 rx hp1 => ?_)
    split at hp1
    · rename_i n _
      split at hp1
      · rename_i hn
        unfold Rd at rx
        refine ⟨n, rx, ⟨by omega, by omega, by omega, by omega, by omega⟩, fun q hq => hp1 _ _ _ (R1.ext hq) (R1.alloc hq) ?_⟩
        unfold Rd
        refine ⟨q, _, rfl, upd_same, ?_⟩
        have := rdl_range (M := Cx.km X) (Z := Z1.add q (.lst (rgV 0 n))) (a := 0) (b := n)
        rw [Int.sub_zero] at this
        exact this
      · exact hp1.elim
    · exact hp1.elim⟩

/-! ### isinstance(x, T), a built-in class -/
/-- the name of a datum's type -/
def tyN : D → String
  | .non => "NoneType"
  | .bl _ => "bool"
  | .int _ => "int"
  | .str _ => "str"
  | .lst _ => "list"
  | .mr _ => "list"
  | .scr _ => "list"
  | .tup _ => "tuple"
  | .exn _ _ => ""
theorem ty_rd {M : KM} {Z : Fz} {H : Hp} {m : DMem} {x : V} {d : D} (R : RelM M Z H m) (h : Rd M Z x d) (ne : tyN d ≠ "") (hl : ∀ k, d = .mr k → (cellAt k m).isSome = true) : TyX M.K H x (.type (tyN d)) := by
  cases d with
  | non => unfold Rd at h; subst h; exact .base .non
  | bl b => unfold Rd at h; subst h; exact .base (.bl b)
  | int b => unfold Rd at h; subst h; exact .base (.int b)
  | str b => unfold Rd at h; subst h; exact .base (.str b)
  | lst ds =>
    unfold Rd at h
    obtain ⟨a, xs, rfl, q, _⟩ := h
    exact .base (.lst (R.same _ _ q))
  | mr k =>
    obtain ⟨es, e⟩ := Option.isSome_iff_exists.mp (hl k rfl)
    obtain ⟨l, xs, rfl, _, hH, _⟩ := cell_rd R h e
    exact .base (.lst hH)
  | scr ns =>
    unfold Rd at h
    obtain ⟨a, rfl, q⟩ := h
    rcases R.same.seq q with (q | ⟨o, q⟩) | ⟨o, its, n, e, c, _⟩
    · exact .base (.lst q)
    · exact .base (.frz q)
    · exact .kList e c
  | tup ds =>
    unfold Rd at h
    obtain ⟨a, xs, rfl, q, _⟩ := h
    rcases Same.sqT R.same q with (q | ⟨o, q⟩) | ⟨o, its, n, e, c, _⟩
    · exact .base (.tup q)
    · exact .fTuple q
    · exact .kTuple e c
  | exn c v => exact absurd rfl ne
/-- no type is known here: an error, a dead cell -/
def isiBad (d : D) (m : DMem) : Bool := match d with
  | .exn _ _ => true
  | .mr k => !(cellAt k m).isSome
  | _ => false
def dIsi (T : String) (f : DE) : DE := fun env m => (f env m).bind fun d m1 => if isiBad d m1 = true then .bad else match kitB (tyN d) T with
  | some b => .ok (.bl b) m1
  | none => .bad
theorem pd_isi {T : String} {Tx : Str} {p2 : Pos} (hg : Gl X "isinstance") (hm : X.mg "isinstance" = none) (hg2 : Gl X Tx) (hm2 : X.mg Tx = none) (hv2 : bootBuiltins Tx = some (.type T)) (ha : PD X W a ta fa) (hst : starEach [a, .Name Tx p2] X.env = (false, eval a X.env) :: starEach [.Name Tx p2] X.env := by rfl)
    (hst2 : starEach [.Name Tx p2] X.env = (false, eval (.Name Tx p2) X.env) :: starEach [] X.env := by rfl) (hpl : (backTo pos (starEach [.Name Tx p2] X.env)).any (·.1) = false := by rfl) (hn : Tx ≠ "__name__" := by decide) (hd : (Tx == ("__debug__" : Str)) = false := by decide) :
    PD X W (.Call (.Name "isinstance" p) [a, .Name Tx p2] [] pos) (tCB (rIsi X.K) (tCons ta (tCons (tC (.ty T)) tNil))) (dIsi T fa) :=
  ⟨pe_callB call_isi hg hm boot_isinstance (pa_cons ha.pe (pa_cons (pe_bltn hg2 hm2 hv2 rfl hn hd) pa_nil hst2) hst) (by decide) (by decide) hst hpl, fun σ H env m Z Q R E hp => by
    refine ha.sn σ H env m Z _ R E (Post.bind hp fun d m1 x H1 Z1 _ e1 R1 rx hp1 => ?_)
    split at hp1
    · exact hp1.elim
    · rename_i hne
      have h1 : tyN d ≠ "" := by
        cases d <;> first | exact absurd rfl hne | (dsimp only [tyN]; decide)
      have h2 : ∀ k, d = .mr k → (cellAt k m1).isSome = true := fun k z => by
        subst z
        cases q : (cellAt k m1).isSome with
        | true => rfl
        | false => exact absurd (show (!(cellAt k m1).isSome) = true by rw [q]; rfl) hne
      split at hp1
      · rename_i b eb
        exact ⟨x, .ty T, _, _, b, rfl, .ty T, ty_rd R1 rx h1 h2, kit_ty eb, Post.here R1 rd_bl hp1⟩
      · exact hp1.elim⟩

/-! ### calls by keywords -/
structure PKD (X : Cx) (W : WXs) (kws : List Keyword) (t : TA) (f : DA) : Prop where
  pk : PK X kws t
  sn : SndA (Cx.km X) W t f
variable {kws : List Keyword} {nm : Option Str} {kpos : Pos} {tk : TA} {fk : DA}
theorem pkd_nil : PKD X W [] tNil dNil := ⟨pk_nil, pad_nil.sn⟩
theorem pkd_cons (he : PD X W e te fe) (hs : PKD X W kws t f) : PKD X W (⟨nm, e, kpos⟩ :: kws) (tCons te t) (dCons fe f) := ⟨pk_cons he.pe hs.pk, fun σ H env m Z Q R E hp => by
  refine he.sn σ H env m Z _ R E (Post.bind hp fun a m1 x H1 Z1 _ e1 R1 rx hp1 => ?_)
  refine hs.sn σ H1 env m1 Z1 _ R1 (E.mono e1) (Post.bind hp1 fun as m2 xs H2 Z2 _ e2 R2 rxs hp2 => ?_)
  exact Post.here R2 (.cons (rx.mono e2) rxs) hp2⟩
/-- the parameters' values, by places among the keywords' values -/
def pick {α : Type} (o : List Nat) (ws : List α) : List α := o.filterMap fun i => ws[i]?
theorem pick_paired {α β : Type} {R : α → β → Prop} {as : List α} {bs : List β} (h : Paired R as bs) : ∀ o : List Nat, Paired R (pick o as) (pick o bs)
  | [] => .nil
  | i :: o => by
    have ih := pick_paired h o
    have key : ∀ {as : List α} {bs : List β} (i : Nat), Paired R as bs → (as[i]? = none ∧ bs[i]? = none) ∨ ∃ a b, as[i]? = some a ∧ bs[i]? = some b ∧ R a b := fun {as bs} i h => by
      induction h generalizing i with
      | nil => exact .inl ⟨rfl, rfl⟩
      | cons r t ih =>
        cases i with
        | zero => exact .inr ⟨_, _, rfl, rfl, r⟩
        | succ i => exact ih i
    unfold pick
    rcases key i h with ⟨h1, h2⟩ | ⟨a, b, h1, h2, r⟩
    · rw [List.filterMap_cons_none h1, List.filterMap_cons_none h2]
      exact ih
    · rw [List.filterMap_cons_some h1, List.filterMap_cons_some h2]
      exact .cons r ih
theorem RdL.pick {M : KM} {Z : Fz} {vs : List V} {ds : List D} (h : RdL M Z vs ds) : ∀ o : List Nat, RdL M Z (DX.pick o vs) (DX.pick o ds)
  | [] => .nil
  | i :: o => by
    have ih := RdL.pick h o
    unfold DX.pick at ih ⊢
    cases q : ds[i]? with
    | none =>
      have q' : vs[i]? = none := by
        rw [List.getElem?_eq_none_iff] at q ⊢
        rw [h.length]
        exact q
      rw [List.filterMap_cons_none q, List.filterMap_cons_none q']
      exact ih
    | some d =>
      obtain ⟨v, h1, h2⟩ := h.get q
      rw [List.filterMap_cons_some q, List.filterMap_cons_some h1]
      exact .cons h2 ih
def dCallKw (Fd : List D → DMem → XO D) (o : List Nat) (fk : DA) : DE := fun env m => (fk env m).bind fun as m1 => Fd (pick o as) m1
variable {k : Nat} {fa' : Addr} {fd : FuncData} {ps ks : List Str} {x : Str} {Fd : List D → DMem → XO D} {o : List Nat}
def tCallKw (sp : Sp) (o : List Nat) (W : WXs) (tk : TA) : TE := fun σ H Q => tk σ H fun zs H1 => sp (pick o zs) H1 Q fun cls d H' => W cls d σ H'
/-- f(k = e, ..), keywords alone -/
theorem pd_callKw (F : FnG X.prog X.w X.K X.mg X.base k fa' fd ps (spD (Cx.km X) ps.length Fd)) (hgd : X.A.guards = some []) (hr : Room k X.A) (hg : Gl X x) (hm : X.mg x = some (.ref fa')) (hk : PySem.W.keepIn X.K (.ref fa') = true) (tkx : Takes X W)
    (hb : ∀ (s : Shared) (ws : List Value), ws.length = ks.length → BindsTo s fd ⟨[], ks.zip ws⟩ (ps.zip (pick o ws))) (hkw : PKD X W kws tk fk) (hn : ∀ env m as m1, fk env m = .ok as m1 → as.length = ks.length ∧ (pick o as).length = ps.length)
    (hall : (backToKw pos (keywordEach kws X.env)).all (·.1.isSome) = true := by rfl) (hks : (backToKw pos (keywordEach kws X.env)).filterMap (·.1) = ks := by rfl) (hdb : (x == ("__debug__" : Str)) = false := by decide)
    (hpl : ((backTo pos (starEach [] X.env)).any (·.1) || (backToKw pos (keywordEach kws X.env)).any (·.1.isNone)) = false := by rfl) :
    PD X W (.Call (.Name x p) [] kws pos) (fun σ H Q => tk σ H fun zs H1 => zs.length = ks.length ∧ spD (Cx.km X) ps.length Fd (pick o zs) H1 Q fun cls d H' => W cls d σ H') (dCallKw Fd o fk) := by
  refine ⟨⟨fun pins s σ H Q I h => ?_⟩, fun σ H env m Z Q R E hp => ?_⟩
  · refine wpAny_Call_Name_kw (ld_glob I hg hm ?_ hdb)
    refine PySem.W.callWith_KW0 (h₀ := X.base) I.ok.mod.kin hk hall ?_ hpl
    refine thn (hkw.pk.run pos pins s σ H _ I h) fun ws s2 ⟨zs, H2, I2, rz, l2, q2⟩ => ⟨I2.kIn, ?_⟩
    rw [hks, List.append_nil]
    exact run_fnG' F hgd hr tkx (fun _ _ _ h => h) I2 (hb s2 ws (rz.length.symm.trans l2)) (pick_paired rz o) q2
  · refine hkw.sn σ H env m Z _ R E (Post.bind hp fun as m1 vs H1 Z1 ea e1 R1 rx hp1 => ?_)
    obtain ⟨n1, n2⟩ := hn _ _ _ _ ea
    refine ⟨by rw [rx.length]; exact n1, Z1, m1, pick o as, R1, rx.pick o, n2, ?_⟩
    cases q : Fd (pick o as) m1 with
    | ok d m2 => rw [q] at hp1; exact hp1
    | ex c d m2 => rw [q] at hp1; exact hp1
    | bad => rw [q] at hp1; exact hp1
end
end DX
end

section
set_option Elab.async false
set_option linter.all false
set_option maxRecDepth 100000
set_option maxHeartbeats 4000000
/-! DX8: the program's errors: class E(CountError): def __init__(self, value=None): super().__init__(value); self.value = value. -/
namespace PySem
namespace ErrX
open PySem.W PySem.Calls PyProof.Rows PySem.HandSPX
def eA (p1 p2 pd : Pos) : Arguments := { posonlyargs := [], args := [{ arg := "self", annotation := none, pos := p1 }, { arg := "value", annotation := none, pos := p2 }], vararg := none, kwonlyargs := [], kw_defaults := [], kwarg := none, defaults := [.Constant .none 0 pd] }
def eB (q1 q2 q3 q4 q5 q6 q7 q8 q9 q10 : Pos) : List Stmt := [.Expr (.Call (.Attribute (.Call (.Name "super" q1) [] [] q2) "__init__" q3) [.Name "value" q4] [] q5) q6, .Assign [.Attribute (.Name "self" q7) "value" q8] (.Name "value" q9) q10]
def eS : Scope := { kind := .function, names := [(PySem.Str.ofString "self", .local), (PySem.Str.ofString "value", .local), (PySem.Str.ofString "__class__", .free), (PySem.Str.ofString "super", .globalImplicit)], isGenerator := false, isCoroutine := false, more := [] }
/-- what the written part says of such a class, at C, and of its __init__, at fI -/
structure ErrTxt (P : Program) (K : Frag) (mg : Str → Option Value) (c : Str) (C : Addr) : Prop where
  gC : mg c = some (.ref C)
  cls : ∃ nm q N bs bm sn sub ab col dd k0 k1 k2 k3 k5, K.lookup C = some (excClassObj nm q C N bs bm true sn sub ab col dd k0 k1 k2 k3 k5 "ValueError.__new__") ∧ refsVE bm = true ∧ alongIn K "__init__" bm = some (some (.builtin "ValueError.__init__"))
  sa : findIn K (.ref C) "__setattr__" = some (some (.builtin "object.__setattr__"))
  ga : findIn K (.ref C) "__getattribute__" = some (some (.builtin "BaseException.__getattribute__"))
  gg : findIn K (.ref C) "__getattr__" = some none
  noN : findIn K (.ref C) "value" = some none
  kC : keepIn K (.ref C) = true
  exC : subIn K (.ref C) (.type "BaseException") = some true
  veC : subIn K (.ref C) (.type "ValueError") = some true
  seC : subIn K (.ref C) (.ref C) = some true
  tyC : typeIn K (.ref C) = some (.type "type")
  hdC : hasDictIn K C = true
  sup : mg "super" = none
  opq : nsIn K cStatics "thirdparty.any" = some none
  top : (P.main.scope.names.lookup ("super" : Str)).isSome = false
  fn : ∃ (fI cc cda T : Addr) (oc : Value) (od : Option Addr) (kV doc pm : Value) (an : Option Addr) (ct : Value) (osl : Array (Option Value)) (qual : Str) (p1 p2 pd q1 q2 q3 q4 q5 q6 q7 q8 q9 q10 : Pos) (ccl cl tcl : Value) (cdd cld tdd : Option Addr) (ccs csl tsl : Array (Option Value)) (vs : Array Value) (file : Str) (tf : Tok) (tn : Nat),
    findIn K (.ref C) "__init__" = some (some (.ref fI)) ∧ typeIn K (.ref fI) = some (.type "function") ∧
    K.lookup fI = some ⟨oc, od, .func (ksFn "__init__" qual (eA p1 p2 pd) (eB q1 q2 q3 q4 q5 q6 q7 q8 q9 q10) eS (.ref T) kV doc pm an (.ref cda) ct cc), osl⟩ ∧ codeIn K (.ref cda) qual = true ∧
    K.lookup cda = some ⟨ccl, cdd, .fields vs, ccs⟩ ∧ vs[2]? = some (.str file tf) ∧ ((P.main.file : Str) == file) = true ∧
    K.lookup cc = some ⟨cl, cld, .cell (some (.ref C)), csl⟩ ∧ K.lookup T = some ⟨tcl, tdd, .seq #[.none] tn, tsl⟩ ∧ (q3.endLine == q5.line) = true
theorem call_line {o : Expr} {name : Str} {apos pos : Pos} {args : List Expr} {env : Env} (hl : (apos.endLine == pos.line) = true) (hf : methodCallForm (args.length + ([] : List Keyword).length) (backTo pos (starEach args env)) (backToKw pos (keywordEach [] env)) = true) :
    eval (.Call (.Attribute o name apos) args [] pos) env = (do
      let ov ← attributeBase o name env (eval o env)
      standAt apos.atName
      let (f, first) ← holding [ov] (getMethod ov name (do return (← importBound o env).getD true))
      callWith pos f first (backTo pos (starEach args env)) []) := by
  rw [arm_eval_Call]
  unfold methodCall calleeOf methodCallPos
  simp only [hf, hl, Bool.or_true, if_true, pure_bind]
  rfl
theorem one_size (v : Value) : [v].length ≤ sizeLine := by
  rw [sizeLine_eq]
  exact (by decide : 1 ≤ 16777216)
theorem ldC {M : Model} {s : Shared} {env : Env} {m : Str → Option Value} {x : Str} {pos : Pos} {v : Value} {Q : Value → Shared → Prop} {A : Around} {E : Value → Shared → Prop} (hn : s.heap.Ns env.locals m) (hv : m x = some v) (h : Q v s)
    (hk : env.scope.kind = .function := by rfl) (hl : env.kindOf x = some .local := by rfl) (hd : (x == ("__debug__" : Str)) = false := by decide) :
    wpAny M A (eval (.Name x pos) env) Q E s := wpAny_Name (wpAny_loadName_local hk hl hn hv h) hd
/-- what __init__ leaves of a fresh exception at x -/
structure InitEnd (h h' : Heap) (x C dx t1 : Addr) (v : Value) : Prop where
  keep : ∀ b o, b ≠ x → h.get? b = some o → h'.get? b = some o
  obj : h'.get? x = some { cls := .ref C, dict := some dx, data := .fields #[.ref t1, .none, .none, .none, .bool false, .none] }
  dbig : h.objs.size ≤ dx
  dne : dx ≠ x
  ns : h'.Ns1 dx (fun y => if y = "value" then some v else none)
/-- a made error -/
structure OwnMade (h h' : Heap) (e C d : Addr) (v : Value) : Prop where
  keep : ∀ b o, h.get? b = some o → h'.get? b = some o
  new : h.objs.size ≤ e
  obj : ∃ oe vs, h'.get? e = some oe ∧ oe.cls = .ref C ∧ oe.dict = some d ∧ oe.data = .fields vs ∧ vs[1]? = some .none
  dbig : h.objs.size ≤ d
  dne : d ≠ e
  ns : h'.Ns1 d (fun y => if y = "value" then some v else none)
section
variable {prog : Program} {w : World} {A : Around} {E : Value → Shared → Prop} {R : Result → Shared → Prop} {s : Shared} {K : Frag} {mg : Str → Option Value} {c : Str} {C : Addr} {base : Heap}
/-- the wrapper of ValueError.__init__, called -/
theorem call_bw {h : Heap} {g : Array GenState} {d : Drawn} {t : Nat} {os : OsState} {nm q : Str} {N : Addr} {bs bm : List Value} {hdct : Bool} {sn : List Str} {sub : List Value} {ab : Bool} {col : Option Bool} {dd : Option Addr} {k0 k1 k2 k3 k5 : Option Value} {u e t0 : Addr} {rest : List Value} {Q : Value → Shared → Prop}
    (hC : h.get? C = some (excClassObj nm q C N bs bm hdct sn sub ab col dd k0 k1 k2 k3 k5 "ValueError.__new__")) (he : h.get? e = some (excO C t0)) (hu : h.get? u = some (kxs_mw "ValueError.__init__" e)) (hrest : rest.length ≤ sizeLine)
    (hq : ∀ h' t1, (∀ b o, b ≠ e → h.get? b = some o → h'.get? b = some o) → h.objs.size ≤ h'.objs.size → h'.get? e = some (excO C t1) → Q .none ⟨h', g, d, t, os⟩) :
    wpAny (model prog w) A (call (.ref u) rest) Q E ⟨h, g, d, t, os⟩ := by
  refine wpAny_call (codeAny_of_tree ?_)
  show wpAny _ A.in1 (callAny (.ref u) ⟨rest, []⟩) _ _ _
  simp only [callAny]
  refine wpAny_bind (wpAny_load hu ?_)
  simp only [kxs_mw, show (Value.type "method-wrapper" == Value.type "method" || Value.type "method-wrapper" == Value.type "builtin_function_or_method" || Value.type "method-wrapper" == Value.type "method-wrapper") = true by decide, if_true]
  refine W.KFB.if_so (by decide) ?_
  refine wpAny_bind (ESX.check_bound F.excBase_ValueError hC he rfl ?_)
  refine wpAny_bind (wpAny_pure (wpAny_pure ?_))
  refine ⟨Code.quiet_builtin _ (by decide +kernel), codeAny_builtin F.excBase_ValueError.initEntry ?_⟩
  rw [Around.under_plainId F.excBase_ValueError.init.plain _]
  wp_walk
  refine hq _ h.objs.size (fun b o hb ho => ?_) ?_ ?_
  · rw [Heap.get?_update_other _ _ (Ne.symm hb)]
    exact Heap.get?_push_of_some _ ho
  · rw [Heap.size_update, Heap.size_push]
    exact Nat.le_succ _
  · rw [Heap.get?_update_self _ (Heap.get?_push_of_some _ he) rfl]
    rfl
theorem err_init (T : ErrTxt prog K mg c C) (mod : L2.Mod K mg base) {fI x t0 : Addr} {v : Value} (bk : ∀ b o, base.get? b = some o → s.heap.get? b = some o) (hfI : findIn K (.ref C) "__init__" = some (some (.ref fI))) (hx : s.heap.get? x = some (excO C t0)) (hnx : K.lookup x = none) (hroom : A.depth < recursionLimit)
    (hq : ∀ h' tk dx t1, InitEnd s.heap h' x C dx t1 v → R (.ok (.ret .none)) { s with heap := h', toks := tk }) :
    codeAny (model prog w) A (.call (.ref fI) ⟨[.ref x, v], []⟩) R s := by
  obtain ⟨fI', cc, cda, Td, oc, od, kV, doc, pm, an, ct, osl, qual, p1, p2, pd, q1, q2, q3, q4, q5, q6, q7, q8, q9, q10, ccl, cl, tcl, cdd, cld, tdd, ccs, csl, tsl, vs, file, tf, tn, hi, hty, ho, hcd, hcode, hvs, hfile, hcell, hT, hline⟩ := T.fn
  rw [hfI] at hi
  cases hi
  obtain ⟨nm, q, N, bs, bm, sn, sub, ab, col, dd, k0, k1, k2, k3, k5, hC, hbm, hal⟩ := T.cls
  have hcl : clsIn K C = some { name := nm, bases := bs, mro := .ref C :: bm, ns := N, qualname := q, hasDict := true, slotNames := sn, subclasses := sub, abstract := ab, collection := col, hasDel := false } := by unfold clsIn; rw [hC] <;> rfl
  have X : K.In s.heap := mod.kin.keeps bk
  have hlim : s.heap.NoLimit := mod.nolimit.keeps bk
  refine ks_codeAny_call_defAt (binds := [("self", .ref x), ("value", v)]) hroom (X _ _ ho) rfl hlim (codeRec_of X hcd) rfl (binds_K X rfl hT rfl rfl rfl) (show ∀ x ∈ eS.names, x.2 ≠ .cell by decide) (fun y hy => ?_) (fun h₁ hns k₁ => ?_)
  · show eS.names.lookup y.1 = some .local
    rcases List.mem_cons.mp hy with rfl | hy
    · rfl
    · rcases List.mem_cons.mp hy with rfl | hy
      · rfl
      · cases hy
  have X₁ : K.In h₁ := X.keeps k₁
  have hx₁ := k₁ _ _ hx
  have bk₁ : ∀ b o, base.get? b = some o → h₁.get? b = some o := fun b o e => k₁ b o (bk b o e)
  have hxC : x ≠ C := fun z => by rw [z, hC] at hnx; cases hnx
  have hsubC : Looks (model prog w) h₁ (isSubtype (.ref C) (.ref C)) true := looks_subIn X₁ T.seC
  have hve : Looks (model prog w) h₁ (isSubtype (.ref C) (.type "ValueError")) true := looks_subIn X₁ T.veC
  have bmb := mod.blt
  obtain ⟨mb, hb1, hb2⟩ := bmb
  refine ks_wpAt_execs_cons (ks_wpAt_Expr_any (ks_wpAt_MethodCall ?_ (call_line hline rfl)))
  -- super()
  refine ks_wpAt_super_base (env := ksEnv qual eS s.heap.objs.size fI (.ref cda) cc) rfl rfl (by decide) rfl (X₁ _ _ ho) rfl rfl rfl (X₁ _ _ hcode) rfl hvs hfile T.top ?_
  refine ks_loadName_global rfl rfl (loadGlobal_builtin (env := ksEnv qual eS s.heap.objs.size fI (.ref cda) cc) (mod.glob.keeps bk₁) T.sup (hb1.keeps bk₁) ((hb2 _ (by decide +kernel)).trans (by first | boot_by_name | rfl | kernel_rfl)) ⟨rfl, ?_⟩)
  refine wpAny_loadName_free rfl rfl rfl ⟨_, X₁ _ _ hcell, rfl⟩ ?_
  refine wpAny_loadName_local rfl rfl hns (show List.lookup _ _ = some (.ref x) from rfl) ?_
  have hC₁ := X₁ _ _ hC
  refine ks_wpAny_isType_cls hC₁ rfl ⟨rfl, ?_⟩
  refine ks_wpAny_call_super hC₁ rfl hx₁ rfl (fun c e => by cases e) hsubC (fun h2 e2 k2 => ?_)
  -- .__init__
  have X2 : K.In h2 := X₁.keeps k2
  have hx2 := k2 _ _ hx₁
  have I2 : InstAt h2 x (excO C t0) C none := ⟨hx2, rfl, rfl, trivial⟩
  have hI2 : Looks (model prog w) h2 (isInstance (.ref x) (.type "ValueError")) true := I2.type.andThen (looks_subIn X2 T.veC)
  refine kxs_getMethod kxs_ValueError e2 (looks_opaque X2 T.opq) (l₀ := .ref C :: bm) (l := bm) (fun A Q E s k q => wpAny_bind ((looks_clsIn X2 hcl) A _ E s k (wpAny_pure q))) (by simp [List.dropWhile_cons]) X2 hal hI2 hxC (by decide) ?_
  -- (value)
  have k3 : ∀ b o, h2.get? b = some o → (h2.push (kxs_mw "ValueError.__init__" x)).get? b = some o := fun b o e => Heap.get?_push_of_some _ e
  have hns3 : (h2.push (kxs_mw "ValueError.__init__" x)).Ns s.heap.objs.size (fun y => List.lookup y [(("value" : Str), v), (("self" : Str), Value.ref x)]) := (hns.keeps k2).keeps k3
  have hu3 : (h2.push (kxs_mw "ValueError.__init__" x)).get? h2.objs.size = some (kxs_mw "ValueError.__init__" x) := Heap.get?_push_size _ rfl
  have sz2 : h₁.objs.size < h2.objs.size := Heap.lt_size e2
  show wpAny _ _ (callWith q5 (.ref h2.objs.size) [] (backTo q5 (starEach [.Name "value" q4] (ksEnv qual eS s.heap.objs.size fI (.ref cda) cc))) []) _ _ _
  have he : starEach [.Name "value" q4] (ksEnv qual eS s.heap.objs.size fI (.ref cda) cc) = (false, eval (.Name "value" q4) (ksEnv qual eS s.heap.objs.size fI (.ref cda) cc)) :: starEach [] (ksEnv qual eS s.heap.objs.size fI (.ref cda) cc) := rfl
  rw [he]
  refine kxs_callWith (i := "ValueError.__init__") (x := x) rfl (evalArgs_plain ?_)
  refine Calls.spliced_cons (ldC hns3 (show List.lookup _ _ = some v from rfl) (Calls.spliced_nil ⟨hu3, ?_⟩))
  refine call_bw (k3 _ _ (k2 _ _ hC₁)) (k3 _ _ hx2) hu3 (one_size v) fun h4 t1 k4 sz4 hx4 => ?_
  have old4 : ∀ b o, b ≠ x → h₁.get? b = some o → h4.get? b = some o := fun b o hb e => k4 b o hb (k3 b o (k2 b o e))
  have X4 : K.In h4 := fun b o e => old4 b o (fun z => by rw [z, hnx] at e; cases e) (X₁ b o e)
  have hLx : s.heap.objs.size ≠ x := Nat.ne_of_gt (Heap.lt_size hx)
  have hns4 : h4.Ns s.heap.objs.size (fun y => List.lookup y [(("value" : Str), v), (("self" : Str), Value.ref x)]) := by
    obtain ⟨o, es, ep, e, r⟩ := hns3
    exact ⟨o, es, ep, k4 _ o hLx e, r⟩
  have sz3 : (h2.push (kxs_mw "ValueError.__init__" x)).objs.size = h2.objs.size + 1 := Heap.size_push _ _
  -- self.value = value
  refine ks_wpAt_execs_cons (wpAt_of_wpAny (plainObj_wpAny_Assign_Attribute ?_))
  refine ldC hns4 (show List.lookup _ _ = some v from rfl) (ldC hns4 (show List.lookup _ _ = some (.ref x) from rfl) ?_)
  refine set_plain X4 (ox := excO C t1) (od := none) ⟨hx4, rfl, rfl, trivial⟩ T.sa ?_
  refine exc_osa X4 hx4 hcl (show refsVE (.ref C :: bm) = true from hbm) rfl T.noN (fun h5 tk5 dx k5 dn dne hx5 hn5 => ?_)
  refine wpAt_of_wpAny (wpAny_execs_nil ?_)
  have z : s.heap.objs.size < h₁.objs.size := hns.lt
  have dn' : h4.objs.size ≤ dx := dn
  refine hq h5 tk5 dx t1 ⟨fun b o hb e => k5 b o hb (old4 b o hb (k₁ b o e)), hx5, ?_, dne, hn5⟩
  omega
theorem err_made (T : ErrTxt prog K mg c C) (mod : L2.Mod K mg base) {v : Value} (bk : ∀ b o, base.get? b = some o → s.heap.get? b = some o) (hroom : A.depth + 1 < recursionLimit)
    (hq : ∀ h' tk e d, OwnMade s.heap h' e C d v → R (.ok (.ret (.ref e))) { s with heap := h', toks := tk }) :
    codeAny (model prog w) A (.call (.ref C) ⟨[v], []⟩) R s := by
  obtain ⟨fI, _, _, _, _, _, _, _, _, _, _, _, _, _, _, _, _, _, _, _, _, _, _, _, _, _, _, _, _, _, _, _, _, _, _, _, _, _, _, hfI, hty, _⟩ := T.fn
  obtain ⟨nm, q, N, bs, bm, sn, sub, ab, col, dd, k0, k1, k2, k3, k5, hC, hbm, hal⟩ := T.cls
  have X : K.In s.heap := mod.kin.keeps bk
  obtain ⟨hp, g, dr, tk, os⟩ := s
  have k : ∀ b o, hp.get? b = some o → ((hp.push (kdv_tup [v])).push (excO C hp.objs.size)).get? b = some o := fun b o e => Heap.get?_push_of_some _ (Heap.get?_push_of_some _ e)
  have hget : ((hp.push (kdv_tup [v])).push (excO C hp.objs.size)).get? (hp.objs.size + 1) = some (excO C hp.objs.size) := by heap_get
  have hnx : K.lookup (hp.objs.size + 1) = none := by
    cases e : K.lookup (hp.objs.size + 1) with
    | none => rfl
    | some o =>
      have z : hp.get? (hp.objs.size + 1) = some o := X _ _ e
      exact absurd (Nat.lt_of_succ_lt (Heap.lt_size z)) (Nat.lt_irrefl _)
  refine call_own F.excBase_ValueError (fun X => refsVE_contains X bm hbm) (X _ _ hC) (looks_findIn X hfI) (fun self => bind_fn X self hty) (one_size v) ?_
  refine err_init (s := ⟨(hp.push (kdv_tup [v])).push (excO C hp.objs.size), g, dr, tk, os⟩) T mod (fun b o e => k b o (bk b o e)) hfI hget hnx ?_ fun h' tk' dx t1 ⟨k', hx, dn, dne, hns⟩ => ?_
  · show A.depth + 1 < recursionLimit
    exact hroom
  · have old : ∀ b o, hp.get? b = some o → h'.get? b = some o := fun b o e => k' b o (Nat.ne_of_lt (Nat.lt_succ_of_lt (Heap.lt_size e))) (k b o e)
    have z : hp.objs.size + 1 + 1 ≤ dx := by
      first
        | (simpa only [Heap.size_push] using dn)
        | exact dn
        | (have q := dn; rw [Heap.size_push, Heap.size_push] at q; exact q)
    exact ⟨rfl, hq h' tk' (hp.objs.size + 1) dx ⟨old, Nat.le_succ _, ⟨_, _, hx, rfl, rfl, rfl, rfl⟩, Nat.le_trans (Nat.le_trans (Nat.le_succ _) (Nat.le_succ _)) z, dne, hns⟩⟩
end
end ErrX
end PySem
end

section
set_option Elab.async false
set_option linter.all false
set_option maxRecDepth 100000
set_option maxHeartbeats 4000000
/-! DX9: errors raised, caught, kept; isinstance of them, their value. -/
namespace DX
open PySem PySem.Spec PyProof.Rows L2

theorem relO_val {v : V} {v' : Value} (r : RelV v v') (f : Str) : RelO (List.lookup f [(("value" : Str), v)]) (if f = "value" then some v' else none) := by
  by_cases hw : f = "value"
  · subst hw
    rw [if_pos rfl]
    have q : List.lookup ("value" : Str) [(("value" : Str), v)] = some v := by simp [List.lookup]
    rw [q]
    exact r
  · rw [if_neg hw]
    have qw : (f == ("value" : Str)) = false := by simpa using hw
    have q2 : List.lookup f [(("value" : Str), v)] = none := by simp [List.lookup, qw]
    rw [q2]
    trivial
section
variable {X : Cx} {W : WXs} {C : Addr} {c : Str}
/-- E(e) -/
def tMkErr (C : Addr) (ta : TA) : L2.St → Hp → XK → Prop := fun σ H Q => ta σ H fun vs H1 => ∃ v, vs = [v] ∧ ∀ d, H1 d = none → Q (.ref C) (some d) (upd H1 d (.xd [(("value" : Str), v)]))
theorem pmk_err {a : Expr} {ta : TA} {p pos : Pos} {k : Nat} (T : PySem.ErrX.ErrTxt X.prog X.K X.mg c C) (hr : Room k X.A) (ha : PA X [a] ta) (hg : Gl X c) (hdb : (c == ("__debug__" : Str)) = false)
    (he : starEach (a :: []) X.env = (false, eval a X.env) :: starEach [] X.env := by rfl) (hpl : (backTo pos (starEach [] X.env)).any (·.1) = false := by rfl) :
    PMk X (.Call (.Name c p) [a] [] pos) (tMkErr C ta) := by
  intro pins s σ H Q I h
  refine wpAny_Call_Name_kw (ld_glob I hg T.gC ?_ hdb)
  refine PySem.W.callWith_K (h₀ := X.base) I.ok.mod.kin T.kC (thn (ha.run pos pins s σ H _ I h) fun us s1 hh => ?_) he hpl
  obtain ⟨vs, H1, I1, r1, v, ev, q1⟩ := hh
  subst ev
  refine ⟨I1.kIn, ?_⟩
  cases r1 with
  | cons rv rn =>
    rename_i v' us'
    cases rn
    show wpAny _ _ (call (.ref C) [v']) _ _ _
    have bk := I1.bk
    have mod := I1.mod
    obtain ⟨hp, g, dr, tk, os⟩ := s1
    refine wpAny_call (PySem.ErrX.err_made T mod bk (by have := hr.dp; omega) fun h' tk' e d M => ?_)
    show MkP X pins σ Q (.ref e) ⟨h', g, dr, tk', os⟩
    obtain ⟨oe, fv, hoe, hc, hd, hdat, h1⟩ := M.obj
    have hns := M.ns
    obtain ⟨G', g1, g2⟩ := restrict h' fun b => decide (b ≠ e)
    have gk : ∀ b, b ≠ e → G'.get? b = h'.get? b := fun b hb => g1 b (decide_eq_true hb)
    have ge : G'.get? e = none := g2 e (by simp)
    have old : ∀ b o, hp.get? b = some o → G'.get? b = some o := fun b o q => (gk b (Nat.ne_of_lt (Nat.lt_of_lt_of_le (Heap.lt_size q) M.new))).trans (M.keep b o q)
    have ob : ObjOk X.prog X.w (upd H1 d (.xd [(("value" : Str), v)])) G' d (.xd [(("value" : Str), v)]) :=
      ⟨_, hns.at (fun o q => (gk d M.dne).trans q), fun f => relO_val rv f⟩
    have J : Inv X pins σ (upd H1 d (.xd [(("value" : Str), v)])) ⟨G', g, dr, tk', os⟩ := I1.laid (t' := tk') old M.dbig ob
    refine ⟨e, oe, fv, ⟨G', g, dr, tk', os⟩, _, .ref C, some d, rfl, J, fun b o q => ?_, ge, hoe, ⟨hc, hd⟩, hdat, h1, ?_, rfl, I1.bare, raises_own T.exC T.tyC, q1 d (I1.hok.fresh M.dbig)⟩
    · by_cases hb : b = e
      · have q' : G'.get? b = some o := q
        rw [hb, ge] at q'; cases q'
      · exact (gk b hb).symm.trans q
    · rw [upd_ne (Ne.symm M.dne)]
      exact I1.hok.fresh M.new
/-- raise E(e) -/
def dRaise (c : Str) (f : DA) : DS := fun env m => (f env m).to env fun as m1 => match as with
  | [a] => .ex c a env m1
  | _ => .bad
theorem psd_raise {a : Expr} {ta : TA} {fa : DA} {p pos pos2 : Pos} {k : Nat} (hc : X.calm = true) (T : PySem.ErrX.ErrTxt X.prog X.K X.mg c C) (hr : Room k X.A) (tk : Takes X W) (ha : PAD X W [a] ta fa) (hg : Gl X c) (hdb : (c == ("__debug__" : Str)) = false := by decide)
    (he : starEach (a :: []) X.env = (false, eval a X.env) :: starEach [] X.env := by rfl) (hpl : (backTo pos (starEach [] X.env)).any (·.1) = false := by rfl) :
    PSD X W (.Raise (some (.Call (.Name c p) [a] [] pos)) none pos2) (fun _ σ H => tMkErr C ta σ H fun cls d H' => W cls d σ H') (dRaise c fa) :=
  ⟨ps_raise hc tk (pmk_err T hr ha.pa hg hdb he hpl), fun σ H env m Z D R E h => by
    refine ha.sn σ H env m Z _ R E (PostS.to E h fun as m1 vs H1 Z1 _ e1 R1 rx h1 => ?_)
    split at h1
    · unfold RdL at rx
      obtain ⟨v, us, rfl, r1, rx⟩ := rx
      unfold RdL at rx
      subst rx
      refine ⟨v, rfl, fun d hd => ?_⟩
      exact h1 σ Z1 (.refl _) (E.mono e1) C d v _ _ T.gC (R1.ext hd) (R1.alloc hd) upd_same (r1.mono (R1.ext hd))
    · exact h1.elim⟩

/-! ### an object that was pinned alone is tracked -/
theorem Inv.track {pins : List (Addr × Obj)} {σ : L2.St} {H : Hp} {s : Shared} {a C dx : Addr} {oe : Obj} (I : Inv X ((a, oe) :: pins) σ H s) (hc : oe.cls = .ref C) (hd : oe.dict = some dx) (hf : ∃ vs, oe.data = .fields vs) (hex : X.ex = [])
    (h0 : X.s_0.heap.get? a = none) (hp : ∀ p ∈ X.pn ++ pins, p.1 ≠ a) : Inv X pins σ (upd H a (.ext (exFact a C dx))) s := by
  obtain ⟨ha, hn, hl, hfs, hcell⟩ := I.pin (a, oe) (List.mem_append_right _ List.mem_cons_self)
  have ha : s.heap.get? a = some oe := ha
  have hn : H a = none := hn
  have ne0 : ∀ b o, X.s_0.heap.get? b = some o → b ≠ a := fun b o e z => by rw [z, h0] at e; cases e
  have neH : ∀ b o, H b = some o → b ≠ a := fun b o e z => by rw [z, hn] at e; cases e
  have fact : exFact a C dx s.heap := by
    obtain ⟨vs, hv⟩ := hf
    exact ⟨oe, vs, ha, hc, hd, hv⟩
  refine ⟨I.ok, I.os, I.bare, ⟨I.base.keep |> fun k b o e n h1 h2 => k b o e n h1 h2, I.base.slot, fun b o e n hx => ?_, I.base.there, fun b xs e => ?_, fun b o u e => ?_, fun b ps e => ?_⟩, I.loc, I.cell, ?_, fun x c e => ?_, fun p hm => ?_, fun b o e => ?_, I.len⟩
  · rw [upd_ne (ne0 b o e)]
    exact I.base.free b o e n hx
  · have q := I.base.tups b xs e
    rw [upd_ne (neH _ _ q)]
    exact q
  · have q := I.base.frzs b o u e
    rw [upd_ne (neH _ _ q)]
    exact q
  · obtain ⟨more, q⟩ := I.base.tbls b ps e
    exact ⟨more, by rw [upd_ne (neH _ _ q)]; exact q⟩
  · rw [upd_ne (Ne.symm hl)]
    exact I.free
  · obtain ⟨v, o, ho, hv⟩ := I.cell x c e
    rw [upd_ne (fun z => by
      rw [z, ha] at ho
      cases ho
      exact hcell v hv)]
    exact I.freeC x c e
  · obtain ⟨h1, h2, h3, h4, h5⟩ := I.pin p (by
      rcases List.mem_append.mp hm with z | z
      · exact List.mem_append_left _ z
      · exact List.mem_append_right _ (List.mem_cons_of_mem _ z))
    exact ⟨h1, by rw [upd_ne (hp p hm)]; exact h2, h3, h4, h5⟩
  · by_cases hb : b = a
    · subst hb
      rw [upd_same] at e
      cases e
      refine ⟨fact, ⟨oe, ha⟩, fun h1 h2 q k => ?_⟩
      obtain ⟨o, vs, e1, e2⟩ := q
      exact ⟨o, vs, k _ e1, e2⟩
    · rw [upd_ne hb] at e
      exact (I.hok b o e).stay (fun _ _ _ q => q) (fun c q => by rw [upd_ne (neH _ _ q)]; exact q) fun c xs q => by rw [upd_ne (neH _ _ q)]; exact q

/-! ### try: body; except x as n: y = n -/
/-- what is wished of an error of the body -/
def wKeep (K : PySem.W.Frag) (cx : Value) (i j : Nat) (Wout : WXs) (D : Ends) : WXs := fun cls d σ H =>
  ∃ b, PySem.W.exmOne K cls cx = some b ∧ (b = true → ∀ a, H a = none → ∀ C dx, cls = .ref C → d = some dx → D.nx (((σ.set i (some (.ref a))).set j (some (.ref a))).set i none) (upd H a (.ext (exFact a C dx)))) ∧
    (b = true → ∃ C dx, cls = .ref C ∧ d = some dx) ∧ (b = false → Wout cls d σ H)
end
section
variable {X : Cx} {x n y : Str} {cx : Value} {i j : Nat} {body : List Stmt} {np pos pos' p1 p2 p3 : Pos} {tb : WXs → TS} {Wout : WXs}
theorem ps_try_keep (hs : X.stack = X.env :: X.outer) (hf : X.env.frame = some X.env.locals) (hex : X.ex = []) (hN : X.N.Nodup) (hi : X.N[i]? = some n) (hln : X.env.kindOf n = some .local) (hj : X.N[j]? = some y) (hly : X.env.kindOf y = some .local) (hc : Names X x cx) (tk : Takes X Wout)
    (hb : ∀ (W : WXs) (pn : List (Addr × Obj)) (xe : Value → Shared → Prop), Takes (X.tr pn xe) W → PassesOwn (model X.prog X.w) X.A X.env xe → PSs (X.tr pn xe) body (tb W))
    (hsw : swapsWith (.Name n p2) (some (.Name y p1)) p3.line X.env = pure false := by rfl) (hdn : (n == ("__debug__" : Str)) = false := by decide) (hcn : (n == ("__classdict__" : Str)) = false := by decide) :
    PS X (.Try body [.ExceptHandler (some (.Name x np)) (some n) [.Assign [.Name y p1] (.Name n p2) p3] pos'] [] [] pos) (fun D σ H => tb (wKeep X.K cx i j Wout D) D σ H) := by
  refine ⟨fun pins s σ H D I h => ?_⟩
  have ok := I.ok
  have hfr : X.A.frames = some (X.env :: X.outer) := by rw [ok.frames, hs]
  have hloc : Loc X.env.scope n := .inl hln
  refine wpAny_Try_except ?_
  refine wpAny_mono ((hb (wKeep X.K cx i j Wout D) (X.pn ++ pins) (fun e s₁ => wpAny (model X.prog X.w) X.A (noteFrame e X.env) (fun _ s₂ => wpAny (model X.prog X.w) X.A (setFlight e none) (fun _ s₃ =>
    wpAny (model X.prog X.w) X.A (handleBy e X.env [.ExceptHandler (some (.Name x np)) (some n) [.Assign [.Name y p1] (.Name n p2) p3] pos']) (SP X pins D) X.xe s₃) X.xe s₂) X.xe s₁) (fun u s' xx => ?_) PassesOwn.looking).run [] s σ H D (I.toTry _) h) (fun f s1 hsp => ?_) (fun e s1 he => he)
  · -- the catch
    obtain ⟨a, B, sI, pins', σ', H', cls, d, rfl, J', nb, up, sky, na, os, ag, b, hb1, hyes, hsh, hno⟩ := xx
    have J : Inv X pins σ' H' sI := J'.ofTry ok
    have sky' : Sky B (X.env :: X.outer) a (Zc cls d) X.env.locals s'.heap := by rw [← hs]; exact sky
    show wpAny (model X.prog X.w) X.A (noteFrame (.ref a) X.env) _ _ _
    refine Sky.land Zc.steady hfr hf sky' fun h3 fl3 up3 => ?_
    have J3 : Inv X pins σ' H' { s' with heap := h3 } := J.landed nb fl3.1 (up.trans up3) os ag
    obtain ⟨oe3, vs3, he3, hz3, hd3⟩ := fl3.there
    have notFr : ∀ {h : Heap} {o : Obj} {vs : Array Value}, h.FunFrames B (X.env :: X.outer) → h.get? a = some o → o.data = .fields vs → a ∉ frs (X.env :: X.outer) := fun {h o vs} ff e dd hm => by
      obtain ⟨_, o', e', hnf⟩ := ff.mem hm
      rw [e] at e'; cases e'
      exact hnf _ dd
    have nfr := notFr fl3.2.2.1 he3 hd3
    have nL : a ≠ X.env.locals := fun z => nfr (List.mem_filterMap.mpr ⟨X.env, List.mem_cons_self, by rw [hf, z]⟩)
    have nF : a ∉ X.fs := fun hm => by
      obtain ⟨e, he, q⟩ := List.mem_filterMap.mp hm
      exact nfr (List.mem_filterMap.mpr ⟨e, List.mem_cons_of_mem _ he, q⟩)
    have noB : B.get? a = none := fl3.2.1
    have noI : sI.heap.get? a = none := by
      cases q : sI.heap.get? a with
      | none => rfl
      | some o =>
        have := nb a o q (by rw [hs]; exact nfr)
        rw [noB] at this
        cases this
    have no0 : X.s_0.heap.get? a = none := by
      cases q : X.s_0.heap.get? a with
      | none => rfl
      | some o =>
        obtain ⟨o', q'⟩ := J.base.there a o q (by rw [hex]; exact fun z => nomatch z)
        rw [noI] at q'
        cases q'
    have noP : ∀ p ∈ X.pn ++ pins, p.1 ≠ a := fun p hp z => by
      have := (J.pin p hp).1
      rw [z, noI] at this
      cases this
    have S3 := J3.suite he3 hd3 na nL nF
    refine wpAny_handleBy_cons (codeAny_handlers_test ?_) (by intro q; cases q)
    have LT : PySem.W.Looks (model X.prog X.w) h3 (typeOf (.ref a)) cls := fun A Q E s k q => wpAny_typeOf_ref (k _ _ he3) (by rw [hz3.1]; exact q)
    have LM := PySem.W.exm_one (M := model X.prog X.w) (J3.kIn) LT hb1
    have test : ∀ {Q : Value → Shared → Prop} {E : Value → Shared → Prop}, Q cx { s' with heap := h3 } → wpAny (model X.prog X.w) (X.A.mark (some (.ref a))) (eval (.Name x np) X.env) Q E { s' with heap := h3 } := fun {Q E} q => by
      obtain ⟨hg, hdbg, hm | ⟨hm, hv, hnn⟩⟩ := hc
      · exact ld_glob (X := X.suite a ((a, oe3) :: (X.pn ++ pins))) S3 hg hm q hdbg
      · exact ld_blt (X := X.suite a ((a, oe3) :: (X.pn ++ pins))) S3 hg hm hv q hnn hdbg
    refine test (LM.here ?_)
    cases b with
    | true =>
      refine codeAny_handlers_suite_as ?_
      refine HandSPX.lands_againZ fl3 fun h4 fl4 up4 => ?_
      have J4 : Inv X pins σ' H' { s' with heap := h4 } := J.landed nb fl4.1 ((up.trans up3).trans up4) os ag
      obtain ⟨oe4, vs4, he4, hz4, hd4⟩ := fl4.there
      have S4 := J4.suite he4 hd4 na nL nF
      have hlen : i < σ'.length := by rw [J4.len]; exact (List.getElem?_eq_some_iff.mp hi).1
      refine store_ok (X := X.suite a ((a, oe4) :: (X.pn ++ pins))) (v := .ref a) S4 hN hi hloc rfl (fun s5 S5 => ?_) (.inr hln)
      have st : PSs (X.suite a ((a, oe4) :: (X.pn ++ pins))) [.Assign [.Name y p1] (.Name n p2) p3] (tAsg (tVar i) (gName j)) := pss_one (ps_set hN hj (.inl hly) (pe_var hi (.inl hln) hdn hcn) hsw (.inr hly))
      refine wpAny_mono (st.run [] s5 _ H' { nx := fun σ6 H6 => H6 = H' ∧ σ6 = (σ'.set i (some (.ref a))).set j (some (.ref a)), rt := fun _ _ => False } S5 ⟨.ref a, List.getElem?_set_self hlen, rfl, rfl⟩) (fun f s6 hsp => ?_) (fun _ _ z => False.elim z)
      cases f with
      | next =>
        obtain ⟨σ6, H6, S6, rfl, rfl⟩ := hsp
        have S6' : Inv X ((a, oe4) :: pins) ((σ'.set i (some (.ref a))).set j (some (.ref a))) H6 s6 := ⟨ok, S6.os, S6.bare, S6.base, S6.loc, S6.cell, S6.free, S6.freeC, fun p hp => S6.pin p (by
          rw [List.append_nil]
          rcases List.mem_append.mp hp with z | z
          · exact List.mem_cons_of_mem _ (List.mem_append_left _ z)
          · rcases List.mem_cons.mp z with z | z
            · rw [z]; exact List.mem_cons_self
            · exact List.mem_cons_of_mem _ (List.mem_append_right _ z)), S6.hok, S6.len⟩
        refine gone_ok S6' hN hi hln fun s7 J7 => ?_
        obtain ⟨C, dx, rfl, rfl⟩ := hsh rfl
        exact ⟨_, _, Inv.track J7 hz4.1 hz4.2 ⟨_, hd4⟩ hex no0 noP, hyes rfl a na C dx rfl rfl⟩
      | brk => obtain ⟨_, _, _, q⟩ := hsp; exact q.elim
      | cont => obtain ⟨_, _, _, q⟩ := hsp; exact q.elim
      | ret u => obtain ⟨_, _, _, _, _, q⟩ := hsp; exact q.elim
    | false =>
      show wpAny _ X.A (handleBy (.ref a) X.env []) _ _ _
      refine wpAny_handleBy_nil ?_
      obtain ⟨k1, k2, k3, oe, vs, T, oT, ts', he, hz, hd, h1, hr⟩ := id fl3
      unfold PySem.passOn
      refine wpAny_bind (wpAny_field he hd h1 ?_)
      rw [if_neg (show ¬ ((Value.ref T == Value.none) = true) from by simp)]
      have fin : wpAny (model X.prog X.w) X.A (setFlight (.ref a) X.env.frame) (fun _ s4 => wpAny (model X.prog X.w) X.A (throw (.ref a) : Sem Flow) (SP X pins D) X.xe s4) X.xe { s' with heap := h3 } := by
        rw [hf]
        refine HandSPX.setFlight_upZ fl3 fun h4 hh4 up4 => wpAny_throw (tk _ _ ?_)
        exact ⟨a, B, sI, pins, σ', H', cls, d, rfl, J, nb, (up.trans up3).trans up4, .inr (.inr (by rw [hs]; exact hh4)), na, os, ag, hno rfl⟩
      first
        | exact wpAny_bind (wpAny_pure (wpAny_bind fin))
        | exact wpAny_bind fin
  · cases f with
    | next =>
      obtain ⟨σ', H', J', q⟩ := hsp
      exact wpAny_execs_nil ⟨σ', H', J'.ofTry ok, q⟩
    | brk =>
      obtain ⟨σ', H', J', q⟩ := hsp
      exact ⟨σ', H', J'.ofTry ok, q⟩
    | cont =>
      obtain ⟨σ', H', J', q⟩ := hsp
      exact ⟨σ', H', J'.ofTry ok, q⟩
    | ret u =>
      obtain ⟨v, σ', H', J', r, q⟩ := hsp
      exact ⟨v, σ', H', J'.ofTry ok, r, q⟩
end
/-- the kept error stands in slot j -/
def dTry (ct : Str → Option Bool) (i j : Nat) (f : DS) : DS := fun env m => match f env m with
  | .ex c d e m1 => match ct c with
    | some true => .nx (((e.set i (some (.exn c d))).set j (some (.exn c d))).set i none) m1
    | some false => .ex c d e m1
    | none => .bad
  | r => r
/-- what a class of errors is, for except -/
def CatchOk (K : PySem.W.Frag) (mg : Str → Option Value) (cx : Value) (ct : Str → Option Bool) : Prop := ∀ c b C, ct c = some b → mg c = some (.ref C) → PySem.W.exmOne K (.ref C) cx = some b
section
variable {X : Cx} {x n y : Str} {cx : Value} {i j : Nat} {body : List Stmt} {np pos pos' p1 p2 p3 : Pos} {tb : WXs → TS} {Wout : WXs} {ct : Str → Option Bool} {f : DS}
theorem psd_try (hs : X.stack = X.env :: X.outer) (hf : X.env.frame = some X.env.locals) (hex : X.ex = []) (hN : X.N.Nodup) (hi : X.N[i]? = some n) (hln : X.env.kindOf n = some .local) (hj : X.N[j]? = some y) (hly : X.env.kindOf y = some .local) (hc : Names X x cx) (tk : Takes X Wout)
    (hcat : CatchOk X.K X.mg cx ct)
    (hb : ∀ (W : WXs) (pn : List (Addr × Obj)) (xe : Value → Shared → Prop), Takes (X.tr pn xe) W → PSsD (X.tr pn xe) W body (tb W) f)
    (hsw : swapsWith (.Name n p2) (some (.Name y p1)) p3.line X.env = pure false := by rfl) (hdn : (n == ("__debug__" : Str)) = false := by decide) (hcn : (n == ("__classdict__" : Str)) = false := by decide) :
    PSD X Wout (.Try body [.ExceptHandler (some (.Name x np)) (some n) [.Assign [.Name y p1] (.Name n p2) p3] pos'] [] [] pos) (fun D σ H => tb (wKeep X.K cx i j Wout D) D σ H) (dTry ct i j f) :=
  ⟨ps_try_keep hs hf hex hN hi hln hj hly hc tk (fun W pn xe t p => (hb W pn xe t).ps) hsw hdn hcn, fun σ H env m Z D R E h => by
    have sn : SndS (Cx.km X) (wKeep X.K cx i j Wout D) (tb (wKeep X.K cx i j Wout D)) f := (hb (wKeep X.K cx i j Wout D) [] (fun _ _ => True) (fun _ _ _ => trivial)).sn
    refine sn σ H env m Z D R E ?_
    unfold dTry at h
    cases q : f env m with
    | ex c d e m1 =>
      rw [q] at h
      show PostS _ _ Z (.ex c d e m1) D
      intro σ' Z1 x1 E1 C dx v H' Z' hcc x2 R' hxd rv
      dsimp only at h
      cases hb2 : ct c with
      | none => rw [hb2] at h; exact h.elim
      | some b =>
        rw [hb2] at h
        have em := hcat c b C hb2 hcc
        cases b with
        | true =>
          refine ⟨true, em, fun _ a na C' dx' hC' hdx' => ?_, fun _ => ⟨C, dx, rfl, rfl⟩, fun z => nomatch z⟩
          cases hC'
          cases hdx'
          have xa : Ext Z' (Z'.add a (.ext (exFact a C dx))) := R'.ext na
          have rx : Rd (Cx.km X) (Z'.add a (.ext (exFact a C dx))) (.ref a) (.exn c d) := by
            unfold Rd
            exact ⟨a, C, dx, v, rfl, hcc, upd_same, xa.same _ _ hxd, rv.mono xa⟩
          have E' : RelE (Cx.km X) (Z'.add a (.ext (exFact a C dx))) σ' e := E1.mono (x2.trans xa)
          exact h _ _ _ ((x1.trans x2).trans xa) (R'.alloc na) (((E'.set i rx).set j rx).unset i)
        | false =>
          exact ⟨false, em, ⟨fun z => absurd z Bool.false_ne_true, fun z => absurd z Bool.false_ne_true, fun _ => h σ' Z1 x1 E1 C dx v H' Z' hcc x2 R' hxd rv⟩⟩
    | nx _ _ => rw [q] at h; exact h
    | rt _ _ => rw [q] at h; exact h
    | bk _ _ => rw [q] at h; exact h
    | ct _ _ => rw [q] at h; exact h
    | bad => rw [q] at h; exact h⟩
end
end DX
end

section
set_option Elab.async false
set_option linter.all false
set_option maxRecDepth 100000
set_option maxHeartbeats 4000000
/-! DX10: isinstance of a kept error or None with own classes; its value. -/
namespace DX
open PySem PySem.Spec PyProof.Rows L2
inductive TyE (K : PySem.W.Frag) (H : Hp) : V → Value → Prop where
  | non : TyE K H .non (.type "NoneType")
  | exn {a C dx : Addr} {fs : List (Str × V)} (h : H a = some (.ext (exFact a C dx))) (hd : H dx = some (.xd fs)) (c : ExcC K C) : TyE K H (.ref a) (.ref C)
section
variable {X : Cx} {pins : List (Addr × Obj)} {σ : L2.St} {H : Hp} {s : Shared}
theorem inst_exn (I : Inv X pins σ H s) {a C dx : Addr} {fs : List (Str × V)} (h : H a = some (.ext (exFact a C dx))) (hd : H dx = some (.xd fs)) :
    ∃ oe od, PySem.W.InstAt s.heap a oe C (some od) ∧ ∃ mA : Str → Option Value, (∀ f, PySem.W.lookIn f od = some (mA f)) ∧ ∀ f, RelO (fs.lookup f) (mA f) := by
  obtain ⟨fact, _, _⟩ := (show ObjOk X.prog X.w H s.heap a (.ext (exFact a C dx)) from I.hok a _ h)
  obtain ⟨oe, vs, he, hc, hdx, hv⟩ := fact
  have hx : ObjOk X.prog X.w H s.heap dx (.xd fs) := I.hok dx _ hd
  obtain ⟨mA, hns, hr⟩ := hx
  obtain ⟨od, ho, hl⟩ := lookIn_ns hns
  exact ⟨oe, od, ⟨he, hc, by unfold PySem.W.notCls; rw [hv] <;> rfl, by rw [hdx]; exact ho⟩, mA, hl, hr⟩
theorem kitE_of {x : V} {u t : Value} (I : Inv X pins σ H s) (rx : RelV x u) (ty : TyE X.K H x t) : ∃ P : Heap → Prop, PySem.W.KitX X.K u t P ∧ P s.heap ∧ u ≠ .builtin "__main__.__loader__#opaque" := by
  cases ty with
  | non => cases (show u = Value.none from rx); exact ⟨_, PySem.W.kitx_none, True.intro, fun z => nomatch z⟩
  | @exn a C dx fs h hd c =>
    cases (show u = Value.ref a from rx)
    obtain ⟨oe, od, J, _⟩ := inst_exn I h hd
    have hcl : (PySem.W.clsIn X.K C).isSome = true := by
      obtain ⟨cd, hc, _⟩ := PySem.W.any_some c.hd
      rw [hc] <;> rfl
    exact ⟨_, PySem.W.kitx_exc hcl c.hg c.hk c.hs c.ha c.hn c.ht c.hm, J, fun z => nomatch z⟩
def rIsE1 (K : PySem.W.Frag) : List V → Hp → VK → Prop := fun xs H Q => ∃ (x c : V) (t u : Value) (b : Bool), xs = [x, c] ∧ ClsV c u ∧ TyE K H x t ∧ PySem.W.kitOne K t u = some b ∧ Q (.bl b) H
def rIsE2 (K : PySem.W.Frag) : List V → Hp → VK → Prop := fun xs H Q => ∃ (x : V) (tp : Addr) (cs : List V) (t : Value) (us : List Value) (b : Bool), xs = [x, .ref tp] ∧ H tp = some (.tup cs) ∧ Paired ClsV cs us ∧ TyE K H x t ∧ PySem.W.kitAny K t us = some b ∧ Q (.bl b) H
theorem call_isE1 : CallR X (.builtin "isinstance") (rIsE1 X.K) := by
  intro pins s σ H xs us Q I r h
  obtain ⟨x, c, t, u, b, rfl, k, ty, e, q⟩ := h
  obtain ⟨u1, u2, rfl, r1, r2⟩ := vals2 r
  have e2 := k.eq r2
  subst e2
  obtain ⟨P, Z, p, hx⟩ := kitE_of I r1 ty
  exact PySem.W.kia_one Z I.kIn p e hx fun tk => ⟨.bl b, H, I.tok tk, rfl, q⟩
theorem call_isE2 : CallR X (.builtin "isinstance") (rIsE2 X.K) := by
  intro pins s σ H xs us Q I r h
  obtain ⟨x, tp, cs, t, ws, b, rfl, hT, k, ty, e, q⟩ := h
  obtain ⟨u1, u2, rfl, r1, r2⟩ := vals2 r
  cases (show u2 = Value.ref tp from r2)
  obtain ⟨P, Z, p, hx⟩ := kitE_of I r1 ty
  obtain ⟨_, its, rv, o, h1, h2, n, h3⟩ := (show ObjOk X.prog X.w H s.heap tp (.tup cs) from I.hok tp _ hT)
  have e3 := ClsV.all k rv
  subst e3
  obtain ⟨oc, od, dt, sl⟩ := o
  simp only at h2 h3
  subst h2 h3
  exact PySem.W.kia_tup Z I.kIn p h1 e hx fun tk => ⟨.bl b, H, I.tok tk, rfl, q⟩
end
/-- which errors are of which classes; "" is None's -/
abbrev ErrTb := Str → Str → Option Bool
structure ErrOk (K : PySem.W.Frag) (mg : Str → Option Value) (tb : ErrTb) : Prop where
  cls : ∀ c T b C D, tb c T = some b → c ≠ "" → mg c = some (.ref C) → mg T = some (.ref D) → ExcC K C ∧ PySem.W.kitOne K (.ref C) (.ref D) = some b
  non : ∀ T b D, tb "" T = some b → mg T = some (.ref D) → PySem.W.kitOne K (.type "NoneType") (.ref D) = some b
def tyNm (d : D) : Option Str := match d with
  | .exn c _ => if c = "" then none else some c
  | .non => some ""
  | _ => none
def isE (tb : ErrTb) (d : D) (T : Str) : Option Bool := (tyNm d).bind fun c => tb c T
def isEs (tb : ErrTb) (d : D) : List Str → Option Bool
  | [] => some false
  | T :: Ts => match isE tb d T with
    | some true => some true
    | some false => isEs tb d Ts
    | none => none
section
variable {M : KM} {Z : Fz} {H : Hp} {m : DMem} {tb : ErrTb} {v : V} {d : D}
theorem tyE_rd (O : ErrOk M.K M.mg tb) (R : RelM M Z H m) (r : Rd M Z v d) {T : Str} {b : Bool} {D : Addr} (h : isE tb d T = some b) (hT : M.mg T = some (.ref D)) :
    ∃ t, TyE M.K H v t ∧ (∀ T b D, isE tb d T = some b → M.mg T = some (.ref D) → PySem.W.kitOne M.K t (.ref D) = some b) := by
  unfold isE tyNm at h
  cases d with
  | non =>
    unfold Rd at r
    subst r
    exact ⟨_, .non, fun T b D h hm => O.non T b D h hm⟩
  | exn c e =>
    unfold Rd at r
    obtain ⟨a, C, dx, u, rfl, hc, h1, h2, _⟩ := r
    dsimp only at h
    split at h
    · cases h
    · rename_i hn
      refine ⟨.ref C, .exn (R.same _ _ h1) (R.same _ _ h2) (O.cls c T b C D h hn hc hT).1, fun T b D h hm => ?_⟩
      unfold isE tyNm at h
      dsimp only at h
      rw [if_neg hn] at h
      exact (O.cls c T b C D h hn hc hm).2
  | _ => cases h
end
def dIsE (tb : ErrTb) (T : Str) (f : DE) : DE := fun env m => (f env m).bind fun d m1 => match isE tb d T with
  | some b => .ok (.bl b) m1
  | none => .bad
def dIsEs (tb : ErrTb) (Ts : List Str) (f : DE) : DE := fun env m => (f env m).bind fun d m1 => match isEs tb d Ts with
  | some b => .ok (.bl b) m1
  | none => .bad
/-- names of classes -/
structure PCs (X : Cx) (es : List Expr) (Ts : List Str) (t : TA) : Prop where
  pa : PA X es t
  sn : ∀ σ H Q, (∀ vs us, Paired ClsV vs us → Paired (fun T u => ∃ D, u = Value.ref D ∧ X.mg T = some (Value.ref D)) Ts us → Q vs H) → t σ H Q
section
variable {X : Cx} {W : WXs} {a : Expr} {ta : TE} {fa : DE} {p p2 pos : Pos} {T : Str} {D : Addr} {es : List Expr} {Ts : List Str} {t : TA} {tb : ErrTb}
theorem pcs_nil : PCs X [] [] tNil := ⟨pa_nil, fun σ H Q k => k [] [] .nil .nil⟩
theorem pcs_cons (hg : Gl X T) (hm : X.mg T = some (.ref D)) (h : PCs X es Ts t) (hst : starEach (.Name T p :: es) X.env = (false, eval (.Name T p) X.env) :: starEach es X.env := by rfl) (hd : (T == ("__debug__" : Str)) = false := by decide) : PCs X (.Name T p :: es) (T :: Ts) (tCons (tC (.ref D)) t) :=
  ⟨pa_cons (pe_glob hg hm rfl hd) h.pa hst, fun σ H Q k => h.sn σ H _ fun vs us k1 k2 => k _ _ (.cons (.own D) k1) (.cons ⟨D, rfl, hm⟩ k2)⟩
theorem pd_isE (O : ErrOk X.K X.mg tb) (hg : Gl X "isinstance") (hm : X.mg "isinstance" = none) (hg2 : Gl X T) (hm2 : X.mg T = some (.ref D)) (ha : PD X W a ta fa) (hst : starEach [a, .Name T p2] X.env = (false, eval a X.env) :: starEach [.Name T p2] X.env := by rfl)
    (hst2 : starEach [.Name T p2] X.env = (false, eval (.Name T p2) X.env) :: starEach [] X.env := by rfl) (hpl : (backTo pos (starEach [.Name T p2] X.env)).any (·.1) = false := by rfl) (hd : (T == ("__debug__" : Str)) = false := by decide) :
    PD X W (.Call (.Name "isinstance" p) [a, .Name T p2] [] pos) (tCB (rIsE1 X.K) (tCons ta (tCons (tC (.ref D)) tNil))) (dIsE tb T fa) :=
  ⟨pe_callB call_isE1 hg hm boot_isinstance (pa_cons ha.pe (pa_cons (pe_glob hg2 hm2 rfl hd) pa_nil hst2) hst) (by decide) (by decide) hst hpl, fun σ H env m Z Q R E hp => by
    refine ha.sn σ H env m Z _ R E (Post.bind hp fun d m1 x H1 Z1 _ e1 R1 rx hp1 => ?_)
    split at hp1
    · rename_i b eb
      obtain ⟨t, ty, k⟩ := tyE_rd O R1 rx eb hm2
      exact ⟨x, .ref D, t, _, b, rfl, .own D, ty, k T b D eb hm2, Post.here R1 rd_bl hp1⟩
    · exact hp1.elim⟩
theorem isEs_any {K : PySem.W.Frag} {mg : Str → Option Value} {d : DX.D} {t : Value} (k : ∀ T b D, isE tb d T = some b → mg T = some (.ref D) → PySem.W.kitOne K t (.ref D) = some b) : ∀ {Ts : List Str} {us : List Value} {b : Bool},
    Paired (fun T u => ∃ D, u = Value.ref D ∧ mg T = some (Value.ref D)) Ts us → isEs tb d Ts = some b → PySem.W.kitAny K t us = some b
  | _, _, _, .nil, h => h
  | T :: Ts, u :: us, b, .cons ⟨D, e, hm⟩ ps, h => by
    subst e
    unfold isEs at h
    unfold PySem.W.kitAny
    cases q : isE tb d T with
    | none => rw [q] at h; cases h
    | some b1 =>
      rw [q] at h
      rw [k T b1 D q hm]
      cases b1 with
      | true => exact h
      | false => exact isEs_any k ps h
theorem paired_len {α β : Type} {F : α → β → Prop} : ∀ {as : List α} {bs : List β}, Paired F as bs → as.length = bs.length
  | _, _, .nil => rfl
  | _, _, .cons _ h => by rw [List.length_cons, List.length_cons, paired_len h]
theorem pd_isEs {kt pt} (O : ErrOk X.K X.mg tb) (hg : Gl X "isinstance") (hm : X.mg "isinstance" = none) (ha : PD X W a ta fa) (hes : PCs X es (T :: Ts) t) (hn : (es.length) ≤ sizeLine) (hmT : X.mg T = some (.ref D)) (hst : starEach [a, .Tuple es kt pt] X.env = (false, eval a X.env) :: starEach [.Tuple es kt pt] X.env := by rfl)
    (hst2 : starEach [.Tuple es kt pt] X.env = (false, eval (.Tuple es kt pt) X.env) :: starEach [] X.env := by rfl) (hpl : (backTo pos (starEach [.Tuple es kt pt] X.env)).any (·.1) = false := by rfl) (hl : (T :: Ts).length ≤ sizeLine) :
    PD X W (.Call (.Name "isinstance" p) [a, .Tuple es kt pt] [] pos) (tCB (rIsE2 X.K) (tCons ta (tCons (tTup t) tNil))) (dIsEs tb (T :: Ts) fa) :=
  ⟨pe_callB call_isE2 hg hm boot_isinstance (pa_cons ha.pe (pa_cons (pe_tup hes.pa) pa_nil hst2) hst) (by decide) (by decide) hst hpl, fun σ H env m Z Q R E hp => by
    refine ha.sn σ H env m Z _ R E (Post.bind hp fun d m1 x H1 Z1 _ e1 R1 rx hp1 => ?_)
    split at hp1
    · rename_i b eb
      refine hes.sn σ H1 _ fun vs us k1 k2 => ?_
      have len1 : vs.length = us.length := paired_len k1
      have len2 : (T :: Ts).length = us.length := paired_len k2
      refine ⟨by rw [len1, ← len2]; exact hl, fun q hq => ?_⟩
      have R2 := R1.alloc (o := .tup vs) hq
      have rx2 := rx.mono (R1.ext (o := .tup vs) hq)
      obtain ⟨b1, eb1⟩ : ∃ b1, isE tb d T = some b1 := by
        unfold isEs at eb
        cases q : isE tb d T with
        | none => rw [q] at eb; cases eb
        | some b1 => exact ⟨b1, rfl⟩
      obtain ⟨tt, ty, k⟩ := tyE_rd O R2 rx2 eb1 hmT
      exact ⟨x, q, vs, tt, us, b, rfl, upd_same, k1, ty, isEs_any k k2 eb, hp1 _ _ _ (R1.ext hq) R2 rd_bl⟩
    · exact hp1.elim⟩
/-! ### its value -/
def tXv (K : PySem.W.Frag) (te : TE) : TE := fun σ H Q => te σ H fun x H1 => ∃ (a C dx : Addr) (fs : List (Str × V)) (v : V), x = .ref a ∧ H1 a = some (.ext (exFact a C dx)) ∧ XfC K C ∧ PySem.W.findIn K (.ref C) "value" = some none ∧ H1 dx = some (.xd fs) ∧ fs.lookup (("value" : Str)) = some v ∧ Q v H1
theorem pe_xv (he : PE X a ta) (hb : attributeBase a "value" X.env (eval a X.env) = eval a X.env := by rfl) : PE X (.Attribute a "value" pos) (tXv X.K ta) := by
  refine ⟨fun pins s σ H Q I h => ?_⟩
  refine attr_of hb (thn (he.run pins s σ H _ I h) fun u s1 hh => ?_)
  obtain ⟨x, H1, I1, rx, e, C, dx, fs, v, ex, ha, T, hno, hd, l, q⟩ := hh
  subst ex
  obtain rfl : u = Value.ref e := rx
  obtain ⟨oe, od, J, mA, hl, hr⟩ := inst_exn I1 ha hd
  obtain ⟨u, hu, ru⟩ := RelO.some_of (v := v) (o := mA "value") (by rw [← l]; exact hr "value")
  exact HandSPX.exc_get I1.kIn J T.ga T.gg T.exC (PySem.W.findObj_own T.hdC hno rfl (by rw [hl, hu])) (handed_of ru) ⟨v, H1, I1.tok _, ru, q⟩
/-- these classes keep a value -/
def XvOk (K : PySem.W.Frag) (mg : Str → Option Value) (es : List Str) : Prop := ∀ c C, c ∈ es → mg c = some (.ref C) → XfC K C ∧ PySem.W.findIn K (.ref C) "value" = some none
def dVal (es : List Str) (f : DE) : DE := fun env m => (f env m).bind fun d m1 => match d with
  | .exn c v => if c ∈ es then .ok v m1 else .bad
  | _ => .bad
theorem pd_val {errs : List Str} (O : XvOk X.K X.mg errs) (ha : PD X W a ta fa) (hb : attributeBase a "value" X.env (eval a X.env) = eval a X.env := by rfl) : PD X W (.Attribute a "value" pos) (tXv X.K ta) (dVal errs fa) :=
  ⟨pe_xv ha.pe hb, fun σ H env m Z Q R E hp => by
    refine ha.sn σ H env m Z _ R E (Post.bind hp fun d m1 x H1 Z1 _ e1 R1 rx hp1 => ?_)
    cases d with
    | exn c v =>
      dsimp only at hp1
      split at hp1
      · rename_i hc
        unfold Rd at rx
        obtain ⟨e, C, dx, u, rfl, hC, h1, h2, h3⟩ := rx
        obtain ⟨q1, q2⟩ := O c C hc hC
        exact ⟨e, C, dx, _, u, rfl, R1.same _ _ h1, q1, q2, R1.same _ _ h2, by simp [List.lookup], Post.here R1 h3 hp1⟩
      · exact hp1.elim
    | _ => exact hp1.elim⟩
end
end DX
end

section
set_option Elab.async false
set_option linter.all false
set_option maxRecDepth 100000
set_option maxHeartbeats 4000000
/-! DX11: the head: the law's def called with the script. -/
namespace DX
open PySem PySem.Spec PyProof.Rows L2
/-- the script's object as the caller laid it -/
abbrev scrO (vs : List Value) : Obj := { cls := .type "list", data := .seq vs.toArray }
/-- what is tracked at the start: the script, where it is none of the module's own -/
def scrH (K : PySem.W.Frag) (a : Addr) (vs : List Value) (ns : List Int) : Hp := fun b => if b = a ∧ K.lookup a = none then some (.frz (scrO vs) (.lst (ns.map V.int))) else none
section
variable {P : Program} {w : World} {K : PySem.W.Frag} {mg mb : Str → Option Value} {k : Nat} {fa a : Addr} {fd : FuncData} {x : Str} {Fd : List D → DMem → XO D} {st : Shared} {vs : List Value} {ns : List Int}
theorem scrH_only {b : Addr} {u : HO} (h : scrH K a vs ns b = some u) : b = a ∧ K.lookup a = none ∧ u = .frz (scrO vs) (.lst (ns.map V.int)) := by
  unfold scrH at h
  split at h
  · rename_i q; exact ⟨q.1, q.2, (Option.some.inj h).symm⟩
  · cases h
theorem head_call (KX : K.In st.heap) (n1 : st.heap.Ns mainGlobals mg) (n2 : st.heap.Ns builtinsNs mb) (n3 : ∀ x : Str, x ≠ "__name__" → mb x = bootBuiltins x) (lim : st.heap.NoLimit) (gn : st.gens = #[]) (oa : st.heap.get? a = some (scrO vs)) (ia : IntsAre vs ns) (la : ns.length ≤ sizeLine) (rk : Room k callerA)
    (F : ∀ bs : Heap, K.In bs → bs.Ns mainGlobals mg → FnG P w K mg bs k fa fd [x] (spD ⟨K, mg⟩ 1 Fd)) (bd : ∀ (s : Shared) (u : Value), BindsTo s fd ⟨[u], []⟩ [(x, u)]) (holds : ∃ m, Fd [.scr ns] [] = .ok (.bl true) m) :
    codeAny (model P w) callerA (.call (.ref fa) ⟨[.ref a], []⟩) (fun r s' => r = .ok (.ret (.bool true)) ∧ OldK st.heap s'.heap ∧ s'.os = st.os ∧ AllBare s'.gens) st := by
  have rv : Vals (ns.map V.int) vs := vals_ints ia
  have lv := ia.length
  have hok : HOk P w (scrH K a vs ns) st.heap := fun b u e => by
    obtain ⟨rfl, _, rfl⟩ := scrH_only e
    exact ⟨oa, by rw [List.length_map]; exact la, vs, _, rv, oa⟩
  have hS : SqL K (scrH K a vs ns) a (ns.map V.int) := by
    by_cases q : K.lookup a = none
    · exact .inl (.inr ⟨scrO vs, if_pos ⟨rfl, q⟩⟩)
    · obtain ⟨o, ho⟩ := Option.ne_none_iff_exists'.mp q
      have e := (KX a o ho).symm.trans oa
      cases e
      exact .inr ⟨_, vs.toArray, _, ho, rfl, rfl, rfl, by rw [List.size_toArray, lv]; exact la, by simpa using rv⟩
  have dict_free : ∀ {b : Addr} {o : Obj} {es : Array DictEntry} {ep : Nat}, st.heap.get? b = some o → o.data = .dict es ep → scrH K a vs ns b = none := fun {b o es ep} e d => by
    cases q : scrH K a vs ns b with
    | none => rfl
    | some u =>
      obtain ⟨rfl, _, _⟩ := scrH_only q
      have := oa.symm.trans e
      cases this
      cases (show Data.seq vs.toArray _ = Data.dict es ep from d)
  have nsUp : ∀ {b : Addr} {m : Str → Option Value}, st.heap.Ns b m → (hidT st.heap (scrH K a vs ns)).Ns b m := fun {b m} ⟨o, es, ep, e, d, r⟩ => ⟨o, es, ep, hidT_get e (dict_free e d), d, r⟩
  have kb : K.In (hidT st.heap (scrH K a vs ns)) := fun b o e => hidT_get (KX b o e) (by
    cases q : scrH K a vs ns b with
    | none => rfl
    | some u =>
      obtain ⟨rfl, z, _⟩ := scrH_only q
      rw [z] at e
      cases e)
  obtain ⟨mc, l1, l2⟩ := lim
  have md : Mod K mg (hidT st.heap (scrH K a vs ns)) := ⟨kb, nsUp n1, ⟨mb, nsUp n2, n3⟩, mc, nsUp l1, l2⟩
  have start0 : Env0 P w K mg (hidT st.heap (scrH K a vs ns)) callerA [] st (scrH K a vs ns) :=
    ⟨rfl, md, fun b o e => of_hidT e, Nat.le_of_eq (hidT_size _ _), trivial, fun b hb => absurd (show b ∈ ([] : List Addr) from hb) List.not_mem_nil, hok, .of_eq gn⟩
  have sp0 : spD ⟨K, mg⟩ 1 Fd [.ref a] (scrH K a vs ns) (fun v _ => v = .bl true) (fun _ _ _ => False) := by
    obtain ⟨m, hm⟩ := holds
    refine ⟨⟨[], scrH K a vs ns⟩, [], [.scr ns], ⟨.refl _, rfl, fun k ds e => by simp at e, fun k ds e => by simp at e, fun j k ds es b e => by simp at e⟩, .cons (by unfold Rd; exact ⟨a, rfl, hS⟩) .nil, rfl, ?_⟩
    rw [hm]
    intro b H' Z' _ _ r
    unfold Rd at r
    exact r
  refine codeAny_mono ((F _ kb (nsUp n1)).run callerA [] st (scrH K a vs ns) ⟨[.ref a], []⟩ [.ref a] [.ref a] _ _ rfl rk start0 (bd st (.ref a)) (.cons rfl .nil) sp0) fun r s' h => ?_
  cases r with
  | error e =>
    obtain ⟨_, _, _, _, _, _, _, _, _, _, _, _, no⟩ := h
    exact no.elim
  | ok fl =>
    cases fl with
    | next => exact False.elim h
    | brk => exact False.elim h
    | cont => exact False.elim h
    | ret u =>
      obtain ⟨v, H', os, bare, un, hok', r', q⟩ := h
      have qv : v = .bl true := q
      subst qv
      have eu : u = Value.bool true := r'
      subst eu
      refine ⟨rfl, OldK.of_keep fun b o e => ?_, os, bare⟩
      cases q : scrH K a vs ns b with
      | none => exact un.keep b o e q (fun z => absurd (show b ∈ ([] : List Addr) from z) List.not_mem_nil) (fun z => absurd z List.not_mem_nil)
      | some u =>
        obtain ⟨rfl, _, eu⟩ := scrH_only q
        subst eu
        obtain ⟨g2, _⟩ := hok' b _ (un.frzs b _ _ q)
        have := oa.symm.trans e
        cases this
        exact g2
/-- the goal that the head's tactic leaves, by the law's denotation -/
theorem walkG {l : PySem.W.OpenLaw} {n : Nat} {q : Program} {loose : List Str} {XP : (Str → Option Value) → Heap → Prop} {YP : World → Heap → Prop} {d : DefRec} {K : Params → PySem.W.Frag}
    (hn : l.most = some n) (hn2 : n ≤ sizeLine) (hdf : d.params.defaults = []) (rk : Room k callerA) (hY : ∀ (w : World) (h : Heap), YP w h → (K w.params).In h)
    (F : ∀ (w : World) (mg : Str → Option Value) (fa : Addr) (h : Heap), (K w.params).In h → h.Ns mainGlobals mg → mg d.name = some (.ref fa) → ∃ fd : FuncData, (∀ (s : Shared) (u : Value), BindsTo s fd ⟨[u], []⟩ [(x, u)]) ∧
        ∀ bs : Heap, (K w.params).In bs → bs.Ns mainGlobals mg → FnG l.prog w (K w.params) mg bs k fa fd [x] (spD ⟨K w.params, mg⟩ 1 Fd))
    (holds : ∀ ns : List Int, ns.length ≤ n → (∀ z ∈ ns, Builtin.Int.intBits z ≤ 1048576) → ∃ m, Fd [.scr ns] [] = .ok (.bl true) m) :
    PySem.W.WalkO q loose XP YP l.row.toRowW d [] (fun f vs => PySem.call f vs) := by
  refine Att.attach_callB hn hdf fun w _ st mg mb fa o pm cd doc a vs ns G Y _ _ _ hmg oa ia la hbits gn => ?_
  obtain ⟨fd, hb, hF⟩ := F w mg fa _ (hY w _ Y) G.T.g hmg
  exact head_call (hY w _ Y) G.T.g G.T.b G.T.builtins G.T.nolimit gn oa ia (Nat.le_trans la hn2) rk hF hb (holds ns la hbits)
end
end DX
end

section
set_option Elab.async false
set_option linter.all false
set_option maxRecDepth 100000
set_option maxHeartbeats 4000000
/-! DX12: what a program printed for a def leans on: calls by name, comprehensions, + as a cell. -/
namespace DX
open PySem PySem.Spec PyProof.Rows L2
/-- a def as the top left it -/
structure FT (K : PySem.W.Frag) (mg : Str → Option Value) (x : Str) (st : Stmt) (ps : List Str) : Prop where
  ex : ∃ f fd, Fun K x x st f fd ∧ mg x = some (.ref f) ∧ Binds K fd ps [] ∧ ∀ (o : List Nat) (ks : List Str), (∀ (kV doc pm : Value) (an : Option Addr) (cdv ct : Value) (ws : List Value), ws.length = ks.length → bindArgs (PySem.W.fnOf x x (defArgs st) (defBody st) (defScope st) .none kV doc pm an cdv ct) ⟨[], ks.zip ws⟩ = pure (ps.zip (pick o ws))) →
    ∀ (s : Shared) (ws : List Value), ws.length = ks.length → BindsTo s fd ⟨[], ks.zip ws⟩ (ps.zip (pick o ws))
/-- a def that keeps its promise, by its name -/
structure Cal (P : Program) (w : World) (K : PySem.W.Frag) (mg : Str → Option Value) (base : Heap) (k : Nat) (x : Str) (st : Stmt) (ps : List Str) (Fd : List D → DMem → XO D) : Prop where
  t : FT K mg x st ps
  run : ∀ f fd, Fun K x x st f fd → FnG P w K mg base k f fd ps (spD ⟨K, mg⟩ ps.length Fd)
section
variable {P : Program} {w : World} {K : PySem.W.Frag} {mg : Str → Option Value} {base : Heap}
theorem ft_mk {x : Str} {st : Stmt} {ps : List Str} {f : Addr} {oc : Value} {od an : Option Addr} {osl : Array (Option Value)} {kV doc pm cdv ct : Value} (g : mg x = some (.ref f)) (l : K.lookup f = some ⟨oc, od, .func (PySem.W.fnOf x x (defArgs st) (defBody st) (defScope st) .none kV doc pm an cdv ct), osl⟩)
    (c : PySem.W.codeIn K cdv x = true) (kp : PySem.W.keepIn K (.ref f) = true) (hb : ∀ (kV doc pm : Value) (an : Option Addr) (cdv ct : Value) (us : List Value), us.length = ps.length → bindArgs (PySem.W.fnOf x x (defArgs st) (defBody st) (defScope st) .none kV doc pm an cdv ct) ⟨us, []⟩ = pure (ps.zip us)) : FT K mg x st ps :=
  ⟨f, _, fun_mk l c kp, g, (fun_mk l c kp).binds hb, fun o ks h s ws hl => .of_eq (h kV doc pm an cdv ct ws hl)⟩
theorem def_cal {x : Str} {st : Stmt} {N ps : List Str} {k n : Nat} {fz : Bool} {body : DS} (T : FT K mg x st ps) (S : FnScope N ps (defScope st)) (hn : N.length = n)
    (hbody : ∀ (f : Addr) (cdv : Value) (A : Around) (outer : List Env) (s : Shared) (H : Hp) (E : XK), A.guards = some [] → Room k (A.deeper (envOfC x (defScope st) s.heap.objs.size f cdv)) →
      ∃ t, PSsD (cxOf (L2.CX P w) P w K mg base N x (defScope st) f cdv A outer s H E) (fun cls d _ H => E cls d H) (defBody st) t body) : Cal P w K mg base (k + 1) x st ps (dDef n body fz) := by
  exact ⟨T, fun f fd F => def_ok F S hn (hbody f)⟩
end
section
variable {P : Program} {w : World} {K : PySem.W.Frag} {mg : Str → Option Value} {base : Heap} {N : List Str} {qual : Str} {scope : Scope} {f : Addr} {cdv : Value} {A : Around} {outer : List Env} {s : Shared} {H : Hp} {E : XK}
theorem tk_cx : Takes (cxOf (L2.CX P w) P w K mg base N qual scope f cdv A outer s H E) (fun cls d _ H => E cls d H) := takes_of rfl rfl rfl rfl
theorem ps_cx : PassesOwn (model P w) (A.deeper (envOfC qual scope s.heap.objs.size f cdv)) (envOfC qual scope s.heap.objs.size f cdv) (cxOf (L2.CX P w) P w K mg base N qual scope f cdv A outer s H E).xe := passes_of (X := cxOf (L2.CX P w) P w K mg base N qual scope f cdv A outer s H E) rfl
end
section
variable {X : Cx} {W : WXs} {k : Nat} {st : Stmt} {ps : List Str} {x : Str} {p pos : Pos} {e : Expr} {es : List Expr} {t tk : TA} {fa fk : DA} {Fd : List D → DMem → XO D}
theorem pd_c (F : Cal X.prog X.w X.K X.mg X.base k x st ps Fd) (hgd : X.A.guards = some []) (hr : Room k X.A) (hg : Gl X x) (tk : Takes X W) (ha : PAD X W (e :: es) t fa) (hn : ∀ env m as m1, fa env m = .ok as m1 → as.length = ps.length) (hdb : (x == ("__debug__" : Str)) = false := by decide)
    (he : starEach (e :: es) X.env = (false, eval e X.env) :: starEach es X.env := by rfl) (hpl : (backTo pos (starEach es X.env)).any (·.1) = false := by rfl) : PD X W (.Call (.Name x p) (e :: es) [] pos) (tCallG (spD (Cx.km X) ps.length Fd) W t) (dCall Fd fa) := by
  obtain ⟨f, fd, T, g, b, _⟩ := F.t.ex
  exact pd_call (F.run f fd T) hgd hr hg g T.kp b tk ha hn hdb he hpl
theorem pd_c0 (F : Cal X.prog X.w X.K X.mg X.base k x st [] Fd) (hgd : X.A.guards = some []) (hr : Room k X.A) (hg : Gl X x) (tk : Takes X W) (hdb : (x == ("__debug__" : Str)) = false := by decide) : PD X W (.Call (.Name x p) [] [] pos) (tCallG (spD (Cx.km X) 0 Fd) W tNil) (dCall Fd dNil) := by
  obtain ⟨f, fd, T, g, b, _⟩ := F.t.ex
  exact pd_call0 (F.run f fd T) hgd hr hg g T.kp b tk rfl hdb
theorem pd_ck {kws : List Keyword} {ks : List Str} {o : List Nat} (F : Cal X.prog X.w X.K X.mg X.base k x st ps Fd) (hgd : X.A.guards = some []) (hr : Room k X.A) (hg : Gl X x) (tkx : Takes X W)
    (hbk : ∀ (kV doc pm : Value) (an : Option Addr) (cdv ct : Value) (ws : List Value), ws.length = ks.length → bindArgs (PySem.W.fnOf x x (defArgs st) (defBody st) (defScope st) .none kV doc pm an cdv ct) ⟨[], ks.zip ws⟩ = pure (ps.zip (pick o ws)))
    (hkw : PKD X W kws tk fk) (hn : ∀ env m as m1, fk env m = .ok as m1 → as.length = ks.length ∧ (pick o as).length = ps.length)
    (hall : (backToKw pos (keywordEach kws X.env)).all (·.1.isSome) = true := by rfl) (hks : (backToKw pos (keywordEach kws X.env)).filterMap (·.1) = ks := by rfl) (hdb : (x == ("__debug__" : Str)) = false := by decide)
    (hpl : ((backTo pos (starEach [] X.env)).any (·.1) || (backToKw pos (keywordEach kws X.env)).any (·.1.isNone)) = false := by rfl) :
    PD X W (.Call (.Name x p) [] kws pos) (fun σ H Q => tk σ H fun zs H1 => zs.length = ks.length ∧ spD (Cx.km X) ps.length Fd (pick o zs) H1 Q fun cls d H' => W cls d σ H') (dCallKw Fd o fk) := by
  obtain ⟨f, fd, T, g, _, kw⟩ := F.t.ex
  exact pd_callKw (F.run f fd T) hgd hr hg g T.kp tkx (kw o ks hbk) hkw hn hall hks hdb hpl
end
/-! ### comprehensions -/
structure PTsD (X : Cx) (W : WXs) (cs : List Expr) (t : TT) (f : DT) : Prop where
  pt : PTs X cs t
  sn : SndT (Cx.km X) W t f
section
variable {X : Cx} {W : WXs} {c : Expr} {t : TT} {f : DT}
theorem ptsd_nil : PTsD X W [] tYes dYes := ⟨pts_nil, fun σ H env m Z Q R E h => Post.here R rfl h⟩
theorem ptsd_one (h : PTD X W c t f) : PTsD X W [c] t f := ⟨pts_one h.pt, h.sn⟩
variable {elt tg iter : Expr} {ifs : List Expr} {scope : Scope} {own : List (Str × Nat)} {pos : Pos} {wi : TI} {fi : DI} {sl ws : List Nat} {g : Shared → Hp → Addr → List (Str × Addr) → List Addr → TG} {fg : DTg} {tt : Shared → Hp → Addr → List (Str × Addr) → List Addr → TT} {ft : DT} {te : Shared → Hp → Addr → List (Str × Addr) → List Addr → TE} {fe : DE}
theorem pd_lcC (hc : X.calm = true) (hN : X.N.Nodup) (hi : PID X W tg iter wi fi) (ok : BlkOk X.N X.env.scope scope own) (hws : own.map (·.2) = ws)
    (hg : ∀ (s : Shared) (H : Hp) (C : Addr) (cl : List (Str × Addr)) (fp : List Addr), PGD (X.blk s H scope (compEnvC scope cl C X.env) fp) tg sl (g s H C cl fp) fg) (ht : ∀ (s : Shared) (H : Hp) (C : Addr) (cl : List (Str × Addr)) (fp : List Addr), PTsD (X.blk s H scope (compEnvC scope cl C X.env) fp) W0 ifs (tt s H C cl fp) ft)
    (he : ∀ (s : Shared) (H : Hp) (C : Addr) (cl : List (Str × Addr)) (fp : List Addr), PD (X.blk s H scope (compEnvC scope cl C X.env) fp) W0 elt (te s H C cl fp) fe) (hw : ∀ i ∈ sl, i ∈ ws) (hs : ∀ x, foldedSetIterable iter X.env x = pure x := by intro _; rfl)
    (hg0 : ∀ (s : Shared) (H : Hp) (C : Addr) (cl : List (Str × Addr)) (fp : List Addr), g s H C cl fp = g X.s_0 X.H_0 X.env.locals [] [] := by intros; rfl) (ht0 : ∀ (s : Shared) (H : Hp) (C : Addr) (cl : List (Str × Addr)) (fp : List Addr), tt s H C cl fp = tt X.s_0 X.H_0 X.env.locals [] [] := by intros; rfl) (he0 : ∀ (s : Shared) (H : Hp) (C : Addr) (cl : List (Str × Addr)) (fp : List Addr), te s H C cl fp = te X.s_0 X.H_0 X.env.locals [] [] := by intros; rfl) :
    PD X W (.ListComp elt [⟨tg, iter, ifs, 0⟩] scope pos) (tLc wi (g X.s_0 X.H_0 X.env.locals [] []) (tt X.s_0 X.H_0 X.env.locals [] []) (te X.s_0 X.H_0 X.env.locals [] []) ws) (dLcC fi fg ft fe ws) := by
  subst hws
  exact ⟨pe_lc hc hN hi.pi ok (fun s H C cl fp => hg0 s H C cl fp ▸ (hg s H C cl fp).pg) (fun s H C cl fp => ht0 s H C cl fp ▸ (ht s H C cl fp).pt) (fun s H C cl fp => he0 s H C cl fp ▸ (he s H C cl fp).pe) hs, sn_lcC hi.sn (hg X.s_0 X.H_0 X.env.locals [] []).sn (ht X.s_0 X.H_0 X.env.locals [] []).sn (he X.s_0 X.H_0 X.env.locals [] []).sn hw⟩
theorem pd_lc (hc : X.calm = true) (hN : X.N.Nodup) (hi : PID X W tg iter wi fi) (ok : BlkOk X.N X.env.scope scope own) (hws : own.map (·.2) = ws)
    (hg : ∀ (s : Shared) (H : Hp) (C : Addr) (cl : List (Str × Addr)) (fp : List Addr), PGD (X.blk s H scope (compEnvC scope cl C X.env) fp) tg sl (g s H C cl fp) fg) (ht : ∀ (s : Shared) (H : Hp) (C : Addr) (cl : List (Str × Addr)) (fp : List Addr), PTsD (X.blk s H scope (compEnvC scope cl C X.env) fp) W0 ifs (tt s H C cl fp) ft)
    (he : ∀ (s : Shared) (H : Hp) (C : Addr) (cl : List (Str × Addr)) (fp : List Addr), PD (X.blk s H scope (compEnvC scope cl C X.env) fp) W0 elt (te s H C cl fp) fe) (hw : ∀ i ∈ sl, i ∈ ws) (hs : ∀ x, foldedSetIterable iter X.env x = pure x := by intro _; rfl)
    (hg0 : ∀ (s : Shared) (H : Hp) (C : Addr) (cl : List (Str × Addr)) (fp : List Addr), g s H C cl fp = g X.s_0 X.H_0 X.env.locals [] [] := by intros; rfl) (ht0 : ∀ (s : Shared) (H : Hp) (C : Addr) (cl : List (Str × Addr)) (fp : List Addr), tt s H C cl fp = tt X.s_0 X.H_0 X.env.locals [] [] := by intros; rfl) (he0 : ∀ (s : Shared) (H : Hp) (C : Addr) (cl : List (Str × Addr)) (fp : List Addr), te s H C cl fp = te X.s_0 X.H_0 X.env.locals [] [] := by intros; rfl) :
    PD X W (.ListComp elt [⟨tg, iter, ifs, 0⟩] scope pos) (tLc wi (g X.s_0 X.H_0 X.env.locals [] []) (tt X.s_0 X.H_0 X.env.locals [] []) (te X.s_0 X.H_0 X.env.locals [] []) ws) (dLc fi fg ft fe ws) :=
  let q := pd_lcC (W := W) (pos := pos) hc hN hi ok hws hg ht he hw hs hg0 ht0 he0
  ⟨q.pe, sn_frz q.sn⟩
variable {i : Nat} {y : Str} {py spos : Pos}
theorem psd_setLc (hc : X.calm = true) (hN : X.N.Nodup) (hy : X.N[i]? = some y) (hyl : X.env.scope.names.lookup y = some .local) (hsw : swapsWith (.ListComp elt [⟨tg, iter, ifs, 0⟩] scope pos) (some (.Name y py)) spos.line X.env = pure true) (hi : PID X W tg iter wi fi) (ok : BlkOk X.N X.env.scope scope own) (hws : own.map (·.2) = ws)
    (hg : ∀ (s : Shared) (H : Hp) (C : Addr) (cl : List (Str × Addr)) (fp : List Addr), PGD (X.blk s H scope (compEnvC scope cl C X.env) fp) tg sl (g s H C cl fp) fg) (ht : ∀ (s : Shared) (H : Hp) (C : Addr) (cl : List (Str × Addr)) (fp : List Addr), PTsD (X.blk s H scope (compEnvC scope cl C X.env) fp) W0 ifs (tt s H C cl fp) ft)
    (he : ∀ (s : Shared) (H : Hp) (C : Addr) (cl : List (Str × Addr)) (fp : List Addr), PD (X.blk s H scope (compEnvC scope cl C X.env) fp) W0 elt (te s H C cl fp) fe) (hw : ∀ i ∈ sl, i ∈ ws) (hs : ∀ x, foldedSetIterable iter X.env x = pure x := by intro _; rfl)
    (hg0 : ∀ (s : Shared) (H : Hp) (C : Addr) (cl : List (Str × Addr)) (fp : List Addr), g s H C cl fp = g X.s_0 X.H_0 X.env.locals [] [] := by intros; rfl) (ht0 : ∀ (s : Shared) (H : Hp) (C : Addr) (cl : List (Str × Addr)) (fp : List Addr), tt s H C cl fp = tt X.s_0 X.H_0 X.env.locals [] [] := by intros; rfl) (he0 : ∀ (s : Shared) (H : Hp) (C : Addr) (cl : List (Str × Addr)) (fp : List Addr), te s H C cl fp = te X.s_0 X.H_0 X.env.locals [] [] := by intros; rfl) :
    PSD X W (.Assign [.Name y py] (.ListComp elt [⟨tg, iter, ifs, 0⟩] scope pos) spos) (tAsg (tLc wi (g X.s_0 X.H_0 X.env.locals [] []) (tt X.s_0 X.H_0 X.env.locals [] []) (te X.s_0 X.H_0 X.env.locals [] []) ws) (gName i)) (dSet i (dLc fi fg ft fe ws)) := by
  have q := pd_lc (W := W) (pos := pos) hc hN hi ok hws hg ht he hw hs hg0 ht0 he0
  subst hws
  exact ⟨ps_setLc hc hN hy hyl hsw hi.pi ok (fun s H C cl fp => hg0 s H C cl fp ▸ (hg s H C cl fp).pg) (fun s H C cl fp => ht0 s H C cl fp ▸ (ht s H C cl fp).pt) (fun s H C cl fp => he0 s H C cl fp ▸ (he s H C cl fp).pe) hs, fun σ H env m Z T R E h => q.sn σ H env m Z _ R E (PostS.to E h fun a m1 x H1 Z1 _ e1 R1 rx h1 => h1 _ H1 Z1 (.refl _) R1 ((E.mono e1).set i rx))⟩
theorem psd_setLcC (hc : X.calm = true) (hN : X.N.Nodup) (hy : X.N[i]? = some y) (hyl : X.env.scope.names.lookup y = some .local) (hsw : swapsWith (.ListComp elt [⟨tg, iter, ifs, 0⟩] scope pos) (some (.Name y py)) spos.line X.env = pure true) (hi : PID X W tg iter wi fi) (ok : BlkOk X.N X.env.scope scope own) (hws : own.map (·.2) = ws)
    (hg : ∀ (s : Shared) (H : Hp) (C : Addr) (cl : List (Str × Addr)) (fp : List Addr), PGD (X.blk s H scope (compEnvC scope cl C X.env) fp) tg sl (g s H C cl fp) fg) (ht : ∀ (s : Shared) (H : Hp) (C : Addr) (cl : List (Str × Addr)) (fp : List Addr), PTsD (X.blk s H scope (compEnvC scope cl C X.env) fp) W0 ifs (tt s H C cl fp) ft)
    (he : ∀ (s : Shared) (H : Hp) (C : Addr) (cl : List (Str × Addr)) (fp : List Addr), PD (X.blk s H scope (compEnvC scope cl C X.env) fp) W0 elt (te s H C cl fp) fe) (hw : ∀ i ∈ sl, i ∈ ws) (hs : ∀ x, foldedSetIterable iter X.env x = pure x := by intro _; rfl)
    (hg0 : ∀ (s : Shared) (H : Hp) (C : Addr) (cl : List (Str × Addr)) (fp : List Addr), g s H C cl fp = g X.s_0 X.H_0 X.env.locals [] [] := by intros; rfl) (ht0 : ∀ (s : Shared) (H : Hp) (C : Addr) (cl : List (Str × Addr)) (fp : List Addr), tt s H C cl fp = tt X.s_0 X.H_0 X.env.locals [] [] := by intros; rfl) (he0 : ∀ (s : Shared) (H : Hp) (C : Addr) (cl : List (Str × Addr)) (fp : List Addr), te s H C cl fp = te X.s_0 X.H_0 X.env.locals [] [] := by intros; rfl) :
    PSD X W (.Assign [.Name y py] (.ListComp elt [⟨tg, iter, ifs, 0⟩] scope pos) spos) (tAsg (tLc wi (g X.s_0 X.H_0 X.env.locals [] []) (tt X.s_0 X.H_0 X.env.locals [] []) (te X.s_0 X.H_0 X.env.locals [] []) ws) (gName i)) (dSet i (dLcC fi fg ft fe ws)) := by
  have q := pd_lcC (W := W) (pos := pos) hc hN hi ok hws hg ht he hw hs hg0 ht0 he0
  subst hws
  exact ⟨ps_setLc hc hN hy hyl hsw hi.pi ok (fun s H C cl fp => hg0 s H C cl fp ▸ (hg s H C cl fp).pg) (fun s H C cl fp => ht0 s H C cl fp ▸ (ht s H C cl fp).pt) (fun s H C cl fp => he0 s H C cl fp ▸ (he s H C cl fp).pe) hs, fun σ H env m Z T R E h => q.sn σ H env m Z _ R E (PostS.to E h fun a m1 x H1 Z1 _ e1 R1 rx h1 => h1 _ H1 Z1 (.refl _) R1 ((E.mono e1).set i rx))⟩
end
/-! ### try, its suite's reading free of the context -/
section
variable {X : Cx} {x n y : Str} {cx : Value} {i j : Nat} {body : List Stmt} {np pos pos' p1 p2 p3 : Pos} {tb : WXs → List (Addr × Obj) → (Value → Shared → Prop) → TS} {Wout : WXs} {ct : Str → Option Bool} {f : DS}
theorem psd_tryP (hs : X.stack = X.env :: X.outer) (hf : X.env.frame = some X.env.locals) (hex : X.ex = []) (hN : X.N.Nodup) (hi : X.N[i]? = some n) (hln : X.env.kindOf n = some .local) (hj : X.N[j]? = some y) (hly : X.env.kindOf y = some .local) (hc : Names X x cx) (tk : Takes X Wout)
    (hcat : CatchOk X.K X.mg cx ct) (hb : ∀ (W : WXs) (pn : List (Addr × Obj)) (xe : Value → Shared → Prop), Takes (X.tr pn xe) W → PSsD (X.tr pn xe) W body (tb W pn xe) f) (hb0 : ∀ W pn xe, tb W pn xe = tb W [] (fun _ _ => True) := by intros; rfl)
    (hsw : swapsWith (.Name n p2) (some (.Name y p1)) p3.line X.env = pure false := by rfl) (hdn : (n == ("__debug__" : Str)) = false := by decide) (hcn : (n == ("__classdict__" : Str)) = false := by decide) :
    PSD X Wout (.Try body [.ExceptHandler (some (.Name x np)) (some n) [.Assign [.Name y p1] (.Name n p2) p3] pos'] [] [] pos) (fun D σ H => tb (wKeep X.K cx i j Wout D) [] (fun _ _ => True) D σ H) (dTry ct i j f) :=
  psd_try (tb := fun W => tb W [] fun _ _ => True) hs hf hex hN hi hln hj hly hc tk hcat (fun W pn xe t => hb0 W pn xe ▸ hb W pn xe t) hsw hdn hcn
end
/-! ### xs + ys, a new list that still changes -/
def dAddC (fa fb : DE) : DE := fun env m => (fa env m).bind fun a m1 => (fb env m1).bind fun b m2 => match rs a m2, rs b m2 with
  | some (.lst xs), some (.lst ys) => if xs.length + ys.length ≤ sizeLine ∧ D.noMrs (xs ++ ys) = true then .ok (.mr m2.length) (m2 ++ [some (xs ++ ys)]) else .bad
  | _, _ => .bad
section
variable {X : Cx} {W : WXs} {a b : Expr} {ta tb : TE} {fa fb : DE} {pos : Pos}
theorem pd_addC (ha : PD X W a ta fa) (hb : PD X W b tb fb) : PD X W (.BinOp a .Add b pos) (tOp (rAddD X.K) ta tb) (dAddC fa fb) := ⟨pe_op op_addD ha.pe hb.pe, fun σ H env m Z Q R E hp => by
  refine ha.sn σ H env m Z _ R E (Post.bind hp fun x m1 v H1 Z1 _ e1 R1 rx hp1 => ?_)
  refine hb.sn σ H1 env m1 Z1 _ R1 (E.mono e1) (Post.bind hp1 fun y m2 u H2 Z2 _ e2 R2 ry hp2 => ?_)
  split at hp2
  · rename_i xs ys ex ey
    split at hp2
    · rename_i hn
      obtain ⟨l, us, rfl, h1, r1⟩ := rs_rd R2 (rx.mono e2) ex
      obtain ⟨c, ws, rfl, h2, r2⟩ := rs_rd R2 ry ey
      exact .inr (.inr (.inl ⟨l, c, us, ws, rfl, rfl, h1, h2, by rw [r1.length, r2.length]; exact hn.1, fun p hp => hp2 _ _ _ (Z2.ext_cell p) (R2.new hp (r1.append r2) hn.2) (rd_cell R2)⟩))
    · exact hp2.elim
  · exact hp2.elim⟩
end
end DX
end

section
set_option Elab.async false
set_option linter.all false
set_option maxRecDepth 100000
set_option maxHeartbeats 4000000
/-! DX13: the facts of the written part, put together. -/
namespace DX
open PySem PySem.Spec PyProof.Rows L2
section
variable {P : Program} {K : PySem.W.Frag} {mg : Str → Option Value} {h : Heap}
theorem errTxt_mk {c b : Str} {C B N fI cc cda Td : Addr} {nm q : Str} {bs bm : List Value} {sn : List Str} {sub : List Value} {ab : Bool} {col : Option Bool} {dd od odB cdd cld tdd an : Option Addr} {k0 k1 k2 k3 k5 : Option Value} {ocB oc kV doc pm ct ccl cl tcl : Value} {cdB : ClassData} {slB osl ccs csl tsl : Array (Option Value)} {qual file : Str} {p1 p2 pd q1 q2 q3 q4 q5 q6 q7 q8 q9 q10 : Pos} {vs : Array Value} {tf : Tok} {tn : Nat}
    (KX : K.In h) (G : h.Ns mainGlobals mg) (a : PySem.W.nsIn K mainGlobals c = some (some (.ref C))) (aB : PySem.W.nsIn K mainGlobals b = some (some (.ref B)))
    (xC : K.lookup C = some (excClassObj nm q C N bs bm true sn sub ab col dd k0 k1 k2 k3 k5 "ValueError.__new__")) (xB : K.lookup B = some ⟨ocB, odB, .cls cdB, slB⟩) (fB : PySem.W.findIn K (.ref B) "__init__" = some (some (.builtin "ValueError.__init__"))) (hbm : cdB.mro = bm) (rv : PySem.HandSPX.refsVE bm = true)
    (sa : PySem.W.findIn K (.ref C) "__setattr__" = some (some (.builtin "object.__setattr__"))) (ga : PySem.W.findIn K (.ref C) "__getattribute__" = some (some (.builtin "BaseException.__getattribute__"))) (gg : PySem.W.findIn K (.ref C) "__getattr__" = some none) (nv : PySem.W.findIn K (.ref C) "value" = some none) (kC : PySem.W.keepIn K (.ref C) = true)
    (eC : PySem.W.subIn K (.ref C) (.type "BaseException") = some true) (vC : PySem.W.subIn K (.ref C) (.type "ValueError") = some true) (sC : PySem.W.subIn K (.ref C) (.ref C) = some true) (tC : PySem.W.typeIn K (.ref C) = some (.type "type")) (hC : PySem.W.hasDictIn K C = true)
    (su : PySem.W.nsIn K mainGlobals "super" = some none) (oq : PySem.W.nsIn K cStatics "thirdparty.any" = some none) (tp : (P.main.scope.names.lookup ("super" : Str)).isSome = false)
    (i1 : PySem.W.findIn K (.ref C) "__init__" = some (some (.ref fI))) (t1 : PySem.W.typeIn K (.ref fI) = some (.type "function"))
    (l1 : K.lookup fI = some ⟨oc, od, .func (PySem.W.ksFn "__init__" qual (PySem.ErrX.eA p1 p2 pd) (PySem.ErrX.eB q1 q2 q3 q4 q5 q6 q7 q8 q9 q10) PySem.ErrX.eS (.ref Td) kV doc pm an (.ref cda) ct cc), osl⟩) (c1 : PySem.W.codeIn K (.ref cda) qual = true)
    (l2 : K.lookup cda = some ⟨ccl, cdd, .fields vs, ccs⟩) (v2 : vs[2]? = some (.str file tf)) (ff : ((P.main.file : Str) == file) = true) (l3 : K.lookup cc = some ⟨cl, cld, .cell (some (.ref C)), csl⟩) (l4 : K.lookup Td = some ⟨tcl, tdd, .seq #[.none] tn, tsl⟩) (ln : (q3.endLine == q5.line) = true) : PySem.ErrX.ErrTxt P K mg c C :=
  { gC := PySem.W.mg_of KX G a
    cls := ⟨nm, q, N, bs, bm, sn, sub, ab, col, dd, k0, k1, k2, k3, k5, xC, rv, by
      subst hbm
      have e := fB
      unfold PySem.W.findIn at e
      dsimp only at e
      rw [xB] at e
      exact e⟩
    sa := sa, ga := ga, gg := gg, noN := nv, kC := kC, exC := eC, veC := vC, seC := sC, tyC := tC, hdC := hC, sup := PySem.W.mg_none_of KX G su, opq := oq, top := tp
    fn := ⟨fI, cc, cda, Td, oc, od, kV, doc, pm, an, ct, osl, qual, p1, p2, pd, q1, q2, q3, q4, q5, q6, q7, q8, q9, q10, ccl, cl, tcl, cdd, cld, tdd, ccs, csl, tsl, vs, file, tf, tn, i1, t1, l1, c1, l2, v2, ff, l3, l4, ln⟩ }
/-- an error class for isinstance -/
theorem excC_of {c : Str} {C : Addr} (e : PySem.ErrX.ErrTxt P K mg c C) (ha : PySem.W.findIn K (.ref C) "__class__" = some (some (.builtin "object.__class__"))) (hn : PySem.W.specialIn K (.builtin "object.__class__") "__get__" = some (some (.builtin "getset_descriptor.__get__"))) (ht : PySem.W.takesIn K (.builtin "object.__class__") = some true) (hm : PySem.W.mroIn K C (.type "object") = some true) : ExcC K C :=
  ⟨e.ga, e.gg, e.exC, e.hdC, ha, hn, ht, hm⟩
theorem kitCls_of {C : Addr} {cls : Value} {b : Bool} (hd : PySem.W.hasDictIn K C = true) (ht : PySem.W.typeIn K (.ref C) = some (.type "type")) (h : PySem.W.subIn K cls (.ref C) = some b) : PySem.W.kitCls K cls (.ref C) = some b := by
  obtain ⟨cd, hc, _⟩ := PySem.W.any_some hd
  show (if ((PySem.W.clsIn K C).isSome && PySem.W.typeIn K (.ref C) == some (.type "type")) = true then PySem.W.subIn K cls (.ref C) else none) = some b
  rw [if_pos (by rw [hc, ht] <;> rfl)]
  exact h
theorem kitOne_of {C : Addr} {cls : Value} {b : Bool} (hd : PySem.W.hasDictIn K C = true) (ht : PySem.W.typeIn K (.ref C) = some (.type "type")) (h : PySem.W.subIn K cls (.ref C) = some b) (hb : (cls == .ref C) = true → b = true) : PySem.W.kitOne K cls (.ref C) = some b := by
  unfold PySem.W.kitOne
  split
  · rename_i q; rw [hb q]
  · exact kitCls_of hd ht h
theorem exmOne_of {C : Addr} {cls : Value} {b : Bool} (he : PySem.W.subIn K (.ref C) (.type "BaseException") = some true) (hd : PySem.W.hasDictIn K C = true) (ht : PySem.W.typeIn K (.ref C) = some (.type "type")) (h : PySem.W.subIn K cls (.ref C) = some b) : PySem.W.exmOne K cls (.ref C) = some b := by
  unfold PySem.W.exmOne
  rw [if_pos (by rw [he] <;> rfl)]
  exact kitCls_of hd ht h
theorem xfC_of {c : Str} {C : Addr} (e : PySem.ErrX.ErrTxt P K mg c C) : XfC K C := ⟨e.ga, e.gg, e.exC, e.hdC⟩
abbrev KOfX (_ : K.In h) : PySem.W.Frag := K
/-- what isinstance asks more of a class -/
structure ExcT (K : PySem.W.Frag) (C : Addr) : Prop where
  ha : PySem.W.findIn K (.ref C) "__class__" = some (some (.builtin "object.__class__"))
  hn : PySem.W.specialIn K (.builtin "object.__class__") "__get__" = some (some (.builtin "getset_descriptor.__get__"))
  ht : PySem.W.takesIn K (.builtin "object.__class__") = some true
  hm : PySem.W.mroIn K C (.type "object") = some true
def SubT (K : PySem.W.Frag) (c d : Str) (b : Bool) : Prop := ∃ C D, PySem.W.nsIn K mainGlobals c = some (some (.ref C)) ∧ PySem.W.nsIn K mainGlobals d = some (some (.ref D)) ∧ PySem.W.subIn K (.ref C) (.ref D) = some b
def NonT (K : PySem.W.Frag) (d : Str) : Prop := ∃ D, PySem.W.nsIn K mainGlobals d = some (some (.ref D)) ∧ PySem.W.subIn K (.type "NoneType") (.ref D) = some false
def BaseT (K : PySem.W.Frag) (d : Str) : Prop := ∃ D, PySem.W.nsIn K mainGlobals d = some (some (.ref D)) ∧ PySem.W.subIn K (.ref D) (.type "BaseException") = some true ∧ PySem.W.hasDictIn K D = true ∧ PySem.W.typeIn K (.ref D) = some (.type "type")
theorem subT_mk {c d : Str} {C D : Addr} {b : Bool} (a1 : PySem.W.nsIn K mainGlobals c = some (some (.ref C))) (a2 : PySem.W.nsIn K mainGlobals d = some (some (.ref D))) (a3 : PySem.W.subIn K (.ref C) (.ref D) = some b) : SubT K c d b := ⟨C, D, a1, a2, a3⟩
theorem nonT_mk {d : Str} {D : Addr} (a1 : PySem.W.nsIn K mainGlobals d = some (some (.ref D))) (a2 : PySem.W.subIn K (.type "NoneType") (.ref D) = some false) : NonT K d := ⟨D, a1, a2⟩
theorem baseT_mk {d : Str} {D : Addr} (a1 : PySem.W.nsIn K mainGlobals d = some (some (.ref D))) (a2 : PySem.W.subIn K (.ref D) (.type "BaseException") = some true) (a3 : PySem.W.hasDictIn K D = true) (a4 : PySem.W.typeIn K (.ref D) = some (.type "type")) : BaseT K d := ⟨D, a1, a2, a3, a4⟩
/-- errors whose classes are siblings -/
def errTbl (errs : List Str) : ErrTb := fun c T => if T ∈ errs then (if c = "" then some false else if c ∈ errs then some (decide (c = T)) else none) else none
def catchAll (errs : List Str) : Str → Option Bool := fun c => if c ∈ errs then some true else none
theorem ref_of {c : Str} {C D : Addr} (KX : K.In h) (G : h.Ns mainGlobals mg) (a : PySem.W.nsIn K mainGlobals c = some (some (.ref C))) (hm : mg c = some (.ref D)) : C = D := by
  have := (PySem.W.mg_of KX G a).symm.trans hm
  cases this
  rfl
theorem errOk_of {errs : List Str} (KX : K.In h) (G : h.Ns mainGlobals mg) (hE : ∀ c ∈ errs, ∃ C, PySem.ErrX.ErrTxt P K mg c C ∧ ExcT K C) (hS : ∀ c ∈ errs, ∀ d ∈ errs, SubT K c d (decide (c = d))) (hN : ∀ d ∈ errs, NonT K d) : ErrOk K mg (errTbl errs) := by
  have body : ∀ T D, T ∈ errs → mg T = some (.ref D) → PySem.W.hasDictIn K D = true ∧ PySem.W.typeIn K (.ref D) = some (.type "type") := fun T D hT hm => by
    obtain ⟨C, e, x⟩ := hE T hT
    have := e.gC.symm.trans hm
    cases this
    exact ⟨e.hdC, e.tyC⟩
  refine ⟨fun c T b C D ht hc hmc hmT => ?_, fun T b D ht hmT => ?_⟩
  · unfold errTbl at ht
    split at ht
    · rename_i hT
      (try rw [if_neg hc] at ht)
      split at ht
      · rename_i hcm
        cases ht
        obtain ⟨C', e, x⟩ := hE c hcm
        have q := e.gC.symm.trans hmc
        cases q
        obtain ⟨C1, D1, s1, s2, s3⟩ := hS c hcm T hT
        have q1 := ref_of KX G s1 hmc
        have q2 := ref_of KX G s2 hmT
        subst q1 q2
        obtain ⟨d1, d2⟩ := body T _ hT hmT
        refine ⟨⟨e.ga, e.gg, e.exC, e.hdC, x.ha, x.hn, x.ht, x.hm⟩, kitOne_of d1 d2 s3 fun hcd => ?_⟩
        have hcd' : C1 = D1 := Value.ref.inj (beq_iff_eq.mp hcd)
        subst hcd'
        have := (e.seC).symm.trans s3
        exact (Option.some.inj this).symm
      · cases ht
    · cases ht
  · unfold errTbl at ht
    split at ht
    · rename_i hT
      (try rw [if_pos rfl] at ht)
      cases ht
      obtain ⟨D1, s1, s2⟩ := hN T hT
      have q := ref_of KX G s1 hmT
      subst q
      obtain ⟨d1, d2⟩ := body T _ hT hmT
      exact kitOne_of d1 d2 s2 fun z => by cases (beq_iff_eq.mp z)
    · cases ht
theorem errEx {c : Str} (h : ∃ C, PySem.ErrX.ErrTxt P K mg c C ∧ ExcT K C) : ∃ C, PySem.ErrX.ErrTxt P K mg c C := let ⟨C, e, _⟩ := h; ⟨C, e⟩
theorem xvOk_of {errs : List Str} (hE : ∀ c ∈ errs, ∃ C, PySem.ErrX.ErrTxt P K mg c C ∧ ExcT K C) : XvOk K mg errs := fun c C hc hm => by
  obtain ⟨C', e, x⟩ := hE c hc
  have := e.gC.symm.trans hm
  cases this
  exact ⟨xfC_of e, e.noN⟩
theorem catch_of {errs : List Str} {b : Str} (KX : K.In h) (G : h.Ns mainGlobals mg) (hB : BaseT K b) (hS : ∀ c ∈ errs, SubT K c b true) : ∃ C, mg b = some (.ref C) ∧ CatchOk K mg (.ref C) (catchAll errs) := by
  obtain ⟨D, d1, d2, d3, d4⟩ := hB
  refine ⟨D, PySem.W.mg_of KX G d1, fun c v C hc hm => ?_⟩
  unfold catchAll at hc
  split at hc
  · rename_i hcm
    cases hc
    obtain ⟨C1, D1, s1, s2, s3⟩ := hS c hcm
    have q := ref_of KX G s1 hm
    subst q
    have q2 := ref_of KX G s2 (PySem.W.mg_of KX G d1)
    subst q2
    exact exmOne_of d2 d3 d4 s3
  · cases hc
end
end DX
end

section
set_option Elab.async false
set_option linter.all false
set_option maxRecDepth 100000
set_option maxHeartbeats 4000000
/-! DX14: a suite behind which its own cells are frozen; how loops and comprehensions are run by invariants. -/
namespace DX
open PySem PySem.Spec L2
/-- the names' data, cells from n on read out -/
def frzE (m : DMem) (n : Nat) : DEnv → Option DEnv
  | [] => some []
  | none :: r => (frzE m n r).map fun q => none :: q
  | some d :: r => match frz m n d, frzE m n r with
    | some d', some q => some (some d' :: q)
    | _, _ => none
theorem frzE_len {m : DMem} {n : Nat} : ∀ {e e' : DEnv}, frzE m n e = some e' → e'.length = e.length
  | [], e', h => by cases h; rfl
  | none :: r, e', h => by
    unfold frzE at h
    obtain ⟨q, h1, h2⟩ := Option.map_eq_some_iff.mp h
    subst h2
    rw [List.length_cons, List.length_cons, frzE_len h1]
  | some d :: r, e', h => by
    unfold frzE at h
    split at h
    · rename_i h1 h2
      cases h
      rw [List.length_cons, List.length_cons, frzE_len h2]
    · cases h
theorem frzE_get {m : DMem} {n : Nat} : ∀ {e e' : DEnv} {i : Nat} {s : D}, frzE m n e = some e' → e'[i]? = some (some s) → ∃ d, e[i]? = some (some d) ∧ frz m n d = some s
  | [], e', i, s, h, q => by cases h; simp at q
  | none :: r, e', i, s, h, q => by
    unfold frzE at h
    obtain ⟨u, h1, h2⟩ := Option.map_eq_some_iff.mp h
    subst h2
    cases i with
    | zero => simp at q
    | succ i => exact frzE_get (i := i) h1 q
  | some d :: r, e', i, s, h, q => by
    unfold frzE at h
    split at h
    · rename_i h1 h2
      cases h
      cases i with
      | zero =>
        have q' := Option.some.inj (Option.some.inj q)
        subst q'
        exact ⟨d, rfl, h1⟩
      | succ i => exact frzE_get (i := i) h2 q
    · cases h
/-- behind it the cells made within are frozen -/
def dFrzS (f : DS) : DS := fun env m => match f env m with
  | .nx e m1 => match frzE m1 m.length e with
    | some e' => .nx e' (m1.take m.length)
    | none => .bad
  | r => r
theorem sn_frzS {M : KM} {W : WXs} {t : TS} {f : DS} (h : SndS M W t f) : SndS M W t (dFrzS f) := fun σ H env m Z T R E hp => by
  refine h σ H env m Z T R E ?_
  unfold dFrzS at hp
  cases q : f env m with
  | nx e m1 =>
    rw [q] at hp
    dsimp only at hp
    intro σ' H' Z' x R' E'
    split at hp
    · rename_i e' q2
      refine hp σ' H' (Z'.froz H' m1 m.length) (R'.froz_ext x (Nat.le_of_eq R.len)) R'.froz ⟨(frzE_len q2).trans E'.len, fun i s hs => ?_⟩
      obtain ⟨d, d1, d2⟩ := frzE_get q2 hs
      obtain ⟨v, v1, v2⟩ := E'.get i d d1
      exact ⟨v, v1, frz_rd R' v2 d2⟩
    · exact hp.elim
  | rt _ _ => rw [q] at hp; exact hp
  | bk _ _ => rw [q] at hp; exact hp
  | ct _ _ => rw [q] at hp; exact hp
  | ex _ _ _ _ => rw [q] at hp; exact hp
  | bad => rw [q] at hp; exact hp
theorem pssd_frz {X : Cx} {W : WXs} {st : List Stmt} {t : TS} {f : DS} (h : PSsD X W st t f) : PSsD X W st t (dFrzS f) := ⟨h.ps, sn_frzS h.sn⟩
theorem psd_frz {X : Cx} {W : WXs} {st : Stmt} {t : TS} {f : DS} (h : PSD X W st t f) : PSD X W st t (dFrzS f) := ⟨h.ps, sn_frzS h.sn⟩

/-! ### running -/
/-- a for loop over items: each turn goes on, or leaves -/
theorem forN_run {ds : List D} {tg : DTg} {b : DS} {P : Nat → DEnv → DMem → Prop} {R : SO → Prop}
    (step : ∀ i d e m, ds[i]? = some d → P i e m → ∃ e1, tg d e = some e1 ∧ ((∃ e2 m2, (b e1 m = .nx e2 m2 ∨ b e1 m = .ct e2 m2) ∧ P (i + 1) e2 m2) ∨ (∃ v m2, b e1 m = .rt v m2 ∧ R (.rt v m2)) ∨ (∃ c v e2 m2, b e1 m = .ex c v e2 m2 ∧ R (.ex c v e2 m2)))) :
    ∀ n i e m, P i e m → i ≤ ds.length → ds.length ≤ i + n → (∃ e2 m2, dForN (.items ds) tg b n i e m = .nx e2 m2 ∧ P ds.length e2 m2) ∨ R (dForN (.items ds) tg b n i e m) := by
  intro n
  induction n with
  | zero =>
    intro i e m p h1 h2
    have hi : i = ds.length := by omega
    refine .inl ⟨e, m, ?_, hi ▸ p⟩
    unfold dForN Src.at
    dsimp only
    rw [List.getElem?_eq_none (by omega)]
  | succ n ih =>
    intro i e m p h1 h2
    by_cases hi : i < ds.length
    · have hd : ds[i]? = some ds[i] := List.getElem?_eq_getElem hi
      obtain ⟨e1, q1, q2⟩ := step i _ e m hd p
      unfold dForN Src.at
      dsimp only
      rw [hd]
      dsimp only
      rw [q1]
      dsimp only
      rcases q2 with ⟨e2, m2, q | q, p2⟩ | ⟨v, m2, q, r⟩ | ⟨c, v, e2, m2, q, r⟩
      · rw [q]; exact ih (i + 1) e2 m2 p2 hi (by omega)
      · rw [q]; exact ih (i + 1) e2 m2 p2 hi (by omega)
      · rw [q]; exact .inr r
      · rw [q]; exact .inr r
    · have hi : i = ds.length := by omega
      refine .inl ⟨e, m, ?_, hi ▸ p⟩
      unfold dForN Src.at
      dsimp only
      rw [List.getElem?_eq_none (by omega)]
theorem for_run {f : DI} {ds : List D} {tg : DTg} {b : DS} {env : DEnv} {m m1 : DMem} {P : Nat → DEnv → DMem → Prop} {R : SO → Prop} (hf : f env m = .ok (.items ds) m1)
    (step : ∀ i d e m, ds[i]? = some d → P i e m → ∃ e1, tg d e = some e1 ∧ ((∃ e2 m2, (b e1 m = .nx e2 m2 ∨ b e1 m = .ct e2 m2) ∧ P (i + 1) e2 m2) ∨ (∃ v m2, b e1 m = .rt v m2 ∧ R (.rt v m2)) ∨ (∃ c v e2 m2, b e1 m = .ex c v e2 m2 ∧ R (.ex c v e2 m2))))
    (p : P 0 env m1) : (∃ e2 m2, dFor f tg b env m = .nx e2 m2 ∧ P ds.length e2 m2) ∨ R (dFor f tg b env m) := by
  unfold dFor
  rw [hf]
  exact forN_run step _ 0 env m1 p (Nat.zero_le _) (Nat.le_of_eq (Nat.zero_add _).symm)
/-- the same, no turn leaves -/
theorem for_all {f : DI} {ds : List D} {tg : DTg} {b : DS} {env : DEnv} {m m1 : DMem} {P : Nat → DEnv → DMem → Prop} (hf : f env m = .ok (.items ds) m1)
    (step : ∀ i d e m, ds[i]? = some d → P i e m → ∃ e1, tg d e = some e1 ∧ ∃ e2 m2, b e1 m = .nx e2 m2 ∧ P (i + 1) e2 m2)
    (p : P 0 env m1) : ∃ e2 m2, dFor f tg b env m = .nx e2 m2 ∧ P ds.length e2 m2 := by
  rcases for_run (R := fun _ => False) hf (fun i d e m hd hp => by
    obtain ⟨e1, h1, e2, m2, h2, h3⟩ := step i d e m hd hp
    exact ⟨e1, h1, .inl ⟨e2, m2, .inl h2, h3⟩⟩) p with h | h
  · exact h
  · exact h.elim
theorem lcN_run {ds : List D} {tg : DTg} {tt : DT} {fe : DE} {k : Nat} {env : DEnv} {P : Nat → DMem → Prop}
    (step : ∀ i d m, ds[i]? = some d → P i m → ∃ e1, tg d env = some e1 ∧ ((∃ m1, tt e1 m = .ok false m1 ∧ P (i + 1) m1) ∨ (∃ m1 a m2 acc, tt e1 m = .ok true m1 ∧ fe e1 m1 = .ok a m2 ∧ m2[k]? = some (some acc) ∧ acc.length < sizeLine ∧ a.noMr = true ∧ P (i + 1) (m2.set k (some (acc ++ [a])))))) :
    ∀ n i m, P i m → i ≤ ds.length → ds.length ≤ i + n → ∃ m2, dLcN (.items ds) tg tt fe k env n i m = .ok () m2 ∧ P ds.length m2 := by
  intro n
  induction n with
  | zero =>
    intro i m p h1 h2
    have hi : i = ds.length := by omega
    refine ⟨m, ?_, hi ▸ p⟩
    unfold dLcN Src.at
    dsimp only
    rw [List.getElem?_eq_none (by omega)]
  | succ n ih =>
    intro i m p h1 h2
    by_cases hi : i < ds.length
    · have hd : ds[i]? = some ds[i] := List.getElem?_eq_getElem hi
      obtain ⟨e1, q1, q2⟩ := step i _ m hd p
      unfold dLcN Src.at
      dsimp only
      rw [hd]
      dsimp only
      rw [q1]
      dsimp only
      rcases q2 with ⟨m1, q, p2⟩ | ⟨m1, a, m2, acc, q, q3, q4, q5, q6, p2⟩
      · rw [q]; exact ih (i + 1) m1 p2 hi (by omega)
      · rw [q]
        dsimp only
        rw [q3]
        dsimp only
        rw [q4]
        dsimp only
        rw [if_pos ⟨q5, q6⟩]
        exact ih (i + 1) _ p2 hi (by omega)
    · have hi : i = ds.length := by omega
      refine ⟨m, ?_, hi ▸ p⟩
      unfold dLcN Src.at
      dsimp only
      rw [List.getElem?_eq_none (by omega)]
/-- a comprehension over items: P, the turns; the list at the end is frozen -/
theorem lc_run {f : DI} {ds : List D} {tg : DTg} {tt : DT} {fe : DE} {ws : List Nat} {env : DEnv} {m m1 : DMem} {P : Nat → DMem → Prop} (hf : f env m = .ok (.items ds) m1) (hl : m1.length = m.length)
    (step : ∀ i d m', ds[i]? = some d → P i m' → ∃ e1, tg d (wipeD env ws) = some e1 ∧ ((∃ m1, tt e1 m' = .ok false m1 ∧ P (i + 1) m1) ∨ (∃ m1 a m2 acc, tt e1 m' = .ok true m1 ∧ fe e1 m1 = .ok a m2 ∧ m2[m.length]? = some (some acc) ∧ acc.length < sizeLine ∧ a.noMr = true ∧ P (i + 1) (m2.set m.length (some (acc ++ [a]))))))
    (p : P 0 (m1 ++ [some []])) (fin : ∀ m2, P ds.length m2 → ∃ acc, m2[m.length]? = some (some acc)) : ∃ m2 acc, P ds.length m2 ∧ m2[m.length]? = some (some acc) ∧ dLc f tg tt fe ws env m = .ok (.lst acc) (m2.take m.length) := by
  obtain ⟨m2, h1, h2⟩ := lcN_run (tt := tt) (fe := fe) (k := m.length) (env := wipeD env ws) step ds.length 0 _ p (Nat.zero_le _) (Nat.le_of_eq (Nat.zero_add _).symm)
  obtain ⟨acc, h3⟩ := fin m2 h2
  refine ⟨m2, acc, h2, h3, ?_⟩
  have e : dLcC f tg tt fe ws env m = .ok (.mr m.length) m2 := by
    unfold dLcC
    rw [hf]
    show (dLcN (.items ds) tg tt fe m1.length (wipeD env ws) ds.length 0 (m1 ++ [some []])).bind _ = _
    rw [hl, h1]
    rfl
  unfold dLc dFrz
  rw [e]
  show frzTo m.length (.mr m.length) m2 = _
  have e2 : frz m2 m.length (.mr m.length) = some (.lst acc) := by
    show frzW (frzM m2 m.length) (.mr m.length) = _
    show frzM m2 m.length m.length = _
    unfold frzM
    rw [if_neg (Nat.lt_irrefl _), h3]
  unfold frzTo
  rw [e2]
/-- .. whose turns leave the memory alone: those for which p, as g tells -/
theorem lc_plain {f : DI} {ds : List D} {tg : DTg} {tt : DT} {fe : DE} {ws : List Nat} {env : DEnv} {m : DMem} {p : D → Bool} {g : D → D} (hf : f env m = .ok (.items ds) m) (hs : ds.length ≤ sizeLine)
    (step : ∀ d acc, d ∈ ds → ∃ e1, tg d (wipeD env ws) = some e1 ∧ tt e1 (m ++ [some acc]) = .ok (p d) (m ++ [some acc]) ∧ (p d = true → fe e1 (m ++ [some acc]) = .ok (g d) (m ++ [some acc]) ∧ (g d).noMr = true)) :
    dLc f tg tt fe ws env m = .ok (.lst ((ds.filter p).map g)) m := by
  have key : ∀ i, i ≤ ds.length → ((ds.take i).filter p).map g = ((ds.take i).filter p).map g := fun _ _ => rfl
  obtain ⟨m2, acc, h1, h2, h3⟩ := lc_run (P := fun i m' => m' = m ++ [some (((ds.take i).filter p).map g)] ∧ i ≤ ds.length) hf rfl (fun i d m' hd hp => by
    obtain ⟨hp, hi⟩ := hp
    subst hp
    have hlt := (List.getElem?_eq_some_iff.mp hd).1
    obtain ⟨e1, t1, t2, t3⟩ := step d (((ds.take i).filter p).map g) (List.mem_of_getElem? hd)
    have tk : ds.take (i + 1) = ds.take i ++ [d] := by rw [List.take_add_one, hd]; rfl
    refine ⟨e1, t1, ?_⟩
    cases hpd : p d with
    | false =>
      rw [hpd] at t2
      refine .inl ⟨_, t2, ?_, hlt⟩
      rw [tk, List.filter_append, List.filter_cons, if_neg (by rw [hpd]; exact Bool.false_ne_true), List.filter_nil, List.append_nil]
    | true =>
      rw [hpd] at t2
      obtain ⟨u1, u2⟩ := t3 hpd
      refine .inr ⟨_, g d, _, ((ds.take i).filter p).map g, t2, u1, by simp, ?_, u2, ?_, hlt⟩
      · rw [List.length_map]
        refine Nat.lt_of_le_of_lt (List.length_filter_le _ _) ?_
        rw [List.length_take]
        omega
      · rw [tk, List.filter_append, List.filter_cons, if_pos hpd, List.filter_nil, List.map_append]
        simp) ⟨by simp, Nat.zero_le _⟩ (fun m2 hp => ⟨((ds.take ds.length).filter p).map g, by obtain ⟨hp, _⟩ := hp; subst hp; simp⟩)
  obtain ⟨e, _⟩ := h1
  subst e
  rw [h3]
  rw [List.take_length] at h2 ⊢
  have ea : acc = (ds.filter p).map g := by
    have : (m ++ [some ((ds.filter p).map g)])[m.length]? = some (some ((ds.filter p).map g)) := by simp
    rw [h2] at this
    exact Option.some.inj (Option.some.inj this)
  rw [ea]
  congr 1
  simp
theorem whileN_run {c : DT} {b : DS} {P : Nat → DEnv → DMem → Prop} {Q : DEnv → DMem → Prop}
    (step : ∀ j e m, P j e m → (∃ m1, c e m = .ok false m1 ∧ Q e m1) ∨ (∃ m1 e2 m2 i, c e m = .ok true m1 ∧ b e m1 = .nx e2 m2 ∧ i < j ∧ P i e2 m2)) : ∀ n j e m, P j e m → j < n → ∃ e2 m2, dWhileN c b n e m = .nx e2 m2 ∧ Q e2 m2 := by
  intro n
  induction n with
  | zero => intro j e m _ h; omega
  | succ n ih =>
    intro j e m p h
    unfold dWhileN
    rcases step j e m p with ⟨m1, q1, q2⟩ | ⟨m1, e2, m2, i, q1, q2, q3, q4⟩
    · rw [q1]; exact ⟨e, m1, rfl, q2⟩
    · rw [q1]
      show ∃ e3 m3, (if true = true then (match b e m1 with | .nx e m2 => dWhileN c b n e m2 | .ct e m2 => dWhileN c b n e m2 | .bk e m2 => .nx e m2 | r => r) else .nx e m1) = .nx e3 m3 ∧ Q e3 m3
      rw [if_pos rfl, q2]
      exact ih i e2 m2 q4 (by omega)
theorem while_run {c : DT} {b : DS} {P : Nat → DEnv → DMem → Prop} {Q : DEnv → DMem → Prop}
    (step : ∀ j e m, P j e m → (∃ m1, c e m = .ok false m1 ∧ Q e m1) ∨ (∃ m1 e2 m2 i, c e m = .ok true m1 ∧ b e m1 = .nx e2 m2 ∧ i < j ∧ P i e2 m2)) {j : Nat} {e : DEnv} {m : DMem} (p : P j e m) (h : j < fuel) : ∃ e2 m2, dWhile c b e m = .nx e2 m2 ∧ Q e2 m2 :=
  whileN_run step fuel j e m p h
end DX
end

section
set_option Elab.async false
set_option linter.all false
set_option maxRecDepth 100000
set_option maxHeartbeats 4000000
/-! DX15: what the operators give, at naturals and lists. -/
namespace DX
open PySem PySem.Spec L2
theorem size_le {n : Nat} (h : n ≤ 16777216) : n ≤ sizeLine := by rw [sizeLine_eq]; exact h
theorem def_rt {n : Nat} {body : DS} {ds : List D} {m m1 : DMem} {d : D} (h : body (ds.map some ++ List.replicate (n - ds.length) none) m = .rt d m1) : dDef n body false ds m = .ok d m1 := by
  unfold dDef
  rw [h]
  rfl
theorem def_nx {n : Nat} {body : DS} {ds : List D} {m m1 : DMem} {e : DEnv} (h : body (ds.map some ++ List.replicate (n - ds.length) none) m = .nx e m1) : dDef n body false ds m = .ok .non m1 := by
  unfold dDef
  rw [h]
  rfl
theorem def_rtz {n : Nat} {body : DS} {ds : List D} {m m1 : DMem} {d : D} (h : body (ds.map some ++ List.replicate (n - ds.length) none) m = .rt d m1) (hd : d.noMr = true) : dDef n body true ds m = .ok d (m1.take m.length) := by
  unfold dDef
  rw [h]
  show frzTo m.length d m1 = _
  unfold frzTo frz
  rw [if_pos hd]
theorem seq_nx {f g : DS} {e e1 : DEnv} {m m1 : DMem} (h : f e m = .nx e1 m1) : dSeq f g e m = g e1 m1 := by
  unfold dSeq
  rw [h]
  rfl
theorem seq_rt {f g : DS} {e : DEnv} {m m1 : DMem} {d : D} (h : f e m = .rt d m1) : dSeq f g e m = .rt d m1 := by
  unfold dSeq
  rw [h]
  rfl
theorem ifS_t {c : DT} {f g : DS} {e : DEnv} {m m1 : DMem} (h : c e m = .ok true m1) : dIfS c f g e m = f e m1 := by
  unfold dIfS
  rw [h]
  rfl
theorem ifS_f {c : DT} {f g : DS} {e : DEnv} {m m1 : DMem} (h : c e m = .ok false m1) : dIfS c f g e m = g e m1 := by
  unfold dIfS
  rw [h]
  rfl
theorem set_ok {i : Nat} {f : DE} {e : DEnv} {m m1 : DMem} {d : D} (h : f e m = .ok d m1) : dSet i f e m = .nx (e.set i (some d)) m1 := by
  unfold dSet
  rw [h]
  rfl
theorem ret_ok {f : DE} {e : DEnv} {m m1 : DMem} {d : D} (h : f e m = .ok d m1) : dRet f e m = .rt d m1 := by
  unfold dRet
  rw [h]
  rfl
theorem drop_ok {f : DE} {e : DEnv} {m m1 : DMem} {d : D} (h : f e m = .ok d m1) : dDrop f e m = .nx e m1 := by
  unfold dDrop
  rw [h]
  rfl
theorem call_ok {Fd : List D → DMem → XO D} {fa : DA} {e : DEnv} {m m1 m2 : DMem} {as : List D} {d : D} (ha : fa e m = .ok as m1) (h : Fd as m1 = .ok d m2) : dCall Fd fa e m = .ok d m2 := by
  unfold dCall
  rw [ha]
  exact h
theorem call_to {Fd : List D → DMem → XO D} {fa : DA} {e : DEnv} {m m1 : DMem} {as : List D} (ha : fa e m = .ok as m1) : dCall Fd fa e m = Fd as m1 := by
  unfold dCall
  rw [ha]
  rfl
theorem and_t {f g : DT} {e : DEnv} {m m1 : DMem} (h : f e m = .ok true m1) : dAnd f g e m = g e m1 := by
  unfold dAnd
  rw [h]
  rfl
theorem and_f {f g : DT} {e : DEnv} {m m1 : DMem} (h : f e m = .ok false m1) : dAnd f g e m = .ok false m1 := by
  unfold dAnd
  rw [h]
  rfl
theorem or_t {f g : DT} {e : DEnv} {m m1 : DMem} (h : f e m = .ok true m1) : dOr f g e m = .ok true m1 := by
  unfold dOr
  rw [h]
  rfl
theorem or_f {f g : DT} {e : DEnv} {m m1 : DMem} (h : f e m = .ok false m1) : dOr f g e m = g e m1 := by
  unfold dOr
  rw [h]
  rfl
theorem not_ok {f : DT} {e : DEnv} {m m1 : DMem} {k : Bool} (h : f e m = .ok k m1) : dNot f e m = .ok (!k) m1 := by
  unfold dNot
  rw [h]
  rfl
theorem test_bl {f : DE} {e : DEnv} {m m1 : DMem} {k : Bool} (h : f e m = .ok (.bl k) m1) : dTest f e m = .ok k m1 := by
  unfold dTest
  rw [h]
  rfl
theorem op_ok {g : D → D → Option D} {fa fb : DE} {e : DEnv} {m m1 m2 : DMem} {a b a' b' z : D} (ha : fa e m = .ok a m1) (hb : fb e m1 = .ok b m2) (ra : rs a m2 = some a') (rb : rs b m2 = some b') (hz : g a' b' = some z) : dOp g fa fb e m = .ok z m2 := by
  unfold dOp
  rw [ha]
  show (fb e m1).bind _ = _
  rw [hb]
  show o2 g a b m2 = _
  unfold o2
  rw [ra, rb]
  dsimp only
  rw [hz]
theorem opw_ok {g : D → D → Option D} {fa fb : DE} {e : DEnv} {m m1 m2 : DMem} {a b z : D} (ha : fa e m = .ok a m1) (hb : fb e m1 = .ok b m2) (hz : g a b = some z) : dOpw g fa fb e m = .ok z m2 := by
  unfold dOpw
  rw [ha]
  show (fb e m1).bind _ = _
  rw [hb]
  show o2r g a b m2 = _
  unfold o2r
  rw [hz]
theorem opq_ok {g : D → D → Option D} {fa fb : DE} {e : DEnv} {m m1 m2 : DMem} {a b a' b' z : D} (ha : fa e m = .ok a m1) (hb : fb e m1 = .ok b m2) (ra : rq a m2 = some a') (rb : rq b m2 = some b') (hz : g a' b' = some z) : dOpq g fa fb e m = .ok z m2 := by
  unfold dOpq
  rw [ha]
  show (fb e m1).bind _ = _
  rw [hb]
  show o2q g a b m2 = _
  unfold o2q
  rw [ra, rb]
  dsimp only
  rw [hz]
theorem cons_ok {f : DE} {g : DA} {e : DEnv} {m m1 m2 : DMem} {a : D} {as : List D} (h : f e m = .ok a m1) (h2 : g e m1 = .ok as m2) : dCons f g e m = .ok (a :: as) m2 := by
  unfold dCons
  rw [h]
  show (g e m1).bind _ = _
  rw [h2]
  rfl
theorem nil_ok {e : DEnv} {m : DMem} : dNil e m = .ok [] m := rfl
theorem k_ok {d : D} {e : DEnv} {m : DMem} : dK d e m = .ok d m := rfl
theorem var_ok {i : Nat} {e : DEnv} {m : DMem} {d : D} (h : e[i]? = some (some d)) : dVar i e m = .ok d m := by
  unfold dVar
  rw [h]
theorem b_ok {g : List D → Option D} {f : DA} {e : DEnv} {m m1 : DMem} {as ds : List D} {z : D} (h : f e m = .ok as m1) (r : rqs as m1 = some ds) (hz : g ds = some z) : dB g f e m = .ok z m1 := by
  unfold dB
  rw [h]
  show (match rqs as m1 with | some ds => _ | none => _) = _
  rw [r]
  dsimp only
  rw [hz]
theorem un_ok {g : D → Option D} {f : DE} {e : DEnv} {m m1 : DMem} {a a' z : D} (h : f e m = .ok a m1) (r : rq a m1 = some a') (hz : g a' = some z) : dUn g f e m = .ok z m1 := by
  unfold dUn
  rw [h]
  show (match rq a m1 with | some x => _ | none => _) = _
  rw [r]
  dsimp only
  rw [hz]
theorem tup_ok {f : DA} {e : DEnv} {m m1 : DMem} {as : List D} (h : f e m = .ok as m1) (hl : as.length ≤ 1000) : dTup f e m = .ok (.tup as) m1 := by
  unfold dTup
  rw [h]
  show (if as.length ≤ sizeLine then _ else _) = _
  rw [if_pos (size_le (by omega))]
theorem lst_ok {f : DA} {e : DEnv} {m m1 : DMem} {as : List D} (h : f e m = .ok as m1) (hl : as.length ≤ 1000) : dLst f e m = .ok (.lst as) m1 := by
  unfold dLst
  rw [h]
  show (if as.length ≤ sizeLine then _ else _) = _
  rw [if_pos (size_le (by omega))]
theorem part_ok {f : DE} {e : DEnv} {m m1 : DMem} {i : Int} (h : f e m = .ok (.int i) m1) : dPart f e m = .ok (some i) m1 := by
  unfold dPart
  rw [h]
  rfl
theorem nopart_ok {e : DEnv} {m : DMem} : dNoPart e m = .ok none m := rfl
theorem sl_ok {f : DE} {fl fh : DO} {e : DEnv} {m m1 m2 m3 : DMem} {a a' z : D} {l h : Option Int} (ha : f e m = .ok a m1) (hl : fl e m1 = .ok l m2) (hh : fh e m2 = .ok h m3) (r : rq a m3 = some a') (hz : gSl a' l h = some z) : dSl f fl fh e m = .ok z m3 := by
  unfold dSl
  rw [ha]
  show (fl e m1).bind _ = _
  rw [hl]
  show (fh e m2).bind _ = _
  rw [hh]
  show (match rq a m3 with | some x => _ | none => _) = _
  rw [r]
  dsimp only
  rw [hz]
theorem slC_ok {f : DE} {fl fh : DO} {e : DEnv} {m m1 m2 m3 : DMem} {a : D} {xs : List D} {l h : Option Int} {ys : List D} (ha : f e m = .ok a m1) (hl : fl e m1 = .ok l m2) (hh : fh e m2 = .ok h m3) (r : rq a m3 = some (.lst xs)) (hz : gSl (.lst xs) l h = some (.lst ys)) (hn : D.noMrs ys = true) : dSlC f fl fh e m = .ok (.mr m3.length) (m3 ++ [some ys]) := by
  have e' : (xs.drop (HT.sIx xs.length 0 l)).take (HT.sIx xs.length xs.length h - HT.sIx xs.length 0 l) = ys := by
    have := Option.some.inj hz
    exact D.lst.inj this
  unfold dSlC
  rw [ha]
  show (fl e m1).bind _ = _
  rw [hl]
  show (fh e m2).bind _ = _
  rw [hh]
  show (match rq a m3 with | some (.lst xs) => _ | _ => _) = _
  rw [r]
  dsimp only
  rw [e', if_pos hn]
theorem addC_ok {fa fb : DE} {e : DEnv} {m m1 m2 : DMem} {a b : D} {xs ys : List D} (ha : fa e m = .ok a m1) (hb : fb e m1 = .ok b m2) (ra : rs a m2 = some (.lst xs)) (rb : rs b m2 = some (.lst ys)) (hl : xs.length + ys.length ≤ 1000) (hn : D.noMrs (xs ++ ys) = true) : dAddC fa fb e m = .ok (.mr m2.length) (m2 ++ [some (xs ++ ys)]) := by
  unfold dAddC
  rw [ha]
  show (fb e m1).bind _ = _
  rw [hb]
  show (match rs a m2, rs b m2 with | some (.lst xs), some (.lst ys) => _ | _, _ => _) = _
  rw [ra, rb]
  dsimp only
  rw [if_pos ⟨size_le (by omega), hn⟩]
theorem andV_t {f g : DE} {e : DEnv} {m m1 : DMem} {a : D} (h : f e m = .ok a m1) (t : tru a m1 = some true) : dAndV f g e m = g e m1 := by
  unfold dAndV
  rw [h]
  dsimp only [XO.bind]
  rw [t]
  rfl
theorem andV_f {f g : DE} {e : DEnv} {m m1 : DMem} {a : D} (h : f e m = .ok a m1) (t : tru a m1 = some false) : dAndV f g e m = .ok a m1 := by
  unfold dAndV
  rw [h]
  dsimp only [XO.bind]
  rw [t]
  rfl
theorem orV_t {f g : DE} {e : DEnv} {m m1 : DMem} {a : D} (h : f e m = .ok a m1) (t : tru a m1 = some true) : dOrV f g e m = .ok a m1 := by
  unfold dOrV
  rw [h]
  dsimp only [XO.bind]
  rw [t]
  rfl
theorem orV_f {f g : DE} {e : DEnv} {m m1 : DMem} {a : D} (h : f e m = .ok a m1) (t : tru a m1 = some false) : dOrV f g e m = g e m1 := by
  unfold dOrV
  rw [h]
  dsimp only [XO.bind]
  rw [t]
  rfl
theorem notV_ok {f : DE} {e : DEnv} {m m1 : DMem} {a : D} {k : Bool} (h : f e m = .ok a m1) (t : tru a m1 = some k) : dNotV f e m = .ok (.bl (!k)) m1 := by
  unfold dNotV
  rw [h]
  show (match tru a m1 with | some k => _ | none => _) = _
  rw [t]
theorem par_ok {i j : Nat} {f : DA} {e : DEnv} {m m1 : DMem} {a b : D} (h : f e m = .ok [a, b] m1) : dPar i j f e m = .nx ((e.set i (some a)).set j (some b)) m1 := by
  unfold dPar
  rw [h]
  rfl
theorem asg_ok {f : DE} {g : DTg} {e e1 : DEnv} {m m1 : DMem} {a : D} (h : f e m = .ok a m1) (t : g a e = some e1) : dAsg f g e m = .nx e1 m1 := by
  unfold dAsg
  rw [h]
  show (match g a e with | some env1 => _ | none => _) = _
  rw [t]
theorem isi_ok {T : String} {f : DE} {e : DEnv} {m m1 : DMem} {d : D} {b : Bool} (h : f e m = .ok d m1) (hb : isiBad d m1 = false) (k : kitB (tyN d) T = some b) : dIsi T f e m = .ok (.bl b) m1 := by
  unfold dIsi
  rw [h]
  show (if isiBad d m1 = true then _ else match kitB (tyN d) T with | some b => _ | none => _) = _
  rw [if_neg (by rw [hb]; exact Bool.false_ne_true), k]
theorem raise_ok {c : Str} {f : DA} {e : DEnv} {m m1 : DMem} {a : D} (h : f e m = .ok [a] m1) : dRaise c f e m = .ex c a e m1 := by
  unfold dRaise
  rw [h]
  rfl
theorem gLen_lst {xs : List D} {n : Nat} (h : xs.length = n) : gLen [.lst xs] = some (.int (n : Int)) := by rw [← h]; rfl
theorem shaped_int (a : Int) : shapedD (.int a) = true := by kernel_rfl
theorem gEq_int (a b : Int) : gEq (.int a) (.int b) = some (.bl (a == b)) := by
  unfold gEq
  rw [if_pos ⟨shaped_int a, shaped_int b⟩]
  rfl
theorem gNe_int (a b : Int) : gNe (.int a) (.int b) = some (.bl (!(a == b))) := by
  unfold gNe
  rw [if_pos ⟨shaped_int a, shaped_int b⟩]
  rfl
theorem gEq_nat (a b : Nat) : gEq (.int (a : Int)) (.int (b : Int)) = some (.bl (a == b)) := by
  rw [gEq_int]
  congr 2
  rw [Bool.eq_iff_iff, beq_iff_eq, beq_iff_eq]
  omega
theorem gNe_nat (a b : Nat) : gNe (.int (a : Int)) (.int (b : Int)) = some (.bl (!(a == b))) := by
  rw [gNe_int]
  congr 3
  rw [Bool.eq_iff_iff, beq_iff_eq, beq_iff_eq]
  omega
theorem gMod_nat {a b : Nat} (h : 0 < b) : gMod (.int (a : Int)) (.int (b : Int)) = some (.int ((a % b : Nat) : Int)) := by
  show (if (b : Int) ≠ 0 then some (D.int ((a : Int).fmod (b : Int))) else none) = _
  rw [if_pos (by omega), Int.fmod_eq_emod_of_nonneg _ (by omega)]
  rfl
theorem gMod_pos {a b : Int} (h : 0 < b) : gMod (.int a) (.int b) = some (.int (a % b)) := by
  show (if b ≠ 0 then some (D.int (a.fmod b)) else none) = _
  rw [if_pos (by omega), Int.fmod_eq_emod_of_nonneg _ (by omega)]
theorem log2_small {b : Nat} (h : b < 9000) : b.log2 < 9000 := Nat.lt_of_le_of_lt (Nat.log2_le_self b) h
theorem gFdv_nat {a b : Nat} (h : 0 < b) (h2 : b < 9000) : gFdv (.int (a : Int)) (.int (b : Int)) = some (.int ((a / b : Nat) : Int)) := by
  show (if (b : Int) ≠ 0 ∧ (b : Int).natAbs.log2 < 9000 then some (D.int ((a : Int).fdiv (b : Int))) else none) = _
  rw [if_pos ⟨by omega, log2_small h2⟩, Int.fdiv_eq_ediv_of_nonneg _ (by omega)]
  rfl
theorem gFdv_pos {a b : Int} (h : 0 < b) (h2 : b.natAbs.log2 < 9000) : gFdv (.int a) (.int b) = some (.int (a / b)) := by
  show (if b ≠ 0 ∧ b.natAbs.log2 < 9000 then some (D.int (a.fdiv b)) else none) = _
  rw [if_pos ⟨by omega, h2⟩, Int.fdiv_eq_ediv_of_nonneg _ (by omega)]
theorem gSub_nat {a b : Nat} (h : b ≤ a) : gSub (.int (a : Int)) (.int (b : Int)) = some (.int ((a - b : Nat) : Int)) := by
  show some (D.int ((a : Int) - (b : Int))) = _
  rw [Int.ofNat_sub h]
theorem gSl_take {xs : List D} (k : Nat) : gSl (.lst xs) none (some (k : Int)) = some (.lst (xs.take k)) := by
  show some (D.lst ((xs.drop (HT.sIx xs.length 0 none)).take (HT.sIx xs.length xs.length (some (k : Int)) - HT.sIx xs.length 0 none))) = _
  rw [HT.sIx_nat, show HT.sIx xs.length 0 none = 0 from rfl, List.drop_zero, Nat.sub_zero]
  congr 2
  rcases Nat.le_total k xs.length with h | h
  · rw [Nat.min_eq_left h]
  · rw [Nat.min_eq_right h, List.take_length, List.take_of_length_le h]
theorem gSl_drop {xs : List D} (k : Nat) : gSl (.lst xs) (some (k : Int)) none = some (.lst (xs.drop k)) := by
  show some (D.lst ((xs.drop (HT.sIx xs.length 0 (some (k : Int)))).take (HT.sIx xs.length xs.length none - HT.sIx xs.length 0 (some (k : Int))))) = _
  rw [HT.sIx_nat, show HT.sIx xs.length xs.length none = xs.length from rfl]
  congr 2
  rcases Nat.le_total k xs.length with h | h
  · rw [Nat.min_eq_left h, List.take_of_length_le (by rw [List.length_drop]; omega)]
  · rw [Nat.min_eq_right h, List.drop_length, List.drop_of_length_le h, List.take_nil]
theorem gMul_lst {xs : List D} {k : Nat} (h : xs.length * k ≤ sizeLine) (hk : k < 2 ^ 63) : gMul (.lst xs) (.int (k : Int)) = some (.lst (List.replicate k xs).flatten) := by
  unfold gMul
  dsimp only
  rw [if_pos ⟨by omega, by omega, by rw [Int.toNat_natCast]; exact h⟩, Int.toNat_natCast]
theorem gIx_nat {xs : List D} {i : Nat} {d : D} (h : xs[i]? = some d) : gIx (.lst xs) (.int (i : Int)) = some d := by
  show atI xs (i : Int) = some d
  have hi := (List.getElem?_eq_some_iff.mp h).1
  unfold atI ixN
  rw [if_pos (by omega), if_pos (by omega)]
  exact h
theorem gIx_last {xs : List D} {d : D} (h : xs.getLast? = some d) : gIx (.lst xs) (.int (-1)) = some d := by
  show atI xs (-1) = some d
  rw [List.getLast?_eq_getElem?] at h
  have hi := (List.getElem?_eq_some_iff.mp h).1
  unfold atI ixN
  rw [if_neg (by decide), if_pos (by omega)]
  show xs[(-1 + (xs.length : Int)).toNat]? = some d
  rw [show (-1 + (xs.length : Int)).toNat = xs.length - 1 by omega]
  exact h
theorem bind_go {α β : Type} {a : α} {m : DMem} {k : α → DMem → XO β} : (XO.ok a m).bind k = k a m := rfl
theorem kit_list_list : L2.kitB "list" "list" = some true := by decide +kernel
theorem kit_list_tuple : L2.kitB "list" "tuple" = some false := by decide +kernel
theorem kit_list_int : L2.kitB "list" "int" = some false := by decide +kernel
theorem kit_list_bool : L2.kitB "list" "bool" = some false := by decide +kernel
theorem kit_list_str : L2.kitB "list" "str" = some false := by decide +kernel
theorem kit_tuple_list : L2.kitB "tuple" "list" = some false := by decide +kernel
theorem kit_tuple_tuple : L2.kitB "tuple" "tuple" = some true := by decide +kernel
theorem kit_tuple_int : L2.kitB "tuple" "int" = some false := by decide +kernel
theorem kit_tuple_bool : L2.kitB "tuple" "bool" = some false := by decide +kernel
theorem kit_tuple_str : L2.kitB "tuple" "str" = some false := by decide +kernel
theorem kit_int_list : L2.kitB "int" "list" = some false := by decide +kernel
theorem kit_int_tuple : L2.kitB "int" "tuple" = some false := by decide +kernel
theorem kit_int_int : L2.kitB "int" "int" = some true := by decide +kernel
theorem kit_int_bool : L2.kitB "int" "bool" = some false := by decide +kernel
theorem kit_int_str : L2.kitB "int" "str" = some false := by decide +kernel
theorem kit_bool_list : L2.kitB "bool" "list" = some false := by decide +kernel
theorem kit_bool_tuple : L2.kitB "bool" "tuple" = some false := by decide +kernel
theorem kit_bool_int : L2.kitB "bool" "int" = some true := by decide +kernel
theorem kit_bool_bool : L2.kitB "bool" "bool" = some true := by decide +kernel
theorem kit_bool_str : L2.kitB "bool" "str" = some false := by decide +kernel
theorem kit_str_list : L2.kitB "str" "list" = some false := by decide +kernel
theorem kit_str_tuple : L2.kitB "str" "tuple" = some false := by decide +kernel
theorem kit_str_int : L2.kitB "str" "int" = some false := by decide +kernel
theorem kit_str_bool : L2.kitB "str" "bool" = some false := by decide +kernel
theorem kit_str_str : L2.kitB "str" "str" = some true := by decide +kernel
theorem kit_non_list : L2.kitB "NoneType" "list" = some false := by decide +kernel
theorem kit_non_tuple : L2.kitB "NoneType" "tuple" = some false := by decide +kernel
theorem kit_non_int : L2.kitB "NoneType" "int" = some false := by decide +kernel
theorem kit_non_bool : L2.kitB "NoneType" "bool" = some false := by decide +kernel
theorem kit_non_str : L2.kitB "NoneType" "str" = some false := by decide +kernel
theorem p62 : (2 : Int) ^ 62 = 4611686018427387904 := by kernel_rfl
theorem c62 {k : Nat} (hk : k ≤ 16777216) : -(2 ^ 62 : Int) ≤ (k : Int) ∧ (k : Int) < 2 ^ 62 := by
  rw [p62]
  omega
@[irreducible] def rngIf (j : Int) (m1 : DMem) : XO Src := if -(2 ^ 62) ≤ j ∧ j < 2 ^ 62 then .ok (.items (rangeD 0 j.toNat)) m1 else .bad
@[irreducible] def rngIf2 (i j : Int) (m1 : DMem) : XO Src := if -(2 ^ 62) ≤ i ∧ i < 2 ^ 62 ∧ -(2 ^ 62) ≤ j ∧ j < 2 ^ 62 then .ok (.items (rangeD i (j - i).toNat)) m1 else .bad
theorem dRng1_eq {f : DA} {e : DEnv} {m : DMem} : dRng1 f e m = (f e m).bind fun as m1 => match as with
  | [.int j] => rngIf j m1
  | _ => .bad := by kernel_rfl
theorem dRng2_eq {f : DA} {e : DEnv} {m : DMem} : dRng2 f e m = (f e m).bind fun as m1 => match as with
  | [.int i, .int j] => rngIf2 i j m1
  | _ => .bad := by kernel_rfl
theorem rngIf_ok {n : Nat} {m1 : DMem} (hn : n ≤ 16777216) : rngIf (n : Int) m1 = .ok (.items (rangeD 0 n)) m1 := by
  unfold rngIf
  rw [if_pos (c62 hn), Int.toNat_natCast]
theorem rngIf2_ok {a n : Nat} {m1 : DMem} (ha : a ≤ 16777216) (hn : n ≤ 16777216) : rngIf2 (a : Int) (n : Int) m1 = .ok (.items (rangeD (a : Int) (n - a))) m1 := by
  unfold rngIf2
  rw [if_pos ⟨(c62 ha).1, (c62 ha).2, (c62 hn).1, (c62 hn).2⟩, Int.toNat_sub]
theorem rng1_ok {f : DA} {e : DEnv} {m m1 : DMem} {n : Nat} (h : f e m = .ok [.int (n : Int)] m1) (hn : n ≤ 16777216) : dRng1 f e m = .ok (.items (rangeD 0 n)) m1 := by
  rw [dRng1_eq, h, bind_go]
  dsimp only
  rw [rngIf_ok hn]
theorem rng2_ok {f : DA} {e : DEnv} {m m1 : DMem} {a n : Nat} (h : f e m = .ok [.int (a : Int), .int (n : Int)] m1) (ha : a ≤ 16777216) (hn : n ≤ 16777216) : dRng2 f e m = .ok (.items (rangeD (a : Int) (n - a))) m1 := by
  rw [dRng2_eq, h, bind_go]
  dsimp only
  rw [rngIf2_ok ha hn]
theorem rangeD_get {lo : Int} {n i : Nat} {d : D} (h : (rangeD lo n)[i]? = some d) : i < n ∧ d = .int (lo + i) := by
  unfold rangeD at h
  rw [List.getElem?_map] at h
  by_cases hi : i < n
  · rw [List.getElem?_range hi] at h
    exact ⟨hi, (Option.some.inj h).symm⟩
  · rw [List.getElem?_eq_none (by rw [List.length_range]; omega)] at h
    cases h
theorem rangeD_len {lo : Int} {n : Nat} : (rangeD lo n).length = n := by
  unfold rangeD
  rw [List.length_map, List.length_range]
end DX
end

section
set_option Elab.async false
set_option linter.all false
set_option maxRecDepth 100000
set_option maxHeartbeats 4000000
/-! DX16: list(x) as a cell; loops over cells; data that are like a list. -/
namespace DX
open PySem PySem.Spec PyProof.Rows L2
def dListC (f : DA) : DE := fun env m => (f env m).bind fun as m1 => match rqs as m1 with
  | some [.lst xs] => if D.noMrs xs = true then .ok (.mr m1.length) (m1 ++ [some xs]) else .bad
  | _ => .bad
section
variable {X : Cx} {W : WXs} {e : Expr} {t : TA} {f : DA} {p pos : Pos}
theorem pd_listC (hg : Gl X "list") (hm : X.mg "list" = none) (ha : PAD X W [e] t f) (hst : starEach [e] X.env = (false, eval e X.env) :: starEach [] X.env := by rfl) (hpl : (backTo pos (starEach [] X.env)).any (·.1) = false := by rfl) : PD X W (.Call (.Name "list" p) [e] [] pos) (tCB (DX.rListD X.K) t) (dListC f) :=
  ⟨(pd_listOf hg hm ha hst hpl).pe, fun σ H env m Z Q R E hp => by
    refine ha.sn σ H env m Z _ R E (Post.bind hp fun as m1 vs H1 Z1 _ e1 R1 rx hp1 => ?_)
    split at hp1
    · rename_i xs ex
      split at hp1
      · rename_i hn
        obtain ⟨v, rfl, r⟩ := paired1 (rqs_rd R1 rx ex)
        obtain ⟨a, ys, rfl, q, ry⟩ := r
        exact ⟨a, ys, rfl, .inl q, fun l hl => hp1 _ _ _ (Z1.ext_cell l) (R1.new hl ry hn) (rd_cell R1)⟩
      · exact hp1.elim
    · exact hp1.elim⟩
end
theorem listC_ok {f : DA} {e : DEnv} {m m1 : DMem} {as xs : List D} (h : f e m = .ok as m1) (r : rqs as m1 = some [.lst xs]) (hn : D.noMrs xs = true) : dListC f e m = .ok (.mr m1.length) (m1 ++ [some xs]) := by
  unfold dListC
  rw [h]
  show (match rqs as m1 with | some [.lst xs] => _ | _ => _) = _
  rw [r]
  dsimp only
  rw [if_pos hn]
theorem cellOf_ok {f : DA} {e : DEnv} {m m1 : DMem} {as : List D} (h : f e m = .ok as m1) (hl : as.length ≤ 1000) (hn : D.noMrs as = true) : dCell f e m = .ok (.mr m1.length) (m1 ++ [some as]) := by
  unfold dCell
  rw [h]
  show (if as.length ≤ sizeLine ∧ D.noMrs as = true then _ else _) = _
  rw [if_pos ⟨size_le (by omega), hn⟩]
/-! ### over any source -/
theorem forN_runS {src : Src} {ds : List D} {tg : DTg} {b : DS} {P : Nat → DEnv → DMem → Prop} {R : SO → Prop} (hsrc : ∀ i e m, P i e m → src.at m i = some ds[i]?)
    (step : ∀ i d e m, ds[i]? = some d → P i e m → ∃ e1, tg d e = some e1 ∧ ((∃ e2 m2, (b e1 m = .nx e2 m2 ∨ b e1 m = .ct e2 m2) ∧ P (i + 1) e2 m2) ∨ (∃ v m2, b e1 m = .rt v m2 ∧ R (.rt v m2)) ∨ (∃ c v e2 m2, b e1 m = .ex c v e2 m2 ∧ R (.ex c v e2 m2)))) :
    ∀ n i e m, P i e m → i ≤ ds.length → ds.length ≤ i + n → (∃ e2 m2, dForN src tg b n i e m = .nx e2 m2 ∧ P ds.length e2 m2) ∨ R (dForN src tg b n i e m) := by
  intro n
  induction n with
  | zero =>
    intro i e m p h1 h2
    have hi : i = ds.length := by omega
    refine .inl ⟨e, m, ?_, hi ▸ p⟩
    unfold dForN
    rw [hsrc i e m p, List.getElem?_eq_none (by omega)]
  | succ n ih =>
    intro i e m p h1 h2
    by_cases hi : i < ds.length
    · have hd : ds[i]? = some ds[i] := List.getElem?_eq_getElem hi
      obtain ⟨e1, q1, q2⟩ := step i _ e m hd p
      unfold dForN
      rw [hsrc i e m p, hd]
      dsimp only
      rw [q1]
      dsimp only
      rcases q2 with ⟨e2, m2, q | q, p2⟩ | ⟨v, m2, q, r⟩ | ⟨c, v, e2, m2, q, r⟩
      · rw [q]; exact ih (i + 1) e2 m2 p2 hi (by omega)
      · rw [q]; exact ih (i + 1) e2 m2 p2 hi (by omega)
      · rw [q]; exact .inr r
      · rw [q]; exact .inr r
    · have hi : i = ds.length := by omega
      refine .inl ⟨e, m, ?_, hi ▸ p⟩
      unfold dForN
      rw [hsrc i e m p, List.getElem?_eq_none (by omega)]
theorem for_runS {f : DI} {src : Src} {ds : List D} {tg : DTg} {b : DS} {env : DEnv} {m m1 : DMem} {P : Nat → DEnv → DMem → Prop} {R : SO → Prop} (hf : f env m = .ok src m1) (hsz : src.size m1 = ds.length) (hsrc : ∀ i e m, P i e m → src.at m i = some ds[i]?)
    (step : ∀ i d e m, ds[i]? = some d → P i e m → ∃ e1, tg d e = some e1 ∧ ((∃ e2 m2, (b e1 m = .nx e2 m2 ∨ b e1 m = .ct e2 m2) ∧ P (i + 1) e2 m2) ∨ (∃ v m2, b e1 m = .rt v m2 ∧ R (.rt v m2)) ∨ (∃ c v e2 m2, b e1 m = .ex c v e2 m2 ∧ R (.ex c v e2 m2))))
    (p : P 0 env m1) : (∃ e2 m2, dFor f tg b env m = .nx e2 m2 ∧ P ds.length e2 m2) ∨ R (dFor f tg b env m) := by
  unfold dFor
  rw [hf]
  show (∃ e2 m2, dForN src tg b (src.size m1) 0 env m1 = .nx e2 m2 ∧ P ds.length e2 m2) ∨ R (dForN src tg b (src.size m1) 0 env m1)
  rw [hsz]
  exact forN_runS hsrc step _ 0 env m1 p (Nat.zero_le _) (Nat.le_of_eq (Nat.zero_add _).symm)
theorem lcN_runS {src : Src} {ds : List D} {tg : DTg} {tt : DT} {fe : DE} {k : Nat} {env : DEnv} {P : Nat → DMem → Prop} (hsrc : ∀ i m, P i m → src.at m i = some ds[i]?)
    (step : ∀ i d m, ds[i]? = some d → P i m → ∃ e1, tg d env = some e1 ∧ ((∃ m1, tt e1 m = .ok false m1 ∧ P (i + 1) m1) ∨ (∃ m1 a m2 acc, tt e1 m = .ok true m1 ∧ fe e1 m1 = .ok a m2 ∧ m2[k]? = some (some acc) ∧ acc.length < sizeLine ∧ a.noMr = true ∧ P (i + 1) (m2.set k (some (acc ++ [a])))))) :
    ∀ n i m, P i m → i ≤ ds.length → ds.length ≤ i + n → ∃ m2, dLcN src tg tt fe k env n i m = .ok () m2 ∧ P ds.length m2 := by
  intro n
  induction n with
  | zero =>
    intro i m p h1 h2
    have hi : i = ds.length := by omega
    refine ⟨m, ?_, hi ▸ p⟩
    unfold dLcN
    rw [hsrc i m p, List.getElem?_eq_none (by omega)]
  | succ n ih =>
    intro i m p h1 h2
    by_cases hi : i < ds.length
    · have hd : ds[i]? = some ds[i] := List.getElem?_eq_getElem hi
      obtain ⟨e1, q1, q2⟩ := step i _ m hd p
      unfold dLcN
      rw [hsrc i m p, hd]
      dsimp only
      rw [q1]
      dsimp only
      rcases q2 with ⟨m1, q, p2⟩ | ⟨m1, a, m2, acc, q, q3, q4, q5, q6, p2⟩
      · rw [q]; exact ih (i + 1) m1 p2 hi (by omega)
      · rw [q]
        dsimp only
        rw [q3]
        dsimp only
        rw [q4]
        dsimp only
        rw [if_pos ⟨q5, q6⟩]
        exact ih (i + 1) _ p2 hi (by omega)
    · have hi : i = ds.length := by omega
      refine ⟨m, ?_, hi ▸ p⟩
      unfold dLcN
      rw [hsrc i m p, List.getElem?_eq_none (by omega)]
/-- .. the new list stays a cell -/
theorem lcC_runS {f : DI} {src : Src} {ds : List D} {tg : DTg} {tt : DT} {fe : DE} {ws : List Nat} {env : DEnv} {m m1 : DMem} {P : Nat → DMem → Prop} (hf : f env m = .ok src m1) (hsz : src.size m1 = ds.length) (hsrc : ∀ i m, P i m → src.at m i = some ds[i]?)
    (step : ∀ i d m', ds[i]? = some d → P i m' → ∃ e1, tg d (wipeD env ws) = some e1 ∧ ((∃ m1, tt e1 m' = .ok false m1 ∧ P (i + 1) m1) ∨ (∃ ma a m2 acc, tt e1 m' = .ok true ma ∧ fe e1 ma = .ok a m2 ∧ m2[m1.length]? = some (some acc) ∧ acc.length < sizeLine ∧ a.noMr = true ∧ P (i + 1) (m2.set m1.length (some (acc ++ [a]))))))
    (p : P 0 (m1 ++ [some []])) : ∃ m2, P ds.length m2 ∧ dLcC f tg tt fe ws env m = .ok (.mr m1.length) m2 := by
  obtain ⟨m2, h1, h2⟩ := lcN_runS (tt := tt) (fe := fe) (k := m1.length) (env := wipeD env ws) hsrc step ds.length 0 _ p (Nat.zero_le _) (Nat.le_of_eq (Nat.zero_add _).symm)
  refine ⟨m2, h2, ?_⟩
  unfold dLcC
  rw [hf]
  show (dLcN src tg tt fe m1.length (wipeD env ws) (src.size m1) 0 (m1 ++ [some []])).bind _ = _
  rw [hsz, h1]
  rfl
theorem lc_of {f : DI} {tg : DTg} {tt : DT} {fe : DE} {ws : List Nat} {env : DEnv} {m m2 : DMem} {acc : List D} (e : dLcC f tg tt fe ws env m = .ok (.mr m.length) m2) (h : m2[m.length]? = some (some acc)) : dLc f tg tt fe ws env m = .ok (.lst acc) (m2.take m.length) := by
  unfold dLc dFrz
  rw [e]
  show frzTo m.length (.mr m.length) m2 = _
  have e2 : frz m2 m.length (.mr m.length) = some (.lst acc) := by
    show frzW (frzM m2 m.length) (.mr m.length) = _
    show frzM m2 m.length m.length = _
    unfold frzM
    rw [if_neg (Nat.lt_irrefl _), h]
  unfold frzTo
  rw [e2]
/-- .. whose turns leave the memory alone -/
theorem lcC_plainS {f : DI} {src : Src} {ds : List D} {tg : DTg} {tt : DT} {fe : DE} {ws : List Nat} {env : DEnv} {m : DMem} {p : D → Bool} {g : D → D} (hf : f env m = .ok src m) (hsz : src.size m = ds.length) (hsrc : ∀ acc i, src.at (m ++ [some acc]) i = some ds[i]?) (hs : ds.length ≤ sizeLine)
    (step : ∀ d acc, d ∈ ds → ∃ e1, tg d (wipeD env ws) = some e1 ∧ tt e1 (m ++ [some acc]) = .ok (p d) (m ++ [some acc]) ∧ (p d = true → fe e1 (m ++ [some acc]) = .ok (g d) (m ++ [some acc]) ∧ (g d).noMr = true)) :
    dLcC f tg tt fe ws env m = .ok (.mr m.length) (m ++ [some ((ds.filter p).map g)]) := by
  obtain ⟨m2, h1, h3⟩ := lcC_runS (P := fun i m' => m' = m ++ [some (((ds.take i).filter p).map g)] ∧ i ≤ ds.length) hf hsz (fun i m' hp => by rw [hp.1]; exact hsrc _ i) (fun i d m' hd hp => by
    obtain ⟨hp, hi⟩ := hp
    subst hp
    have hlt := (List.getElem?_eq_some_iff.mp hd).1
    obtain ⟨e1, t1, t2, t3⟩ := step d (((ds.take i).filter p).map g) (List.mem_of_getElem? hd)
    have tk : ds.take (i + 1) = ds.take i ++ [d] := by rw [List.take_add_one, hd]; rfl
    refine ⟨e1, t1, ?_⟩
    cases hpd : p d with
    | false =>
      rw [hpd] at t2
      refine .inl ⟨_, t2, ?_, hlt⟩
      rw [tk, List.filter_append, List.filter_cons, if_neg (by rw [hpd]; exact Bool.false_ne_true), List.filter_nil, List.append_nil]
    | true =>
      rw [hpd] at t2
      obtain ⟨u1, u2⟩ := t3 hpd
      refine .inr ⟨_, g d, _, ((ds.take i).filter p).map g, t2, u1, by simp, ?_, u2, ?_, hlt⟩
      · rw [List.length_map]
        refine Nat.lt_of_le_of_lt (List.length_filter_le _ _) ?_
        rw [List.length_take]
        omega
      · rw [tk, List.filter_append, List.filter_cons, if_pos hpd, List.filter_nil, List.map_append]
        simp) ⟨by simp, Nat.zero_le _⟩
  obtain ⟨e, _⟩ := h1
  subst e
  rw [h3, List.take_length]
theorem lc_plainS {f : DI} {src : Src} {ds : List D} {tg : DTg} {tt : DT} {fe : DE} {ws : List Nat} {env : DEnv} {m : DMem} {p : D → Bool} {g : D → D} (hf : f env m = .ok src m) (hsz : src.size m = ds.length) (hsrc : ∀ acc i, src.at (m ++ [some acc]) i = some ds[i]?) (hs : ds.length ≤ sizeLine)
    (step : ∀ d acc, d ∈ ds → ∃ e1, tg d (wipeD env ws) = some e1 ∧ tt e1 (m ++ [some acc]) = .ok (p d) (m ++ [some acc]) ∧ (p d = true → fe e1 (m ++ [some acc]) = .ok (g d) (m ++ [some acc]) ∧ (g d).noMr = true)) :
    dLc f tg tt fe ws env m = .ok (.lst ((ds.filter p).map g)) m := by
  rw [lc_of (acc := (ds.filter p).map g) (lcC_plainS hf hsz hsrc hs step) (by simp)]
  congr 1
  simp
/-! ### like a list: a list that no longer changes, or a cell -/
def LL (s : D) (m : DMem) (xs : List D) : Prop := s = .lst xs ∨ ∃ k, s = .mr k ∧ m[k]? = some (some xs)
section
variable {s : D} {m : DMem} {xs : List D}
theorem LL.lst : LL (.lst xs) m xs := .inl rfl
theorem LL.rs (h : LL s m xs) : rs s m = some (.lst xs) := by
  rcases h with rfl | ⟨k, rfl, e⟩
  · rfl
  · unfold DX.rs
    dsimp only
    rw [e]
theorem LL.rq (h : LL s m xs) : rq s m = some (.lst xs) := by
  rcases h with rfl | ⟨k, rfl, e⟩
  · rfl
  · exact LL.rs (.inr ⟨k, rfl, e⟩)
theorem LL.rqs (h : LL s m xs) : rqs [s] m = some [.lst xs] := by
  unfold DX.rqs
  rw [h.rq]
  rfl
theorem LL.more (h : LL s m xs) (r : DMem) : LL s (m ++ r) xs := by
  rcases h with rfl | ⟨k, rfl, e⟩
  · exact .inl rfl
  · exact .inr ⟨k, rfl, by rw [List.getElem?_append_left (List.getElem?_eq_some_iff.mp e).1]; exact e⟩
theorem LL.ty (h : LL s m xs) : isiBad s m = false ∧ tyN s = "list" := by
  rcases h with rfl | ⟨k, rfl, e⟩
  · exact ⟨rfl, rfl⟩
  · refine ⟨?_, rfl⟩
    unfold isiBad cellAt
    dsimp only
    rw [e]
    rfl
theorem LL.src (h : LL s m xs) {f : DE} {env : DEnv} {m0 : DMem} (hf : f env m0 = .ok s m) : ∃ src, dSrc srcL f env m0 = .ok src m ∧ src.size m = xs.length ∧ ∀ r i, src.at (m ++ r) i = some xs[i]? := by
  rcases h with rfl | ⟨k, rfl, e⟩
  · refine ⟨.items xs, ?_, rfl, fun r i => rfl⟩
    unfold dSrc
    rw [hf]
    rfl
  · refine ⟨.cell k, ?_, ?_, fun r i => ?_⟩
    · unfold dSrc
      rw [hf]
      show (match srcL m (.mr k) with | some s => _ | none => _) = _
      unfold srcL
      dsimp only
      rw [e]
    · unfold Src.size
      dsimp only
      rw [e]
    · unfold Src.at
      dsimp only
      rw [List.getElem?_append_left (List.getElem?_eq_some_iff.mp e).1, e]
theorem LL.isi (h : LL s m xs) {f : DE} {env : DEnv} {m0 : DMem} (hf : f env m0 = .ok s m) : dIsi "list" f env m0 = .ok (.bl true) m := isi_ok hf h.ty.1 (by rw [h.ty.2]; exact kit_list_list)
end
end DX
end

section
set_option Elab.async false
set_option linter.all false
set_option maxRecDepth 100000
set_option maxHeartbeats 8000000
namespace K46
open PySem PySem.Spec PyProof.Rows L2 DX
def topS (i : Nat) : Stmt := PySem.Challenge.pw_countscribe_k46_least_runs.main.body.getD i (.Pass ⟨0, 0, 0, 0⟩)
abbrev s_is_whole : Stmt := topS 6
abbrev s_is_between : Stmt := topS 7
abbrev s_check_number : Stmt := topS 8
abbrev s_is_worth : Stmt := topS 10
abbrev s_are_worths : Stmt := topS 11
abbrev s_is_slope : Stmt := topS 12
abbrev s_step_back : Stmt := topS 13
abbrev s_shortened : Stmt := topS 14
abbrev s_is_run : Stmt := topS 15
abbrev s_check_run : Stmt := topS 16
abbrev s_least_run : Stmt := topS 17
abbrev s_value_of : Stmt := topS 18
abbrev s_run_value : Stmt := topS 19
abbrev s__law_hash : Stmt := topS 21
abbrev s__law_generator : Stmt := topS 22
abbrev s__law_random : Stmt := topS 23
abbrev s__law_back : Stmt := topS 24
abbrev s__law_value : Stmt := topS 25
abbrev s__law_worth : Stmt := topS 26
abbrev s__law_raw_run : Stmt := topS 27
abbrev s__law_whole : Stmt := topS 28
abbrev s__law_is_least : Stmt := topS 29
abbrev s__law_least_good : Stmt := topS 30
abbrev s__law_caught : Stmt := topS 31
abbrev s__law_refused : Stmt := topS 32
abbrev s_law : Stmt := topS 33
def errs : List Str := ["InvalidNumber", "InvalidList", "InvalidRun"]
def errTb : ErrTb := errTbl errs
def catch_CountError : Str → Option Bool := catchAll errs
/- is_whole: 0 value -/
def b_is_whole : DS := (dRet (dAndV (dIsi "int" (dVar 0)) (dNotV (dIsi "bool" (dVar 0)))))
def d_is_whole : List D → DMem → XO D := dDef 1 b_is_whole false
/- is_between: 0 value, 1 low, 2 high -/
def b_is_between : DS := (dRet (dAndV (dCall d_is_whole (dCons (dVar 0) dNil)) (dAndV (dOp gLe (dVar 1) (dVar 0)) (dOrV (dOpw gIs (dVar 2) (dK .non)) (dOp gLe (dVar 0) (dVar 2))))))
def d_is_between : List D → DMem → XO D := dDef 3 b_is_between false
/- check_number: 0 number, 1 low, 2 high -/
def b_check_number : DS := (dIfS (dNot (dTest (dCall d_is_between (dCons (dVar 0) (dCons (dVar 1) (dCons (dVar 2) dNil)))))) (dRaise "InvalidNumber" (dCons (dVar 0) dNil)) dNext)
def d_check_number : List D → DMem → XO D := dDef 3 b_check_number false
/- is_worth: 0 value -/
def b_is_worth : DS := (dRet (dOrV (dOpw gIs (dVar 0) (dK .non)) (dCall d_is_whole (dCons (dVar 0) dNil))))
def d_is_worth : List D → DMem → XO D := dDef 1 b_is_worth false
/- are_worths: 0 value, 1 item -/
def b_are_worths : DS := (dRet (dAndV (dIsi "list" (dVar 0)) (dOp gEq (dLc (dSrc srcL (dVar 0)) (dgName 1) (dNot (dTest (dCall d_is_worth (dCons (dVar 1) dNil)))) (dVar 1) [1]) (dLst dNil))))
def d_are_worths : List D → DMem → XO D := dDef 2 b_are_worths false
/- is_slope: 0 start, 1 slope -/
def b_is_slope : DS := (dRet (dAndV (dCall d_is_whole (dCons (dVar 1) dNil)) (dOrV (dOpw gIsNot (dVar 0) (dK .non)) (dOp gEq (dVar 1) (dK (.int 0))))))
def d_is_slope : List D → DMem → XO D := dDef 2 b_is_slope false
/- step_back: 0 start, 1 slope -/
def b_step_back : DS := (dSeq (dIfS (dTest (dOpw gIs (dVar 0) (dK .non))) (dRet (dK .non)) dNext)
    (dRet (dOp gSub (dVar 0) (dVar 1))))
def d_step_back : List D → DMem → XO D := dDef 2 b_step_back false
/- shortened: 0 first, 1 start, 2 slope, 3 end -/
def b_shortened : DS := (dSeq (dSet 3 (dB gLen (dCons (dVar 0) dNil)))
    (dSeq (dWhile (dAnd (dTest (dOp gGt (dVar 3) (dK (.int 0)))) (dTest (dOp gEq (dOpq gIx (dVar 0) (dOp gSub (dVar 3) (dK (.int 1)))) (dCall d_step_back (dCons (dVar 1) (dCons (dVar 2) dNil)))))) (dSeq (dSet 3 (dOp gSub (dVar 3) (dK (.int 1))))
    (dSet 1 (dOpq gIx (dVar 0) (dVar 3)))))
    (dRet (dTup (dCons (dSl (dVar 0) dNoPart (dPart (dVar 3))) (dCons (dVar 1) (dCons (dVar 2) dNil)))))))
def d_shortened : List D → DMem → XO D := dDef 4 b_shortened false
/- shortened: 0 first, 1 start, 2 slope, 3 end -/
def b_c_shortened : DS := (dSeq (dSet 3 (dB gLen (dCons (dVar 0) dNil)))
    (dSeq (dWhile (dAnd (dTest (dOp gGt (dVar 3) (dK (.int 0)))) (dTest (dOp gEq (dOpq gIx (dVar 0) (dOp gSub (dVar 3) (dK (.int 1)))) (dCall d_step_back (dCons (dVar 1) (dCons (dVar 2) dNil)))))) (dSeq (dSet 3 (dOp gSub (dVar 3) (dK (.int 1))))
    (dSet 1 (dOpq gIx (dVar 0) (dVar 3)))))
    (dRet (dTup (dCons (dSlC (dVar 0) dNoPart (dPart (dVar 3))) (dCons (dVar 1) (dCons (dVar 2) dNil)))))))
def d_c_shortened : List D → DMem → XO D := dDef 4 b_c_shortened false
/- is_run: 0 value, 1 first, 2 start, 3 slope -/
def b_is_run : DS := (dSeq (dIfS (dOr (dNot (dTest (dIsi "tuple" (dVar 0)))) (dTest (dOp gNe (dB gLen (dCons (dVar 0) dNil)) (dK (.int 3))))) (dRet (dK (.bl false))) dNext)
    (dSeq (dAsg (dVar 0) (dgTup 3 (dgCons (dgName 1) (dgCons (dgName 2) (dgCons (dgName 3) dgNil)))))
    (dSeq (dIfS (dOr (dNot (dTest (dCall d_are_worths (dCons (dVar 1) dNil)))) (dOr (dNot (dTest (dCall d_is_worth (dCons (dVar 2) dNil)))) (dNot (dTest (dCall d_is_slope (dCons (dVar 2) (dCons (dVar 3) dNil))))))) (dRet (dK (.bl false))) dNext)
    (dRet (dOrV (dOp gEq (dVar 1) (dLst dNil)) (dOp gNe (dOpq gIx (dVar 1) (dUn gNeg (dK (.int 1)))) (dCall d_step_back (dCons (dVar 2) (dCons (dVar 3) dNil)))))))))
def d_is_run : List D → DMem → XO D := dDef 4 b_is_run false
/- check_run: 0 run -/
def b_check_run : DS := (dIfS (dNot (dTest (dCall d_is_run (dCons (dVar 0) dNil)))) (dRaise "InvalidRun" (dCons (dVar 0) dNil)) dNext)
def d_check_run : List D → DMem → XO D := dDef 1 b_check_run false
/- least_run: 0 first, 1 start, 2 slope -/
def b_least_run : DS := (dSeq (dIfS (dNot (dTest (dCall d_are_worths (dCons (dVar 0) dNil)))) (dRaise "InvalidList" (dCons (dVar 0) dNil)) dNext)
    (dSeq (dIfS (dNot (dTest (dCall d_is_worth (dCons (dVar 1) dNil)))) (dRaise "InvalidNumber" (dCons (dVar 1) dNil)) dNext)
    (dSeq (dIfS (dNot (dTest (dCall d_is_slope (dCons (dVar 1) (dCons (dVar 2) dNil))))) (dRaise "InvalidNumber" (dCons (dVar 2) dNil)) dNext)
    (dRet (dCall d_shortened (dCons (dVar 0) (dCons (dVar 1) (dCons (dVar 2) dNil))))))))
def d_least_run : List D → DMem → XO D := dDef 3 b_least_run false
/- least_run: 0 first, 1 start, 2 slope -/
def b_c_least_run : DS := (dSeq (dIfS (dNot (dTest (dCall d_are_worths (dCons (dVar 0) dNil)))) (dRaise "InvalidList" (dCons (dVar 0) dNil)) dNext)
    (dSeq (dIfS (dNot (dTest (dCall d_is_worth (dCons (dVar 1) dNil)))) (dRaise "InvalidNumber" (dCons (dVar 1) dNil)) dNext)
    (dSeq (dIfS (dNot (dTest (dCall d_is_slope (dCons (dVar 1) (dCons (dVar 2) dNil))))) (dRaise "InvalidNumber" (dCons (dVar 2) dNil)) dNext)
    (dRet (dCall d_c_shortened (dCons (dVar 0) (dCons (dVar 1) (dCons (dVar 2) dNil))))))))
def d_c_least_run : List D → DMem → XO D := dDef 3 b_c_least_run false
/- value_of: 0 run, 1 number, 2 first, 3 start, 4 slope -/
def b_value_of : DS := (dSeq (dAsg (dVar 0) (dgTup 3 (dgCons (dgName 2) (dgCons (dgName 3) (dgCons (dgName 4) dgNil)))))
    (dSeq (dIfS (dTest (dOp gLt (dVar 1) (dB gLen (dCons (dVar 2) dNil)))) (dRet (dOpq gIx (dVar 2) (dVar 1))) dNext)
    (dSeq (dIfS (dTest (dOpw gIs (dVar 3) (dK .non))) (dRet (dK .non)) dNext)
    (dRet (dOp gAdd (dVar 3) (dOp gMul (dVar 4) (dOp gSub (dVar 1) (dB gLen (dCons (dVar 2) dNil)))))))))
def d_value_of : List D → DMem → XO D := dDef 5 b_value_of false
/- run_value: 0 run, 1 number -/
def b_run_value : DS := (dSeq (dDrop (dCall d_check_run (dCons (dVar 0) dNil)))
    (dSeq (dDrop (dCall d_check_number (dCons (dVar 1) (dCons (dK (.int 0)) (dCons (dK .non) dNil)))))
    (dRet (dCall d_value_of (dCons (dVar 0) (dCons (dVar 1) dNil))))))
def d_run_value : List D → DMem → XO D := dDef 2 b_run_value false
/- _law_hash: 0 _law_seed, 1 _law_index, 2 _law_mixed -/
def b__law_hash : DS := (dSeq (dSet 2 (dOp gMod (dB gInt (dCons (dOp gAdd (dOp gAdd (dOp gAdd (dOp gMul (dVar 0) (dK (.int 1299709))) (dOp gMul (dOp gMul (dK (.int 104729)) (dVar 1)) (dVar 1))) (dOp gMul (dK (.int 31)) (dVar 1))) (dK (.int 7))) dNil)) (dK (.int 2147483629))))
    (dSeq (dSet 2 (dOp gMod (dB gInt (dCons (dOp gAdd (dOp gAdd (dOp gMul (dVar 2) (dVar 2)) (dOp gMul (dK (.int 48271)) (dVar 1))) (dK (.int 15485863))) dNil)) (dK (.int 2147483587))))
    (dRet (dOp gMod (dB gInt (dCons (dOp gMul (dVar 2) (dK (.int 69621))) dNil)) (dK (.int 2147483647))))))
def d__law_hash : List D → DMem → XO D := dDef 3 b__law_hash false
/- _law_generator: 0 _law_script, 1 _law_index, 2 _law_seed -/
def b_c__law_generator : DS := (dSeq (dSet 2 (dIf (dTest (dOp gLt (dVar 1) (dB gLen (dCons (dVar 0) dNil)))) (dOpq gIx (dVar 0) (dVar 1)) (dOp gMod (dB gSum (dCons (dSl (dVar 0) dNoPart (dPart (dK (.int 1)))) dNil)) (dK (.int 1000003)))))
    (dRet (dCell (dCons (dOp gMod (dB gInt (dCons (dB gMax2 (dCons (dOp gSub (dVar 2) (dOp gPow (dK (.int 10)) (dK (.int 18)))) (dCons (dK (.int 0)) dNil))) dNil)) (dOp gPow (dOp gPow (dK (.int 10)) (dK (.int 60))) (dK (.int 10)))) (dCons (dOp gMod (dB gInt (dCons (dVar 2) dNil)) (dK (.int 2147483647))) (dCons (dOp gMul (dK (.int 1000)) (dVar 1)) dNil))))))
def d_c__law_generator : List D → DMem → XO D := dDef 3 b_c__law_generator false
/- _law_random: 0 _law_generator_here, 1 _law_bound, 2 _law_drawn, 3 _law_turn -/
def b__law_random : DS := (dSeq (dIfS (dTest (dOp gGt (dOpq gIx (dVar 0) (dK (.int 0))) (dK (.int 0)))) (dSeq (dSet 2 (dOp gMod (dB gInt (dCons (dOpq gIx (dVar 0) (dK (.int 0))) dNil)) (dVar 1)))
    (dSeq (dSetIx (dOp gFdv (dOpq gIx (dVar 0) (dK (.int 0))) (dVar 1)) (dVar 0) (dK (.int 0)))
    (dRet (dVar 2)))) dNext)
    (dSeq (dSet 2 (dK (.int 0)))
    (dSeq (dFor (dRng1 (dCons (dOp gAdd (dK (.int 1)) (dOp gFdv (dRaw gBits (dVar 1)) (dK (.int 30)))) dNil)) (dgName 3) (dSeq (dSetIx (dOp gAdd (dOpq gIx (dVar 0) (dK (.int 2))) (dK (.int 1))) (dVar 0) (dK (.int 2)))
    (dSet 2 (dOp gAdd (dOp gMul (dVar 2) (dK (.int 2147483587))) (dCall d__law_hash (dCons (dOpq gIx (dVar 0) (dK (.int 1))) (dCons (dOpq gIx (dVar 0) (dK (.int 2))) dNil)))))))
    (dRet (dOp gMod (dB gInt (dCons (dVar 2) dNil)) (dVar 1))))))
def d__law_random : List D → DMem → XO D := dDef 4 b__law_random false
/- _law_back: 0 _law_start, 1 _law_slope -/
def b__law_back : DS := (dRet (dIf (dTest (dOpw gIs (dVar 0) (dK .non))) (dK .non) (dOp gSub (dVar 0) (dVar 1))))
def d__law_back : List D → DMem → XO D := dDef 2 b__law_back false
/- _law_value: 0 _law_run, 1 _law_number -/
def b__law_value : DS := (dSeq (dIfS (dTest (dOp gLt (dVar 1) (dB gLen (dCons (dOpq gIx (dVar 0) (dK (.int 0))) dNil)))) (dRet (dOpq gIx (dOpq gIx (dVar 0) (dK (.int 0))) (dVar 1))) dNext)
    (dRet (dIf (dTest (dOpw gIs (dOpq gIx (dVar 0) (dK (.int 1))) (dK .non))) (dK .non) (dOp gAdd (dOpq gIx (dVar 0) (dK (.int 1))) (dOp gMul (dOpq gIx (dVar 0) (dK (.int 2))) (dOp gSub (dVar 1) (dB gLen (dCons (dOpq gIx (dVar 0) (dK (.int 0))) dNil))))))))
def d__law_value : List D → DMem → XO D := dDef 2 b__law_value false
/- _law_worth: 0 _law_generator_here, 1 _law_kind -/
def b__law_worth : DS := (dSeq (dSet 1 (dCall d__law_random (dCons (dVar 0) (dCons (dK (.int 6)) dNil))))
    (dSeq (dIfS (dTest (dOp gEq (dVar 1) (dK (.int 0)))) (dRet (dK .non)) dNext)
    (dRet (dIf (dTest (dOp gLt (dVar 1) (dK (.int 5)))) (dOp gSub (dCall d__law_random (dCons (dVar 0) (dCons (dK (.int 7)) dNil))) (dK (.int 3))) (dOp gSub (dCall d__law_random (dCons (dVar 0) (dCons (dOp gMul (dK (.int 2)) (dOp gPow (dK (.int 10)) (dK (.int 29)))) dNil))) (dOp gPow (dK (.int 10)) (dK (.int 29))))))))
def d__law_worth : List D → DMem → XO D := dDef 2 b__law_worth false
/- _law_raw_run: 0 _law_generator_here, 1 _law_most, 2 _law_start, 3 _law_slope, 4 _law_first, 5 _law_line, 6 _law_turn -/
def b__law_raw_run : DS := (dSeq (dPar 2 3 (dCons (dCall d__law_worth (dCons (dVar 0) dNil)) (dCons (dOp gSub (dCall d__law_random (dCons (dVar 0) (dCons (dK (.int 7)) dNil))) (dK (.int 3))) dNil)))
    (dSeq (dIfS (dTest (dOp gEq (dCall d__law_random (dCons (dVar 0) (dCons (dK (.int 5)) dNil))) (dK (.int 0)))) (dSet 3 (dOp gMul (dVar 3) (dOp gAdd (dCall d__law_random (dCons (dVar 0) (dCons (dOp gPow (dK (.int 10)) (dK (.int 20))) dNil))) (dK (.int 1))))) dNext)
    (dSeq (dIfS (dTest (dOpw gIs (dVar 2) (dK .non))) (dSet 3 (dK (.int 0))) dNext)
    (dSeq (dPar 4 5 (dCons (dCell dNil) (dCons (dLst (dCons (dVar 2) dNil)) dNil)))
    (dSeq (dFor (dRng1 (dCons (dCall d__law_random (dCons (dVar 0) (dCons (dK (.int 4)) dNil))) dNil)) (dgName 6) (dSet 5 (dOp gAdd (dLst (dCons (dCall d__law_back (dCons (dOpq gIx (dVar 5) (dK (.int 0))) (dCons (dVar 3) dNil))) dNil)) (dVar 5))))
    (dSeq (dFor (dRng1 (dCons (dCall d__law_random (dCons (dVar 0) (dCons (dVar 1) dNil))) dNil)) (dgName 6) (dDrop (dAppend (dVar 4) (dCons (dCall d__law_worth (dCons (dVar 0) dNil)) dNil))))
    (dRet (dTup (dCons (dOp gAdd (dVar 4) (dSl (dVar 5) dNoPart (dPart (dUn gNeg (dK (.int 1)))))) (dCons (dVar 2) (dCons (dVar 3) dNil)))))))))))
def d__law_raw_run : List D → DMem → XO D := dDef 7 b__law_raw_run true
/- _law_whole: 0 _law_value_here -/
def b__law_whole : DS := (dRet (dAndV (dIsi "int" (dVar 0)) (dNotV (dIsi "bool" (dVar 0)))))
def d__law_whole : List D → DMem → XO D := dDef 1 b__law_whole false
/- _law_is_least: 0 _law_run, 1 _law_item -/
def b__law_is_least : DS := (dSeq (dIfS (dOr (dNot (dTest (dIsi "tuple" (dVar 0)))) (dOr (dTest (dOp gNe (dB gLen (dCons (dVar 0) dNil)) (dK (.int 3)))) (dNot (dTest (dIsi "list" (dOpq gIx (dVar 0) (dK (.int 0)))))))) (dRet (dK (.bl false))) dNext)
    (dSeq (dIfS (dOr (dTest (dOp gNe (dLc (dSrc srcL (dOpq gIx (dVar 0) (dK (.int 0)))) (dgName 1) (dAnd (dTest (dOpw gIsNot (dVar 1) (dK .non))) (dNot (dTest (dCall d__law_whole (dCons (dVar 1) dNil))))) (dVar 1) [1]) (dLst dNil))) (dNot (dTest (dCall d__law_whole (dCons (dOpq gIx (dVar 0) (dK (.int 2))) dNil))))) (dRet (dK (.bl false))) dNext)
    (dSeq (dIfS (dTest (dOpw gIs (dOpq gIx (dVar 0) (dK (.int 1))) (dK .non))) (dRet (dAndV (dOp gEq (dOpq gIx (dVar 0) (dK (.int 2))) (dK (.int 0))) (dOp gNe (dSl (dOpq gIx (dVar 0) (dK (.int 0))) (dPart (dUn gNeg (dK (.int 1)))) dNoPart) (dLst (dCons (dK .non) dNil))))) dNext)
    (dRet (dAndV (dCall d__law_whole (dCons (dOpq gIx (dVar 0) (dK (.int 1))) dNil)) (dOp gNe (dSl (dOpq gIx (dVar 0) (dK (.int 0))) (dPart (dUn gNeg (dK (.int 1)))) dNoPart) (dLst (dCons (dOp gSub (dOpq gIx (dVar 0) (dK (.int 1))) (dOpq gIx (dVar 0) (dK (.int 2)))) dNil))))))))
def d__law_is_least : List D → DMem → XO D := dDef 2 b__law_is_least false
/- _law_least_good: 0 _law_generator_here, 1 _law_raw, 2 _law_given, 3 _law_found, 4 _law_counts, 5 _law_number, 6 _law_more, 7 _law_again, 8 _law_kept -/
def b__law_least_good : DS := (dSeq (dSet 2 (dListC (dCons (dOpq gIx (dVar 1) (dK (.int 0))) dNil)))
    (dSeq (dSet 3 (dCall d_least_run (dCons (dVar 2) (dCons (dOpq gIx (dVar 1) (dK (.int 1))) (dCons (dOpq gIx (dVar 1) (dK (.int 2))) dNil)))))
    (dSeq (dIfS (dOr (dTest (dOp gNe (dB gRepr (dCons (dVar 2) dNil)) (dB gRepr (dCons (dOpq gIx (dVar 1) (dK (.int 0))) dNil)))) (dOr (dNot (dTest (dCall d__law_is_least (dCons (dVar 3) dNil)))) (dTest (dOpw gIsNot (dCall d_is_run (dCons (dVar 3) dNil)) (dK (.bl true)))))) (dRet (dK (.bl false))) dNext)
    (dSeq (dSet 4 (dOp gAdd (dListRng1 (dOp gAdd (dB gLen (dCons (dOpq gIx (dVar 1) (dK (.int 0))) dNil)) (dK (.int 4)))) (dLst (dCons (dCall d__law_random (dCons (dVar 0) (dCons (dOp gPow (dK (.int 10)) (dK (.int 30))) dNil))) dNil))))
    (dSeq (dFor (dSrc srcL (dVar 4)) (dgName 5) (dSeq (dIfS (dTest (dOp gNe (dB gRepr (dCons (dCall d__law_value (dCons (dVar 3) (dCons (dVar 5) dNil))) dNil)) (dB gRepr (dCons (dCall d__law_value (dCons (dVar 1) (dCons (dVar 5) dNil))) dNil)))) (dRet (dK (.bl false))) dNext)
    (dIfS (dTest (dOp gNe (dB gRepr (dCons (dCall d_run_value (dCons (dVar 3) (dCons (dVar 5) dNil))) dNil)) (dB gRepr (dCons (dCall d__law_value (dCons (dVar 1) (dCons (dVar 5) dNil))) dNil)))) (dRet (dK (.bl false))) dNext)))
    (dSeq (dIfS (dOr (dTest (dOp gNe (dB gRepr (dCons (dOpq gIx (dVar 3) (dK (.int 2))) dNil)) (dB gRepr (dCons (dOpq gIx (dVar 1) (dK (.int 2))) dNil)))) (dTest (dOp gNe (dB gRepr (dCons (dCall d_is_run (dCons (dVar 1) dNil)) dNil)) (dB gRepr (dCons (dCall d__law_is_least (dCons (dVar 1) dNil)) dNil))))) (dRet (dK (.bl false))) dNext)
    (dSeq (dSet 6 (dLcC (dRng1 (dCons (dOp gAdd (dB gLen (dCons (dOpq gIx (dVar 1) (dK (.int 0))) dNil)) (dCall d__law_random (dCons (dVar 0) (dCons (dK (.int 4)) dNil)))) dNil)) (dgName 5) dYes (dCall d__law_value (dCons (dVar 1) (dCons (dVar 5) dNil))) [5]))
    (dSeq (dSet 7 (dCallKw d_c_least_run [0, 2, 1] (dCons (dVar 6) (dCons (dOpq gIx (dVar 1) (dK (.int 2))) (dCons (dCall d__law_value (dCons (dVar 1) (dCons (dB gLen (dCons (dVar 6) dNil)) dNil))) dNil)))))
    (dSeq (dSet 8 (dB gRepr (dCons (dVar 3) dNil)))
    (dSeq (dDrop (dAppend (dOpq gIx (dVar 7) (dK (.int 0))) (dCons (dK (.int 7)) dNil)))
    (dSeq (dDrop (dAppend (dVar 2) (dCons (dK (.int 7)) dNil)))
    (dSeq (dDrop (dAppend (dVar 6) (dCons (dK (.int 7)) dNil)))
    (dRet (dAndV (dOp gEq (dB gRepr (dCons (dVar 3) dNil)) (dVar 8)) (dOp gEq (dB gRepr (dCons (dTup (dCons (dSl (dOpq gIx (dVar 7) (dK (.int 0))) dNoPart (dPart (dUn gNeg (dK (.int 1))))) (dCons (dOpq gIx (dVar 7) (dK (.int 1))) (dCons (dOpq gIx (dVar 7) (dK (.int 2))) dNil)))) dNil)) (dVar 8))))))))))))))))
def d__law_least_good : List D → DMem → XO D := dDef 9 b__law_least_good true
/- _law_caught: 0 _law_which, 1 _law_given, 2 _law_error, 3 e -/
def b__law_caught : DS := (dSeq (dSet 2 (dK .non))
    (dSeq (dTry catch_CountError 3 2 (dIfS (dTest (dOp gEq (dVar 0) (dK (.int 0)))) (dDrop (dCall d_least_run (dCons (dOpq gIx (dVar 1) (dK (.int 0))) (dCons (dOpq gIx (dVar 1) (dK (.int 1))) (dCons (dOpq gIx (dVar 1) (dK (.int 2))) dNil))))) (dDrop (dCall d_run_value (dCons (dOpq gIx (dVar 1) (dK (.int 0))) (dCons (dOpq gIx (dVar 1) (dK (.int 1))) dNil))))))
    (dSeq (dIfS (dAnd (dTest (dIsE errTb "InvalidList" (dVar 2))) (dNot (dTest (dIsEs errTb ["InvalidNumber", "InvalidRun"] (dVar 2))))) (dRet (dLst (dCons (dK (.str "list")) (dCons (dB gRepr (dCons (dVal errs (dVar 2)) dNil)) dNil)))) dNext)
    (dSeq (dIfS (dAnd (dTest (dIsE errTb "InvalidNumber" (dVar 2))) (dNot (dTest (dIsEs errTb ["InvalidList", "InvalidRun"] (dVar 2))))) (dRet (dLst (dCons (dK (.str "number")) (dCons (dB gRepr (dCons (dVal errs (dVar 2)) dNil)) dNil)))) dNext)
    (dSeq (dIfS (dAnd (dTest (dIsE errTb "InvalidRun" (dVar 2))) (dNot (dTest (dIsEs errTb ["InvalidList", "InvalidNumber"] (dVar 2))))) (dRet (dLst (dCons (dK (.str "run")) (dCons (dB gRepr (dCons (dVal errs (dVar 2)) dNil)) dNil)))) dNext)
    (dRet (dLst (dCons (dK (.str "none")) (dCons (dK (.str "")) dNil)))))))))
def d__law_caught : List D → DMem → XO D := dDef 4 b__law_caught false
/- _law_refused: 0 _law_bad, 1 _law_odds -/
def b__law_refused : DS := (dSeq (dFor (dSrc srcL (dLst (dCons (dK .non) (dCons (dTup dNil) (dCons (dTup (dCons (dK (.int 1)) dNil)) (dCons (dK (.str "1")) (dCons (dLst (dCons (dK (.bl true)) dNil)) (dCons (dLst (dCons (dK (.str "1")) dNil)) (dCons (dLst (dCons (dLst (dCons (dK (.int 1)) dNil)) dNil)) (dCons (dLst (dCons (dK (.int 1)) (dCons (dK .non) (dCons (dTup (dCons (dK (.int 2)) dNil)) dNil)))) (dCons (dK (.int 5)) dNil))))))))))) (dgName 0) (dIfS (dTest (dOp gNe (dCall d__law_caught (dCons (dK (.int 0)) (dCons (dLst (dCons (dVar 0) (dCons (dK (.str "a")) (dCons (dK (.str "b")) dNil)))) dNil))) (dLst (dCons (dK (.str "list")) (dCons (dB gRepr (dCons (dVar 0) dNil)) dNil))))) (dRet (dK (.bl false))) dNext))
    (dSeq (dFor (dSrc srcL (dLst (dCons (dK (.str "1")) (dCons (dK (.bl true)) (dCons (dLst (dCons (dK (.int 1)) dNil)) (dCons (dTup (dCons (dK (.int 1)) dNil)) (dCons (dLst (dCons (dK .non) dNil)) dNil))))))) (dgName 0) (dIfS (dTest (dOp gNe (dCall d__law_caught (dCons (dK (.int 0)) (dCons (dLst (dCons (dLst (dCons (dK (.int 1)) (dCons (dK .non) dNil))) (dCons (dVar 0) (dCons (dK (.str "b")) dNil)))) dNil))) (dLst (dCons (dK (.str "number")) (dCons (dB gRepr (dCons (dVar 0) dNil)) dNil))))) (dRet (dK (.bl false))) dNext))
    (dSeq (dFor (dSrc srcL (dLst (dCons (dK .non) (dCons (dK (.str "1")) (dCons (dK (.bl false)) (dCons (dLst (dCons (dK (.int 1)) dNil)) dNil)))))) (dgName 0) (dIfS (dTest (dOp gNe (dCall d__law_caught (dCons (dK (.int 0)) (dCons (dLst (dCons (dLst (dCons (dK (.int 1)) dNil)) (dCons (dK (.int 3)) (dCons (dVar 0) dNil)))) dNil))) (dLst (dCons (dK (.str "number")) (dCons (dB gRepr (dCons (dVar 0) dNil)) dNil))))) (dRet (dK (.bl false))) dNext))
    (dSeq (dFor (dSrc srcL (dLst (dCons (dK (.int 1)) (dCons (dUn gNeg (dK (.int 1))) (dCons (dK .non) (dCons (dK (.bl true)) (dCons (dK (.bl false)) dNil))))))) (dgName 0) (dIfS (dTest (dOp gNe (dCall d__law_caught (dCons (dK (.int 0)) (dCons (dLst (dCons (dLst (dCons (dK (.int 1)) dNil)) (dCons (dK .non) (dCons (dVar 0) dNil)))) dNil))) (dLst (dCons (dK (.str "number")) (dCons (dB gRepr (dCons (dVar 0) dNil)) dNil))))) (dRet (dK (.bl false))) dNext))
    (dSeq (dSet 1 (dLst (dCons (dK .non) (dCons (dK (.int 7)) (dCons (dLst dNil) (dCons (dTup (dCons (dLst dNil) (dCons (dK (.int 1)) dNil))) (dCons (dTup (dCons (dLst dNil) (dCons (dK (.int 1)) (dCons (dK (.int 0)) (dCons (dK (.int 0)) dNil))))) (dCons (dLst (dCons (dLst dNil) (dCons (dK (.int 1)) (dCons (dK (.int 0)) dNil)))) (dCons (dTup (dCons (dTup dNil) (dCons (dK (.int 1)) (dCons (dK (.int 0)) dNil)))) (dCons (dTup (dCons (dLst dNil) (dCons (dK (.bl true)) (dCons (dK (.int 0)) dNil)))) (dCons (dTup (dCons (dLst dNil) (dCons (dK (.int 1)) (dCons (dK (.bl false)) dNil)))) (dCons (dTup (dCons (dLst dNil) (dCons (dK .non) (dCons (dK (.int 1)) dNil)))) dNil))))))))))))
    (dSeq (dFor (dSrc srcL (dOp gAdd (dVar 1) (dLst (dCons (dTup (dCons (dLst dNil) (dCons (dK .non) (dCons (dK (.bl false)) dNil)))) (dCons (dTup (dCons (dLst (dCons (dK (.bl true)) dNil)) (dCons (dK (.int 4)) (dCons (dK (.int 0)) dNil)))) (dCons (dTup (dCons (dLst (dCons (dK .non) dNil)) (dCons (dK .non) (dCons (dK (.int 0)) dNil)))) (dCons (dTup (dCons (dLst (dCons (dK (.int 2)) (dCons (dK (.int 1)) dNil))) (dCons (dK (.int 4)) (dCons (dK (.int 3)) dNil)))) (dCons (dTup (dCons (dLst (dCons (dK (.int 0)) dNil)) (dCons (dK (.int 0)) (dCons (dK (.int 0)) dNil)))) (dCons (dTup (dCons (dK (.str "ab")) (dCons (dK (.int 1)) (dCons (dK (.int 2)) dNil)))) dNil))))))))) (dgName 0) (dIfS (dOr (dTest (dOpw gIsNot (dCall d_is_run (dCons (dVar 0) dNil)) (dK (.bl false)))) (dTest (dOp gNe (dCall d__law_caught (dCons (dK (.int 1)) (dCons (dLst (dCons (dVar 0) (dCons (dK .non) dNil))) dNil))) (dLst (dCons (dK (.str "run")) (dCons (dB gRepr (dCons (dVar 0) dNil)) dNil)))))) (dRet (dK (.bl false))) dNext))
    (dSeq (dFor (dSrc srcL (dLst (dCons (dK .non) (dCons (dUn gNeg (dK (.int 1))) (dCons (dK (.bl true)) (dCons (dK (.str "0")) (dCons (dLst (dCons (dK (.int 0)) dNil)) dNil))))))) (dgName 0) (dIfS (dTest (dOp gNe (dCall d__law_caught (dCons (dK (.int 1)) (dCons (dLst (dCons (dTup (dCons (dLst (dCons (dK .non) (dCons (dK (.int 5)) dNil))) (dCons (dK (.int 4)) (dCons (dUn gNeg (dK (.int 2))) dNil)))) (dCons (dVar 0) dNil))) dNil))) (dLst (dCons (dK (.str "number")) (dCons (dB gRepr (dCons (dVar 0) dNil)) dNil))))) (dRet (dK (.bl false))) dNext))
    (dRet (dK (.bl true))))))))))
def d__law_refused : List D → DMem → XO D := dDef 2 b__law_refused false
/- law: 0 _law_script, 1 _law_index, 2 _law_generator_here, 3 _law_told -/
def b_law : DS := (dSeq (dFor (dRng1 (dCons (dK (.int 6)) dNil)) (dgName 1) (dFrzS (dSeq (dSet 2 (dCall d_c__law_generator (dCons (dVar 0) (dCons (dVar 1) dNil))))
    (dIfS (dNot (dTest (dCall d__law_least_good (dCons (dVar 2) (dCons (dCall d__law_raw_run (dCons (dVar 2) (dCons (dK (.int 6)) dNil))) dNil))))) (dRet (dK (.bl false))) dNext))))
    (dSeq (dSet 3 (dLst (dCons (dCall d_least_run (dCons (dLst (dCons (dK .non) (dCons (dK (.int 1)) (dCons (dK (.int 3)) dNil)))) (dCons (dK (.int 5)) (dCons (dK (.int 2)) dNil)))) (dCons (dCall d_least_run (dCons (dLst (dCons (dK .non) (dCons (dK .non) dNil))) (dCons (dK .non) (dCons (dK (.int 0)) dNil)))) (dCons (dCall d_least_run (dCons (dLst dNil) (dCons (dK (.int 4)) (dCons (dK (.int 0)) dNil)))) (dCons (dCall d_least_run (dCons (dLst (dCons (dK (.int 4)) (dCons (dK (.int 4)) dNil))) (dCons (dK (.int 4)) (dCons (dK (.int 0)) dNil)))) dNil))))))
    (dSeq (dIfS (dTest (dOp gNe (dB gRepr (dCons (dVar 3) dNil)) (dB gRepr (dCons (dLst (dCons (dTup (dCons (dLst (dCons (dK .non) dNil)) (dCons (dK (.int 1)) (dCons (dK (.int 2)) dNil)))) (dCons (dTup (dCons (dLst dNil) (dCons (dK .non) (dCons (dK (.int 0)) dNil)))) (dCons (dTup (dCons (dLst dNil) (dCons (dK (.int 4)) (dCons (dK (.int 0)) dNil)))) (dCons (dTup (dCons (dLst dNil) (dCons (dK (.int 4)) (dCons (dK (.int 0)) dNil)))) dNil))))) dNil)))) (dRet (dK (.bl false))) dNext)
    (dRet (dAndV (dOpw gIs (dCallKw d_is_run [0] (dCons (dTup (dCons (dLst dNil) (dCons (dUn gNeg (dK (.int 3))) (dCons (dK (.int 7)) dNil)))) dNil)) (dK (.bl true))) (dAndV (dOp gEq (dCallKw d_run_value [1, 0] (dCons (dK (.int 2)) (dCons (dTup (dCons (dLst (dCons (dK (.int 9)) dNil)) (dCons (dK (.int 1)) (dCons (dUn gNeg (dK (.int 4))) dNil)))) dNil))) (dUn gNeg (dK (.int 3)))) (dCall d__law_refused dNil)))))))
def d_law : List D → DMem → XO D := dDef 4 b_law false
structure Txt (P : Program) (K : PySem.W.Frag) (mg : Str → Option Value) : Prop where
  t_is_whole : FT K mg "is_whole" s_is_whole ["value"]
  t_is_between : FT K mg "is_between" s_is_between ["value", "low", "high"]
  t_check_number : FT K mg "check_number" s_check_number ["number", "low", "high"]
  t_is_worth : FT K mg "is_worth" s_is_worth ["value"]
  t_are_worths : FT K mg "are_worths" s_are_worths ["value"]
  t_is_slope : FT K mg "is_slope" s_is_slope ["start", "slope"]
  t_step_back : FT K mg "step_back" s_step_back ["start", "slope"]
  t_shortened : FT K mg "shortened" s_shortened ["first", "start", "slope"]
  t_is_run : FT K mg "is_run" s_is_run ["value"]
  t_check_run : FT K mg "check_run" s_check_run ["run"]
  t_least_run : FT K mg "least_run" s_least_run ["first", "start", "slope"]
  t_value_of : FT K mg "value_of" s_value_of ["run", "number"]
  t_run_value : FT K mg "run_value" s_run_value ["run", "number"]
  t__law_hash : FT K mg "_law_hash" s__law_hash ["_law_seed", "_law_index"]
  t__law_generator : FT K mg "_law_generator" s__law_generator ["_law_script", "_law_index"]
  t__law_random : FT K mg "_law_random" s__law_random ["_law_generator_here", "_law_bound"]
  t__law_back : FT K mg "_law_back" s__law_back ["_law_start", "_law_slope"]
  t__law_value : FT K mg "_law_value" s__law_value ["_law_run", "_law_number"]
  t__law_worth : FT K mg "_law_worth" s__law_worth ["_law_generator_here"]
  t__law_raw_run : FT K mg "_law_raw_run" s__law_raw_run ["_law_generator_here", "_law_most"]
  t__law_whole : FT K mg "_law_whole" s__law_whole ["_law_value_here"]
  t__law_is_least : FT K mg "_law_is_least" s__law_is_least ["_law_run"]
  t__law_least_good : FT K mg "_law_least_good" s__law_least_good ["_law_generator_here", "_law_raw"]
  t__law_caught : FT K mg "_law_caught" s__law_caught ["_law_which", "_law_given"]
  t__law_refused : FT K mg "_law_refused" s__law_refused []
  t_law : FT K mg "law" s_law ["_law_script"]
  z_bool : mg "bool" = none
  z_int : mg "int" = none
  z_isinstance : mg "isinstance" = none
  z_len : mg "len" = none
  z_list : mg "list" = none
  z_max : mg "max" = none
  z_range : mg "range" = none
  z_repr : mg "repr" = none
  z_sum : mg "sum" = none
  z_tuple : mg "tuple" = none
  e_InvalidNumber : ∃ C, PySem.ErrX.ErrTxt P K mg "InvalidNumber" C
  e_InvalidList : ∃ C, PySem.ErrX.ErrTxt P K mg "InvalidList" C
  e_InvalidRun : ∃ C, PySem.ErrX.ErrTxt P K mg "InvalidRun" C
  c_CountError : ∃ C, mg "CountError" = some (.ref C) ∧ CatchOk K mg (.ref C) catch_CountError
  errOk : ErrOk K mg errTb
  xv : XvOk K mg errs
section
variable {P : Program} {w : World} {K : PySem.W.Frag} {mg : Str → Option Value} {base : Heap}
theorem sc_is_whole : FnScope ["value"] ["value"] (defScope s_is_whole) := ⟨rfl, rfl, rfl, by decide +kernel, rfl, by decide +kernel, by decide +kernel⟩
theorem ok_is_whole (T : Txt P K mg) : Cal P w K mg base 1 "is_whole" s_is_whole ["value"] d_is_whole := by
  exact def_cal (k := 0) T.t_is_whole sc_is_whole rfl fun f cdv A outer s H E hg hr => ⟨_, (pssd_one (psd_ret (pd_and (pd_isi (by rfl) T.z_isinstance (by rfl) T.z_int PySem.Pv.boot_int (pdv 0)) (pd_one (pd_not (pd_isi (by rfl) T.z_isinstance (by rfl) T.z_bool PySem.Pv.boot_bool (pdv 0)))))))⟩
theorem sc_is_between : FnScope ["value", "low", "high"] ["value", "low", "high"] (defScope s_is_between) := ⟨rfl, rfl, rfl, by decide +kernel, rfl, by decide +kernel, by decide +kernel⟩
theorem ok_is_between (T : Txt P K mg) : Cal P w K mg base 2 "is_between" s_is_between ["value", "low", "high"] d_is_between := by
  exact def_cal (k := 1) T.t_is_between sc_is_between rfl fun f cdv A outer s H E hg hr => ⟨_, (pssd_one (psd_ret (pd_and (pd_c (ok_is_whole T) hg (hr.mono (by decide)) (by rfl) tk_cx (pad_cons (pdv 0) pad_nil) (len_cons len0)) (pd_and (pd_le (pdv 1) (pdv 0)) (pd_one (pd_or (pd_is (pdv 2) pd_non) (pd_one (pd_le (pdv 0) (pdv 2)))))))))⟩
theorem sc_check_number : FnScope ["number", "low", "high"] ["number", "low", "high"] (defScope s_check_number) := ⟨rfl, rfl, rfl, by decide +kernel, rfl, by decide +kernel, by decide +kernel⟩
theorem ok_check_number (T : Txt P K mg) : Cal P w K mg base 3 "check_number" s_check_number ["number", "low", "high"] d_check_number := by
  obtain ⟨C_InvalidNumber, e_InvalidNumber⟩ := T.e_InvalidNumber
  exact def_cal (k := 2) T.t_check_number sc_check_number rfl fun f cdv A outer s H E hg hr => ⟨_, (pssd_one (psd_if (ptd_not (ptd_of (pd_c (ok_is_between T) hg (hr.mono (by decide)) (by rfl) tk_cx (pad_cons (pdv 0) (pad_cons (pdv 1) (pad_cons (pdv 2) pad_nil))) (len_cons (len_cons (len_cons len0)))))) (pssd_one (psd_raise (by rfl) e_InvalidNumber hr tk_cx (pad_cons (pdv 0) pad_nil) (by rfl))) pssd_nil))⟩
theorem sc_is_worth : FnScope ["value"] ["value"] (defScope s_is_worth) := ⟨rfl, rfl, rfl, by decide +kernel, rfl, by decide +kernel, by decide +kernel⟩
theorem ok_is_worth (T : Txt P K mg) : Cal P w K mg base 2 "is_worth" s_is_worth ["value"] d_is_worth := by
  exact def_cal (k := 1) T.t_is_worth sc_is_worth rfl fun f cdv A outer s H E hg hr => ⟨_, (pssd_one (psd_ret (pd_or (pd_is (pdv 0) pd_non) (pd_one (pd_c (ok_is_whole T) hg (hr.mono (by decide)) (by rfl) tk_cx (pad_cons (pdv 0) pad_nil) (len_cons len0))))))⟩
theorem sc_are_worths : FnScope ["value", "item"] ["value"] (defScope s_are_worths) := ⟨rfl, rfl, rfl, by decide +kernel, rfl, by decide +kernel, by decide +kernel⟩
theorem ok_are_worths (T : Txt P K mg) : Cal P w K mg base 3 "are_worths" s_are_worths ["value"] d_are_worths := by
  exact def_cal (k := 2) T.t_are_worths sc_are_worths rfl fun f cdv A outer s H E hg hr => ⟨_, (pssd_one (psd_ret (pd_and (pd_isi (by rfl) T.z_isinstance (by rfl) T.z_list PySem.Pv.boot_list (pdv 0)) (pd_one (pd_eq hr.units (pd_lc (by rfl) sc_are_worths.nd (pid_list (pdv 0)) (blkOk_by (N := ["value", "item"]) (sc := defScope s_are_worths) (own := [("item", 1)]) (by decide +kernel)) (by rfl) (fun _ _ _ _ _ => (pgd_name (i := 1) sc_are_worths.nd (by rfl) (by first | exact .inl rfl | exact .inr rfl))) (fun _ _ _ _ _ => (ptsd_one (ptd_not (ptd_of (pd_c (ok_is_worth T) hg (hr.mono (by decide)) (by rfl) takes0 (pad_cons (pdv 1) pad_nil) (len_cons len0)))))) (fun _ _ _ _ _ => (pdv 1)) (by decide)) (pd_lst pad_nil))))))⟩
theorem sc_is_slope : FnScope ["start", "slope"] ["start", "slope"] (defScope s_is_slope) := ⟨rfl, rfl, rfl, by decide +kernel, rfl, by decide +kernel, by decide +kernel⟩
theorem ok_is_slope (T : Txt P K mg) : Cal P w K mg base 2 "is_slope" s_is_slope ["start", "slope"] d_is_slope := by
  exact def_cal (k := 1) T.t_is_slope sc_is_slope rfl fun f cdv A outer s H E hg hr => ⟨_, (pssd_one (psd_ret (pd_and (pd_c (ok_is_whole T) hg (hr.mono (by decide)) (by rfl) tk_cx (pad_cons (pdv 1) pad_nil) (len_cons len0)) (pd_one (pd_or (pd_isNot (pdv 0) pd_non) (pd_one (pd_eq hr.units (pdv 1) pd_int)))))))⟩
theorem sc_step_back : FnScope ["start", "slope"] ["start", "slope"] (defScope s_step_back) := ⟨rfl, rfl, rfl, by decide +kernel, rfl, by decide +kernel, by decide +kernel⟩
theorem ok_step_back (T : Txt P K mg) : Cal P w K mg base 1 "step_back" s_step_back ["start", "slope"] d_step_back := by
  exact def_cal (k := 0) T.t_step_back sc_step_back rfl fun f cdv A outer s H E hg hr => ⟨_, (pssd_cons (psd_if (ptd_is (pdv 0) pd_non) (pssd_one (psd_ret pd_non)) pssd_nil)
    (pssd_one (psd_ret (pd_sub (pdv 0) (pdv 1)))))⟩
theorem sc_shortened : FnScope ["first", "start", "slope", "end"] ["first", "start", "slope"] (defScope s_shortened) := ⟨rfl, rfl, rfl, by decide +kernel, rfl, by decide +kernel, by decide +kernel⟩
theorem ok_shortened (T : Txt P K mg) : Cal P w K mg base 2 "shortened" s_shortened ["first", "start", "slope"] d_shortened := by
  exact def_cal (k := 1) T.t_shortened sc_shortened rfl fun f cdv A outer s H E hg hr => ⟨_, (pssd_cons (psd_set (i := 3) sc_shortened.nd (by rfl) (by first | exact .inl rfl | exact .inr rfl) (pd_len (by rfl) T.z_len (pad_cons (pdv 0) pad_nil)))
    (pssd_cons (psd_while ps_cx (PWD.ptd (pwd_and (ptd_gt (pdv 3) pd_int) (pwd_and1 (ptd_eq hr.units (pd_ix (pdv 0) (pd_sub (pdv 3) pd_int)) (pd_c (ok_step_back T) hg (hr.mono (by decide)) (by rfl) tk_cx (pad_cons (pdv 1) (pad_cons (pdv 2) pad_nil)) (len_cons (len_cons len0))))))) (pssd_cons (psd_set (i := 3) sc_shortened.nd (by rfl) (by first | exact .inl rfl | exact .inr rfl) (pd_sub (pdv 3) pd_int))
    (pssd_one (psd_set (i := 1) sc_shortened.nd (by rfl) (by first | exact .inl rfl | exact .inr rfl) (pd_ix (pdv 0) (pdv 3))))))
    (pssd_one (psd_ret (pd_tup (pad_cons (pd_sl (pdv 0) pod_none (pod_some (pdv 3))) (pad_cons (pdv 1) (pad_cons (pdv 2) pad_nil))))))))⟩
theorem ok_c_shortened (T : Txt P K mg) : Cal P w K mg base 2 "shortened" s_shortened ["first", "start", "slope"] d_c_shortened := by
  exact def_cal (k := 1) T.t_shortened sc_shortened rfl fun f cdv A outer s H E hg hr => ⟨_, (pssd_cons (psd_set (i := 3) sc_shortened.nd (by rfl) (by first | exact .inl rfl | exact .inr rfl) (pd_len (by rfl) T.z_len (pad_cons (pdv 0) pad_nil)))
    (pssd_cons (psd_while ps_cx (PWD.ptd (pwd_and (ptd_gt (pdv 3) pd_int) (pwd_and1 (ptd_eq hr.units (pd_ix (pdv 0) (pd_sub (pdv 3) pd_int)) (pd_c (ok_step_back T) hg (hr.mono (by decide)) (by rfl) tk_cx (pad_cons (pdv 1) (pad_cons (pdv 2) pad_nil)) (len_cons (len_cons len0))))))) (pssd_cons (psd_set (i := 3) sc_shortened.nd (by rfl) (by first | exact .inl rfl | exact .inr rfl) (pd_sub (pdv 3) pd_int))
    (pssd_one (psd_set (i := 1) sc_shortened.nd (by rfl) (by first | exact .inl rfl | exact .inr rfl) (pd_ix (pdv 0) (pdv 3))))))
    (pssd_one (psd_ret (pd_tup (pad_cons (pd_slC (pdv 0) pod_none (pod_some (pdv 3))) (pad_cons (pdv 1) (pad_cons (pdv 2) pad_nil))))))))⟩
theorem sc_is_run : FnScope ["value", "first", "start", "slope"] ["value"] (defScope s_is_run) := ⟨rfl, rfl, rfl, by decide +kernel, rfl, by decide +kernel, by decide +kernel⟩
theorem ok_is_run (T : Txt P K mg) : Cal P w K mg base 4 "is_run" s_is_run ["value"] d_is_run := by
  exact def_cal (k := 3) T.t_is_run sc_is_run rfl fun f cdv A outer s H E hg hr => ⟨_, (pssd_cons (psd_if (PWD.ptd (pwd_or (ptd_not (ptd_of (pd_isi (by rfl) T.z_isinstance (by rfl) T.z_tuple PySem.Pv.boot_tuple (pdv 0)))) (pwd_or1 (ptd_ne hr.units (pd_len (by rfl) T.z_len (pad_cons (pdv 0) pad_nil)) pd_int)))) (pssd_one (psd_ret pd_bl)) pssd_nil)
    (pssd_cons (psd_asg (pdv 0) (pgd_tup (by rfl) (pgsd_cons (pgd_name (i := 1) sc_is_run.nd (by rfl) (by first | exact .inl rfl | exact .inr rfl)) (pgsd_cons (pgd_name (i := 2) sc_is_run.nd (by rfl) (by first | exact .inl rfl | exact .inr rfl)) (pgsd_cons (pgd_name (i := 3) sc_is_run.nd (by rfl) (by first | exact .inl rfl | exact .inr rfl)) pgsd_nil)))))
    (pssd_cons (psd_if (PWD.ptd (pwd_or (ptd_not (ptd_of (pd_c (ok_are_worths T) hg (hr.mono (by decide)) (by rfl) tk_cx (pad_cons (pdv 1) pad_nil) (len_cons len0)))) (pwd_or (ptd_not (ptd_of (pd_c (ok_is_worth T) hg (hr.mono (by decide)) (by rfl) tk_cx (pad_cons (pdv 2) pad_nil) (len_cons len0)))) (pwd_or1 (ptd_not (ptd_of (pd_c (ok_is_slope T) hg (hr.mono (by decide)) (by rfl) tk_cx (pad_cons (pdv 2) (pad_cons (pdv 3) pad_nil)) (len_cons (len_cons len0))))))))) (pssd_one (psd_ret pd_bl)) pssd_nil)
    (pssd_one (psd_ret (pd_or (pd_eq hr.units (pdv 1) (pd_lst pad_nil)) (pd_one (pd_ne hr.units (pd_ix (pdv 1) (pd_neg pd_int)) (pd_c (ok_step_back T) hg (hr.mono (by decide)) (by rfl) tk_cx (pad_cons (pdv 2) (pad_cons (pdv 3) pad_nil)) (len_cons (len_cons len0)))))))))))⟩
theorem sc_check_run : FnScope ["run"] ["run"] (defScope s_check_run) := ⟨rfl, rfl, rfl, by decide +kernel, rfl, by decide +kernel, by decide +kernel⟩
theorem ok_check_run (T : Txt P K mg) : Cal P w K mg base 5 "check_run" s_check_run ["run"] d_check_run := by
  obtain ⟨C_InvalidRun, e_InvalidRun⟩ := T.e_InvalidRun
  exact def_cal (k := 4) T.t_check_run sc_check_run rfl fun f cdv A outer s H E hg hr => ⟨_, (pssd_one (psd_if (ptd_not (ptd_of (pd_c (ok_is_run T) hg (hr.mono (by decide)) (by rfl) tk_cx (pad_cons (pdv 0) pad_nil) (len_cons len0)))) (pssd_one (psd_raise (by rfl) e_InvalidRun hr tk_cx (pad_cons (pdv 0) pad_nil) (by rfl))) pssd_nil))⟩
theorem sc_least_run : FnScope ["first", "start", "slope"] ["first", "start", "slope"] (defScope s_least_run) := ⟨rfl, rfl, rfl, by decide +kernel, rfl, by decide +kernel, by decide +kernel⟩
theorem ok_least_run (T : Txt P K mg) : Cal P w K mg base 4 "least_run" s_least_run ["first", "start", "slope"] d_least_run := by
  obtain ⟨C_InvalidList, e_InvalidList⟩ := T.e_InvalidList
  obtain ⟨C_InvalidNumber, e_InvalidNumber⟩ := T.e_InvalidNumber
  exact def_cal (k := 3) T.t_least_run sc_least_run rfl fun f cdv A outer s H E hg hr => ⟨_, (pssd_cons (psd_if (ptd_not (ptd_of (pd_c (ok_are_worths T) hg (hr.mono (by decide)) (by rfl) tk_cx (pad_cons (pdv 0) pad_nil) (len_cons len0)))) (pssd_one (psd_raise (by rfl) e_InvalidList hr tk_cx (pad_cons (pdv 0) pad_nil) (by rfl))) pssd_nil)
    (pssd_cons (psd_if (ptd_not (ptd_of (pd_c (ok_is_worth T) hg (hr.mono (by decide)) (by rfl) tk_cx (pad_cons (pdv 1) pad_nil) (len_cons len0)))) (pssd_one (psd_raise (by rfl) e_InvalidNumber hr tk_cx (pad_cons (pdv 1) pad_nil) (by rfl))) pssd_nil)
    (pssd_cons (psd_if (ptd_not (ptd_of (pd_c (ok_is_slope T) hg (hr.mono (by decide)) (by rfl) tk_cx (pad_cons (pdv 1) (pad_cons (pdv 2) pad_nil)) (len_cons (len_cons len0))))) (pssd_one (psd_raise (by rfl) e_InvalidNumber hr tk_cx (pad_cons (pdv 2) pad_nil) (by rfl))) pssd_nil)
    (pssd_one (psd_ret (pd_c (ok_shortened T) hg (hr.mono (by decide)) (by rfl) tk_cx (pad_cons (pdv 0) (pad_cons (pdv 1) (pad_cons (pdv 2) pad_nil))) (len_cons (len_cons (len_cons len0)))))))))⟩
theorem ok_c_least_run (T : Txt P K mg) : Cal P w K mg base 4 "least_run" s_least_run ["first", "start", "slope"] d_c_least_run := by
  obtain ⟨C_InvalidList, e_InvalidList⟩ := T.e_InvalidList
  obtain ⟨C_InvalidNumber, e_InvalidNumber⟩ := T.e_InvalidNumber
  exact def_cal (k := 3) T.t_least_run sc_least_run rfl fun f cdv A outer s H E hg hr => ⟨_, (pssd_cons (psd_if (ptd_not (ptd_of (pd_c (ok_are_worths T) hg (hr.mono (by decide)) (by rfl) tk_cx (pad_cons (pdv 0) pad_nil) (len_cons len0)))) (pssd_one (psd_raise (by rfl) e_InvalidList hr tk_cx (pad_cons (pdv 0) pad_nil) (by rfl))) pssd_nil)
    (pssd_cons (psd_if (ptd_not (ptd_of (pd_c (ok_is_worth T) hg (hr.mono (by decide)) (by rfl) tk_cx (pad_cons (pdv 1) pad_nil) (len_cons len0)))) (pssd_one (psd_raise (by rfl) e_InvalidNumber hr tk_cx (pad_cons (pdv 1) pad_nil) (by rfl))) pssd_nil)
    (pssd_cons (psd_if (ptd_not (ptd_of (pd_c (ok_is_slope T) hg (hr.mono (by decide)) (by rfl) tk_cx (pad_cons (pdv 1) (pad_cons (pdv 2) pad_nil)) (len_cons (len_cons len0))))) (pssd_one (psd_raise (by rfl) e_InvalidNumber hr tk_cx (pad_cons (pdv 2) pad_nil) (by rfl))) pssd_nil)
    (pssd_one (psd_ret (pd_c (ok_c_shortened T) hg (hr.mono (by decide)) (by rfl) tk_cx (pad_cons (pdv 0) (pad_cons (pdv 1) (pad_cons (pdv 2) pad_nil))) (len_cons (len_cons (len_cons len0)))))))))⟩
theorem sc_value_of : FnScope ["run", "number", "first", "start", "slope"] ["run", "number"] (defScope s_value_of) := ⟨rfl, rfl, rfl, by decide +kernel, rfl, by decide +kernel, by decide +kernel⟩
theorem ok_value_of (T : Txt P K mg) : Cal P w K mg base 1 "value_of" s_value_of ["run", "number"] d_value_of := by
  exact def_cal (k := 0) T.t_value_of sc_value_of rfl fun f cdv A outer s H E hg hr => ⟨_, (pssd_cons (psd_asg (pdv 0) (pgd_tup (by rfl) (pgsd_cons (pgd_name (i := 2) sc_value_of.nd (by rfl) (by first | exact .inl rfl | exact .inr rfl)) (pgsd_cons (pgd_name (i := 3) sc_value_of.nd (by rfl) (by first | exact .inl rfl | exact .inr rfl)) (pgsd_cons (pgd_name (i := 4) sc_value_of.nd (by rfl) (by first | exact .inl rfl | exact .inr rfl)) pgsd_nil)))))
    (pssd_cons (psd_if (ptd_lt (pdv 1) (pd_len (by rfl) T.z_len (pad_cons (pdv 2) pad_nil))) (pssd_one (psd_ret (pd_ix (pdv 2) (pdv 1)))) pssd_nil)
    (pssd_cons (psd_if (ptd_is (pdv 3) pd_non) (pssd_one (psd_ret pd_non)) pssd_nil)
    (pssd_one (psd_ret (pd_add (pdv 3) (pd_mul (pdv 4) (pd_sub (pdv 1) (pd_len (by rfl) T.z_len (pad_cons (pdv 2) pad_nil))))))))))⟩
theorem sc_run_value : FnScope ["run", "number"] ["run", "number"] (defScope s_run_value) := ⟨rfl, rfl, rfl, by decide +kernel, rfl, by decide +kernel, by decide +kernel⟩
theorem ok_run_value (T : Txt P K mg) : Cal P w K mg base 6 "run_value" s_run_value ["run", "number"] d_run_value := by
  exact def_cal (k := 5) T.t_run_value sc_run_value rfl fun f cdv A outer s H E hg hr => ⟨_, (pssd_cons (psd_expr (pd_c (ok_check_run T) hg (hr.mono (by decide)) (by rfl) tk_cx (pad_cons (pdv 0) pad_nil) (len_cons len0)))
    (pssd_cons (psd_expr (pd_c (ok_check_number T) hg (hr.mono (by decide)) (by rfl) tk_cx (pad_cons (pdv 1) (pad_cons pd_int (pad_cons pd_non pad_nil))) (len_cons (len_cons (len_cons len0)))))
    (pssd_one (psd_ret (pd_c (ok_value_of T) hg (hr.mono (by decide)) (by rfl) tk_cx (pad_cons (pdv 0) (pad_cons (pdv 1) pad_nil)) (len_cons (len_cons len0)))))))⟩
theorem sc__law_hash : FnScope ["_law_seed", "_law_index", "_law_mixed"] ["_law_seed", "_law_index"] (defScope s__law_hash) := ⟨rfl, rfl, rfl, by decide +kernel, rfl, by decide +kernel, by decide +kernel⟩
theorem ok__law_hash (T : Txt P K mg) : Cal P w K mg base 1 "_law_hash" s__law_hash ["_law_seed", "_law_index"] d__law_hash := by
  exact def_cal (k := 0) T.t__law_hash sc__law_hash rfl fun f cdv A outer s H E hg hr => ⟨_, (pssd_cons (psd_set (i := 2) sc__law_hash.nd (by rfl) (by first | exact .inl rfl | exact .inr rfl) (pd_mod (pd_intOf (by rfl) T.z_int (pad_cons (pd_add (pd_add (pd_add (pd_mul (pdv 0) pd_int) (pd_mul (pd_mul pd_int (pdv 1)) (pdv 1))) (pd_mul pd_int (pdv 1))) pd_int) pad_nil)) pd_int))
    (pssd_cons (psd_set (i := 2) sc__law_hash.nd (by rfl) (by first | exact .inl rfl | exact .inr rfl) (pd_mod (pd_intOf (by rfl) T.z_int (pad_cons (pd_add (pd_add (pd_mul (pdv 2) (pdv 2)) (pd_mul pd_int (pdv 1))) pd_int) pad_nil)) pd_int))
    (pssd_one (psd_ret (pd_mod (pd_intOf (by rfl) T.z_int (pad_cons (pd_mul (pdv 2) pd_int) pad_nil)) pd_int)))))⟩
theorem sc__law_generator : FnScope ["_law_script", "_law_index", "_law_seed"] ["_law_script", "_law_index"] (defScope s__law_generator) := ⟨rfl, rfl, rfl, by decide +kernel, rfl, by decide +kernel, by decide +kernel⟩
theorem ok_c__law_generator (T : Txt P K mg) : Cal P w K mg base 1 "_law_generator" s__law_generator ["_law_script", "_law_index"] d_c__law_generator := by
  exact def_cal (k := 0) T.t__law_generator sc__law_generator rfl fun f cdv A outer s H E hg hr => ⟨_, (pssd_cons (psd_set (i := 2) sc__law_generator.nd (by rfl) (by first | exact .inl rfl | exact .inr rfl) (pd_if (ptd_lt (pdv 1) (pd_len (by rfl) T.z_len (pad_cons (pdv 0) pad_nil))) (pd_ix (pdv 0) (pdv 1)) (pd_mod (pd_sum (by rfl) (by rfl) T.z_sum (pad_cons (pd_sl (pdv 0) pod_none (pod_some pd_int)) pad_nil)) pd_int)))
    (pssd_one (psd_ret (pd_cell (pad_cons (pd_mod (pd_intOf (by rfl) T.z_int (pad_cons (pd_max2 (by rfl) (by rfl) T.z_max (pad_cons (pd_sub (pdv 2) (pd_pow pd_int pd_int)) (pad_cons pd_int pad_nil))) pad_nil)) (pd_pow (pd_pow pd_int pd_int) pd_int)) (pad_cons (pd_mod (pd_intOf (by rfl) T.z_int (pad_cons (pdv 2) pad_nil)) pd_int) (pad_cons (pd_mul pd_int (pdv 1)) pad_nil)))))))⟩
theorem sc__law_random : FnScope ["_law_generator_here", "_law_bound", "_law_drawn", "_law_turn"] ["_law_generator_here", "_law_bound"] (defScope s__law_random) := ⟨rfl, rfl, rfl, by decide +kernel, rfl, by decide +kernel, by decide +kernel⟩
theorem ok__law_random (T : Txt P K mg) : Cal P w K mg base 2 "_law_random" s__law_random ["_law_generator_here", "_law_bound"] d__law_random := by
  exact def_cal (k := 1) T.t__law_random sc__law_random rfl fun f cdv A outer s H E hg hr => ⟨_, (pssd_cons (psd_if (ptd_gt (pd_ix (pdv 0) pd_int) pd_int) (pssd_cons (psd_set (i := 2) sc__law_random.nd (by rfl) (by first | exact .inl rfl | exact .inr rfl) (pd_mod (pd_intOf (by rfl) T.z_int (pad_cons (pd_ix (pdv 0) pd_int) pad_nil)) (pdv 1)))
    (pssd_cons (psd_setIx (pd_fdv (pd_ix (pdv 0) pd_int) (pdv 1)) (pdv 0) pd_int)
    (pssd_one (psd_ret (pdv 2))))) pssd_nil)
    (pssd_cons (psd_set (i := 2) sc__law_random.nd (by rfl) (by first | exact .inl rfl | exact .inr rfl) pd_int)
    (pssd_cons (psd_for ps_cx (by rfl) (pid_range1 (by rfl) T.z_range (pad_cons (pd_add pd_int (pd_fdv (pd_bits (pdv 1)) pd_int)) pad_nil)) (pgd_name (i := 3) sc__law_random.nd (by rfl) (by first | exact .inl rfl | exact .inr rfl)) (pssd_cons (psd_setIx (pd_add (pd_ix (pdv 0) pd_int) pd_int) (pdv 0) pd_int)
    (pssd_one (psd_set (i := 2) sc__law_random.nd (by rfl) (by first | exact .inl rfl | exact .inr rfl) (pd_add (pd_mul (pdv 2) pd_int) (pd_c (ok__law_hash T) hg (hr.mono (by decide)) (by rfl) tk_cx (pad_cons (pd_ix (pdv 0) pd_int) (pad_cons (pd_ix (pdv 0) pd_int) pad_nil)) (len_cons (len_cons len0))))))))
    (pssd_one (psd_ret (pd_mod (pd_intOf (by rfl) T.z_int (pad_cons (pdv 2) pad_nil)) (pdv 1)))))))⟩
theorem sc__law_back : FnScope ["_law_start", "_law_slope"] ["_law_start", "_law_slope"] (defScope s__law_back) := ⟨rfl, rfl, rfl, by decide +kernel, rfl, by decide +kernel, by decide +kernel⟩
theorem ok__law_back (T : Txt P K mg) : Cal P w K mg base 1 "_law_back" s__law_back ["_law_start", "_law_slope"] d__law_back := by
  exact def_cal (k := 0) T.t__law_back sc__law_back rfl fun f cdv A outer s H E hg hr => ⟨_, (pssd_one (psd_ret (pd_if (ptd_is (pdv 0) pd_non) pd_non (pd_sub (pdv 0) (pdv 1)))))⟩
theorem sc__law_value : FnScope ["_law_run", "_law_number"] ["_law_run", "_law_number"] (defScope s__law_value) := ⟨rfl, rfl, rfl, by decide +kernel, rfl, by decide +kernel, by decide +kernel⟩
theorem ok__law_value (T : Txt P K mg) : Cal P w K mg base 1 "_law_value" s__law_value ["_law_run", "_law_number"] d__law_value := by
  exact def_cal (k := 0) T.t__law_value sc__law_value rfl fun f cdv A outer s H E hg hr => ⟨_, (pssd_cons (psd_if (ptd_lt (pdv 1) (pd_len (by rfl) T.z_len (pad_cons (pd_ix (pdv 0) pd_int) pad_nil))) (pssd_one (psd_ret (pd_ix (pd_ix (pdv 0) pd_int) (pdv 1)))) pssd_nil)
    (pssd_one (psd_ret (pd_if (ptd_is (pd_ix (pdv 0) pd_int) pd_non) pd_non (pd_add (pd_ix (pdv 0) pd_int) (pd_mul (pd_ix (pdv 0) pd_int) (pd_sub (pdv 1) (pd_len (by rfl) T.z_len (pad_cons (pd_ix (pdv 0) pd_int) pad_nil)))))))))⟩
theorem sc__law_worth : FnScope ["_law_generator_here", "_law_kind"] ["_law_generator_here"] (defScope s__law_worth) := ⟨rfl, rfl, rfl, by decide +kernel, rfl, by decide +kernel, by decide +kernel⟩
theorem ok__law_worth (T : Txt P K mg) : Cal P w K mg base 3 "_law_worth" s__law_worth ["_law_generator_here"] d__law_worth := by
  exact def_cal (k := 2) T.t__law_worth sc__law_worth rfl fun f cdv A outer s H E hg hr => ⟨_, (pssd_cons (psd_set (i := 1) sc__law_worth.nd (by rfl) (by first | exact .inl rfl | exact .inr rfl) (pd_c (ok__law_random T) hg (hr.mono (by decide)) (by rfl) tk_cx (pad_cons (pdv 0) (pad_cons pd_int pad_nil)) (len_cons (len_cons len0))))
    (pssd_cons (psd_if (ptd_eq hr.units (pdv 1) pd_int) (pssd_one (psd_ret pd_non)) pssd_nil)
    (pssd_one (psd_ret (pd_if (ptd_lt (pdv 1) pd_int) (pd_sub (pd_c (ok__law_random T) hg (hr.mono (by decide)) (by rfl) tk_cx (pad_cons (pdv 0) (pad_cons pd_int pad_nil)) (len_cons (len_cons len0))) pd_int) (pd_sub (pd_c (ok__law_random T) hg (hr.mono (by decide)) (by rfl) tk_cx (pad_cons (pdv 0) (pad_cons (pd_mul pd_int (pd_pow pd_int pd_int)) pad_nil)) (len_cons (len_cons len0))) (pd_pow pd_int pd_int)))))))⟩
theorem sc__law_raw_run : FnScope ["_law_generator_here", "_law_most", "_law_start", "_law_slope", "_law_first", "_law_line", "_law_turn"] ["_law_generator_here", "_law_most"] (defScope s__law_raw_run) := ⟨rfl, rfl, rfl, by decide +kernel, rfl, by decide +kernel, by decide +kernel⟩
theorem ok__law_raw_run (T : Txt P K mg) : Cal P w K mg base 4 "_law_raw_run" s__law_raw_run ["_law_generator_here", "_law_most"] d__law_raw_run := by
  exact def_cal (k := 3) T.t__law_raw_run sc__law_raw_run rfl fun f cdv A outer s H E hg hr => ⟨_, (pssd_cons (psd_par (i := 2) (j := 3) (by rfl) sc__law_raw_run.nd (by rfl) (by rfl) (by decide) (by rfl) (by rfl) (pad_cons (pd_c (ok__law_worth T) hg (hr.mono (by decide)) (by rfl) tk_cx (pad_cons (pdv 0) pad_nil) (len_cons len0)) (pad_cons (pd_sub (pd_c (ok__law_random T) hg (hr.mono (by decide)) (by rfl) tk_cx (pad_cons (pdv 0) (pad_cons pd_int pad_nil)) (len_cons (len_cons len0))) pd_int) pad_nil)) (by rfl))
    (pssd_cons (psd_if (ptd_eq hr.units (pd_c (ok__law_random T) hg (hr.mono (by decide)) (by rfl) tk_cx (pad_cons (pdv 0) (pad_cons pd_int pad_nil)) (len_cons (len_cons len0))) pd_int) (pssd_one (psd_set (i := 3) sc__law_raw_run.nd (by rfl) (by first | exact .inl rfl | exact .inr rfl) (pd_mul (pdv 3) (pd_add (pd_c (ok__law_random T) hg (hr.mono (by decide)) (by rfl) tk_cx (pad_cons (pdv 0) (pad_cons (pd_pow pd_int pd_int) pad_nil)) (len_cons (len_cons len0))) pd_int)))) pssd_nil)
    (pssd_cons (psd_if (ptd_is (pdv 2) pd_non) (pssd_one (psd_set (i := 3) sc__law_raw_run.nd (by rfl) (by first | exact .inl rfl | exact .inr rfl) pd_int)) pssd_nil)
    (pssd_cons (psd_par (i := 4) (j := 5) (by rfl) sc__law_raw_run.nd (by rfl) (by rfl) (by decide) (by rfl) (by rfl) (pad_cons (pd_cell pad_nil) (pad_cons (pd_lst (pad_cons (pdv 2) pad_nil)) pad_nil)) (by rfl))
    (pssd_cons (psd_for ps_cx (by rfl) (pid_range1 (by rfl) T.z_range (pad_cons (pd_c (ok__law_random T) hg (hr.mono (by decide)) (by rfl) tk_cx (pad_cons (pdv 0) (pad_cons pd_int pad_nil)) (len_cons (len_cons len0))) pad_nil)) (pgd_name (i := 6) sc__law_raw_run.nd (by rfl) (by first | exact .inl rfl | exact .inr rfl)) (pssd_one (psd_set (i := 5) sc__law_raw_run.nd (by rfl) (by first | exact .inl rfl | exact .inr rfl) (pd_add (pd_lst (pad_cons (pd_c (ok__law_back T) hg (hr.mono (by decide)) (by rfl) tk_cx (pad_cons (pd_ix (pdv 5) pd_int) (pad_cons (pdv 3) pad_nil)) (len_cons (len_cons len0))) pad_nil)) (pdv 5)))))
    (pssd_cons (psd_for ps_cx (by rfl) (pid_range1 (by rfl) T.z_range (pad_cons (pd_c (ok__law_random T) hg (hr.mono (by decide)) (by rfl) tk_cx (pad_cons (pdv 0) (pad_cons (pdv 1) pad_nil)) (len_cons (len_cons len0))) pad_nil)) (pgd_name (i := 6) sc__law_raw_run.nd (by rfl) (by first | exact .inl rfl | exact .inr rfl)) (pssd_one (psd_expr (pd_append (pdv 4) (pad_cons (pd_c (ok__law_worth T) hg (hr.mono (by decide)) (by rfl) tk_cx (pad_cons (pdv 0) pad_nil) (len_cons len0)) pad_nil)))))
    (pssd_one (psd_ret (pd_tup (pad_cons (pd_add (pdv 4) (pd_sl (pdv 5) pod_none (pod_some (pd_neg pd_int)))) (pad_cons (pdv 2) (pad_cons (pdv 3) pad_nil))))))))))))⟩
theorem sc__law_whole : FnScope ["_law_value_here"] ["_law_value_here"] (defScope s__law_whole) := ⟨rfl, rfl, rfl, by decide +kernel, rfl, by decide +kernel, by decide +kernel⟩
theorem ok__law_whole (T : Txt P K mg) : Cal P w K mg base 1 "_law_whole" s__law_whole ["_law_value_here"] d__law_whole := by
  exact def_cal (k := 0) T.t__law_whole sc__law_whole rfl fun f cdv A outer s H E hg hr => ⟨_, (pssd_one (psd_ret (pd_and (pd_isi (by rfl) T.z_isinstance (by rfl) T.z_int PySem.Pv.boot_int (pdv 0)) (pd_one (pd_not (pd_isi (by rfl) T.z_isinstance (by rfl) T.z_bool PySem.Pv.boot_bool (pdv 0)))))))⟩
theorem sc__law_is_least : FnScope ["_law_run", "_law_item"] ["_law_run"] (defScope s__law_is_least) := ⟨rfl, rfl, rfl, by decide +kernel, rfl, by decide +kernel, by decide +kernel⟩
theorem ok__law_is_least (T : Txt P K mg) : Cal P w K mg base 2 "_law_is_least" s__law_is_least ["_law_run"] d__law_is_least := by
  exact def_cal (k := 1) T.t__law_is_least sc__law_is_least rfl fun f cdv A outer s H E hg hr => ⟨_, (pssd_cons (psd_if (PWD.ptd (pwd_or (ptd_not (ptd_of (pd_isi (by rfl) T.z_isinstance (by rfl) T.z_tuple PySem.Pv.boot_tuple (pdv 0)))) (pwd_or (ptd_ne hr.units (pd_len (by rfl) T.z_len (pad_cons (pdv 0) pad_nil)) pd_int) (pwd_or1 (ptd_not (ptd_of (pd_isi (by rfl) T.z_isinstance (by rfl) T.z_list PySem.Pv.boot_list (pd_ix (pdv 0) pd_int)))))))) (pssd_one (psd_ret pd_bl)) pssd_nil)
    (pssd_cons (psd_if (PWD.ptd (pwd_or (ptd_ne hr.units (pd_lc (by rfl) sc__law_is_least.nd (pid_list (pd_ix (pdv 0) pd_int)) (blkOk_by (N := ["_law_run", "_law_item"]) (sc := defScope s__law_is_least) (own := [("_law_item", 1)]) (by decide +kernel)) (by rfl) (fun _ _ _ _ _ => (pgd_name (i := 1) sc__law_is_least.nd (by rfl) (by first | exact .inl rfl | exact .inr rfl))) (fun _ _ _ _ _ => (ptsd_one (PWD.ptd (pwd_and (ptd_isNot (pdv 1) pd_non) (pwd_and1 (ptd_not (ptd_of (pd_c (ok__law_whole T) hg (hr.mono (by decide)) (by rfl) takes0 (pad_cons (pdv 1) pad_nil) (len_cons len0))))))))) (fun _ _ _ _ _ => (pdv 1)) (by decide)) (pd_lst pad_nil)) (pwd_or1 (ptd_not (ptd_of (pd_c (ok__law_whole T) hg (hr.mono (by decide)) (by rfl) tk_cx (pad_cons (pd_ix (pdv 0) pd_int) pad_nil) (len_cons len0))))))) (pssd_one (psd_ret pd_bl)) pssd_nil)
    (pssd_cons (psd_if (ptd_is (pd_ix (pdv 0) pd_int) pd_non) (pssd_one (psd_ret (pd_and (pd_eq hr.units (pd_ix (pdv 0) pd_int) pd_int) (pd_one (pd_ne hr.units (pd_sl (pd_ix (pdv 0) pd_int) (pod_some (pd_neg pd_int)) pod_none) (pd_lst (pad_cons pd_non pad_nil))))))) pssd_nil)
    (pssd_one (psd_ret (pd_and (pd_c (ok__law_whole T) hg (hr.mono (by decide)) (by rfl) tk_cx (pad_cons (pd_ix (pdv 0) pd_int) pad_nil) (len_cons len0)) (pd_one (pd_ne hr.units (pd_sl (pd_ix (pdv 0) pd_int) (pod_some (pd_neg pd_int)) pod_none) (pd_lst (pad_cons (pd_sub (pd_ix (pdv 0) pd_int) (pd_ix (pdv 0) pd_int)) pad_nil))))))))))⟩
theorem sc__law_least_good : FnScope ["_law_generator_here", "_law_raw", "_law_given", "_law_found", "_law_counts", "_law_number", "_law_more", "_law_again", "_law_kept"] ["_law_generator_here", "_law_raw"] (defScope s__law_least_good) := ⟨rfl, rfl, rfl, by decide +kernel, rfl, by decide +kernel, by decide +kernel⟩
theorem ok__law_least_good (T : Txt P K mg) : Cal P w K mg base 7 "_law_least_good" s__law_least_good ["_law_generator_here", "_law_raw"] d__law_least_good := by
  exact def_cal (k := 6) T.t__law_least_good sc__law_least_good rfl fun f cdv A outer s H E hg hr => ⟨_, (pssd_cons (psd_set (i := 2) sc__law_least_good.nd (by rfl) (by first | exact .inl rfl | exact .inr rfl) (pd_listC (by rfl) T.z_list (pad_cons (pd_ix (pdv 1) pd_int) pad_nil)))
    (pssd_cons (psd_set (i := 3) sc__law_least_good.nd (by rfl) (by first | exact .inl rfl | exact .inr rfl) (pd_c (ok_least_run T) hg (hr.mono (by decide)) (by rfl) tk_cx (pad_cons (pdv 2) (pad_cons (pd_ix (pdv 1) pd_int) (pad_cons (pd_ix (pdv 1) pd_int) pad_nil))) (len_cons (len_cons (len_cons len0)))))
    (pssd_cons (psd_if (PWD.ptd (pwd_or (ptd_ne hr.units (pd_repr hg hr.units (by rfl) T.z_repr (pad_cons (pdv 2) pad_nil)) (pd_repr hg hr.units (by rfl) T.z_repr (pad_cons (pd_ix (pdv 1) pd_int) pad_nil))) (pwd_or (ptd_not (ptd_of (pd_c (ok__law_is_least T) hg (hr.mono (by decide)) (by rfl) tk_cx (pad_cons (pdv 3) pad_nil) (len_cons len0)))) (pwd_or1 (ptd_isNot (pd_c (ok_is_run T) hg (hr.mono (by decide)) (by rfl) tk_cx (pad_cons (pdv 3) pad_nil) (len_cons len0)) pd_bl))))) (pssd_one (psd_ret pd_bl)) pssd_nil)
    (pssd_cons (psd_set (i := 4) sc__law_least_good.nd (by rfl) (by first | exact .inl rfl | exact .inr rfl) (pd_add (pd_listRng1 (by rfl) (by rfl) T.z_list (by rfl) T.z_range (pd_add (pd_len (by rfl) T.z_len (pad_cons (pd_ix (pdv 1) pd_int) pad_nil)) pd_int)) (pd_lst (pad_cons (pd_c (ok__law_random T) hg (hr.mono (by decide)) (by rfl) tk_cx (pad_cons (pdv 0) (pad_cons (pd_pow pd_int pd_int) pad_nil)) (len_cons (len_cons len0))) pad_nil))))
    (pssd_cons (psd_for ps_cx (by rfl) (pid_list (pdv 4)) (pgd_name (i := 5) sc__law_least_good.nd (by rfl) (by first | exact .inl rfl | exact .inr rfl)) (pssd_cons (psd_if (ptd_ne hr.units (pd_repr hg hr.units (by rfl) T.z_repr (pad_cons (pd_c (ok__law_value T) hg (hr.mono (by decide)) (by rfl) tk_cx (pad_cons (pdv 3) (pad_cons (pdv 5) pad_nil)) (len_cons (len_cons len0))) pad_nil)) (pd_repr hg hr.units (by rfl) T.z_repr (pad_cons (pd_c (ok__law_value T) hg (hr.mono (by decide)) (by rfl) tk_cx (pad_cons (pdv 1) (pad_cons (pdv 5) pad_nil)) (len_cons (len_cons len0))) pad_nil))) (pssd_one (psd_ret pd_bl)) pssd_nil)
    (pssd_one (psd_if (ptd_ne hr.units (pd_repr hg hr.units (by rfl) T.z_repr (pad_cons (pd_c (ok_run_value T) hg (hr.mono (by decide)) (by rfl) tk_cx (pad_cons (pdv 3) (pad_cons (pdv 5) pad_nil)) (len_cons (len_cons len0))) pad_nil)) (pd_repr hg hr.units (by rfl) T.z_repr (pad_cons (pd_c (ok__law_value T) hg (hr.mono (by decide)) (by rfl) tk_cx (pad_cons (pdv 1) (pad_cons (pdv 5) pad_nil)) (len_cons (len_cons len0))) pad_nil))) (pssd_one (psd_ret pd_bl)) pssd_nil))))
    (pssd_cons (psd_if (PWD.ptd (pwd_or (ptd_ne hr.units (pd_repr hg hr.units (by rfl) T.z_repr (pad_cons (pd_ix (pdv 3) pd_int) pad_nil)) (pd_repr hg hr.units (by rfl) T.z_repr (pad_cons (pd_ix (pdv 1) pd_int) pad_nil))) (pwd_or1 (ptd_ne hr.units (pd_repr hg hr.units (by rfl) T.z_repr (pad_cons (pd_c (ok_is_run T) hg (hr.mono (by decide)) (by rfl) tk_cx (pad_cons (pdv 1) pad_nil) (len_cons len0)) pad_nil)) (pd_repr hg hr.units (by rfl) T.z_repr (pad_cons (pd_c (ok__law_is_least T) hg (hr.mono (by decide)) (by rfl) tk_cx (pad_cons (pdv 1) pad_nil) (len_cons len0)) pad_nil)))))) (pssd_one (psd_ret pd_bl)) pssd_nil)
    (pssd_cons (psd_setLcC (i := 6) (by rfl) sc__law_least_good.nd (by rfl) (by rfl) (by rfl) (pid_range1 (by rfl) T.z_range (pad_cons (pd_add (pd_len (by rfl) T.z_len (pad_cons (pd_ix (pdv 1) pd_int) pad_nil)) (pd_c (ok__law_random T) hg (hr.mono (by decide)) (by rfl) tk_cx (pad_cons (pdv 0) (pad_cons pd_int pad_nil)) (len_cons (len_cons len0)))) pad_nil)) (blkOk_by (N := ["_law_generator_here", "_law_raw", "_law_given", "_law_found", "_law_counts", "_law_number", "_law_more", "_law_again", "_law_kept"]) (sc := defScope s__law_least_good) (own := [("_law_number", 5)]) (by decide +kernel)) (by rfl) (fun _ _ _ _ _ => (pgd_name (i := 5) sc__law_least_good.nd (by rfl) (by first | exact .inl rfl | exact .inr rfl))) (fun _ _ _ _ _ => ptsd_nil) (fun _ _ _ _ _ => (pd_c (ok__law_value T) hg (hr.mono (by decide)) (by rfl) takes0 (pad_cons (pdv 1) (pad_cons (pdv 5) pad_nil)) (len_cons (len_cons len0)))) (by decide))
    (pssd_cons (psd_set (i := 7) sc__law_least_good.nd (by rfl) (by first | exact .inl rfl | exact .inr rfl) (pd_ck (ks := ["first", "slope", "start"]) (o := [0, 2, 1]) (ok_c_least_run T) hg (hr.mono (by decide)) (by rfl) tk_cx (fun _ _ _ _ _ _ ws hl => match ws, hl with | [_, _, _], _ => rfl) (pkd_cons (pdv 6) (pkd_cons (pd_ix (pdv 1) pd_int) (pkd_cons (pd_c (ok__law_value T) hg (hr.mono (by decide)) (by rfl) tk_cx (pad_cons (pdv 1) (pad_cons (pd_len (by rfl) T.z_len (pad_cons (pdv 6) pad_nil)) pad_nil)) (len_cons (len_cons len0))) pkd_nil))) (fun env m as m1 h => by have hl := (len_cons (len_cons (len_cons len0))) env m as m1 h; match as, hl with | [_, _, _], _ => exact ⟨rfl, rfl⟩)))
    (pssd_cons (psd_set (i := 8) sc__law_least_good.nd (by rfl) (by first | exact .inl rfl | exact .inr rfl) (pd_repr hg hr.units (by rfl) T.z_repr (pad_cons (pdv 3) pad_nil)))
    (pssd_cons (psd_expr (pd_append (pd_ix (pdv 7) pd_int) (pad_cons pd_int pad_nil)))
    (pssd_cons (psd_expr (pd_append (pdv 2) (pad_cons pd_int pad_nil)))
    (pssd_cons (psd_expr (pd_append (pdv 6) (pad_cons pd_int pad_nil)))
    (pssd_one (psd_ret (pd_and (pd_eq hr.units (pd_repr hg hr.units (by rfl) T.z_repr (pad_cons (pdv 3) pad_nil)) (pdv 8)) (pd_one (pd_eq hr.units (pd_repr hg hr.units (by rfl) T.z_repr (pad_cons (pd_tup (pad_cons (pd_sl (pd_ix (pdv 7) pd_int) pod_none (pod_some (pd_neg pd_int))) (pad_cons (pd_ix (pdv 7) pd_int) (pad_cons (pd_ix (pdv 7) pd_int) pad_nil)))) pad_nil)) (pdv 8))))))))))))))))))⟩
theorem sc__law_caught : FnScope ["_law_which", "_law_given", "_law_error", "e"] ["_law_which", "_law_given"] (defScope s__law_caught) := ⟨rfl, rfl, rfl, by decide +kernel, rfl, by decide +kernel, by decide +kernel⟩
theorem ok__law_caught (T : Txt P K mg) : Cal P w K mg base 7 "_law_caught" s__law_caught ["_law_which", "_law_given"] d__law_caught := by
  obtain ⟨C_InvalidList, e_InvalidList⟩ := T.e_InvalidList
  obtain ⟨C_InvalidNumber, e_InvalidNumber⟩ := T.e_InvalidNumber
  obtain ⟨C_InvalidRun, e_InvalidRun⟩ := T.e_InvalidRun
  obtain ⟨C_CountError, c_CountError, k_CountError⟩ := T.c_CountError
  exact def_cal (k := 6) T.t__law_caught sc__law_caught rfl fun f cdv A outer s H E hg hr => ⟨_, (pssd_cons (psd_set (i := 2) sc__law_caught.nd (by rfl) (by first | exact .inl rfl | exact .inr rfl) pd_non)
    (pssd_cons (psd_tryP (i := 3) (j := 2) rfl rfl rfl sc__law_caught.nd (by rfl) (by rfl) (by rfl) (by rfl) ⟨by rfl, by decide, .inl c_CountError⟩ tk_cx k_CountError (fun W pn xe tk => (pssd_one (psd_if (ptd_eq hr.units (pdv 0) pd_int) (pssd_one (psd_expr (pd_c (ok_least_run T) hg (hr.mono (by decide)) (by rfl) tk (pad_cons (pd_ix (pdv 1) pd_int) (pad_cons (pd_ix (pdv 1) pd_int) (pad_cons (pd_ix (pdv 1) pd_int) pad_nil))) (len_cons (len_cons (len_cons len0)))))) (pssd_one (psd_expr (pd_c (ok_run_value T) hg (hr.mono (by decide)) (by rfl) tk (pad_cons (pd_ix (pdv 1) pd_int) (pad_cons (pd_ix (pdv 1) pd_int) pad_nil)) (len_cons (len_cons len0)))))))))
    (pssd_cons (psd_if (PWD.ptd (pwd_and (ptd_of (pd_isE T.errOk (by rfl) T.z_isinstance (by rfl) e_InvalidList.gC (pdv 2))) (pwd_and1 (ptd_not (ptd_of (pd_isEs T.errOk (by rfl) T.z_isinstance (pdv 2) (pcs_cons (by rfl) e_InvalidNumber.gC (pcs_cons (by rfl) e_InvalidRun.gC pcs_nil)) (by decide) e_InvalidNumber.gC (hl := by decide))))))) (pssd_one (psd_ret (pd_lst (pad_cons pd_str (pad_cons (pd_repr hg hr.units (by rfl) T.z_repr (pad_cons (pd_val T.xv (pdv 2)) pad_nil)) pad_nil))))) pssd_nil)
    (pssd_cons (psd_if (PWD.ptd (pwd_and (ptd_of (pd_isE T.errOk (by rfl) T.z_isinstance (by rfl) e_InvalidNumber.gC (pdv 2))) (pwd_and1 (ptd_not (ptd_of (pd_isEs T.errOk (by rfl) T.z_isinstance (pdv 2) (pcs_cons (by rfl) e_InvalidList.gC (pcs_cons (by rfl) e_InvalidRun.gC pcs_nil)) (by decide) e_InvalidList.gC (hl := by decide))))))) (pssd_one (psd_ret (pd_lst (pad_cons pd_str (pad_cons (pd_repr hg hr.units (by rfl) T.z_repr (pad_cons (pd_val T.xv (pdv 2)) pad_nil)) pad_nil))))) pssd_nil)
    (pssd_cons (psd_if (PWD.ptd (pwd_and (ptd_of (pd_isE T.errOk (by rfl) T.z_isinstance (by rfl) e_InvalidRun.gC (pdv 2))) (pwd_and1 (ptd_not (ptd_of (pd_isEs T.errOk (by rfl) T.z_isinstance (pdv 2) (pcs_cons (by rfl) e_InvalidList.gC (pcs_cons (by rfl) e_InvalidNumber.gC pcs_nil)) (by decide) e_InvalidList.gC (hl := by decide))))))) (pssd_one (psd_ret (pd_lst (pad_cons pd_str (pad_cons (pd_repr hg hr.units (by rfl) T.z_repr (pad_cons (pd_val T.xv (pdv 2)) pad_nil)) pad_nil))))) pssd_nil)
    (pssd_one (psd_ret (pd_lst (pad_cons pd_str (pad_cons pd_str pad_nil))))))))))⟩
theorem sc__law_refused : FnScope ["_law_bad", "_law_odds"] [] (defScope s__law_refused) := ⟨rfl, rfl, rfl, by decide +kernel, rfl, by decide +kernel, by decide +kernel⟩
theorem ok__law_refused (T : Txt P K mg) : Cal P w K mg base 8 "_law_refused" s__law_refused [] d__law_refused := by
  exact def_cal (k := 7) T.t__law_refused sc__law_refused rfl fun f cdv A outer s H E hg hr => ⟨_, (pssd_cons (psd_for ps_cx (by rfl) (pid_list (pd_lst (pad_cons pd_non (pad_cons (pd_tup pad_nil) (pad_cons (pd_tup (pad_cons pd_int pad_nil)) (pad_cons pd_str (pad_cons (pd_lst (pad_cons pd_bl pad_nil)) (pad_cons (pd_lst (pad_cons pd_str pad_nil)) (pad_cons (pd_lst (pad_cons (pd_lst (pad_cons pd_int pad_nil)) pad_nil)) (pad_cons (pd_lst (pad_cons pd_int (pad_cons pd_non (pad_cons (pd_tup (pad_cons pd_int pad_nil)) pad_nil)))) (pad_cons pd_int pad_nil))))))))))) (pgd_name (i := 0) sc__law_refused.nd (by rfl) (by first | exact .inl rfl | exact .inr rfl)) (pssd_one (psd_if (ptd_ne hr.units (pd_c (ok__law_caught T) hg (hr.mono (by decide)) (by rfl) tk_cx (pad_cons pd_int (pad_cons (pd_lst (pad_cons (pdv 0) (pad_cons pd_str (pad_cons pd_str pad_nil)))) pad_nil)) (len_cons (len_cons len0))) (pd_lst (pad_cons pd_str (pad_cons (pd_repr hg hr.units (by rfl) T.z_repr (pad_cons (pdv 0) pad_nil)) pad_nil)))) (pssd_one (psd_ret pd_bl)) pssd_nil)))
    (pssd_cons (psd_for ps_cx (by rfl) (pid_list (pd_lst (pad_cons pd_str (pad_cons pd_bl (pad_cons (pd_lst (pad_cons pd_int pad_nil)) (pad_cons (pd_tup (pad_cons pd_int pad_nil)) (pad_cons (pd_lst (pad_cons pd_non pad_nil)) pad_nil))))))) (pgd_name (i := 0) sc__law_refused.nd (by rfl) (by first | exact .inl rfl | exact .inr rfl)) (pssd_one (psd_if (ptd_ne hr.units (pd_c (ok__law_caught T) hg (hr.mono (by decide)) (by rfl) tk_cx (pad_cons pd_int (pad_cons (pd_lst (pad_cons (pd_lst (pad_cons pd_int (pad_cons pd_non pad_nil))) (pad_cons (pdv 0) (pad_cons pd_str pad_nil)))) pad_nil)) (len_cons (len_cons len0))) (pd_lst (pad_cons pd_str (pad_cons (pd_repr hg hr.units (by rfl) T.z_repr (pad_cons (pdv 0) pad_nil)) pad_nil)))) (pssd_one (psd_ret pd_bl)) pssd_nil)))
    (pssd_cons (psd_for ps_cx (by rfl) (pid_list (pd_lst (pad_cons pd_non (pad_cons pd_str (pad_cons pd_bl (pad_cons (pd_lst (pad_cons pd_int pad_nil)) pad_nil)))))) (pgd_name (i := 0) sc__law_refused.nd (by rfl) (by first | exact .inl rfl | exact .inr rfl)) (pssd_one (psd_if (ptd_ne hr.units (pd_c (ok__law_caught T) hg (hr.mono (by decide)) (by rfl) tk_cx (pad_cons pd_int (pad_cons (pd_lst (pad_cons (pd_lst (pad_cons pd_int pad_nil)) (pad_cons pd_int (pad_cons (pdv 0) pad_nil)))) pad_nil)) (len_cons (len_cons len0))) (pd_lst (pad_cons pd_str (pad_cons (pd_repr hg hr.units (by rfl) T.z_repr (pad_cons (pdv 0) pad_nil)) pad_nil)))) (pssd_one (psd_ret pd_bl)) pssd_nil)))
    (pssd_cons (psd_for ps_cx (by rfl) (pid_list (pd_lst (pad_cons pd_int (pad_cons (pd_neg pd_int) (pad_cons pd_non (pad_cons pd_bl (pad_cons pd_bl pad_nil))))))) (pgd_name (i := 0) sc__law_refused.nd (by rfl) (by first | exact .inl rfl | exact .inr rfl)) (pssd_one (psd_if (ptd_ne hr.units (pd_c (ok__law_caught T) hg (hr.mono (by decide)) (by rfl) tk_cx (pad_cons pd_int (pad_cons (pd_lst (pad_cons (pd_lst (pad_cons pd_int pad_nil)) (pad_cons pd_non (pad_cons (pdv 0) pad_nil)))) pad_nil)) (len_cons (len_cons len0))) (pd_lst (pad_cons pd_str (pad_cons (pd_repr hg hr.units (by rfl) T.z_repr (pad_cons (pdv 0) pad_nil)) pad_nil)))) (pssd_one (psd_ret pd_bl)) pssd_nil)))
    (pssd_cons (psd_set (i := 1) sc__law_refused.nd (by rfl) (by first | exact .inl rfl | exact .inr rfl) (pd_lst (pad_cons pd_non (pad_cons pd_int (pad_cons (pd_lst pad_nil) (pad_cons (pd_tup (pad_cons (pd_lst pad_nil) (pad_cons pd_int pad_nil))) (pad_cons (pd_tup (pad_cons (pd_lst pad_nil) (pad_cons pd_int (pad_cons pd_int (pad_cons pd_int pad_nil))))) (pad_cons (pd_lst (pad_cons (pd_lst pad_nil) (pad_cons pd_int (pad_cons pd_int pad_nil)))) (pad_cons (pd_tup (pad_cons (pd_tup pad_nil) (pad_cons pd_int (pad_cons pd_int pad_nil)))) (pad_cons (pd_tup (pad_cons (pd_lst pad_nil) (pad_cons pd_bl (pad_cons pd_int pad_nil)))) (pad_cons (pd_tup (pad_cons (pd_lst pad_nil) (pad_cons pd_int (pad_cons pd_bl pad_nil)))) (pad_cons (pd_tup (pad_cons (pd_lst pad_nil) (pad_cons pd_non (pad_cons pd_int pad_nil)))) pad_nil))))))))))))
    (pssd_cons (psd_for ps_cx (by rfl) (pid_list (pd_add (pdv 1) (pd_lst (pad_cons (pd_tup (pad_cons (pd_lst pad_nil) (pad_cons pd_non (pad_cons pd_bl pad_nil)))) (pad_cons (pd_tup (pad_cons (pd_lst (pad_cons pd_bl pad_nil)) (pad_cons pd_int (pad_cons pd_int pad_nil)))) (pad_cons (pd_tup (pad_cons (pd_lst (pad_cons pd_non pad_nil)) (pad_cons pd_non (pad_cons pd_int pad_nil)))) (pad_cons (pd_tup (pad_cons (pd_lst (pad_cons pd_int (pad_cons pd_int pad_nil))) (pad_cons pd_int (pad_cons pd_int pad_nil)))) (pad_cons (pd_tup (pad_cons (pd_lst (pad_cons pd_int pad_nil)) (pad_cons pd_int (pad_cons pd_int pad_nil)))) (pad_cons (pd_tup (pad_cons pd_str (pad_cons pd_int (pad_cons pd_int pad_nil)))) pad_nil))))))))) (pgd_name (i := 0) sc__law_refused.nd (by rfl) (by first | exact .inl rfl | exact .inr rfl)) (pssd_one (psd_if (PWD.ptd (pwd_or (ptd_isNot (pd_c (ok_is_run T) hg (hr.mono (by decide)) (by rfl) tk_cx (pad_cons (pdv 0) pad_nil) (len_cons len0)) pd_bl) (pwd_or1 (ptd_ne hr.units (pd_c (ok__law_caught T) hg (hr.mono (by decide)) (by rfl) tk_cx (pad_cons pd_int (pad_cons (pd_lst (pad_cons (pdv 0) (pad_cons pd_non pad_nil))) pad_nil)) (len_cons (len_cons len0))) (pd_lst (pad_cons pd_str (pad_cons (pd_repr hg hr.units (by rfl) T.z_repr (pad_cons (pdv 0) pad_nil)) pad_nil))))))) (pssd_one (psd_ret pd_bl)) pssd_nil)))
    (pssd_cons (psd_for ps_cx (by rfl) (pid_list (pd_lst (pad_cons pd_non (pad_cons (pd_neg pd_int) (pad_cons pd_bl (pad_cons pd_str (pad_cons (pd_lst (pad_cons pd_int pad_nil)) pad_nil))))))) (pgd_name (i := 0) sc__law_refused.nd (by rfl) (by first | exact .inl rfl | exact .inr rfl)) (pssd_one (psd_if (ptd_ne hr.units (pd_c (ok__law_caught T) hg (hr.mono (by decide)) (by rfl) tk_cx (pad_cons pd_int (pad_cons (pd_lst (pad_cons (pd_tup (pad_cons (pd_lst (pad_cons pd_non (pad_cons pd_int pad_nil))) (pad_cons pd_int (pad_cons (pd_neg pd_int) pad_nil)))) (pad_cons (pdv 0) pad_nil))) pad_nil)) (len_cons (len_cons len0))) (pd_lst (pad_cons pd_str (pad_cons (pd_repr hg hr.units (by rfl) T.z_repr (pad_cons (pdv 0) pad_nil)) pad_nil)))) (pssd_one (psd_ret pd_bl)) pssd_nil)))
    (pssd_one (psd_ret pd_bl)))))))))⟩
theorem sc_law : FnScope ["_law_script", "_law_index", "_law_generator_here", "_law_told"] ["_law_script"] (defScope s_law) := ⟨rfl, rfl, rfl, by decide +kernel, rfl, by decide +kernel, by decide +kernel⟩
theorem ok_law (T : Txt P K mg) : Cal P w K mg base 9 "law" s_law ["_law_script"] d_law := by
  exact def_cal (k := 8) T.t_law sc_law rfl fun f cdv A outer s H E hg hr => ⟨_, (pssd_cons (psd_for ps_cx (by rfl) (pid_range1 (by rfl) T.z_range (pad_cons pd_int pad_nil)) (pgd_name (i := 1) sc_law.nd (by rfl) (by first | exact .inl rfl | exact .inr rfl)) (pssd_frz (pssd_cons (psd_set (i := 2) sc_law.nd (by rfl) (by first | exact .inl rfl | exact .inr rfl) (pd_c (ok_c__law_generator T) hg (hr.mono (by decide)) (by rfl) tk_cx (pad_cons (pdv 0) (pad_cons (pdv 1) pad_nil)) (len_cons (len_cons len0))))
    (pssd_one (psd_if (ptd_not (ptd_of (pd_c (ok__law_least_good T) hg (hr.mono (by decide)) (by rfl) tk_cx (pad_cons (pdv 2) (pad_cons (pd_c (ok__law_raw_run T) hg (hr.mono (by decide)) (by rfl) tk_cx (pad_cons (pdv 2) (pad_cons pd_int pad_nil)) (len_cons (len_cons len0))) pad_nil)) (len_cons (len_cons len0))))) (pssd_one (psd_ret pd_bl)) pssd_nil)))))
    (pssd_cons (psd_set (i := 3) sc_law.nd (by rfl) (by first | exact .inl rfl | exact .inr rfl) (pd_lst (pad_cons (pd_c (ok_least_run T) hg (hr.mono (by decide)) (by rfl) tk_cx (pad_cons (pd_lst (pad_cons pd_non (pad_cons pd_int (pad_cons pd_int pad_nil)))) (pad_cons pd_int (pad_cons pd_int pad_nil))) (len_cons (len_cons (len_cons len0)))) (pad_cons (pd_c (ok_least_run T) hg (hr.mono (by decide)) (by rfl) tk_cx (pad_cons (pd_lst (pad_cons pd_non (pad_cons pd_non pad_nil))) (pad_cons pd_non (pad_cons pd_int pad_nil))) (len_cons (len_cons (len_cons len0)))) (pad_cons (pd_c (ok_least_run T) hg (hr.mono (by decide)) (by rfl) tk_cx (pad_cons (pd_lst pad_nil) (pad_cons pd_int (pad_cons pd_int pad_nil))) (len_cons (len_cons (len_cons len0)))) (pad_cons (pd_c (ok_least_run T) hg (hr.mono (by decide)) (by rfl) tk_cx (pad_cons (pd_lst (pad_cons pd_int (pad_cons pd_int pad_nil))) (pad_cons pd_int (pad_cons pd_int pad_nil))) (len_cons (len_cons (len_cons len0)))) pad_nil))))))
    (pssd_cons (psd_if (ptd_ne hr.units (pd_repr hg hr.units (by rfl) T.z_repr (pad_cons (pdv 3) pad_nil)) (pd_repr hg hr.units (by rfl) T.z_repr (pad_cons (pd_lst (pad_cons (pd_tup (pad_cons (pd_lst (pad_cons pd_non pad_nil)) (pad_cons pd_int (pad_cons pd_int pad_nil)))) (pad_cons (pd_tup (pad_cons (pd_lst pad_nil) (pad_cons pd_non (pad_cons pd_int pad_nil)))) (pad_cons (pd_tup (pad_cons (pd_lst pad_nil) (pad_cons pd_int (pad_cons pd_int pad_nil)))) (pad_cons (pd_tup (pad_cons (pd_lst pad_nil) (pad_cons pd_int (pad_cons pd_int pad_nil)))) pad_nil))))) pad_nil))) (pssd_one (psd_ret pd_bl)) pssd_nil)
    (pssd_one (psd_ret (pd_and (pd_is (pd_ck (ks := ["value"]) (o := [0]) (ok_is_run T) hg (hr.mono (by decide)) (by rfl) tk_cx (fun _ _ _ _ _ _ ws hl => match ws, hl with | [_], _ => rfl) (pkd_cons (pd_tup (pad_cons (pd_lst pad_nil) (pad_cons (pd_neg pd_int) (pad_cons pd_int pad_nil)))) pkd_nil) (fun env m as m1 h => by have hl := (len_cons len0) env m as m1 h; match as, hl with | [_], _ => exact ⟨rfl, rfl⟩)) pd_bl) (pd_and (pd_eq hr.units (pd_ck (ks := ["number", "run"]) (o := [1, 0]) (ok_run_value T) hg (hr.mono (by decide)) (by rfl) tk_cx (fun _ _ _ _ _ _ ws hl => match ws, hl with | [_, _], _ => rfl) (pkd_cons pd_int (pkd_cons (pd_tup (pad_cons (pd_lst (pad_cons pd_int pad_nil)) (pad_cons pd_int (pad_cons (pd_neg pd_int) pad_nil)))) pkd_nil)) (fun env m as m1 h => by have hl := (len_cons (len_cons len0)) env m as m1 h; match as, hl with | [_, _], _ => exact ⟨rfl, rfl⟩)) (pd_neg pd_int)) (pd_one (pd_c0 (ok__law_refused T) hg (hr.mono (by decide)) (by rfl) tk_cx)))))))))⟩
end
end K46
-- levels: {'is_whole': 1, 'is_between': 2, 'check_number': 3, 'is_worth': 2, 'are_worths': 3, 'is_slope': 2, 'step_back': 1, 'shortened': 2, 'is_run': 4, 'check_run': 5, 'least_run': 4, 'value_of': 1, 'run_value': 6, '_law_hash': 1, '_law_generator': 1, '_law_random': 2, '_law_back': 1, '_law_value': 1, '_law_worth': 3, '_law_raw_run': 4, '_law_whole': 1, '_law_is_least': 2, '_law_least_good': 7, '_law_caught': 7, '_law_refused': 8, 'law': 9}
end

section
set_option Elab.async false
set_option linter.all false
set_option maxRecDepth 100000
set_option maxHeartbeats 4000000
/-! DX17: plain data: their repr, their equality with themselves. -/
namespace DX
open PySem PySem.Spec L2
def okS (x : Str) : Prop := PyData.canLay0 (.str x) = true
theorem okS_iff (x : Str) : okS x ↔ ∀ c ∈ x.cps, c < 0x110000 := by
  show x.cps.all (fun c => decide (c < 0x110000)) = true ↔ _
  rw [Array.all_eq_true']
  simp
theorem okS_append {x y : Str} (h : okS x) (h2 : okS y) : okS (x ++ y) := by
  rw [okS_iff] at *
  intro c hc
  have : c ∈ x.cps ++ y.cps := hc
  rcases Array.mem_append.mp this with q | q
  · exact h c q
  · exact h2 c q
theorem ofString_len (s : String) : (Str.ofString s).length = s.length := by
  rw [Str.ofString_eq_toList]
  show (s.toList.map Char.toNat).toArray.size = _
  rw [List.size_toArray, List.length_map]
  rfl
theorem okS_of (s : String) : okS (Str.ofString s) := by
  rw [okS_iff, Str.ofString_eq_toList]
  intro c hc
  have h : c ∈ (s.toList.map Char.toNat).toArray := hc
  obtain ⟨ch, _, rfl⟩ := List.mem_map.mp (List.mem_toArray.mp h)
  have v := ch.valid
  have e : ch.toNat = ch.val.toNat := rfl
  rcases v with v | v
  · rw [e]
    have : ch.val.toNat < 0xd800 := v
    omega
  · rw [e]
    have : ch.val.toNat < 0x110000 := v.2
    omega
theorem okS_text : ∀ (ts : List Str) (k : Nat) (acc : Str), okS acc → (∀ t ∈ ts, okS t) → okS (textFrom k acc ts)
  | [], _, _, h, _ => h
  | t :: ts, k, acc, h, hs => okS_text ts (k + 1) _ (okS_append (okS_append h (okS_of _)) (hs t List.mem_cons_self)) fun u hu => hs u (List.mem_cons_of_mem _ hu)
theorem okS_join : ∀ ts : List Str, (∀ t ∈ ts, okS t) → okS (Str.join ", " ts)
  | [], _ => okS_of ""
  | [x], h => h x List.mem_cons_self
  | x :: y :: r, h => by
    show okS (x ++ ", " ++ Str.join ", " (y :: r))
    exact okS_append (okS_append (h x List.mem_cons_self) (okS_of ", ")) (okS_join (y :: r) fun t ht => h t (List.mem_cons_of_mem _ ht))
mutual
/-- plain data, ints of less than b bits -/
def D.nice (b : Nat) : D → Prop
  | .non => True
  | .bl _ => True
  | .int i => i.natAbs < 2 ^ b
  | .str s => okS s ∧ okS (reprText s) ∧ (reprText s).length ≤ 10 * s.length + 2
  | .lst xs => D.nices b xs
  | .tup xs => D.nices b xs
  | .exn _ _ => False
  | .mr _ => False
  | .scr _ => False
def D.nices (b : Nat) : List D → Prop
  | [] => True
  | x :: xs => x.nice b ∧ D.nices b xs
end
mutual
/-- signs of its repr, at most -/
def D.sz (b : Nat) : D → Nat
  | .non => 4
  | .bl _ => 5
  | .int _ => b + 2
  | .str s => 10 * s.length + 2
  | .lst xs => 2 + D.szs b xs
  | .tup xs => 3 + D.szs b xs
  | .exn _ _ => 0
  | .mr _ => 0
  | .scr _ => 0
def D.szs (b : Nat) : List D → Nat
  | [] => 0
  | x :: xs => x.sz b + 2 + D.szs b xs
end
mutual
def D.dep : D → Nat
  | .lst xs => D.deps xs + 1
  | .tup xs => D.deps xs + 1
  | _ => 0
def D.deps : List D → Nat
  | [] => 0
  | x :: xs => max x.dep (D.deps xs)
end
theorem textFrom_sum : ∀ (ts : List Str) (k : Nat) (acc : Str), (textFrom k acc ts).length ≤ acc.length + (ts.map fun t => t.length + 2).sum
  | [], _, acc => Nat.le_refl _
  | t :: ts, k, acc => by
    have ih := textFrom_sum ts (k + 1) (acc ++ (if k > 0 then ", " else "" : String) ++ t)
    have e : (acc ++ (if k > 0 then ", " else "" : String) ++ t).length = acc.length + (if k > 0 then 2 else 0) + t.length := by
      rw [strLen_append, strLen_append]
      split <;> rfl
    have hle : (if k > 0 then 2 else 0) ≤ 2 := by split <;> omega
    rw [e] at ih
    show (textFrom (k + 1) (acc ++ (if k > 0 then ", " else "" : String) ++ t) ts).length ≤ _
    rw [List.map_cons, List.sum_cons]
    omega
theorem join_sum : ∀ ts : List Str, (Str.join ", " ts).length ≤ (ts.map fun t => t.length + 2).sum
  | [] => Nat.zero_le _
  | [x] => by show x.length ≤ (x.length + 2) + 0; omega
  | x :: y :: r => by
    have ih := join_sum (y :: r)
    show (x ++ ", " ++ Str.join ", " (y :: r)).length ≤ _
    rw [strLen_append, strLen_append, List.map_cons, List.sum_cons]
    have : ((", " : String) : Str).length = 2 := rfl
    omega
mutual
theorem D.nice_pure {b : Nat} : ∀ {d : D}, d.nice b → d.pure = true
  | .non, _ => rfl
  | .bl _, _ => rfl
  | .int _, _ => rfl
  | .str _, _ => rfl
  | .lst xs, h => D.nices_pure (show D.nices b xs from h)
  | .tup xs, h => D.nices_pure (show D.nices b xs from h)
  | .exn _ _, h => False.elim h
  | .mr _, h => False.elim h
  | .scr _, h => False.elim h
theorem D.nices_pure {b : Nat} : ∀ {ds : List D}, D.nices b ds → D.pures ds = true
  | [], _ => rfl
  | d :: ds, h => by
    have h : d.nice b ∧ D.nices b ds := h
    show (d.pure && D.pures ds) = true
    rw [D.nice_pure h.1, D.nices_pure h.2]
    rfl
end
mutual
theorem D.nice_noMr {b : Nat} : ∀ {d : D}, d.nice b → d.noMr = true
  | .non, _ => rfl
  | .bl _, _ => rfl
  | .int _, _ => rfl
  | .str _, _ => rfl
  | .lst xs, h => D.nices_noMr (show D.nices b xs from h)
  | .tup xs, h => D.nices_noMr (show D.nices b xs from h)
  | .exn _ _, h => False.elim h
  | .mr _, h => False.elim h
  | .scr _, h => False.elim h
theorem D.nices_noMr {b : Nat} : ∀ {ds : List D}, D.nices b ds → D.noMrs ds = true
  | [], _ => rfl
  | d :: ds, h => by
    have h : d.nice b ∧ D.nices b ds := h
    show (d.noMr && D.noMrs ds) = true
    rw [D.nice_noMr h.1, D.nices_noMr h.2]
    rfl
end
mutual
theorem D.nice_lay {b : Nat} : ∀ {d : D}, d.nice b → PyData.canLay0 d.py = true
  | .non, _ => by show PyData.canLay0 .none = true; unfold PyData.canLay0; rfl
  | .bl _, _ => by show PyData.canLay0 (.bool _) = true; unfold PyData.canLay0; rfl
  | .int _, _ => by show PyData.canLay0 (.int _) = true; unfold PyData.canLay0; rfl
  | .str s, h => (show okS s ∧ _ from h).1
  | .lst xs, h => by
    show PyData.canLay0 (.list (D.pys xs)) = true
    unfold PyData.canLay0
    exact D.nices_lay (show D.nices b xs from h)
  | .tup xs, h => by
    show PyData.canLay0 (.tuple (D.pys xs)) = true
    unfold PyData.canLay0
    exact D.nices_lay (show D.nices b xs from h)
  | .exn _ _, h => False.elim h
  | .mr _, h => False.elim h
  | .scr _, h => False.elim h
theorem D.nices_lay {b : Nat} : ∀ {ds : List D}, D.nices b ds → PyData.canLayAll0 (D.pys ds) = true
  | [], _ => by show PyData.canLayAll0 [] = true; unfold PyData.canLayAll0; rfl
  | d :: ds, h => by
    have h : d.nice b ∧ D.nices b ds := h
    show PyData.canLayAll0 (d.py :: D.pys ds) = true
    unfold PyData.canLayAll0
    rw [D.nice_lay h.1, D.nices_lay h.2]
    rfl
end
mutual
theorem D.dep_py : ∀ d : D, d.py.depth = d.dep
  | .non => rfl
  | .bl _ => rfl
  | .int _ => rfl
  | .str _ => rfl
  | .lst xs => by
    show PyData.depth (.list (D.pys xs)) = D.deps xs + 1
    unfold PyData.depth
    rw [D.deps_py xs]
  | .tup xs => by
    show PyData.depth (.tuple (D.pys xs)) = D.deps xs + 1
    unfold PyData.depth
    rw [D.deps_py xs]
  | .exn _ _ => rfl
  | .mr _ => rfl
  | .scr _ => rfl
theorem D.deps_py : ∀ ds : List D, PyData.depthAll (D.pys ds) = D.deps ds
  | [] => by show PyData.depthAll [] = 0; unfold PyData.depthAll; rfl
  | d :: ds => by
    show PyData.depthAll (d.py :: D.pys ds) = max d.dep (D.deps ds)
    unfold PyData.depthAll
    rw [D.dep_py d, D.deps_py ds]
end
mutual
theorem D.nice_show {b : Nat} (hb : b < 1900) : ∀ {d : D}, d.nice b → d.py.showable = true ∧ d.py.hasDict = false ∧ d.py.shown.length ≤ d.sz b ∧ okS d.py.shown
  | .non, _ => ⟨by show PyData.showable .none = true; unfold PyData.showable; rfl, by show PyData.hasDict .none = false; unfold PyData.hasDict; rfl, by show (PyData.shown .none).length ≤ 4; unfold PyData.shown; exact Nat.le_refl _, by show okS (PyData.shown .none); unfold PyData.shown; exact okS_of "None"⟩
  | .bl k, _ => ⟨by show PyData.showable (.bool _) = true; unfold PyData.showable; rfl, by show PyData.hasDict (.bool _) = false; unfold PyData.hasDict; rfl, by show (PyData.shown (.bool k)).length ≤ 5; unfold PyData.shown; cases k <;> decide, by show okS (PyData.shown (.bool k)); unfold PyData.shown; cases k <;> exact okS_of _⟩
  | .int i, h => by
    have h : i.natAbs < 2 ^ b := h
    have hl : i.natAbs.log2 < b + 1 := by
      by_cases z : i.natAbs = 0
      · rw [z]
        show Nat.log2 0 < b + 1
        rw [Nat.log2_zero]
        omega
      · exact Nat.lt_succ_of_lt ((Nat.log2_lt z).mpr h)
    refine ⟨?_, by show PyData.hasDict (.int _) = false; unfold PyData.hasDict; rfl, ?_, ?_⟩
    · show PyData.showable (.int i) = true
      unfold PyData.showable
      exact decide_eq_true (by omega)
    · show (PyData.shown (.int i)).length ≤ b + 2
      unfold PyData.shown
      have := int_text_length_le (a := i) (k := b + 1) (Nat.succ_pos _) hl
      show (Str.ofString (toString i)).length ≤ b + 2
      rw [ofString_len]
      exact this
    · show okS (PyData.shown (.int i))
      unfold PyData.shown
      exact okS_of _
  | .str s, h => by
    have h : okS s ∧ okS (reprText s) ∧ (reprText s).length ≤ 10 * s.length + 2 := h
    refine ⟨by show PyData.showable (.str _) = true; unfold PyData.showable; rfl, by show PyData.hasDict (.str _) = false; unfold PyData.hasDict; rfl, ?_, ?_⟩
    · show (PyData.shown (.str s)).length ≤ _
      unfold PyData.shown
      exact h.2.2
    · show okS (PyData.shown (.str s))
      unfold PyData.shown
      exact h.2.1
  | .lst xs, h => by
    obtain ⟨h1, h2, h3, h4⟩ := D.nices_show hb (show D.nices b xs from h)
    refine ⟨?_, ?_, ?_, ?_⟩
    · show PyData.showable (.list (D.pys xs)) = true
      unfold PyData.showable
      exact h1
    · show PyData.hasDict (.list (D.pys xs)) = false
      unfold PyData.hasDict
      exact h2
    · show (PyData.shown (.list (D.pys xs))).length ≤ 2 + D.szs b xs
      unfold PyData.shown
      show (textFrom 0 "[" (PyData.shownAll (D.pys xs)) ++ "]" : Str).length ≤ _
      have := textFrom_sum (PyData.shownAll (D.pys xs)) 0 "["
      rw [strLen_append]
      have e1 : (("[" : String) : Str).length = 1 := rfl
      have e2 : (("]" : String) : Str).length = 1 := rfl
      omega
    · show okS (PyData.shown (.list (D.pys xs)))
      unfold PyData.shown
      exact okS_append (okS_text _ _ _ (okS_of "[") h4) (okS_of "]")
  | .tup xs, h => by
    obtain ⟨h1, h2, h3, h4⟩ := D.nices_show hb (show D.nices b xs from h)
    refine ⟨?_, ?_, ?_, ?_⟩
    · show PyData.showable (.tuple (D.pys xs)) = true
      unfold PyData.showable
      exact h1
    · show PyData.hasDict (.tuple (D.pys xs)) = false
      unfold PyData.hasDict
      exact h2
    · show (PyData.shown (.tuple (D.pys xs))).length ≤ 3 + D.szs b xs
      unfold PyData.shown
      show (("(" : Str) ++ Str.join ", " (PyData.shownAll (D.pys xs)) ++ (if (PyData.shownAll (D.pys xs)).length == 1 then ",)" else ")" : String)).length ≤ _
      have := join_sum (PyData.shownAll (D.pys xs))
      rw [strLen_append, strLen_append]
      have e1 : (("(" : String) : Str).length = 1 := rfl
      have e2 : (((if (PyData.shownAll (D.pys xs)).length == 1 then ",)" else ")" : String)) : Str).length ≤ 2 := by split <;> decide
      omega
    · show okS (PyData.shown (.tuple (D.pys xs)))
      unfold PyData.shown
      exact okS_append (okS_append (okS_of "(") (okS_join _ h4)) (okS_of _)
  | .exn _ _, h => False.elim h
  | .mr _, h => False.elim h
  | .scr _, h => False.elim h
theorem D.nices_show {b : Nat} (hb : b < 1900) : ∀ {ds : List D}, D.nices b ds → PyData.showableAll (D.pys ds) = true ∧ PyData.hasDictAll (D.pys ds) = false ∧ ((PyData.shownAll (D.pys ds)).map fun t => t.length + 2).sum ≤ D.szs b ds ∧ ∀ t ∈ PyData.shownAll (D.pys ds), okS t
  | [], _ => ⟨by show PyData.showableAll [] = true; unfold PyData.showableAll; rfl, by show PyData.hasDictAll [] = false; unfold PyData.hasDictAll; rfl, by show ((PyData.shownAll []).map _).sum ≤ 0; unfold PyData.shownAll; exact Nat.le_refl _, fun t ht => by
      have : t ∈ PyData.shownAll [] := ht
      unfold PyData.shownAll at this
      cases this⟩
  | d :: ds, h => by
    have h : d.nice b ∧ D.nices b ds := h
    obtain ⟨a1, a2, a3, a4⟩ := D.nice_show hb h.1
    obtain ⟨b1, b2, b3, b4⟩ := D.nices_show hb h.2
    have e : PyData.shownAll (D.pys (d :: ds)) = d.py.shown :: PyData.shownAll (D.pys ds) := by
      show PyData.shownAll (d.py :: D.pys ds) = _
      rw [PyData.shownAll]
    refine ⟨?_, ?_, ?_, fun t ht => ?_⟩
    · show PyData.showableAll (d.py :: D.pys ds) = true
      unfold PyData.showableAll
      rw [a1, b1]
      rfl
    · show PyData.hasDictAll (d.py :: D.pys ds) = false
      unfold PyData.hasDictAll
      rw [a2, b2]
      rfl
    · rw [e, List.map_cons, List.sum_cons]
      show _ ≤ d.sz b + 2 + D.szs b ds
      omega
    · rw [e] at ht
      rcases List.mem_cons.mp ht with rfl | ht
      · exact a4
      · exact b4 t ht
end
mutual
theorem D.eqv_refl {b : Nat} : ∀ {d : D}, d.nice b → PyData.eqv d.py d.py = true
  | .non, _ => by show PyData.eqv .none .none = true; unfold PyData.eqv; rfl
  | .bl k, _ => by show PyData.eqv (.bool k) (.bool k) = true; unfold PyData.eqv; simp
  | .int i, _ => by show PyData.eqv (.int i) (.int i) = true; unfold PyData.eqv; simp
  | .str s, _ => by show PyData.eqv (.str s) (.str s) = true; unfold PyData.eqv; simp
  | .lst xs, h => by
    show PyData.eqv (.list (D.pys xs)) (.list (D.pys xs)) = true
    unfold PyData.eqv
    exact D.eqvs_refl (show D.nices b xs from h)
  | .tup xs, h => by
    show PyData.eqv (.tuple (D.pys xs)) (.tuple (D.pys xs)) = true
    unfold PyData.eqv
    exact D.eqvs_refl (show D.nices b xs from h)
  | .exn _ _, h => False.elim h
  | .mr _, h => False.elim h
  | .scr _, h => False.elim h
theorem D.eqvs_refl {b : Nat} : ∀ {ds : List D}, D.nices b ds → PyData.eqvAll (D.pys ds) (D.pys ds) = true
  | [], _ => by show PyData.eqvAll [] [] = true; unfold PyData.eqvAll; rfl
  | d :: ds, h => by
    have h : d.nice b ∧ D.nices b ds := h
    show PyData.eqvAll (d.py :: D.pys ds) (d.py :: D.pys ds) = true
    unfold PyData.eqvAll
    rw [D.eqv_refl h.1, D.eqvs_refl h.2]
    rfl
end
section
variable {b : Nat} {d : D}
theorem nice_repr (hb : b < 1900) (h : d.nice b) (hd : d.dep ≤ 60) (hs : d.sz b ≤ 16777216) : gRepr [d] = some (.str d.py.shown) := by
  obtain ⟨h1, h2, h3, h4⟩ := D.nice_show hb h
  unfold gRepr
  dsimp only
  rw [if_pos ⟨D.nice_pure h, h1, h2, by rw [D.dep_py]; omega, size_le (Nat.le_trans h3 hs)⟩]
theorem nice_shaped (h : d.nice b) (hd : d.dep ≤ 60) : shapedD d = true := by
  show (d.pure && (PyData.canLay0 d.py && decide (d.py.depth ≤ 64))) = true
  rw [D.nice_pure h, D.nice_lay h, D.dep_py, decide_eq_true (show d.dep ≤ 64 by omega)]
  rfl
theorem nice_eq (h : d.nice b) (hd : d.dep ≤ 60) : gEq d d = some (.bl true) := by
  unfold gEq
  rw [if_pos ⟨nice_shaped h hd, nice_shaped h hd⟩]
  unfold eqD
  rw [D.eqv_refl h]
theorem nice_ne (h : d.nice b) (hd : d.dep ≤ 60) : gNe d d = some (.bl false) := by
  unfold gNe
  rw [if_pos ⟨nice_shaped h hd, nice_shaped h hd⟩]
  unfold eqD
  rw [D.eqv_refl h]
  rfl
theorem str_shaped {s : Str} (h : okS s) : shapedD (.str s) = true := by
  show (true && (PyData.canLay0 (.str s) && decide (0 ≤ 64))) = true
  rw [show PyData.canLay0 (.str s) = true from h]
  rfl
theorem str_eq {s : Str} (h : okS s) : gEq (.str s) (.str s) = some (.bl true) := by
  unfold gEq
  rw [if_pos ⟨str_shaped h, str_shaped h⟩]
  have : eqD (.str s) (.str s) = true := by
    show (s == s) = true
    simp
  rw [this]
theorem str_ne {s : Str} (h : okS s) : gNe (.str s) (.str s) = some (.bl false) := by
  unfold gNe
  rw [if_pos ⟨str_shaped h, str_shaped h⟩]
  have : eqD (.str s) (.str s) = true := by
    show (s == s) = true
    simp
  rw [this]
  rfl
/-- repr(a) != repr(b), of the same datum -/
theorem repr_ne (hb : b < 1900) (h : d.nice b) (hd : d.dep ≤ 60) (hs : d.sz b ≤ 16777216) : ∃ s, gRepr [d] = some (.str s) ∧ gNe (.str s) (.str s) = some (.bl false) ∧ gEq (.str s) (.str s) = some (.bl true) :=
  ⟨_, nice_repr hb h hd hs, str_ne (D.nice_show hb h).2.2.2, str_eq (D.nice_show hb h).2.2.2⟩
end
end DX
end

section
set_option Elab.async false
set_option linter.all false
set_option maxRecDepth 100000
set_option maxHeartbeats 4000000
/-! LG: the laws' own draws: the hash, a draw below a bound. -/
namespace LG
open PySem DX
theorem setIx_ok {f fo fi : DE} {e : DEnv} {m m1 m2 m3 : DMem} {a : D} {k n : Nat} {j : Int} {es : List D} (h1 : f e m = .ok a m1) (h2 : fo e m1 = .ok (.mr k) m2) (h3 : fi e m2 = .ok (.int j) m3) (hc : cellAt k m3 = some es) (hj : L2.ixN es.length j = some n) (ha : a.noMr = true) : dSetIx f fo fi e m = .nx e (m3.set k (some (es.set n a))) := by
  unfold dSetIx
  rw [h1]
  show (fo e m1).to e _ = _
  rw [h2]
  show (fi e m2).to e _ = _
  rw [h3]
  show (match cellAt k m3 with | some es => _ | none => _) = _
  rw [hc]
  dsimp only
  rw [hj]
  dsimp only
  rw [if_pos ha]
theorem raw_ok {g : D → Option D} {f : DE} {e : DEnv} {m m1 : DMem} {a z : D} (h : f e m = .ok a m1) (hz : g a = some z) : dRaw g f e m = .ok z m1 := by
  unfold dRaw
  rw [h]
  show (match g a with | some z => _ | none => _) = _
  rw [hz]
theorem gMul_nat {i j a b : Nat} (ha : i < 2 ^ a) (hb : j < 2 ^ b) (h : a + b ≤ 134217728) : gMul (.int (i : Int)) (.int (j : Int)) = some (.int ((i * j : Nat) : Int)) := by
  have c : (Builtin.Int.intBits (i : Int) : Int) + (Builtin.Int.intBits (j : Int) : Int) ≤ 134217728 := L2.mulx_ok (by rw [Int.natAbs_natCast]; exact ha) (by rw [Int.natAbs_natCast]; exact hb) h
  unfold gMul
  dsimp only
  rw [if_pos c]
  rfl
theorem gAdd_nat (i j : Nat) : gAdd (.int (i : Int)) (.int (j : Int)) = some (.int ((i + j : Nat) : Int)) := rfl
theorem gInt_int (i : Int) : gInt [.int i] = some (.int i) := rfl
/-- the cell of the draws -/
def gc (a : Int) (b c : Nat) (r : DMem) : DMem := some [.int a, .int (b : Int), .int (c : Int)] :: r
/-- a hash that gives small numbers -/
def HashOk (Hh : List D → DMem → XO D) : Prop := ∀ (s i : Nat) (m : DMem), s < 2 ^ 31 → i < 2 ^ 20 → ∃ h : Nat, h < 2147483647 ∧ Hh [.int (s : Int), .int (i : Int)] m = .ok (.int (h : Int)) m
def bRandom (Hh : List D → DMem → XO D) : DS := (dSeq (dIfS (dTest (dOp gGt (dOpq gIx (dVar 0) (dK (.int 0))) (dK (.int 0)))) (dSeq (dSet 2 (dOp gMod (dB gInt (dCons (dOpq gIx (dVar 0) (dK (.int 0))) dNil)) (dVar 1)))
    (dSeq (dSetIx (dOp gFdv (dOpq gIx (dVar 0) (dK (.int 0))) (dVar 1)) (dVar 0) (dK (.int 0)))
    (dRet (dVar 2)))) dNext)
    (dSeq (dSet 2 (dK (.int 0)))
    (dSeq (dFor (dRng1 (dCons (dOp gAdd (dK (.int 1)) (dOp gFdv (dRaw gBits (dVar 1)) (dK (.int 30)))) dNil)) (dgName 3) (dSeq (dSetIx (dOp gAdd (dOpq gIx (dVar 0) (dK (.int 2))) (dK (.int 1))) (dVar 0) (dK (.int 2)))
    (dSet 2 (dOp gAdd (dOp gMul (dVar 2) (dK (.int 2147483587))) (dCall Hh (dCons (dOpq gIx (dVar 0) (dK (.int 1))) (dCons (dOpq gIx (dVar 0) (dK (.int 2))) dNil)))))))
    (dRet (dOp gMod (dB gInt (dCons (dVar 2) dNil)) (dVar 1))))))
def dRandom (Hh : List D → DMem → XO D) : List D → DMem → XO D := dDef 4 (bRandom Hh) false
theorem ix_gc {a : Int} {b c : Nat} {r : DMem} {e : DEnv} (h : e[0]? = some (some (.mr 0))) : dOpq gIx (dVar 0) (dK (.int 0)) e (gc a b c r) = .ok (.int a) (gc a b c r) ∧ dOpq gIx (dVar 0) (dK (.int 1)) e (gc a b c r) = .ok (.int (b : Int)) (gc a b c r) ∧ dOpq gIx (dVar 0) (dK (.int 2)) e (gc a b c r) = .ok (.int (c : Int)) (gc a b c r) :=
  ⟨opq_ok (var_ok h) (k_ok (d := .int 0)) rfl rfl rfl, opq_ok (var_ok h) (k_ok (d := .int 1)) rfl rfl rfl, opq_ok (var_ok h) (k_ok (d := .int 2)) rfl rfl rfl⟩
/-- A DRAW: below the bound; the cell goes on -/
theorem random_ok {Hh : List D → DMem → XO D} (hH : HashOk Hh) (B : Nat) (hB : 0 < B) (hb : Builtin.Int.intBits (B : Int) ≤ 300) (a : Int) (b c : Nat) (r : DMem) (h1 : b < 2 ^ 31) (h2 : c + 20 < 2 ^ 20) :
    ∃ (x : Nat) (a' : Int) (c' : Nat), x < B ∧ c' ≤ c + 11 ∧ dRandom Hh [.mr 0, .int (B : Int)] (gc a b c r) = .ok (.int (x : Int)) (gc a' b c' r) := by
  by_cases ha : 0 < a
  · -- digit by digit
    refine ⟨(a % (B : Int)).toNat, a / (B : Int), c, ?_, Nat.le_add_right _ _, ?_⟩
    · have := Int.emod_lt_of_pos a (b := (B : Int)) (by omega)
      have := Int.emod_nonneg a (b := (B : Int)) (by omega)
      omega
    · have e0 : ∀ x y : Option D, ([some (.mr 0), some (.int (B : Int)), x, y] : DEnv)[0]? = some (some (.mr 0)) := fun _ _ => rfl
      have t : dTest (dOp gGt (dOpq gIx (dVar 0) (dK (.int 0))) (dK (.int 0))) [some (.mr 0), some (.int (B : Int)), none, none] (gc a b c r) = .ok true (gc a b c r) := test_bl (op_ok (ix_gc (e0 _ _)).1 (k_ok (d := .int 0)) rfl rfl (by
        show some (D.bl (decide ((0 : Int) < a))) = _
        rw [decide_eq_true ha]))
      have hlog : (B : Int).natAbs.log2 < 9000 := by
        rw [Int.natAbs_natCast]
        unfold Builtin.Int.intBits at hb
        rw [if_neg (by simpa using Nat.ne_of_gt hB), Int.natAbs_natCast] at hb
        omega
      have s1 : dSet 2 (dOp gMod (dB gInt (dCons (dOpq gIx (dVar 0) (dK (.int 0))) dNil)) (dVar 1)) [some (.mr 0), some (.int (B : Int)), none, none] (gc a b c r) = .nx [some (.mr 0), some (.int (B : Int)), some (.int (a % (B : Int))), none] (gc a b c r) := set_ok (op_ok (b_ok (cons_ok (ix_gc (e0 _ _)).1 nil_ok) rfl (gInt_int a)) (var_ok rfl) rfl rfl (gMod_pos (by omega)))
      have s2 : dSetIx (dOp gFdv (dOpq gIx (dVar 0) (dK (.int 0))) (dVar 1)) (dVar 0) (dK (.int 0)) [some (.mr 0), some (.int (B : Int)), some (.int (a % (B : Int))), none] (gc a b c r) = .nx [some (.mr 0), some (.int (B : Int)), some (.int (a % (B : Int))), none] (gc (a / (B : Int)) b c r) := setIx_ok (k := 0) (n := 0) (es := [.int a, .int (b : Int), .int (c : Int)]) (m := gc a b c r) (m1 := gc a b c r) (m2 := gc a b c r) (m3 := gc a b c r) (op_ok (ix_gc (e0 _ _)).1 (var_ok rfl) rfl rfl (gFdv_pos (by omega) hlog)) (var_ok rfl) (k_ok (d := .int 0)) rfl rfl rfl
      have en : ((a % (B : Int)).toNat : Int) = a % (B : Int) := Int.toNat_of_nonneg (Int.emod_nonneg a (by omega))
      rw [en]
      exact def_rt (seq_rt ((ifS_t t).trans ((seq_nx s1).trans ((seq_nx s2).trans (ret_ok (var_ok rfl))))))
  · -- by the hash
    have e0 : ∀ x y : Option D, ([some (.mr 0), some (.int (B : Int)), x, y] : DEnv)[0]? = some (some (.mr 0)) := fun _ _ => rfl
    have t : dTest (dOp gGt (dOpq gIx (dVar 0) (dK (.int 0))) (dK (.int 0))) [some (.mr 0), some (.int (B : Int)), none, none] (gc a b c r) = .ok false (gc a b c r) := test_bl (op_ok (ix_gc (e0 _ _)).1 (k_ok (d := .int 0)) rfl rfl (by
      show some (D.bl (decide ((0 : Int) < a))) = _
      rw [decide_eq_false ha]))
    have hn : 1 + Builtin.Int.intBits (B : Int) / 30 ≤ 11 := by omega
    have hf : dRng1 (dCons (dOp gAdd (dK (.int 1)) (dOp gFdv (dRaw gBits (dVar 1)) (dK (.int 30)))) dNil) [some (.mr 0), some (.int (B : Int)), some (.int 0), none] (gc a b c r) = .ok (.items (rangeD 0 (1 + Builtin.Int.intBits (B : Int) / 30))) (gc a b c r) :=
      rng1_ok (cons_ok (op_ok (k_ok (d := .int 1)) (op_ok (raw_ok (var_ok rfl) (show gBits (.int (B : Int)) = some (.int (Builtin.Int.intBits (B : Int) : Nat)) from rfl)) (k_ok (d := .int 30)) rfl rfl (gFdv_nat (b := 30) (by decide) (by decide))) rfl rfl (gAdd_nat 1 _)) nil_ok) (by omega)
    obtain ⟨e2, m2, q, c', dr, x3, hc, hd, rfl, rfl⟩ := for_all (tg := dgName 3) (b := (dSeq (dSetIx (dOp gAdd (dOpq gIx (dVar 0) (dK (.int 2))) (dK (.int 1))) (dVar 0) (dK (.int 2)))
      (dSet 2 (dOp gAdd (dOp gMul (dVar 2) (dK (.int 2147483587))) (dCall Hh (dCons (dOpq gIx (dVar 0) (dK (.int 1))) (dCons (dOpq gIx (dVar 0) (dK (.int 2))) dNil)))))))
      (P := fun i e m' => ∃ (c' dr : Nat) (x3 : Option D), c' = c + i ∧ dr < 2 ^ (32 * i) ∧ m' = gc a b c' r ∧ e = [some (.mr 0), some (.int (B : Int)), some (.int (dr : Int)), x3]) hf (fun i d e m' hd p => by
        obtain ⟨c', dr, x3, rfl, hdr, rfl, rfl⟩ := p
        obtain ⟨hi, rfl⟩ := rangeD_get hd
        refine ⟨[some (.mr 0), some (.int (B : Int)), some (.int (dr : Int)), some (.int (0 + (i : Int)))], rfl, ?_⟩
        have u1 : dSetIx (dOp gAdd (dOpq gIx (dVar 0) (dK (.int 2))) (dK (.int 1))) (dVar 0) (dK (.int 2)) [some (.mr 0), some (.int (B : Int)), some (.int (dr : Int)), some (.int (0 + (i : Int)))] (gc a b (c + i) r) = .nx [some (.mr 0), some (.int (B : Int)), some (.int (dr : Int)), some (.int (0 + (i : Int)))] (gc a b (c + i + 1) r) := setIx_ok (k := 0) (n := 2) (es := [.int a, .int (b : Int), .int ((c + i : Nat) : Int)]) (m := gc a b (c + i) r) (m1 := gc a b (c + i) r) (m2 := gc a b (c + i) r) (m3 := gc a b (c + i) r) (op_ok (ix_gc (e0 _ _)).2.2 (k_ok (d := .int 1)) rfl rfl (gAdd_nat (c + i) 1)) (var_ok rfl) (k_ok (d := .int 2)) rfl rfl rfl
        obtain ⟨h, hh, eh⟩ := hH b (c + i + 1) (gc a b (c + i + 1) r) h1 (by omega)
        have u2 : dOp gMul (dVar 2) (dK (.int 2147483587)) [some (.mr 0), some (.int (B : Int)), some (.int (dr : Int)), some (.int (0 + (i : Int)))] (gc a b (c + i + 1) r) = .ok (.int ((dr * 2147483587 : Nat) : Int)) (gc a b (c + i + 1) r) := op_ok (var_ok rfl) (k_ok (d := .int 2147483587)) rfl rfl (gMul_nat (j := 2147483587) (b := 32) hdr (by decide) (by omega))
        have u3 : dCall Hh (dCons (dOpq gIx (dVar 0) (dK (.int 1))) (dCons (dOpq gIx (dVar 0) (dK (.int 2))) dNil)) [some (.mr 0), some (.int (B : Int)), some (.int (dr : Int)), some (.int (0 + (i : Int)))] (gc a b (c + i + 1) r) = .ok (.int (h : Int)) (gc a b (c + i + 1) r) := call_ok (cons_ok (ix_gc (e0 _ _)).2.1 (cons_ok (ix_gc (e0 _ _)).2.2 nil_ok)) eh
        refine ⟨_, _, (seq_nx u1).trans (set_ok (op_ok u2 u3 rfl rfl (gAdd_nat _ _))), c + i + 1, dr * 2147483587 + h, _, rfl, ?_, rfl, rfl⟩
        rw [show 32 * (i + 1) = 32 * i + 32 by omega, Nat.pow_add]
        have : (2 : Nat) ^ 32 = 4294967296 := by decide
        rw [this]
        have p := Nat.two_pow_pos (32 * i)
        generalize 2 ^ (32 * i) = z at *
        omega) ⟨c, 0, none, rfl, Nat.two_pow_pos _, rfl, rfl⟩
    rw [rangeD_len] at hc
    refine ⟨dr % B, a, c', Nat.mod_lt _ hB, by omega, ?_⟩
    have s0 : dSet 2 (dK (.int 0)) [some (.mr 0), some (.int (B : Int)), none, none] (gc a b c r) = .nx [some (.mr 0), some (.int (B : Int)), some (.int 0), none] (gc a b c r) := set_ok k_ok
    exact def_rt ((seq_nx ((ifS_f t).trans rfl)).trans ((seq_nx s0).trans ((seq_nx q).trans (ret_ok (op_ok (b_ok (cons_ok (var_ok rfl) nil_ok) rfl (gInt_int _)) (var_ok rfl) rfl rfl (gMod_nat hB))))))
/-! ### the hash of the first laws -/
def bHash : DS := (dSeq (dSet 2 (dOp gMod (dB gInt (dCons (dOp gAdd (dOp gAdd (dOp gAdd (dOp gMul (dVar 0) (dK (.int 1299709))) (dOp gMul (dOp gMul (dK (.int 104729)) (dVar 1)) (dVar 1))) (dOp gMul (dK (.int 31)) (dVar 1))) (dK (.int 7))) dNil)) (dK (.int 2147483629))))
    (dSeq (dSet 2 (dOp gMod (dB gInt (dCons (dOp gAdd (dOp gAdd (dOp gMul (dVar 2) (dVar 2)) (dOp gMul (dK (.int 48271)) (dVar 1))) (dK (.int 15485863))) dNil)) (dK (.int 2147483587))))
    (dRet (dOp gMod (dB gInt (dCons (dOp gMul (dVar 2) (dK (.int 69621))) dNil)) (dK (.int 2147483647))))))
def dHash : List D → DMem → XO D := dDef 3 bHash false
theorem hash_ok : HashOk dHash := fun s i m hs hi => by
  have m1 := gMul_nat (j := 1299709) (b := 21) hs (by decide) (by decide)
  have m2 := gMul_nat (i := 104729) (a := 17) (by decide) hi (by decide)
  have hp : 104729 * i < 2 ^ 37 := by
    have e1 : (2 : Nat) ^ 20 = 1048576 := by decide
    have e2 : (2 : Nat) ^ 37 = 137438953472 := by decide
    rw [e1] at hi
    rw [e2]
    omega
  have m3 := gMul_nat hp hi (by decide)
  have m4 := gMul_nat (i := 31) (a := 5) (by decide) hi (by decide)
  have v0 : dVar 0 [some (.int (s : Int)), some (.int (i : Int)), none] m = .ok (.int (s : Int)) m := var_ok rfl
  have v1 : dVar 1 [some (.int (s : Int)), some (.int (i : Int)), none] m = .ok (.int (i : Int)) m := var_ok rfl
  have a1 := op_ok (op_ok (op_ok (op_ok v0 (k_ok (d := .int 1299709)) rfl rfl m1) (op_ok (op_ok (k_ok (d := .int 104729)) v1 rfl rfl m2) v1 rfl rfl m3) rfl rfl (gAdd_nat _ _)) (op_ok (k_ok (d := .int 31)) v1 rfl rfl m4) rfl rfl (gAdd_nat _ _)) (k_ok (d := .int 7)) rfl rfl (gAdd_nat _ 7)
  have s1 := set_ok (i := 2) (op_ok (b_ok (cons_ok a1 nil_ok) rfl (gInt_int _)) (k_ok (d := .int 2147483629)) rfl rfl (gMod_nat (b := 2147483629) (by decide)))
  generalize hx : (s * 1299709 + 104729 * i * i + 31 * i + 7) % 2147483629 = x at s1
  have xl : x < 2 ^ 31 := by
    have e : (2 : Nat) ^ 31 = 2147483648 := by decide
    rw [e, ← hx]
    have := Nat.mod_lt (s * 1299709 + 104729 * i * i + 31 * i + 7) (show 0 < 2147483629 by decide)
    omega
  have w1 : dVar 1 ([some (.int (s : Int)), some (.int (i : Int)), none].set 2 (some (.int (x : Int)))) m = .ok (.int (i : Int)) m := var_ok rfl
  have w2 : dVar 2 ([some (.int (s : Int)), some (.int (i : Int)), none].set 2 (some (.int (x : Int)))) m = .ok (.int (x : Int)) m := var_ok rfl
  have a2 := op_ok (op_ok (op_ok w2 w2 rfl rfl (gMul_nat xl xl (by decide))) (op_ok (k_ok (d := .int 48271)) w1 rfl rfl (gMul_nat (i := 48271) (a := 16) (by decide) hi (by decide))) rfl rfl (gAdd_nat _ _)) (k_ok (d := .int 15485863)) rfl rfl (gAdd_nat _ 15485863)
  have s2 := set_ok (i := 2) (op_ok (b_ok (cons_ok a2 nil_ok) rfl (gInt_int _)) (k_ok (d := .int 2147483587)) rfl rfl (gMod_nat (b := 2147483587) (by decide)))
  generalize hy : (x * x + 48271 * i + 15485863) % 2147483587 = y at s2
  have yl : y < 2 ^ 31 := by
    have e : (2 : Nat) ^ 31 = 2147483648 := by decide
    rw [e, ← hy]
    have := Nat.mod_lt (x * x + 48271 * i + 15485863) (show 0 < 2147483587 by decide)
    omega
  have z2 : dVar 2 (([some (.int (s : Int)), some (.int (i : Int)), none].set 2 (some (.int (x : Int)))).set 2 (some (.int (y : Int)))) m = .ok (.int (y : Int)) m := var_ok rfl
  have r1 := ret_ok (op_ok (b_ok (cons_ok (op_ok z2 (k_ok (d := .int 69621)) rfl rfl (gMul_nat (j := 69621) (b := 17) yl (by decide) (by decide))) nil_ok) rfl (gInt_int _)) (k_ok (d := .int 2147483647)) rfl rfl (gMod_nat (b := 2147483647) (by decide)))
  exact ⟨y * 69621 % 2147483647, Nat.mod_lt _ (by decide), def_rt ((seq_nx s1).trans ((seq_nx s2).trans r1))⟩
end LG
end

section
set_option Elab.async false
set_option linter.all false
set_option maxRecDepth 100000
set_option maxHeartbeats 4000000
/-! RU: runs: the plain mathematics, the denotations of their module, what they are worth. -/
namespace RU
open PySem DX
abbrev Wt := Option Int
def wd : Wt → D
  | none => .non
  | some i => .int i
abbrev rl (f : List Wt) : D := .lst (f.map wd)
abbrev run (f : List Wt) (s : Wt) (k : Int) : D := .tup [rl f, wd s, .int k]
def back (s : Wt) (k : Int) : Wt := s.map fun a => a - k
def rv (f : List Wt) (s : Wt) (k : Int) (n : Nat) : Wt := if n < f.length then (f[n]?).getD none else s.map fun a => a + k * ((n : Int) - f.length)
theorem rv_step {f : List Wt} {s : Wt} {k : Int} {e : Nat} (he : e < f.length) (h : f[e]? = some (back s k)) (n : Nat) : rv (f.take e) (back s k) k n = rv (f.take (e + 1)) s k n := by
  unfold rv
  rw [List.length_take, List.length_take, Nat.min_eq_left (by omega), Nat.min_eq_left (by omega)]
  by_cases h1 : n < e
  · rw [if_pos h1, if_pos (by omega), List.getElem?_take_of_lt h1, List.getElem?_take_of_lt (by omega)]
  · rw [if_neg h1]
    by_cases h2 : n < e + 1
    · have : n = e := by omega
      subst this
      rw [if_pos h2, List.getElem?_take_of_lt (by omega), h]
      cases s with
      | none => rfl
      | some a =>
        show some (a - k + k * ((n : Int) - n)) = some (a - k)
        rw [Int.sub_self, Int.mul_zero, Int.add_zero]
    · rw [if_neg h2]
      cases s with
      | none => rfl
      | some a =>
        show some (a - k + k * ((n : Int) - e)) = some (a + k * ((n : Int) - ((e + 1 : Nat) : Int)))
        congr 1
        have e1 : (n : Int) - e = ((n : Int) - ((e + 1 : Nat) : Int)) + 1 := by omega
        rw [e1, Int.mul_add, Int.mul_one]
        omega
/-- the least run for the same values -/
structure Least (f : List Wt) (s : Wt) (k : Int) (f2 : List Wt) (s2 : Wt) : Prop where
  pre : ∃ e, e ≤ f.length ∧ f2 = f.take e
  vals : ∀ n, rv f2 s2 k n = rv f s k n
  stop : f2 = [] ∨ f2.getLast? ≠ some (back s2 k)
  non : s2 = none ↔ s = none
theorem rv_end {f : List Wt} {s : Wt} {k : Int} : rv f s k f.length = s := by
  unfold rv
  rw [if_neg (Nat.lt_irrefl _), Int.sub_self, Int.mul_zero]
  cases s with
  | none => rfl
  | some a => show some (a + 0) = some a; rw [Int.add_zero]
theorem rv_lt {f : List Wt} {s : Wt} {k : Int} {n : Nat} (h : n < f.length) : f[n]? = some (rv f s k n) := by
  unfold rv
  rw [if_pos h, List.getElem?_eq_getElem h]
  rfl
theorem rv_next {f : List Wt} {s : Wt} {k : Int} {n : Nat} (h : f.length ≤ n) : back (rv f s k (n + 1)) k = rv f s k n := by
  unfold rv
  rw [if_neg (by omega), if_neg (by omega)]
  cases s with
  | none => rfl
  | some a =>
    show some (a + k * (((n + 1 : Nat) : Int) - f.length) - k) = some (a + k * ((n : Int) - f.length))
    congr 1
    have e1 : ((n + 1 : Nat) : Int) - f.length = ((n : Int) - f.length) + 1 := by omega
    rw [e1, Int.mul_add, Int.mul_one]
    omega
/-- the least run is one alone -/
theorem least_uniq {f g f2 g2 : List Wt} {s t s2 t2 : Wt} {k : Int} (h : ∀ n, rv f s k n = rv g t k n) (hf : ∀ n, rv f2 s2 k n = rv f s k n) (hg : ∀ n, rv g2 t2 k n = rv g t k n) (sf : f2 = [] ∨ f2.getLast? ≠ some (back s2 k)) (sg : g2 = [] ∨ g2.getLast? ≠ some (back t2 k)) : f2 = g2 ∧ s2 = t2 := by
  have key : ∀ (a b : List Wt) (x y : Wt), (∀ n, rv a x k n = rv b y k n) → (b = [] ∨ b.getLast? ≠ some (back y k)) → b.length ≤ a.length := by
    intro a b x y hv hs
    refine Nat.le_of_not_lt fun hl => ?_
    rcases hs with z | z
    · rw [z] at hl
      cases hl
    · refine z ?_
      rw [List.getLast?_eq_getElem?, rv_lt (f := b) (s := y) (k := k) (n := b.length - 1) (by omega), ← hv, ← rv_next (by omega), hv, show b.length - 1 + 1 = b.length by omega, rv_end]
  have hv : ∀ n, rv f2 s2 k n = rv g2 t2 k n := fun n => by rw [hf, h, hg]
  have l1 := key f2 g2 s2 t2 hv sg
  have l2 := key g2 f2 t2 s2 (fun n => (hv n).symm) sf
  have el : f2.length = g2.length := by omega
  constructor
  · apply List.ext_getElem?
    intro i
    by_cases q : i < f2.length
    · rw [rv_lt (s := s2) (k := k) q, rv_lt (s := t2) (k := k) (by omega), hv]
    · rw [List.getElem?_eq_none (by omega), List.getElem?_eq_none (by omega)]
  · have := hv f2.length
    rw [rv_end, el, rv_end] at this
    exact this
def b_is_whole : DS := (dRet (dAndV (dIsi "int" (dVar 0)) (dNotV (dIsi "bool" (dVar 0)))))
def d_is_whole : List D → DMem → XO D := dDef 1 b_is_whole false
def b_is_between : DS := (dRet (dAndV (dCall d_is_whole (dCons (dVar 0) dNil)) (dAndV (dOp gLe (dVar 1) (dVar 0)) (dOrV (dOpw gIs (dVar 2) (dK .non)) (dOp gLe (dVar 0) (dVar 2))))))
def d_is_between : List D → DMem → XO D := dDef 3 b_is_between false
def b_check_number : DS := (dIfS (dNot (dTest (dCall d_is_between (dCons (dVar 0) (dCons (dVar 1) (dCons (dVar 2) dNil)))))) (dRaise "InvalidNumber" (dCons (dVar 0) dNil)) dNext)
def d_check_number : List D → DMem → XO D := dDef 3 b_check_number false
def b_is_worth : DS := (dRet (dOrV (dOpw gIs (dVar 0) (dK .non)) (dCall d_is_whole (dCons (dVar 0) dNil))))
def d_is_worth : List D → DMem → XO D := dDef 1 b_is_worth false
def b_are_worths : DS := (dRet (dAndV (dIsi "list" (dVar 0)) (dOp gEq (dLc (dSrc srcL (dVar 0)) (dgName 1) (dNot (dTest (dCall d_is_worth (dCons (dVar 1) dNil)))) (dVar 1) [1]) (dLst dNil))))
def d_are_worths : List D → DMem → XO D := dDef 2 b_are_worths false
def b_is_slope : DS := (dRet (dAndV (dCall d_is_whole (dCons (dVar 1) dNil)) (dOrV (dOpw gIsNot (dVar 0) (dK .non)) (dOp gEq (dVar 1) (dK (.int 0))))))
def d_is_slope : List D → DMem → XO D := dDef 2 b_is_slope false
def b_step_back : DS := (dSeq (dIfS (dTest (dOpw gIs (dVar 0) (dK .non))) (dRet (dK .non)) dNext)
    (dRet (dOp gSub (dVar 0) (dVar 1))))
def d_step_back : List D → DMem → XO D := dDef 2 b_step_back false
def b_shortened : DS := (dSeq (dSet 3 (dB gLen (dCons (dVar 0) dNil)))
    (dSeq (dWhile (dAnd (dTest (dOp gGt (dVar 3) (dK (.int 0)))) (dTest (dOp gEq (dOpq gIx (dVar 0) (dOp gSub (dVar 3) (dK (.int 1)))) (dCall d_step_back (dCons (dVar 1) (dCons (dVar 2) dNil)))))) (dSeq (dSet 3 (dOp gSub (dVar 3) (dK (.int 1))))
    (dSet 1 (dOpq gIx (dVar 0) (dVar 3)))))
    (dRet (dTup (dCons (dSl (dVar 0) dNoPart (dPart (dVar 3))) (dCons (dVar 1) (dCons (dVar 2) dNil)))))))
def d_shortened : List D → DMem → XO D := dDef 4 b_shortened false
def b_c_shortened : DS := (dSeq (dSet 3 (dB gLen (dCons (dVar 0) dNil)))
    (dSeq (dWhile (dAnd (dTest (dOp gGt (dVar 3) (dK (.int 0)))) (dTest (dOp gEq (dOpq gIx (dVar 0) (dOp gSub (dVar 3) (dK (.int 1)))) (dCall d_step_back (dCons (dVar 1) (dCons (dVar 2) dNil)))))) (dSeq (dSet 3 (dOp gSub (dVar 3) (dK (.int 1))))
    (dSet 1 (dOpq gIx (dVar 0) (dVar 3)))))
    (dRet (dTup (dCons (dSlC (dVar 0) dNoPart (dPart (dVar 3))) (dCons (dVar 1) (dCons (dVar 2) dNil)))))))
def d_c_shortened : List D → DMem → XO D := dDef 4 b_c_shortened false
def b_is_run : DS := (dSeq (dIfS (dOr (dNot (dTest (dIsi "tuple" (dVar 0)))) (dTest (dOp gNe (dB gLen (dCons (dVar 0) dNil)) (dK (.int 3))))) (dRet (dK (.bl false))) dNext)
    (dSeq (dAsg (dVar 0) (dgTup 3 (dgCons (dgName 1) (dgCons (dgName 2) (dgCons (dgName 3) dgNil)))))
    (dSeq (dIfS (dOr (dNot (dTest (dCall d_are_worths (dCons (dVar 1) dNil)))) (dOr (dNot (dTest (dCall d_is_worth (dCons (dVar 2) dNil)))) (dNot (dTest (dCall d_is_slope (dCons (dVar 2) (dCons (dVar 3) dNil))))))) (dRet (dK (.bl false))) dNext)
    (dRet (dOrV (dOp gEq (dVar 1) (dLst dNil)) (dOp gNe (dOpq gIx (dVar 1) (dUn gNeg (dK (.int 1)))) (dCall d_step_back (dCons (dVar 2) (dCons (dVar 3) dNil)))))))))
def d_is_run : List D → DMem → XO D := dDef 4 b_is_run false
def b_check_run : DS := (dIfS (dNot (dTest (dCall d_is_run (dCons (dVar 0) dNil)))) (dRaise "InvalidRun" (dCons (dVar 0) dNil)) dNext)
def d_check_run : List D → DMem → XO D := dDef 1 b_check_run false
def b_least_run : DS := (dSeq (dIfS (dNot (dTest (dCall d_are_worths (dCons (dVar 0) dNil)))) (dRaise "InvalidList" (dCons (dVar 0) dNil)) dNext)
    (dSeq (dIfS (dNot (dTest (dCall d_is_worth (dCons (dVar 1) dNil)))) (dRaise "InvalidNumber" (dCons (dVar 1) dNil)) dNext)
    (dSeq (dIfS (dNot (dTest (dCall d_is_slope (dCons (dVar 1) (dCons (dVar 2) dNil))))) (dRaise "InvalidNumber" (dCons (dVar 2) dNil)) dNext)
    (dRet (dCall d_shortened (dCons (dVar 0) (dCons (dVar 1) (dCons (dVar 2) dNil))))))))
def d_least_run : List D → DMem → XO D := dDef 3 b_least_run false
def b_c_least_run : DS := (dSeq (dIfS (dNot (dTest (dCall d_are_worths (dCons (dVar 0) dNil)))) (dRaise "InvalidList" (dCons (dVar 0) dNil)) dNext)
    (dSeq (dIfS (dNot (dTest (dCall d_is_worth (dCons (dVar 1) dNil)))) (dRaise "InvalidNumber" (dCons (dVar 1) dNil)) dNext)
    (dSeq (dIfS (dNot (dTest (dCall d_is_slope (dCons (dVar 1) (dCons (dVar 2) dNil))))) (dRaise "InvalidNumber" (dCons (dVar 2) dNil)) dNext)
    (dRet (dCall d_c_shortened (dCons (dVar 0) (dCons (dVar 1) (dCons (dVar 2) dNil))))))))
def d_c_least_run : List D → DMem → XO D := dDef 3 b_c_least_run false
def b_value_of : DS := (dSeq (dAsg (dVar 0) (dgTup 3 (dgCons (dgName 2) (dgCons (dgName 3) (dgCons (dgName 4) dgNil)))))
    (dSeq (dIfS (dTest (dOp gLt (dVar 1) (dB gLen (dCons (dVar 2) dNil)))) (dRet (dOpq gIx (dVar 2) (dVar 1))) dNext)
    (dSeq (dIfS (dTest (dOpw gIs (dVar 3) (dK .non))) (dRet (dK .non)) dNext)
    (dRet (dOp gAdd (dVar 3) (dOp gMul (dVar 4) (dOp gSub (dVar 1) (dB gLen (dCons (dVar 2) dNil)))))))))
def d_value_of : List D → DMem → XO D := dDef 5 b_value_of false
def b_run_value : DS := (dSeq (dDrop (dCall d_check_run (dCons (dVar 0) dNil)))
    (dSeq (dDrop (dCall d_check_number (dCons (dVar 1) (dCons (dK (.int 0)) (dCons (dK .non) dNil)))))
    (dRet (dCall d_value_of (dCons (dVar 0) (dCons (dVar 1) dNil))))))
def d_run_value : List D → DMem → XO D := dDef 2 b_run_value false
end RU
end

section
set_option Elab.async false
set_option linter.all false
set_option maxRecDepth 100000
set_option maxHeartbeats 4000000
namespace RU
open PySem DX
/-! ### what the module's defs are worth -/
theorem rs_wd (w : Wt) (m : DMem) : rs (wd w) m = some (wd w) := by cases w <;> rfl
theorem rq_wd (w : Wt) (m : DMem) : rq (wd w) m = some (wd w) := by cases w <;> rfl
theorem rqs_wd (w : Wt) (m : DMem) : rqs [wd w] m = some [wd w] := by cases w <;> rfl
theorem noMr_wd (w : Wt) : (wd w).noMr = true := by cases w <;> rfl
theorem noMrs_wd : ∀ f : List Wt, D.noMrs (f.map wd) = true
  | [] => rfl
  | w :: f => by
    show ((wd w).noMr && D.noMrs (f.map wd)) = true
    rw [noMr_wd, noMrs_wd f]
    rfl
theorem gEq_wd (x y : Wt) : gEq (wd x) (wd y) = some (.bl (x == y)) := by
  cases x with
  | none =>
    cases y with
    | none => kernel_rfl
    | some j => kernel_rfl
  | some i =>
    cases y with
    | none => kernel_rfl
    | some j => exact gEq_int i j
theorem gNe_wd (x y : Wt) : gNe (wd x) (wd y) = some (.bl (!(x == y))) := by
  cases x with
  | none =>
    cases y with
    | none => kernel_rfl
    | some j => kernel_rfl
  | some i =>
    cases y with
    | none => kernel_rfl
    | some j => exact gNe_int i j
theorem whole_int (n : Int) (m : DMem) : d_is_whole [.int n] m = .ok (.bl true) m := by
  have a : dIsi "int" (dVar 0) [some (.int n)] m = .ok (.bl true) m := isi_ok (d := .int n) (var_ok rfl) rfl kit_int_int
  have b : dIsi "bool" (dVar 0) [some (.int n)] m = .ok (.bl false) m := isi_ok (d := .int n) (var_ok rfl) rfl kit_int_bool
  exact def_rt (ret_ok ((andV_t a rfl).trans (notV_ok b rfl)))
theorem worth_wd (w : Wt) (m : DMem) : d_is_worth [wd w] m = .ok (.bl true) m := by
  cases w with
  | none =>
    have c : dOpw gIs (dVar 0) (dK .non) [some .non] m = .ok (.bl true) m := opw_ok (var_ok rfl) k_ok rfl
    exact def_rt (ret_ok (orV_t c rfl))
  | some i =>
    have c : dOpw gIs (dVar 0) (dK .non) [some (.int i)] m = .ok (.bl false) m := opw_ok (var_ok rfl) k_ok rfl
    exact def_rt (ret_ok ((orV_f c rfl).trans (call_ok (cons_ok (var_ok rfl) nil_ok) (whole_int i m))))
theorem worths_wd (L : D) (f : List Wt) (m : DMem) (h : LL L m (f.map wd)) (hf : f.length ≤ 1000) : d_are_worths [L] m = .ok (.bl true) m := by
  have i1 := h.isi (f := dVar 0) (env := [some L, none]) (m0 := m) (var_ok rfl)
  obtain ⟨src, s1, s2, s3⟩ := h.src (f := dVar 0) (env := [some L, none]) (m0 := m) (var_ok rfl)
  have e := lc_plainS (tg := dgName 1) (tt := dNot (dTest (dCall d_is_worth (dCons (dVar 1) dNil)))) (fe := dVar 1) (ws := [1]) (p := fun _ => false) (g := id) s1 s2 (fun acc i => s3 [some acc] i) (size_le (by rw [List.length_map]; omega)) (fun d acc hd => by
    obtain ⟨x, _, rfl⟩ := List.mem_map.mp hd
    exact ⟨_, rfl, not_ok (test_bl (call_ok (cons_ok (var_ok rfl) nil_ok) (worth_wd x _))), fun z => by cases z⟩)
  rw [show List.filter (fun _ => false) (f.map wd) = [] from List.filter_eq_nil_iff.mpr fun _ _ => Bool.false_ne_true] at e
  have q : gEq (.lst []) (.lst []) = some (.bl true) := by kernel_rfl
  exact def_rt (ret_ok ((andV_t i1 rfl).trans (op_ok e (lst_ok nil_ok (Nat.zero_le _)) rfl rfl q)))
theorem slope_wd (s : Wt) (k : Int) (m : DMem) (h : s = none → k = 0) : d_is_slope [wd s, .int k] m = .ok (.bl true) m := by
  have a : dCall d_is_whole (dCons (dVar 1) dNil) [some (wd s), some (.int k)] m = .ok (.bl true) m := call_ok (cons_ok (var_ok rfl) nil_ok) (whole_int k m)
  refine def_rt (ret_ok ((andV_t a rfl).trans ?_))
  cases s with
  | none =>
    have c : dOpw gIsNot (dVar 0) (dK .non) [some (wd none), some (.int k)] m = .ok (.bl false) m := opw_ok (var_ok rfl) k_ok rfl
    rw [h rfl]
    have c : dOpw gIsNot (dVar 0) (dK .non) [some (wd none), some (.int 0)] m = .ok (.bl false) m := opw_ok (var_ok rfl) k_ok rfl
    exact (orV_f c rfl).trans (op_ok (var_ok rfl) (k_ok (d := .int 0)) rfl rfl (gEq_int 0 0))
  | some i =>
    have c : dOpw gIsNot (dVar 0) (dK .non) [some (wd (some i)), some (.int k)] m = .ok (.bl true) m := opw_ok (var_ok rfl) k_ok rfl
    exact orV_t c rfl
theorem back_wd (s : Wt) (k : Int) (m : DMem) : d_step_back [wd s, .int k] m = .ok (wd (back s k)) m := by
  cases s with
  | none =>
    have c : dTest (dOpw gIs (dVar 0) (dK .non)) [some .non, some (.int k)] m = .ok true m := test_bl (opw_ok (var_ok rfl) k_ok rfl)
    exact def_rt (seq_rt ((ifS_t c).trans (ret_ok k_ok)))
  | some i =>
    have c : dTest (dOpw gIs (dVar 0) (dK .non)) [some (.int i), some (.int k)] m = .ok false m := test_bl (opw_ok (var_ok rfl) k_ok rfl)
    exact def_rt ((seq_nx ((ifS_f c).trans rfl)).trans (ret_ok (op_ok (var_ok rfl) (var_ok rfl) rfl rfl rfl)))
theorem get_wd {f : List Wt} {i : Nat} {w : Wt} (h : f[i]? = some w) : (f.map wd)[i]? = some (wd w) := by rw [List.getElem?_map, h]; rfl
theorem len_L {i : Nat} {L : D} {f : List Wt} {e : DEnv} {m : DMem} (h : LL L m (f.map wd)) (he : e[i]? = some (some L)) : dB gLen (dCons (dVar i) dNil) e m = .ok (.int (f.length : Int)) m := b_ok (cons_ok (var_ok he) nil_ok) h.rqs (gLen_lst (by rw [List.length_map]))
abbrev scond : DT := dAnd (dTest (dOp gGt (dVar 3) (dK (.int 0)))) (dTest (dOp gEq (dOpq gIx (dVar 0) (dOp gSub (dVar 3) (dK (.int 1)))) (dCall d_step_back (dCons (dVar 1) (dCons (dVar 2) dNil)))))
abbrev sbody : DS := dSeq (dSet 3 (dOp gSub (dVar 3) (dK (.int 1)))) (dSet 1 (dOpq gIx (dVar 0) (dVar 3)))
def senv (L : D) (s : Wt) (k : Int) (e : Nat) : DEnv := [some L, some (wd s), some (.int k), some (.int (e : Int))]
theorem run_loop (L : D) (f : List Wt) (s : Wt) (k : Int) (m : DMem) (h : LL L m (f.map wd)) (hf : f.length ≤ 1000) : ∃ (e : Nat) (s2 : Wt), e ≤ f.length ∧ Least f s k (f.take e) s2 ∧ dWhile scond sbody (senv L s k f.length) m = .nx (senv L s2 k e) m := by
  have run := while_run (c := scond) (b := sbody) (P := fun j e m' => m' = m ∧ ∃ t, j ≤ f.length ∧ e = senv L t k j ∧ (∀ n, rv (f.take j) t k n = rv f s k n) ∧ (t = none ↔ s = none))
    (Q := fun e m' => m' = m ∧ ∃ (j : Nat) (t : Wt), j ≤ f.length ∧ Least f s k (f.take j) t ∧ e = senv L t k j) (fun j e m' hp => by
      obtain ⟨rfl, t, hj, rfl, hv, hn⟩ := hp
      cases j with
      | zero =>
        have c1 : dTest (dOp gGt (dVar 3) (dK (.int 0))) (senv L t k 0) m' = .ok false m' := test_bl (op_ok (var_ok rfl) (k_ok (d := .int 0)) rfl rfl rfl)
        exact .inl ⟨m', and_f c1, rfl, 0, t, hj, ⟨⟨0, hj, rfl⟩, hv, .inl rfl, hn⟩, rfl⟩
      | succ j =>
        have c1 : dTest (dOp gGt (dVar 3) (dK (.int 0))) (senv L t k (j + 1)) m' = .ok true m' := test_bl (op_ok (var_ok rfl) (k_ok (d := .int 0)) rfl rfl (by
          show some (D.bl (decide ((0 : Int) < ((j + 1 : Nat) : Int)))) = _
          rw [decide_eq_true (by omega)]))
        have s1 : dOp gSub (dVar 3) (dK (.int 1)) (senv L t k (j + 1)) m' = .ok (.int (j : Int)) m' := op_ok (var_ok rfl) (k_ok (d := .int 1)) rfl rfl (by
          show some (D.int (((j + 1 : Nat) : Int) - 1)) = _
          congr 2
          omega)
        have hx : f[j]? = some f[j] := List.getElem?_eq_getElem (by omega)
        have i1 : dOpq gIx (dVar 0) (dOp gSub (dVar 3) (dK (.int 1))) (senv L t k (j + 1)) m' = .ok (wd f[j]) m' := opq_ok (var_ok rfl) s1 h.rq rfl (gIx_nat (get_wd hx))
        have i2 : dCall d_step_back (dCons (dVar 1) (dCons (dVar 2) dNil)) (senv L t k (j + 1)) m' = .ok (wd (back t k)) m' := call_ok (cons_ok (var_ok rfl) (cons_ok (var_ok rfl) nil_ok)) (back_wd t k m')
        have c2 := test_bl (op_ok i1 i2 (rs_wd _ _) (rs_wd _ _) (gEq_wd _ _))
        cases q : (f[j] == back t k) with
        | false =>
          rw [q] at c2
          refine .inl ⟨m', (and_t c1).trans c2, rfl, j + 1, t, hj, ⟨⟨j + 1, hj, rfl⟩, hv, .inr ?_, hn⟩, rfl⟩
          rw [List.getLast?_eq_getElem?, List.length_take, Nat.min_eq_left hj, List.getElem?_take_of_lt (by omega), show j + 1 - 1 = j by omega, hx]
          intro z
          rw [Option.some.inj z] at q
          simp at q
        | true =>
          rw [q] at c2
          have qe : f[j] = back t k := by simpa using q
          have b1 : dSet 3 (dOp gSub (dVar 3) (dK (.int 1))) (senv L t k (j + 1)) m' = .nx (senv L t k j) m' := set_ok s1
          have b2 : dSet 1 (dOpq gIx (dVar 0) (dVar 3)) (senv L t k j) m' = .nx (senv L (back t k) k j) m' := by
            rw [← qe]
            exact set_ok (opq_ok (var_ok rfl) (var_ok (d := .int (j : Int)) rfl) h.rq rfl (gIx_nat (get_wd hx)))
          refine .inr ⟨m', senv L (back t k) k j, m', j, (and_t c1).trans c2, (seq_nx b1).trans b2, Nat.lt_succ_self j, rfl, back t k, by omega, rfl, fun n => ?_, ?_⟩
          · rw [rv_step (by omega) (by rw [hx, qe]), hv]
          · rw [← hn]
            cases t with
            | none => exact ⟨fun _ => rfl, fun _ => rfl⟩
            | some a => exact iff_of_false (fun z => nomatch z) (fun z => nomatch z)) (j := f.length) (e := senv L s k f.length) (m := m) ⟨rfl, s, Nat.le_refl _, rfl, fun n => by rw [List.take_length], Iff.rfl⟩ (Nat.lt_of_le_of_lt hf (by decide))
  obtain ⟨e2, m2, q, rfl, j, t, hj, c, rfl⟩ := run
  exact ⟨j, t, hj, c, q⟩
theorem three_le {a b c : D} : [a, b, c].length ≤ 1000 := by
  show 3 ≤ 1000
  decide
theorem take_rl (f : List Wt) (e : Nat) : gSl (rl f) none (some (e : Int)) = some (rl (f.take e)) := by rw [gSl_take, ← List.map_take]
theorem short_ok (L : D) (f : List Wt) (s : Wt) (k : Int) (m : DMem) (h : LL L m (f.map wd)) (hf : f.length ≤ 1000) : ∃ f2 s2, Least f s k f2 s2 ∧ d_shortened [L, wd s, .int k] m = .ok (run f2 s2 k) m ∧ d_c_shortened [L, wd s, .int k] m = .ok (.tup [.mr m.length, wd s2, .int k]) (m ++ [some (f2.map wd)]) := by
  obtain ⟨e, s2, he, c, w⟩ := run_loop L f s k m h hf
  have s1 : dSet 3 (dB gLen (dCons (dVar 0) dNil)) [some L, some (wd s), some (.int k), none] m = .nx (senv L s k f.length) m := set_ok (len_L h rfl)
  have v3 : dVar 3 (senv L s2 k e) m = .ok (.int (e : Int)) m := var_ok rfl
  refine ⟨f.take e, s2, c, ?_, ?_⟩
  · exact def_rt ((seq_nx s1).trans ((seq_nx w).trans (ret_ok (tup_ok (cons_ok (sl_ok (var_ok rfl) nopart_ok (part_ok v3) h.rq (take_rl f e)) (cons_ok (var_ok rfl) (cons_ok (var_ok rfl) nil_ok))) three_le))))
  · exact def_rt ((seq_nx s1).trans ((seq_nx w).trans (ret_ok (tup_ok (cons_ok (slC_ok (var_ok rfl) nopart_ok (part_ok v3) h.rq (take_rl f e) (noMrs_wd _)) (cons_ok (var_ok rfl) (cons_ok (var_ok rfl) nil_ok))) three_le))))
theorem least_ok (L : D) (f : List Wt) (s : Wt) (k : Int) (m : DMem) (h : LL L m (f.map wd)) (hf : f.length ≤ 1000) (hk : s = none → k = 0) : ∃ f2 s2, Least f s k f2 s2 ∧ d_least_run [L, wd s, .int k] m = .ok (run f2 s2 k) m ∧ d_c_least_run [L, wd s, .int k] m = .ok (.tup [.mr m.length, wd s2, .int k]) (m ++ [some (f2.map wd)]) := by
  obtain ⟨f2, s2, c, e1, e2⟩ := short_ok L f s k m h hf
  refine ⟨f2, s2, c, ?_⟩
  have t0 : dNot (dTest (dCall d_are_worths (dCons (dVar 0) dNil))) [some L, some (wd s), some (.int k)] m = .ok false m := not_ok (test_bl (call_ok (cons_ok (var_ok rfl) nil_ok) (worths_wd L f m h hf)))
  have t1 : dNot (dTest (dCall d_is_worth (dCons (dVar 1) dNil))) [some L, some (wd s), some (.int k)] m = .ok false m := not_ok (test_bl (call_ok (cons_ok (var_ok rfl) nil_ok) (worth_wd s m)))
  have t2 : dNot (dTest (dCall d_is_slope (dCons (dVar 1) (dCons (dVar 2) dNil)))) [some L, some (wd s), some (.int k)] m = .ok false m := not_ok (test_bl (call_ok (cons_ok (var_ok rfl) (cons_ok (var_ok rfl) nil_ok)) (slope_wd s k m hk)))
  have g : ∀ (d : DS), (dSeq (dIfS (dNot (dTest (dCall d_are_worths (dCons (dVar 0) dNil)))) (dRaise "InvalidList" (dCons (dVar 0) dNil)) dNext) (dSeq (dIfS (dNot (dTest (dCall d_is_worth (dCons (dVar 1) dNil)))) (dRaise "InvalidNumber" (dCons (dVar 1) dNil)) dNext) (dSeq (dIfS (dNot (dTest (dCall d_is_slope (dCons (dVar 1) (dCons (dVar 2) dNil))))) (dRaise "InvalidNumber" (dCons (dVar 2) dNil)) dNext) d))) [some L, some (wd s), some (.int k)] m = d [some L, some (wd s), some (.int k)] m := fun d =>
    (seq_nx ((ifS_f t0).trans rfl)).trans ((seq_nx ((ifS_f t1).trans rfl)).trans (seq_nx ((ifS_f t2).trans rfl)))
  have a3 : dCons (dVar 0) (dCons (dVar 1) (dCons (dVar 2) dNil)) [some L, some (wd s), some (.int k)] m = .ok [L, wd s, .int k] m := cons_ok (var_ok rfl) (cons_ok (var_ok rfl) (cons_ok (var_ok rfl) nil_ok))
  exact ⟨def_rt ((g _).trans (ret_ok (call_ok a3 e1))), def_rt ((g _).trans (ret_ok (call_ok a3 e2)))⟩
end RU
end

section
set_option Elab.async false
set_option linter.all false
set_option maxRecDepth 100000
set_option maxHeartbeats 4000000
namespace RU
open PySem DX LG
def d__law_random : List D → DMem → XO D := LG.dRandom LG.dHash
def b__law_back : DS := (dRet (dIf (dTest (dOpw gIs (dVar 0) (dK .non))) (dK .non) (dOp gSub (dVar 0) (dVar 1))))
def d__law_back : List D → DMem → XO D := dDef 2 b__law_back false
def b__law_value : DS := (dSeq (dIfS (dTest (dOp gLt (dVar 1) (dB gLen (dCons (dOpq gIx (dVar 0) (dK (.int 0))) dNil)))) (dRet (dOpq gIx (dOpq gIx (dVar 0) (dK (.int 0))) (dVar 1))) dNext)
    (dRet (dIf (dTest (dOpw gIs (dOpq gIx (dVar 0) (dK (.int 1))) (dK .non))) (dK .non) (dOp gAdd (dOpq gIx (dVar 0) (dK (.int 1))) (dOp gMul (dOpq gIx (dVar 0) (dK (.int 2))) (dOp gSub (dVar 1) (dB gLen (dCons (dOpq gIx (dVar 0) (dK (.int 0))) dNil))))))))
def d__law_value : List D → DMem → XO D := dDef 2 b__law_value false
def b__law_worth : DS := (dSeq (dSet 1 (dCall d__law_random (dCons (dVar 0) (dCons (dK (.int 6)) dNil))))
    (dSeq (dIfS (dTest (dOp gEq (dVar 1) (dK (.int 0)))) (dRet (dK .non)) dNext)
    (dRet (dIf (dTest (dOp gLt (dVar 1) (dK (.int 5)))) (dOp gSub (dCall d__law_random (dCons (dVar 0) (dCons (dK (.int 7)) dNil))) (dK (.int 3))) (dOp gSub (dCall d__law_random (dCons (dVar 0) (dCons (dOp gMul (dK (.int 2)) (dOp gPow (dK (.int 10)) (dK (.int 29)))) dNil))) (dOp gPow (dK (.int 10)) (dK (.int 29))))))))
def d__law_worth : List D → DMem → XO D := dDef 2 b__law_worth false
def b__law_raw_run : DS := (dSeq (dPar 2 3 (dCons (dCall d__law_worth (dCons (dVar 0) dNil)) (dCons (dOp gSub (dCall d__law_random (dCons (dVar 0) (dCons (dK (.int 7)) dNil))) (dK (.int 3))) dNil)))
    (dSeq (dIfS (dTest (dOp gEq (dCall d__law_random (dCons (dVar 0) (dCons (dK (.int 5)) dNil))) (dK (.int 0)))) (dSet 3 (dOp gMul (dVar 3) (dOp gAdd (dCall d__law_random (dCons (dVar 0) (dCons (dOp gPow (dK (.int 10)) (dK (.int 20))) dNil))) (dK (.int 1))))) dNext)
    (dSeq (dIfS (dTest (dOpw gIs (dVar 2) (dK .non))) (dSet 3 (dK (.int 0))) dNext)
    (dSeq (dPar 4 5 (dCons (dCell dNil) (dCons (dLst (dCons (dVar 2) dNil)) dNil)))
    (dSeq (dFor (dRng1 (dCons (dCall d__law_random (dCons (dVar 0) (dCons (dK (.int 4)) dNil))) dNil)) (dgName 6) (dSet 5 (dOp gAdd (dLst (dCons (dCall d__law_back (dCons (dOpq gIx (dVar 5) (dK (.int 0))) (dCons (dVar 3) dNil))) dNil)) (dVar 5))))
    (dSeq (dFor (dRng1 (dCons (dCall d__law_random (dCons (dVar 0) (dCons (dVar 1) dNil))) dNil)) (dgName 6) (dDrop (dAppend (dVar 4) (dCons (dCall d__law_worth (dCons (dVar 0) dNil)) dNil))))
    (dRet (dTup (dCons (dOp gAdd (dVar 4) (dSl (dVar 5) dNoPart (dPart (dUn gNeg (dK (.int 1)))))) (dCons (dVar 2) (dCons (dVar 3) dNil)))))))))))
def d__law_raw_run : List D → DMem → XO D := dDef 7 b__law_raw_run true
def b__law_whole : DS := (dRet (dAndV (dIsi "int" (dVar 0)) (dNotV (dIsi "bool" (dVar 0)))))
def d__law_whole : List D → DMem → XO D := dDef 1 b__law_whole false
def b__law_is_least : DS := (dSeq (dIfS (dOr (dNot (dTest (dIsi "tuple" (dVar 0)))) (dOr (dTest (dOp gNe (dB gLen (dCons (dVar 0) dNil)) (dK (.int 3)))) (dNot (dTest (dIsi "list" (dOpq gIx (dVar 0) (dK (.int 0)))))))) (dRet (dK (.bl false))) dNext)
    (dSeq (dIfS (dOr (dTest (dOp gNe (dLc (dSrc srcL (dOpq gIx (dVar 0) (dK (.int 0)))) (dgName 1) (dAnd (dTest (dOpw gIsNot (dVar 1) (dK .non))) (dNot (dTest (dCall d__law_whole (dCons (dVar 1) dNil))))) (dVar 1) [1]) (dLst dNil))) (dNot (dTest (dCall d__law_whole (dCons (dOpq gIx (dVar 0) (dK (.int 2))) dNil))))) (dRet (dK (.bl false))) dNext)
    (dSeq (dIfS (dTest (dOpw gIs (dOpq gIx (dVar 0) (dK (.int 1))) (dK .non))) (dRet (dAndV (dOp gEq (dOpq gIx (dVar 0) (dK (.int 2))) (dK (.int 0))) (dOp gNe (dSl (dOpq gIx (dVar 0) (dK (.int 0))) (dPart (dUn gNeg (dK (.int 1)))) dNoPart) (dLst (dCons (dK .non) dNil))))) dNext)
    (dRet (dAndV (dCall d__law_whole (dCons (dOpq gIx (dVar 0) (dK (.int 1))) dNil)) (dOp gNe (dSl (dOpq gIx (dVar 0) (dK (.int 0))) (dPart (dUn gNeg (dK (.int 1)))) dNoPart) (dLst (dCons (dOp gSub (dOpq gIx (dVar 0) (dK (.int 1))) (dOpq gIx (dVar 0) (dK (.int 2)))) dNil))))))))
def d__law_is_least : List D → DMem → XO D := dDef 2 b__law_is_least false
/-! ### is_run, values -/
def isR (f : List Wt) (s : Wt) (k : Int) : Bool := f == [] || !(f.getLast? == some (back s k))
theorem nil_rl (f : List Wt) : gEq (rl f) (.lst []) = some (.bl (f == [])) := by
  cases f with
  | nil => kernel_rfl
  | cons x xs =>
    have e : shapedD (.lst []) = true := by kernel_rfl
    have e2 : shapedD (rl (x :: xs)) = true := by
      have hp : ∀ f : List Wt, D.pures (f.map wd) = true ∧ PyData.canLayAll0 (D.pys (f.map wd)) = true ∧ PyData.depthAll (D.pys (f.map wd)) = 0 := fun f => by
        induction f with
        | nil => exact ⟨rfl, by show PyData.canLayAll0 [] = true; unfold PyData.canLayAll0; rfl, by show PyData.depthAll [] = 0; unfold PyData.depthAll; rfl⟩
        | cons y ys ih =>
          refine ⟨?_, ?_, ?_⟩
          · show ((wd y).pure && D.pures (ys.map wd)) = true
            rw [ih.1]
            cases y <;> rfl
          · show PyData.canLayAll0 ((wd y).py :: D.pys (ys.map wd)) = true
            unfold PyData.canLayAll0
            rw [ih.2.1]
            cases y <;> (simp only [wd, D.py]; unfold PyData.canLay0; rfl)
          · show PyData.depthAll ((wd y).py :: D.pys (ys.map wd)) = 0
            unfold PyData.depthAll
            rw [ih.2.2]
            cases y <;> rfl
      show (D.pures ((x :: xs).map wd) && (PyData.canLayAll0 (D.pys ((x :: xs).map wd)) && decide (PyData.depthAll (D.pys ((x :: xs).map wd)) + 1 ≤ 64))) = true
      rw [(hp _).1, (hp _).2.1, (hp _).2.2]
      rfl
    unfold gEq
    rw [if_pos ⟨e2, e⟩]
    rfl
theorem isR_least {f f2 : List Wt} {s s2 : Wt} {k : Int} (h : Least f s k f2 s2) : isR f2 s2 k = true := by
  unfold isR
  rcases h.stop with z | z
  · rw [z]; rfl
  · have : (f2.getLast? == some (back s2 k)) = false := by
      cases q : (f2.getLast? == some (back s2 k)) with
      | false => rfl
      | true => exact absurd (by simpa using q) z
    rw [this]
    simp
theorem is_run_ok (f : List Wt) (s : Wt) (k : Int) (m : DMem) (hf : f.length ≤ 1000) (hk : s = none → k = 0) : d_is_run [run f s k] m = .ok (.bl (isR f s k)) m := by
  have t0 : dNot (dTest (dIsi "tuple" (dVar 0))) [some (run f s k), none, none, none] m = .ok false m := not_ok (test_bl (isi_ok (d := run f s k) (var_ok rfl) rfl kit_tuple_tuple))
  have t1 : dTest (dOp gNe (dB gLen (dCons (dVar 0) dNil)) (dK (.int 3))) [some (run f s k), none, none, none] m = .ok false m := test_bl (op_ok (b_ok (cons_ok (var_ok rfl) nil_ok) rfl rfl) (k_ok (d := .int 3)) rfl rfl (gNe_nat 3 3))
  have s1 := (ifS_f (f := dRet (dK (.bl false))) (g := dNext) ((or_f t0).trans t1)).trans rfl
  have s2 : dAsg (dVar 0) (dgTup 3 (dgCons (dgName 1) (dgCons (dgName 2) (dgCons (dgName 3) dgNil)))) [some (run f s k), none, none, none] m = .nx [some (run f s k), some (rl f), some (wd s), some (.int k)] m := asg_ok (var_ok rfl) rfl
  have a1 : dNot (dTest (dCall d_are_worths (dCons (dVar 1) dNil))) [some (run f s k), some (rl f), some (wd s), some (.int k)] m = .ok false m := not_ok (test_bl (call_ok (cons_ok (var_ok rfl) nil_ok) (worths_wd (rl f) f m LL.lst hf)))
  have a2 : dNot (dTest (dCall d_is_worth (dCons (dVar 2) dNil))) [some (run f s k), some (rl f), some (wd s), some (.int k)] m = .ok false m := not_ok (test_bl (call_ok (cons_ok (var_ok rfl) nil_ok) (worth_wd s m)))
  have a3 : dNot (dTest (dCall d_is_slope (dCons (dVar 2) (dCons (dVar 3) dNil)))) [some (run f s k), some (rl f), some (wd s), some (.int k)] m = .ok false m := not_ok (test_bl (call_ok (cons_ok (var_ok rfl) (cons_ok (var_ok rfl) nil_ok)) (slope_wd s k m hk)))
  have s3 := (ifS_f (f := dRet (dK (.bl false))) (g := dNext) ((or_f a1).trans ((or_f a2).trans a3))).trans rfl
  refine def_rt ((seq_nx s1).trans ((seq_nx s2).trans ((seq_nx s3).trans (ret_ok ?_))))
  have c1 : dOp gEq (dVar 1) (dLst dNil) [some (run f s k), some (rl f), some (wd s), some (.int k)] m = .ok (.bl (f == [])) m := op_ok (var_ok rfl) (lst_ok nil_ok (Nat.zero_le _)) rfl rfl (nil_rl f)
  unfold isR
  cases q : (f == []) with
  | true => rw [q] at c1; exact orV_t c1 rfl
  | false =>
    rw [q] at c1
    obtain ⟨x, hx⟩ : ∃ x, f.getLast? = some x := by
      cases f with
      | nil => cases q
      | cons x xs => exact ⟨_, List.getLast?_eq_getLast (List.cons_ne_nil x xs)⟩
    have i1 : dOpq gIx (dVar 1) (dUn gNeg (dK (.int 1))) [some (run f s k), some (rl f), some (wd s), some (.int k)] m = .ok (wd x) m := opq_ok (var_ok rfl) (un_ok (k_ok (d := .int 1)) rfl rfl) rfl rfl (gIx_last (by rw [List.getLast?_map, hx]; rfl))
    have i2 : dCall d_step_back (dCons (dVar 2) (dCons (dVar 3) dNil)) [some (run f s k), some (rl f), some (wd s), some (.int k)] m = .ok (wd (back s k)) m := call_ok (cons_ok (var_ok rfl) (cons_ok (var_ok rfl) nil_ok)) (back_wd s k m)
    have e : (f.getLast? == some (back s k)) = (x == back s k) := by rw [hx]; rfl
    rw [e]
    exact (orV_f c1 rfl).trans (op_ok i1 i2 (rs_wd _ _) (rs_wd _ _) (gNe_wd x (back s k)))
theorem check_run_ok (f : List Wt) (s : Wt) (k : Int) (m : DMem) (hf : f.length ≤ 1000) (hk : s = none → k = 0) (h : isR f s k = true) : d_check_run [run f s k] m = .ok .non m := by
  have w := is_run_ok f s k m hf hk
  rw [h] at w
  exact def_nx ((ifS_f (not_ok (test_bl (call_ok (cons_ok (var_ok rfl) nil_ok) w)))).trans rfl)
theorem check_nat (n : Nat) (m : DMem) : d_check_number [.int (n : Int), .int 0, .non] m = .ok .non m := by
  have b : d_is_between [.int (n : Int), .int 0, .non] m = .ok (.bl true) m := by
    have c0 : dCall d_is_whole (dCons (dVar 0) dNil) [some (.int (n : Int)), some (.int 0), some .non] m = .ok (.bl true) m := call_ok (cons_ok (var_ok rfl) nil_ok) (whole_int _ m)
    have c1 : dOp gLe (dVar 1) (dVar 0) [some (.int (n : Int)), some (.int 0), some .non] m = .ok (.bl true) m := op_ok (var_ok rfl) (var_ok rfl) rfl rfl (by
      show some (D.bl (decide ((0 : Int) ≤ (n : Int)))) = _
      rw [decide_eq_true (by omega)])
    have c2 : dOpw gIs (dVar 2) (dK .non) [some (.int (n : Int)), some (.int 0), some .non] m = .ok (.bl true) m := opw_ok (var_ok rfl) k_ok rfl
    exact def_rt (ret_ok ((andV_t c0 rfl).trans ((andV_t c1 rfl).trans (orV_t c2 rfl))))
  exact def_nx ((ifS_f (not_ok (test_bl (call_ok (cons_ok (var_ok rfl) (cons_ok (var_ok rfl) (cons_ok (var_ok rfl) nil_ok))) b)))).trans rfl)
theorem lt_nat (a b : Nat) : gLt (.int (a : Int)) (.int (b : Int)) = some (.bl (decide (a < b))) := by
  show some (D.bl (decide ((a : Int) < (b : Int)))) = _
  congr 2
  rw [Bool.eq_iff_iff, decide_eq_true_iff, decide_eq_true_iff]
  omega
theorem gMul_int {i j : Int} {a b : Nat} (ha : i.natAbs < 2 ^ a) (hb : j.natAbs < 2 ^ b) (h : a + b ≤ 134217728) : gMul (.int i) (.int j) = some (.int (i * j)) := by
  have c : (Builtin.Int.intBits i : Int) + (Builtin.Int.intBits j : Int) ≤ 134217728 := L2.mulx_ok ha hb h
  unfold gMul
  dsimp only
  rw [if_pos c]
theorem value_of_ok (f : List Wt) (s : Wt) (k : Int) (n : Nat) (m : DMem) (hk : k.natAbs < 2 ^ 1000) (hn : n < 2 ^ 1000) : d_value_of [run f s k, .int (n : Int)] m = .ok (wd (rv f s k n)) m := by
  have s1 : dAsg (dVar 0) (dgTup 3 (dgCons (dgName 2) (dgCons (dgName 3) (dgCons (dgName 4) dgNil)))) [some (run f s k), some (.int (n : Int)), none, none, none] m = .nx [some (run f s k), some (.int (n : Int)), some (rl f), some (wd s), some (.int k)] m := asg_ok (var_ok rfl) rfl
  have lf : dB gLen (dCons (dVar 2) dNil) [some (run f s k), some (.int (n : Int)), some (rl f), some (wd s), some (.int k)] m = .ok (.int (f.length : Int)) m := len_L (L := rl f) LL.lst rfl
  have c := test_bl (op_ok (var_ok (i := 1) rfl) lf rfl rfl (lt_nat n f.length))
  refine def_rt ((seq_nx s1).trans ?_)
  unfold rv
  by_cases q : n < f.length
  · rw [decide_eq_true q] at c
    rw [if_pos q, List.getElem?_eq_getElem q]
    exact seq_rt ((ifS_t c).trans (ret_ok (opq_ok (var_ok rfl) (var_ok rfl) rfl rfl (gIx_nat (get_wd (List.getElem?_eq_getElem q))))))
  · rw [decide_eq_false q] at c
    rw [if_neg q]
    refine (seq_nx ((ifS_f c).trans rfl)).trans ?_
    cases s with
    | none =>
      have c2 : dTest (dOpw gIs (dVar 3) (dK .non)) [some (run f none k), some (.int (n : Int)), some (rl f), some (wd none), some (.int k)] m = .ok true m := test_bl (opw_ok (var_ok rfl) k_ok rfl)
      exact seq_rt ((ifS_t c2).trans (ret_ok k_ok))
    | some a =>
      have c2 : dTest (dOpw gIs (dVar 3) (dK .non)) [some (run f (some a) k), some (.int (n : Int)), some (rl f), some (wd (some a)), some (.int k)] m = .ok false m := test_bl (opw_ok (var_ok rfl) k_ok rfl)
      refine (seq_nx ((ifS_f c2).trans rfl)).trans (ret_ok ?_)
      have d1 := op_ok (var_ok (i := 1) (e := [some (run f (some a) k), some (.int (n : Int)), some (rl f), some (wd (some a)), some (.int k)]) (m := m) rfl) lf rfl rfl (show gSub (.int (n : Int)) (.int (f.length : Int)) = some (.int ((n : Int) - f.length)) from rfl)
      have d2 := op_ok (var_ok (i := 4) rfl) d1 rfl rfl (gMul_int hk (show ((n : Int) - f.length).natAbs < 2 ^ 1000 by omega) (by decide))
      exact op_ok (var_ok (d := .int a) rfl) d2 rfl rfl rfl
theorem run_value_ok (f : List Wt) (s : Wt) (k : Int) (n : Nat) (m : DMem) (hf : f.length ≤ 1000) (hz : s = none → k = 0) (h : isR f s k = true) (hk : k.natAbs < 2 ^ 1000) (hn : n < 2 ^ 1000) : d_run_value [run f s k, .int (n : Int)] m = .ok (wd (rv f s k n)) m :=
  def_rt ((seq_nx (drop_ok (call_ok (cons_ok (var_ok rfl) nil_ok) (check_run_ok f s k m hf hz h)))).trans ((seq_nx (drop_ok (call_ok (cons_ok (var_ok rfl) (cons_ok k_ok (cons_ok k_ok nil_ok))) (check_nat n m)))).trans (ret_ok (call_ok (cons_ok (var_ok rfl) (cons_ok (var_ok rfl) nil_ok)) (value_of_ok f s k n m hk hn)))))
end RU
end

section
set_option Elab.async false
set_option linter.all false
set_option maxRecDepth 100000
set_option maxHeartbeats 4000000
namespace RU
open PySem DX LG
theorem rl_facts (f : List Wt) : D.pures (f.map wd) = true ∧ PyData.canLayAll0 (D.pys (f.map wd)) = true ∧ PyData.depthAll (D.pys (f.map wd)) = 0 := by
  induction f with
  | nil => exact ⟨rfl, by show PyData.canLayAll0 [] = true; unfold PyData.canLayAll0; rfl, by show PyData.depthAll [] = 0; unfold PyData.depthAll; rfl⟩
  | cons y ys ih =>
    refine ⟨?_, ?_, ?_⟩
    · show ((wd y).pure && D.pures (ys.map wd)) = true
      rw [ih.1]
      cases y <;> rfl
    · show PyData.canLayAll0 ((wd y).py :: D.pys (ys.map wd)) = true
      unfold PyData.canLayAll0
      rw [ih.2.1]
      cases y <;> (simp only [wd, D.py]; unfold PyData.canLay0; rfl)
    · show PyData.depthAll ((wd y).py :: D.pys (ys.map wd)) = 0
      unfold PyData.depthAll
      rw [ih.2.2]
      cases y <;> rfl
theorem shaped_rl (f : List Wt) : shapedD (rl f) = true := by
  obtain ⟨h1, h2, h3⟩ := rl_facts f
  show (D.pures (f.map wd) && (PyData.canLayAll0 (D.pys (f.map wd)) && decide (PyData.depthAll (D.pys (f.map wd)) + 1 ≤ 64))) = true
  rw [h1, h2, h3]
  rfl
theorem eqv_wd (x y : Wt) : PyData.eqv (wd x).py (wd y).py = (x == y) := by
  cases x <;> cases y <;> (simp only [wd, D.py]; unfold PyData.eqv; rfl)
theorem eqv_rl : ∀ x y : List Wt, PyData.eqvAll (D.pys (x.map wd)) (D.pys (y.map wd)) = (x == y)
  | [], [] => by show PyData.eqvAll [] [] = true; unfold PyData.eqvAll; rfl
  | [], y :: ys => by show PyData.eqvAll [] (_ :: _) = false; unfold PyData.eqvAll; rfl
  | x :: xs, [] => by show PyData.eqvAll (_ :: _) [] = false; unfold PyData.eqvAll; rfl
  | x :: xs, y :: ys => by
    show PyData.eqvAll ((wd x).py :: D.pys (xs.map wd)) ((wd y).py :: D.pys (ys.map wd)) = ((x :: xs) == (y :: ys))
    unfold PyData.eqvAll
    rw [eqv_wd, eqv_rl xs ys]
    rfl
theorem gEq_rl (x y : List Wt) : gEq (rl x) (rl y) = some (.bl (x == y)) := by
  unfold gEq
  rw [if_pos ⟨shaped_rl x, shaped_rl y⟩]
  unfold eqD
  rw [show PyData.eqv (rl x).py (rl y).py = (x == y) by
    show PyData.eqv (.list (D.pys (x.map wd))) (.list (D.pys (y.map wd))) = _
    unfold PyData.eqv
    exact eqv_rl x y]
theorem gNe_rl (x y : List Wt) : gNe (rl x) (rl y) = some (.bl (!(x == y))) := by
  unfold gNe
  rw [if_pos ⟨shaped_rl x, shaped_rl y⟩]
  unfold eqD
  rw [show PyData.eqv (rl x).py (rl y).py = (x == y) by
    show PyData.eqv (.list (D.pys (x.map wd))) (.list (D.pys (y.map wd))) = _
    unfold PyData.eqv
    exact eqv_rl x y]
/-! ### the law's own readings -/
theorem if_t {c : DT} {f g : DE} {e : DEnv} {m m1 : DMem} (h : c e m = .ok true m1) : dIf c f g e m = f e m1 := by
  unfold dIf
  rw [h]
  rfl
theorem if_f {c : DT} {f g : DE} {e : DEnv} {m m1 : DMem} (h : c e m = .ok false m1) : dIf c f g e m = g e m1 := by
  unfold dIf
  rw [h]
  rfl
theorem ix_run {f : List Wt} {s : Wt} {k : Int} {i : Nat} {e : DEnv} {m : DMem} (h : e[i]? = some (some (run f s k))) : dOpq gIx (dVar i) (dK (.int 0)) e m = .ok (rl f) m ∧ dOpq gIx (dVar i) (dK (.int 1)) e m = .ok (wd s) m ∧ dOpq gIx (dVar i) (dK (.int 2)) e m = .ok (.int k) m :=
  ⟨opq_ok (var_ok h) (k_ok (d := .int 0)) rfl rfl rfl, opq_ok (var_ok h) (k_ok (d := .int 1)) rfl rfl rfl, opq_ok (var_ok h) (k_ok (d := .int 2)) rfl rfl rfl⟩
theorem lawback_ok (s : Wt) (k : Int) (m : DMem) : d__law_back [wd s, .int k] m = .ok (wd (back s k)) m := by
  cases s with
  | none => exact def_rt (ret_ok ((if_t (test_bl (opw_ok (var_ok (d := .non) rfl) k_ok rfl))).trans k_ok))
  | some a => exact def_rt (ret_ok ((if_f (test_bl (opw_ok (var_ok (d := .int a) rfl) k_ok rfl))).trans (op_ok (var_ok rfl) (var_ok rfl) rfl rfl rfl)))
theorem lawvalue_ok (f : List Wt) (s : Wt) (k : Int) (n : Nat) (m : DMem) (hk : k.natAbs < 2 ^ 1000) (hn : n < 2 ^ 1000) : d__law_value [run f s k, .int (n : Int)] m = .ok (wd (rv f s k n)) m := by
  obtain ⟨g0, g1, g2⟩ := ix_run (f := f) (s := s) (k := k) (i := 0) (e := [some (run f s k), some (.int (n : Int))]) (m := m) rfl
  have lf : dB gLen (dCons (dOpq gIx (dVar 0) (dK (.int 0))) dNil) [some (run f s k), some (.int (n : Int))] m = .ok (.int (f.length : Int)) m := b_ok (cons_ok g0 nil_ok) rfl (gLen_lst (by rw [List.length_map]))
  have c := test_bl (op_ok (var_ok (i := 1) rfl) lf rfl rfl (lt_nat n f.length))
  refine def_rt ?_
  unfold rv
  by_cases q : n < f.length
  · rw [decide_eq_true q] at c
    rw [if_pos q, List.getElem?_eq_getElem q]
    exact seq_rt ((ifS_t c).trans (ret_ok (opq_ok g0 (var_ok rfl) rfl rfl (gIx_nat (get_wd (List.getElem?_eq_getElem q))))))
  · rw [decide_eq_false q] at c
    rw [if_neg q]
    refine (seq_nx ((ifS_f c).trans rfl)).trans (ret_ok ?_)
    cases s with
    | none => exact (if_t (test_bl (opw_ok g1 k_ok rfl))).trans k_ok
    | some a =>
      have d1 := op_ok (var_ok (i := 1) (e := [some (run f (some a) k), some (.int (n : Int))]) (m := m) rfl) lf rfl rfl (show gSub (.int (n : Int)) (.int (f.length : Int)) = some (.int ((n : Int) - f.length)) from rfl)
      have d2 := op_ok g2 d1 rfl rfl (gMul_int hk (show ((n : Int) - f.length).natAbs < 2 ^ 1000 by omega) (by decide))
      exact (if_f (test_bl (opw_ok g1 k_ok rfl))).trans (op_ok g1 d2 rfl rfl rfl)
theorem lawwhole_ok (n : Int) (m : DMem) : d__law_whole [.int n] m = .ok (.bl true) m := whole_int n m
theorem last_rl (x : List Wt) : gSl (rl x) (some (-1)) none = some (rl (x.drop (x.length - 1))) := by
  cases x with
  | nil => kernel_rfl
  | cons y ys =>
    show some (D.lst ((((y :: ys).map wd).drop (HT.sIx ((y :: ys).map wd).length 0 (some (-1)))).take (HT.sIx ((y :: ys).map wd).length ((y :: ys).map wd).length none - HT.sIx ((y :: ys).map wd).length 0 (some (-1))))) = _
    have e : HT.sIx ((y :: ys).map wd).length 0 (some (-1)) = (y :: ys).length - 1 := by
      unfold HT.sIx
      rw [List.length_map]
      dsimp only
      rw [if_pos (by decide), List.length_cons]
      omega
    rw [e, show HT.sIx ((y :: ys).map wd).length ((y :: ys).map wd).length none = ((y :: ys).map wd).length from rfl, List.take_of_length_le (by rw [List.length_drop]; omega), ← List.map_drop]
theorem isR_drop (f : List Wt) (s : Wt) (k : Int) : (!(f.drop (f.length - 1) == [back s k])) = isR f s k := by
  unfold isR
  cases f with
  | nil => rfl
  | cons x xs =>
    have hl : (x :: xs).length - 1 < (x :: xs).length := by rw [List.length_cons]; omega
    have e1 : (x :: xs).drop ((x :: xs).length - 1) = [(x :: xs)[(x :: xs).length - 1]] := by rw [List.drop_eq_getElem_cons hl, List.drop_of_length_le (by omega)]
    have e2 : (x :: xs).getLast? = some (x :: xs)[(x :: xs).length - 1] := by rw [List.getLast?_eq_getElem?]; exact List.getElem?_eq_getElem hl
    rw [e1, e2]
    generalize (x :: xs)[(x :: xs).length - 1] = z
    show (!(z == back s k && ([] : List Wt) == [])) = (false || !(some z == some (back s k)))
    rw [show (([] : List Wt) == []) = true from rfl, Bool.and_true, Bool.false_or]
    rfl
theorem lawleast_ok (f : List Wt) (s : Wt) (k : Int) (m : DMem) (hf : f.length ≤ 1000) (hk : s = none → k = 0) : d__law_is_least [run f s k] m = .ok (.bl (isR f s k)) m := by
  obtain ⟨g0, g1, g2⟩ := ix_run (f := f) (s := s) (k := k) (i := 0) (e := [some (run f s k), none]) (m := m) rfl
  have t0 : dNot (dTest (dIsi "tuple" (dVar 0))) [some (run f s k), none] m = .ok false m := not_ok (test_bl (isi_ok (d := run f s k) (var_ok rfl) rfl kit_tuple_tuple))
  have t1 : dTest (dOp gNe (dB gLen (dCons (dVar 0) dNil)) (dK (.int 3))) [some (run f s k), none] m = .ok false m := test_bl (op_ok (b_ok (cons_ok (var_ok rfl) nil_ok) rfl rfl) (k_ok (d := .int 3)) rfl rfl (gNe_nat 3 3))
  have t2 : dNot (dTest (dIsi "list" (dOpq gIx (dVar 0) (dK (.int 0))))) [some (run f s k), none] m = .ok false m := not_ok (test_bl (isi_ok (d := rl f) g0 rfl kit_list_list))
  obtain ⟨src, s1, s2, s3⟩ := (LL.lst (m := m) (xs := f.map wd)).src (f := dOpq gIx (dVar 0) (dK (.int 0))) (env := [some (run f s k), none]) (m0 := m) g0
  have e := lc_plainS (tg := dgName 1) (tt := dAnd (dTest (dOpw gIsNot (dVar 1) (dK .non))) (dNot (dTest (dCall d__law_whole (dCons (dVar 1) dNil))))) (fe := dVar 1) (ws := [1]) (p := fun _ => false) (g := id) s1 s2 (fun acc i => s3 [some acc] i) (size_le (by rw [List.length_map]; omega)) (fun d acc hd => by
    obtain ⟨x, _, rfl⟩ := List.mem_map.mp hd
    refine ⟨_, rfl, ?_, fun z => by cases z⟩
    cases x with
    | none => exact and_f (test_bl (opw_ok (var_ok rfl) k_ok rfl))
    | some i => exact (and_t (test_bl (opw_ok (var_ok rfl) k_ok rfl))).trans (not_ok (test_bl (call_ok (cons_ok (var_ok rfl) nil_ok) (lawwhole_ok i _)))))
  rw [show List.filter (fun _ => false) (f.map wd) = [] from List.filter_eq_nil_iff.mpr fun _ _ => Bool.false_ne_true] at e
  have t3 := test_bl (op_ok e (lst_ok nil_ok (Nat.zero_le _)) rfl rfl (show gNe (.lst []) (.lst []) = some (.bl false) by kernel_rfl))
  have t4 : dNot (dTest (dCall d__law_whole (dCons (dOpq gIx (dVar 0) (dK (.int 2))) dNil))) [some (run f s k), none] m = .ok false m := not_ok (test_bl (call_ok (cons_ok g2 nil_ok) (lawwhole_ok k m)))
  have u1 := (ifS_f (f := dRet (dK (.bl false))) (g := dNext) ((or_f t0).trans ((or_f t1).trans t2))).trans rfl
  have u2 := (ifS_f (f := dRet (dK (.bl false))) (g := dNext) ((or_f t3).trans t4)).trans rfl
  have p1 : dPart (dUn gNeg (dK (.int 1))) [some (run f s k), none] m = .ok (some (-1)) m := part_ok (un_ok (k_ok (d := .int 1)) rfl rfl)
  have sl := sl_ok g0 p1 nopart_ok rfl (last_rl f)
  refine def_rt ((seq_nx u1).trans ((seq_nx u2).trans ?_))
  rw [← isR_drop]
  cases s with
  | none =>
    have c : dTest (dOpw gIs (dOpq gIx (dVar 0) (dK (.int 1))) (dK .non)) [some (run f none k), none] m = .ok true m := test_bl (opw_ok g1 k_ok rfl)
    have z := hk rfl
    subst z
    refine seq_rt ((ifS_t c).trans (ret_ok ((andV_t (op_ok g2 (k_ok (d := .int 0)) rfl rfl (gEq_int 0 0)) rfl).trans ?_)))
    exact op_ok sl (lst_ok (cons_ok (k_ok (d := .non)) nil_ok) (by show 1 ≤ 1000; decide)) rfl rfl (gNe_rl _ [none])
  | some a =>
    have c : dTest (dOpw gIs (dOpq gIx (dVar 0) (dK (.int 1))) (dK .non)) [some (run f (some a) k), none] m = .ok false m := test_bl (opw_ok g1 k_ok rfl)
    have w : dCall d__law_whole (dCons (dOpq gIx (dVar 0) (dK (.int 1))) dNil) [some (run f (some a) k), none] m = .ok (.bl true) m := call_ok (cons_ok g1 nil_ok) (lawwhole_ok a m)
    refine (seq_nx ((ifS_f c).trans rfl)).trans (ret_ok ((andV_t w rfl).trans ?_))
    exact op_ok sl (lst_ok (cons_ok (op_ok g1 g2 rfl rfl rfl) nil_ok) (by show 1 ≤ 1000; decide)) rfl rfl (gNe_rl _ [some (a - k)])
end RU
end

section
set_option Elab.async false
set_option linter.all false
set_option maxRecDepth 100000
set_option maxHeartbeats 4000000
namespace RU
open PySem DX LG
/-- small values -/
def Wb (b : Nat) (w : Wt) : Prop := ∀ i, w = some i → i.natAbs < 2 ^ b
theorem Wb.mono {b c : Nat} {w : Wt} (h : Wb b w) (hc : b ≤ c) : Wb c w := fun i e => Nat.lt_of_lt_of_le (h i e) (Nat.pow_le_pow_right (by decide) hc)
theorem Wb.nice {b : Nat} {w : Wt} (h : Wb b w) : (wd w).nice b := by
  cases w with
  | none => exact trivial
  | some i => exact h i rfl
theorem Wb.back {b : Nat} {w : Wt} {k : Int} (h : Wb b w) (hk : k.natAbs < 2 ^ b) : Wb (b + 1) (back w k) := by
  cases w with
  | none => intro i e; cases e
  | some a =>
    intro i e
    have ha := h a rfl
    have : i = a - k := (Option.some.inj e).symm
    subst this
    rw [Nat.pow_succ]
    omega
theorem bits_small {n : Nat} (h : n < 2 ^ 200) : Builtin.Int.intBits (n : Int) ≤ 300 := by
  have := PyProof.Rows.intBits_le (a := (n : Int)) (k := 200) (by rw [Int.natAbs_natCast]; exact h)
  omega
theorem draw (B : Nat) (hB : 0 < B) (hb : B < 2 ^ 200) (a : Int) (b c : Nat) (r : DMem) (h1 : b < 2 ^ 31) (h2 : c + 20 < 2 ^ 20) :
    ∃ (x : Nat) (a' : Int) (c' : Nat), x < B ∧ c' ≤ c + 11 ∧ d__law_random [.mr 0, .int (B : Int)] (gc a b c r) = .ok (.int (x : Int)) (gc a' b c' r) :=
  random_ok hash_ok B hB (bits_small hb) a b c r h1 h2
theorem p29 : (10 : Int) ^ 29 = 100000000000000000000000000000 := by kernel_rfl
theorem worth_draw (a : Int) (b c : Nat) (r : DMem) (h1 : b < 2 ^ 31) (h2 : c + 40 < 2 ^ 20) : ∃ (w : Wt) (a' : Int) (c' : Nat), Wb 100 w ∧ c' ≤ c + 22 ∧ d__law_worth [.mr 0] (gc a b c r) = .ok (wd w) (gc a' b c' r) := by
  obtain ⟨x, a1, c1, hx, hc, e1⟩ := draw 6 (by decide) (by decide) a b c r h1 (by omega)
  have s1 : dSet 1 (dCall d__law_random (dCons (dVar 0) (dCons (dK (.int 6)) dNil))) [some (.mr 0), none] (gc a b c r) = .nx [some (.mr 0), some (.int (x : Int))] (gc a1 b c1 r) := set_ok (call_ok (cons_ok (var_ok rfl) (cons_ok (k_ok (d := .int 6)) nil_ok)) e1)
  have c0 := test_bl (op_ok (var_ok (i := 1) (e := [some (.mr 0), some (.int (x : Int))]) (m := gc a1 b c1 r) rfl) (k_ok (d := .int 0)) rfl rfl (gEq_nat x 0))
  cases q : (x == 0) with
  | true =>
    rw [q] at c0
    exact ⟨none, a1, c1, fun i e => (by cases e), by omega, def_rt ((seq_nx s1).trans (seq_rt ((ifS_t c0).trans (ret_ok k_ok))))⟩
  | false =>
    rw [q] at c0
    have s2 := (ifS_f (f := dRet (dK .non)) (g := dNext) c0).trans rfl
    have c5 := test_bl (op_ok (var_ok (i := 1) (e := [some (.mr 0), some (.int (x : Int))]) (m := gc a1 b c1 r) rfl) (k_ok (d := .int 5)) rfl rfl (lt_nat x 5))
    by_cases h5 : x < 5
    · rw [decide_eq_true h5] at c5
      obtain ⟨y, a2, c2, hy, hc2, e2⟩ := draw 7 (by decide) (by decide) a1 b c1 r h1 (by omega)
      refine ⟨some ((y : Int) - 3), a2, c2, fun i e => ?_, by omega, def_rt ((seq_nx s1).trans ((seq_nx s2).trans (ret_ok ((if_t c5).trans (op_ok (call_ok (cons_ok (var_ok rfl) (cons_ok (k_ok (d := .int 7)) nil_ok)) e2) (k_ok (d := .int 3)) rfl rfl rfl)))))⟩
      have : i = (y : Int) - 3 := (Option.some.inj e).symm
      subst this
      exact Nat.lt_of_le_of_lt (show ((y : Int) - 3).natAbs ≤ 10 by omega) (by decide)
    · rw [decide_eq_false h5] at c5
      obtain ⟨y, a2, c2, hy, hc2, e2⟩ := draw (2 * 10 ^ 29) (by decide) (by decide) a1 b c1 r h1 (by omega)
      have e2 : d__law_random [.mr 0, .int (2 * 10 ^ 29)] (gc a1 b c1 r) = .ok (.int (y : Int)) (gc a2 b c2 r) := e2
      have pw : gPow (.int 10) (.int 29) = some (.int (10 ^ 29)) := by kernel_rfl
      have mw : gMul (.int 2) (.int (10 ^ 29)) = some (.int (2 * 10 ^ 29)) := gMul_int (i := 2) (j := 10 ^ 29) (a := 2) (b := 100) (by decide) (by decide +kernel) (by decide)
      refine ⟨some ((y : Int) - 10 ^ 29), a2, c2, fun i e => ?_, by omega, def_rt ((seq_nx s1).trans ((seq_nx s2).trans (ret_ok ((if_f c5).trans (op_ok (call_ok (cons_ok (var_ok rfl) (cons_ok (op_ok (k_ok (d := .int 2)) (op_ok (k_ok (d := .int 10)) (k_ok (d := .int 29)) rfl rfl pw) rfl rfl mw) nil_ok)) e2) (op_ok (k_ok (d := .int 10)) (k_ok (d := .int 29)) rfl rfl pw) rfl rfl rfl)))))⟩
      have : i = (y : Int) - 10 ^ 29 := (Option.some.inj e).symm
      subst this
      rw [p29]
      have pn : (2 : Nat) * 10 ^ 29 = 200000000000000000000000000000 := by decide
      rw [pn] at hy
      exact Nat.lt_of_le_of_lt (show ((y : Int) - 100000000000000000000000000000).natAbs ≤ 100000000000000000000000000000 by omega) (by decide)
/-- a list of small values -/
def Wl (b : Nat) (f : List Wt) : Prop := ∀ w ∈ f, Wb b w
theorem Wl.nices {b : Nat} : ∀ {f : List Wt}, Wl b f → D.nices b (f.map wd)
  | [], _ => trivial
  | w :: f, h => ⟨(h w List.mem_cons_self).nice, Wl.nices fun u hu => h u (List.mem_cons_of_mem _ hu)⟩
theorem add_rl (x y : List Wt) (h : x.length + y.length ≤ 1000) : gAdd (rl x) (rl y) = some (rl (x ++ y)) := by
  unfold gAdd
  dsimp only
  rw [if_pos (size_le (by rw [List.length_map, List.length_map]; omega)), ← List.map_append]
theorem append_ok {f : DE} {fs : DA} {e : DEnv} {m m1 : DMem} {k : Nat} {a : D} {es es2 : List D} (h : f e m = .ok (.mr k) m) (hc : cellAt k m = some es2) (ha : fs e m = .ok [a] m1) (hc1 : cellAt k m1 = some es) (hl : es.length ≤ 1000) (hn : a.noMr = true) : dAppend f fs e m = .ok .non (m1.set k (some (es ++ [a]))) := by
  unfold dAppend
  rw [h]
  show (match cellAt k m with | some _ => (fs e m).bind _ | none => _) = _
  rw [hc]
  show (fs e m).bind _ = _
  rw [ha]
  show (match cellAt k m1 with | some es => _ | none => _) = _
  rw [hc1]
  dsimp only
  rw [if_pos ⟨Nat.lt_of_lt_of_le (show es.length < 1001 by omega) (size_le (by decide)), hn⟩]
theorem butlast_rl (x : List Wt) : gSl (rl x) none (some (-1)) = some (rl (x.take (x.length - 1))) := by
  show some (D.lst (((x.map wd).drop (HT.sIx (x.map wd).length 0 none)).take (HT.sIx (x.map wd).length (x.map wd).length (some (-1)) - HT.sIx (x.map wd).length 0 none))) = _
  have e : HT.sIx (x.map wd).length (x.map wd).length (some (-1)) = x.length - 1 := by
    unfold HT.sIx
    rw [List.length_map]
    dsimp only
    rw [if_pos (by decide)]
    omega
  rw [e, show HT.sIx (x.map wd).length 0 none = 0 from rfl, List.drop_zero, Nat.sub_zero, ← List.map_take]
theorem raw_draw (a : Int) (b c : Nat) (M : Nat) (hM : 0 < M) (hM2 : M ≤ 20) (h1 : b < 2 ^ 31) (h2 : c + 1000 < 2 ^ 20) : ∃ (f : List Wt) (s : Wt) (k : Int) (a' : Int) (c' : Nat), f.length ≤ M + 3 ∧ Wl 110 f ∧ Wb 100 s ∧ k.natAbs < 2 ^ 100 ∧ (s = none → k = 0) ∧ c' ≤ c + 600 ∧ d__law_raw_run [.mr 0, .int (M : Int)] (gc a b c []) = .ok (run f s k) (gc a' b c' []) := by
  -- start, slope
  obtain ⟨s, a1, c1, hs, hc1, e1⟩ := worth_draw a b c [] h1 (by omega)
  obtain ⟨x, a2, c2, hx, hc2, e2⟩ := draw 7 (by decide) (by decide) a1 b c1 [] h1 (by omega)
  have s1 : dPar 2 3 (dCons (dCall d__law_worth (dCons (dVar 0) dNil)) (dCons (dOp gSub (dCall d__law_random (dCons (dVar 0) (dCons (dK (.int 7)) dNil))) (dK (.int 3))) dNil)) [some (.mr 0), some (.int (M : Int)), none, none, none, none, none] (gc a b c []) = .nx [some (.mr 0), some (.int (M : Int)), some (wd s), some (.int ((x : Int) - 3)), none, none, none] (gc a2 b c2 []) :=
    par_ok (cons_ok (call_ok (cons_ok (var_ok rfl) nil_ok) e1) (cons_ok (op_ok (call_ok (cons_ok (var_ok rfl) (cons_ok (k_ok (d := .int 7)) nil_ok)) e2) (k_ok (d := .int 3)) rfl rfl rfl) nil_ok))
  -- a greater slope
  obtain ⟨k2, a4, c4, hk2, hc4, s2⟩ : ∃ (k2 : Int) (a4 : Int) (c4 : Nat), k2.natAbs < 2 ^ 100 ∧ c4 ≤ c2 + 22 ∧ dIfS (dTest (dOp gEq (dCall d__law_random (dCons (dVar 0) (dCons (dK (.int 5)) dNil))) (dK (.int 0)))) (dSet 3 (dOp gMul (dVar 3) (dOp gAdd (dCall d__law_random (dCons (dVar 0) (dCons (dOp gPow (dK (.int 10)) (dK (.int 20))) dNil))) (dK (.int 1))))) dNext [some (.mr 0), some (.int (M : Int)), some (wd s), some (.int ((x : Int) - 3)), none, none, none] (gc a2 b c2 []) = .nx [some (.mr 0), some (.int (M : Int)), some (wd s), some (.int k2), none, none, none] (gc a4 b c4 []) := by
    obtain ⟨y, a3, c3, hy, hc3, e3⟩ := draw 5 (by decide) (by decide) a2 b c2 [] h1 (by omega)
    have t := test_bl (op_ok (call_ok (cons_ok (var_ok (i := 0) (e := [some (.mr 0), some (.int (M : Int)), some (wd s), some (.int ((x : Int) - 3)), none, none, none]) rfl) (cons_ok (k_ok (d := .int 5)) nil_ok)) e3) (k_ok (d := .int 0)) rfl rfl (gEq_nat y 0))
    cases q : (y == 0) with
    | false =>
      rw [q] at t
      exact ⟨(x : Int) - 3, a3, c3, Nat.lt_of_le_of_lt (show ((x : Int) - 3).natAbs ≤ 10 by omega) (by decide), by omega, (ifS_f t).trans rfl⟩
    | true =>
      rw [q] at t
      obtain ⟨z, a4, c4, hz, hc4, e4⟩ := draw (10 ^ 20) (by decide) (by decide) a3 b c3 [] h1 (by omega)
      have e4 : d__law_random [.mr 0, .int (10 ^ 20)] (gc a3 b c3 []) = .ok (.int (z : Int)) (gc a4 b c4 []) := e4
      have hz' : z + 1 < 2 ^ 68 := by
        have p1 : (10 : Nat) ^ 20 = 100000000000000000000 := by decide
        have p2 : (2 : Nat) ^ 68 = 295147905179352825856 := by decide
        rw [p1] at hz
        rw [p2]
        omega
      have hx3 : ((x : Int) - 3).natAbs < 2 ^ 4 := by
        have : (2 : Nat) ^ 4 = 16 := by decide
        omega
      refine ⟨((x : Int) - 3) * ((z + 1 : Nat) : Int), a4, c4, ?_, by omega, (ifS_t t).trans (set_ok (op_ok (var_ok rfl) (op_ok (call_ok (cons_ok (var_ok rfl) (cons_ok (op_ok (k_ok (d := .int 10)) (k_ok (d := .int 20)) rfl rfl (show gPow (.int 10) (.int 20) = some (.int (10 ^ 20)) by kernel_rfl)) nil_ok)) e4) (k_ok (d := .int 1)) rfl rfl (gAdd_nat z 1)) rfl rfl (gMul_int hx3 (show ((z + 1 : Nat) : Int).natAbs < 2 ^ 68 by rw [Int.natAbs_natCast]; exact hz') (by decide))))⟩
      rw [Int.natAbs_mul, Int.natAbs_natCast]
      exact Nat.lt_of_lt_of_le (Nat.mul_lt_mul'' hx3 hz') (by decide)
  -- None: slope 0
  obtain ⟨k, hk, hkz, s3⟩ : ∃ k : Int, k.natAbs < 2 ^ 100 ∧ (s = none → k = 0) ∧ dIfS (dTest (dOpw gIs (dVar 2) (dK .non))) (dSet 3 (dK (.int 0))) dNext [some (.mr 0), some (.int (M : Int)), some (wd s), some (.int k2), none, none, none] (gc a4 b c4 []) = .nx [some (.mr 0), some (.int (M : Int)), some (wd s), some (.int k), none, none, none] (gc a4 b c4 []) := by
    cases s with
    | none => exact ⟨0, by decide, fun _ => rfl, (ifS_t (test_bl (opw_ok (var_ok (d := .non) rfl) k_ok rfl))).trans (set_ok k_ok)⟩
    | some i => exact ⟨k2, hk2, fun z => (by cases z), (ifS_f (test_bl (opw_ok (var_ok (d := .int i) rfl) k_ok rfl))).trans rfl⟩
  have s4 : dPar 4 5 (dCons (dCell dNil) (dCons (dLst (dCons (dVar 2) dNil)) dNil)) [some (.mr 0), some (.int (M : Int)), some (wd s), some (.int k), none, none, none] (gc a4 b c4 []) = .nx [some (.mr 0), some (.int (M : Int)), some (wd s), some (.int k), some (.mr 1), some (rl [s]), none] (gc a4 b c4 [some []]) :=
    par_ok (cons_ok (cellOf_ok nil_ok (Nat.zero_le _) rfl) (cons_ok (lst_ok (cons_ok (var_ok rfl) nil_ok) (by show 1 ≤ 1000; decide)) nil_ok))
  -- the line
  obtain ⟨n1, a5, c5, hn1, hc5, e5⟩ := draw 4 (by decide) (by decide) a4 b c4 [some []] h1 (by omega)
  have f1 : dRng1 (dCons (dCall d__law_random (dCons (dVar 0) (dCons (dK (.int 4)) dNil))) dNil) [some (.mr 0), some (.int (M : Int)), some (wd s), some (.int k), some (.mr 1), some (rl [s]), none] (gc a4 b c4 [some []]) = .ok (.items (rangeD 0 n1)) (gc a5 b c5 [some []]) :=
    rng1_ok (cons_ok (call_ok (cons_ok (var_ok rfl) (cons_ok (k_ok (d := .int 4)) nil_ok)) e5) nil_ok) (by omega)
  obtain ⟨e6, m6, q6, l, o6, hl, hlb, rfl, rfl⟩ := for_all (tg := dgName 6) (b := dSet 5 (dOp gAdd (dLst (dCons (dCall d__law_back (dCons (dOpq gIx (dVar 5) (dK (.int 0))) (dCons (dVar 3) dNil))) dNil)) (dVar 5)))
    (P := fun i e m' => ∃ (l : List Wt) (o : Option D), l.length = i + 1 ∧ Wl (100 + i) l ∧ m' = gc a5 b c5 [some []] ∧ e = [some (.mr 0), some (.int (M : Int)), some (wd s), some (.int k), some (.mr 1), some (rl l), o]) f1 (fun i d e m' hd p => by
      obtain ⟨l, o, hl, hb, rfl, rfl⟩ := p
      obtain ⟨hi, rfl⟩ := rangeD_get hd
      cases l with
      | nil => cases hl
      | cons w ws =>
        have i0 : dOpq gIx (dVar 5) (dK (.int 0)) [some (.mr 0), some (.int (M : Int)), some (wd s), some (.int k), some (.mr 1), some (rl (w :: ws)), some (.int (0 + (i : Int)))] (gc a5 b c5 [some []]) = .ok (wd w) (gc a5 b c5 [some []]) := opq_ok (var_ok rfl) (k_ok (d := .int 0)) rfl rfl (show gIx (rl (w :: ws)) (.int 0) = some (wd w) from gIx_nat (i := 0) rfl)
        refine ⟨_, rfl, _, _, set_ok (op_ok (lst_ok (cons_ok (call_ok (cons_ok i0 (cons_ok (var_ok rfl) nil_ok)) (lawback_ok w k _)) nil_ok) (by show 1 ≤ 1000; decide)) (var_ok rfl) rfl rfl (add_rl [back w k] (w :: ws) (by rw [hl]; show 1 + _ ≤ _; omega))), [back w k] ++ (w :: ws), _, ?_, ?_, rfl, rfl⟩
        · rw [List.length_append, hl]
          show 1 + (i + 1) = _
          omega
        · intro u hu
          rcases List.mem_append.mp hu with z | z
          · rw [List.mem_singleton.mp z]
            exact (hb w List.mem_cons_self).back (Nat.lt_of_lt_of_le hk (Nat.pow_le_pow_right (by decide) (by omega)))
          · exact (hb u z).mono (by omega)) ⟨[s], none, rfl, fun u hu => by rw [List.mem_singleton.mp hu]; exact hs, rfl, rfl⟩
  rw [rangeD_len] at hl hlb
  -- more ahead
  obtain ⟨n2, a7, c7, hn2, hc7, e7⟩ := draw M hM (Nat.lt_of_le_of_lt hM2 (by decide)) a5 b c5 [some []] h1 (by omega)
  have f2 : dRng1 (dCons (dCall d__law_random (dCons (dVar 0) (dCons (dVar 1) dNil))) dNil) [some (.mr 0), some (.int (M : Int)), some (wd s), some (.int k), some (.mr 1), some (rl l), o6] (gc a5 b c5 [some []]) = .ok (.items (rangeD 0 n2)) (gc a7 b c7 [some []]) :=
    rng1_ok (cons_ok (call_ok (cons_ok (var_ok rfl) (cons_ok (var_ok rfl) nil_ok)) e7) nil_ok) (by omega)
  obtain ⟨e8, m8, q8, g, o8, a8, c8, hg, hgb, hc8, rfl, rfl⟩ := for_all (tg := dgName 6) (b := dDrop (dAppend (dVar 4) (dCons (dCall d__law_worth (dCons (dVar 0) dNil)) dNil)))
    (P := fun i e m' => ∃ (g : List Wt) (o : Option D) (a8 : Int) (c8 : Nat), g.length = i ∧ Wl 100 g ∧ c8 ≤ c7 + 22 * i ∧ m' = gc a8 b c8 [some (g.map wd)] ∧ e = [some (.mr 0), some (.int (M : Int)), some (wd s), some (.int k), some (.mr 1), some (rl l), o]) f2 (fun i d e m' hd p => by
      obtain ⟨g, o, a8, c8, hg, hb, hc, rfl, rfl⟩ := p
      obtain ⟨hi, rfl⟩ := rangeD_get hd
      obtain ⟨w, a9, c9, hw, hc9, e9⟩ := worth_draw a8 b c8 [some (g.map wd)] h1 (by omega)
      refine ⟨_, rfl, _, _, drop_ok (append_ok (k := 1) (es := g.map wd) (es2 := g.map wd) (var_ok rfl) rfl (cons_ok (call_ok (cons_ok (var_ok rfl) nil_ok) e9) nil_ok) rfl (by rw [List.length_map]; omega) (noMr_wd w)), g ++ [w], _, a9, c9, ?_, ?_, by omega, ?_, rfl⟩
      · rw [List.length_append, hg]; rfl
      · intro u hu
        rcases List.mem_append.mp hu with z | z
        · exact hb u z
        · rw [List.mem_singleton.mp z]; exact hw
      · rw [List.map_append]; rfl) ⟨[], o6, a7, c7, rfl, fun u hu => absurd hu List.not_mem_nil, by omega, rfl, rfl⟩
  rw [rangeD_len] at hg hc8
  have p1 : dPart (dUn gNeg (dK (.int 1))) [some (.mr 0), some (.int (M : Int)), some (wd s), some (.int k), some (.mr 1), some (rl l), o8] (gc a8 b c8 [some (g.map wd)]) = .ok (some (-1)) (gc a8 b c8 [some (g.map wd)]) := part_ok (un_ok (k_ok (d := .int 1)) rfl rfl)
  have fin : dRet (dTup (dCons (dOp gAdd (dVar 4) (dSl (dVar 5) dNoPart (dPart (dUn gNeg (dK (.int 1)))))) (dCons (dVar 2) (dCons (dVar 3) dNil)))) [some (.mr 0), some (.int (M : Int)), some (wd s), some (.int k), some (.mr 1), some (rl l), o8] (gc a8 b c8 [some (g.map wd)]) = .rt (run (g ++ l.take (l.length - 1)) s k) (gc a8 b c8 [some (g.map wd)]) :=
    ret_ok (tup_ok (cons_ok (op_ok (var_ok rfl) (sl_ok (var_ok rfl) nopart_ok p1 rfl (butlast_rl l)) rfl rfl (add_rl g _ (by rw [List.length_take]; omega))) (cons_ok (var_ok rfl) (cons_ok (var_ok rfl) nil_ok))) three_le)
  refine ⟨g ++ l.take (l.length - 1), s, k, a8, c8, ?_, ?_, hs, hk, hkz, by omega, ?_⟩
  · rw [List.length_append, List.length_take]
    omega
  · intro u hu
    rcases List.mem_append.mp hu with z | z
    · exact (hgb u z).mono (by decide)
    · exact (hlb u (List.mem_of_mem_take z)).mono (by omega)
  · have hn : (run (g ++ l.take (l.length - 1)) s k).noMr = true := by
      show (D.noMrs ((g ++ l.take (l.length - 1)).map wd) && ((wd s).noMr && (true && true))) = true
      rw [noMrs_wd, noMr_wd]
      rfl
    exact def_rtz (n := 7) (body := b__law_raw_run) (ds := [.mr 0, .int (M : Int)]) (m := gc a b c []) (m1 := gc a8 b c8 [some (g.map wd)]) ((seq_nx s1).trans ((seq_nx s2).trans ((seq_nx s3).trans ((seq_nx s4).trans ((seq_nx q6).trans ((seq_nx q8).trans fin)))))) hn
end RU
end

section
set_option Elab.async false
set_option linter.all false
set_option maxRecDepth 100000
set_option maxHeartbeats 4000000
namespace K46
open PySem DX LG RU
theorem lt1000 {i : Nat} (h : i ≤ 32) : i < 2 ^ 1000 := Nat.lt_of_lt_of_le (show i < 2 ^ 6 by
  have : (2 : Nat) ^ 6 = 64 := by decide
  omega) (Nat.pow_le_pow_right (by decide) (by decide))
theorem lt100 {i : Nat} (h : i ≤ 32) : i < 2 ^ 100 := Nat.lt_of_lt_of_le (show i < 2 ^ 6 by
  have : (2 : Nat) ^ 6 = 64 := by decide
  omega) (Nat.pow_le_pow_right (by decide) (by decide))
theorem wd_sz212 (w : Wt) : (wd w).sz 210 ≤ 212 := by
  cases w with
  | none => show 4 ≤ 212; decide
  | some i => show 212 ≤ 212; decide
theorem wd_dep (w : Wt) : (wd w).dep = 0 := by cases w <;> rfl
theorem rv_ge {f : List Wt} {s : Wt} {k : Int} {n : Nat} (h : f.length ≤ n) : rv f s k n = s.map fun a => a + k * ((n : Int) - f.length) := by
  unfold rv
  rw [if_neg (by omega)]
theorem x30 {x : Nat} (h : x < 10 ^ 30) : x < 2 ^ 100 := Nat.lt_of_lt_of_le h (by decide +kernel)
theorem lift1000 {x : Nat} (h : x < 2 ^ 100) : x < 2 ^ 1000 := Nat.lt_of_lt_of_le h (Nat.pow_le_pow_right (by decide) (by decide))
theorem two_steps (a k : Int) (n l y : Nat) : a + k * ((n : Int) - l) = a + k * (((l + y : Nat) : Int) - l) + k * ((n : Int) - (l + y : Nat)) := by
  rw [Int.add_assoc, ← Int.mul_add]
  have : ((l + y : Nat) : Int) - l + ((n : Int) - (l + y : Nat)) = (n : Int) - l := by omega
  rw [this]
theorem rv_small {f : List Wt} {s : Wt} {k : Int} {n : Nat} (hf : Wl 110 f) (hs : Wb 100 s) (hk : k.natAbs < 2 ^ 100) (hn : n < 2 ^ 100) (hl : f.length ≤ 1000) : Wb 210 (rv f s k n) := by
  unfold rv
  by_cases q : n < f.length
  · rw [if_pos q, List.getElem?_eq_getElem q]
    exact (hf _ (List.getElem_mem q)).mono (by decide)
  · rw [if_neg q]
    cases s with
    | none => intro i e; cases e
    | some a =>
      intro i e
      have : i = a + k * ((n : Int) - f.length) := (Option.some.inj e).symm
      subst this
      have ha := hs a rfl
      have h1 : ((n : Int) - f.length).natAbs < 2 ^ 100 := by omega
      have h2 : (k * ((n : Int) - f.length)).natAbs < 2 ^ 100 * 2 ^ 100 := by rw [Int.natAbs_mul]; exact Nat.mul_lt_mul'' hk h1
      have h3 : (2 : Nat) ^ 100 * 2 ^ 100 = 2 ^ 200 := by rw [← Nat.pow_add]
      have h4 : (2 : Nat) ^ 210 = 2 ^ 200 * 1024 := by rw [show (1024 : Nat) = 2 ^ 10 by decide, ← Nat.pow_add]
      have h5 : (2 : Nat) ^ 100 ≤ 2 ^ 200 := Nat.pow_le_pow_right (by decide) (by decide)
      rw [h3] at h2
      rw [h4]
      have := Int.natAbs_add_le a (k * ((n : Int) - f.length))
      omega
theorem nice_run {f : List Wt} {s : Wt} {k : Int} (hf : Wl 210 f) (hs : Wb 210 s) (hk : k.natAbs < 2 ^ 210) : (run f s k).nice 210 := ⟨hf.nices, hs.nice, hk, trivial⟩
theorem szs_wd : ∀ f : List Wt, D.szs 210 (f.map wd) ≤ 220 * f.length
  | [] => Nat.le_refl _
  | w :: f => by
    have ih := szs_wd f
    show (wd w).sz 210 + 2 + D.szs 210 (f.map wd) ≤ _
    have := wd_sz212 w
    rw [List.length_cons]
    omega
theorem deps_wd : ∀ f : List Wt, D.deps (f.map wd) = 0
  | [] => rfl
  | w :: f => by
    show max (wd w).dep (D.deps (f.map wd)) = 0
    rw [deps_wd f]
    cases w <;> rfl
theorem run_sz {f : List Wt} {s : Wt} {k : Int} (hl : f.length ≤ 1000) : (run f s k).sz 210 ≤ 16777216 ∧ (run f s k).dep ≤ 60 := by
  have h := szs_wd f
  have h2 := wd_sz212 s
  constructor
  · show 3 + ((2 + D.szs 210 (f.map wd)) + 2 + ((wd s).sz 210 + 2 + (210 + 2 + 2 + 0))) ≤ _
    omega
  · show max (D.deps (f.map wd) + 1) (max (wd s).dep (max 0 0)) + 1 ≤ 60
    rw [deps_wd, wd_dep]
    decide
theorem rl_sz {f : List Wt} (hl : f.length ≤ 1000) : (rl f).sz 210 ≤ 16777216 ∧ (rl f).dep ≤ 60 := by
  have h := szs_wd f
  constructor
  · show 2 + D.szs 210 (f.map wd) ≤ _
    omega
  · show D.deps (f.map wd) + 1 ≤ 60
    rw [deps_wd]
    decide
theorem wd_sz (w : Wt) : (wd w).sz 210 ≤ 16777216 ∧ (wd w).dep ≤ 60 := by
  cases w
  · exact ⟨by show 4 ≤ _; decide, by show 0 ≤ _; decide⟩
  · exact ⟨by show 212 ≤ _; decide, by show 0 ≤ _; decide⟩
theorem repr_wd {w : Wt} (h : Wb 210 w) : ∃ s, gRepr [wd w] = some (.str s) ∧ gNe (.str s) (.str s) = some (.bl false) ∧ gEq (.str s) (.str s) = some (.bl true) := repr_ne (by decide) h.nice (wd_sz w).2 (wd_sz w).1
theorem repr_bl (k : Bool) : ∃ s, gRepr [.bl k] = some (.str s) ∧ gNe (.str s) (.str s) = some (.bl false) ∧ gEq (.str s) (.str s) = some (.bl true) := repr_ne (b := 210) (by decide) trivial (by show 0 ≤ 60; decide) (by show 5 ≤ _; decide)
theorem callKw_ok {Fd : List D → DMem → XO D} {o : List Nat} {fk : DA} {e : DEnv} {m m1 m2 : DMem} {as : List D} {d : D} (ha : fk e m = .ok as m1) (h : Fd (pick o as) m1 = .ok d m2) : dCallKw Fd o fk e m = .ok d m2 := by
  unfold dCallKw
  rw [ha]
  exact h
theorem srcL_ok {f : DE} {e : DEnv} {m m1 : DMem} {xs : List D} (h : f e m = .ok (.lst xs) m1) : dSrc srcL f e m = .ok (.items xs) m1 := by
  unfold dSrc
  rw [h]
  rfl
theorem lrng_ok {f : DE} {e : DEnv} {m m1 : DMem} {n : Nat} (h : f e m = .ok (.int (n : Int)) m1) (hn : n ≤ 16777216) : dListRng1 f e m = .ok (.lst (rangeD 0 n)) m1 := by
  have c : -(2 ^ 62 : Int) ≤ (n : Int) ∧ (n : Int) ≤ 16777216 := ⟨(c62 hn).1, by omega⟩
  unfold dListRng1
  rw [h, bind_go]
  dsimp only
  rw [if_pos c, Int.toNat_natCast]
theorem butlast_7 (xs : List Wt) : gSl (.lst (xs.map wd ++ [D.int 7])) none (some (-1)) = some (rl xs) := by
  have := butlast_rl (xs ++ [some 7])
  rw [show (rl (xs ++ [some 7])) = D.lst (xs.map wd ++ [D.int 7]) by show D.lst _ = _; rw [List.map_append]; rfl] at this
  rw [this, List.length_append]
  show some (rl ((xs ++ [some 7]).take (xs.length + 1 - 1))) = _
  rw [Nat.add_sub_cancel, List.take_left']
  rfl
theorem good_ok (f : List Wt) (s : Wt) (k : Int) (hf : f.length ≤ 20) (wf : Wl 110 f) (ws : Wb 100 s) (hk : k.natAbs < 2 ^ 100) (hz : s = none → k = 0) (a : Int) (b c : Nat) (h1 : b < 2 ^ 31) (h2 : c + 100 < 2 ^ 20) : ∃ (a' : Int) (c' : Nat), d__law_least_good [.mr 0, run f s k] (gc a b c []) = .ok (.bl true) (gc a' b c' []) := by
  have k1000 : k.natAbs < 2 ^ 1000 := lift1000 hk
  have k210 : k.natAbs < 2 ^ 210 := Nat.lt_of_lt_of_le hk (Nat.pow_le_pow_right (by decide) (by decide))
  -- the readings of the raw run
  have g0 : ∀ {e2 e3 e4 e5 e6 e7 e8 : Option D} {m : DMem}, dOpq gIx (dVar 1) (dK (.int 0)) [some (.mr 0), some (run f s k), e2, e3, e4, e5, e6, e7, e8] m = .ok (rl f) m := fun {_ _ _ _ _ _ _ _} => (ix_run rfl).1
  have g1 : ∀ {e2 e3 e4 e5 e6 e7 e8 : Option D} {m : DMem}, dOpq gIx (dVar 1) (dK (.int 1)) [some (.mr 0), some (run f s k), e2, e3, e4, e5, e6, e7, e8] m = .ok (wd s) m := fun {_ _ _ _ _ _ _ _} => (ix_run rfl).2.1
  have g2 : ∀ {e2 e3 e4 e5 e6 e7 e8 : Option D} {m : DMem}, dOpq gIx (dVar 1) (dK (.int 2)) [some (.mr 0), some (run f s k), e2, e3, e4, e5, e6, e7, e8] m = .ok (.int k) m := fun {_ _ _ _ _ _ _ _} => (ix_run rfl).2.2
  have s1 : dSet 2 (dListC (dCons (dOpq gIx (dVar 1) (dK (.int 0))) dNil)) [some (.mr 0), some (run f s k), none, none, none, none, none, none, none] (gc a b c []) = .nx [some (.mr 0), some (run f s k), some (.mr 1), none, none, none, none, none, none] (gc a b c [some (f.map wd)]) :=
    set_ok (listC_ok (cons_ok g0 nil_ok) rfl (noMrs_wd f))
  obtain ⟨f2, s2, L, ef, _⟩ := least_ok (.mr 1) f s k (gc a b c [some (f.map wd)]) (.inr ⟨1, rfl, rfl⟩) (by omega) hz
  obtain ⟨e, he, ee⟩ := L.pre
  have hf2 : f2.length ≤ 20 := by rw [ee, List.length_take]; omega
  have wf2 : Wl 110 f2 := fun w hw => wf w (by rw [ee] at hw; exact List.mem_of_mem_take hw)
  have hz2 : s2 = none → k = 0 := fun z => hz (L.non.mp z)
  have ws2 : Wb 210 s2 := by
    have := L.vals f2.length
    rw [rv_end] at this
    rw [this]
    exact rv_small wf ws hk (lt100 (by omega)) (by omega)
  have wf210 : Wl 210 f := fun w hw => (wf w hw).mono (by decide)
  have wf2' : Wl 210 f2 := fun w hw => (wf2 w hw).mono (by decide)
  have isr2 := isR_least L
  have st2 : dSet 3 (dCall d_least_run (dCons (dVar 2) (dCons (dOpq gIx (dVar 1) (dK (.int 1))) (dCons (dOpq gIx (dVar 1) (dK (.int 2))) dNil)))) [some (.mr 0), some (run f s k), some (.mr 1), none, none, none, none, none, none] (gc a b c [some (f.map wd)]) = .nx [some (.mr 0), some (run f s k), some (.mr 1), some (run f2 s2 k), none, none, none, none, none] (gc a b c [some (f.map wd)]) :=
    set_ok (call_ok (cons_ok (var_ok rfl) (cons_ok g1 (cons_ok g2 nil_ok))) ef)
  -- the first test
  obtain ⟨r1, hr1, hn1, _⟩ := repr_ne (b := 210) (d := rl f) (by decide) wf210.nices (rl_sz (by omega)).2 (rl_sz (by omega)).1
  have q1 : dTest (dOp gNe (dB gRepr (dCons (dVar 2) dNil)) (dB gRepr (dCons (dOpq gIx (dVar 1) (dK (.int 0))) dNil))) [some (.mr 0), some (run f s k), some (.mr 1), some (run f2 s2 k), none, none, none, none, none] (gc a b c [some (f.map wd)]) = .ok false (gc a b c [some (f.map wd)]) :=
    test_bl (op_ok (b_ok (cons_ok (var_ok rfl) nil_ok) (show rqs [.mr 1] _ = some [rl f] from rfl) hr1) (b_ok (cons_ok g0 nil_ok) rfl hr1) rfl rfl hn1)
  have L2 := lawleast_ok f2 s2 k (gc a b c [some (f.map wd)]) (by omega) hz2
  have W2 := is_run_ok f2 s2 k (gc a b c [some (f.map wd)]) (by omega) hz2
  rw [isr2] at L2 W2
  have q2 : dNot (dTest (dCall d__law_is_least (dCons (dVar 3) dNil))) [some (.mr 0), some (run f s k), some (.mr 1), some (run f2 s2 k), none, none, none, none, none] (gc a b c [some (f.map wd)]) = .ok false (gc a b c [some (f.map wd)]) := not_ok (test_bl (call_ok (cons_ok (var_ok rfl) nil_ok) L2))
  have q3 : dTest (dOpw gIsNot (dCall d_is_run (dCons (dVar 3) dNil)) (dK (.bl true))) [some (.mr 0), some (run f s k), some (.mr 1), some (run f2 s2 k), none, none, none, none, none] (gc a b c [some (f.map wd)]) = .ok false (gc a b c [some (f.map wd)]) := test_bl (opw_ok (call_ok (cons_ok (var_ok rfl) nil_ok) W2) (k_ok (d := .bl true)) rfl)
  have s3 := (ifS_f (f := dRet (dK (.bl false))) (g := dNext) ((or_f q1).trans ((or_f q2).trans q3))).trans rfl
  -- the counts
  obtain ⟨x, a1, c1, hx, hc1, er⟩ := draw (10 ^ 30) (by decide) (by decide) a b c [some (f.map wd)] h1 (by omega)
  have er : d__law_random [.mr 0, .int (10 ^ 30)] (gc a b c [some (f.map wd)]) = .ok (.int (x : Int)) (gc a1 b c1 [some (f.map wd)]) := er
  have s4 : dSet 4 (dOp gAdd (dListRng1 (dOp gAdd (dB gLen (dCons (dOpq gIx (dVar 1) (dK (.int 0))) dNil)) (dK (.int 4)))) (dLst (dCons (dCall d__law_random (dCons (dVar 0) (dCons (dOp gPow (dK (.int 10)) (dK (.int 30))) dNil))) dNil))) [some (.mr 0), some (run f s k), some (.mr 1), some (run f2 s2 k), none, none, none, none, none] (gc a b c [some (f.map wd)]) = .nx [some (.mr 0), some (run f s k), some (.mr 1), some (run f2 s2 k), some (.lst (rangeD 0 (f.length + 4) ++ [.int (x : Int)])), none, none, none, none] (gc a1 b c1 [some (f.map wd)]) := by
    refine set_ok (op_ok (lrng_ok (op_ok (b_ok (cons_ok g0 nil_ok) rfl (gLen_lst (by rw [List.length_map]))) (k_ok (d := .int 4)) rfl rfl (gAdd_nat _ 4)) (by omega)) (lst_ok (cons_ok (call_ok (cons_ok (var_ok rfl) (cons_ok (op_ok (k_ok (d := .int 10)) (k_ok (d := .int 30)) rfl rfl (show gPow (.int 10) (.int 30) = some (.int (10 ^ 30)) by kernel_rfl)) nil_ok)) er) nil_ok) (by show 1 ≤ 1000; decide)) rfl rfl ?_)
    unfold gAdd
    dsimp only
    rw [if_pos (size_le (by rw [rangeD_len]; show _ + 1 ≤ _; omega))]
  have x100 : x < 2 ^ 100 := x30 hx
  obtain ⟨e5, m5, q5, rfl, o5, rfl⟩ := for_all (tg := dgName 5) (b := (dSeq (dIfS (dTest (dOp gNe (dB gRepr (dCons (dCall d__law_value (dCons (dVar 3) (dCons (dVar 5) dNil))) dNil)) (dB gRepr (dCons (dCall d__law_value (dCons (dVar 1) (dCons (dVar 5) dNil))) dNil)))) (dRet (dK (.bl false))) dNext)
    (dIfS (dTest (dOp gNe (dB gRepr (dCons (dCall d_run_value (dCons (dVar 3) (dCons (dVar 5) dNil))) dNil)) (dB gRepr (dCons (dCall d__law_value (dCons (dVar 1) (dCons (dVar 5) dNil))) dNil)))) (dRet (dK (.bl false))) dNext)))
    (P := fun i e m' => m' = gc a1 b c1 [some (f.map wd)] ∧ ∃ o, e = [some (.mr 0), some (run f s k), some (.mr 1), some (run f2 s2 k), some (.lst (rangeD 0 (f.length + 4) ++ [.int (x : Int)])), o, none, none, none]) (f := dSrc srcL (dVar 4)) (env := [some (.mr 0), some (run f s k), some (.mr 1), some (run f2 s2 k), some (.lst (rangeD 0 (f.length + 4) ++ [.int (x : Int)])), none, none, none, none]) (m := gc a1 b c1 [some (f.map wd)]) (srcL_ok (var_ok rfl)) (fun i d e m' hd p => by
      obtain ⟨rfl, o, rfl⟩ := p
      obtain ⟨n, hn, rfl⟩ : ∃ n : Nat, n < 2 ^ 100 ∧ d = .int (n : Int) := by
        rcases List.mem_append.mp (List.mem_of_getElem? hd) with z | z
        · obtain ⟨j, hj⟩ := List.mem_iff_getElem?.mp z
          obtain ⟨hj2, e⟩ := rangeD_get hj
          exact ⟨j, lt100 (Nat.le_of_lt (Nat.lt_of_lt_of_le hj2 (Nat.le_trans (Nat.add_le_add_right hf 4) (by decide : 20 + 4 ≤ 32)))), by rw [e, Int.zero_add]⟩
        · exact ⟨x, x100, List.mem_singleton.mp z⟩
      have n1000 : n < 2 ^ 1000 := lift1000 hn
      obtain ⟨r, hr, hne, _⟩ := repr_wd (rv_small (n := n) wf ws hk hn (by omega))
      have a1' := b_ok (cons_ok (call_ok (cons_ok (var_ok (i := 3) (e := [some (.mr 0), some (run f s k), some (.mr 1), some (run f2 s2 k), some (.lst (rangeD 0 (f.length + 4) ++ [.int (x : Int)])), some (.int (n : Int)), none, none, none]) rfl) (cons_ok (var_ok (i := 5) rfl) nil_ok)) (lawvalue_ok f2 s2 k n (gc a1 b c1 [some (f.map wd)]) k1000 n1000)) nil_ok) (rqs_wd _ _) (by rw [L.vals]; exact hr)
      have a2' := b_ok (cons_ok (call_ok (cons_ok (var_ok (i := 1) (e := [some (.mr 0), some (run f s k), some (.mr 1), some (run f2 s2 k), some (.lst (rangeD 0 (f.length + 4) ++ [.int (x : Int)])), some (.int (n : Int)), none, none, none]) rfl) (cons_ok (var_ok (i := 5) rfl) nil_ok)) (lawvalue_ok f s k n (gc a1 b c1 [some (f.map wd)]) k1000 n1000)) nil_ok) (rqs_wd _ _) hr
      have a3' := b_ok (cons_ok (call_ok (cons_ok (var_ok (i := 3) (e := [some (.mr 0), some (run f s k), some (.mr 1), some (run f2 s2 k), some (.lst (rangeD 0 (f.length + 4) ++ [.int (x : Int)])), some (.int (n : Int)), none, none, none]) rfl) (cons_ok (var_ok (i := 5) rfl) nil_ok)) (run_value_ok f2 s2 k n (gc a1 b c1 [some (f.map wd)]) (by omega) hz2 isr2 k1000 n1000)) nil_ok) (rqs_wd _ _) (by rw [L.vals]; exact hr)
      exact ⟨_, rfl, _, _, (seq_nx ((ifS_f (test_bl (op_ok a1' a2' rfl rfl hne))).trans rfl)).trans ((ifS_f (test_bl (op_ok a3' a2' rfl rfl hne))).trans rfl), rfl, _, rfl⟩) ⟨rfl, none, rfl⟩
  -- slope, is_run of the raw one
  obtain ⟨rk, hrk, hnk, _⟩ := repr_ne (b := 210) (d := .int k) (by decide) k210 (by show 0 ≤ 60; decide) (by show 212 ≤ _; decide)
  obtain ⟨rb, hrb, hnb, _⟩ := repr_bl (isR f s k)
  have v3k : dOpq gIx (dVar 3) (dK (.int 2)) [some (.mr 0), some (run f s k), some (.mr 1), some (run f2 s2 k), some (.lst (rangeD 0 (f.length + 4) ++ [.int (x : Int)])), o5, none, none, none] (gc a1 b c1 [some (f.map wd)]) = .ok (.int k) (gc a1 b c1 [some (f.map wd)]) := (ix_run rfl).2.2
  have q6 := test_bl (op_ok (b_ok (cons_ok v3k nil_ok) rfl hrk) (b_ok (cons_ok g2 nil_ok) rfl hrk) rfl rfl hnk)
  have q7 : dTest (dOp gNe (dB gRepr (dCons (dCall d_is_run (dCons (dVar 1) dNil)) dNil)) (dB gRepr (dCons (dCall d__law_is_least (dCons (dVar 1) dNil)) dNil))) [some (.mr 0), some (run f s k), some (.mr 1), some (run f2 s2 k), some (.lst (rangeD 0 (f.length + 4) ++ [.int (x : Int)])), o5, none, none, none] (gc a1 b c1 [some (f.map wd)]) = .ok false (gc a1 b c1 [some (f.map wd)]) :=
    test_bl (op_ok (b_ok (cons_ok (call_ok (cons_ok (var_ok rfl) nil_ok) (is_run_ok f s k _ (by omega) hz)) nil_ok) rfl hrb) (b_ok (cons_ok (call_ok (cons_ok (var_ok rfl) nil_ok) (lawleast_ok f s k _ (by omega) hz)) nil_ok) rfl hrb) rfl rfl hnb)
  have s6 := (ifS_f (f := dRet (dK (.bl false))) (g := dNext) ((or_f q6).trans q7)).trans rfl
  -- more of its values written out
  obtain ⟨y, a2, c2, hy, hc2, e8⟩ := draw 4 (by decide) (by decide) a1 b c1 [some (f.map wd)] h1 (by omega)
  have f7 : dRng1 (dCons (dOp gAdd (dB gLen (dCons (dOpq gIx (dVar 1) (dK (.int 0))) dNil)) (dCall d__law_random (dCons (dVar 0) (dCons (dK (.int 4)) dNil)))) dNil) [some (.mr 0), some (run f s k), some (.mr 1), some (run f2 s2 k), some (.lst (rangeD 0 (f.length + 4) ++ [.int (x : Int)])), o5, none, none, none] (gc a1 b c1 [some (f.map wd)]) = .ok (.items (rangeD 0 (f.length + y))) (gc a2 b c2 [some (f.map wd)]) :=
    rng1_ok (cons_ok (op_ok (b_ok (cons_ok g0 nil_ok) rfl (gLen_lst (by rw [List.length_map]))) (call_ok (cons_ok (var_ok rfl) (cons_ok (k_ok (d := .int 4)) nil_ok)) e8) rfl rfl (gAdd_nat _ _)) nil_ok) (by omega)
  obtain ⟨m7, ⟨h7, _⟩, e7⟩ := lcC_runS (P := fun i m' => m' = gc a2 b c2 [some (f.map wd), some (((List.range i).map (rv f s k)).map wd)] ∧ i ≤ f.length + y) (tg := dgName 5) (tt := dYes) (fe := dCall d__law_value (dCons (dVar 1) (dCons (dVar 5) dNil))) (ws := [5]) f7 rfl (fun _ _ _ => rfl) (fun i d m' hd hp => by
    obtain ⟨rfl, hi'⟩ := hp
    obtain ⟨hi, rfl⟩ := rangeD_get hd
    have en : (0 + (i : Int)) = (i : Int) := by omega
    rw [en]
    have i1000 : i < 2 ^ 1000 := lt1000 (by omega)
    refine ⟨_, rfl, .inr ⟨_, wd (rv f s k i), _, ((List.range i).map (rv f s k)).map wd, rfl, call_ok (cons_ok (var_ok rfl) (cons_ok (var_ok rfl) nil_ok)) (lawvalue_ok f s k i _ k1000 i1000), rfl, ?_, noMr_wd _, ?_, by omega⟩⟩
    · rw [List.length_map, List.length_map, List.length_range, sizeLine_eq]
      omega
    · rw [List.range_succ, List.map_append, List.map_append]
      rfl) ⟨rfl, Nat.zero_le _⟩
  rw [rangeD_len] at h7
  subst h7
  have s7 := set_ok (i := 6) e7
  -- the same run from these
  have hN : ((List.range (f.length + y)).map (rv f s k)).length = f.length + y := by rw [List.length_map, List.length_range]
  have i1000 : f.length + y < 2 ^ 1000 := lt1000 (by omega)
  have hz3 : rv f s k (f.length + y) = none → k = 0 := fun z => hz (by
    unfold rv at z
    rw [if_neg (by omega)] at z
    cases s with
    | none => rfl
    | some a => cases z)
  obtain ⟨f3, s3', L3, _, e9⟩ := least_ok (.mr 2) ((List.range (f.length + y)).map (rv f s k)) (rv f s k (f.length + y)) k (gc a2 b c2 [some (f.map wd), some (((List.range (f.length + y)).map (rv f s k)).map wd)]) (.inr ⟨2, rfl, rfl⟩) (by omega) hz3
  have hvals : ∀ n, rv f s k n = rv ((List.range (f.length + y)).map (rv f s k)) (rv f s k (f.length + y)) k n := fun n => by
    by_cases q : n < f.length + y
    · have := rv_lt (f := (List.range (f.length + y)).map (rv f s k)) (s := rv f s k (f.length + y)) (k := k) (n := n) (by omega)
      rw [List.getElem?_map, List.getElem?_range q] at this
      exact Option.some.inj this
    · rw [rv_ge (f := (List.range (f.length + y)).map (rv f s k)) (by omega), hN, rv_ge (f := f) (n := n) (by omega), rv_ge (f := f) (n := f.length + y) (by omega)]
      cases s with
      | none => rfl
      | some a => exact congrArg some (two_steps a k n f.length y)
  obtain ⟨u1, u2⟩ := least_uniq (k := k) hvals L.vals L3.vals L.stop L3.stop
  subst u1 u2
  have s8 : dSet 7 (dCallKw d_c_least_run [0, 2, 1] (dCons (dVar 6) (dCons (dOpq gIx (dVar 1) (dK (.int 2))) (dCons (dCall d__law_value (dCons (dVar 1) (dCons (dB gLen (dCons (dVar 6) dNil)) dNil))) dNil)))) [some (.mr 0), some (run f s k), some (.mr 1), some (run f2 s2 k), some (.lst (rangeD 0 (f.length + 4) ++ [.int (x : Int)])), o5, some (.mr 2), none, none] (gc a2 b c2 [some (f.map wd), some (((List.range (f.length + y)).map (rv f s k)).map wd)]) = .nx [some (.mr 0), some (run f s k), some (.mr 1), some (run f2 s2 k), some (.lst (rangeD 0 (f.length + 4) ++ [.int (x : Int)])), o5, some (.mr 2), some (.tup [.mr 3, wd s2, .int k]), none] (gc a2 b c2 [some (f.map wd), some (((List.range (f.length + y)).map (rv f s k)).map wd), some (f2.map wd)]) := by
    have hl : dB gLen (dCons (dVar 6) dNil) [some (.mr 0), some (run f s k), some (.mr 1), some (run f2 s2 k), some (.lst (rangeD 0 (f.length + 4) ++ [.int (x : Int)])), o5, some (.mr 2), none, none] (gc a2 b c2 [some (f.map wd), some (((List.range (f.length + y)).map (rv f s k)).map wd)]) = .ok (.int ((f.length + y : Nat) : Int)) (gc a2 b c2 [some (f.map wd), some (((List.range (f.length + y)).map (rv f s k)).map wd)]) := b_ok (cons_ok (var_ok rfl) nil_ok) (show rqs [.mr 2] _ = some [.lst (((List.range (f.length + y)).map (rv f s k)).map wd)] from rfl) (gLen_lst (by rw [List.length_map, hN]))
    exact set_ok (callKw_ok (cons_ok (var_ok rfl) (cons_ok g2 (cons_ok (call_ok (cons_ok (var_ok rfl) (cons_ok hl nil_ok)) (lawvalue_ok f s k (f.length + y) _ k1000 i1000)) nil_ok))) e9)
  -- kept
  have nr := nice_run wf2' ws2 k210
  obtain ⟨rs1, rs2⟩ := run_sz (f := f2) (s := s2) (k := k) (by omega)
  obtain ⟨rr, hrr, _, heq⟩ := repr_ne (b := 210) (by decide) nr rs2 rs1
  have s9 := set_ok (i := 8) (b_ok (cons_ok (var_ok (i := 3) (e := [some (.mr 0), some (run f s k), some (.mr 1), some (run f2 s2 k), some (.lst (rangeD 0 (f.length + 4) ++ [.int (x : Int)])), o5, some (.mr 2), some (.tup [.mr 3, wd s2, .int k]), none]) (m := gc a2 b c2 [some (f.map wd), some (((List.range (f.length + y)).map (rv f s k)).map wd), some (f2.map wd)]) rfl) nil_ok) rfl hrr)
  generalize hmore : ((List.range (f.length + y)).map (rv f s k)).map wd = more at *
  have hml : more.length ≤ 1000 := by rw [← hmore, List.length_map, hN]; omega
  generalize hcounts : rangeD 0 (f.length + 4) ++ [D.int (x : Int)] = counts at *
  have s10 : dDrop (dAppend (dOpq gIx (dVar 7) (dK (.int 0))) (dCons (dK (.int 7)) dNil)) [some (.mr 0), some (run f s k), some (.mr 1), some (run f2 s2 k), some (.lst counts), o5, some (.mr 2), some (.tup [.mr 3, wd s2, .int k]), some (.str rr)] (gc a2 b c2 [some (f.map wd), some more, some (f2.map wd)]) = .nx [some (.mr 0), some (run f s k), some (.mr 1), some (run f2 s2 k), some (.lst counts), o5, some (.mr 2), some (.tup [.mr 3, wd s2, .int k]), some (.str rr)] (gc a2 b c2 [some (f.map wd), some more, some (f2.map wd ++ [.int 7])]) :=
    drop_ok (append_ok (k := 3) (es := f2.map wd) (es2 := f2.map wd) (opq_ok (var_ok rfl) (k_ok (d := .int 0)) rfl rfl rfl) rfl (cons_ok k_ok nil_ok) rfl (by rw [List.length_map]; omega) rfl)
  have s11 : dDrop (dAppend (dVar 2) (dCons (dK (.int 7)) dNil)) [some (.mr 0), some (run f s k), some (.mr 1), some (run f2 s2 k), some (.lst counts), o5, some (.mr 2), some (.tup [.mr 3, wd s2, .int k]), some (.str rr)] (gc a2 b c2 [some (f.map wd), some more, some (f2.map wd ++ [.int 7])]) = .nx [some (.mr 0), some (run f s k), some (.mr 1), some (run f2 s2 k), some (.lst counts), o5, some (.mr 2), some (.tup [.mr 3, wd s2, .int k]), some (.str rr)] (gc a2 b c2 [some (f.map wd ++ [.int 7]), some more, some (f2.map wd ++ [.int 7])]) :=
    drop_ok (append_ok (k := 1) (es := f.map wd) (es2 := f.map wd) (var_ok rfl) rfl (cons_ok k_ok nil_ok) rfl (by rw [List.length_map]; omega) rfl)
  have s12 : dDrop (dAppend (dVar 6) (dCons (dK (.int 7)) dNil)) [some (.mr 0), some (run f s k), some (.mr 1), some (run f2 s2 k), some (.lst counts), o5, some (.mr 2), some (.tup [.mr 3, wd s2, .int k]), some (.str rr)] (gc a2 b c2 [some (f.map wd ++ [.int 7]), some more, some (f2.map wd ++ [.int 7])]) = .nx [some (.mr 0), some (run f s k), some (.mr 1), some (run f2 s2 k), some (.lst counts), o5, some (.mr 2), some (.tup [.mr 3, wd s2, .int k]), some (.str rr)] (gc a2 b c2 [some (f.map wd ++ [.int 7]), some (more ++ [.int 7]), some (f2.map wd ++ [.int 7])]) :=
    drop_ok (append_ok (k := 2) (es := more) (es2 := more) (var_ok rfl) rfl (cons_ok k_ok nil_ok) rfl hml rfl)
  have v7 : ∀ (i : Nat) (d : D), gIx (.tup [.mr 3, wd s2, .int k]) (.int (i : Int)) = some d → dOpq gIx (dVar 7) (dK (.int (i : Int))) [some (.mr 0), some (run f s k), some (.mr 1), some (run f2 s2 k), some (.lst counts), o5, some (.mr 2), some (.tup [.mr 3, wd s2, .int k]), some (.str rr)] (gc a2 b c2 [some (f.map wd ++ [.int 7]), some (more ++ [.int 7]), some (f2.map wd ++ [.int 7])]) = .ok d (gc a2 b c2 [some (f.map wd ++ [.int 7]), some (more ++ [.int 7]), some (f2.map wd ++ [.int 7])]) := fun i d h => opq_ok (var_ok rfl) k_ok rfl rfl h
  have fin : dRet (dAndV (dOp gEq (dB gRepr (dCons (dVar 3) dNil)) (dVar 8)) (dOp gEq (dB gRepr (dCons (dTup (dCons (dSl (dOpq gIx (dVar 7) (dK (.int 0))) dNoPart (dPart (dUn gNeg (dK (.int 1))))) (dCons (dOpq gIx (dVar 7) (dK (.int 1))) (dCons (dOpq gIx (dVar 7) (dK (.int 2))) dNil)))) dNil)) (dVar 8))) [some (.mr 0), some (run f s k), some (.mr 1), some (run f2 s2 k), some (.lst counts), o5, some (.mr 2), some (.tup [.mr 3, wd s2, .int k]), some (.str rr)] (gc a2 b c2 [some (f.map wd ++ [.int 7]), some (more ++ [.int 7]), some (f2.map wd ++ [.int 7])]) = .rt (.bl true) (gc a2 b c2 [some (f.map wd ++ [.int 7]), some (more ++ [.int 7]), some (f2.map wd ++ [.int 7])]) := by
    have c1' := op_ok (b_ok (cons_ok (var_ok (i := 3) (e := [some (.mr 0), some (run f s k), some (.mr 1), some (run f2 s2 k), some (.lst counts), o5, some (.mr 2), some (.tup [.mr 3, wd s2, .int k]), some (.str rr)]) (m := gc a2 b c2 [some (f.map wd ++ [.int 7]), some (more ++ [.int 7]), some (f2.map wd ++ [.int 7])]) rfl) nil_ok) rfl hrr) (var_ok (i := 8) rfl) rfl rfl heq
    have b1 := sl_ok (v7 0 (.mr 3) rfl) nopart_ok (part_ok (un_ok (g := gNeg) (z := .int (-1)) (k_ok (d := .int 1)) rfl rfl)) rfl (butlast_7 f2)
    have c2' := op_ok (b_ok (cons_ok (tup_ok (cons_ok b1 (cons_ok (v7 1 (wd s2) rfl) (cons_ok (v7 2 (.int k) rfl) nil_ok))) three_le) nil_ok) rfl hrr) (var_ok (i := 8) rfl) rfl rfl heq
    exact ret_ok ((andV_t c1' rfl).trans c2')
  refine ⟨a2, c2, ?_⟩
  exact def_rtz (n := 9) (body := b__law_least_good) (ds := [.mr 0, run f s k]) (m := gc a b c []) (m1 := gc a2 b c2 [some (f.map wd ++ [.int 7]), some (more ++ [.int 7]), some (f2.map wd ++ [.int 7])]) (d := .bl true) ((seq_nx s1).trans ((seq_nx st2).trans ((seq_nx s3).trans ((seq_nx s4).trans ((seq_nx q5).trans ((seq_nx s6).trans ((seq_nx s7).trans ((seq_nx s8).trans ((seq_nx s9).trans ((seq_nx s10).trans ((seq_nx s11).trans ((seq_nx s12).trans fin)))))))))))) rfl
theorem toIs_map : ∀ ns : List Int, toIs (ns.map D.int) = some ns
  | [] => rfl
  | n :: ns => by
    show (toIs (ns.map D.int)).map (n :: ·) = _
    rw [toIs_map ns]
    rfl
theorem cell_ok {f : DA} {e : DEnv} {m m1 : DMem} {as : List D} (h : f e m = .ok as m1) (hl : as.length ≤ 1000) (hn : D.noMrs as = true) : dCell f e m = .ok (.mr m1.length) (m1 ++ [some as]) := by
  unfold dCell
  rw [h]
  show (if as.length ≤ sizeLine ∧ D.noMrs as = true then _ else _) = _
  rw [if_pos ⟨size_le (by omega), hn⟩]
theorem gen_ok (ns : List Int) (i : Nat) (hi : i < 1000) (m : DMem) : ∃ (a : Int) (b : Nat), b < 2 ^ 31 ∧ d_c__law_generator [.scr ns, .int (i : Int)] m = .ok (.mr m.length) (m ++ [some [.int a, .int (b : Int), .int ((1000 * i : Nat) : Int)]]) := by
  have hs : ∃ s : Int, (dIf (dTest (dOp gLt (dVar 1) (dB gLen (dCons (dVar 0) dNil)))) (dOpq gIx (dVar 0) (dVar 1)) (dOp gMod (dB gSum (dCons (dSl (dVar 0) dNoPart (dPart (dK (.int 1)))) dNil)) (dK (.int 1000003)))) [some (.scr ns), some (.int (i : Int)), none] m = .ok (.int s) m := by
    have t := test_bl (op_ok (var_ok (i := 1) (e := [some (.scr ns), some (.int (i : Int)), none]) (m := m) rfl) (b_ok (cons_ok (var_ok (i := 0) rfl) nil_ok) rfl (gLen_lst (xs := ns.map D.int) (n := ns.length) (by rw [List.length_map]))) rfl rfl (lt_nat i ns.length))
    by_cases h : i < ns.length
    · rw [decide_eq_true h] at t
      refine ⟨ns[i], (if_t t).trans (opq_ok (a' := .lst (ns.map D.int)) (var_ok rfl) (var_ok rfl) rfl rfl (gIx_nat ?_))⟩
      rw [List.getElem?_map, List.getElem?_eq_getElem h]
      rfl
    · rw [decide_eq_false h] at t
      have e1 : gSl (.lst (ns.map D.int)) none (some 1) = some (.lst ((ns.take 1).map D.int)) := by
        rw [List.map_take]
        exact gSl_take 1
      exact ⟨_, (if_f t).trans (op_ok (b_ok (cons_ok (sl_ok (a' := .lst (ns.map D.int)) (var_ok rfl) nopart_ok (part_ok (k_ok (d := .int 1))) rfl e1) nil_ok) rfl (show gSum [.lst ((ns.take 1).map D.int)] = some (.int (ns.take 1).sum) by
        show (toIs ((ns.take 1).map D.int)).map _ = _
        rw [toIs_map]
        rfl)) (k_ok (d := .int 1000003)) rfl rfl (gMod_pos (b := 1000003) (by decide)))⟩
  obtain ⟨s, hs⟩ := hs
  have s1 := set_ok (i := 2) hs
  have v1 : dVar 1 ([some (.scr ns), some (.int (i : Int)), none].set 2 (some (.int s))) m = .ok (.int (i : Int)) m := var_ok rfl
  have v2 : dVar 2 ([some (.scr ns), some (.int (i : Int)), none].set 2 (some (.int s))) m = .ok (.int s) m := var_ok rfl
  have p1 : gPow (.int 10) (.int 18) = some (.int (10 ^ 18)) := by kernel_rfl
  have p2 : gPow (.int 10) (.int 60) = some (.int (10 ^ 60)) := by kernel_rfl
  have p3 : gPow (.int (10 ^ 60)) (.int 10) = some (.int ((10 ^ 60) ^ 10)) := by kernel_rfl
  have pp : (0 : Int) < (10 ^ 60) ^ 10 := by decide +kernel
  have a1 := op_ok (b_ok (cons_ok (b_ok (cons_ok (op_ok v2 (op_ok (k_ok (d := .int 10)) (k_ok (d := .int 18)) rfl rfl p1) rfl rfl (show gSub (.int s) (.int (10 ^ 18)) = some (.int (s - 10 ^ 18)) from rfl)) (cons_ok (k_ok (d := .int 0)) nil_ok)) rfl (show gMax2 [.int (s - 10 ^ 18), .int 0] = some (.int _) from rfl)) nil_ok) rfl (gInt_int _)) (op_ok (op_ok (k_ok (d := .int 10)) (k_ok (d := .int 60)) rfl rfl p2) (k_ok (d := .int 10)) rfl rfl p3) rfl rfl (gMod_pos pp)
  have a2 := op_ok (b_ok (cons_ok v2 nil_ok) rfl (gInt_int s)) (k_ok (d := .int 2147483647)) rfl rfl (gMod_pos (a := s) (b := 2147483647) (by decide))
  have a3 := op_ok (k_ok (d := .int 1000)) v1 rfl rfl (gMul_nat (i := 1000) (j := i) (a := 10) (b := 10) (by decide) (by omega) (by decide))
  have sn : s % 2147483647 = ((s % 2147483647).toNat : Int) := (Int.toNat_of_nonneg (Int.emod_nonneg s (by decide))).symm
  have sl : (s % 2147483647).toNat < 2 ^ 31 := by
    have := Int.emod_lt_of_pos s (show (0 : Int) < 2147483647 by decide)
    have e : (2 : Nat) ^ 31 = 2147483648 := by decide
    rw [e]
    omega
  rw [sn] at a2
  exact ⟨_, _, sl, def_rt ((seq_nx s1).trans (ret_ok (cell_ok (cons_ok a1 (cons_ok a2 (cons_ok a3 nil_ok))) (by show 3 ≤ 1000; decide) rfl)))⟩
/-! ### the law -/
def okT (r : XO D) : Bool := match r with
  | .ok (.bl true) [] => true
  | _ => false
theorem okT_eq {r : XO D} (h : okT r = true) : r = .ok (.bl true) [] := by
  unfold okT at h
  split at h
  · rfl
  · cases h
abbrev lawTail : DS := (dSeq (dSet 3 (dLst (dCons (dCall d_least_run (dCons (dLst (dCons (dK .non) (dCons (dK (.int 1)) (dCons (dK (.int 3)) dNil)))) (dCons (dK (.int 5)) (dCons (dK (.int 2)) dNil)))) (dCons (dCall d_least_run (dCons (dLst (dCons (dK .non) (dCons (dK .non) dNil))) (dCons (dK .non) (dCons (dK (.int 0)) dNil)))) (dCons (dCall d_least_run (dCons (dLst dNil) (dCons (dK (.int 4)) (dCons (dK (.int 0)) dNil)))) (dCons (dCall d_least_run (dCons (dLst (dCons (dK (.int 4)) (dCons (dK (.int 4)) dNil))) (dCons (dK (.int 4)) (dCons (dK (.int 0)) dNil)))) dNil))))))
    (dSeq (dIfS (dTest (dOp gNe (dB gRepr (dCons (dVar 3) dNil)) (dB gRepr (dCons (dLst (dCons (dTup (dCons (dLst (dCons (dK .non) dNil)) (dCons (dK (.int 1)) (dCons (dK (.int 2)) dNil)))) (dCons (dTup (dCons (dLst dNil) (dCons (dK .non) (dCons (dK (.int 0)) dNil)))) (dCons (dTup (dCons (dLst dNil) (dCons (dK (.int 4)) (dCons (dK (.int 0)) dNil)))) (dCons (dTup (dCons (dLst dNil) (dCons (dK (.int 4)) (dCons (dK (.int 0)) dNil)))) dNil))))) dNil)))) (dRet (dK (.bl false))) dNext)
    (dRet (dAndV (dOpw gIs (dCallKw d_is_run [0] (dCons (dTup (dCons (dLst dNil) (dCons (dUn gNeg (dK (.int 3))) (dCons (dK (.int 7)) dNil)))) dNil)) (dK (.bl true))) (dAndV (dOp gEq (dCallKw d_run_value [1, 0] (dCons (dK (.int 2)) (dCons (dTup (dCons (dLst (dCons (dK (.int 9)) dNil)) (dCons (dK (.int 1)) (dCons (dUn gNeg (dK (.int 4))) dNil)))) dNil))) (dUn gNeg (dK (.int 3)))) (dCall d__law_refused dNil))))))
def okS2 (r : SO) : Bool := match r with
  | .rt (.bl true) [] => true
  | _ => false
theorem okS2_eq {r : SO} (h : okS2 r = true) : r = .rt (.bl true) [] := by
  unfold okS2 at h
  split at h
  · rfl
  · cases h
/-- what follows the loop leans on nothing of it -/
theorem tail_ok (x o1 o2 : Option D) : okS2 (lawTail [x, o1, o2, none] []) = true := by kernel_rfl
theorem holds : ∀ ns : List Int, ns.length ≤ 63 → (∀ z ∈ ns, PySem.Builtin.Int.intBits z ≤ 1048576) → ∃ m, d_law [DX.D.scr ns] [] = .ok (.bl true) m := by
  intro ns _ _
  have hf : dRng1 (dCons (dK (.int 6)) dNil) [some (.scr ns), none, none, none] [] = .ok (.items (rangeD 0 6)) [] := rng1_ok (n := 6) (cons_ok k_ok nil_ok) (by decide)
  obtain ⟨e2, m2, q, rfl, o1, o2, rfl⟩ := for_all (tg := dgName 1) (b := (dFrzS (dSeq (dSet 2 (dCall d_c__law_generator (dCons (dVar 0) (dCons (dVar 1) dNil))))
    (dIfS (dNot (dTest (dCall d__law_least_good (dCons (dVar 2) (dCons (dCall d__law_raw_run (dCons (dVar 2) (dCons (dK (.int 6)) dNil))) dNil))))) (dRet (dK (.bl false))) dNext))))
    (P := fun i e m' => m' = [] ∧ ∃ o1 o2, e = [some (.scr ns), o1, o2, none]) hf (fun i d e m' hd p => by
      obtain ⟨rfl, o1, o2, rfl⟩ := p
      obtain ⟨hi, rfl⟩ := rangeD_get hd
      have en : (0 + (i : Int)) = (i : Int) := by omega
      rw [en]
      obtain ⟨a, b, hb, eg⟩ := gen_ok ns i (by omega) []
      have s1 : dSet 2 (dCall d_c__law_generator (dCons (dVar 0) (dCons (dVar 1) dNil))) [some (.scr ns), some (.int (i : Int)), o2, none] [] = .nx [some (.scr ns), some (.int (i : Int)), some (.mr 0), none] (gc a b (1000 * i) []) := set_ok (call_ok (cons_ok (var_ok rfl) (cons_ok (var_ok rfl) nil_ok)) eg)
      obtain ⟨f, s, k, a2, c2, hf, wf, ws, hk, hz, hc2, er⟩ := raw_draw a b (1000 * i) 6 (by decide) (by decide) hb (by omega)
      have er : d__law_raw_run [.mr 0, .int 6] (gc a b (1000 * i) []) = .ok (run f s k) (gc a2 b c2 []) := er
      obtain ⟨a3, c3, ok⟩ := good_ok f s k (by omega) wf ws hk hz a2 b c2 hb (by omega)
      have g : dNot (dTest (dCall d__law_least_good (dCons (dVar 2) (dCons (dCall d__law_raw_run (dCons (dVar 2) (dCons (dK (.int 6)) dNil))) dNil)))) [some (.scr ns), some (.int (i : Int)), some (.mr 0), none] (gc a b (1000 * i) []) = .ok false (gc a3 b c3 []) := not_ok (test_bl (call_ok (cons_ok (var_ok rfl) (cons_ok (call_ok (cons_ok (var_ok rfl) (cons_ok (k_ok (d := .int 6)) nil_ok)) er) nil_ok)) ok))
      refine ⟨_, rfl, [some (.scr ns), some (.int (i : Int)), some (.lst [.int a3, .int (b : Int), .int (c3 : Int)]), none], [], ?_, rfl, _, _, rfl⟩
      unfold dFrzS
      have run := (seq_nx s1).trans ((ifS_f (f := dRet (dK (.bl false))) (g := dNext) g).trans rfl)
      show (match (dSeq _ _) [some (.scr ns), some (.int (i : Int)), o2, none] [] with | .nx e m1 => _ | r => r) = _
      rw [run]
      rfl) ⟨rfl, none, none, rfl⟩
  have tl := okS2_eq (tail_ok (some (.scr ns)) o1 o2)
  exact ⟨[], def_rt ((seq_nx q).trans tl)⟩
end K46
end

section
set_option Elab.async false
set_option linter.all false
set_option maxRecDepth 100000
open PySem PySem.W PyProof.Rows
set_option maxHeartbeats 0 in
theorem PySem.Challenge.cw_countscribe_k46_least_runs_holds : PySem.Challenge.rw_countscribe_k46_least_runs.Holds := by
  w_on; o_law; k_head; (case hw => w_witness2)
  k_fill
  refine DX.walkG (l := PySem.Challenge.rw_countscribe_k46_least_runs) (n := 63) (k := 9) (x := "_law_script") (Fd := K46.d_law) rfl (by decide) rfl ⟨rfl, by decide, by decide⟩ (fun w h Y => PySem.W.kIn_of Y) ?F K46.holds
  case F =>
    intro w mg fa h KX G hmg
    have t_is_whole : DX.FT (DX.KOfX KX) mg "is_whole" K46.s_is_whole ["value"] := by
      unfold DX.KOfX
      refine' DX.ft_mk (PySem.W.mg_of KX G ?ax1) ?lx1 ?cx1 ?kx1 fun _ _ _ _ _ _ us hl => match us, hl with | [_], _ => rfl
      (case ax1 => k_is); (case lx1 => k_is); (case cx1 => k_is); (case kx1 => k_is)
    have t_is_between : DX.FT (DX.KOfX KX) mg "is_between" K46.s_is_between ["value", "low", "high"] := by
      unfold DX.KOfX
      refine' DX.ft_mk (PySem.W.mg_of KX G ?ax2) ?lx2 ?cx2 ?kx2 fun _ _ _ _ _ _ us hl => match us, hl with | [_, _, _], _ => rfl
      (case ax2 => k_is); (case lx2 => k_is); (case cx2 => k_is); (case kx2 => k_is)
    have t_check_number : DX.FT (DX.KOfX KX) mg "check_number" K46.s_check_number ["number", "low", "high"] := by
      unfold DX.KOfX
      refine' DX.ft_mk (PySem.W.mg_of KX G ?ax3) ?lx3 ?cx3 ?kx3 fun _ _ _ _ _ _ us hl => match us, hl with | [_, _, _], _ => rfl
      (case ax3 => k_is); (case lx3 => k_is); (case cx3 => k_is); (case kx3 => k_is)
    have t_is_worth : DX.FT (DX.KOfX KX) mg "is_worth" K46.s_is_worth ["value"] := by
      unfold DX.KOfX
      refine' DX.ft_mk (PySem.W.mg_of KX G ?ax4) ?lx4 ?cx4 ?kx4 fun _ _ _ _ _ _ us hl => match us, hl with | [_], _ => rfl
      (case ax4 => k_is); (case lx4 => k_is); (case cx4 => k_is); (case kx4 => k_is)
    have t_are_worths : DX.FT (DX.KOfX KX) mg "are_worths" K46.s_are_worths ["value"] := by
      unfold DX.KOfX
      refine' DX.ft_mk (PySem.W.mg_of KX G ?ax5) ?lx5 ?cx5 ?kx5 fun _ _ _ _ _ _ us hl => match us, hl with | [_], _ => rfl
      (case ax5 => k_is); (case lx5 => k_is); (case cx5 => k_is); (case kx5 => k_is)
    have t_is_slope : DX.FT (DX.KOfX KX) mg "is_slope" K46.s_is_slope ["start", "slope"] := by
      unfold DX.KOfX
      refine' DX.ft_mk (PySem.W.mg_of KX G ?ax6) ?lx6 ?cx6 ?kx6 fun _ _ _ _ _ _ us hl => match us, hl with | [_, _], _ => rfl
      (case ax6 => k_is); (case lx6 => k_is); (case cx6 => k_is); (case kx6 => k_is)
    have t_step_back : DX.FT (DX.KOfX KX) mg "step_back" K46.s_step_back ["start", "slope"] := by
      unfold DX.KOfX
      refine' DX.ft_mk (PySem.W.mg_of KX G ?ax7) ?lx7 ?cx7 ?kx7 fun _ _ _ _ _ _ us hl => match us, hl with | [_, _], _ => rfl
      (case ax7 => k_is); (case lx7 => k_is); (case cx7 => k_is); (case kx7 => k_is)
    have t_shortened : DX.FT (DX.KOfX KX) mg "shortened" K46.s_shortened ["first", "start", "slope"] := by
      unfold DX.KOfX
      refine' DX.ft_mk (PySem.W.mg_of KX G ?ax8) ?lx8 ?cx8 ?kx8 fun _ _ _ _ _ _ us hl => match us, hl with | [_, _, _], _ => rfl
      (case ax8 => k_is); (case lx8 => k_is); (case cx8 => k_is); (case kx8 => k_is)
    have t_is_run : DX.FT (DX.KOfX KX) mg "is_run" K46.s_is_run ["value"] := by
      unfold DX.KOfX
      refine' DX.ft_mk (PySem.W.mg_of KX G ?ax9) ?lx9 ?cx9 ?kx9 fun _ _ _ _ _ _ us hl => match us, hl with | [_], _ => rfl
      (case ax9 => k_is); (case lx9 => k_is); (case cx9 => k_is); (case kx9 => k_is)
    have t_check_run : DX.FT (DX.KOfX KX) mg "check_run" K46.s_check_run ["run"] := by
      unfold DX.KOfX
      refine' DX.ft_mk (PySem.W.mg_of KX G ?ax10) ?lx10 ?cx10 ?kx10 fun _ _ _ _ _ _ us hl => match us, hl with | [_], _ => rfl
      (case ax10 => k_is); (case lx10 => k_is); (case cx10 => k_is); (case kx10 => k_is)
    have t_least_run : DX.FT (DX.KOfX KX) mg "least_run" K46.s_least_run ["first", "start", "slope"] := by
      unfold DX.KOfX
      refine' DX.ft_mk (PySem.W.mg_of KX G ?ax11) ?lx11 ?cx11 ?kx11 fun _ _ _ _ _ _ us hl => match us, hl with | [_, _, _], _ => rfl
      (case ax11 => k_is); (case lx11 => k_is); (case cx11 => k_is); (case kx11 => k_is)
    have t_value_of : DX.FT (DX.KOfX KX) mg "value_of" K46.s_value_of ["run", "number"] := by
      unfold DX.KOfX
      refine' DX.ft_mk (PySem.W.mg_of KX G ?ax12) ?lx12 ?cx12 ?kx12 fun _ _ _ _ _ _ us hl => match us, hl with | [_, _], _ => rfl
      (case ax12 => k_is); (case lx12 => k_is); (case cx12 => k_is); (case kx12 => k_is)
    have t_run_value : DX.FT (DX.KOfX KX) mg "run_value" K46.s_run_value ["run", "number"] := by
      unfold DX.KOfX
      refine' DX.ft_mk (PySem.W.mg_of KX G ?ax13) ?lx13 ?cx13 ?kx13 fun _ _ _ _ _ _ us hl => match us, hl with | [_, _], _ => rfl
      (case ax13 => k_is); (case lx13 => k_is); (case cx13 => k_is); (case kx13 => k_is)
    have t__law_hash : DX.FT (DX.KOfX KX) mg "_law_hash" K46.s__law_hash ["_law_seed", "_law_index"] := by
      unfold DX.KOfX
      refine' DX.ft_mk (PySem.W.mg_of KX G ?ax14) ?lx14 ?cx14 ?kx14 fun _ _ _ _ _ _ us hl => match us, hl with | [_, _], _ => rfl
      (case ax14 => k_is); (case lx14 => k_is); (case cx14 => k_is); (case kx14 => k_is)
    have t__law_generator : DX.FT (DX.KOfX KX) mg "_law_generator" K46.s__law_generator ["_law_script", "_law_index"] := by
      unfold DX.KOfX
      refine' DX.ft_mk (PySem.W.mg_of KX G ?ax15) ?lx15 ?cx15 ?kx15 fun _ _ _ _ _ _ us hl => match us, hl with | [_, _], _ => rfl
      (case ax15 => k_is); (case lx15 => k_is); (case cx15 => k_is); (case kx15 => k_is)
    have t__law_random : DX.FT (DX.KOfX KX) mg "_law_random" K46.s__law_random ["_law_generator_here", "_law_bound"] := by
      unfold DX.KOfX
      refine' DX.ft_mk (PySem.W.mg_of KX G ?ax16) ?lx16 ?cx16 ?kx16 fun _ _ _ _ _ _ us hl => match us, hl with | [_, _], _ => rfl
      (case ax16 => k_is); (case lx16 => k_is); (case cx16 => k_is); (case kx16 => k_is)
    have t__law_back : DX.FT (DX.KOfX KX) mg "_law_back" K46.s__law_back ["_law_start", "_law_slope"] := by
      unfold DX.KOfX
      refine' DX.ft_mk (PySem.W.mg_of KX G ?ax17) ?lx17 ?cx17 ?kx17 fun _ _ _ _ _ _ us hl => match us, hl with | [_, _], _ => rfl
      (case ax17 => k_is); (case lx17 => k_is); (case cx17 => k_is); (case kx17 => k_is)
    have t__law_value : DX.FT (DX.KOfX KX) mg "_law_value" K46.s__law_value ["_law_run", "_law_number"] := by
      unfold DX.KOfX
      refine' DX.ft_mk (PySem.W.mg_of KX G ?ax18) ?lx18 ?cx18 ?kx18 fun _ _ _ _ _ _ us hl => match us, hl with | [_, _], _ => rfl
      (case ax18 => k_is); (case lx18 => k_is); (case cx18 => k_is); (case kx18 => k_is)
    have t__law_worth : DX.FT (DX.KOfX KX) mg "_law_worth" K46.s__law_worth ["_law_generator_here"] := by
      unfold DX.KOfX
      refine' DX.ft_mk (PySem.W.mg_of KX G ?ax19) ?lx19 ?cx19 ?kx19 fun _ _ _ _ _ _ us hl => match us, hl with | [_], _ => rfl
      (case ax19 => k_is); (case lx19 => k_is); (case cx19 => k_is); (case kx19 => k_is)
    have t__law_raw_run : DX.FT (DX.KOfX KX) mg "_law_raw_run" K46.s__law_raw_run ["_law_generator_here", "_law_most"] := by
      unfold DX.KOfX
      refine' DX.ft_mk (PySem.W.mg_of KX G ?ax20) ?lx20 ?cx20 ?kx20 fun _ _ _ _ _ _ us hl => match us, hl with | [_, _], _ => rfl
      (case ax20 => k_is); (case lx20 => k_is); (case cx20 => k_is); (case kx20 => k_is)
    have t__law_whole : DX.FT (DX.KOfX KX) mg "_law_whole" K46.s__law_whole ["_law_value_here"] := by
      unfold DX.KOfX
      refine' DX.ft_mk (PySem.W.mg_of KX G ?ax21) ?lx21 ?cx21 ?kx21 fun _ _ _ _ _ _ us hl => match us, hl with | [_], _ => rfl
      (case ax21 => k_is); (case lx21 => k_is); (case cx21 => k_is); (case kx21 => k_is)
    have t__law_is_least : DX.FT (DX.KOfX KX) mg "_law_is_least" K46.s__law_is_least ["_law_run"] := by
      unfold DX.KOfX
      refine' DX.ft_mk (PySem.W.mg_of KX G ?ax22) ?lx22 ?cx22 ?kx22 fun _ _ _ _ _ _ us hl => match us, hl with | [_], _ => rfl
      (case ax22 => k_is); (case lx22 => k_is); (case cx22 => k_is); (case kx22 => k_is)
    have t__law_least_good : DX.FT (DX.KOfX KX) mg "_law_least_good" K46.s__law_least_good ["_law_generator_here", "_law_raw"] := by
      unfold DX.KOfX
      refine' DX.ft_mk (PySem.W.mg_of KX G ?ax23) ?lx23 ?cx23 ?kx23 fun _ _ _ _ _ _ us hl => match us, hl with | [_, _], _ => rfl
      (case ax23 => k_is); (case lx23 => k_is); (case cx23 => k_is); (case kx23 => k_is)
    have t__law_caught : DX.FT (DX.KOfX KX) mg "_law_caught" K46.s__law_caught ["_law_which", "_law_given"] := by
      unfold DX.KOfX
      refine' DX.ft_mk (PySem.W.mg_of KX G ?ax24) ?lx24 ?cx24 ?kx24 fun _ _ _ _ _ _ us hl => match us, hl with | [_, _], _ => rfl
      (case ax24 => k_is); (case lx24 => k_is); (case cx24 => k_is); (case kx24 => k_is)
    have t__law_refused : DX.FT (DX.KOfX KX) mg "_law_refused" K46.s__law_refused [] := by
      unfold DX.KOfX
      refine' DX.ft_mk (PySem.W.mg_of KX G ?ax25) ?lx25 ?cx25 ?kx25 fun _ _ _ _ _ _ us hl => match us, hl with | [], _ => rfl
      (case ax25 => k_is); (case lx25 => k_is); (case cx25 => k_is); (case kx25 => k_is)
    have t_law : DX.FT (DX.KOfX KX) mg "law" K46.s_law ["_law_script"] := by
      unfold DX.KOfX
      refine' DX.ft_mk (PySem.W.mg_of KX G ?ax26) ?lx26 ?cx26 ?kx26 fun _ _ _ _ _ _ us hl => match us, hl with | [_], _ => rfl
      (case ax26 => k_is); (case lx26 => k_is); (case cx26 => k_is); (case kx26 => k_is)
    have z_bool : mg "bool" = none := by
      exact PySem.W.mg_none_of KX G (by k_is)
    have z_int : mg "int" = none := by
      exact PySem.W.mg_none_of KX G (by k_is)
    have z_isinstance : mg "isinstance" = none := by
      exact PySem.W.mg_none_of KX G (by k_is)
    have z_len : mg "len" = none := by
      exact PySem.W.mg_none_of KX G (by k_is)
    have z_list : mg "list" = none := by
      exact PySem.W.mg_none_of KX G (by k_is)
    have z_max : mg "max" = none := by
      exact PySem.W.mg_none_of KX G (by k_is)
    have z_range : mg "range" = none := by
      exact PySem.W.mg_none_of KX G (by k_is)
    have z_repr : mg "repr" = none := by
      exact PySem.W.mg_none_of KX G (by k_is)
    have z_sum : mg "sum" = none := by
      exact PySem.W.mg_none_of KX G (by k_is)
    have z_tuple : mg "tuple" = none := by
      exact PySem.W.mg_none_of KX G (by k_is)
    have e_InvalidNumber : ∃ C, PySem.ErrX.ErrTxt PySem.Challenge.pw_countscribe_k46_least_runs (DX.KOfX KX) mg "InvalidNumber" C ∧ DX.ExcT (DX.KOfX KX) C := by
      unfold DX.KOfX
      refine' ⟨_, DX.errTxt_mk (b := "CountError") KX G ?ax27 ?aBx27 ?xCx27 ?xBx27 ?fBx27 ?hbmx27 ?rvx27 ?sax27 ?gax27 ?ggx27 ?nvx27 ?kCx27 ?eCx27 ?vCx27 ?sCx27 ?tCx27 ?hCx27 ?sux27 ?oqx27 ?tpx27 ?i1x27 ?t1x27 ?l1x27 ?c1x27 ?l2x27 ?v2x27 ?ffx27 ?l3x27 ?l4x27 ?lnx27, ?m1x27, ?m2x27, ?m3x27, ?m4x27⟩
      (case ax27 => k_is); (case aBx27 => k_is); (case xCx27 => k_is); (case xBx27 => k_is); (case fBx27 => k_is); (case hbmx27 => rfl); (case rvx27 => decide +kernel); (case sax27 => k_is); (case gax27 => k_is); (case ggx27 => k_is); (case nvx27 => k_is); (case kCx27 => k_is); (case eCx27 => k_is); (case vCx27 => k_is); (case sCx27 => first | k_is | rfl); (case tCx27 => k_is); (case hCx27 => k_is); (case sux27 => k_is); (case oqx27 => k_is); (case tpx27 => decide +kernel); (case i1x27 => k_is); (case t1x27 => k_is); (case l1x27 => k_is); (case c1x27 => k_is); (case l2x27 => k_is); (case v2x27 => rfl); (case ffx27 => decide +kernel); (case l3x27 => k_is); (case l4x27 => k_is); (case lnx27 => decide +kernel)
      (case m1x27 => k_is); (case m2x27 => k_is); (case m3x27 => k_is); (case m4x27 => k_is)
    have e_InvalidList : ∃ C, PySem.ErrX.ErrTxt PySem.Challenge.pw_countscribe_k46_least_runs (DX.KOfX KX) mg "InvalidList" C ∧ DX.ExcT (DX.KOfX KX) C := by
      unfold DX.KOfX
      refine' ⟨_, DX.errTxt_mk (b := "CountError") KX G ?ax28 ?aBx28 ?xCx28 ?xBx28 ?fBx28 ?hbmx28 ?rvx28 ?sax28 ?gax28 ?ggx28 ?nvx28 ?kCx28 ?eCx28 ?vCx28 ?sCx28 ?tCx28 ?hCx28 ?sux28 ?oqx28 ?tpx28 ?i1x28 ?t1x28 ?l1x28 ?c1x28 ?l2x28 ?v2x28 ?ffx28 ?l3x28 ?l4x28 ?lnx28, ?m1x28, ?m2x28, ?m3x28, ?m4x28⟩
      (case ax28 => k_is); (case aBx28 => k_is); (case xCx28 => k_is); (case xBx28 => k_is); (case fBx28 => k_is); (case hbmx28 => rfl); (case rvx28 => decide +kernel); (case sax28 => k_is); (case gax28 => k_is); (case ggx28 => k_is); (case nvx28 => k_is); (case kCx28 => k_is); (case eCx28 => k_is); (case vCx28 => k_is); (case sCx28 => first | k_is | rfl); (case tCx28 => k_is); (case hCx28 => k_is); (case sux28 => k_is); (case oqx28 => k_is); (case tpx28 => decide +kernel); (case i1x28 => k_is); (case t1x28 => k_is); (case l1x28 => k_is); (case c1x28 => k_is); (case l2x28 => k_is); (case v2x28 => rfl); (case ffx28 => decide +kernel); (case l3x28 => k_is); (case l4x28 => k_is); (case lnx28 => decide +kernel)
      (case m1x28 => k_is); (case m2x28 => k_is); (case m3x28 => k_is); (case m4x28 => k_is)
    have e_InvalidRun : ∃ C, PySem.ErrX.ErrTxt PySem.Challenge.pw_countscribe_k46_least_runs (DX.KOfX KX) mg "InvalidRun" C ∧ DX.ExcT (DX.KOfX KX) C := by
      unfold DX.KOfX
      refine' ⟨_, DX.errTxt_mk (b := "CountError") KX G ?ax29 ?aBx29 ?xCx29 ?xBx29 ?fBx29 ?hbmx29 ?rvx29 ?sax29 ?gax29 ?ggx29 ?nvx29 ?kCx29 ?eCx29 ?vCx29 ?sCx29 ?tCx29 ?hCx29 ?sux29 ?oqx29 ?tpx29 ?i1x29 ?t1x29 ?l1x29 ?c1x29 ?l2x29 ?v2x29 ?ffx29 ?l3x29 ?l4x29 ?lnx29, ?m1x29, ?m2x29, ?m3x29, ?m4x29⟩
      (case ax29 => k_is); (case aBx29 => k_is); (case xCx29 => k_is); (case xBx29 => k_is); (case fBx29 => k_is); (case hbmx29 => rfl); (case rvx29 => decide +kernel); (case sax29 => k_is); (case gax29 => k_is); (case ggx29 => k_is); (case nvx29 => k_is); (case kCx29 => k_is); (case eCx29 => k_is); (case vCx29 => k_is); (case sCx29 => first | k_is | rfl); (case tCx29 => k_is); (case hCx29 => k_is); (case sux29 => k_is); (case oqx29 => k_is); (case tpx29 => decide +kernel); (case i1x29 => k_is); (case t1x29 => k_is); (case l1x29 => k_is); (case c1x29 => k_is); (case l2x29 => k_is); (case v2x29 => rfl); (case ffx29 => decide +kernel); (case l3x29 => k_is); (case l4x29 => k_is); (case lnx29 => decide +kernel)
      (case m1x29 => k_is); (case m2x29 => k_is); (case m3x29 => k_is); (case m4x29 => k_is)
    have s_InvalidNumber_InvalidNumber : DX.SubT (DX.KOfX KX) "InvalidNumber" "InvalidNumber" (decide (("InvalidNumber" : Str) = "InvalidNumber")) := by
      unfold DX.KOfX
      exact DX.subT_mk (by k_is) (by k_is) (by first | k_is | rfl)
    have s_InvalidNumber_InvalidList : DX.SubT (DX.KOfX KX) "InvalidNumber" "InvalidList" (decide (("InvalidNumber" : Str) = "InvalidList")) := by
      unfold DX.KOfX
      exact DX.subT_mk (by k_is) (by k_is) (by first | k_is | rfl)
    have s_InvalidNumber_InvalidRun : DX.SubT (DX.KOfX KX) "InvalidNumber" "InvalidRun" (decide (("InvalidNumber" : Str) = "InvalidRun")) := by
      unfold DX.KOfX
      exact DX.subT_mk (by k_is) (by k_is) (by first | k_is | rfl)
    have s_InvalidNumber_CountError : DX.SubT (DX.KOfX KX) "InvalidNumber" "CountError" true := by
      unfold DX.KOfX
      exact DX.subT_mk (by k_is) (by k_is) (by first | k_is | rfl)
    have n_InvalidNumber : DX.NonT (DX.KOfX KX) "InvalidNumber" := by
      unfold DX.KOfX
      exact DX.nonT_mk (by k_is) (by k_is)
    have s_InvalidList_InvalidNumber : DX.SubT (DX.KOfX KX) "InvalidList" "InvalidNumber" (decide (("InvalidList" : Str) = "InvalidNumber")) := by
      unfold DX.KOfX
      exact DX.subT_mk (by k_is) (by k_is) (by first | k_is | rfl)
    have s_InvalidList_InvalidList : DX.SubT (DX.KOfX KX) "InvalidList" "InvalidList" (decide (("InvalidList" : Str) = "InvalidList")) := by
      unfold DX.KOfX
      exact DX.subT_mk (by k_is) (by k_is) (by first | k_is | rfl)
    have s_InvalidList_InvalidRun : DX.SubT (DX.KOfX KX) "InvalidList" "InvalidRun" (decide (("InvalidList" : Str) = "InvalidRun")) := by
      unfold DX.KOfX
      exact DX.subT_mk (by k_is) (by k_is) (by first | k_is | rfl)
    have s_InvalidList_CountError : DX.SubT (DX.KOfX KX) "InvalidList" "CountError" true := by
      unfold DX.KOfX
      exact DX.subT_mk (by k_is) (by k_is) (by first | k_is | rfl)
    have n_InvalidList : DX.NonT (DX.KOfX KX) "InvalidList" := by
      unfold DX.KOfX
      exact DX.nonT_mk (by k_is) (by k_is)
    have s_InvalidRun_InvalidNumber : DX.SubT (DX.KOfX KX) "InvalidRun" "InvalidNumber" (decide (("InvalidRun" : Str) = "InvalidNumber")) := by
      unfold DX.KOfX
      exact DX.subT_mk (by k_is) (by k_is) (by first | k_is | rfl)
    have s_InvalidRun_InvalidList : DX.SubT (DX.KOfX KX) "InvalidRun" "InvalidList" (decide (("InvalidRun" : Str) = "InvalidList")) := by
      unfold DX.KOfX
      exact DX.subT_mk (by k_is) (by k_is) (by first | k_is | rfl)
    have s_InvalidRun_InvalidRun : DX.SubT (DX.KOfX KX) "InvalidRun" "InvalidRun" (decide (("InvalidRun" : Str) = "InvalidRun")) := by
      unfold DX.KOfX
      exact DX.subT_mk (by k_is) (by k_is) (by first | k_is | rfl)
    have s_InvalidRun_CountError : DX.SubT (DX.KOfX KX) "InvalidRun" "CountError" true := by
      unfold DX.KOfX
      exact DX.subT_mk (by k_is) (by k_is) (by first | k_is | rfl)
    have n_InvalidRun : DX.NonT (DX.KOfX KX) "InvalidRun" := by
      unfold DX.KOfX
      exact DX.nonT_mk (by k_is) (by k_is)
    have b_CountError : DX.BaseT (DX.KOfX KX) "CountError" := by
      unfold DX.KOfX
      exact DX.baseT_mk (by k_is) (by k_is) (by k_is) (by k_is)
    have hE : ∀ c ∈ K46.errs, ∃ C, PySem.ErrX.ErrTxt PySem.Challenge.pw_countscribe_k46_least_runs (DX.KOfX KX) mg c C ∧ DX.ExcT (DX.KOfX KX) C := List.forall_mem_cons.mpr ⟨e_InvalidNumber, List.forall_mem_cons.mpr ⟨e_InvalidList, List.forall_mem_cons.mpr ⟨e_InvalidRun, fun _ z => nomatch z⟩⟩⟩
    have T : K46.Txt PySem.Challenge.pw_countscribe_k46_least_runs (DX.KOfX KX) mg := ⟨t_is_whole, t_is_between, t_check_number, t_is_worth, t_are_worths, t_is_slope, t_step_back, t_shortened, t_is_run, t_check_run, t_least_run, t_value_of, t_run_value, t__law_hash, t__law_generator, t__law_random, t__law_back, t__law_value, t__law_worth, t__law_raw_run, t__law_whole, t__law_is_least, t__law_least_good, t__law_caught, t__law_refused, t_law, z_bool, z_int, z_isinstance, z_len, z_list, z_max, z_range, z_repr, z_sum, z_tuple, DX.errEx e_InvalidNumber, DX.errEx e_InvalidList, DX.errEx e_InvalidRun, DX.catch_of KX G b_CountError (List.forall_mem_cons.mpr ⟨s_InvalidNumber_CountError, List.forall_mem_cons.mpr ⟨s_InvalidList_CountError, List.forall_mem_cons.mpr ⟨s_InvalidRun_CountError, fun _ z => nomatch z⟩⟩⟩), DX.errOk_of KX G hE (List.forall_mem_cons.mpr ⟨(List.forall_mem_cons.mpr ⟨s_InvalidNumber_InvalidNumber, List.forall_mem_cons.mpr ⟨s_InvalidNumber_InvalidList, List.forall_mem_cons.mpr ⟨s_InvalidNumber_InvalidRun, fun _ z => nomatch z⟩⟩⟩), List.forall_mem_cons.mpr ⟨(List.forall_mem_cons.mpr ⟨s_InvalidList_InvalidNumber, List.forall_mem_cons.mpr ⟨s_InvalidList_InvalidList, List.forall_mem_cons.mpr ⟨s_InvalidList_InvalidRun, fun _ z => nomatch z⟩⟩⟩), List.forall_mem_cons.mpr ⟨(List.forall_mem_cons.mpr ⟨s_InvalidRun_InvalidNumber, List.forall_mem_cons.mpr ⟨s_InvalidRun_InvalidList, List.forall_mem_cons.mpr ⟨s_InvalidRun_InvalidRun, fun _ z => nomatch z⟩⟩⟩), fun _ z => nomatch z⟩⟩⟩) (List.forall_mem_cons.mpr ⟨n_InvalidNumber, List.forall_mem_cons.mpr ⟨n_InvalidList, List.forall_mem_cons.mpr ⟨n_InvalidRun, fun _ z => nomatch z⟩⟩⟩), DX.xvOk_of hE⟩
    obtain ⟨f, fd, F, g, _, _⟩ := T.t_law.ex
    have ef := hmg.symm.trans g
    cases ef
    refine ⟨fd, fun s u => ?_, fun bs _ _ => (K46.ok_law T).run fa fd F⟩
    obtain ⟨_, _, _, _, _, _, _, _, _, rfl, _, _⟩ := F.ex
    exact .of_eq rfl
end
