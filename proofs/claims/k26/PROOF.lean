import PyProof.Rows.All
import Wide.All
import OpenK.AllK
import Wide.FinOn
import HandS.ForMost
import HandS.ForExc
import HandS.CallSlots
import HandS.TupAny
import HandS.TupMul
import HandS.Deep
import HandS.Style
import HandS.Walk
import HandS.Conv
import HandS.IsInst
import HandS.RaiseMore
import PySem.Challenge.RW_wrecktold_k26_whole_the_newest_is_found
set_option Elab.async false
set_option linter.all false
set_option maxRecDepth 100000
set_option maxHeartbeats 4000000
/-! BV: a by-value layer over HandS. Data D without addresses (mutable lists as numbered cells), plain functions for
what constructs of Python compute on them, one lemma a construct. -/
namespace BV
open PySem PySem.Spec PyProof.Rows L2

/-- data: tuples and lists by value; cel k: the k-th mutable list; scr: the script -/
inductive D where
  | non | bl (b : Bool) | int (i : Int) | str (x : Str) | tup (xs : List D) | lst (xs : List D) | cel (k : Nat) | scr (ns : List Int)
instance : Inhabited D := ⟨.non⟩
inductive Cell where
  | lst (xs : List D) | dead
abbrev Cells := List Cell
abbrev Rho := List (Option D)
inductive Res (α : Type) where
  | ok (a : α) (C : Cells) | ex (c : Str) (p : D) (C : Cells) | stuck
def Res.bind {α β : Type} (r : Res α) (g : α → Cells → Res β) : Res β := match r with
  | .ok a C => g a C
  | .ex c p C => .ex c p C
  | .stuck => .stuck
@[simp] theorem Res.bind_ok {α β : Type} (a : α) (C : Cells) (g : α → Cells → Res β) : (Res.ok a C).bind g = g a C := rfl
@[simp] theorem Res.bind_ex {α β : Type} (c : Str) (p : D) (C : Cells) (g : α → Cells → Res β) : (Res.ex c p C : Res α).bind g = .ex c p C := rfl
@[simp] theorem Res.bind_stuck {α β : Type} (g : α → Cells → Res β) : (Res.stuck : Res α).bind g = .stuck := rfl

/-! ### how data lie in the abstract heap: μ the cells' addresses, F the frozen part -/
mutual
inductive Rep (K : PySem.W.Frag) (μ : List Addr) (F : Hp) : V → D → Prop
  | non : Rep K μ F .non .non
  | bl (b : Bool) : Rep K μ F (.bl b) (.bl b)
  | int (i : Int) : Rep K μ F (.int i) (.int i)
  | str (x : Str) : Rep K μ F (.str x) (.str x)
  | tup {a : Addr} {vs : List V} {ds : List D} : SqT K F a vs → Reps K μ F vs ds → Rep K μ F (.ref a) (.tup ds)
  | lst {a : Addr} {vs : List V} {ds : List D} : F a = some (.lst vs) → Reps K μ F vs ds → Rep K μ F (.ref a) (.lst ds)
  | cel {a : Addr} {k : Nat} : μ[k]? = some a → Rep K μ F (.ref a) (.cel k)
  | scr {a : Addr} {ns : List Int} : SqL K F a (ns.map V.int) → Rep K μ F (.ref a) (.scr ns)
inductive Reps (K : PySem.W.Frag) (μ : List Addr) (F : Hp) : List V → List D → Prop
  | nil : Reps K μ F [] []
  | cons {v : V} {vs : List V} {d : D} {ds : List D} : Rep K μ F v d → Reps K μ F vs ds → Reps K μ F (v :: vs) (d :: ds)
end
section
variable {K : PySem.W.Frag} {μ μ' : List Addr} {F F' : Hp}
theorem sameT {H H' : Hp} {a : Addr} {xs : List V} (e : Same H H') (h : SqT K H a xs) : SqT K H' a xs := by
  rcases h with (q | ⟨o, q⟩) | q
  · exact .inl (.inl (e _ _ q))
  · exact .inl (.inr ⟨o, e _ _ q⟩)
  · exact .inr q
theorem pre_get {τ : List Addr} {k : Nat} {a : Addr} (e : μ' = μ ++ τ) (h : μ[k]? = some a) : μ'[k]? = some a := by
  rw [e, List.getElem?_append_left (List.getElem?_eq_some_iff.mp h).1]
  exact h
mutual
theorem Rep.mono (hp : ∃ τ, μ' = μ ++ τ) (hf : Same F F') : ∀ (d : D) (v : V), Rep K μ F v d → Rep K μ' F' v d
  | .non, _, h => by cases h; exact .non
  | .bl b, _, h => by cases h; exact .bl b
  | .int i, _, h => by cases h; exact .int i
  | .str x, _, h => by cases h; exact .str x
  | .tup ds, _, h => by
    cases h with
    | tup a b => exact .tup (sameT hf a) (Reps.mono hp hf ds _ b)
  | .lst ds, _, h => by
    cases h with
    | lst a b => exact .lst (hf _ _ a) (Reps.mono hp hf ds _ b)
  | .cel k, _, h => by
    cases h with
    | cel a =>
      obtain ⟨τ, e⟩ := hp
      exact .cel (pre_get e a)
  | .scr ns, _, h => by
    cases h with
    | scr a => exact .scr (hf.seq a)
theorem Reps.mono (hp : ∃ τ, μ' = μ ++ τ) (hf : Same F F') : ∀ (ds : List D) (vs : List V), Reps K μ F vs ds → Reps K μ' F' vs ds
  | [], _, h => by cases h; exact .nil
  | d :: ds, _, h => by
    cases h with
    | cons a b => exact .cons (Rep.mono hp hf d _ a) (Reps.mono hp hf ds _ b)
end
theorem Reps.length : ∀ {vs : List V} {ds : List D}, Reps K μ F vs ds → vs.length = ds.length
  | _, _, .nil => rfl
  | _, _, .cons _ t => congrArg (· + 1) (Reps.length t)
theorem Reps.get : ∀ {vs : List V} {ds : List D} {i : Nat} {d : D}, Reps K μ F vs ds → ds[i]? = some d → ∃ v, vs[i]? = some v ∧ Rep K μ F v d
  | _, _, i, d, .nil, e => by simp at e
  | _, _, 0, d, .cons r t, e => by
    simp at e
    subst e
    exact ⟨_, rfl, r⟩
  | _, _, i + 1, d, .cons r t, e => by
    obtain ⟨v, h1, h2⟩ := Reps.get (i := i) t (by simpa using e)
    exact ⟨v, by simpa using h1, h2⟩
theorem Reps.getV : ∀ {vs : List V} {ds : List D} {i : Nat} {v : V}, Reps K μ F vs ds → vs[i]? = some v → ∃ d, ds[i]? = some d ∧ Rep K μ F v d
  | _, _, i, d, .nil, e => by simp at e
  | _, _, 0, d, .cons r t, e => by
    simp at e
    subst e
    exact ⟨_, rfl, r⟩
  | _, _, i + 1, d, .cons r t, e => by
    obtain ⟨v, h1, h2⟩ := Reps.getV (i := i) t (by simpa using e)
    exact ⟨v, by simpa using h1, h2⟩
theorem Reps.append : ∀ {vs ws : List V} {ds es : List D}, Reps K μ F vs ds → Reps K μ F ws es → Reps K μ F (vs ++ ws) (ds ++ es)
  | _, _, _, _, .nil, s => s
  | _, _, _, _, .cons r t, s => .cons r (Reps.append t s)
theorem Reps.set {v : V} {d : D} (r : Rep K μ F v d) : ∀ {vs : List V} {ds : List D} (i : Nat), Reps K μ F vs ds → Reps K μ F (vs.set i v) (ds.set i d)
  | _, _, _, .nil => .nil
  | _, _, 0, .cons _ t => .cons r t
  | _, _, i + 1, .cons q t => .cons q (Reps.set r i t)
theorem Reps.take : ∀ {vs : List V} {ds : List D} (n : Nat), Reps K μ F vs ds → Reps K μ F (vs.take n) (ds.take n)
  | _, _, 0, _ => .nil
  | _, _, _ + 1, .nil => .nil
  | _, _, n + 1, .cons r t => .cons r (Reps.take n t)
theorem Reps.drop : ∀ {vs : List V} {ds : List D} (n : Nat), Reps K μ F vs ds → Reps K μ F (vs.drop n) (ds.drop n)
  | _, _, 0, r => r
  | _, _, _ + 1, .nil => .nil
  | _, _, n + 1, .cons _ t => Reps.drop n t
theorem Reps.rep {vs : List V} {ds : List D} (r : Reps K μ F vs ds) : ∀ n : Nat, Reps K μ F (List.replicate n vs).flatten (List.replicate n ds).flatten
  | 0 => .nil
  | n + 1 => by
    simp only [List.replicate_succ, List.flatten_cons]
    exact r.append (Reps.rep r n)
theorem Reps.ints : ∀ (ns : List Int), Reps K μ F (ns.map V.int) (ns.map D.int)
  | [] => .nil
  | n :: ns => .cons (.int n) (Reps.ints ns)
theorem Reps.of_ints : ∀ {vs : List V} {ns : List Int}, Reps K μ F vs (ns.map D.int) → vs = ns.map V.int
  | _, [], h => by cases h; rfl
  | _, n :: ns, h => by
    cases h with
    | cons a b =>
      cases a
      rw [Reps.of_ints b]
      rfl
theorem Reps.of_bls : ∀ {vs : List V} {bs : List Bool}, Reps K μ F vs (bs.map D.bl) → vs = bs.map V.bl
  | _, [], h => by cases h; rfl
  | _, n :: ns, h => by
    cases h with
    | cons a b =>
      cases a
      rw [Reps.of_bls b]
      rfl
end

/-! ### the relation of states -/
def CellRep (K : PySem.W.Frag) (μ : List Addr) (F H : Hp) (a : Addr) : Cell → Prop
  | .lst ds => F a = none ∧ ∃ vs, H a = some (.lst vs) ∧ Reps K μ F vs ds
  | .dead => True
structure Sim (K : PySem.W.Frag) (μ : List Addr) (F : Hp) (C : Cells) (H : Hp) : Prop where
  sub : Same F H
  len : μ.length = C.length
  nd : μ.Nodup
  trk : ∀ a, a ∈ μ → H a ≠ none
  cel : ∀ (k : Nat) (c : Cell) (a : Addr), C[k]? = some c → μ[k]? = some a → CellRep K μ F H a c
structure Ext (μ : List Addr) (F H : Hp) (μ' : List Addr) (F' H' : Hp) : Prop where
  pre : ∃ τ, μ' = μ ++ τ ∧ ∀ a, a ∈ τ → H a = none
  fr : Same F F'
  thr : ∀ a, H' a = none → H a = none
  new : ∀ a o, F' a = some o → F a = none → H a = none ∨ a ∈ μ
  keep : ∀ a o, H a = some o → a ∉ μ → H' a = some o
def ERel (K : PySem.W.Frag) (μ : List Addr) (F : Hp) (ρ : Rho) (σ : L2.St) : Prop :=
  ρ.length = σ.length ∧ ∀ (i : Nat) (d : D), ρ[i]? = some (some d) → ∃ v, σ[i]? = some (some v) ∧ Rep K μ F v d
section
variable {K : PySem.W.Frag} {μ μ' μ'' : List Addr} {F F' F'' H H' H'' : Hp} {C C' : Cells} {ρ : Rho} {σ : L2.St}
theorem Ext.refl : Ext μ F H μ F H := ⟨⟨[], by simp, fun a h => nomatch h⟩, Same.refl F, fun _ h => h, fun a o h1 h2 => (by rw [h1] at h2; cases h2), fun _ _ h _ => h⟩
theorem Ext.trans (x : Ext μ F H μ' F' H') (y : Ext μ' F' H' μ'' F'' H'') : Ext μ F H μ'' F'' H'' := by
  obtain ⟨τ, e, n⟩ := x.pre
  obtain ⟨τ', e', n'⟩ := y.pre
  refine ⟨⟨τ ++ τ', by rw [e', e, List.append_assoc], fun a h => ?_⟩, x.fr.trans y.fr, fun a h => x.thr a (y.thr a h), fun a o h1 h2 => ?_, fun a o h1 h2 => ?_⟩
  · rcases List.mem_append.mp h with h | h
    · exact n a h
    · exact x.thr a (n' a h)
  · cases q : F' a with
    | some o' => exact x.new a o' q h2
    | none =>
      rcases y.new a o h1 q with z | z
      · exact .inl (x.thr a z)
      · rw [e] at z
        rcases List.mem_append.mp z with z | z
        · exact .inr z
        · exact .inl (n a z)
  · refine y.keep a o (x.keep a o h1 h2) fun z => ?_
    rw [e] at z
    rcases List.mem_append.mp z with z | z
    · exact h2 z
    · rw [n a z] at h1
      cases h1
theorem Ext.rep (x : Ext μ F H μ' F' H') {v : V} {d : D} (r : Rep K μ F v d) : Rep K μ' F' v d := Rep.mono ⟨_, x.pre.choose_spec.1⟩ x.fr d v r
theorem Ext.reps (x : Ext μ F H μ' F' H') {v : List V} {d : List D} (r : Reps K μ F v d) : Reps K μ' F' v d := Reps.mono ⟨_, x.pre.choose_spec.1⟩ x.fr d v r
theorem Ext.env (x : Ext μ F H μ' F' H') (e : ERel K μ F ρ σ) : ERel K μ' F' ρ σ := ⟨e.1, fun i d h => by
  obtain ⟨v, a, b⟩ := e.2 i d h
  exact ⟨v, a, x.rep b⟩⟩
theorem Sim.free (S : Sim K μ F C H) {p : Addr} (h : H p = none) : F p = none := S.sub.free h
theorem Sim.notin (S : Sim K μ F C H) {p : Addr} (h : H p = none) : p ∉ μ := fun z => S.trk p z h
/-- a new frozen object -/
theorem Sim.alloc (S : Sim K μ F C H) {p : Addr} {o : HO} (hp : H p = none) : Sim K μ (upd F p o) C (upd H p o) ∧ Ext μ F H μ (upd F p o) (upd H p o) := by
  have fF : Same F (upd F p o) := fun b u e => by
    rw [upd_ne (ne_of_none e (S.free hp))]
    exact e
  refine ⟨⟨fun b u e => ?_, S.len, S.nd, fun a h z => ?_, fun k c a h1 h2 => ?_⟩, ⟨⟨[], by simp, fun a h => nomatch h⟩, fF, fun a h => ?_, fun a u h1 h2 => ?_, fun a u h1 h2 => ?_⟩⟩
  · by_cases hb : b = p
    · subst hb
      rw [upd_same] at e ⊢
      exact e
    · rw [upd_ne hb] at e ⊢
      exact S.sub b u e
  · by_cases hb : a = p
    · subst hb
      rw [upd_same] at z
      cases z
    · rw [upd_ne hb] at z
      exact S.trk a h z
  · have q := S.cel k c a h1 h2
    cases c with
    | dead => trivial
    | lst ds =>
      obtain ⟨f, vs, g, r⟩ := q
      have hne : a ≠ p := ne_of_none g hp
      exact ⟨by rw [upd_ne hne]; exact f, vs, by rw [upd_ne hne]; exact g, Reps.mono ⟨[], by simp⟩ fF _ _ r⟩
  · by_cases hb : a = p
    · subst hb
      exact hp
    · rw [upd_ne hb] at h
      exact h
  · by_cases hb : a = p
    · subst hb
      exact .inl hp
    · rw [upd_ne hb, h2] at h1
      cases h1
  · rw [upd_ne (ne_of_none h1 hp)]
    exact h1
/-- a new cell -/
theorem Sim.cell (S : Sim K μ F C H) {p : Addr} {vs : List V} {ds : List D} (hp : H p = none) (r : Reps K μ F vs ds) :
    Sim K (μ ++ [p]) F (C ++ [.lst ds]) (upd H p (.lst vs)) ∧ Ext μ F H (μ ++ [p]) F (upd H p (.lst vs)) := by
  refine ⟨⟨fun b u e => ?_, by simp [S.len], ?_, fun a h z => ?_, fun k c a h1 h2 => ?_⟩, ⟨⟨[p], rfl, fun a h => by simp at h; subst h; exact hp⟩, Same.refl F, fun a h => ?_, fun a u h1 h2 => (by rw [h1] at h2; cases h2), fun a u h1 h2 => ?_⟩⟩
  · rw [upd_ne (ne_of_none (S.sub b u e) hp)]
    exact S.sub b u e
  · refine List.nodup_append.mpr ⟨S.nd, by simp, fun a h b hb e => ?_⟩
    simp at hb
    subst hb
    subst e
    exact S.notin hp h
  · by_cases hb : a = p
    · subst hb
      rw [upd_same] at z
      cases z
    · rw [upd_ne hb] at z
      rcases List.mem_append.mp h with h | h
      · exact S.trk a h z
      · simp at h
        exact hb h
  · by_cases hk : k < C.length
    · rw [List.getElem?_append_left hk] at h1
      rw [List.getElem?_append_left (by rw [S.len]; exact hk)] at h2
      have q := S.cel k c a h1 h2
      cases c with
      | dead => trivial
      | lst ds' =>
        obtain ⟨f, vs', g, r'⟩ := q
        exact ⟨f, vs', by rw [upd_ne (ne_of_none g hp)]; exact g, Reps.mono ⟨[p], rfl⟩ (Same.refl F) _ _ r'⟩
    · have h3 : k - C.length = 0 := by
        rw [List.getElem?_append_right (by omega)] at h1
        have := (List.getElem?_eq_some_iff.mp h1).1
        simp at this
        omega
      rw [List.getElem?_append_right (by omega), h3] at h1
      rw [List.getElem?_append_right (by rw [S.len]; omega), S.len, h3] at h2
      simp at h1 h2
      subst h1 h2
      exact ⟨S.free hp, vs, upd_same, Reps.mono ⟨[p], rfl⟩ (Same.refl F) _ _ r⟩
  · by_cases hb : a = p
    · subst hb
      exact hp
    · rw [upd_ne hb] at h
      exact h
  · rw [upd_ne (ne_of_none h1 hp)]
    exact h1
/-- a cell is written -/
theorem Sim.write (S : Sim K μ F C H) {k : Nat} {a : Addr} {ds ds' : List D} {vs' : List V} (hk : C[k]? = some (.lst ds)) (ha : μ[k]? = some a) (r : Reps K μ F vs' ds') :
    Sim K μ F (C.set k (.lst ds')) (upd H a (.lst vs')) ∧ Ext μ F H μ F (upd H a (.lst vs')) := by
  obtain ⟨f, vs, g, r0⟩ := S.cel k _ a hk ha
  refine ⟨⟨fun b u e => ?_, by simp [S.len], S.nd, fun b h z => ?_, fun j c b h1 h2 => ?_⟩, ⟨⟨[], by simp, fun a h => nomatch h⟩, Same.refl F, fun b h => ?_, fun a u h1 h2 => (by rw [h1] at h2; cases h2), fun b u h1 h2 => ?_⟩⟩
  · have hne : b ≠ a := fun z => by rw [z, f] at e; cases e
    rw [upd_ne hne]
    exact S.sub b u e
  · by_cases hb : b = a
    · subst hb
      rw [upd_same] at z
      cases z
    · rw [upd_ne hb] at z
      exact S.trk b h z
  · by_cases hj : j = k
    · subst hj
      rw [ha] at h2
      cases h2
      rw [List.getElem?_set_self (List.getElem?_eq_some_iff.mp hk).1] at h1
      cases h1
      exact ⟨f, vs', upd_same, r⟩
    · rw [List.getElem?_set_ne (Ne.symm hj)] at h1
      have q := S.cel j c b h1 h2
      have hne : b ≠ a := fun z => by
        subst z
        obtain ⟨l1, e1⟩ := List.getElem?_eq_some_iff.mp h2
        obtain ⟨l2, e2⟩ := List.getElem?_eq_some_iff.mp ha
        exact hj ((List.getElem_inj S.nd).mp (e1.trans e2.symm))
      cases c with
      | dead => trivial
      | lst ds2 =>
        obtain ⟨f2, vs2, g2, r2⟩ := q
        exact ⟨f2, vs2, by rw [upd_ne hne]; exact g2, r2⟩
  · by_cases hb : b = a
    · subst hb
      rw [upd_same] at h
      cases h
    · rw [upd_ne hb] at h
      exact h
  · have hne : b ≠ a := fun z => h2 (z ▸ List.mem_of_getElem? ha)
    rw [upd_ne hne]
    exact h1
/-- a cell is frozen: it is written no more -/
theorem Sim.freeze (S : Sim K μ F C H) {k : Nat} {a : Addr} {ds : List D} (hk : C[k]? = some (.lst ds)) (ha : μ[k]? = some a) :
    ∃ vs F', F' = upd F a (.lst vs) ∧ Reps K μ F' vs ds ∧ Sim K μ F' (C.set k .dead) H ∧ Ext μ F H μ F' H := by
  obtain ⟨f, vs, g, r⟩ := S.cel k _ a hk ha
  have fF : Same F (upd F a (.lst vs)) := fun b u e => by
    rw [upd_ne (ne_of_none e f)]
    exact e
  refine ⟨vs, _, rfl, Reps.mono ⟨[], by simp⟩ fF _ _ r, ⟨fun b u e => ?_, by simp [S.len], S.nd, S.trk, fun j c b h1 h2 => ?_⟩, ⟨⟨[], by simp, fun a h => nomatch h⟩, fF, fun _ h => h, fun b u h1 h2 => ?_, fun _ _ h _ => h⟩⟩
  · by_cases hb : b = a
    · subst hb
      rw [upd_same] at e
      cases e
      exact g
    · rw [upd_ne hb] at e
      exact S.sub b u e
  · by_cases hj : j = k
    · subst hj
      rw [List.getElem?_set_self (List.getElem?_eq_some_iff.mp hk).1] at h1
      cases h1
      trivial
    · rw [List.getElem?_set_ne (Ne.symm hj)] at h1
      have q := S.cel j c b h1 h2
      have hne : b ≠ a := fun z => by
        subst z
        obtain ⟨l1, e1⟩ := List.getElem?_eq_some_iff.mp h2
        obtain ⟨l2, e2⟩ := List.getElem?_eq_some_iff.mp ha
        exact hj ((List.getElem_inj S.nd).mp (e1.trans e2.symm))
      cases c with
      | dead => trivial
      | lst ds2 =>
        obtain ⟨f2, vs2, g2, r2⟩ := q
        exact ⟨by rw [upd_ne hne]; exact f2, vs2, g2, Reps.mono ⟨[], by simp⟩ fF _ _ r2⟩
  · by_cases hb : b = a
    · exact .inr (hb ▸ List.mem_of_getElem? ha)
    · rw [upd_ne hb, h2] at h1
      cases h1
theorem ERel.set (e : ERel K μ F ρ σ) {i : Nat} {v : V} {d : D} (r : Rep K μ F v d) : ERel K μ F (ρ.set i (some d)) (σ.set i (some v)) := by
  refine ⟨by simp [e.1], fun j d' h => ?_⟩
  by_cases hj : j = i
  · subst hj
    have hl : j < ρ.length := by
      have := (List.getElem?_eq_some_iff.mp h).1
      simpa using this
    rw [List.getElem?_set_self hl] at h
    cases h
    exact ⟨v, by rw [List.getElem?_set_self (by rw [← e.1]; exact hl)], r⟩
  · rw [List.getElem?_set_ne (Ne.symm hj)] at h ⊢
    exact e.2 j d' h
end

/-! ### what is wanted behind -/
def exF (c : Str) : Str := if c = "TooGreat" then "most" else if c = "Quarrel" then "paper" else if c = "NoHappening" ∨ c = "NoChannel" ∨ c = "NoBlock" then "value" else "at"
/-- an exception of the package: its class by name, what it was given -/
def XRep (K : PySem.W.Frag) (mg : Str → Option Value) (μ : List Addr) (F H : Hp) (c : Str) (p : D) (cls : Value) (dx : Option Addr) : Prop :=
  mg c = some cls ∧ ∃ d v, dx = some d ∧ H d = some (.xd [(exF c, v)]) ∧ Rep K μ F v p
abbrev RR (α β : Type) := List Addr → Hp → β → α → Prop
def kd {α β : Type} (R : RR α β) (K : PySem.W.Frag) (mg : Str → Option Value) (W : WX) (r : Res α) (μ : List Addr) (F : Hp) (σ : L2.St) (H : Hp) (Q : β → Hp → Prop) : Prop :=
  match r with
  | .ok d C' => ∀ v μ' F' H', Ext μ F H μ' F' H' → Sim K μ' F' C' H' → R μ' F' v d → Q v H'
  | .ex c p C' => ∀ cls dx μ' F' H', Ext μ F H μ' F' H' → Sim K μ' F' C' H' → XRep K mg μ' F' H' c p cls dx → W cls dx σ H'
  | .stuck => False
section
variable {α β γ δ : Type} {R : RR α β} {R' : RR γ δ} {K : PySem.W.Frag} {mg : Str → Option Value} {W : WX} {μ μ' : List Addr} {F F' H H' : Hp} {C C' : Cells} {ρ : Rho} {σ : L2.St}
theorem kd_mono {r : Res α} {Q : β → Hp → Prop} (x : Ext μ F H μ' F' H') (h : kd R K mg W r μ F σ H Q) : kd R K mg W r μ' F' σ H' Q := by
  cases r with
  | ok d C1 => exact fun v μ2 F2 H2 x2 s2 r2 => h v μ2 F2 H2 (x.trans x2) s2 r2
  | ex c p C1 => exact fun cls dx μ2 F2 H2 x2 s2 r2 => h cls dx μ2 F2 H2 (x.trans x2) s2 r2
  | stuck => exact h
theorem kd_bind {r : Res α} {g : α → Cells → Res γ} {Q : δ → Hp → Prop} {k : β → Hp → Prop} (h : kd R' K mg W (r.bind g) μ F σ H Q)
    (hk : ∀ d C1 v μ1 F1 H1, Ext μ F H μ1 F1 H1 → Sim K μ1 F1 C1 H1 → R μ1 F1 v d → kd R' K mg W (g d C1) μ1 F1 σ H1 Q → k v H1) : kd R K mg W r μ F σ H k := by
  cases r with
  | ok d C1 => exact fun v μ1 F1 H1 x1 s1 r1 => hk d C1 v μ1 F1 H1 x1 s1 r1 (kd_mono x1 h)
  | ex c p C1 => exact h
  | stuck => exact h
theorem kd_ret {d : α} {v : β} {Q : β → Hp → Prop} (S : Sim K μ F C H) (r : R μ F v d) (h : kd R K mg W (.ok d C) μ F σ H Q) : Q v H := h v μ F H .refl S r
end
abbrev RD (K : PySem.W.Frag) : RR D V := fun μ F v d => Rep K μ F v d
abbrev RL (K : PySem.W.Frag) : RR (List D) (List V) := fun μ F v d => Reps K μ F v d
abbrev RB : RR Bool Bool := fun _ _ b d => b = d
/-- what a test wants: a bool -/
def toB (r : Res D) : Res Bool := match r with
  | .ok (.bl b) C => .ok b C
  | .ex c p C => .ex c p C
  | _ => .stuck
/-- readings -/
def rE (K : PySem.W.Frag) (mg : Str → Option Value) (W : WX) (f : Rho → Cells → Res D) : TE := fun σ H Q => ∃ ρ C μ F, Sim K μ F C H ∧ ERel K μ F ρ σ ∧ kd (RD K) K mg W (f ρ C) μ F σ H Q
def rT (K : PySem.W.Frag) (mg : Str → Option Value) (W : WX) (f : Rho → Cells → Res D) : TT := fun σ H Q => ∃ ρ C μ F, Sim K μ F C H ∧ ERel K μ F ρ σ ∧ kd RB K mg W (toB (f ρ C)) μ F σ H Q
def rA (K : PySem.W.Frag) (mg : Str → Option Value) (W : WX) (f : Rho → Cells → Res (List D)) : TA := fun σ H Q => ∃ ρ C μ F, Sim K μ F C H ∧ ERel K μ F ρ σ ∧ kd (RL K) K mg W (f ρ C) μ F σ H Q
abbrev BE (X : Cx) (W : WX) (e : Expr) (f : Rho → Cells → Res D) : Prop := PE X e (rE X.K X.mg W f)
abbrev BT (X : Cx) (W : WX) (e : Expr) (f : Rho → Cells → Res D) : Prop := PT X e (rT X.K X.mg W f)
abbrev BW (X : Cx) (W : WX) (e : Expr) (f : Rho → Cells → Res D) : Prop := PW X e (rT X.K X.mg W f)
abbrev BA (X : Cx) (W : WX) (es : List Expr) (f : Rho → Cells → Res (List D)) : Prop := PA X es (rA X.K X.mg W f)
theorem peI {X : Cx} {e : Expr} {t t' : TE} (h : PE X e t) (k : ∀ σ H Q, t' σ H Q → t σ H Q) : PE X e t' := ⟨fun pins s σ H Q I q => h.run pins s σ H Q I (k σ H Q q)⟩
theorem ptI {X : Cx} {e : Expr} {t t' : TT} (h : PT X e t) (k : ∀ σ H Q, t' σ H Q → t σ H Q) : PT X e t' := ⟨fun pins s σ H Q I q => h.run pins s σ H Q I (k σ H Q q)⟩
theorem pwI {X : Cx} {e : Expr} {t t' : TT} (h : PW X e t) (k : ∀ σ H Q, t' σ H Q → t σ H Q) : PW X e t' := ⟨fun wh pins s σ H Q I q => h.run wh pins s σ H Q I (k σ H Q q)⟩
theorem paI {X : Cx} {e : List Expr} {t t' : TA} (h : PA X e t) (k : ∀ σ H Q, t' σ H Q → t σ H Q) : PA X e t' := ⟨fun pos pins s σ H Q I q => h.run pos pins s σ H Q I (k σ H Q q)⟩
end BV
namespace BV
open PySem PySem.Spec PyProof.Rows L2

/-! ### reading cells -/
def asL (d : D) (C : Cells) : Option (List D) := match d with
  | .lst ds => some ds
  | .cel k => match C[k]? with
    | some (.lst ds) => some ds
    | _ => none
  | _ => none
/-- a list or a tuple -/
def asS (d : D) (C : Cells) : Option (List D) := match d with
  | .lst ds => some ds
  | .tup ds => some ds
  | .scr ns => some (ns.map .int)
  | .cel k => match C[k]? with
    | some (.lst ds) => some ds
    | _ => none
  | _ => none
section
variable {K : PySem.W.Frag} {μ : List Addr} {F H : Hp} {C : Cells} {v : V} {d : D} {ds : List D}
theorem mu_of (S : Sim K μ F C H) {k : Nat} {c : Cell} (h : C[k]? = some c) : ∃ a, μ[k]? = some a := by
  have := (List.getElem?_eq_some_iff.mp h).1
  exact ⟨μ[k]'(by rw [S.len]; exact this), by simp [S.len, this]⟩
theorem asL_rep (S : Sim K μ F C H) (r : Rep K μ F v d) (h : asL d C = some ds) : ∃ a vs, v = .ref a ∧ H a = some (.lst vs) ∧ Reps K μ F vs ds := by
  cases r with
  | lst a b =>
    simp only [asL, Option.some.injEq] at h
    subst h
    exact ⟨_, _, rfl, S.sub _ _ a, b⟩
  | cel a =>
    rename_i a' k
    simp only [asL] at h
    split at h
    · rename_i ds' e
      cases h
      obtain ⟨_, vs, g, r⟩ := S.cel k _ _ e a
      exact ⟨_, vs, rfl, g, r⟩
    · cases h
  | _ => cases h
theorem asS_rep (S : Sim K μ F C H) (r : Rep K μ F v d) (h : asS d C = some ds) : ∃ a vs, v = .ref a ∧ (SqL K H a vs ∨ SqT K H a vs) ∧ Reps K μ F vs ds := by
  cases r with
  | lst a b =>
    simp only [asS, Option.some.injEq] at h
    subst h
    exact ⟨_, _, rfl, .inl (SqL.of (S.sub _ _ a)), b⟩
  | tup a b =>
    simp only [asS, Option.some.injEq] at h
    subst h
    exact ⟨_, _, rfl, .inr (sameT S.sub a), b⟩
  | scr a =>
    simp only [asS, Option.some.injEq] at h
    subst h
    exact ⟨_, _, rfl, .inl (S.sub.seq a), Reps.ints _⟩
  | cel a =>
    rename_i a' k
    simp only [asS] at h
    split at h
    · rename_i ds' e
      cases h
      obtain ⟨_, vs, g, r⟩ := S.cel k _ _ e a
      exact ⟨_, vs, rfl, .inl (SqL.of g), r⟩
    · cases h
  | _ => cases h
end

/-! ### making lists, tuples -/
/-- a new list: a cell (true), or frozen -/
def mkL (m : Bool) (ds : List D) (C : Cells) : Res D := if m then .ok (.cel C.length) (C ++ [.lst ds]) else .ok (.lst ds) C
section
variable {K : PySem.W.Frag} {mg : Str → Option Value} {W : WX} {μ : List Addr} {F H : Hp} {C : Cells} {σ : L2.St} {Q : V → Hp → Prop}
theorem kd_mkL {m : Bool} {ds : List D} {vs : List V} {p : Addr} (S : Sim K μ F C H) (hp : H p = none) (r : Reps K μ F vs ds) (h : kd (RD K) K mg W (mkL m ds C) μ F σ H Q) : Q (.ref p) (upd H p (.lst vs)) := by
  cases m with
  | true =>
    obtain ⟨S1, X1⟩ := S.cell hp r
    refine h _ _ _ _ X1 S1 (.cel ?_)
    rw [List.getElem?_append_right (by rw [S.len]; exact Nat.le_refl _), S.len, Nat.sub_self]
    rfl
  | false =>
    obtain ⟨S1, X1⟩ := S.alloc (o := .lst vs) hp
    exact h _ _ _ _ X1 S1 (.lst upd_same (X1.reps r))
theorem kd_mkT {ds : List D} {vs : List V} {p : Addr} (S : Sim K μ F C H) (hp : H p = none) (r : Reps K μ F vs ds) (h : kd (RD K) K mg W (.ok (.tup ds) C) μ F σ H Q) : Q (.ref p) (upd H p (.tup vs)) := by
  obtain ⟨S1, X1⟩ := S.alloc (o := .tup vs) hp
  exact h _ _ _ _ X1 S1 (.tup (SqT.of upd_same) (X1.reps r))
end

/-! ### names, constants -/
def fVar (i : Nat) : Rho → Cells → Res D := fun ρ C => match ρ[i]? with
  | some (some d) => .ok d C
  | _ => .stuck
def fC (d : D) : Rho → Cells → Res D := fun _ C => .ok d C
section
variable {X : Cx} {W : WX} {a b e : Expr} {es : List Expr} {f g : Rho → Cells → Res D} {pos : Pos}
theorem be_var (i : Nat) {x : Str} (h : PE X (.Name x pos) (tVar i)) : BE X W (.Name x pos) (fVar i) := by
  refine peI h ?_
  rintro σ H Q ⟨ρ, C, μ, F, S, E, k⟩
  unfold fVar at k
  split at k
  · rename_i d e
    obtain ⟨v, h1, h2⟩ := E.2 _ _ e
    exact ⟨v, h1, kd_ret S h2 k⟩
  · exact k.elim
theorem be_c {e : Expr} {d : D} {v : V} (h : PE X e (tC v)) (r : ∀ μ F, Rep X.K μ F v d) : BE X W e (fC d) := by
  refine peI h ?_
  rintro σ H Q ⟨ρ, C, μ, F, S, E, k⟩
  exact kd_ret S (r _ _) k
theorem be_int {i : Int} {j} : BE X W (.Constant (.int i) j pos) (fC (.int i)) := be_c pe_int fun _ _ => .int i
theorem be_bl {i : Bool} {j} : BE X W (.Constant (.bool i) j pos) (fC (.bl i)) := be_c pe_bl fun _ _ => .bl i
theorem be_str {i : Str} {j} : BE X W (.Constant (.str i) j pos) (fC (.str i)) := be_c pe_str fun _ _ => .str i
theorem be_non {j} : BE X W (.Constant .none j pos) (fC .non) := be_c pe_non fun _ _ => .non

/-! ### operators -/
def OpB (X : Cx) (W : WX) (F : Value → Value → Sem Value) (o : D → D → Cells → Res D) : Prop :=
  ∃ r : R2, OpR X F r ∧ ∀ (x y : D) (C : Cells) (v w : V) (μ : List Addr) (Fh H : Hp) (σ : L2.St) (Q : VK), Sim X.K μ Fh C H → Rep X.K μ Fh v x → Rep X.K μ Fh w y → kd (RD X.K) X.K X.mg W (o x y C) μ Fh σ H Q → r v w H Q
def f2 (o : D → D → Cells → Res D) (f g : Rho → Cells → Res D) : Rho → Cells → Res D := fun ρ C => (f ρ C).bind fun x C1 => (g ρ C1).bind fun y C2 => o x y C2
def f1 (o : D → Cells → Res D) (f : Rho → Cells → Res D) : Rho → Cells → Res D := fun ρ C => (f ρ C).bind fun x C1 => o x C1
theorem tOp_of {r : R2} {o : D → D → Cells → Res D} (hr : ∀ (x y : D) (C : Cells) (v w : V) (μ : List Addr) (Fh H : Hp) (σ : L2.St) (Q : VK), Sim X.K μ Fh C H → Rep X.K μ Fh v x → Rep X.K μ Fh w y → kd (RD X.K) X.K X.mg W (o x y C) μ Fh σ H Q → r v w H Q)
    (σ : L2.St) (H : Hp) (Q : VK) (h : rE X.K X.mg W (f2 o f g) σ H Q) : tOp r (rE X.K X.mg W f) (rE X.K X.mg W g) σ H Q := by
  obtain ⟨ρ, C, μ, F, S, E, k⟩ := h
  refine ⟨ρ, C, μ, F, S, E, kd_bind k fun d C1 v μ1 F1 H1 x1 s1 r1 h1 => ?_⟩
  refine ⟨ρ, C1, μ1, F1, s1, x1.env E, kd_bind h1 fun d2 C2 v2 μ2 F2 H2 x2 s2 r2 h2 => ?_⟩
  exact hr d d2 C2 v v2 μ2 F2 H2 σ Q s2 (x2.rep r1) r2 h2
theorem be_op {op : Operator} {o : D → D → Cells → Res D} (ho : OpB X W (binaryOp op) o) (ha : BE X W a f) (hb : BE X W b g) : BE X W (.BinOp a op b pos) (f2 o f g) := by
  obtain ⟨r, hr, hk⟩ := ho
  exact peI (pe_op hr ha hb) (tOp_of hk)
theorem be_cmp {op : CmpOp} {o : D → D → Cells → Res D} (ho : OpB X W (compareOp op) o) (ha : BE X W a f) (hb : BE X W b g) (hm : behindInMarks op b = false) : BE X W (.Compare a [op] [b] pos) (f2 o f g) := by
  obtain ⟨r, hr, hk⟩ := ho
  exact peI (pe_cmpR hr ha hb hm) (tOp_of hk)
theorem kd_toB {r : Res D} {K : PySem.W.Frag} {mg : Str → Option Value} {μ : List Addr} {F H : Hp} {σ : L2.St} {Q : Bool → Hp → Prop} (h : kd RB K mg W (toB r) μ F σ H Q) : kd (RD K) K mg W r μ F σ H (fun v H' => ∃ b, v = .bl b ∧ Q b H') := by
  cases r with
  | stuck => exact h
  | ex c p C => exact h
  | ok d C =>
    intro v μ' F' H' x s r
    cases d with
    | bl b =>
      cases r
      exact ⟨b, rfl, h b μ' F' H' x s rfl⟩
    | _ => exact False.elim h
theorem rT_val (h : BE X W e f) : ∀ σ H Q, rT X.K X.mg W f σ H Q → rE X.K X.mg W f σ H (fun v H' => ∃ b, v = .bl b ∧ Q b H') := by
  rintro σ H Q ⟨ρ, C, μ, F, S, E, k⟩
  exact ⟨ρ, C, μ, F, S, E, kd_toB k⟩
/-- tests: a name, a call, a constant -/
theorem bt_val (h : BE X W e f) (he : ∀ whole, isTrue e X.env whole = (do let v ← whole; standAt e.pos; holding [v] (truthy v)) := by intro _; rfl) : BT X W e f := ptI (pt_val h he) (rT_val h)
theorem bt_cmp {op : CmpOp} {o : D → D → Cells → Res D} (ho : OpB X W (compareOp op) o) (ha : BE X W a f) (hb : BE X W b g) (hm : behindInMarks op b = false) : BT X W (.Compare a [op] [b] pos) (f2 o f g) := by
  have hv := be_cmp (pos := pos) ho ha hb hm
  obtain ⟨r, hr, hk⟩ := ho
  refine ptI (pt_cmpR hr ha hb hm) fun σ H Q q => ?_
  exact tOp_of hk _ _ _ (rT_val hv σ H Q q)
/-- chains a < b < c -/
def chainD (o o' : D → D → Cells → Res D) (f g h : Rho → Cells → Res D) : Rho → Cells → Res D := fun ρ C => (f ρ C).bind fun x C1 => (g ρ C1).bind fun y C2 => (o x y C2).bind fun z C3 => match z with
  | .bl true => (h ρ C3).bind fun w C4 => o' y w C4
  | .bl false => .ok (.bl false) C3
  | _ => .stuck
variable {c : Expr} {h : Rho → Cells → Res D}
theorem chain_of {r r' : R2} {o o' : D → D → Cells → Res D}
    (hr : ∀ (x y : D) (C : Cells) (v w : V) (μ : List Addr) (Fh H : Hp) (σ : L2.St) (Q : VK), Sim X.K μ Fh C H → Rep X.K μ Fh v x → Rep X.K μ Fh w y → kd (RD X.K) X.K X.mg W (o x y C) μ Fh σ H Q → r v w H Q)
    (hr' : ∀ (x y : D) (C : Cells) (v w : V) (μ : List Addr) (Fh H : Hp) (σ : L2.St) (Q : VK), Sim X.K μ Fh C H → Rep X.K μ Fh v x → Rep X.K μ Fh w y → kd (RD X.K) X.K X.mg W (o' x y C) μ Fh σ H Q → r' v w H Q)
    (σ : L2.St) (H : Hp) (Q : VK) (q : rE X.K X.mg W (chainD o o' f g h) σ H Q) : tChain r r' (rE X.K X.mg W f) (rE X.K X.mg W g) (rE X.K X.mg W h) σ H Q := by
  obtain ⟨ρ, C, μ, F, S, E, k⟩ := q
  refine ⟨ρ, C, μ, F, S, E, kd_bind k fun d C1 v μ1 F1 H1 x1 s1 r1 h1 => ?_⟩
  refine ⟨ρ, C1, μ1, F1, s1, x1.env E, kd_bind h1 fun d2 C2 v2 μ2 F2 H2 x2 s2 r2 h2 => ?_⟩
  refine hr d d2 C2 v v2 μ2 F2 H2 σ _ s2 (x2.rep r1) r2 (kd_bind h2 fun d3 C3 v3 μ3 F3 H3 x3 s3 r3 h3 => ?_)
  cases d3 with
  | bl z =>
    cases r3
    refine ⟨z, rfl, ?_⟩
    cases z with
    | true =>
      rw [if_pos rfl]
      refine ⟨ρ, C3, μ3, F3, s3, x3.env (x2.env (x1.env E)), kd_bind h3 fun d4 C4 v4 μ4 F4 H4 x4 s4 r4 h4 => ?_⟩
      exact hr' d2 d4 C4 v2 v4 μ4 F4 H4 σ Q s4 (x4.rep (x3.rep r2)) r4 h4
    | false =>
      rw [if_neg Bool.false_ne_true]
      exact kd_ret s3 (.bl false) h3
  | _ => exact False.elim h3
theorem be_chain {op op' : CmpOp} {o o' : D → D → Cells → Res D} (ho : OpB X W (compareOp op) o) (ho' : OpB X W (compareOp op') o') (ha : BE X W a f) (hb : BE X W b g) (hc : BE X W c h)
    (hm : lastMarks [op, op'] [b, c] = false := by with_unfolding_all rfl) : BE X W (.Compare a [op, op'] [b, c] pos) (chainD o o' f g h) := by
  obtain ⟨r, hr, hk⟩ := ho
  obtain ⟨r', hr', hk'⟩ := ho'
  exact peI (pe_chain hr hr' ha hb hc hm) (chain_of hk hk')
theorem bt_chain {op op' : CmpOp} {o o' : D → D → Cells → Res D} (ho : OpB X W (compareOp op) o) (ho' : OpB X W (compareOp op') o') (ha : BE X W a f) (hb : BE X W b g) (hc : BE X W c h)
    (hm : lastMarks [op, op'] [b, c] = false := by with_unfolding_all rfl) : BT X W (.Compare a [op, op'] [b, c] pos) (chainD o o' f g h) := by
  have hv := be_chain (pos := pos) ho ho' ha hb hc hm
  obtain ⟨r, hr, hk⟩ := ho
  obtain ⟨r', hr', hk'⟩ := ho'
  refine ptI (pt_chain hr hr' ha hb hc hm) fun σ H Q q => ?_
  exact chain_of hk hk' _ _ _ (rT_val hv σ H Q q)

/-! ### and, or, not, if -/
def andD (f g : Rho → Cells → Res D) : Rho → Cells → Res D := fun ρ C => (f ρ C).bind fun x C1 => match x with
  | .bl true => g ρ C1
  | .bl false => .ok (.bl false) C1
  | _ => .stuck
def orD (f g : Rho → Cells → Res D) : Rho → Cells → Res D := fun ρ C => (f ρ C).bind fun x C1 => match x with
  | .bl true => .ok (.bl true) C1
  | .bl false => g ρ C1
  | _ => .stuck
def notD (f : Rho → Cells → Res D) : Rho → Cells → Res D := fun ρ C => (f ρ C).bind fun x C1 => match x with
  | .bl b => .ok (.bl !b) C1
  | _ => .stuck
def ifD (t f g : Rho → Cells → Res D) : Rho → Cells → Res D := fun ρ C => (t ρ C).bind fun x C1 => match x with
  | .bl true => f ρ C1
  | .bl false => g ρ C1
  | _ => .stuck
variable {rest : List Expr}
theorem toB_bind {r : Res D} {g : D → Cells → Res D} : toB (r.bind g) = r.bind fun x C => toB (g x C) := by cases r <;> rfl
/-- a test first, then what hangs on it -/
theorem kd_test {α β : Type} {R : RR α β} {K : PySem.W.Frag} {mg : Str → Option Value} {W : WX} {r : Res D} {μ : List Addr} {F H : Hp} {σ : L2.St} {g : D → Cells → Res α} {Q : β → Hp → Prop} {k : Bool → Hp → Prop} (h : kd R K mg W (r.bind g) μ F σ H Q)
    (h0 : ∀ d C, (∀ b, d ≠ .bl b) → g d C = .stuck)
    (hk : ∀ b C1 μ1 F1 H1, Ext μ F H μ1 F1 H1 → Sim K μ1 F1 C1 H1 → kd R K mg W (g (.bl b) C1) μ1 F1 σ H1 Q → k b H1) : kd RB K mg W (toB r) μ F σ H k := by
  cases r with
  | stuck => exact h
  | ex c p C => exact h
  | ok d C =>
    by_cases hd : ∃ b, d = .bl b
    · obtain ⟨b, rfl⟩ := hd
      intro b' μ1 F1 H1 x1 s1 e
      cases e
      exact hk b C μ1 F1 H1 x1 s1 (kd_mono x1 h)
    · have e : (Res.ok d C).bind g = .stuck := h0 d C fun b z => hd ⟨b, z⟩
      rw [e] at h
      exact h.elim
theorem bw_and1 (ha : BT X W a f) : BW X W (.BoolOp .And [a] pos) f := pw_and1 ha
theorem bw_or1 (ha : BT X W a f) : BW X W (.BoolOp .Or [a] pos) f := pw_or1 ha
theorem bw_and (ha : BT X W a f) (hb : BW X W (.BoolOp .And (b :: rest) pos) g) : BW X W (.BoolOp .And (a :: b :: rest) pos) (andD f g) := by
  refine pwI (pw_and ha hb) ?_
  rintro σ H Q ⟨ρ, C, μ, F, S, E, k⟩
  unfold andD at k
  rw [toB_bind] at k
  refine ⟨ρ, C, μ, F, S, E, kd_test k (fun d C h0 => ?_) fun b C1 μ1 F1 H1 x1 s1 h1 => ?_⟩
  · cases d with
    | bl b => exact absurd rfl (h0 b)
    | _ => rfl
  · cases b with
    | true => exact iteT ⟨ρ, C1, μ1, F1, s1, x1.env E, h1⟩
    | false => exact iteF (kd_ret s1 rfl h1)
theorem bw_or (ha : BT X W a f) (hb : BW X W (.BoolOp .Or (b :: rest) pos) g) : BW X W (.BoolOp .Or (a :: b :: rest) pos) (orD f g) := by
  refine pwI (pw_or ha hb) ?_
  rintro σ H Q ⟨ρ, C, μ, F, S, E, k⟩
  unfold orD at k
  rw [toB_bind] at k
  refine ⟨ρ, C, μ, F, S, E, kd_test k (fun d C h0 => ?_) fun b C1 μ1 F1 H1 x1 s1 h1 => ?_⟩
  · cases d with
    | bl b => exact absurd rfl (h0 b)
    | _ => rfl
  · cases b with
    | true => exact iteT (kd_ret s1 rfl h1)
    | false => exact iteF ⟨ρ, C1, μ1, F1, s1, x1.env E, h1⟩
theorem bt_w (h : BW X W e f) : BT X W e f := PW.pt h
theorem bt_not (ha : BT X W a f) : BT X W (.UnaryOp .Not a pos) (notD f) := by
  refine ptI (pt_not ha) ?_
  rintro σ H Q ⟨ρ, C, μ, F, S, E, k⟩
  unfold notD at k
  rw [toB_bind] at k
  refine ⟨ρ, C, μ, F, S, E, kd_test k (fun d C h0 => ?_) fun b C1 μ1 F1 H1 x1 s1 h1 => kd_ret s1 rfl h1⟩
  cases d with
  | bl b => exact absurd rfl (h0 b)
  | _ => rfl
theorem be_one {op} (ha : BE X W a f) : BE X W (.BoolOp op [a] pos) f := pe_one ha
theorem be_and (ha : BE X W a f) (hb : BE X W (.BoolOp .And (b :: rest) pos) g) : BE X W (.BoolOp .And (a :: b :: rest) pos) (andD f g) := by
  refine peI (pe_and ha hb) ?_
  rintro σ H Q ⟨ρ, C, μ, F, S, E, k⟩
  refine ⟨ρ, C, μ, F, S, E, kd_bind k fun d C1 v μ1 F1 H1 x1 s1 r1 h1 => ?_⟩
  cases d with
  | bl b =>
    cases r1
    refine ⟨b, rfl, ?_⟩
    cases b with
    | true => exact iteT ⟨ρ, C1, μ1, F1, s1, x1.env E, h1⟩
    | false => exact iteF (kd_ret s1 (.bl _) h1)
  | _ => exact False.elim h1
theorem be_or (ha : BE X W a f) (hb : BE X W (.BoolOp .Or (b :: rest) pos) g) : BE X W (.BoolOp .Or (a :: b :: rest) pos) (orD f g) := by
  refine peI (pe_or ha hb) ?_
  rintro σ H Q ⟨ρ, C, μ, F, S, E, k⟩
  refine ⟨ρ, C, μ, F, S, E, kd_bind k fun d C1 v μ1 F1 H1 x1 s1 r1 h1 => ?_⟩
  cases d with
  | bl b =>
    cases r1
    refine ⟨b, rfl, ?_⟩
    cases b with
    | true => exact iteT (kd_ret s1 (.bl _) h1)
    | false => exact iteF ⟨ρ, C1, μ1, F1, s1, x1.env E, h1⟩
  | _ => exact False.elim h1
theorem be_not (ha : BE X W a f) : BE X W (.UnaryOp .Not a pos) (notD f) := by
  refine peI (pe_not ha) ?_
  rintro σ H Q ⟨ρ, C, μ, F, S, E, k⟩
  refine ⟨ρ, C, μ, F, S, E, kd_bind k fun d C1 v μ1 F1 H1 x1 s1 r1 h1 => ?_⟩
  cases d with
  | bl b =>
    cases r1
    exact ⟨b, rfl, kd_ret s1 (.bl _) h1⟩
  | _ => exact False.elim h1
theorem be_if (hc : BT X W c h) (ha : BE X W a f) (hb : BE X W b g) : BE X W (.IfExp c a b pos) (ifD h f g) := by
  refine peI (pe_ifExp hc ha hb) ?_
  rintro σ H Q ⟨ρ, C, μ, F, S, E, k⟩
  refine ⟨ρ, C, μ, F, S, E, kd_test k (fun d C h0 => ?_) fun b C1 μ1 F1 H1 x1 s1 h1 => ?_⟩
  · cases d with
    | bl b => exact absurd rfl (h0 b)
    | _ => rfl
  · cases b with
    | true => exact iteT ⟨ρ, C1, μ1, F1, s1, x1.env E, h1⟩
    | false => exact iteF ⟨ρ, C1, μ1, F1, s1, x1.env E, h1⟩

/-! ### argument lists, displays, calls of built-ins -/
def aNil : Rho → Cells → Res (List D) := fun _ C => .ok [] C
def aCons (f : Rho → Cells → Res D) (fs : Rho → Cells → Res (List D)) : Rho → Cells → Res (List D) := fun ρ C => (f ρ C).bind fun x C1 => (fs ρ C1).bind fun xs C2 => .ok (x :: xs) C2
def fA (o : List D → Cells → Res D) (fs : Rho → Cells → Res (List D)) : Rho → Cells → Res D := fun ρ C => (fs ρ C).bind fun xs C1 => o xs C1
variable {fs : Rho → Cells → Res (List D)}
theorem ba_nil : BA X W [] aNil := by
  refine paI pa_nil ?_
  rintro σ H Q ⟨ρ, C, μ, F, S, E, k⟩
  exact kd_ret S .nil k
theorem ba_cons (ha : BE X W e f) (hr : BA X W es fs) (hs : starEach (e :: es) X.env = (false, eval e X.env) :: starEach es X.env := by rfl) : BA X W (e :: es) (aCons f fs) := by
  refine paI (pa_cons ha hr hs) ?_
  rintro σ H Q ⟨ρ, C, μ, F, S, E, k⟩
  refine ⟨ρ, C, μ, F, S, E, kd_bind k fun d C1 v μ1 F1 H1 x1 s1 r1 h1 => ?_⟩
  refine ⟨ρ, C1, μ1, F1, s1, x1.env E, kd_bind h1 fun d2 C2 v2 μ2 F2 H2 x2 s2 r2 h2 => ?_⟩
  exact kd_ret s2 (.cons (x2.rep r1) r2) h2
def oTup : List D → Cells → Res D := fun xs C => if xs.length ≤ sizeLine then .ok (.tup xs) C else .stuck
def oLst (m : Bool) : List D → Cells → Res D := fun xs C => if xs.length ≤ sizeLine then mkL m xs C else .stuck
theorem be_tup {j} (h : BA X W es fs) : BE X W (.Tuple es j pos) (fA oTup fs) := by
  refine peI (pe_tup h) ?_
  rintro σ H Q ⟨ρ, C, μ, F, S, E, k⟩
  refine ⟨ρ, C, μ, F, S, E, kd_bind k fun d C1 v μ1 F1 H1 x1 s1 r1 h1 => ?_⟩
  unfold oTup at h1
  split at h1
  · rename_i z
    exact ⟨by rw [r1.length]; exact z, fun p hp => kd_mkT s1 hp r1 h1⟩
  · exact h1.elim
theorem be_lst (m : Bool) (h : BA X W es fs) : BE X W (.List es pos) (fA (oLst m) fs) := by
  refine peI (pe_lst h) ?_
  rintro σ H Q ⟨ρ, C, μ, F, S, E, k⟩
  refine ⟨ρ, C, μ, F, S, E, kd_bind k fun d C1 v μ1 F1 H1 x1 s1 r1 h1 => ?_⟩
  unfold oLst at h1
  split at h1
  · rename_i z
    exact ⟨by rw [r1.length]; exact z, fun p hp => kd_mkL s1 hp r1 h1⟩
  · exact h1.elim
/-- a call by values -/
def CallB (X : Cx) (W : WX) (F : Value) (o : List D → Cells → Res D) : Prop :=
  ∃ r : List V → Hp → VK → Prop, CallR X F r ∧ ∀ (xs : List D) (C : Cells) (vs : List V) (μ : List Addr) (Fh H : Hp) (σ : L2.St) (Q : VK), Sim X.K μ Fh C H → Reps X.K μ Fh vs xs → kd (RD X.K) X.K X.mg W (o xs C) μ Fh σ H Q → r vs H Q
theorem be_callB {id : String} {x : Str} {p : Pos} {o : List D → Cells → Res D} (hc : CallB X W (.builtin id) o) (hg : Gl X x) (hm : X.mg x = none) (hv : bootBuiltins x = some (.builtin id)) (ha : BA X W (e :: es) fs) (hn : x ≠ "__name__" := by decide) (hdb : (x == ("__debug__" : Str)) = false := by decide)
    (he : starEach (e :: es) X.env = (false, eval e X.env) :: starEach es X.env := by rfl) (hpl : (backTo pos (starEach es X.env)).any (·.1) = false := by rfl) : BE X W (.Call (.Name x p) (e :: es) [] pos) (fA o fs) := by
  obtain ⟨r, hr, hk⟩ := hc
  refine peI (pe_callB hr hg hm hv ha hn hdb he hpl) ?_
  rintro σ H Q ⟨ρ, C, μ, F, S, E, k⟩
  exact ⟨ρ, C, μ, F, S, E, kd_bind k fun d C1 v μ1 F1 H1 x1 s1 r1 h1 => hk d C1 v μ1 F1 H1 σ Q s1 r1 h1⟩
theorem be_callTy {T : String} {x : Str} {p : Pos} {o : List D → Cells → Res D} (hc : CallB X W (.type T) o) (hg : Gl X x) (hm : X.mg x = none) (hv : bootBuiltins x = some (.type T)) (ha : BA X W (e :: es) fs) (hn : x ≠ "__name__" := by decide) (hdb : (x == ("__debug__" : Str)) = false := by decide)
    (he : starEach (e :: es) X.env = (false, eval e X.env) :: starEach es X.env := by rfl) (hpl : (backTo pos (starEach es X.env)).any (·.1) = false := by rfl) : BE X W (.Call (.Name x p) (e :: es) [] pos) (fA o fs) := by
  obtain ⟨r, hr, hk⟩ := hc
  refine peI (pe_callTy hr hg hm hv ha hn hdb he hpl) ?_
  rintro σ H Q ⟨ρ, C, μ, F, S, E, k⟩
  exact ⟨ρ, C, μ, F, S, E, kd_bind k fun d C1 v μ1 F1 H1 x1 s1 r1 h1 => hk d C1 v μ1 F1 H1 σ Q s1 r1 h1⟩

/-! ### subscripts -/
def IxB (X : Cx) (W : WX) (o : D → D → Cells → Res D) : Prop :=
  ∃ r : R2, IxR X r ∧ ∀ (x y : D) (C : Cells) (v w : V) (μ : List Addr) (Fh H : Hp) (σ : L2.St) (Q : VK), Sim X.K μ Fh C H → Rep X.K μ Fh v x → Rep X.K μ Fh w y → kd (RD X.K) X.K X.mg W (o x y C) μ Fh σ H Q → r v w H Q
theorem be_ixB {o : D → D → Cells → Res D} (ho : IxB X W o) (ha : BE X W a f) (hb : BE X W b g) (hs : PlainIx b) : BE X W (.Subscript a b pos) (f2 o f g) := by
  obtain ⟨r, hr, hk⟩ := ho
  exact peI (pe_ix hr ha hb hs) (tOp_of hk)
def ixD (x y : D) (C : Cells) : Res D := match asS x C, y with
  | some ds, .int i => match atI ds i with
    | some d => .ok d C
    | none => .stuck
  | _, _ => .stuck
theorem Reps.atI {K : PySem.W.Frag} {μ : List Addr} {F : Hp} {vs : List V} {ds : List D} {i : Int} {d : D} (r : Reps K μ F vs ds) (h : L2.atI ds i = some d) : ∃ v, L2.atI vs i = some v ∧ Rep K μ F v d := by
  unfold L2.atI at h ⊢
  rw [r.length]
  cases q : ixN ds.length i with
  | none => rw [q] at h; cases h
  | some j =>
    rw [q] at h
    exact r.get h
theorem ixB_seq : IxB X W ixD := by
  refine ⟨_, ix_seq, fun x y C v w μ F H σ Q S r1 r2 k => ?_⟩
  unfold ixD at k
  split at k
  · rename_i ds i e
    split at k
    · rename_i d e2
      obtain ⟨a, vs, rfl, q, rs⟩ := asS_rep S r1 e
      obtain ⟨u, e3, r3⟩ := rs.atI e2
      cases r2
      rcases q with q | q
      · exact .inl ⟨a, vs, i, u, rfl, rfl, q, e3, kd_ret S r3 k⟩
      · exact .inr (.inl ⟨a, vs, i, u, rfl, rfl, q, e3, kd_ret S r3 k⟩)
    · exact k.elim
  · exact k.elim
theorem be_ix (ha : BE X W a f) (hb : BE X W b g) (hs : PlainIx b) : BE X W (.Subscript a b pos) (f2 ixD f g) := be_ixB ixB_seq ha hb hs
end
end BV
namespace BV
open PySem PySem.Spec PyProof.Rows L2

section
variable {X : Cx} {W : WX}
theorem OpB.mk {F : Value → Value → Sem Value} {r : R2} {o : D → D → Cells → Res D} (h : OpR X F r)
    (k : ∀ (x y : D) (C : Cells) (v w : V) (μ : List Addr) (Fh H : Hp) (σ : L2.St) (Q : VK), Sim X.K μ Fh C H → Rep X.K μ Fh v x → Rep X.K μ Fh w y → kd (RD X.K) X.K X.mg W (o x y C) μ Fh σ H Q → r v w H Q) : OpB X W F o := ⟨r, h, k⟩

/-! ### arithmetic -/
def addD (m : Bool) (x y : D) (C : Cells) : Res D := match x, y with
  | .int i, .int j => .ok (.int (i + j)) C
  | .str a, .str b => if a.length + b.length ≤ sizeLine then .ok (.str (a ++ b)) C else .stuck
  | .tup xs, .tup ys => if xs.length + ys.length ≤ sizeLine then .ok (.tup (xs ++ ys)) C else .stuck
  | x, y => match asL x C, asL y C with
    | some xs, some ys => if xs.length + ys.length ≤ sizeLine then mkL m (xs ++ ys) C else .stuck
    | _, _ => .stuck
theorem ob_add (m : Bool) : OpB X W (binaryOp .Add) (addD m) := by
  refine .mk (op_add.or (op_add_str.or (op_catA.or op_cat))) fun x y C v w μ F H σ Q S r1 r2 k => ?_
  unfold addD at k
  split at k
  · cases r1
    cases r2
    exact .inl ⟨_, _, rfl, rfl, kd_ret S (.int _) k⟩
  · cases r1
    cases r2
    split at k
    · rename_i z
      exact .inr (.inl ⟨_, _, rfl, rfl, z, kd_ret S (.str _) k⟩)
    · exact k.elim
  · cases r1 with
    | tup a1 b1 =>
      cases r2 with
      | tup a2 b2 =>
        split at k
        · rename_i z
          rw [← b1.length, ← b2.length] at z
          refine .inr (.inr (.inl ⟨_, _, _, _, rfl, rfl, sameT S.sub a1, sameT S.sub a2, z, fun e => ?_, fun _ e => ?_, fun _ _ p hp => kd_mkT S hp (b1.append b2) k⟩))
          · subst e
            cases b1
            exact kd_ret S (.tup a2 b2) k
          · subst e
            cases b2
            rw [List.append_nil] at k
            exact kd_ret S (.tup a1 b1) k
        · exact k.elim
  · split at k
    · rename_i xs ys e1 e2
      split at k
      · rename_i z
        obtain ⟨a, vs, rfl, h1, q1⟩ := asL_rep S r1 e1
        obtain ⟨b, ws, rfl, h2, q2⟩ := asL_rep S r2 e2
        rw [← q1.length, ← q2.length] at z
        exact .inr (.inr (.inr ⟨a, b, vs, ws, rfl, rfl, h1, h2, z, fun p hp => kd_mkL S hp (q1.append q2) k⟩))
      · exact k.elim
    · exact k.elim
def subD (x y : D) (C : Cells) : Res D := match x, y with
  | .int i, .int j => .ok (.int (i - j)) C
  | _, _ => .stuck
theorem ob_sub : OpB X W (binaryOp .Sub) subD := by
  refine .mk op_sub fun x y C v w μ F H σ Q S r1 r2 k => ?_
  unfold subD at k
  split at k
  · cases r1
    cases r2
    exact ⟨_, _, rfl, rfl, kd_ret S (.int _) k⟩
  · exact k.elim
instance (i j : Int) : Decidable (CMul i j) := by unfold CMul; infer_instance
instance (i j : Int) : Decidable (CDiv i j) := by unfold CDiv; infer_instance
instance (i j : Int) : Decidable (CPow i j) := by unfold CPow; infer_instance
def repN {α : Type} (k : Int) (xs : List α) : List α := (List.replicate k.toNat xs).flatten
def mulD (m : Bool) (x y : D) (C : Cells) : Res D := match x, y with
  | .int i, .int j => if CMul i j then .ok (.int (i * j)) C else .stuck
  | .tup xs, .int k => if xs ≠ [] ∧ 2 ≤ k ∧ k ≤ 1000 ∧ xs.length ≤ 1000 then .ok (.tup (repN k xs)) C else .stuck
  | x, .int k => match asL x C with
    | some xs => if -(2 ^ 63) ≤ k ∧ k < 2 ^ 63 ∧ xs.length * k.toNat ≤ sizeLine then mkL m (repN k xs) C else .stuck
    | none => .stuck
  | _, _ => .stuck
theorem ob_mul (m : Bool) : OpB X W (binaryOp .Mult) (mulD m) := by
  refine .mk (op_mul.or (op_repT.or op_rep)) fun x y C v w μ F H σ Q S r1 r2 k => ?_
  unfold mulD at k
  split at k
  · cases r1
    cases r2
    split at k
    · rename_i z
      exact .inl ⟨_, _, rfl, rfl, z, kd_ret S (.int _) k⟩
    · exact k.elim
  · cases r2
    cases r1 with
    | tup a1 b1 =>
      split at k
      · rename_i z
        obtain ⟨z1, z2, z3, z4⟩ := z
        rw [← b1.length] at z4
        refine .inr (.inl ⟨_, _, _, rfl, rfl, sameT S.sub a1, fun e => ?_, z2, z3, z4, fun p hp => kd_mkT S hp (b1.rep _) k⟩)
        subst e
        cases b1
        exact z1 rfl
      · exact k.elim
  · cases r2
    split at k
    · rename_i xs e
      split at k
      · rename_i z
        obtain ⟨z1, z2, z3⟩ := z
        obtain ⟨a, vs, rfl, h1, q1⟩ := asL_rep S r1 e
        rw [← q1.length] at z3
        exact .inr (.inr ⟨a, _, vs, rfl, rfl, h1, z1, z2, z3, fun p hp => kd_mkL S hp (q1.rep _) k⟩)
      · exact k.elim
    · exact k.elim
  · exact k.elim
def fdivD (x y : D) (C : Cells) : Res D := match x, y with
  | .int i, .int j => if CDiv i j then .ok (.int (i / j)) C else .stuck
  | _, _ => .stuck
theorem ob_fdiv : OpB X W (binaryOp .FloorDiv) fdivD := by
  refine .mk op_fdiv fun x y C v w μ F H σ Q S r1 r2 k => ?_
  unfold fdivD at k
  split at k
  · cases r1
    cases r2
    split at k
    · rename_i z
      exact ⟨_, _, rfl, rfl, z, kd_ret S (.int _) k⟩
    · exact k.elim
  · exact k.elim
def modD (x y : D) (C : Cells) : Res D := match x, y with
  | .int i, .int j => if 0 < j then .ok (.int (i % j)) C else .stuck
  | _, _ => .stuck
theorem ob_mod : OpB X W (binaryOp .Mod) modD := by
  refine .mk op_mod fun x y C v w μ F H σ Q S r1 r2 k => ?_
  unfold modD at k
  split at k
  · cases r1
    cases r2
    split at k
    · rename_i z
      exact ⟨_, _, rfl, rfl, z, kd_ret S (.int _) k⟩
    · exact k.elim
  · exact k.elim
def powD (x y : D) (C : Cells) : Res D := match x, y with
  | .int i, .int j => if CPow i j then .ok (.int (i ^ j.toNat)) C else .stuck
  | _, _ => .stuck
theorem ob_pow : OpB X W (binaryOp .Pow) powD := by
  refine .mk op_pow fun x y C v w μ F H σ Q S r1 r2 k => ?_
  unfold powD at k
  split at k
  · cases r1
    cases r2
    split at k
    · rename_i z
      exact ⟨_, _, rfl, rfl, z, kd_ret S (.int _) k⟩
    · exact k.elim
  · exact k.elim
def negD (x : D) (C : Cells) : Res D := match x with
  | .int i => .ok (.int (-i)) C
  | _ => .stuck
theorem be_neg {a : Expr} {f : Rho → Cells → Res D} {pos : Pos} (ha : BE X W a f) : BE X W (.UnaryOp .USub a pos) (f1 negD f) := by
  refine peI (pe_un un_neg ha) ?_
  rintro σ H Q ⟨ρ, C, μ, F, S, E, k⟩
  refine ⟨ρ, C, μ, F, S, E, kd_bind k fun d C1 v μ1 F1 H1 x1 s1 r1 h1 => ?_⟩
  unfold negD at h1
  split at h1
  · cases r1
    exact ⟨_, rfl, kd_ret s1 (.int _) h1⟩
  · exact h1.elim

/-! ### comparisons -/
def cmpI (p : Int → Int → Bool) (x y : D) (C : Cells) : Res D := match x, y with
  | .int i, .int j => .ok (.bl (p i j)) C
  | _, _ => .stuck
abbrev ltD := cmpI fun i j => decide (i < j)
abbrev leD := cmpI fun i j => decide (i ≤ j)
abbrev gtD := cmpI fun i j => decide (j < i)
abbrev geD := cmpI fun i j => decide (j ≤ i)
theorem ob_cmpI {F : Value → Value → Sem Value} {p : Int → Int → Bool} (h : OpR X F (rI0 fun i j => .bl (p i j))) : OpB X W F (cmpI p) := by
  refine .mk h fun x y C v w μ F H σ Q S r1 r2 k => ?_
  unfold cmpI at k
  split at k
  · cases r1
    cases r2
    exact ⟨_, _, rfl, rfl, kd_ret S (.bl _) k⟩
  · exact k.elim
theorem ob_lt : OpB X W (compareOp .Lt) ltD := ob_cmpI op_lt
theorem ob_le : OpB X W (compareOp .LtE) leD := ob_cmpI op_le
theorem ob_gt : OpB X W (compareOp .Gt) gtD := ob_cmpI op_gt
theorem ob_ge : OpB X W (compareOp .GtE) geD := ob_cmpI op_ge
def isNon : D → Bool
  | .non => true
  | _ => false
def isD (neg : Bool) (x y : D) (C : Cells) : Res D := match y with
  | .non => .ok (.bl (if neg then !isNon x else isNon x)) C
  | .bl b => match x with
    | .bl a => .ok (.bl (if neg then !decide (a = b) else decide (a = b))) C
    | _ => .stuck
  | _ => .stuck
theorem isN_dec {K : PySem.W.Frag} {μ : List Addr} {F : Hp} {v : V} {x : D} (r : Rep K μ F v x) : decide (v = V.non) = isNon x := by
  cases r <;> simp [isNon]
theorem ob_is : OpB X W (compareOp .Is) (isD false) := by
  refine .mk (op_isN.or op_isBl) fun x y C v w μ F H σ Q S r1 r2 k => ?_
  unfold isD at k
  split at k
  · cases r2
    refine .inl ⟨rfl, ?_⟩
    rw [isN_dec r1]
    exact kd_ret S (.bl _) k
  · cases r2
    split at k
    · cases r1
      exact .inr ⟨_, _, rfl, rfl, kd_ret S (.bl _) k⟩
    · exact k.elim
  · exact k.elim
theorem ob_isnot : OpB X W (compareOp .IsNot) (isD true) := by
  refine .mk (op_notN.or op_notBl) fun x y C v w μ F H σ Q S r1 r2 k => ?_
  unfold isD at k
  split at k
  · cases r2
    refine .inl ⟨rfl, ?_⟩
    rw [isN_dec r1]
    exact kd_ret S (.bl _) k
  · cases r2
    split at k
    · cases r1
      exact .inr ⟨_, _, rfl, rfl, kd_ret S (.bl _) k⟩
    · exact k.elim
  · exact k.elim
end

/-! ### data without cells as the library's data -/
mutual
def toPy : D → Option PyData
  | .non => some .none
  | .bl b => some (.bool b)
  | .int i => some (.int i)
  | .str x => some (.str x)
  | .tup ds => (toPys ds).map .tuple
  | .lst ds => (toPys ds).map .list
  | .cel _ => none
  | .scr _ => none
def toPys : List D → Option (List PyData)
  | [] => some []
  | d :: ds => match toPy d, toPys ds with
    | some p, some ps => some (p :: ps)
    | _, _ => none
end
/-- .. a cell's content at the top -/
def toPyC (d : D) (C : Cells) : Option PyData := match d with
  | .cel k => match C[k]? with
    | some (.lst ds) => (toPys ds).map .list
    | _ => none
  | d => toPy d
section
variable {K : PySem.W.Frag} {μ : List Addr} {F H : Hp}
mutual
theorem toPy_dp (hs : Same F H) : ∀ (d : D) (p : PyData) (v : V), toPy d = some p → Rep K μ F v d → Dp K H v p
  | .non, p, v, e, r => by
    simp only [toPy, Option.some.injEq] at e
    subst e
    cases r
    exact .non
  | .bl b, p, v, e, r => by
    simp only [toPy, Option.some.injEq] at e
    subst e
    cases r
    exact .bl b
  | .int i, p, v, e, r => by
    simp only [toPy, Option.some.injEq] at e
    subst e
    cases r
    exact .int i
  | .str x, p, v, e, r => by
    simp only [toPy, Option.some.injEq] at e
    subst e
    cases r
    exact .str x
  | .tup ds, p, v, e, r => by
    simp only [toPy, Option.map_eq_some_iff] at e
    obtain ⟨ps, e1, e2⟩ := e
    subst e2
    cases r with
    | tup a b => exact .tup (sameT hs a) (toPys_dp hs ds ps _ e1 b)
  | .lst ds, p, v, e, r => by
    simp only [toPy, Option.map_eq_some_iff] at e
    obtain ⟨ps, e1, e2⟩ := e
    subst e2
    cases r with
    | lst a b => exact .lst (SqL.of (hs _ _ a)) (toPys_dp hs ds ps _ e1 b)
  | .cel _, p, v, e, r => by simp only [toPy] at e; cases e
  | .scr _, p, v, e, r => by simp only [toPy] at e; cases e
theorem toPys_dp (hs : Same F H) : ∀ (ds : List D) (ps : List PyData) (vs : List V), toPys ds = some ps → Reps K μ F vs ds → DpAll K H vs ps
  | [], ps, vs, e, r => by
    simp only [toPys, Option.some.injEq] at e
    subst e
    cases r
    exact .nil
  | d :: ds, ps, vs, e, r => by
    simp only [toPys] at e
    split at e
    · rename_i p ps' e1 e2
      cases e
      cases r with
      | cons a b => exact .cons (toPy_dp hs d p _ e1 a) (toPys_dp hs ds ps' _ e2 b)
    · cases e
end
theorem toPyC_dp {C : Cells} {d : D} {p : PyData} {v : V} (S : Sim K μ F C H) (e : toPyC d C = some p) (r : Rep K μ F v d) : Dp K H v p := by
  unfold toPyC at e
  split at e
  · rename_i k
    split at e
    · rename_i ds hk
      simp only [Option.map_eq_some_iff] at e
      obtain ⟨ps, e1, e2⟩ := e
      subst e2
      cases r with
      | cel a =>
        obtain ⟨_, vs, g, q⟩ := S.cel k _ _ hk a
        exact .lst (SqL.of g) (toPys_dp S.sub ds ps vs e1 q)
    · cases e
  · exact toPy_dp S.sub _ _ _ e r
end

/-! ### ==, in, repr -/
def eqD (neg : Bool) (x y : D) (C : Cells) : Res D := match x, y with
  | .str a, .str b => .ok (.bl (if neg then !decide (a = b) else decide (a = b))) C
  | x, y => match toPyC x C, toPyC y C with
  | some a, some b => if SeqAt.shaped a = true ∧ SeqAt.shaped b = true then .ok (.bl (if neg then !PyData.eqv a b else PyData.eqv a b)) C else .stuck
  | _, _ => .stuck
def inD (neg : Bool) (x y : D) (C : Cells) : Res D := match toPyC x C, toPyC y C with
  | some a, some (.list bs) => if SeqAt.shaped a = true ∧ SeqAt.shaped (.list bs) = true then .ok (.bl (if neg then !bs.any fun z => PyData.eqv z a else bs.any fun z => PyData.eqv z a)) C else .stuck
  | some a, some (.tuple bs) => if SeqAt.shaped a = true ∧ SeqAt.shaped (.tuple bs) = true then .ok (.bl (if neg then !bs.any fun z => PyData.eqv z a else bs.any fun z => PyData.eqv z a)) C else .stuck
  | _, _ => .stuck
section
variable {X : Cx} {W : WX}
theorem ob_eq (hu : X.A.units + 64 < cLine) : OpB X W (compareOp .Eq) (eqD false) := by
  refine .mk (op_eq.or (op_eqD hu)) fun x y C v w μ F H σ Q S r1 r2 k => ?_
  unfold eqD at k
  split at k
  · rename_i a b
    cases r1
    cases r2
    refine .inl ⟨rfl, ?_⟩
    have e : decide (V.str a = V.str b) = decide (a = b) := by simp
    rw [e]
    exact kd_ret S (.bl _) k
  · split at k
    · rename_i a b e1 e2
      split at k
      · rename_i z
        exact .inr ⟨a, b, toPyC_dp S e1 r1, toPyC_dp S e2 r2, z.1, z.2, kd_ret S (.bl _) k⟩
      · exact k.elim
    · exact k.elim
theorem ob_ne (hu : X.A.units + 64 < cLine) : OpB X W (compareOp .NotEq) (eqD true) := by
  refine .mk (op_ne.or (op_neD hu)) fun x y C v w μ F H σ Q S r1 r2 k => ?_
  unfold eqD at k
  split at k
  · rename_i a b
    cases r1
    cases r2
    refine .inl ⟨rfl, ?_⟩
    have e : decide (V.str a = V.str b) = decide (a = b) := by simp
    rw [e]
    exact kd_ret S (.bl _) k
  · split at k
    · rename_i a b e1 e2
      split at k
      · rename_i z
        exact .inr ⟨a, b, toPyC_dp S e1 r1, toPyC_dp S e2 r2, z.1, z.2, kd_ret S (.bl _) k⟩
      · exact k.elim
    · exact k.elim
def rInT (K : PySem.W.Frag) (neg : Bool) : R2 := fun x y H Q => ∃ d ds, Dp K H x d ∧ Dp K H y (.tuple ds) ∧ SeqAt.shaped d = true ∧ SeqAt.shaped (.tuple ds) = true ∧ Q (.bl (if neg then !ds.any fun z => PyData.eqv z d else ds.any fun z => PyData.eqv z d)) H
theorem op_inT (hu : X.A.units + 65 < cLine) : OpR X (compareOp .In) (rInT X.K false) := by
  intro pins s σ H x y v u Q I rx ry h
  obtain ⟨d, ds, h1, h2, s1, s2, q⟩ := h
  obtain ⟨as, q1⟩ := Dp.reads I d x v h1 rx
  obtain ⟨bs, q2⟩ := Dp.reads I (.tuple ds) y u h2 ry
  exact SeqAt.in_tuple_reads q2 q1 (SeqAt.canLay_of_shaped s2) (SeqAt.canLay_of_shaped s1) (room_in_shaped s1 hu) ⟨.bl _, H, I, rfl, q⟩
theorem op_notInT (hu : X.A.units + 65 < cLine) : OpR X (compareOp .NotIn) (rInT X.K true) := by
  intro pins s σ H x y v u Q I rx ry h
  obtain ⟨d, ds, h1, h2, s1, s2, q⟩ := h
  obtain ⟨as, q1⟩ := Dp.reads I d x v h1 rx
  obtain ⟨bs, q2⟩ := Dp.reads I (.tuple ds) y u h2 ry
  exact SeqAt.notIn_tuple_reads q2 q1 (SeqAt.canLay_of_shaped s2) (SeqAt.canLay_of_shaped s1) (room_in_shaped s1 hu) ⟨.bl _, H, I, rfl, q⟩
theorem ob_in (hu : X.A.units + 65 < cLine) : OpB X W (compareOp .In) (inD false) := by
  refine .mk ((op_inD hu).or (op_inT hu)) fun x y C v w μ F H σ Q S r1 r2 k => ?_
  unfold inD at k
  split at k
  · rename_i a b e1 e2
    split at k
    · rename_i z
      exact .inl ⟨a, b, toPyC_dp S e1 r1, toPyC_dp S e2 r2, z.1, z.2, kd_ret S (.bl _) k⟩
    · exact k.elim
  · rename_i a b e1 e2
    split at k
    · rename_i z
      exact .inr ⟨a, b, toPyC_dp S e1 r1, toPyC_dp S e2 r2, z.1, z.2, kd_ret S (.bl _) k⟩
    · exact k.elim
  · exact k.elim
theorem ob_notin (hu : X.A.units + 65 < cLine) : OpB X W (compareOp .NotIn) (inD true) := by
  refine .mk ((op_notInD hu).or (op_notInT hu)) fun x y C v w μ F H σ Q S r1 r2 k => ?_
  unfold inD at k
  split at k
  · rename_i a b e1 e2
    split at k
    · rename_i z
      exact .inl ⟨a, b, toPyC_dp S e1 r1, toPyC_dp S e2 r2, z.1, z.2, kd_ret S (.bl _) k⟩
    · exact k.elim
  · rename_i a b e1 e2
    split at k
    · rename_i z
      exact .inr ⟨a, b, toPyC_dp S e1 r1, toPyC_dp S e2 r2, z.1, z.2, kd_ret S (.bl _) k⟩
    · exact k.elim
  · exact k.elim
/-- repr(x) -/
def oRepr (xs : List D) (C : Cells) : Res D := match xs with
  | [x] => match toPyC x C with
    | some p => if SeqAt.shaped p = true ∧ p.showable = true ∧ p.shown.length ≤ sizeLine then .ok (.str p.shown) C else .stuck
    | none => .stuck
  | _ => .stuck
theorem call_reprD (hg : X.A.guards = some []) (hu : X.A.units + 65 < cLine) : CallR X (.builtin "repr") (fun xs H Q => ∃ x p, xs = [x] ∧ Dp X.K H x p ∧ SeqAt.shaped p = true ∧ p.showable = true ∧ p.shown.length ≤ sizeLine ∧ Q (.str p.shown) H) := by
  intro pins s σ H xs us Q I r h
  obtain ⟨x, p, rfl, hd, sh, hs, hz, q⟩ := h
  obtain ⟨u, rfl, r1⟩ := vals1 r
  have kept : ∀ (h' : Heap) (t : Nat), (∀ b o, s.heap.get? b = some o → h'.get? b = some o) → Inv X pins σ H { s with heap := h', toks := t } := fun h' t hk => I.kept (t' := t) hk
  have big : ∀ d : PyData, Dp X.K H x d → SeqAt.shaped d = true → d.showable = true → d.shown.length ≤ sizeLine → Q (.str d.shown) H → (∃ a, x = .ref a) → wpAny (model X.prog X.w) X.A (call (.builtin "repr") [u]) (EP X pins σ Q) X.xe s := by
    intro d hd sh hs hz q hx
    obtain ⟨a, rfl⟩ := hx
    cases r1
    obtain ⟨as, rd⟩ := Dp.reads I d (.ref a) _ hd rfl
    have h1 := SeqAt.depth_of_shaped sh
    exact repr_of_reads' rd hs (PyData.noDict_hsm (PyData.hasDict_of_canLay d (SeqAt.canLay_of_shaped sh))) hg (by omega) (fun _ _ e => e) (fun h' t tk hk => ⟨.str _, H, kept h' tk hk, ⟨t, rfl⟩, q⟩) hz
  cases hd with
  | non =>
    cases r1
    simp only [PyData.shown] at q
    exact PySem.P.repr_of_none ⟨.str _, H, I.tok _, ⟨_, rfl⟩, q⟩
  | bl b =>
    cases r1
    simp only [PyData.shown] at q
    exact PySem.P.repr_of_bool ⟨.str _, H, I.tok _, ⟨_, rfl⟩, q⟩
  | int i =>
    obtain ⟨t, rfl⟩ := r1
    simp only [PyData.shown] at q
    simp only [PyData.showable, decide_eq_true_eq] at hs
    exact PySem.P.repr_of_int hs ⟨.str _, H, I.tok _, ⟨_, rfl⟩, q⟩
  | str z =>
    obtain ⟨t, rfl⟩ := r1
    simp only [PyData.shown] at q hz
    exact PySem.P.repr_of_str ⟨.str _, H, I.tok _, ⟨_, rfl⟩, q⟩ hz
  | lst a b => exact big _ (.lst a b) sh hs hz q ⟨_, rfl⟩
  | tup a b => exact big _ (.tup a b) sh hs hz q ⟨_, rfl⟩
theorem cb_repr (hg : X.A.guards = some []) (hu : X.A.units + 65 < cLine) : CallB X W (.builtin "repr") oRepr := by
  refine ⟨_, call_reprD hg hu, fun xs C vs μ F H σ Q S r k => ?_⟩
  unfold oRepr at k
  split at k
  · split at k
    · rename_i p e
      split at k
      · rename_i z
        cases r with
        | cons r1 r2 =>
          cases r2
          exact ⟨_, p, rfl, toPyC_dp S e r1, z.1, z.2.1, z.2.2, kd_ret S (.str _) k⟩
      · exact k.elim
    · exact k.elim
  · exact k.elim
end
end BV
namespace BV
open PySem PySem.Spec PyProof.Rows L2

def ints? : List D → Option (List Int)
  | [] => some []
  | .int i :: r => (ints? r).map (i :: ·)
  | _ => none
def bls? : List D → Option (List Bool)
  | [] => some []
  | .bl i :: r => (bls? r).map (i :: ·)
  | _ => none
theorem ints?_eq : ∀ {ds : List D} {ns : List Int}, ints? ds = some ns → ds = ns.map .int
  | [], ns, e => by
    simp only [ints?, Option.some.injEq] at e
    subst e
    rfl
  | d :: r, ns, e => by
    cases d with
    | int i =>
      simp only [ints?, Option.map_eq_some_iff] at e
      obtain ⟨ms, e1, e2⟩ := e
      subst e2
      rw [ints?_eq e1]
      rfl
    | _ => simp only [ints?] at e; cases e
theorem bls?_eq : ∀ {ds : List D} {ns : List Bool}, bls? ds = some ns → ds = ns.map .bl
  | [], ns, e => by
    simp only [bls?, Option.some.injEq] at e
    subst e
    rfl
  | d :: r, ns, e => by
    cases d with
    | bl i =>
      simp only [bls?, Option.map_eq_some_iff] at e
      obtain ⟨ms, e1, e2⟩ := e
      subst e2
      rw [bls?_eq e1]
      rfl
    | _ => simp only [bls?] at e; cases e
@[simp] theorem ints?_map (ns : List Int) : ints? (ns.map D.int) = some ns := by
  induction ns with
  | nil => rfl
  | cons n ns ih => simp [ints?, ih]
@[simp] theorem bls?_map (ns : List Bool) : bls? (ns.map D.bl) = some ns := by
  induction ns with
  | nil => rfl
  | cons n ns ih => simp [bls?, ih]

section
variable {X : Cx} {W : WX}
/-! ### len, int, abs -/
def oLen (xs : List D) (C : Cells) : Res D := match xs with
  | [.str x] => if x.length ≤ sizeLine then .ok (.int x.length) C else .stuck
  | [d] => match asS d C with
    | some ds => .ok (.int ds.length) C
    | none => .stuck
  | _ => .stuck
theorem reps1 {K : PySem.W.Frag} {μ : List Addr} {F : Hp} {vs : List V} {d : D} (r : Reps K μ F vs [d]) : ∃ v, vs = [v] ∧ Rep K μ F v d := by
  cases r with
  | cons a b =>
    cases b
    exact ⟨_, rfl, a⟩
theorem reps2 {K : PySem.W.Frag} {μ : List Addr} {F : Hp} {vs : List V} {d e : D} (r : Reps K μ F vs [d, e]) : ∃ v w, vs = [v, w] ∧ Rep K μ F v d ∧ Rep K μ F w e := by
  cases r with
  | cons a b =>
    obtain ⟨w, rfl, c⟩ := reps1 b
    exact ⟨_, w, rfl, a, c⟩
theorem cb_len : CallB X W (.builtin "len") oLen := by
  refine ⟨_, call_len, fun xs C vs μ F H σ Q S r k => ?_⟩
  unfold oLen at k
  split at k
  · obtain ⟨v, rfl, r1⟩ := reps1 r
    cases r1
    split at k
    · rename_i z
      exact ⟨_, _, rfl, ⟨z, rfl⟩, kd_ret S (.int _) k⟩
    · exact k.elim
  · obtain ⟨v, rfl, r1⟩ := reps1 r
    split at k
    · rename_i ds e
      obtain ⟨a, vs, rfl, q, rs⟩ := asS_rep S r1 e
      rw [← rs.length] at k
      refine ⟨_, _, rfl, ?_, kd_ret S (.int _) k⟩
      rcases q with q | q
      · exact .inl ⟨vs, q, rfl⟩
      · exact .inr ⟨vs, q, rfl⟩
    · exact k.elim
  · exact k.elim
def oInt (xs : List D) (C : Cells) : Res D := match xs with
  | [.int i] => .ok (.int i) C
  | [.bl b] => .ok (.int (if b then 1 else 0)) C
  | _ => .stuck
theorem cb_int : CallB X W (.type "int") oInt := by
  refine ⟨_, call_int1, fun xs C vs μ F H σ Q S r k => ?_⟩
  unfold oInt at k
  split at k
  · obtain ⟨v, rfl, r1⟩ := reps1 r
    cases r1
    exact .inl ⟨_, rfl, kd_ret S (.int _) k⟩
  · obtain ⟨v, rfl, r1⟩ := reps1 r
    cases r1
    exact .inr ⟨_, rfl, kd_ret S (.int _) k⟩
  · exact k.elim
def oAbs (xs : List D) (C : Cells) : Res D := match xs with
  | [.int i] => .ok (.int (if i < 0 then -i else i)) C
  | _ => .stuck
theorem cb_abs : CallB X W (.builtin "abs") oAbs := by
  refine ⟨_, call_abs, fun xs C vs μ F H σ Q S r k => ?_⟩
  unfold oAbs at k
  split at k
  · obtain ⟨v, rfl, r1⟩ := reps1 r
    cases r1
    exact ⟨_, rfl, kd_ret S (.int _) k⟩
  · exact k.elim
/-! ### max, min, sum, all, any -/
def maxI : List Int → Option Int
  | [] => none
  | n :: ns => some (ns.foldl (fun a b => if b > a then b else a) n)
def minI : List Int → Option Int
  | [] => none
  | n :: ns => some (ns.foldl (fun a b => if b < a then b else a) n)
theorem foldl_max (ns : List Int) : ∀ n : Int, (ns.foldl (fun a b => if b > a then b else a) n = n ∨ ns.foldl (fun a b => if b > a then b else a) n ∈ ns) ∧ n ≤ ns.foldl (fun a b => if b > a then b else a) n ∧ ∀ y ∈ ns, y ≤ ns.foldl (fun a b => if b > a then b else a) n := by
  induction ns with
  | nil => intro n; simp
  | cons m ns ih =>
    intro n
    simp only [List.foldl_cons]
    obtain ⟨h1, h2, h3⟩ := ih (if m > n then m else n)
    refine ⟨?_, ?_, ?_⟩
    · rcases h1 with h1 | h1
      · by_cases c : m > n
        · rw [if_pos c] at h1 ⊢
          exact .inr (by rw [h1]; simp)
        · rw [if_neg c] at h1 ⊢
          exact .inl h1
      · exact .inr (List.mem_cons_of_mem _ h1)
    · by_cases c : m > n
      · rw [if_pos c] at h2 ⊢
        omega
      · rw [if_neg c] at h2 ⊢
        exact h2
    · intro y hy
      rcases List.mem_cons.mp hy with e | hy
      · subst e
        by_cases c : y > n
        · rw [if_pos c] at h2 ⊢
          exact h2
        · rw [if_neg c] at h2 ⊢
          omega
      · exact h3 y hy
theorem foldl_min (ns : List Int) : ∀ n : Int, (ns.foldl (fun a b => if b < a then b else a) n = n ∨ ns.foldl (fun a b => if b < a then b else a) n ∈ ns) ∧ ns.foldl (fun a b => if b < a then b else a) n ≤ n ∧ ∀ y ∈ ns, ns.foldl (fun a b => if b < a then b else a) n ≤ y := by
  induction ns with
  | nil => intro n; simp
  | cons m ns ih =>
    intro n
    simp only [List.foldl_cons]
    obtain ⟨h1, h2, h3⟩ := ih (if m < n then m else n)
    refine ⟨?_, ?_, ?_⟩
    · rcases h1 with h1 | h1
      · by_cases c : m < n
        · rw [if_pos c] at h1 ⊢
          exact .inr (by rw [h1]; simp)
        · rw [if_neg c] at h1 ⊢
          exact .inl h1
      · exact .inr (List.mem_cons_of_mem _ h1)
    · by_cases c : m < n
      · rw [if_pos c] at h2 ⊢
        omega
      · rw [if_neg c] at h2 ⊢
        exact h2
    · intro y hy
      rcases List.mem_cons.mp hy with e | hy
      · subst e
        by_cases c : y < n
        · rw [if_pos c] at h2 ⊢
          exact h2
        · rw [if_neg c] at h2 ⊢
          omega
      · exact h3 y hy
theorem maxI_spec {ns : List Int} {m : Int} (h : maxI ns = some m) : m ∈ ns ∧ ∀ y ∈ ns, y ≤ m := by
  cases ns with
  | nil => cases h
  | cons n ns =>
    simp only [maxI, Option.some.injEq] at h
    subst h
    obtain ⟨h1, h2, h3⟩ := foldl_max ns n
    refine ⟨?_, fun y hy => ?_⟩
    · rcases h1 with h1 | h1
      · rw [h1]
        simp
      · exact List.mem_cons_of_mem _ h1
    · rcases List.mem_cons.mp hy with e | hy
      · rw [e]
        exact h2
      · exact h3 y hy
theorem minI_spec {ns : List Int} {m : Int} (h : minI ns = some m) : m ∈ ns ∧ ∀ y ∈ ns, m ≤ y := by
  cases ns with
  | nil => cases h
  | cons n ns =>
    simp only [minI, Option.some.injEq] at h
    subst h
    obtain ⟨h1, h2, h3⟩ := foldl_min ns n
    refine ⟨?_, fun y hy => ?_⟩
    · rcases h1 with h1 | h1
      · rw [h1]
        simp
      · exact List.mem_cons_of_mem _ h1
    · rcases List.mem_cons.mp hy with e | hy
      · rw [e]
        exact h2
      · exact h3 y hy
def intsC (d : D) (C : Cells) : Option (List Int) := (asL d C).bind ints?
theorem intsC_rep {K : PySem.W.Frag} {μ : List Addr} {F H : Hp} {C : Cells} {v : V} {d : D} {ns : List Int} (S : Sim K μ F C H) (r : Rep K μ F v d) (h : intsC d C = some ns) : ∃ a, v = .ref a ∧ H a = some (.lst (ns.map V.int)) := by
  unfold intsC at h
  simp only [Option.bind_eq_some_iff] at h
  obtain ⟨ds, e1, e2⟩ := h
  obtain ⟨a, vs, rfl, g, rs⟩ := asL_rep S r e1
  rw [ints?_eq e2] at rs
  rw [rs.of_ints] at g
  exact ⟨a, rfl, g⟩
def oMax (xs : List D) (C : Cells) : Res D := match xs with
  | [.int i, .int j] => .ok (.int (if j > i then j else i)) C
  | [d] => match (intsC d C).bind maxI with
    | some m => .ok (.int m) C
    | none => .stuck
  | _ => .stuck
def oMin (xs : List D) (C : Cells) : Res D := match xs with
  | [.int i, .int j] => .ok (.int (if j < i then j else i)) C
  | [d] => match (intsC d C).bind minI with
    | some m => .ok (.int m) C
    | none => .stuck
  | _ => .stuck
theorem cb_max (hc : X.calm = true) : CallB X W (.builtin "max") oMax := by
  refine ⟨_, (call_max2 hc).or (cr_max hc), fun xs C vs μ F H σ Q S r k => ?_⟩
  unfold oMax at k
  split at k
  · obtain ⟨v, w, rfl, r1, r2⟩ := reps2 r
    cases r1
    cases r2
    exact .inl ⟨_, _, rfl, kd_ret S (.int _) k⟩
  · obtain ⟨v, rfl, r1⟩ := reps1 r
    split at k
    · rename_i m e
      simp only [Option.bind_eq_some_iff] at e
      obtain ⟨ns, e1, e2⟩ := e
      obtain ⟨a, rfl, g⟩ := intsC_rep S r1 e1
      obtain ⟨h1, h2⟩ := maxI_spec e2
      refine .inr ⟨a, ns, rfl, SqL.of g, List.length_pos_of_mem h1, fun m' h3 h4 => ?_⟩
      have e : m' = m := Int.le_antisymm (h2 _ h3) (h4 _ h1)
      rw [e]
      exact kd_ret S (.int _) k
    · exact k.elim
  · exact k.elim
theorem cb_min (hc : X.calm = true) : CallB X W (.builtin "min") oMin := by
  refine ⟨_, (call_min2 hc).or (cr_min hc), fun xs C vs μ F H σ Q S r k => ?_⟩
  unfold oMin at k
  split at k
  · obtain ⟨v, w, rfl, r1, r2⟩ := reps2 r
    cases r1
    cases r2
    exact .inl ⟨_, _, rfl, kd_ret S (.int _) k⟩
  · obtain ⟨v, rfl, r1⟩ := reps1 r
    split at k
    · rename_i m e
      simp only [Option.bind_eq_some_iff] at e
      obtain ⟨ns, e1, e2⟩ := e
      obtain ⟨a, rfl, g⟩ := intsC_rep S r1 e1
      obtain ⟨h1, h2⟩ := minI_spec e2
      refine .inr ⟨a, ns, rfl, SqL.of g, List.length_pos_of_mem h1, fun m' h3 h4 => ?_⟩
      have e : m' = m := Int.le_antisymm (h4 _ h1) (h2 _ h3)
      rw [e]
      exact kd_ret S (.int _) k
    · exact k.elim
  · exact k.elim
def oSum (xs : List D) (C : Cells) : Res D := match xs with
  | [d] => match intsC d C with
    | some ns => .ok (.int ns.sum) C
    | none => .stuck
  | _ => .stuck
theorem cb_sum (hc : X.calm = true) : CallB X W (.builtin "sum") oSum := by
  refine ⟨_, cr_sum hc, fun xs C vs μ F H σ Q S r k => ?_⟩
  unfold oSum at k
  split at k
  · obtain ⟨v, rfl, r1⟩ := reps1 r
    split at k
    · rename_i ns e
      obtain ⟨a, rfl, g⟩ := intsC_rep S r1 e
      exact ⟨a, ns, rfl, SqL.of g, kd_ret S (.int _) k⟩
    · exact k.elim
  · exact k.elim
def blsC (d : D) (C : Cells) : Option (List Bool) := (asL d C).bind bls?
theorem blsC_rep {K : PySem.W.Frag} {μ : List Addr} {F H : Hp} {C : Cells} {v : V} {d : D} {ns : List Bool} (S : Sim K μ F C H) (r : Rep K μ F v d) (h : blsC d C = some ns) : ∃ a, v = .ref a ∧ H a = some (.lst (ns.map V.bl)) := by
  unfold blsC at h
  simp only [Option.bind_eq_some_iff] at h
  obtain ⟨ds, e1, e2⟩ := h
  obtain ⟨a, vs, rfl, g, rs⟩ := asL_rep S r e1
  rw [bls?_eq e2] at rs
  rw [rs.of_bls] at g
  exact ⟨a, rfl, g⟩
def oAll (xs : List D) (C : Cells) : Res D := match xs with
  | [d] => match blsC d C with
    | some bs => .ok (.bl (bs.all id)) C
    | none => .stuck
  | _ => .stuck
def oAny (xs : List D) (C : Cells) : Res D := match xs with
  | [d] => match blsC d C with
    | some bs => .ok (.bl (bs.any id)) C
    | none => .stuck
  | _ => .stuck
theorem cb_all (hc : X.calm = true) : CallB X W (.builtin "all") oAll := by
  refine ⟨_, cr_all hc, fun xs C vs μ F H σ Q S r k => ?_⟩
  unfold oAll at k
  split at k
  · obtain ⟨v, rfl, r1⟩ := reps1 r
    split at k
    · rename_i ns e
      obtain ⟨a, rfl, g⟩ := blsC_rep S r1 e
      exact ⟨a, ns, rfl, SqL.of g, kd_ret S (.bl _) k⟩
    · exact k.elim
  · exact k.elim
theorem cb_any (hc : X.calm = true) : CallB X W (.builtin "any") oAny := by
  refine ⟨_, cr_any hc, fun xs C vs μ F H σ Q S r k => ?_⟩
  unfold oAny at k
  split at k
  · obtain ⟨v, rfl, r1⟩ := reps1 r
    split at k
    · rename_i ns e
      obtain ⟨a, rfl, g⟩ := blsC_rep S r1 e
      exact ⟨a, ns, rfl, SqL.of g, kd_ret S (.bl _) k⟩
    · exact k.elim
  · exact k.elim
/-! ### list, tuple -/
def oList (m : Bool) (xs : List D) (C : Cells) : Res D := match xs with
  | [d] => match asS d C with
    | some ds => mkL m ds C
    | none => .stuck
  | _ => .stuck
theorem cb_list (m : Bool) : CallB X W (.type "list") (oList m) := by
  refine ⟨_, call_list_of, fun xs C vs μ F H σ Q S r k => ?_⟩
  unfold oList at k
  split at k
  · obtain ⟨v, rfl, r1⟩ := reps1 r
    split at k
    · rename_i ds e
      obtain ⟨a, vs, rfl, g, rs⟩ := asS_rep S r1 e
      exact ⟨a, vs, rfl, g, fun p hp => kd_mkL S hp rs k⟩
    · exact k.elim
  · exact k.elim
def oTuple (xs : List D) (C : Cells) : Res D := match xs with
  | [d] => match asS d C with
    | some ds => .ok (.tup ds) C
    | none => .stuck
  | _ => .stuck
theorem asT_rep {K : PySem.W.Frag} {μ : List Addr} {F H : Hp} {C : Cells} {v : V} {d : D} {ds : List D} (S : Sim K μ F C H) (r : Rep K μ F v d) (h : asS d C = some ds) :
    ∃ a vs, v = .ref a ∧ Reps K μ F vs ds ∧ (SqL K H a vs ∨ (SqT K H a vs ∧ SqT K F a vs)) := by
  cases r with
  | tup a b =>
    simp only [asS, Option.some.injEq] at h
    subst h
    exact ⟨_, _, rfl, b, .inr ⟨sameT S.sub a, a⟩⟩
  | lst a b =>
    simp only [asS, Option.some.injEq] at h
    subst h
    exact ⟨_, _, rfl, b, .inl (SqL.of (S.sub _ _ a))⟩
  | scr a =>
    simp only [asS, Option.some.injEq] at h
    subst h
    exact ⟨_, _, rfl, Reps.ints _, .inl (S.sub.seq a)⟩
  | cel a =>
    rename_i a' k
    simp only [asS] at h
    split at h
    · rename_i ds' e
      cases h
      obtain ⟨_, vs, g, r⟩ := S.cel k _ _ e a
      exact ⟨_, vs, rfl, r, .inl (SqL.of g)⟩
    · cases h
  | _ => cases h
theorem cb_tuple : CallB X W (.type "tuple") oTuple := by
  refine ⟨_, call_tuple_of, fun xs C vs μ F H σ Q S r k => ?_⟩
  unfold oTuple at k
  split at k
  · obtain ⟨v, rfl, r1⟩ := reps1 r
    split at k
    · rename_i ds e
      obtain ⟨a, vs, rfl, rs, g⟩ := asT_rep S r1 e
      rcases g with g | ⟨g, g2⟩
      · exact ⟨a, vs, rfl, .inl ⟨g, fun p hp => kd_mkT S hp rs k⟩⟩
      · exact ⟨a, vs, rfl, .inr ⟨g, kd_ret S (.tup g2 rs) k⟩⟩
    · exact k.elim
  · exact k.elim

/-! ### ranges as lists, as tuples -/
def rg (a b : Int) : List D := (List.range (b - a).toNat).map fun (i : Nat) => D.int (a + (i : Nat))
theorem reps_rg {K : PySem.W.Frag} {μ : List Addr} {F : Hp} (a b : Int) : Reps K μ F (rgV a b) (rg a b) := by
  unfold rgV rg
  induction List.range (b - a).toNat with
  | nil => exact .nil
  | cons n ns ih => exact .cons (.int _) ih
instance (a b : Int) : Decidable (RgOk a b) := by unfold RgOk; infer_instance
def RG (K : PySem.W.Frag) (mg : Str → Option Value) (W : WX) (f : Rho → Cells → Res (Int × Int)) : L2.St → Hp → (Int → Int → Hp → Prop) → Prop := fun σ H Q => ∃ ρ C μ F, Sim K μ F C H ∧ ERel K μ F ρ σ ∧ kd (fun _ _ (v : Int × Int) d => v = d) K mg W (f ρ C) μ F σ H (fun p H' => Q p.1 p.2 H')
abbrev BRg (X : Cx) (W : WX) (e : Expr) (f : Rho → Cells → Res (Int × Int)) : Prop := PRg X e (RG X.K X.mg W f)
def rg1 (f : Rho → Cells → Res D) : Rho → Cells → Res (Int × Int) := fun ρ C => (f ρ C).bind fun x C1 => match x with
  | .int j => .ok (0, j) C1
  | _ => .stuck
def rg2 (f g : Rho → Cells → Res D) : Rho → Cells → Res (Int × Int) := fun ρ C => (f ρ C).bind fun x C1 => (g ρ C1).bind fun y C2 => match x, y with
  | .int i, .int j => .ok (i, j) C2
  | _, _ => .stuck
variable {a b e : Expr} {f g : Rho → Cells → Res D} {fr : Rho → Cells → Res (Int × Int)} {p pos : Pos}
theorem prgI {t t' : L2.St → Hp → (Int → Int → Hp → Prop) → Prop} (h : PRg X e t) (k : ∀ σ H Q, t' σ H Q → t σ H Q) : PRg X e t' := fun pins s σ H R I q => h pins s σ H R I (k σ H R q)
theorem brg1 (hg : Gl X "range") (hm : X.mg "range" = none) (ha : BE X W a f) (na : starEach [a] X.env = (false, eval a X.env) :: starEach [] X.env := by rfl) : BRg X W (.Call (.Name "range" p) [a] [] pos) (rg1 f) := by
  refine prgI (prg_1 hg hm ha na) ?_
  rintro σ H Q ⟨ρ, C, μ, F, S, E, k⟩
  refine ⟨ρ, C, μ, F, S, E, kd_bind k fun d C1 v μ1 F1 H1 x1 s1 r1 h1 => ?_⟩
  cases d with
  | int j =>
    cases r1
    exact ⟨j, rfl, kd_ret (v := ((0 : Int), j)) s1 rfl h1⟩
  | _ => exact False.elim h1
theorem brg2 (hg : Gl X "range") (hm : X.mg "range" = none) (ha : BE X W a f) (hb : BE X W b g) (na : starEach [a, b] X.env = (false, eval a X.env) :: starEach [b] X.env := by rfl)
    (nb : starEach [b] X.env = (false, eval b X.env) :: starEach [] X.env := by rfl) (hp : (backTo pos (starEach [b] X.env)).any (·.1) = false := by rfl) : BRg X W (.Call (.Name "range" p) [a, b] [] pos) (rg2 f g) := by
  refine prgI (prg_2 hg hm ha hb na nb hp) ?_
  rintro σ H Q ⟨ρ, C, μ, F, S, E, k⟩
  refine ⟨ρ, C, μ, F, S, E, kd_bind k fun d C1 v μ1 F1 H1 x1 s1 r1 h1 => ?_⟩
  refine ⟨ρ, C1, μ1, F1, s1, x1.env E, kd_bind h1 fun d2 C2 v2 μ2 F2 H2 x2 s2 r2 h2 => ?_⟩
  cases d with
  | int i =>
    cases r1
    cases d2 with
    | int j =>
      cases r2
      exact ⟨i, j, rfl, rfl, kd_ret (v := (i, j)) s2 rfl h2⟩
    | _ => exact False.elim h2
  | _ => exact False.elim h2
def lstRg (m : Bool) (fr : Rho → Cells → Res (Int × Int)) : Rho → Cells → Res D := fun ρ C => (fr ρ C).bind fun p C1 => if RgOk p.1 p.2 then mkL m (rg p.1 p.2) C1 else .stuck
def tupRg (fr : Rho → Cells → Res (Int × Int)) : Rho → Cells → Res D := fun ρ C => (fr ρ C).bind fun p C1 => if RgOk p.1 p.2 then .ok (.tup (rg p.1 p.2)) C1 else .stuck
theorem be_lstRg (m : Bool) (hc : X.calm = true) (hg : Gl X "list") (hm : X.mg "list" = none) (he : BRg X W e fr) (na : starEach [e] X.env = (false, eval e X.env) :: starEach [] X.env := by rfl) : BE X W (.Call (.Name "list" p) [e] [] pos) (lstRg m fr) := by
  refine peI (pe_listRg hc hg hm he na) ?_
  rintro σ H Q ⟨ρ, C, μ, F, S, E, k⟩
  refine ⟨ρ, C, μ, F, S, E, kd_bind k fun d C1 v μ1 F1 H1 x1 s1 r1 h1 => ?_⟩
  cases r1
  split at h1
  · rename_i z
    exact ⟨z, fun q hq => kd_mkL s1 hq (reps_rg _ _) h1⟩
  · exact h1.elim
theorem be_tupRg (hc : X.calm = true) (hg : Gl X "tuple") (hm : X.mg "tuple" = none) (he : BRg X W e fr) (na : starEach [e] X.env = (false, eval e X.env) :: starEach [] X.env := by rfl) : BE X W (.Call (.Name "tuple" p) [e] [] pos) (tupRg fr) := by
  refine peI (pe_tupRg hc hg hm he na) ?_
  rintro σ H Q ⟨ρ, C, μ, F, S, E, k⟩
  refine ⟨ρ, C, μ, F, S, E, kd_bind k fun d C1 v μ1 F1 H1 x1 s1 r1 h1 => ?_⟩
  cases r1
  split at h1
  · rename_i z
    exact ⟨z, fun q hq => kd_mkT s1 hq (reps_rg _ _) h1⟩
  · exact h1.elim

/-! ### slices -/
def cut {α : Type} (xs : List α) (lo hi : Option Int) : List α := (xs.drop (HT.sIx xs.length 0 lo)).take (HT.sIx xs.length xs.length hi - HT.sIx xs.length 0 lo)
theorem Reps.cut {K : PySem.W.Frag} {μ : List Addr} {F : Hp} {vs : List V} {ds : List D} (r : Reps K μ F vs ds) (lo hi : Option Int) : Reps K μ F (cutV vs lo hi) (BV.cut ds lo hi) := by
  unfold cutV BV.cut
  rw [r.length]
  exact (r.drop _).take _
def RO (K : PySem.W.Frag) (mg : Str → Option Value) (W : WX) (f : Rho → Cells → Res (Option Int)) : TO := fun σ H Q => ∃ ρ C μ F, Sim K μ F C H ∧ ERel K μ F ρ σ ∧ kd (fun _ _ (v : Option Int) d => v = d) K mg W (f ρ C) μ F σ H Q
abbrev BO (X : Cx) (W : WX) (e : Option Expr) (f : Rho → Cells → Res (Option Int)) : Prop := PO X e (RO X.K X.mg W f)
theorem poI {e : Option Expr} {t t' : TO} (h : PO X e t) (k : ∀ σ H Q, t' σ H Q → t σ H Q) : PO X e t' := ⟨fun pins s σ H Q I q => h.run pins s σ H Q I (k σ H Q q)⟩
def pNo : Rho → Cells → Res (Option Int) := fun _ C => .ok none C
def pSo (f : Rho → Cells → Res D) : Rho → Cells → Res (Option Int) := fun ρ C => (f ρ C).bind fun x C1 => match x with
  | .int i => .ok (some i) C1
  | _ => .stuck
theorem bo_none : BO X W none pNo := by
  refine poI po_none ?_
  rintro σ H Q ⟨ρ, C, μ, F, S, E, k⟩
  exact kd_ret S rfl k
theorem bo_some (h : BE X W e f) : BO X W (some e) (pSo f) := by
  refine poI (po_some h) ?_
  rintro σ H Q ⟨ρ, C, μ, F, S, E, k⟩
  refine ⟨ρ, C, μ, F, S, E, kd_bind k fun d C1 v μ1 F1 H1 x1 s1 r1 h1 => ?_⟩
  cases d with
  | int i =>
    cases r1
    exact ⟨i, rfl, kd_ret (v := some i) s1 rfl h1⟩
  | _ => exact False.elim h1
def slD (m : Bool) (x : D) (lo hi : Option Int) (C : Cells) : Res D := match x with
  | .tup ds => .ok (.tup (cut ds lo hi)) C
  | x => match asL x C with
    | some ds => mkL m (cut ds lo hi) C
    | none => .stuck
def fSl (m : Bool) (f : Rho → Cells → Res D) (l h : Rho → Cells → Res (Option Int)) : Rho → Cells → Res D := fun ρ C => (f ρ C).bind fun x C1 => (l ρ C1).bind fun lo C2 => (h ρ C2).bind fun hi C3 => slD m x lo hi C3
theorem cut_whole {ds : List D} {lo hi : Option Int} (h : HT.sIx ds.length 0 lo = 0 ∧ HT.sIx ds.length ds.length hi = ds.length) : cut ds lo hi = ds := by
  unfold cut
  rw [h.1, h.2]
  simp
variable {lo hi : Option Expr} {fl fh : Rho → Cells → Res (Option Int)} {p2 : Pos}
theorem be_sl (m : Bool) (he : BE X W e f) (hl : BO X W lo fl) (hh : BO X W hi fh) : BE X W (.Subscript e (.Slice lo hi none p2) pos) (fSl m f fl fh) := by
  refine peI (pe_slice (sl_tupA.or sl_list) he hl hh) ?_
  rintro σ H Q ⟨ρ, C, μ, F, S, E, k⟩
  refine ⟨ρ, C, μ, F, S, E, kd_bind k fun d C1 v μ1 F1 H1 x1 s1 r1 h1 => ?_⟩
  refine ⟨ρ, C1, μ1, F1, s1, x1.env E, kd_bind h1 fun l C2 v2 μ2 F2 H2 x2 s2 r2 h2 => ?_⟩
  refine ⟨ρ, C2, μ2, F2, s2, x2.env (x1.env E), kd_bind h2 fun h C3 v3 μ3 F3 H3 x3 s3 r3 h3 => ?_⟩
  cases r2
  cases r3
  have r := x3.rep (x2.rep r1)
  unfold slD at h3
  split at h3
  · cases r with
    | tup a b =>
      refine .inl ⟨_, _, rfl, sameT s3.sub a, fun z => ?_, fun _ p hp => kd_mkT s3 hp (b.cut _ _) h3⟩
      rw [b.length] at z
      rw [cut_whole z] at h3
      exact kd_ret s3 (.tup a b) h3
  · split at h3
    · rename_i ds e
      obtain ⟨a, vs, rfl, g, rs⟩ := asL_rep s3 r e
      exact .inr ⟨a, vs, rfl, SqL.of g, fun p hp => kd_mkL s3 hp (rs.cut _ _) h3⟩
    · exact h3.elim

/-! ### isinstance with built-in types -/
def tyD (d : D) (C : Cells) : Option String := match d with
  | .non => some "NoneType"
  | .bl _ => some "bool"
  | .int _ => some "int"
  | .str _ => some "str"
  | .tup _ => some "tuple"
  | .lst _ => some "list"
  | .scr _ => some "list"
  | .cel k => match C[k]? with
    | some (.lst _) => some "list"
    | _ => none
def isTy (t c : String) : Bool := t == c || (t == "bool" && c == "int")
def isiD (cs : List String) (d : D) (C : Cells) : Res D := match tyD d C with
  | some t => .ok (.bl (cs.any fun c => isTy t c)) C
  | none => .stuck
def tyNames : List String := ["NoneType", "bool", "int", "str", "tuple", "list"]
def clNames : List String := ["bool", "int", "str", "tuple", "list"]
theorem kit_ty (K : PySem.W.Frag) : ∀ t ∈ tyNames, ∀ c ∈ clNames, PySem.W.kitOne K (.type t) (.type c) = some (isTy t c) := by
  intro t ht c hc
  simp only [tyNames, clNames, List.mem_cons, List.not_mem_nil, or_false] at ht hc
  rcases ht with rfl | rfl | rfl | rfl | rfl | rfl <;> rcases hc with rfl | rfl | rfl | rfl | rfl <;> rfl
theorem tyD_rep {K : PySem.W.Frag} {μ : List Addr} {F H : Hp} {C : Cells} {v : V} {d : D} {t : String} (S : Sim K μ F C H) (r : Rep K μ F v d) (h : tyD d C = some t) : TyX K H v (.type t) ∧ t ∈ tyNames := by
  cases r with
  | non => cases h; exact ⟨.base .non, by decide⟩
  | bl b => cases h; exact ⟨.base (.bl b), by decide⟩
  | int b => cases h; exact ⟨.base (.int b), by decide⟩
  | str b => cases h; exact ⟨.base (.str b), by decide⟩
  | lst a b => cases h; exact ⟨.base (.lst (S.sub _ _ a)), by decide⟩
  | tup a b =>
    cases h
    refine ⟨?_, by decide⟩
    rcases sameT S.sub a with (q | ⟨o, q⟩) | ⟨o, its, n, q1, q2, _⟩
    · exact .base (.tup q)
    · exact .fTuple q
    · exact .kTuple q1 q2
  | scr a =>
    cases h
    refine ⟨?_, by decide⟩
    rcases S.sub.seq a with (q | ⟨o, q⟩) | ⟨o, its, n, q1, q2, _⟩
    · exact .base (.lst q)
    · exact .base (.frz q)
    · exact .kList q1 q2
  | cel a =>
    rename_i a' k
    simp only [tyD] at h
    split at h
    · rename_i ds' e
      cases h
      obtain ⟨_, vs, g, r⟩ := S.cel k _ _ e a
      exact ⟨.base (.lst g), by decide⟩
    · cases h
variable {c c2 : String} {tx : Expr} {x : Str}
theorem be_isi1 (hc : c ∈ clNames) (hg : Gl X "isinstance") (hm : X.mg "isinstance" = none) (he : BE X W e f) (hx : PE X tx (tC (.ty c)))
    (n1 : starEach [e, tx] X.env = (false, eval e X.env) :: starEach [tx] X.env := by rfl) (n2 : starEach [tx] X.env = (false, eval tx X.env) :: starEach [] X.env := by rfl) (hpl : (backTo pos (starEach [tx] X.env)).any (·.1) = false := by rfl) :
    BE X W (.Call (.Name "isinstance" p) [e, tx] [] pos) (f1 (isiD [c]) f) := by
  refine peI (pe_callB call_isi hg hm (by decide +kernel) (pa_cons he (pa_cons hx pa_nil n2) n1) (he := n1) (hpl := hpl)) ?_
  rintro σ H Q ⟨ρ, C, μ, F, S, E, k⟩
  refine ⟨ρ, C, μ, F, S, E, kd_bind k fun d C1 v μ1 F1 H1 x1 s1 r1 h1 => ?_⟩
  unfold isiD at h1
  split at h1
  · rename_i t e1
    obtain ⟨q1, q2⟩ := tyD_rep s1 r1 e1
    refine ⟨v, .ty c, .type t, .type c, _, rfl, .ty c, q1, kit_ty _ t q2 c hc, ?_⟩
    simp only [List.any_cons, List.any_nil, Bool.or_false] at h1
    exact kd_ret s1 (.bl _) h1
  · exact h1.elim
end
end BV
namespace BV
open PySem PySem.Spec PyProof.Rows L2

/-! ### what a statement ends in -/
inductive Out where
  | nx (ρ : Rho) (C : Cells) | rt (d : D) (C : Cells) | bk (ρ : Rho) (C : Cells) | ct (ρ : Rho) (C : Cells) | ex (c : Str) (p : D) (ρ : Rho) (C : Cells) | stuck
def Res.out {α : Type} (r : Res α) (ρ : Rho) (g : α → Cells → Out) : Out := match r with
  | .ok a C => g a C
  | .ex c p C => .ex c p ρ C
  | .stuck => .stuck
@[simp] theorem Res.out_ok {α : Type} (a : α) (C : Cells) (ρ : Rho) (g : α → Cells → Out) : (Res.ok a C).out ρ g = g a C := rfl
@[simp] theorem Res.out_ex {α : Type} (c : Str) (p : D) (C : Cells) (ρ : Rho) (g : α → Cells → Out) : (Res.ex c p C : Res α).out ρ g = .ex c p ρ C := rfl
@[simp] theorem Res.out_stuck {α : Type} (ρ : Rho) (g : α → Cells → Out) : (Res.stuck : Res α).out ρ g = .stuck := rfl
def sd (K : PySem.W.Frag) (mg : Str → Option Value) (W : WX) (o : Out) (D : Ends) (μ : List Addr) (F H : Hp) : Prop := match o with
  | .nx ρ C => ∀ σ μ' F' H', Ext μ F H μ' F' H' → Sim K μ' F' C H' → ERel K μ' F' ρ σ → D.nx σ H'
  | .rt d C => ∀ v μ' F' H', Ext μ F H μ' F' H' → Sim K μ' F' C H' → Rep K μ' F' v d → D.rt v H'
  | .bk ρ C => ∀ σ μ' F' H', Ext μ F H μ' F' H' → Sim K μ' F' C H' → ERel K μ' F' ρ σ → D.bk σ H'
  | .ct ρ C => ∀ σ μ' F' H', Ext μ F H μ' F' H' → Sim K μ' F' C H' → ERel K μ' F' ρ σ → D.ct σ H'
  | .ex c p ρ C => ∀ cls dx σ μ' F' H', Ext μ F H μ' F' H' → Sim K μ' F' C H' → ERel K μ' F' ρ σ → XRep K mg μ' F' H' c p cls dx → W cls dx σ H'
  | .stuck => False
def rS (K : PySem.W.Frag) (mg : Str → Option Value) (W : WX) (f : Rho → Cells → Out) : TS := fun D σ H => ∃ ρ C μ F, Sim K μ F C H ∧ ERel K μ F ρ σ ∧ sd K mg W (f ρ C) D μ F H
abbrev BS (X : Cx) (W : WX) (st : Stmt) (f : Rho → Cells → Out) : Prop := PS X st (rS X.K X.mg W f)
abbrev BSs (X : Cx) (W : WX) (st : List Stmt) (f : Rho → Cells → Out) : Prop := PSs X st (rS X.K X.mg W f)
theorem psI {X : Cx} {e : Stmt} {t t' : TS} (h : PS X e t) (k : ∀ D σ H, t' D σ H → t D σ H) : PS X e t' := ⟨fun pins s σ H D I q => h.run pins s σ H D I (k D σ H q)⟩
theorem pssI {X : Cx} {e : List Stmt} {t t' : TS} (h : PSs X e t) (k : ∀ D σ H, t' D σ H → t D σ H) : PSs X e t' := ⟨fun pins s σ H D I q => h.run pins s σ H D I (k D σ H q)⟩
section
variable {α β : Type} {R : RR α β} {K : PySem.W.Frag} {mg : Str → Option Value} {W : WX} {μ μ' : List Addr} {F F' H H' : Hp} {C C' : Cells} {ρ : Rho} {σ : L2.St} {D : Ends} {o : Out}
theorem sd_mono (x : Ext μ F H μ' F' H') (h : sd K mg W o D μ F H) : sd K mg W o D μ' F' H' := by
  cases o with
  | nx ρ C => exact fun σ μ2 F2 H2 x2 => h σ μ2 F2 H2 (x.trans x2)
  | rt d C => exact fun σ μ2 F2 H2 x2 => h σ μ2 F2 H2 (x.trans x2)
  | bk ρ C => exact fun σ μ2 F2 H2 x2 => h σ μ2 F2 H2 (x.trans x2)
  | ct ρ C => exact fun σ μ2 F2 H2 x2 => h σ μ2 F2 H2 (x.trans x2)
  | ex c p ρ C => exact fun cls dx σ μ2 F2 H2 x2 => h cls dx σ μ2 F2 H2 (x.trans x2)
  | stuck => exact h
theorem sd_bind {r : Res α} {g : α → Cells → Out} {k : β → Hp → Prop} (E : ERel K μ F ρ σ) (h : sd K mg W (r.out ρ g) D μ F H)
    (hk : ∀ d C1 v μ1 F1 H1, Ext μ F H μ1 F1 H1 → Sim K μ1 F1 C1 H1 → R μ1 F1 v d → sd K mg W (g d C1) D μ1 F1 H1 → k v H1) : kd R K mg W r μ F σ H k := by
  cases r with
  | ok d C1 => exact fun v μ1 F1 H1 x1 s1 r1 => hk d C1 v μ1 F1 H1 x1 s1 r1 (sd_mono x1 h)
  | ex c p C1 => exact fun cls dx μ1 F1 H1 x1 s1 r1 => h cls dx σ μ1 F1 H1 x1 s1 (x1.env E) r1
  | stuck => exact h
theorem sd_nx (S : Sim K μ F C H) (E : ERel K μ F ρ σ) (h : sd K mg W (.nx ρ C) D μ F H) : D.nx σ H := h σ μ F H .refl S E
/-- one out behind another -/
def Out.then_ (o : Out) (k : Rho → Cells → Out) : Out := match o with
  | .nx ρ C => k ρ C
  | o => o
@[simp] theorem Out.then_nx (ρ : Rho) (C : Cells) (k : Rho → Cells → Out) : (Out.nx ρ C).then_ k = k ρ C := rfl
@[simp] theorem Out.then_rt (d : BV.D) (C : Cells) (k : Rho → Cells → Out) : (Out.rt d C).then_ k = .rt d C := rfl
@[simp] theorem Out.then_bk (ρ : Rho) (C : Cells) (k : Rho → Cells → Out) : (Out.bk ρ C).then_ k = .bk ρ C := rfl
@[simp] theorem Out.then_ct (ρ : Rho) (C : Cells) (k : Rho → Cells → Out) : (Out.ct ρ C).then_ k = .ct ρ C := rfl
@[simp] theorem Out.then_ex (c : Str) (p : BV.D) (ρ : Rho) (C : Cells) (k : Rho → Cells → Out) : (Out.ex c p ρ C).then_ k = .ex c p ρ C := rfl
@[simp] theorem Out.then_stuck (k : Rho → Cells → Out) : Out.stuck.then_ k = .stuck := rfl
theorem sd_then {k : Rho → Cells → Out} (h : sd K mg W (o.then_ k) D μ F H) : sd K mg W o { D with nx := rS K mg W k D } μ F H := by
  cases o with
  | nx ρ C => exact fun σ μ2 F2 H2 x2 s2 e2 => ⟨ρ, C, μ2, F2, s2, e2, sd_mono x2 h⟩
  | rt d C => exact h
  | bk ρ C => exact h
  | ct ρ C => exact h
  | ex c p ρ C => exact h
  | stuck => exact h
end

/-! ### statements -/
def sSeq (f g : Rho → Cells → Out) : Rho → Cells → Out := fun ρ C => (f ρ C).then_ g
def sNil : Rho → Cells → Out := fun ρ C => .nx ρ C
def sBk : Rho → Cells → Out := fun ρ C => .bk ρ C
def sCt : Rho → Cells → Out := fun ρ C => .ct ρ C
def sExpr (f : Rho → Cells → Res D) : Rho → Cells → Out := fun ρ C => (f ρ C).out ρ fun _ C1 => .nx ρ C1
def sRet (f : Rho → Cells → Res D) : Rho → Cells → Out := fun ρ C => (f ρ C).out ρ fun d C1 => .rt d C1
def sRetN : Rho → Cells → Out := fun _ C => .rt .non C
def sIf (t : Rho → Cells → Res D) (f g : Rho → Cells → Out) : Rho → Cells → Out := fun ρ C => (toB (t ρ C)).out ρ fun b C1 => if b then f ρ C1 else g ρ C1
def sNever : Rho → Cells → Out := fun _ _ => .stuck
def sSet (i : Nat) (f : Rho → Cells → Res D) : Rho → Cells → Out := fun ρ C => (f ρ C).out ρ fun d C1 => .nx (ρ.set i (some d)) C1
section
variable {X : Cx} {W : WX} {st : Stmt} {rest ss ss' : List Stmt} {e : Expr} {f g : Rho → Cells → Out} {fe ft : Rho → Cells → Res D} {pos : Pos}
theorem bss_nil : BSs X W [] sNil := by
  refine pssI pss_nil ?_
  rintro D σ H ⟨ρ, C, μ, F, S, E, k⟩
  exact sd_nx S E k
theorem bss_cons (h1 : BS X W st f) (h2 : BSs X W rest g) : BSs X W (st :: rest) (sSeq f g) := by
  refine pssI (pss_cons h1 h2) ?_
  rintro D σ H ⟨ρ, C, μ, F, S, E, k⟩
  exact ⟨ρ, C, μ, F, S, E, sd_then k⟩
theorem bss_one (h1 : BS X W st f) : BSs X W [st] f := pss_one h1
theorem bs_never : BS X W st sNever := by
  refine psI ps_never ?_
  rintro D σ H ⟨ρ, C, μ, F, S, E, k⟩
  exact k
theorem bs_pass : BS X W (.Pass pos) sNil := by
  refine psI ps_pass ?_
  rintro D σ H ⟨ρ, C, μ, F, S, E, k⟩
  exact sd_nx S E k
theorem bs_break : BS X W (.Break pos) sBk := by
  refine psI ps_break ?_
  rintro D σ H ⟨ρ, C, μ, F, S, E, k⟩
  exact k σ μ F H .refl S E
theorem bs_continue : BS X W (.Continue pos) sCt := by
  refine psI ps_continue ?_
  rintro D σ H ⟨ρ, C, μ, F, S, E, k⟩
  exact k σ μ F H .refl S E
theorem bs_expr (he : BE X W e fe) (hs : swapsWith e none pos.line X.env = pure false := by rfl) : BS X W (.Expr e pos) (sExpr fe) := by
  refine psI (ps_expr he hs) ?_
  rintro D σ H ⟨ρ, C, μ, F, S, E, k⟩
  exact ⟨ρ, C, μ, F, S, E, sd_bind E k fun d C1 v μ1 F1 H1 x1 s1 r1 h1 => sd_nx s1 (x1.env E) h1⟩
theorem bs_ret (he : BE X W e fe) : BS X W (.Return (some e) pos) (sRet fe) := by
  refine psI (ps_ret he) ?_
  rintro D σ H ⟨ρ, C, μ, F, S, E, k⟩
  exact ⟨ρ, C, μ, F, S, E, sd_bind E k fun d C1 v μ1 F1 H1 x1 s1 r1 h1 => h1 v μ1 F1 H1 .refl s1 r1⟩
theorem bs_retN : BS X W (.Return none pos) sRetN := by
  refine psI ps_retN ?_
  rintro D σ H ⟨ρ, C, μ, F, S, E, k⟩
  exact k _ μ F H .refl S .non
theorem bs_if (hc : BT X W e ft) (ha : BSs X W ss f) (hb : BSs X W ss' g) : BS X W (.If e ss ss' pos) (sIf ft f g) := by
  refine psI (ps_if hc ha hb) ?_
  rintro D σ H ⟨ρ, C, μ, F, S, E, k⟩
  refine ⟨ρ, C, μ, F, S, E, sd_bind (R := RB) E k fun b C1 v μ1 F1 H1 x1 s1 r1 h1 => ?_⟩
  subst r1
  cases v with
  | true => exact iteT ⟨ρ, C1, μ1, F1, s1, x1.env E, h1⟩
  | false => exact iteF ⟨ρ, C1, μ1, F1, s1, x1.env E, h1⟩
theorem bs_set {i : Nat} {x : Str} {pos' : Pos} (hN : X.N.Nodup) (hi : X.N[i]? = some x) (hx : Loc X.env.scope x) (he : BE X W e fe) (hs : swapsWith e (some (.Name x pos')) pos.line X.env = pure false := by rfl)
    (hf : X.fn x = true ∨ X.env.scope.names.lookup x = some .local := by first | exact .inl rfl | exact .inr rfl | assumption) : BS X W (.Assign [.Name x pos'] e pos) (sSet i fe) := by
  refine psI (ps_set hN hi hx he hs hf) ?_
  rintro D σ H ⟨ρ, C, μ, F, S, E, k⟩
  exact ⟨ρ, C, μ, F, S, E, sd_bind E k fun d C1 v μ1 F1 H1 x1 s1 r1 h1 => sd_nx s1 ((x1.env E).set r1) h1⟩

/-! ### targets -/
/-- what a target does with a datum: t the new slots; ns: the slots that it stores -/
def rG (K : PySem.W.Frag) (t : D → Rho → Option Rho) (ns : List Nat) : TG := fun v σ H Q => ∃ ρ C μ F d ρ', Sim K μ F C H ∧ ERel K μ F ρ σ ∧ Rep K μ F v d ∧ t d ρ = some ρ' ∧
  ∀ σ', ERel K μ F ρ' σ' → (∀ vs, (∀ i ∈ ns, i ∈ vs) → wipe σ' vs = wipe σ vs) → Q σ' H
def rGs (K : PySem.W.Frag) (t : List D → Rho → Option Rho) (ns : List Nat) : TGs := fun v σ H Q => ∃ ρ C μ F d ρ', Sim K μ F C H ∧ ERel K μ F ρ σ ∧ Reps K μ F v d ∧ t d ρ = some ρ' ∧
  ∀ σ', ERel K μ F ρ' σ' → (∀ vs, (∀ i ∈ ns, i ∈ vs) → wipe σ' vs = wipe σ vs) → Q σ' H
abbrev BG (X : Cx) (tg : Expr) (t : D → Rho → Option Rho) (ns : List Nat) : Prop := PG X tg (rG X.K t ns)
abbrev BGs (X : Cx) (tg : List Expr) (t : List D → Rho → Option Rho) (ns : List Nat) : Prop := PGs X tg (rGs X.K t ns)
theorem pgI {tg : Expr} {t t' : TG} (h : PG X tg t) (k : ∀ v σ H Q, t' v σ H Q → t v σ H Q) : PG X tg t' := ⟨fun pins s σ H v u Q I r q => h.run pins s σ H v u Q I r (k v σ H Q q)⟩
theorem pgsI {tg : List Expr} {t t' : TGs} (h : PGs X tg t) (k : ∀ v σ H Q, t' v σ H Q → t v σ H Q) : PGs X tg t' := ⟨fun pins s σ H v u Q I r q => h.run pins s σ H v u Q I r (k v σ H Q q)⟩
def tgN (i : Nat) (d : D) (ρ : Rho) : Option Rho := some (ρ.set i (some d))
theorem wipe_none {σ : L2.St} {i : Nat} : ∀ {vs : List Nat}, i ∈ vs → (wipe σ vs).set i none = wipe σ vs
  | [], h => nomatch h
  | v :: vs, h => by
    unfold wipe
    rcases List.mem_cons.mp h with e | h
    · subst e
      rw [List.set_set]
    · by_cases e : i = v
      · subst e
        rw [List.set_set]
      · rw [List.set_comm _ _ (Ne.symm e), wipe_none h]
theorem wipe_set {σ : L2.St} {i : Nat} {o : Option V} : ∀ {vs : List Nat}, i ∈ vs → wipe (σ.set i o) vs = wipe σ vs
  | [], h => nomatch h
  | v :: vs, h => by
    have key : ∀ ws : List Nat, (wipe (σ.set i o) ws).set i none = (wipe σ ws).set i none := by
      intro ws
      induction ws with
      | nil => simp [wipe, List.set_set]
      | cons w ws ih =>
        simp only [wipe]
        by_cases e : w = i
        · subst e
          rw [List.set_set, List.set_set]
          exact ih
        · rw [List.set_comm _ _ e, ih, List.set_comm _ _ (Ne.symm e)]
    unfold wipe
    rcases List.mem_cons.mp h with e | h
    · subst e
      exact key vs
    · rw [wipe_set h]
theorem bg_name {i : Nat} {x : Str} {p : Pos} (h : PG X (.Name x p) (gName i)) : BG X (.Name x p) (tgN i) [i] := by
  refine pgI h ?_
  rintro v σ H Q ⟨ρ, C, μ, F, d, ρ', S, E, r, e, k⟩
  cases e
  exact k _ (E.set r) fun vs hv => wipe_set (hv i (by simp))
def tgNil (ds : List D) (ρ : Rho) : Option Rho := match ds with
  | [] => some ρ
  | _ => none
def tgCons (t : D → Rho → Option Rho) (ts : List D → Rho → Option Rho) (ds : List D) (ρ : Rho) : Option Rho := match ds with
  | d :: r => (t d ρ).bind fun ρ1 => ts r ρ1
  | [] => none
def tgT (n : Nat) (ts : List D → Rho → Option Rho) (d : D) (ρ : Rho) : Option Rho := match d with
  | .tup ds => if ds.length = n then ts ds ρ else none
  | _ => none
theorem bgs_nil : BGs X [] tgNil [] := by
  refine pgsI pgs_nil ?_
  rintro v σ H Q ⟨ρ, C, μ, F, d, ρ', S, E, r, e, k⟩
  unfold tgNil at e
  split at e
  · cases e
    cases r
    exact ⟨rfl, k σ E fun _ _ => rfl⟩
  · cases e
theorem bgs_cons {x : Expr} {xs : List Expr} {t : D → Rho → Option Rho} {ts : List D → Rho → Option Rho} {n1 n2 : List Nat} (h1 : BG X x t n1) (h2 : BGs X xs ts n2)
    (hs : (assignEach (x :: xs) X.env).map (·.2) = assign x X.env :: (assignEach xs X.env).map (·.2) := by rfl) : BGs X (x :: xs) (tgCons t ts) (n1 ++ n2) := by
  refine pgsI (pgs_cons h1 h2 hs) ?_
  rintro v σ H Q ⟨ρ, C, μ, F, d, ρ', S, E, r, e, k⟩
  unfold tgCons at e
  split at e
  · simp only [Option.bind_eq_some_iff] at e
    obtain ⟨ρ1, e1, e2⟩ := e
    cases r with
    | cons a b =>
      refine ⟨_, _, rfl, ρ, C, μ, F, _, ρ1, S, E, a, e1, fun σ1 E1 w1 => ⟨ρ1, C, μ, F, _, ρ', S, E1, b, e2, fun σ2 E2 w2 => k σ2 E2 fun vs hv => ?_⟩⟩
      rw [w2 vs fun i hi => hv i (List.mem_append_right _ hi), w1 vs fun i hi => hv i (List.mem_append_left _ hi)]
  · cases e
theorem bg_tup {es : List Expr} {j : Nat} {p : Pos} {ts : List D → Rho → Option Rho} {n : Nat} {ns : List Nat} (hc : X.calm = true) (h : BGs X es ts ns) (hn : (assignEach es X.env).length = n := by rfl) (hst : (assignEach es X.env).findIdx? (·.1) = none := by rfl) :
    BG X (.Tuple es j p) (tgT n ts) ns := by
  refine pgI (pg_tup hc h hn hst) ?_
  rintro v σ H Q ⟨ρ, C, μ, F, d, ρ', S, E, r, e, k⟩
  unfold tgT at e
  split at e
  · split at e
    · rename_i z
      cases r with
      | tup a b =>
        rw [← b.length] at z
        exact ⟨_, _, rfl, sameT S.sub a, z, ρ, C, μ, F, _, ρ', S, E, b, e, k⟩
    · cases e
  · cases e
def sAsg (f : Rho → Cells → Res D) (t : D → Rho → Option Rho) : Rho → Cells → Out := fun ρ C => (f ρ C).out ρ fun d C1 => match t d ρ with
  | some ρ' => .nx ρ' C1
  | none => .stuck
theorem bs_asg {tg : Expr} {t : D → Rho → Option Rho} {ns : List Nat} (he : BE X W e fe) (hg : BG X tg t ns) (hs : swapsWithSole [tg] e pos.line X.env = pure false := by rfl) (hw : swappedStores [tg] e X.env = pure none := by rfl)
    (h1 : (assignEach [tg] X.env).map (·.2) = [assign tg X.env] := by rfl) : BS X W (.Assign [tg] e pos) (sAsg fe t) := by
  refine psI (ps_asg he hg hs hw h1) ?_
  rintro D σ H ⟨ρ, C, μ, F, S, E, k⟩
  refine ⟨ρ, C, μ, F, S, E, sd_bind E k fun d C1 v μ1 F1 H1 x1 s1 r1 h1 => ?_⟩
  split at h1
  · rename_i ρ' e1
    exact ⟨ρ, C1, μ1, F1, d, ρ', s1, x1.env E, r1, e1, fun σ' E' _ => sd_nx s1 E' h1⟩
  · exact h1.elim
def sPar (i j : Nat) (fs : Rho → Cells → Res (List BV.D)) : Rho → Cells → Out := fun ρ C => (fs ρ C).out ρ fun ds C1 => match ds with
  | [x, y] => .nx ((ρ.set i (some x)).set j (some y)) C1
  | _ => .stuck
theorem bs_par {i j : Nat} {x y : Str} {a b : Expr} {fs : Rho → Cells → Res (List D)} {px py pt : Pos} {kt k2 pt2} (hc : X.calm = true) (hN : X.N.Nodup) (hi : X.N[i]? = some x) (hj : X.N[j]? = some y) (hij : i ≠ j)
    (hx : X.env.scope.names.lookup x = some .local) (hy : X.env.scope.names.lookup y = some .local) (ha : BA X W [a, b] fs)
    (hw : swappedStores [.Tuple [.Name x px, .Name y py] kt pt] (.Tuple [a, b] k2 pt2) X.env = pure (some [x, y]))
    (hs : swapsWithSole [.Tuple [.Name x px, .Name y py] kt pt] (.Tuple [a, b] k2 pt2) pos.line X.env = pure false := by rfl) : BS X W (.Assign [.Tuple [.Name x px, .Name y py] kt pt] (.Tuple [a, b] k2 pt2) pos) (sPar i j fs) := by
  refine psI (ps_par hc hN hi hj hij hx hy ha hw hs) ?_
  rintro D σ H ⟨ρ, C, μ, F, S, E, k⟩
  refine ⟨ρ, C, μ, F, S, E, sd_bind E k fun d C1 v μ1 F1 H1 x1 s1 r1 h1 => ?_⟩
  split at h1
  · obtain ⟨v1, v2, rfl, q1, q2⟩ := reps2 r1
    exact ⟨v1, v2, rfl, sd_nx s1 (((x1.env E).set q1).set q2) h1⟩
  · exact h1.elim
def sPar3 (i j l : Nat) (fs : Rho → Cells → Res (List BV.D)) : Rho → Cells → Out := fun ρ C => (fs ρ C).out ρ fun ds C1 => match ds with
  | [x, y, z] => .nx (((ρ.set i (some x)).set j (some y)).set l (some z)) C1
  | _ => .stuck
theorem bs_par3 {i j l : Nat} {x y z : Str} {a b c : Expr} {fs : Rho → Cells → Res (List D)} {px py pz pt : Pos} {kt k2 pt2} (h : PS X (.Assign [.Tuple [.Name x px, .Name y py, .Name z pz] kt pt] (.Tuple [a, b, c] k2 pt2) pos) (tPar3 i j l (rA X.K X.mg W fs))) :
    BS X W (.Assign [.Tuple [.Name x px, .Name y py, .Name z pz] kt pt] (.Tuple [a, b, c] k2 pt2) pos) (sPar3 i j l fs) := by
  refine psI h ?_
  rintro D σ H ⟨ρ, C, μ, F, S, E, k⟩
  refine ⟨ρ, C, μ, F, S, E, sd_bind E k fun d C1 v μ1 F1 H1 x1 s1 r1 h1 => ?_⟩
  split at h1
  · cases r1 with
    | cons q1 r1 =>
      obtain ⟨v2, v3, rfl, q2, q3⟩ := reps2 r1
      exact ⟨_, v2, v3, rfl, sd_nx s1 ((((x1.env E).set q1).set q2).set q3) h1⟩
  · exact h1.elim
/-- xs[i] = v -/
def stoD (x i v : BV.D) (C : Cells) : Option Cells := match x, i with
  | .cel k, .int n => match C[k]? with
    | some (.lst ds) => match ixN ds.length n with
      | some j => some (C.set k (.lst (ds.set j v)))
      | none => none
    | _ => none
  | _, _ => none
def sSto (f fo fi : Rho → Cells → Res BV.D) : Rho → Cells → Out := fun ρ C => (f ρ C).out ρ fun v C1 => (fo ρ C1).out ρ fun x C2 => (fi ρ C2).out ρ fun i C3 => match stoD x i v C3 with
  | some C4 => .nx ρ C4
  | none => .stuck
theorem sto_rep {K : PySem.W.Frag} {μ : List Addr} {F H : Hp} {C C' : Cells} {x i v : D} {vx vi vv : V} (S : Sim K μ F C H) (rx : Rep K μ F vx x) (ri : Rep K μ F vi i) (rv : Rep K μ F vv v) (e : stoD x i v C = some C') :
    ∃ p xs k j, vx = .ref p ∧ vi = .int k ∧ H p = some (.lst xs) ∧ ixN xs.length k = some j ∧ Sim K μ F C' (upd H p (.lst (xs.set j vv))) ∧ Ext μ F H μ F (upd H p (.lst (xs.set j vv))) := by
  unfold stoD at e
  split at e
  · split at e
    · rename_i ds hk
      split at e
      · rename_i j hj
        cases e
        cases rx with
        | cel a =>
          cases ri
          obtain ⟨f, vs, g, r⟩ := S.cel _ _ _ hk a
          rw [← r.length] at hj
          obtain ⟨S1, X1⟩ := S.write hk a (r.set rv j)
          exact ⟨_, vs, _, j, rfl, rfl, g, hj, S1, X1⟩
      · cases e
    · cases e
  · cases e
theorem bs_sto {o i : Expr} {p2 : Pos} {fo fi : Rho → Cells → Res D} (hv : BE X W e fe) (ho : BE X W o fo) (hi : BE X W i fi)
    (ha : ∀ v, assign (.Subscript o i p2) X.env v = (do
      let ov ← holding [v] (eval o X.env)
      let iv ← holding [v, ov] (eval i X.env)
      standAt p2
      holding [v, ov, iv] (setItem ov iv v)
      release [v, ov, iv] []) := by intro _; rfl)
    (hs : swapsWithSole [.Subscript o i p2] e pos.line X.env = pure false := by rfl) (hw : swappedStores [.Subscript o i p2] e X.env = pure none := by rfl)
    (h1 : (assignEach [.Subscript o i p2] X.env).map (·.2) = [assign (.Subscript o i p2) X.env] := by rfl) : BS X W (.Assign [.Subscript o i p2] e pos) (sSto fe fo fi) := by
  refine psI (ps_asg hv (pg_sub ho hi set_list ha) hs hw h1) ?_
  rintro D σ H ⟨ρ, C, μ, F, S, E, k⟩
  refine ⟨ρ, C, μ, F, S, E, sd_bind E k fun d C1 v μ1 F1 H1 x1 s1 r1 h1 => ?_⟩
  refine ⟨ρ, C1, μ1, F1, s1, x1.env E, sd_bind (x1.env E) h1 fun d2 C2 v2 μ2 F2 H2 x2 s2 r2 h2 => ?_⟩
  refine ⟨ρ, C2, μ2, F2, s2, x2.env (x1.env E), sd_bind (x2.env (x1.env E)) h2 fun d3 C3 v3 μ3 F3 H3 x3 s3 r3 h3 => ?_⟩
  split at h3
  · rename_i C4 e4
    obtain ⟨p, xs, k', j, q1, q2, q3, q4, S4, X4⟩ := sto_rep s3 (x3.rep r2) r3 (x3.rep (x2.rep r1)) e4
    exact ⟨p, xs, k', j, q1, q2, q3, q4, h3 σ μ3 F3 _ X4 S4 (X4.env (x3.env (x2.env (x1.env E))))⟩
  · exact h3.elim

/-! ### methods of lists -/
def fMt1 (o : BV.D → BV.D → Cells → Res BV.D) (f g : Rho → Cells → Res BV.D) : Rho → Cells → Res BV.D := fun ρ C => (f ρ C).bind fun x C1 => match asL x C1 with
  | some _ => (g ρ C1).bind fun v C2 => o x v C2
  | none => .stuck
theorem tyL {K : PySem.W.Frag} {μ : List Addr} {F H : Hp} {C : Cells} {x : BV.D} {v : V} {ds : List BV.D} (S : Sim K μ F C H) (r : Rep K μ F v x) (e : asL x C = some ds) : tyV K "list" v H := by
  obtain ⟨a, vs, rfl, g, _⟩ := asL_rep S r e
  exact .inl ⟨rfl, vs, SqL.of g⟩
def appD (x v : BV.D) (C : Cells) : Res BV.D := match x with
  | .cel k => match C[k]? with
    | some (.lst ds) => if ds.length < sizeLine then .ok .non (C.set k (.lst (ds ++ [v]))) else .stuck
    | _ => .stuck
  | _ => .stuck
def extD (x v : BV.D) (C : Cells) : Res BV.D := match x, asL v C with
  | .cel k, some es => match C[k]? with
    | some (.lst ds) => if ds.length + es.length ≤ sizeLine then .ok .non (C.set k (.lst (ds ++ es))) else .stuck
    | _ => .stuck
  | _, _ => .stuck
variable {a b : Expr} {fa fb : Rho → Cells → Res BV.D} {apos : Pos}
theorem be_app (ha : BE X W a fa) (hb : BE X W b fb) (h : ∀ {ta tb : TE}, PE X a ta → PE X b tb → PE X (.Call (.Attribute a "append" apos) [b] [] pos) (tBM X.K "list" rAppend ta (tCons tb tNil))) :
    BE X W (.Call (.Attribute a "append" apos) [b] [] pos) (fMt1 appD fa fb) := by
  refine peI (h ha hb) ?_
  rintro σ H Q ⟨ρ, C, μ, F, S, E, k⟩
  refine ⟨ρ, C, μ, F, S, E, kd_bind k fun d C1 v μ1 F1 H1 x1 s1 r1 h1 => ?_⟩
  split at h1
  · rename_i ds e1
    refine ⟨tyL s1 r1 e1, ρ, C1, μ1, F1, s1, x1.env E, kd_bind h1 fun d2 C2 v2 μ2 F2 H2 x2 s2 r2 h2 => ?_⟩
    unfold appD at h2
    split at h2
    · split at h2
      · rename_i ds' hk
        split at h2
        · rename_i z
          have r3 := x2.rep r1
          cases r3 with
          | cel a' =>
            obtain ⟨f', vs, g, r⟩ := s2.cel _ _ _ hk a'
            obtain ⟨S3, X3⟩ := s2.write hk a' (r.append (.cons r2 .nil))
            rw [← r.length] at z
            exact ⟨_, vs, v2, rfl, rfl, g, z, h2 _ _ _ _ X3 S3 .non⟩
        · exact h2.elim
      · exact h2.elim
    · exact h2.elim
  · exact h1.elim
theorem be_ext (ha : BE X W a fa) (hb : BE X W b fb) (h : ∀ {ta tb : TE}, PE X a ta → PE X b tb → PE X (.Call (.Attribute a "extend" apos) [b] [] pos) (tBM X.K "list" rExtend ta (tCons tb tNil))) :
    BE X W (.Call (.Attribute a "extend" apos) [b] [] pos) (fMt1 extD fa fb) := by
  refine peI (h ha hb) ?_
  rintro σ H Q ⟨ρ, C, μ, F, S, E, k⟩
  refine ⟨ρ, C, μ, F, S, E, kd_bind k fun d C1 v μ1 F1 H1 x1 s1 r1 h1 => ?_⟩
  split at h1
  · rename_i ds e1
    refine ⟨tyL s1 r1 e1, ρ, C1, μ1, F1, s1, x1.env E, kd_bind h1 fun d2 C2 v2 μ2 F2 H2 x2 s2 r2 h2 => ?_⟩
    unfold extD at h2
    split at h2
    · rename_i k' es e2
      split at h2
      · rename_i ds' hk
        split at h2
        · rename_i z
          have r3 := x2.rep r1
          obtain ⟨b', ws, rfl, g2, rs2⟩ := asL_rep s2 r2 e2
          cases r3 with
          | cel a' =>
            obtain ⟨f', vs, g, r⟩ := s2.cel _ _ _ hk a'
            obtain ⟨S3, X3⟩ := s2.write hk a' (r.append rs2)
            rw [← r.length, ← rs2.length] at z
            exact ⟨_, b', vs, ws, rfl, rfl, g, g2, z, h2 _ _ _ _ X3 S3 .non⟩
        · exact h2.elim
      · exact h2.elim
    · exact h2.elim
  · exact h1.elim
end
end BV
namespace BV
open PySem PySem.Spec PyProof.Rows L2

/-! ### what is walked -/
/-- the iterator J yields the data ds, one a turn, whatever else happens -/
structure WkD (K : PySem.W.Frag) (J : It) (μ : List Addr) (F : Hp) (ds : List D) : Prop where
  go : ∀ i μ2 F2 C2 H2, i < ds.length → (∃ τ, μ2 = μ ++ τ) → Same F F2 → Sim K μ2 F2 C2 H2 → J.go i H2 ∧ ∀ x H3, J.yld i H2 x H3 → ∃ F3 d, Ext μ2 F2 H2 μ2 F3 H3 ∧ Sim K μ2 F3 C2 H3 ∧ ds[i]? = some d ∧ Rep K μ2 F3 x d
  stop : ∀ μ2 F2 C2 H2, (∃ τ, μ2 = μ ++ τ) → Same F F2 → Sim K μ2 F2 C2 H2 → J.stop ds.length H2
/-- .. the k-th cell's content, as it stands at each turn; its length stays n -/
structure WkC (K : PySem.W.Frag) (J : It) (μ : List Addr) (F : Hp) (k n : Nat) : Prop where
  go : ∀ i μ2 F2 C2 H2 ds, i < n → (∃ τ, μ2 = μ ++ τ) → Same F F2 → Sim K μ2 F2 C2 H2 → C2[k]? = some (.lst ds) → ds.length = n → J.go i H2 ∧ ∀ x H3, J.yld i H2 x H3 → H3 = H2 ∧ ∃ d, ds[i]? = some d ∧ Rep K μ2 F2 x d
  stop : ∀ μ2 F2 C2 H2 ds, (∃ τ, μ2 = μ ++ τ) → Same F F2 → Sim K μ2 F2 C2 H2 → C2[k]? = some (.lst ds) → ds.length = n → J.stop n H2
inductive Src where
  | fix (ds : List D) | cel (k n : Nat)
def WkS (K : PySem.W.Frag) (J : It) (μ : List Addr) (F : Hp) : Src → Prop
  | .fix ds => WkD K J μ F ds
  | .cel k n => WkC K J μ F k n
abbrev RI (K : PySem.W.Frag) : RR Src It := fun μ F J ds => WkS K J μ F ds
def rI (K : PySem.W.Frag) (mg : Str → Option Value) (W : WX) (f : Rho → Cells → Res Src) : TI := fun σ H R => ∃ ρ C μ F, Sim K μ F C H ∧ ERel K μ F ρ σ ∧ kd (RI K) K mg W (f ρ C) μ F σ H R
abbrev BI (X : Cx) (W : WX) (tg it : Expr) (f : Rho → Cells → Res Src) : Prop := PI X tg it (rI X.K X.mg W f)
theorem piI {X : Cx} {tg it : Expr} {t t' : TI} (h : PI X tg it t) (k : ∀ σ H R, t' σ H R → t σ H R) : PI X tg it t' := ⟨fun pins s σ H R I q => h.run pins s σ H R I (k σ H R q)⟩
/-- a frozen sequence -/
def asF (d : D) : Option (List D) := match d with
  | .lst ds => some ds
  | .tup ds => some ds
  | .scr ns => some (ns.map .int)
  | _ => none
def cLen (k : Nat) (C : Cells) : Option Nat := match C[k]? with
  | some (.lst ds) => some ds.length
  | _ => none
def iSeq (f : Rho → Cells → Res D) : Rho → Cells → Res Src := fun ρ C => (f ρ C).bind fun d C1 => match d with
  | .lst ds => .ok (.fix ds) C1
  | .tup ds => .ok (.fix ds) C1
  | .scr ns => .ok (.fix (ns.map .int)) C1
  | .cel k => match cLen k C1 with
    | some n => .ok (.cel k n) C1
    | none => .stuck
  | _ => .stuck
section
variable {K : PySem.W.Frag} {μ : List Addr} {F : Hp} {a : Addr} {vs : List V} {ds : List D}
theorem wk_list (h : SqL K F a vs) (r : Reps K μ F vs ds) : WkD K (Itl K a) μ F ds := by
  refine ⟨fun i μ2 F2 C2 H2 hi hp hs S => ?_, fun μ2 F2 C2 H2 hp hs S => ?_⟩
  · have q : SqL K H2 a vs := S.sub.seq (hs.seq h)
    have hv : i < vs.length := by rw [r.length]; exact hi
    refine ⟨⟨vs, vs[i], q, by simp [hv]⟩, fun x H3 y => ?_⟩
    obtain ⟨e, y⟩ := y
    subst e
    obtain ⟨d, e1, r1⟩ := r.getV (y vs q)
    exact ⟨F2, d, .refl, S, e1, Rep.mono hp hs _ _ r1⟩
  · exact ⟨vs, S.sub.seq (hs.seq h), by rw [r.length]; exact Nat.le_refl _⟩
theorem wk_tup (h : SqT K F a vs) (r : Reps K μ F vs ds) : WkD K (Itt K a) μ F ds := by
  refine ⟨fun i μ2 F2 C2 H2 hi hp hs S => ?_, fun μ2 F2 C2 H2 hp hs S => ?_⟩
  · have q : SqT K H2 a vs := sameT S.sub (sameT hs h)
    have hv : i < vs.length := by rw [r.length]; exact hi
    refine ⟨⟨vs, vs[i], q, by simp [hv]⟩, fun x H3 y => ?_⟩
    obtain ⟨e, y⟩ := y
    subst e
    obtain ⟨d, e1, r1⟩ := r.getV (y vs q)
    exact ⟨F2, d, .refl, S, e1, Rep.mono hp hs _ _ r1⟩
  · exact ⟨vs, sameT S.sub (sameT hs h), by rw [r.length]; exact Nat.le_refl _⟩
theorem wk_cel {k n : Nat} (h : μ[k]? = some a) : WkC K (Itl K a) μ F k n := by
  refine ⟨fun i μ2 F2 C2 H2 ds hi hp hs S hk hn => ?_, fun μ2 F2 C2 H2 ds hp hs S hk hn => ?_⟩
  · obtain ⟨τ, e⟩ := hp
    obtain ⟨_, vs, g, r⟩ := S.cel k _ _ hk (pre_get e h)
    have q : SqL K H2 a vs := SqL.of g
    have hv : i < vs.length := by rw [r.length, hn]; exact hi
    refine ⟨⟨vs, vs[i], q, by simp [hv]⟩, fun x H3 y => ?_⟩
    obtain ⟨e, y⟩ := y
    obtain ⟨d, e1, r1⟩ := r.getV (y vs q)
    exact ⟨e, d, e1, r1⟩
  · obtain ⟨τ, e⟩ := hp
    obtain ⟨_, vs, g, r⟩ := S.cel k _ _ hk (pre_get e h)
    exact ⟨vs, SqL.of g, by rw [r.length, hn]; exact Nat.le_refl _⟩
theorem wk_range (lo : Int) (n : Nat) : WkD K (Itr lo n) μ F ((List.range n).map fun (i : Nat) => D.int (lo + (i : Nat))) := by
  refine ⟨fun i μ2 F2 C2 H2 hi hp hs S => ⟨(by show i < n; simpa using hi), fun x H3 y => ?_⟩, fun μ2 F2 C2 H2 hp hs S => ?_⟩
  · obtain ⟨e, y⟩ := y
    subst e y
    have hi' : i < n := by simpa using hi
    exact ⟨F2, .int (lo + (i : Nat)), .refl, S, by simp [hi'], .int _⟩
  · show n ≤ _
    simp
end
section
variable {X : Cx} {W : WX} {tg e a b : Expr} {f g : Rho → Cells → Res D} {p pos : Pos}
theorem bi_seq (he : BE X W e f) : BI X W tg e (iSeq f) := by
  have key : PI X tg e (fun σ H R => ∃ ρ C μ F, Sim X.K μ F C H ∧ ERel X.K μ F ρ σ ∧ kd (RI X.K) X.K X.mg W (iSeq f ρ C) μ F σ H R) := by
    refine ⟨fun pins s σ H R I h => ?_⟩
    have hl : ∀ (xs : List V) (a : Addr) (s1 : Shared) (H1 : Hp), Inv X pins σ H1 s1 → SqL X.K H1 a xs → R (Itl X.K a) H1 → wpAny (model X.prog X.w) X.A (pyIter (.ref a)) (PIE X pins σ tg R) X.xe s1 := fun xs a s1 H1 I1 q r1 => by
      obtain ⟨its, _, pl, _⟩ := I1.list q
      refine wpAny_pyIter_list pl.isList ⟨_, [s1.heap.objs.size], _, _, H1, rfl, I1.kept (t' := s1.toks) (fun b o z => Heap.get?_push_of_some _ z), turn_list a _, ⟨_, Heap.get?_push_size _ rfl, rfl, rfl⟩, fun b hb => ?_, r1⟩
      rw [show b = s1.heap.objs.size from by simpa using hb]
      exact I1.fpOk (Nat.le_refl _) (I1.hok.fresh (Nat.le_refl _))
    have ht : ∀ (xs : List V) (a : Addr) (s1 : Shared) (H1 : Hp), Inv X pins σ H1 s1 → SqT X.K H1 a xs → R (Itt X.K a) H1 → wpAny (model X.prog X.w) X.A (pyIter (.ref a)) (PIE X pins σ tg R) X.xe s1 := fun xs a s1 H1 I1 q r1 => by
      obtain ⟨its, _, pl, _⟩ := I1.tuple q
      refine wpAny_pyIter_tuple (show s1.heap.IsTuple a its.toArray from pl) ⟨_, [s1.heap.objs.size], _, _, H1, rfl, I1.kept (t' := s1.toks) (fun b o z => Heap.get?_push_of_some _ z), turn_tuple a _, ⟨_, Heap.get?_push_size _ rfl, rfl, rfl⟩, fun b hb => ?_, r1⟩
      rw [show b = s1.heap.objs.size from by simpa using hb]
      exact I1.fpOk (Nat.le_refl _) (I1.hok.fresh (Nat.le_refl _))
    obtain ⟨ρ, C, μ, F, S, E, k⟩ := h
    have k2 : rE X.K X.mg W f σ H (fun v H1 => ∃ a xs, v = .ref a ∧ ((SqL X.K H1 a xs ∧ R (Itl X.K a) H1) ∨ (SqT X.K H1 a xs ∧ R (Itt X.K a) H1))) := by
      refine ⟨ρ, C, μ, F, S, E, kd_bind k fun d C1 v μ1 F1 H1 x1 s1 r1 h1 => ?_⟩
      cases d with
      | lst ds =>
        cases r1 with
        | lst q1 q2 => exact ⟨_, _, rfl, .inl ⟨SqL.of (s1.sub _ _ q1), kd_ret s1 (wk_list (SqL.of q1) q2) h1⟩⟩
      | tup ds =>
        cases r1 with
        | tup q1 q2 => exact ⟨_, _, rfl, .inr ⟨sameT s1.sub q1, kd_ret s1 (wk_tup q1 q2) h1⟩⟩
      | scr ns =>
        cases r1 with
        | scr q1 => exact ⟨_, _, rfl, .inl ⟨s1.sub.seq q1, kd_ret s1 (wk_list q1 (Reps.ints _)) h1⟩⟩
      | cel k =>
        cases r1 with
        | cel q1 =>
          simp only at h1
          split at h1
          · rename_i n en
            unfold cLen at en
            split at en
            · rename_i ds hk
              obtain ⟨_, vs, g, r⟩ := s1.cel k _ _ hk q1
              exact ⟨_, vs, rfl, .inl ⟨SqL.of g, kd_ret s1 (wk_cel q1) h1⟩⟩
            · cases en
          · exact h1.elim
      | _ => exact h1.elim
    refine thn (he.run pins s σ H _ I k2) fun v s1 ⟨x, H1, I1, r1, a, xs, ex, q⟩ => ?_
    subst ex
    cases r1
    rcases q with ⟨q, r⟩ | ⟨q, r⟩
    · exact hl xs a s1 H1 I1 q r
    · exact ht xs a s1 H1 I1 q r
  exact key
def iRg (fr : Rho → Cells → Res (Int × Int)) : Rho → Cells → Res Src := fun ρ C => (fr ρ C).bind fun p C1 => if RgOk p.1 p.2 then .ok (.fix (rg p.1 p.2)) C1 else .stuck
theorem bi_range1 (hg : Gl X "range") (hm : X.mg "range" = none) (ha : BE X W a f) (na : starEach [a] X.env = [(false, eval a X.env)] := by rfl) : BI X W tg (.Call (.Name "range" p) [a] [] pos) (iRg (rg1 f)) := by
  refine piI (pi_range1 hg hm (pa_cons ha pa_nil na) na) ?_
  rintro σ H R ⟨ρ, C, μ, F, S, E, k⟩
  unfold iRg rg1 at k
  have k' : kd (RI X.K) X.K X.mg W ((f ρ C).bind fun d C1 => match d with | .int j => if RgOk 0 j then .ok (.fix (rg 0 j)) C1 else .stuck | _ => .stuck) μ F σ H R := by
    cases hf : f ρ C with
    | ok d C1 =>
      rw [hf] at k
      cases d <;> exact k
    | ex c p C1 =>
      rw [hf] at k
      exact k
    | stuck =>
      rw [hf] at k
      exact k
  refine ⟨ρ, C, μ, F, S, E, kd_bind k' fun d C1 v μ1 F1 H1 x1 s1 r1 h1 => ?_⟩
  cases d with
  | int j =>
    cases r1
    simp only at h1
    split at h1
    · rename_i z
      refine ⟨j, rfl, z.2.2.1, z.2.2.2.1, kd_ret s1 ?_ h1⟩
      have := wk_range (K := X.K) (μ := μ1) (F := F1) 0 j.toNat
      show WkD _ _ _ _ (rg 0 j)
      unfold rg
      rw [show (j - 0).toNat = j.toNat from by omega]
      exact this
    · exact h1.elim
  | _ => exact False.elim h1
theorem bi_range2 (hg : Gl X "range") (hm : X.mg "range" = none) (ha : BE X W a f) (hb : BE X W b g) (na : starEach [a, b] X.env = [(false, eval a X.env), (false, eval b X.env)] := by rfl) (nb : starEach [b] X.env = [(false, eval b X.env)] := by rfl) :
    BI X W tg (.Call (.Name "range" p) [a, b] [] pos) (iRg (rg2 f g)) := by
  refine piI (pi_range2 hg hm (pa_cons ha (pa_cons hb pa_nil nb) (by rw [na, nb])) na nb) ?_
  rintro σ H R ⟨ρ, C, μ, F, S, E, k⟩
  unfold iRg rg2 at k
  have k' : kd (RI X.K) X.K X.mg W ((f ρ C).bind fun d C1 => (g ρ C1).bind fun d2 C2 => match d, d2 with | .int i, .int j => if RgOk i j then .ok (.fix (rg i j)) C2 else .stuck | _, _ => .stuck) μ F σ H R := by
    cases hf : f ρ C with
    | ok d C1 =>
      rw [hf] at k
      simp only [Res.bind_ok] at k ⊢
      cases hg' : g ρ C1 with
      | ok d2 C2 =>
        rw [hg'] at k
        cases d <;> cases d2 <;> exact k
      | ex c p C1 =>
        rw [hg'] at k
        exact k
      | stuck =>
        rw [hg'] at k
        exact k
    | ex c p C1 =>
      rw [hf] at k
      exact k
    | stuck =>
      rw [hf] at k
      exact k
  refine ⟨ρ, C, μ, F, S, E, kd_bind k' fun d C1 v μ1 F1 H1 x1 s1 r1 h1 => ?_⟩
  refine ⟨ρ, C1, μ1, F1, s1, x1.env E, kd_bind h1 fun d2 C2 v2 μ2 F2 H2 x2 s2 r2 h2 => ?_⟩
  cases d with
  | int i =>
    cases r1
    cases d2 with
    | int j =>
      cases r2
      simp only at h2
      split at h2
      · rename_i z
        refine ⟨i, j, rfl, ⟨z.1, z.2.1, z.2.2.1, z.2.2.2.1⟩, kd_ret s2 ?_ h2⟩
        exact wk_range (K := X.K) (μ := μ2) (F := F2) i (j - i).toNat
      · exact h2.elim
    | _ => exact False.elim h2
  | _ => cases d2 <;> exact False.elim h2
end

/-! ### for, while -/
def Out.loop (o : Out) (k : Rho → Cells → Out) : Out := match o with
  | .nx ρ C => k ρ C
  | .ct ρ C => k ρ C
  | .bk ρ C => .nx ρ C
  | o => o
def forL (t : D → Rho → Option Rho) (b : Rho → Cells → Out) : List D → Rho → Cells → Out
  | [], ρ, C => .nx ρ C
  | d :: ds, ρ, C => match t d ρ with
    | some ρ1 => (b ρ1 C).loop (forL t b ds)
    | none => .stuck
/-- .. over the k-th cell's content, whose length stays n; m turns are left -/
def forC (t : D → Rho → Option Rho) (b : Rho → Cells → Out) (k n : Nat) : Nat → Rho → Cells → Out
  | 0, ρ, C => if cLen k C = some n then .nx ρ C else .stuck
  | m + 1, ρ, C => match asL (.cel k) C with
    | some ds => if ds.length = n then match ds[n - (m + 1)]? with
      | some d => match t d ρ with
        | some ρ1 => (b ρ1 C).loop (forC t b k n m)
        | none => .stuck
      | none => .stuck
      else .stuck
    | none => .stuck
def forS (t : D → Rho → Option Rho) (b : Rho → Cells → Out) : Src → Rho → Cells → Out
  | .fix ds => forL t b ds
  | .cel k n => forC t b k n n
def sFor (fi : Rho → Cells → Res Src) (t : D → Rho → Option Rho) (b : Rho → Cells → Out) : Rho → Cells → Out := fun ρ C => (fi ρ C).out ρ fun ds C1 => forS t b ds ρ C1
theorem cLen_some {k n : Nat} {C : Cells} (h : cLen k C = some n) : ∃ ds, C[k]? = some (.lst ds) ∧ ds.length = n := by
  unfold cLen at h
  split at h
  · rename_i ds e
    exact ⟨ds, e, Option.some.inj h⟩
  · cases h
theorem asL_cel {k : Nat} {C : Cells} {ds : List D} (h : asL (.cel k) C = some ds) : C[k]? = some (.lst ds) := by
  simp only [asL] at h
  split at h
  · rename_i ds' e
    cases h
    exact e
  · cases h
def whileL (c : Rho → Cells → Res D) (b : Rho → Cells → Out) : Nat → Rho → Cells → Out
  | 0, _, _ => .stuck
  | n + 1, ρ, C => (toB (c ρ C)).out ρ fun x C1 => if x then (b ρ C1).loop (whileL c b n) else .nx ρ C1
def sWhile (n : Nat) (c : Rho → Cells → Res D) (b : Rho → Cells → Out) : Rho → Cells → Out := whileL c b n
section
variable {X : Cx} {W : WX} {it tg c : Expr} {body : List Stmt} {fi : Rho → Cells → Res Src} {t : D → Rho → Option Rho} {ns : List Nat} {fb : Rho → Cells → Out} {fc : Rho → Cells → Res D} {pos : Pos}
theorem sd_loop {K : PySem.W.Frag} {mg : Str → Option Value} {μ : List Addr} {F H : Hp} {D : Ends} {o : Out} {k : Rho → Cells → Out} {N : L2.St → Hp → Prop} (h : sd K mg W (o.loop k) D μ F H)
    (hN : ∀ ρ C σ μ' F' H', Ext μ F H μ' F' H' → Sim K μ' F' C H' → ERel K μ' F' ρ σ → sd K mg W (k ρ C) D μ' F' H' → N σ H') : sd K mg W o { D with nx := N, ct := N, bk := D.nx } μ F H := by
  cases o with
  | nx ρ C => exact fun σ μ2 F2 H2 x2 s2 e2 => hN ρ C σ μ2 F2 H2 x2 s2 e2 (sd_mono x2 h)
  | ct ρ C => exact fun σ μ2 F2 H2 x2 s2 e2 => hN ρ C σ μ2 F2 H2 x2 s2 e2 (sd_mono x2 h)
  | bk ρ C => exact h
  | rt d C => exact h
  | ex c p ρ C => exact h
  | stuck => exact h
theorem bs_for (hp : PassesOwn (model X.prog X.w) X.A X.env X.xe) (hc : X.calm = true) (hi : BI X W tg it fi) (hg : BG X tg t ns) (hb : BSs X W body fb) (hs : ∀ x, foldedSetIterable it X.env x = pure x := by intro _; rfl) :
    BS X W (.For tg it body [] pos) (sFor fi t fb) := by
  refine psI (ps_for hp hc hi hg hb hs) ?_
  rintro D σ H ⟨ρ, C, μ, F, S, E, k⟩
  refine ⟨ρ, C, μ, F, S, E, sd_bind E k fun src C1 J μ1 F1 H1 x1 s1 r1 h1 => ?_⟩
  cases src with
  | cel kk n =>
    refine ⟨fun i m σ H => m = n - i ∧ i ≤ n ∧ ∃ ρ C μ2 F2, (∃ τ, μ2 = μ1 ++ τ) ∧ Same F1 F2 ∧ Sim X.K μ2 F2 C H ∧ ERel X.K μ2 F2 ρ σ ∧ sd X.K X.mg W (forC t fb kk n (n - i) ρ C) D μ2 F2 H,
      ⟨n, by simp, Nat.zero_le _, ρ, C1, μ1, F1, ⟨[], by simp⟩, Same.refl _, s1, x1.env E, h1⟩, ?_⟩
    rintro i m σ2 H2 ⟨rfl, hi, ρ2, C2, μ2, F2, hp, hs, S2, E2, k2⟩
    by_cases hlt : i < n
    · have em : n - i = (n - (i + 1)) + 1 := by omega
      rw [em] at k2
      unfold forC at k2
      split at k2
      · rename_i ds2 e2
        split at k2
        · rename_i hn
          have hk := asL_cel e2
          obtain ⟨hgo, hy⟩ := r1.go i μ2 F2 C2 H2 ds2 hlt hp hs S2 hk hn
          refine .inr ⟨hgo, _, fun σ' H' p' => ⟨n - (i + 1), by omega, p'⟩, fun x H3 y => ?_⟩
          obtain ⟨e3, d, ed, rd⟩ := hy x H3 y
          subst e3
          have ei : n - (n - (i + 1) + 1) = i := by omega
          rw [ei, ed] at k2
          simp only at k2
          split at k2
          · rename_i ρ3 e3
            refine ⟨ρ2, C2, μ2, F2, d, ρ3, S2, E2, rd, e3, fun σ4 E4 _ => ⟨ρ3, C2, μ2, F2, S2, E4, sd_loop k2 fun ρ5 C5 σ5 μ5 F5 H5 x5 s5 e5 k5 => ?_⟩⟩
            refine ⟨rfl, hlt, ρ5, C5, μ5, F5, ?_, hs.trans x5.fr, s5, e5, k5⟩
            obtain ⟨τ1, q1⟩ := hp
            obtain ⟨τ2, q2, _⟩ := x5.pre
            exact ⟨τ1 ++ τ2, by rw [q2, q1, List.append_assoc]⟩
          · exact k2.elim
        · exact k2.elim
      · exact k2.elim
    · have e : i = n := by omega
      subst e
      rw [Nat.sub_self] at k2
      unfold forC at k2
      split at k2
      · rename_i z
        obtain ⟨ds2, hk, hn⟩ := cLen_some z
        exact .inl ⟨r1.stop μ2 F2 C2 H2 ds2 hp hs S2 hk hn, sd_nx S2 E2 k2⟩
      · exact k2.elim
  | fix ds =>
  refine ⟨fun i m σ H => m = ds.length - i ∧ i ≤ ds.length ∧ ∃ ρ C μ2 F2, (∃ τ, μ2 = μ1 ++ τ) ∧ Same F1 F2 ∧ Sim X.K μ2 F2 C H ∧ ERel X.K μ2 F2 ρ σ ∧ sd X.K X.mg W (forL t fb (ds.drop i) ρ C) D μ2 F2 H,
    ⟨ds.length, by simp, Nat.zero_le _, ρ, C1, μ1, F1, ⟨[], by simp⟩, Same.refl _, s1, x1.env E, h1⟩, ?_⟩
  rintro i m σ2 H2 ⟨rfl, hi, ρ2, C2, μ2, F2, hp, hs, S2, E2, k2⟩
  by_cases hlt : i < ds.length
  · obtain ⟨hgo, hy⟩ := r1.go i μ2 F2 C2 H2 hlt hp hs S2
    refine .inr ⟨hgo, _, fun σ' H' p' => ⟨ds.length - (i + 1), by omega, p'⟩, fun x H3 y => ?_⟩
    obtain ⟨F3, d, X3, S3, ed, rd⟩ := hy x H3 y
    rw [List.drop_eq_getElem_cons hlt] at k2
    have ed' : ds[i] = d := by
      rw [List.getElem?_eq_getElem hlt] at ed
      exact Option.some.inj ed
    rw [ed'] at k2
    unfold forL at k2
    split at k2
    · rename_i ρ3 e3
      refine ⟨ρ2, C2, μ2, F3, d, ρ3, S3, X3.env E2, rd, e3, fun σ4 E4 _ => ⟨ρ3, C2, μ2, F3, S3, E4, sd_loop (sd_mono X3 k2) fun ρ5 C5 σ5 μ5 F5 H5 x5 s5 e5 k5 => ?_⟩⟩
      refine ⟨rfl, hlt, ρ5, C5, μ5, F5, ?_, hs.trans (X3.fr.trans x5.fr), s5, e5, k5⟩
      obtain ⟨τ1, q1⟩ := hp
      obtain ⟨τ2, q2, _⟩ := x5.pre
      exact ⟨τ1 ++ τ2, by rw [q2, q1, List.append_assoc]⟩
    · exact k2.elim
  · have e : i = ds.length := by omega
    subst e
    rw [List.drop_length] at k2
    exact .inl ⟨r1.stop μ2 F2 C2 H2 hp hs S2, sd_nx S2 E2 k2⟩
theorem bs_while (n : Nat) (hp : PassesOwn (model X.prog X.w) X.A X.env X.xe) (hc : BT X W c fc) (hb : BSs X W body fb) : BS X W (.While c body [] pos) (sWhile n fc fb) := by
  refine psI (ps_while hp hc hb) ?_
  rintro D σ H ⟨ρ, C, μ, F, S, E, k⟩
  refine ⟨fun m σ H => ∃ ρ C μ F, Sim X.K μ F C H ∧ ERel X.K μ F ρ σ ∧ sd X.K X.mg W (whileL fc fb m ρ C) D μ F H, ⟨n, ρ, C, μ, F, S, E, k⟩, ?_⟩
  rintro m σ2 H2 ⟨ρ2, C2, μ2, F2, S2, E2, k2⟩
  cases m with
  | zero => exact k2.elim
  | succ m =>
    unfold whileL at k2
    refine ⟨ρ2, C2, μ2, F2, S2, E2, sd_bind (R := RB) E2 k2 fun b C3 v μ3 F3 H3 x3 s3 r3 h3 => ?_⟩
    subst r3
    cases v with
    | true =>
      refine iteT ⟨_, fun σ' H' p' => ⟨m, Nat.lt_succ_self _, p'⟩, ρ2, C3, μ3, F3, s3, x3.env E2, sd_loop h3 fun ρ5 C5 σ5 μ5 F5 H5 x5 s5 e5 k5 => ⟨ρ5, C5, μ5, F5, s5, e5, k5⟩⟩
    | false => exact iteF (sd_nx s3 (x3.env E2) h3)
end

/-! ### list comprehensions -/
def wipeD (ρ : Rho) : List Nat → Rho
  | [] => ρ
  | v :: vs => (wipeD ρ vs).set v none
def noX {α : Type} (r : Res α) : Res α := match r with
  | .ex _ _ _ => .stuck
  | r => r
/-- one turn: k goes on -/
def lcStep (t : D → Rho → Option Rho) (ft fe : Rho → Cells → Res D) (ρ : Rho) (d : D) (C : Cells) (k : Cells → Res (List D)) : Res (List D) := match t d ρ with
  | some ρ1 => (noX (toB (ft ρ1 C))).bind fun b C1 => if b then (noX (fe ρ1 C1)).bind fun y C2 => (k C2).bind fun ys C3 => .ok (y :: ys) C3 else k C1
  | none => .stuck
def lcL (t : D → Rho → Option Rho) (ft fe : Rho → Cells → Res D) (ρ : Rho) : List D → Cells → Res (List D)
  | [], C => .ok [] C
  | d :: ds, C => lcStep t ft fe ρ d C (lcL t ft fe ρ ds)
def lcC (t : D → Rho → Option Rho) (ft fe : Rho → Cells → Res D) (ρ : Rho) (k n : Nat) : Nat → Cells → Res (List D)
  | 0, C => if cLen k C = some n then .ok [] C else .stuck
  | m + 1, C => match asL (.cel k) C with
    | some ds => if ds.length = n then match ds[n - (m + 1)]? with
      | some d => lcStep t ft fe ρ d C (lcC t ft fe ρ k n m)
      | none => .stuck
      else .stuck
    | none => .stuck
def lcS (t : D → Rho → Option Rho) (ft fe : Rho → Cells → Res D) (ρ : Rho) : Src → Cells → Res (List D)
  | .fix ds => lcL t ft fe ρ ds
  | .cel k n => lcC t ft fe ρ k n n
theorem noX_ne {α : Type} (r : Res α) (c : Str) (p : D) (C : Cells) : noX r ≠ .ex c p C := by
  cases r <;> simp [noX]
def NoEx (k : Cells → Res (List D)) : Prop := ∀ (C : Cells) (c : Str) (p : D) (C' : Cells), k C ≠ .ex c p C'
theorem noex_step {t : D → Rho → Option Rho} {ft fe : Rho → Cells → Res D} {ρ : Rho} {d : D} {k : Cells → Res (List D)} (hk : NoEx k) : NoEx fun C => lcStep t ft fe ρ d C k := by
  intro C c p C' h
  simp only [lcStep] at h
  split at h
  · cases h1 : noX (toB (ft _ C)) with
    | stuck => rw [h1] at h; cases h
    | ex c1 p1 C1 => exact noX_ne _ _ _ _ h1
    | ok b C1 =>
      rw [h1] at h
      simp only [Res.bind_ok] at h
      split at h
      · cases h2 : noX (fe _ C1) with
        | stuck => rw [h2] at h; cases h
        | ex c1 p1 C1 => exact noX_ne _ _ _ _ h2
        | ok y C2 =>
          rw [h2] at h
          simp only [Res.bind_ok] at h
          cases h3 : k C2 with
          | stuck => rw [h3] at h; cases h
          | ex c1 p1 C1 => exact hk _ _ _ _ h3
          | ok ys C3 =>
            rw [h3] at h
            cases h
      · exact hk _ _ _ _ h
  · cases h
theorem noex_lcL (t : D → Rho → Option Rho) (ft fe : Rho → Cells → Res D) (ρ : Rho) : ∀ ds : List D, NoEx (lcL t ft fe ρ ds)
  | [] => fun C c p C' h => by simp [lcL] at h
  | d :: ds => fun C c p C' h => noex_step (noex_lcL t ft fe ρ ds) C c p C' h
theorem noex_lcC (t : D → Rho → Option Rho) (ft fe : Rho → Cells → Res D) (ρ : Rho) (k n : Nat) : ∀ m : Nat, NoEx (lcC t ft fe ρ k n m)
  | 0 => fun C c p C' h => by
    unfold lcC at h
    split at h <;> cases h
  | m + 1 => fun C c p C' h => by
    unfold lcC at h
    split at h
    · split at h
      · split at h
        · exact noex_step (noex_lcC t ft fe ρ k n m) C c p C' h
        · cases h
      · cases h
    · cases h
def fYes : Rho → Cells → Res D := fun _ C => .ok (.bl true) C
def fLc (m : Bool) (vs : List Nat) (fi : Rho → Cells → Res Src) (t : D → Rho → Option Rho) (ft fe : Rho → Cells → Res D) : Rho → Cells → Res D := fun ρ C => (fi ρ C).bind fun ds C1 => (lcS t ft fe (wipeD ρ vs) ds C1).bind fun ys C2 => if ys.length < sizeLine then mkL m ys C2 else .stuck
abbrev W0 : WX := fun _ _ _ _ => False
section
variable {K : PySem.W.Frag} {mg : Str → Option Value} {W : WX} {μ μ' : List Addr} {F F' H H' : Hp} {C C' : Cells} {ρ : Rho} {σ : L2.St}
theorem ERel.wipe (E : ERel K μ F ρ σ) : ∀ vs : List Nat, ERel K μ F (wipeD ρ vs) (L2.wipe σ vs)
  | [] => E
  | v :: vs => by
    have ih := ERel.wipe E vs
    unfold wipeD L2.wipe
    refine ⟨by simp [ih.1], fun i d h => ?_⟩
    by_cases hi : v = i
    · subst hi
      by_cases hv : v < (wipeD ρ vs).length
      · rw [List.getElem?_set_self hv] at h
        cases h
      · rw [List.getElem?_eq_none (by simpa using hv)] at h
        cases h
    · rw [List.getElem?_set_ne hi] at h ⊢
      exact ih.2 i d h
theorem wipe_wipe (σ : L2.St) (vs : List Nat) : wipe (wipe σ vs) vs = wipe σ vs := by
  have : ∀ us : List Nat, (∀ i ∈ us, i ∈ vs) → wipe (wipe σ vs) us = wipe σ vs := by
    intro us
    induction us with
    | nil => intro _; rfl
    | cons u us ih =>
      intro h
      show (wipe (wipe σ vs) us).set u none = _
      rw [ih fun i hi => h i (List.mem_cons_of_mem _ hi), wipe_none (h u (by simp))]
  exact this vs fun _ h => h
/-- an object beside the cells and the frozen part changes -/
theorem Sim.other {D : Addr} {o : HO} (S : Sim K μ F C H) (h1 : D ∉ μ) (h2 : F D = none) : Sim K μ F C (upd H D o) := by
  refine ⟨fun b u e => ?_, S.len, S.nd, fun a h z => ?_, fun k c a e1 e2 => ?_⟩
  · have hne : b ≠ D := fun z => by rw [z, h2] at e; cases e
    rw [upd_ne hne]
    exact S.sub b u e
  · by_cases hb : a = D
    · subst hb
      exact h1 h
    · rw [upd_ne hb] at z
      exact S.trk a h z
  · have q := S.cel k c a e1 e2
    cases c with
    | dead => trivial
    | lst ds =>
      obtain ⟨f, vs, g, r⟩ := q
      have hne : a ≠ D := fun z => h1 (z ▸ List.mem_of_getElem? e2)
      exact ⟨f, vs, by rw [upd_ne hne]; exact g, r⟩
/-- a list beside them becomes one of ours -/
theorem kd_adopt {μ0 : List Addr} {F0 H0 : Hp} {D : Addr} {m : Bool} {ds : List BV.D} {vs : List V} {Q : V → Hp → Prop} (S : Sim K μ F C H) (X : Ext μ0 F0 H0 μ F H) (h0 : H0 D = none) (h1 : D ∉ μ) (h2 : F D = none) (h3 : H D = some (.lst vs)) (r : Reps K μ F vs ds)
    (h : kd (RD K) K mg W (mkL m ds C) μ0 F0 σ H0 Q) : Q (.ref D) H := by
  cases m with
  | true =>
    obtain ⟨τ, e, n⟩ := X.pre
    refine h _ (μ ++ [D]) F H ⟨⟨τ ++ [D], by rw [e, List.append_assoc], fun a ha => ?_⟩, X.fr, X.thr, X.new, X.keep⟩ ⟨S.sub, by simp [S.len], ?_, fun a ha => ?_, fun k c a e1 e2 => ?_⟩ (.cel ?_)
    · rcases List.mem_append.mp ha with ha | ha
      · exact n a ha
      · simp at ha
        subst ha
        exact h0
    · refine List.nodup_append.mpr ⟨S.nd, by simp, fun a ha b hb e => ?_⟩
      simp at hb
      subst hb
      subst e
      exact h1 ha
    · rcases List.mem_append.mp ha with ha | ha
      · exact S.trk a ha
      · simp at ha
        subst ha
        rw [h3]
        simp
    · by_cases hk : k < C.length
      · rw [List.getElem?_append_left hk] at e1
        rw [List.getElem?_append_left (by rw [S.len]; exact hk)] at e2
        have q := S.cel k c a e1 e2
        cases c with
        | dead => trivial
        | lst ds2 =>
          obtain ⟨f, vs2, g, r2⟩ := q
          exact ⟨f, vs2, g, Reps.mono ⟨[D], rfl⟩ (Same.refl F) _ _ r2⟩
      · have hk0 : k - C.length = 0 := by
          rw [List.getElem?_append_right (by omega)] at e1
          have := (List.getElem?_eq_some_iff.mp e1).1
          simp at this
          omega
        rw [List.getElem?_append_right (by omega), hk0] at e1
        rw [List.getElem?_append_right (by rw [S.len]; omega), S.len, hk0] at e2
        simp at e1 e2
        subst e1 e2
        exact ⟨h2, vs, h3, Reps.mono ⟨[D], rfl⟩ (Same.refl F) _ _ r⟩
    · rw [List.getElem?_append_right (by rw [S.len]; exact Nat.le_refl _), S.len, Nat.sub_self]
      rfl
  | false =>
    have fF : Same F (upd F D (.lst vs)) := fun b u e => by
      rw [upd_ne (ne_of_none e h2)]
      exact e
    refine h _ μ (upd F D (.lst vs)) H ⟨X.pre, X.fr.trans fF, X.thr, fun a o e1 e2 => ?_, X.keep⟩ ⟨fun b u e => ?_, S.len, S.nd, S.trk, fun k c a e1 e2 => ?_⟩ (.lst upd_same (Reps.mono ⟨[], by simp⟩ fF _ _ r))
    · by_cases hb : a = D
      · subst hb
        exact .inl h0
      · rw [upd_ne hb] at e1
        exact X.new a o e1 e2
    · by_cases hb : b = D
      · subst hb
        rw [upd_same] at e
        cases e
        exact h3
      · rw [upd_ne hb] at e
        exact S.sub b u e
    · have q := S.cel k c a e1 e2
      cases c with
      | dead => trivial
      | lst ds2 =>
        obtain ⟨f, vs2, g, r2⟩ := q
        have hne : a ≠ D := fun z => h1 (z ▸ List.mem_of_getElem? e2)
        exact ⟨by rw [upd_ne hne]; exact f, vs2, g, Reps.mono ⟨[], by simp⟩ fF _ _ r2⟩
end
/-- tests of a comprehension -/
abbrev BTs (X : Cx) (W : WX) (es : List Expr) (f : Rho → Cells → Res D) : Prop := PTs X es (rT X.K X.mg W f)
section
variable {X : Cx} {W : WX}
theorem bts_nil : BTs X W [] fYes := by
  refine ⟨fun pins s σ H Q I h => pts_nil.run pins s σ H Q I ?_⟩
  obtain ⟨ρ, C, μ, F, S, E, k⟩ := h
  exact kd_ret (v := true) S rfl k
theorem bts_one {c : Expr} {f : Rho → Cells → Res D} (h : BT X W c f) : BTs X W [c] f := pts_one h
/-- what holds between the turns: the new list stands at D, beside cells and frozen part -/
structure LcInv (K : PySem.W.Frag) (μ1 : List Addr) (F1 H1 : Hp) (D : Addr) (C2 : Cells) (μ2 : List Addr) (F2 H2 : Hp) (acc : List BV.D) (va : List V) : Prop where
  x2 : Ext μ1 F1 H1 μ2 F2 H2
  s2 : Sim K μ2 F2 C2 H2
  d1 : D ∉ μ2
  d2 : F2 D = none
  d3 : H2 D = some (.lst va)
  ra : Reps K μ2 F2 va acc
def lcK (m : Bool) (acc : List D) (r : Res (List D)) : Res D := r.bind fun ys C3 => if (acc ++ ys).length < sizeLine then mkL m (acc ++ ys) C3 else .stuck
theorem lc_step {t : D → Rho → Option Rho} {ns : List Nat} {ft fe : Rho → Cells → Res D} {m : Bool} {vs : List Nat} {ρw : Rho} {σ : L2.St} {Q : VK} {μ1 μ2 : List Addr} {F1 F2 F3 H1 H2 H3 : Hp} {D : Addr} {C2 : Cells} {acc : List BV.D} {va : List V} {x : V} {d : BV.D} {kk : Cells → Res (List BV.D)} {N : Hp → Prop}
    (hv : ∀ i ∈ ns, i ∈ vs) (hD : H1 D = none) (L : LcInv X.K μ1 F1 H1 D C2 μ2 F2 H2 acc va) (X3 : Ext μ2 F2 H2 μ2 F3 H3) (S3 : Sim X.K μ2 F3 C2 H3) (rd : Rep X.K μ2 F3 x d) (E1 : ERel X.K μ1 F1 ρw (wipe σ vs)) (nx : NoEx kk)
    (k2 : kd (RD X.K) X.K X.mg W (lcK m acc (lcStep t ft fe ρw d C2 kk)) μ1 F1 σ H1 Q)
    (hN : ∀ C' μ' F' H' acc' va', LcInv X.K μ1 F1 H1 D C' μ' F' H' acc' va' → kd (RD X.K) X.K X.mg W (lcK m acc' (kk C')) μ1 F1 σ H1 Q → N H') :
    rG X.K t ns x (wipe σ vs) H3 fun σ2 H2 => wipe σ2 vs = wipe σ vs ∧ rT X.K X.mg W0 ft σ2 H2 fun b H3 =>
      if b = true then rE X.K X.mg W0 fe σ2 H3 fun y H4 => ∃ acc, H4 D = some (.lst acc) ∧ acc.length < sizeLine ∧ N (upd H4 D (.lst (acc ++ [y]))) else N H3 := by
  obtain ⟨x2, s2, d1, d2, d3, ra⟩ := L
  have dn : ∀ {μa : List Addr} {Fa Ha : Hp}, Ext μ2 F2 H2 μa Fa Ha → D ∉ μa ∧ Fa D = none ∧ Ha D = some (.lst va) := fun {μa Fa Ha} xa => by
    refine ⟨fun z => ?_, ?_, xa.keep D _ d3 d1⟩
    · obtain ⟨τ, e, nn⟩ := xa.pre
      rw [e] at z
      rcases List.mem_append.mp z with z | z
      · exact d1 z
      · rw [nn D z] at d3
        cases d3
    · cases q : Fa D with
      | none => rfl
      | some o =>
        rcases xa.new D o q d2 with z | z
        · rw [z] at d3
          cases d3
        · exact absurd z d1
  unfold lcK lcStep at k2
  split at k2
  · rename_i ρ3 e3
    refine ⟨ρw, C2, μ2, F3, d, ρ3, S3, X3.env (x2.env E1), rd, e3, fun σ4 E4 w4 => ⟨?_, ρ3, C2, μ2, F3, S3, E4, ?_⟩⟩
    · rw [w4 vs hv]
      exact wipe_wipe σ vs
    · cases hft : toB (ft ρ3 C2) with
      | stuck =>
        rw [hft] at k2
        exact k2.elim
      | ex c p C3 =>
        rw [hft] at k2
        exact k2.elim
      | ok b C3 =>
        rw [hft] at k2
        intro b' μ4 F4 H4 x4 s4 eb
        have eb' : b' = b := eb
        subst eb'
        simp only [noX, Res.bind_ok] at k2
        cases b' with
        | true =>
          refine iteT ⟨ρ3, C3, μ4, F4, s4, x4.env E4, ?_⟩
          simp only [if_true] at k2
          cases hfe : fe ρ3 C3 with
          | stuck =>
            rw [hfe] at k2
            exact k2.elim
          | ex c p C4 =>
            rw [hfe] at k2
            exact k2.elim
          | ok yv C4 =>
            rw [hfe] at k2
            simp only [noX, Res.bind_ok] at k2
            intro w5 μ5 F5 H5 x5 s5 r5
            have xa := X3.trans (x4.trans x5)
            obtain ⟨g1, g2, g3⟩ := dn xa
            have kk2 : kd (RD X.K) X.K X.mg W (lcK m (acc ++ [yv]) (kk C4)) μ1 F1 σ H1 Q ∧ va.length < sizeLine := by
              unfold lcK
              cases hr : kk C4 with
              | stuck =>
                rw [hr] at k2
                exact k2.elim
              | ex c p C5 => exact (nx _ _ _ _ hr).elim
              | ok ys C5 =>
                rw [hr] at k2
                simp only [Res.bind_ok] at k2 ⊢
                rw [List.append_assoc]
                refine ⟨k2, ?_⟩
                split at k2
                · rename_i z
                  simp only [List.length_append, List.length_cons, List.length_nil] at z
                  rw [ra.length]
                  omega
                · exact k2.elim
            refine ⟨va, g3, kk2.2, hN C4 μ5 F5 _ (acc ++ [yv]) (va ++ [w5]) ⟨?_, s5.other g1 g2, g1, g2, upd_same, (xa.reps ra).append (.cons r5 .nil)⟩ kk2.1⟩
            have xb := x2.trans xa
            exact ⟨xb.pre, xb.fr, fun a z => by
              by_cases hb : a = D
              · subst hb; exact hD
              · rw [upd_ne hb] at z; exact xb.thr a z, xb.new, fun a o e z => by rw [upd_ne (ne_of_none e hD)]; exact xb.keep a o e z⟩
        | false =>
          simp only [if_neg Bool.false_ne_true] at k2
          have xa := X3.trans x4
          obtain ⟨g1, g2, g3⟩ := dn xa
          exact iteF (hN C3 μ4 F4 H4 acc va ⟨x2.trans xa, s4, g1, g2, g3, xa.reps ra⟩ k2)
  · exact k2.elim
theorem lc_reading {fi : Rho → Cells → Res Src} {t : D → Rho → Option Rho} {ns : List Nat} {ft fe : Rho → Cells → Res D} {m : Bool} {vs : List Nat} (hv : ∀ i ∈ ns, i ∈ vs) (σ : L2.St) (H : Hp) (Q : VK) (h : rE X.K X.mg W (fLc m vs fi t ft fe) σ H Q) :
    tLc (rI X.K X.mg W fi) (rG X.K t ns) (rT X.K X.mg W0 ft) (rE X.K X.mg W0 fe) vs σ H Q := by
  obtain ⟨ρ, C, μ, F, S, E, k⟩ := h
  refine ⟨ρ, C, μ, F, S, E, kd_bind k fun src C1 J μ1 F1 H1 x1 s1 r1 h1 => ?_⟩
  intro D hD
  have E1 := (x1.env E).wipe vs
  have L0 : LcInv X.K μ1 F1 H1 D C1 μ1 F1 (upd H1 D (.lst [])) [] [] := ⟨⟨⟨[], by simp, fun a z => nomatch z⟩, Same.refl _, fun a z => by
      by_cases hb : a = D
      · subst hb; exact hD
      · rw [upd_ne hb] at z; exact z, fun a o e1 e2 => (by rw [e1] at e2; cases e2), fun a o e _ => by rw [upd_ne (ne_of_none e hD)]; exact e⟩,
    s1.other (s1.notin hD) (s1.free hD), s1.notin hD, s1.free hD, upd_same, .nil⟩
  have pre : ∀ {C2 μ2 F2 H2 acc va}, LcInv X.K μ1 F1 H1 D C2 μ2 F2 H2 acc va → ∃ τ, μ2 = μ1 ++ τ := fun L => ⟨_, L.x2.pre.choose_spec.1⟩
  cases src with
  | fix ds =>
    refine ⟨fun i n H2 => n = ds.length - i ∧ i ≤ ds.length ∧ ∃ C2 μ2 F2 acc va, LcInv X.K μ1 F1 H1 D C2 μ2 F2 H2 acc va ∧ kd (RD X.K) X.K X.mg W (lcK m acc (lcL t ft fe (wipeD ρ vs) (ds.drop i) C2)) μ1 F1 σ H1 Q,
      ⟨ds.length, by simp, Nat.zero_le _, C1, μ1, F1, [], [], L0, h1⟩, ?_⟩
    rintro i n H2 ⟨rfl, hi, C2, μ2, F2, acc, va, L, k2⟩
    by_cases hlt : i < ds.length
    · obtain ⟨hgo, hy⟩ := r1.go i μ2 F2 C2 H2 hlt (pre L) L.x2.fr L.s2
      refine .inr ⟨hgo, _, fun H' p' => ⟨ds.length - (i + 1), by omega, p'⟩, fun x H3 y => ?_⟩
      obtain ⟨F3, d, X3, S3, ed, rd⟩ := hy x H3 y
      rw [List.drop_eq_getElem_cons hlt] at k2
      have ed' : ds[i] = d := by
        rw [List.getElem?_eq_getElem hlt] at ed
        exact Option.some.inj ed
      rw [ed'] at k2
      exact lc_step hv hD L X3 S3 rd E1 (noex_lcL _ _ _ _ _) k2 fun C' μ' F' H' acc' va' L' k' => ⟨rfl, hlt, C', μ', F', acc', va', L', k'⟩
    · have e : i = ds.length := by omega
      subst e
      rw [List.drop_length] at k2
      refine .inl ⟨r1.stop μ2 F2 C2 H2 (pre L) L.x2.fr L.s2, ?_⟩
      unfold lcK lcL at k2
      simp only [Res.bind_ok, List.append_nil] at k2
      split at k2
      · exact kd_adopt L.s2 L.x2 hD L.d1 L.d2 L.d3 L.ra k2
      · exact k2.elim
  | cel kk n =>
    refine ⟨fun i m' H2 => m' = n - i ∧ i ≤ n ∧ ∃ C2 μ2 F2 acc va, LcInv X.K μ1 F1 H1 D C2 μ2 F2 H2 acc va ∧ kd (RD X.K) X.K X.mg W (lcK m acc (lcC t ft fe (wipeD ρ vs) kk n (n - i) C2)) μ1 F1 σ H1 Q,
      ⟨n, by simp, Nat.zero_le _, C1, μ1, F1, [], [], L0, h1⟩, ?_⟩
    rintro i m' H2 ⟨rfl, hi, C2, μ2, F2, acc, va, L, k2⟩
    by_cases hlt : i < n
    · have em : n - i = (n - (i + 1)) + 1 := by omega
      rw [em] at k2
      unfold lcC at k2
      split at k2
      · rename_i ds2 e2
        split at k2
        · rename_i hn
          obtain ⟨hgo, hy⟩ := r1.go i μ2 F2 C2 H2 ds2 hlt (pre L) L.x2.fr L.s2 (asL_cel e2) hn
          refine .inr ⟨hgo, _, fun H' p' => ⟨n - (i + 1), by omega, p'⟩, fun x H3 y => ?_⟩
          obtain ⟨e3, d, ed, rd⟩ := hy x H3 y
          subst e3
          have ei : n - (n - (i + 1) + 1) = i := by omega
          rw [ei, ed] at k2
          exact lc_step hv hD L .refl L.s2 rd E1 (noex_lcC _ _ _ _ _ _ _) k2 fun C' μ' F' H' acc' va' L' k' => ⟨rfl, hlt, C', μ', F', acc', va', L', k'⟩
        · exact k2.elim
      · exact k2.elim
    · have e : i = n := by omega
      subst e
      rw [Nat.sub_self] at k2
      unfold lcC lcK at k2
      split at k2
      · rename_i z
        obtain ⟨ds2, hk, hn⟩ := cLen_some z
        refine .inl ⟨r1.stop μ2 F2 C2 H2 ds2 (pre L) L.x2.fr L.s2 hk hn, ?_⟩
        simp only [Res.bind_ok, List.append_nil] at k2
        split at k2
        · exact kd_adopt L.s2 L.x2 hD L.d1 L.d2 L.d3 L.ra k2
        · exact k2.elim
      · exact k2.elim
end
end BV
namespace BV
open PySem PySem.Spec PyProof.Rows L2

section
variable {X : Cx} {W : WX}
theorem be_lc (m : Bool) {elt tg it : Expr} {ifs : List Expr} {scope : Scope} {own : List (Str × Nat)} {pos : Pos} {fi : Rho → Cells → Res Src} {t : D → Rho → Option Rho} {ns : List Nat} {ft fe : Rho → Cells → Res D} (hc : X.calm = true) (hN : X.N.Nodup) (ok : BlkOk X.N X.env.scope scope own)
    (hv : ∀ i ∈ ns, i ∈ own.map (·.2)) (hi : BI X W tg it fi) (hg : ∀ (s : Shared) (H : Hp) (C : Addr) (cl : List (Str × Addr)) (fp : List Addr), BG (X.blk s H scope (compEnvC scope cl C X.env) fp) tg t ns)
    (ht : ∀ (s : Shared) (H : Hp) (C : Addr) (cl : List (Str × Addr)) (fp : List Addr), BTs (X.blk s H scope (compEnvC scope cl C X.env) fp) W0 ifs ft) (he : ∀ (s : Shared) (H : Hp) (C : Addr) (cl : List (Str × Addr)) (fp : List Addr), BE (X.blk s H scope (compEnvC scope cl C X.env) fp) W0 elt fe)
    (hs : ∀ x, foldedSetIterable it X.env x = pure x := by intro _; rfl) : BE X W (.ListComp elt [⟨tg, it, ifs, 0⟩] scope pos) (fLc m (own.map (·.2)) fi t ft fe) :=
  peI (pe_lc hc hN hi ok hg ht he hs) (lc_reading hv)
theorem bs_setLc (m : Bool) {i : Nat} {y : Str} {py : Pos} {elt tg it : Expr} {ifs : List Expr} {scope : Scope} {own : List (Str × Nat)} {pos spos : Pos} {fi : Rho → Cells → Res Src} {t : D → Rho → Option Rho} {ns : List Nat} {ft fe : Rho → Cells → Res D} (hc : X.calm = true) (hN : X.N.Nodup) (ok : BlkOk X.N X.env.scope scope own)
    (hv : ∀ i ∈ ns, i ∈ own.map (·.2)) (hy : X.N[i]? = some y) (hyl : X.env.scope.names.lookup y = some .local) (hsw : swapsWith (.ListComp elt [⟨tg, it, ifs, 0⟩] scope pos) (some (.Name y py)) spos.line X.env = pure true)
    (hi : BI X W tg it fi) (hg : ∀ (s : Shared) (H : Hp) (C : Addr) (cl : List (Str × Addr)) (fp : List Addr), BG (X.blk s H scope (compEnvC scope cl C X.env) fp) tg t ns)
    (ht : ∀ (s : Shared) (H : Hp) (C : Addr) (cl : List (Str × Addr)) (fp : List Addr), BTs (X.blk s H scope (compEnvC scope cl C X.env) fp) W0 ifs ft) (he : ∀ (s : Shared) (H : Hp) (C : Addr) (cl : List (Str × Addr)) (fp : List Addr), BE (X.blk s H scope (compEnvC scope cl C X.env) fp) W0 elt fe)
    (hs : ∀ x, foldedSetIterable it X.env x = pure x := by intro _; rfl) : BS X W (.Assign [.Name y py] (.ListComp elt [⟨tg, it, ifs, 0⟩] scope pos) spos) (sSet i (fLc m (own.map (·.2)) fi t ft fe)) := by
  refine psI (ps_setLc (g := rG X.K t ns) (tt := rT X.K X.mg W0 ft) (te := rE X.K X.mg W0 fe) hc hN hy hyl hsw hi ok hg ht he hs) ?_
  rintro D σ H ⟨ρ, C, μ, F, S, E, k⟩
  exact lc_reading (X := X) (W := W) hv _ _ _ ⟨ρ, C, μ, F, S, E, sd_bind E k fun d C1 v μ1 F1 H1 x1 s1 r1 h1 => sd_nx s1 ((x1.env E).set r1) h1⟩
/-- isinstance(x, (c1, c2)) -/
theorem be_isi2 {c c2 : String} {e tx ty : Expr} {f : Rho → Cells → Res D} {p pos pt : Pos} {j : Nat} (hc : c ∈ clNames) (hc2 : c2 ∈ clNames) (hg : Gl X "isinstance") (hm : X.mg "isinstance" = none) (he : BE X W e f) (hx : PE X tx (tC (.ty c))) (hy : PE X ty (tC (.ty c2)))
    (n1 : starEach [e, .Tuple [tx, ty] j pt] X.env = (false, eval e X.env) :: starEach [.Tuple [tx, ty] j pt] X.env := by rfl) (n2 : starEach [.Tuple [tx, ty] j pt] X.env = (false, eval (.Tuple [tx, ty] j pt) X.env) :: starEach [] X.env := by rfl)
    (n3 : starEach [tx, ty] X.env = (false, eval tx X.env) :: starEach [ty] X.env := by rfl) (n4 : starEach [ty] X.env = (false, eval ty X.env) :: starEach [] X.env := by rfl)
    (hpl : (backTo pos (starEach [.Tuple [tx, ty] j pt] X.env)).any (·.1) = false := by rfl) :
    BE X W (.Call (.Name "isinstance" p) [e, .Tuple [tx, ty] j pt] [] pos) (f1 (isiD [c, c2]) f) := by
  refine peI (pe_callB call_isiT hg hm (by decide +kernel) (pa_cons he (pa_cons (pe_tup (pa_cons hx (pa_cons hy pa_nil n4) n3)) pa_nil n2) n1) (he := n1) (hpl := hpl)) ?_
  rintro σ H Q ⟨ρ, C, μ, F, S, E, k⟩
  refine ⟨ρ, C, μ, F, S, E, kd_bind k fun d C1 v μ1 F1 H1 x1 s1 r1 h1 => ?_⟩
  unfold isiD at h1
  split at h1
  · rename_i t e1
    refine ⟨by show 2 ≤ sizeLine; rw [sizeLine_eq]; decide, fun p hp => ?_⟩
    obtain ⟨s2, x2⟩ := s1.alloc (o := .tup [.ty c, .ty c2]) hp
    obtain ⟨q1, q2⟩ := tyD_rep s2 (x2.rep r1) e1
    refine ⟨v, p, [.ty c, .ty c2], .type t, [.type c, .type c2], [c, c2].any fun z => isTy t z, rfl, upd_same, .cons (.ty c) (.cons (.ty c2) .nil), q1, ?_, ?_⟩
    · unfold PySem.W.kitAny PySem.W.kitAny PySem.W.kitAny
      rw [kit_ty _ t q2 c hc, kit_ty _ t q2 c2 hc2]
      simp only [List.any_cons, List.any_nil, Bool.or_false]
      cases isTy t c <;> cases isTy t c2 <;> rfl
    · exact h1 _ _ _ _ x2 s2 (.bl _)
  · exact h1.elim
end

/-! ### defs -/
/-! no cell from n on in it -/
mutual
def celOk (n : Nat) : D → Bool
  | .tup ds => celsOk n ds
  | .lst ds => celsOk n ds
  | .cel k => decide (k < n)
  | _ => true
def celsOk (n : Nat) : List D → Bool
  | [] => true
  | d :: ds => celOk n d && celsOk n ds
end
def cellOk (n : Nat) : Cell → Bool
  | .lst ds => celsOk n ds
  | .dead => true
section
variable {K : PySem.W.Frag} {μ : List Addr} {F : Hp} {n : Nat}
mutual
theorem Rep.cutc : ∀ (d : D) (v : V), celOk n d = true → Rep K μ F v d → Rep K (μ.take n) F v d
  | .non, _, _, h => by cases h; exact .non
  | .bl b, _, _, h => by cases h; exact .bl b
  | .int i, _, _, h => by cases h; exact .int i
  | .str x, _, _, h => by cases h; exact .str x
  | .scr ns, _, _, h => by
    cases h with
    | scr a => exact .scr a
  | .tup ds, _, e, h => by
    cases h with
    | tup a b => exact .tup a (Reps.cutc ds _ (by simpa [celOk] using e) b)
  | .lst ds, _, e, h => by
    cases h with
    | lst a b => exact .lst a (Reps.cutc ds _ (by simpa [celOk] using e) b)
  | .cel k, _, e, h => by
    cases h with
    | cel a =>
      simp only [celOk, decide_eq_true_eq] at e
      refine .cel ?_
      rw [List.getElem?_take_of_lt e]
      exact a
theorem Reps.cutc : ∀ (ds : List D) (vs : List V), celsOk n ds = true → Reps K μ F vs ds → Reps K (μ.take n) F vs ds
  | [], _, _, h => by cases h; exact .nil
  | d :: ds, _, e, h => by
    simp only [celsOk, Bool.and_eq_true] at e
    cases h with
    | cons a b => exact .cons (Rep.cutc d _ e.1 a) (Reps.cutc ds _ e.2 b)
end
end
/-- what a def hands back: its own cells are forgotten; one that it returns is kept (m), or frozen -/
def okFin (m : Bool) (n : Nat) (d : D) (C : Cells) : Res D :=
  if (C.take n).all (cellOk n) then match d with
    | .cel k => if k < n then .ok d (C.take n) else match C[k]? with
      | some (.lst ds) => if celsOk n ds then (if m then .ok (.cel n) (C.take n ++ [.lst ds]) else .ok (.lst ds) (C.take n)) else .stuck
      | _ => .stuck
    | d => if celOk n d then .ok d (C.take n) else .stuck
  else .stuck
def exFin (n : Nat) (c : Str) (p : D) (C : Cells) : Res D := if (C.take n).all (cellOk n) && celOk n p then .ex c p (C.take n) else .stuck
def outFin (m : Bool) (n : Nat) (o : Out) : Res D := match o with
  | .nx _ C => okFin m n .non C
  | .rt d C => okFin m n d C
  | .ex c p _ C => exFin n c p C
  | _ => .stuck
def denF (m : Bool) (np N : Nat) (fb : Rho → Cells → Out) : List D → Cells → Res D := fun ds C => if ds.length = np then outFin m C.length (fb (ds.map some ++ List.replicate (N - np) none) C) else .stuck
section
variable {K : PySem.W.Frag} {mg : Str → Option Value} {W : WX} {μ μ' : List Addr} {F F' H H' : Hp} {C C' : Cells} {σ : L2.St}
theorem Sim.cutc (S : Sim K μ' F' C' H') (n : Nat) (h : (C'.take n).all (cellOk n) = true) : Sim K (μ'.take n) F' (C'.take n) H' := by
  refine ⟨S.sub, by simp [S.len], S.nd.sublist (List.take_sublist _ _), fun a ha => S.trk a (List.mem_of_mem_take ha), fun k c a e1 e2 => ?_⟩
  have hk : k < n := by
    have := (List.getElem?_eq_some_iff.mp e1).1
    simp at this
    omega
  have hc : cellOk n c = true := List.all_eq_true.mp h c (List.mem_of_getElem? e1)
  rw [List.getElem?_take_of_lt hk] at e1 e2
  have q := S.cel k c a e1 e2
  cases c with
  | dead => trivial
  | lst ds =>
    obtain ⟨f, vs, g, r⟩ := q
    exact ⟨f, vs, g, Reps.cutc ds vs hc r⟩
theorem Ext.cutc (x : Ext μ F H μ' F' H') : μ'.take μ.length = μ ∧ Ext μ F H μ F' H' := by
  obtain ⟨τ, e, n⟩ := x.pre
  exact ⟨by rw [e]; simp, ⟨[], by simp, fun a h => nomatch h⟩, x.fr, x.thr, x.new, x.keep⟩
theorem fin_ok {m : Bool} {d : D} {v : V} {Q : VK} (S0 : Sim K μ F C H) (x : Ext μ F H μ' F' H') (S : Sim K μ' F' C' H') (r : Rep K μ' F' v d) (h : kd (RD K) K mg W (okFin m C.length d C') μ F σ H Q) : Q v H' := by
  unfold okFin at h
  split at h
  · rename_i hall
    obtain ⟨e1, x1⟩ := x.cutc
    have S1 := S.cutc C.length hall
    rw [← S0.len, e1, S0.len] at S1
    split at h
    · rename_i k
      split at h
      · rename_i hk
        refine h v μ F' H' x1 S1 ?_
        have := Rep.cutc (n := C.length) (.cel k) v (by simp [celOk, hk]) r
        rw [← S0.len, e1] at this
        exact this
      · rename_i hk
        split at h
        · rename_i ds hd
          split at h
          · rename_i hcs
            cases r with
            | cel a =>
              rename_i a0
              obtain ⟨f, vs, g, rr⟩ := S.cel k _ _ hd a
              have rr' := Reps.cutc (n := C.length) ds vs hcs rr
              rw [← S0.len, e1] at rr'
              have ha : a0 ∈ μ' := List.mem_of_getElem? a
              obtain ⟨τ, eτ, nτ⟩ := x.pre
              have hτ : a0 ∈ τ := by
                rw [eτ, List.getElem?_append_right (by rw [S0.len]; omega)] at a
                exact List.mem_of_getElem? a
              have hn : a0 ∉ μ := fun z => by
                have := S.nd
                rw [eτ] at this
                exact (List.nodup_append.mp this).2.2 _ z _ hτ rfl
              have h' : kd (RD K) K mg W (mkL m ds (C'.take C.length)) μ F σ H Q := by
                have hlen : (C'.take C.length).length = C.length := by
                  rw [List.length_take]
                  have : C.length ≤ C'.length := by
                    rw [← S.len, ← S0.len, eτ]
                    simp
                  omega
                unfold mkL
                rw [hlen]
                exact h
              exact kd_adopt S1 x1 (nτ _ hτ) hn f g rr' h'
          · exact h.elim
        · exact h.elim
    · split at h
      · rename_i hok
        refine h v μ F' H' x1 S1 ?_
        have := Rep.cutc (n := C.length) d v hok r
        rw [← S0.len, e1] at this
        exact this
      · exact h.elim
  · exact h.elim
end

/-- a def's promise: it computes den -/
def spD (K : PySem.W.Frag) (mg : Str → Option Value) (np : Nat) (den : List D → Cells → Res D) : Sp := fun vs H Q E => vs.length = np ∧ ∃ μ F C ds, Sim K μ F C H ∧ Reps K μ F vs ds ∧ kd (RD K) K mg (fun cls d _ H' => E cls d H') (den ds C) μ F [] H Q
/-- as FnOk, where no guard is under way -/
structure FnG (P : Program) (w : World) (K : PySem.W.Frag) (mg : Str → Option Value) (base : Heap) (k : Nat) (f : Addr) (fd : FuncData) (ps : List Str) (sp : Sp) : Prop where
  len : ∀ vs H Q E, sp vs H Q E → vs.length = ps.length
  run : ∀ (A : Around) (outer : List Env) (s : Shared) (H : Hp) (args : Args) (us : List Value) (vs : List V) (Q : VK) (E : XK), A.guards = some [] → Room k A → Env0 P w K mg base A outer s H →
    BindsTo s fd args (ps.zip us) → Vals vs us → sp vs H Q E → codeAny (model P w) A (.call (.ref f) args) (CR (L2.CX P w) outer P w H s Q E) s
theorem FnG.mono {P : Program} {w : World} {K : PySem.W.Frag} {mg : Str → Option Value} {base : Heap} {j k : Nat} {f : Addr} {fd : FuncData} {ps : List Str} {sp : Sp} (G : FnG P w K mg base j f fd ps sp) (h : j ≤ k) : FnG P w K mg base k f fd ps sp :=
  ⟨G.len, fun A outer s H args us vs Q E g r => G.run A outer s H args us vs Q E g (r.mono h)⟩
section
variable {P : Program} {w : World} {K : PySem.W.Frag} {mg : Str → Option Value} {base : Heap}
/-- the context of a def's body -/
abbrev BX (P : Program) (w : World) (K : PySem.W.Frag) (mg : Str → Option Value) (base : Heap) (N : List Str) (qual : Str) (sc : Scope) (f : Addr) (cd : Value) (A : Around) (outer : List Env) (s : Shared) (H : Hp) (E : XK) : Cx :=
  cxOf (L2.CX P w) P w K mg base N qual sc f cd A outer s H E
abbrev WF (E : XK) : WX := fun cls d _ H => E cls d H
theorem fnG_of {x qual : Str} {st : Stmt} {f : Addr} {fd : FuncData} {N ps : List Str} {k : Nat} {sp : Sp} (G : Fun K x qual st f fd) (S : FnScope N ps (defScope st)) (len : ∀ vs H Q E, sp vs H Q E → vs.length = ps.length)
    (body : ∀ (cd : Value) (A : Around) (outer : List Env) (s : Shared) (H : Hp) (vs : List V) (Q : VK) (E : XK), A.guards = some [] → Room k (A.deeper (envOfC qual (defScope st) s.heap.objs.size f cd)) → sp vs H Q E →
      ∃ t, PSs (BX P w K mg base N qual (defScope st) f cd A outer s H E) (defBody st) t ∧ t { nx := fun _ H' => Q .non H', rt := Q } (L2.start N vs) H) : FnG P w K mg base (k + 1) f fd ps sp := by
  obtain ⟨oc, od, kV, doc, pm, an, cd, ct, osl, rfl, look, code⟩ := G.ex
  constructor
  · exact len
  intro A outer s H args us vs Q E gd room e0 bind rel want
  have inS : K.In s.heap := e0.mod.kin.keeps fun b o q => (e0.bs b o q).1
  have noLim : s.heap.NoLimit := e0.mod.nolimit.keeps fun b o q => (e0.bs b o q).1
  have kinds : ∀ y ∈ ps.zip us, (defScope st).names.lookup y.1 = some .local ∨ ((defScope st).names.lookup y.1 = some .cell ∧ ((cellsFrom (s.heap.objs.size + 1) (defScope st).names []).lookup y.1).isSome = true) := by
    rintro ⟨n, v⟩ hy
    have hn := (List.of_mem_zip hy).1
    cases S.par n hn with
    | inl q => exact .inl q
    | inr q => exact .inr ⟨q, PySem.W.cellsFrom_some _ _ _ (.inl q)⟩
  refine codeAny_call_function room.depth (inS _ _ look) rfl S.co S.gen rfl (PySem.W.codeRec_of inS code) (bind _ _ _ _ (wpAny_newFunctionEnv_cells S.kind kinds fun env henv s1 hs1 => ?_))
  subst henv
  refine ⟨noLim.keeps hs1.toInCall.keep, codeAny_func ?_⟩
  obtain ⟨t, ht, hq⟩ := body cd A outer s H vs Q E gd (room.deeper _) want
  have I := inv_start (CX := L2.CX P w) (N := N) (f := f) (E := E) S room.hd e0 (len _ _ _ _ want) rel hs1
  refine wpAny_mono (ht.run [] s1 (L2.start N vs) H _ I hq) (fun fl s' h' => ?_) fun e s' h' => h'
  cases fl with
  | brk => exact h'.elim fun _ z => z.elim fun _ z => z.2.elim
  | cont => exact h'.elim fun _ z => z.elim fun _ z => z.2.elim
  | next =>
    obtain ⟨σ', H', J, q⟩ := h'
    exact ⟨.non, H', J.os, J.bare, J.base, J.hok, rfl, q⟩
  | ret u =>
    obtain ⟨v, σ', H', J, r, q⟩ := h'
    exact ⟨v, H', J.os, J.bare, J.base, J.hok, r, q⟩
/-- a def's body computes: so the def does -/
theorem fnG_den {x qual : Str} {st : Stmt} {f : Addr} {fd : FuncData} {N ps : List Str} {k : Nat} (m : Bool) {fb : Rho → Cells → Out} (G : Fun K x qual st f fd) (S : FnScope N ps (defScope st)) (hps : ps.length ≤ N.length)
    (body : ∀ (cd : Value) (A : Around) (outer : List Env) (s : Shared) (H : Hp) (E : XK), A.guards = some [] → Room k (A.deeper (envOfC qual (defScope st) s.heap.objs.size f cd)) →
      BSs (BX P w K mg base N qual (defScope st) f cd A outer s H E) (WF E) (defBody st) fb) : FnG P w K mg base (k + 1) f fd ps (spD K mg ps.length (denF m ps.length N.length fb)) := by
  refine fnG_of G S (fun vs H Q E h => h.1) fun cd A outer s H vs Q E gd room h => ⟨_, body cd A outer s H E gd room, ?_⟩
  obtain ⟨hl, μ, F, C, ds, S0, r, k0⟩ := h
  have hd : ds.length = ps.length := by rw [← r.length]; exact hl
  unfold denF at k0
  rw [if_pos hd] at k0
  refine ⟨ds.map some ++ List.replicate (N.length - ps.length) none, C, μ, F, S0, ⟨?_, fun i d e => ?_⟩, ?_⟩
  · unfold L2.start
    simp [hl, hd]
  · have hi : i < ds.length := by
      by_cases z : i < ds.length
      · exact z
      · rw [List.getElem?_append_right (by simp; omega)] at e
        have := List.mem_of_getElem? e
        simp at this
    rw [List.getElem?_append_left (by simpa using hi)] at e
    simp only [List.getElem?_map, Option.map_eq_some_iff] at e
    obtain ⟨d', e1, e2⟩ := e
    cases e2
    obtain ⟨v, e3, rv⟩ := r.get e1
    refine ⟨v, ?_, rv⟩
    unfold L2.start
    rw [List.getElem?_append_left (by simp; rw [r.length]; exact hi), List.getElem?_map, e3]
    rfl
  · generalize fb (ds.map some ++ List.replicate (N.length - ps.length) none) C = o at k0
    cases o with
    | nx ρ' C' => exact fun σ μ' F' H' x S' E' => fin_ok (m := m) S0 x S' .non k0
    | rt d C' => exact fun v μ' F' H' x S' r' => fin_ok (m := m) S0 x S' r' k0
    | bk ρ' C' => exact k0.elim
    | ct ρ' C' => exact k0.elim
    | stuck => exact k0.elim
    | ex c p ρ' C' =>
      intro cls dx σ μ' F' H' x S' E' xr
      unfold outFin exFin at k0
      simp only at k0
      split at k0
      · rename_i z
        simp only [Bool.and_eq_true] at z
        obtain ⟨e1, x1⟩ := x.cutc
        have S1 := S'.cutc C.length z.1
        rw [← S0.len, e1, S0.len] at S1
        obtain ⟨h1, d, v, h2, h3, h4⟩ := xr
        have h5 := Rep.cutc (n := C.length) p v z.2 h4
        rw [← S0.len, e1] at h5
        exact k0 cls dx μ F' H' x1 S1 ⟨h1, d, v, h2, h3, h5⟩
      · exact k0.elim
end
section
variable {X : Cx} {W : WX} {k : Nat} {f : Addr} {fd : FuncData} {ps : List Str} {den : List D → Cells → Res D} {x : Str} {p pos : Pos} {e : Expr} {es : List Expr} {fs : Rho → Cells → Res (List D)}
theorem run_fnG {pins : List (Addr × Obj)} {σ : L2.St} {H : Hp} {s : Shared} {Q : VK} {args : Args} {us : List Value} {vs : List V} {ds : List D} {C : Cells} {μ : List Addr} {F : Hp} (G : FnG X.prog X.w X.K X.mg X.base k f fd ps (spD X.K X.mg ps.length den)) (hr : Room k X.A) (hgd : X.A.guards = some []) (tk : Takes X W)
    (I : Inv X pins σ H s) (hb : BindsTo s fd args (ps.zip us)) (r : Vals vs us) (S : Sim X.K μ F C H) (rs : Reps X.K μ F vs ds) (hl : vs.length = ps.length) (h : kd (RD X.K) X.K X.mg W (den ds C) μ F σ H Q) :
    codeAny (model X.prog X.w) X.A (.call (.ref f) args) (fun r s' => match r with | .ok (.ret u) => EP X pins σ Q u s' | .ok _ => False | .error e => X.xe e s') s := by
  refine codeAny_mono (G.run X.A X.stack s H args us vs Q (WE W σ) hgd hr I.env0 hb r ⟨hl, μ, F, C, ds, S, rs, ?_⟩) fun q s' hq => ?_
  · cases hd : den ds C with
    | ok d C1 =>
      rw [hd] at h
      exact h
    | ex c p C1 =>
      rw [hd] at h
      exact h
    | stuck =>
      rw [hd] at h
      exact h
  · cases q with
    | error e => exact passAt tk σ pins H s e s' I hq
    | ok fl =>
      cases fl with
      | ret u => exact I.after hq
      | next => exact False.elim hq
      | brk => exact False.elim hq
      | cont => exact False.elim hq
theorem call_fnG {pins : List (Addr × Obj)} {σ : L2.St} {H : Hp} {s : Shared} {Q : VK} {args : List Value} {kw : List (Str × Value)} {us : List Value} {vs : List V} {ds : List D} {C : Cells} {μ : List Addr} {F : Hp} (G : FnG X.prog X.w X.K X.mg X.base k f fd ps (spD X.K X.mg ps.length den)) (hr : Room k X.A) (hgd : X.A.guards = some []) (tk : Takes X W)
    (I : Inv X pins σ H s) (hb : BindsTo s fd ⟨args, kw⟩ (ps.zip us)) (r : Vals vs us) (S : Sim X.K μ F C H) (rs : Reps X.K μ F vs ds) (hl : vs.length = ps.length) (h : kd (RD X.K) X.K X.mg W (den ds C) μ F σ H Q) :
    wpAny (model X.prog X.w) X.A (call (.ref f) args kw) (EP X pins σ Q) X.xe s := by
  refine wpAny_call (codeAny_mono (run_fnG G hr hgd tk I hb r S rs hl h) fun q s' hq => ?_)
  cases q with
  | error e => exact hq
  | ok fl =>
    cases fl with
    | ret u => exact hq
    | next => exact False.elim hq
    | brk => exact False.elim hq
    | cont => exact False.elim hq
def oCall (np : Nat) (den : List D → Cells → Res D) (ds : List D) (C : Cells) : Res D := if ds.length = np then den ds C else .stuck
theorem be_call (G : FnG X.prog X.w X.K X.mg X.base k f fd ps (spD X.K X.mg ps.length den)) (hr : Room k X.A) (hgd : X.A.guards = some []) (tk : Takes X W) (hg : Gl X x) (hm : X.mg x = some (.ref f)) (hk : PySem.W.keepIn X.K (.ref f) = true) (hb : Binds X.K fd ps [])
    (ha : BA X W (e :: es) fs) (hdb : (x == ("__debug__" : Str)) = false := by decide) (he : starEach (e :: es) X.env = (false, eval e X.env) :: starEach es X.env := by rfl) (hpl : (backTo pos (starEach es X.env)).any (·.1) = false := by rfl) :
    BE X W (.Call (.Name x p) (e :: es) [] pos) (fA (oCall ps.length den) fs) := by
  refine ⟨fun pins s σ H Q I h => ?_⟩
  obtain ⟨ρ, C, μ, F, S, E, k0⟩ := h
  refine wpAny_Call_Name_kw (ld_glob I hg hm (PySem.W.callWith_K (h₀ := X.base) I.ok.mod.kin hk (thn (ha.run pos pins s σ H (fun vs H1 => ∃ ds C1 μ1 F1, Sim X.K μ1 F1 C1 H1 ∧ Reps X.K μ1 F1 vs ds ∧ kd (RD X.K) X.K X.mg W (oCall ps.length den ds C1) μ1 F1 σ H1 Q) I ?_) fun us s1 hu => ?_) he hpl) hdb)
  · exact ⟨ρ, C, μ, F, S, E, kd_bind k0 fun d C1 v μ1 F1 H1 x1 s1 r1 h1 => ⟨d, C1, μ1, F1, s1, r1, h1⟩⟩
  · obtain ⟨vs, H1, I1, r, ds, C1, μ1, F1, S1, rs, h1⟩ := hu
    unfold oCall at h1
    split at h1
    · rename_i hl
      have hlv : vs.length = ps.length := by rw [rs.length]; exact hl
      have hlu : us.length = ps.length := by rw [← r.length]; exact hlv
      have hbb := hb s1 us I1.kIn (by rw [List.append_nil]; exact hlu)
      rw [List.append_nil] at hbb
      exact ⟨I1.kIn, call_fnG G hr hgd tk I1 hbb r S1 rs hlv h1⟩
    · exact h1.elim
end
end BV
namespace BV
open PySem PySem.Spec PyProof.Rows L2

section
variable {X : Cx} {W : WX} {k : Nat} {f : Addr} {fd : FuncData} {ps ks : List Str} {den : List D → Cells → Res D} {x : Str} {p pos : Pos} {e : Expr} {es : List Expr} {kws : List Keyword} {fs fk : Rho → Cells → Res (List D)} {nm : Option Str} {kpos : Pos} {fe : Rho → Cells → Res D}
/-! ### calls with keywords -/
abbrev BK (X : Cx) (W : WX) (kws : List Keyword) (f : Rho → Cells → Res (List D)) : Prop := PK X kws (rA X.K X.mg W f)
theorem pkI {kws : List Keyword} {t t' : TA} (h : PK X kws t) (q : ∀ σ H Q, t' σ H Q → t σ H Q) : PK X kws t' := ⟨fun pos pins s σ H Q I z => h.run pos pins s σ H Q I (q σ H Q z)⟩
theorem bk_nil : BK X W [] aNil := by
  refine pkI pk_nil ?_
  rintro σ H Q ⟨ρ, C, μ, F, S, E, q⟩
  exact kd_ret S .nil q
theorem bk_cons (ha : BE X W e fe) (hr : BK X W kws fk) : BK X W (⟨nm, e, kpos⟩ :: kws) (aCons fe fk) := by
  refine pkI (pk_cons ha hr) ?_
  rintro σ H Q ⟨ρ, C, μ, F, S, E, q⟩
  refine ⟨ρ, C, μ, F, S, E, kd_bind q fun d C1 v μ1 F1 H1 x1 s1 r1 h1 => ?_⟩
  refine ⟨ρ, C1, μ1, F1, s1, x1.env E, kd_bind h1 fun d2 C2 v2 μ2 F2 H2 x2 s2 r2 h2 => ?_⟩
  exact kd_ret s2 (.cons (x2.rep r1) r2) h2
/-- how keywords come to the parameters: π tells by parameter its place among the handed values (the positional ones, then the keywords') -/
def permL {α : Type} (π : List Nat) (xs : List α) : List α := π.filterMap fun i => xs[i]?
structure KOk (K : PySem.W.Frag) (fd : FuncData) (ps ks : List Str) (π : List Nat) (n : Nat) : Prop where
  to : ∀ (s : Shared) (us ws : List Value), K.In s.heap → us.length = n → ws.length = ks.length → BindsTo s fd ⟨us, ks.zip ws⟩ (ps.zip (permL π (us ++ ws)))
theorem Reps.perm {K : PySem.W.Frag} {μ : List Addr} {F : Hp} {vs : List V} {ds : List D} (r : Reps K μ F vs ds) : ∀ π : List Nat, Reps K μ F (permL π vs) (permL π ds)
  | [] => .nil
  | i :: π => by
    unfold permL
    simp only [List.filterMap_cons]
    cases h : ds[i]? with
    | none =>
      have h2 : vs[i]? = none := by
        rw [List.getElem?_eq_none_iff] at h ⊢
        rw [r.length]
        exact h
      rw [h2]
      exact Reps.perm r π
    | some d =>
      obtain ⟨v, h2, rv⟩ := r.get h
      rw [h2]
      exact .cons rv (Reps.perm r π)
theorem vals_perm {vs : List V} {us : List Value} (r : Vals vs us) : ∀ π : List Nat, Vals (permL π vs) (permL π us)
  | [] => .nil
  | i :: π => by
    unfold permL
    simp only [List.filterMap_cons]
    cases h : vs[i]? with
    | none =>
      rw [r.none_of h]
      exact vals_perm r π
    | some d =>
      obtain ⟨v, h2, rv⟩ := r.get h
      rw [h2]
      exact .cons rv (vals_perm r π)
def oCallK (np n m : Nat) (π : List Nat) (den : List D → Cells → Res D) (ds es : List D) (C : Cells) : Res D := if ds.length = n ∧ es.length = m ∧ (permL π (ds ++ es)).length = np then den (permL π (ds ++ es)) C else .stuck
def fAK (o : List D → List D → Cells → Res D) (fs fk : Rho → Cells → Res (List D)) : Rho → Cells → Res D := fun ρ C => (fs ρ C).bind fun xs C1 => (fk ρ C1).bind fun ys C2 => o xs ys C2
theorem be_callK {n : Nat} {π : List Nat} (G : FnG X.prog X.w X.K X.mg X.base k f fd ps (spD X.K X.mg ps.length den)) (hr : Room k X.A) (hgd : X.A.guards = some []) (tk : Takes X W) (hg : Gl X x) (hm : X.mg x = some (.ref f)) (hk : PySem.W.keepIn X.K (.ref f) = true) (hb : KOk X.K fd ps ks π n)
    (ha : BA X W (e :: es) fs) (hkw : BK X W kws fk) (hall : (backToKw pos (keywordEach kws X.env)).all (·.1.isSome) = true := by rfl) (hks : (backToKw pos (keywordEach kws X.env)).filterMap (·.1) = ks := by rfl)
    (hdb : (x == ("__debug__" : Str)) = false := by decide) (he : starEach (e :: es) X.env = (false, eval e X.env) :: starEach es X.env := by rfl)
    (hpl : ((backTo pos (starEach (e :: es) X.env)).any (·.1) || (backToKw pos (keywordEach kws X.env)).any (·.1.isNone)) = false := by rfl) :
    BE X W (.Call (.Name x p) (e :: es) kws pos) (fAK (oCallK ps.length n ks.length π den) fs fk) := by
  refine ⟨fun pins s σ H Q I h => ?_⟩
  obtain ⟨ρ, C, μ, F, S, E, k0⟩ := h
  refine wpAny_Call_Name_kw (ld_glob I hg hm (PySem.W.callWith_KW (h₀ := X.base) I.ok.mod.kin hk hall (thn (ha.run pos pins s σ H (fun vs H1 => rA X.K X.mg W fk σ H1 (fun ws H2 => ∃ ds C1 μ1 F1, Sim X.K μ1 F1 C1 H2 ∧ Reps X.K μ1 F1 (permL π (vs ++ ws)) ds ∧ vs.length = n ∧ ws.length = ks.length ∧ (permL π (vs ++ ws)).length = ps.length ∧ kd (RD X.K) X.K X.mg W (den ds C1) μ1 F1 σ H2 Q)) I ?_) fun us s1 hu => ?_) hpl he) hdb)
  · refine ⟨ρ, C, μ, F, S, E, kd_bind k0 fun d C1 v μ1 F1 H1 x1 s1 r1 h1 => ⟨ρ, C1, μ1, F1, s1, x1.env E, kd_bind h1 fun d2 C2 v2 μ2 F2 H2 x2 s2 r2 h2 => ?_⟩⟩
    unfold oCallK at h2
    split at h2
    · rename_i z
      have rr := ((x2.reps r1).append r2).perm π
      exact ⟨_, C2, μ2, F2, s2, rr, by rw [r1.length]; exact z.1, by rw [r2.length]; exact z.2.1, by rw [rr.length]; exact z.2.2, h2⟩
    · exact h2.elim
  · obtain ⟨vs, H1, I1, r, q⟩ := hu
    refine thn (hkw.run pos pins s1 σ H1 _ I1 q) fun ws s2 hw => ?_
    obtain ⟨zs, H2, I2, rz, ds, C1, μ1, F1, S1, rs, l1, l2, l3, h1⟩ := hw
    refine ⟨I2.kIn, ?_⟩
    rw [hks]
    have rv := vals_perm (r.append rz) π
    exact call_fnG G hr hgd tk I2 (hb.to s2 us ws I2.kIn (by rw [← r.length]; exact l1) (by rw [← rz.length]; exact l2)) rv S1 rs l3 h1
end

/-! ### the end of a law -/
section
theorem lawG {P : Program} {w : World} {K : PySem.W.Frag} {mg mb : Str → Option Value} {k : Nat} {fa a : Addr} {fd : FuncData} {x : Str} {den : List D → Cells → Res D} {C1 : Cells} {s1 : Shared} {vs : List Value} {ns : List Int}
    (inK : K.In s1.heap) (gl : s1.heap.Ns mainGlobals mg) (bl : s1.heap.Ns builtinsNs mb) (bl2 : ∀ x : Str, x ≠ "__name__" → mb x = bootBuiltins x) (lim : s1.heap.NoLimit) (gens : s1.gens = #[])
    (scr : s1.heap.get? a = some { cls := .type "list", data := .seq vs.toArray }) (isI : IntsAre vs ns) (few : ns.length ≤ sizeLine) (room : Room k callerA)
    (G : ∀ base : Heap, K.In base → base.Ns mainGlobals mg → FnG P w K mg base k fa fd [x] (spD K mg 1 den)) (bind : ∀ (s : Shared) (u : Value), BindsTo s fd ⟨[u], []⟩ [(x, u)])
    (good : den [.scr ns] [] = .ok (.bl true) C1) :
    codeAny (model P w) callerA (.call (.ref fa) ⟨[.ref a], []⟩) (fun r s' => r = .ok (.ret (.bool true)) ∧ OldK s1.heap s'.heap ∧ s'.os = s1.os ∧ AllBare s'.gens) s1 := by
  have rel := vals_ints isI
  -- what is tracked: the script, locked, unless it is one of the module's own objects
  have go : ∀ H : Hp, (∀ b u, H b = some u → b = a ∧ u = .frz { cls := .type "list", data := .seq vs.toArray } (.lst (ns.map V.int)) ∧ K.lookup a = none) → SqL K H a (ns.map V.int) →
      codeAny (model P w) callerA (.call (.ref fa) ⟨[.ref a], []⟩) (fun r s' => r = .ok (.ret (.bool true)) ∧ OldK s1.heap s'.heap ∧ s'.os = s1.os ∧ AllBare s'.gens) s1 := by
    intro H only seq
    have ok : HOk P w H s1.heap := fun b u e => by
      obtain ⟨rfl, rfl, _⟩ := only b u e
      exact ⟨scr, by rw [List.length_map]; exact few, vs, _, rel, scr⟩
    have hide : ∀ {b : Addr} {o : Obj}, s1.heap.get? b = some o → H b = none → (hidT s1.heap H).get? b = some o := fun e n => hidT_get e n
    have nodict : ∀ {b : Addr} {o : Obj} {es : Array DictEntry} {ep : Nat}, s1.heap.get? b = some o → o.data = .dict es ep → H b = none := by
      intro b o es ep e d
      cases q : H b with
      | none => rfl
      | some u =>
        obtain ⟨rfl, _, _⟩ := only b u q
        rw [scr] at e
        cases e
        have d' : Data.seq vs.toArray _ = Data.dict es ep := d
        cases d'
    have nsOf : ∀ {b : Addr} {m : Str → Option Value}, s1.heap.Ns b m → (hidT s1.heap H).Ns b m := fun ⟨o, es, ep, e, d, r⟩ => ⟨o, es, ep, hide e (nodict e d), d, r⟩
    have inB : K.In (hidT s1.heap H) := fun b o e => hide (inK b o e) (by
      cases q : H b with
      | none => rfl
      | some u =>
        obtain ⟨rfl, _, z⟩ := only b u q
        rw [z] at e
        cases e)
    have md : Mod K mg (hidT s1.heap H) := ⟨inB, nsOf gl, ⟨mb, nsOf bl, bl2⟩, let ⟨mc, h1, h2⟩ := lim; ⟨mc, nsOf h1, h2⟩⟩
    have env0 : Env0 P w K mg (hidT s1.heap H) callerA [] s1 H := ⟨rfl, md, fun b o e => of_hidT e, Nat.le_of_eq (hidT_size _ _), trivial, fun b hb => absurd (show b ∈ ([] : List Addr) from hb) List.not_mem_nil, ok, .of_eq gens⟩
    refine codeAny_mono ((G _ inB (nsOf gl)).run callerA [] s1 H ⟨[.ref a], []⟩ [.ref a] [.ref a] (fun v _ => v = .bl true) (fun _ _ _ => False) rfl room env0 (bind s1 (.ref a)) (.cons rfl .nil) ⟨rfl, [], H, [], [.scr ns], ?_, .cons (.scr seq) .nil, ?_⟩) fun r s' h => ?_
    · exact ⟨Same.refl H, rfl, .nil, fun a h => (nomatch h), fun k c a e _ => by simp at e⟩
    · rw [good]
      intro v μ' F' H' _ _ r
      cases r
      rfl
    · cases r with
      | error e =>
        obtain ⟨_, _, _, _, _, _, _, _, _, _, _, _, z⟩ := h
        exact z.elim
      | ok fl =>
        cases fl with
        | next => exact False.elim h
        | brk => exact False.elim h
        | cont => exact False.elim h
        | ret u =>
          obtain ⟨v, H', os, bare, un, ok', r', q⟩ := h
          subst q
          obtain rfl : u = Value.bool true := r'
          refine ⟨rfl, OldK.of_keep fun b o e => ?_, os, bare⟩
          cases q : H b with
          | none => exact un.keep b o e q (fun z => nomatch (show b ∈ ([] : List Addr) from z)) (by simp)
          | some u =>
            obtain ⟨rfl, rfl, _⟩ := only b u q
            obtain ⟨e2, _⟩ := ok' b _ (un.frzs b _ _ q)
            rw [scr] at e
            cases e
            exact e2
  cases hk : K.lookup a with
  | some o =>
    have e := inK a o hk
    rw [scr] at e
    cases e
    exact go (fun _ => none) (fun b u z => nomatch z) (.inr ⟨_, vs.toArray, _, hk, rfl, rfl, rfl, by rw [List.size_toArray, isI.length]; exact few, by simpa using rel⟩)
  | none =>
    refine go (fun b => if b = a then some (.frz { cls := .type "list", data := .seq vs.toArray } (.lst (ns.map V.int))) else none) (fun b u z => ?_) (.inl (.inr ⟨_, if_pos rfl⟩))
    by_cases hb : b = a
    · subst hb
      have z' := (if_pos rfl).symm.trans z
      cases z'
      exact ⟨rfl, rfl, hk⟩
    · have z' := (if_neg hb).symm.trans z
      cases z'
/-- the goal that k_head leaves, from the denotation of the law -/
theorem walkG {l : PySem.W.OpenLaw} {k : Nat} {q : Program} {loose : List Str} {XP : (Str → Option Value) → Heap → Prop} {YP : World → Heap → Prop} {d : DefRec} {K : Params → PySem.W.Frag} {x : Str} {den : List D → Cells → Res D}
    (hn : l.most = some 63) (hdf : d.params.defaults = []) (room : Room k callerA) (hY : ∀ (w : World) (h : Heap), YP w h → (K w.params).In h)
    (G : ∀ (w : World) (mg : Str → Option Value) (fa : Addr) (h : Heap), (K w.params).In h → h.Ns mainGlobals mg → mg d.name = some (.ref fa) →
      ∃ fd : FuncData, (∀ (s : Shared) (u : Value), BindsTo s fd ⟨[u], []⟩ [(x, u)]) ∧ ∀ base : Heap, (K w.params).In base → base.Ns mainGlobals mg → FnG l.prog w (K w.params) mg base k fa fd [x] (spD (K w.params) mg 1 den))
    (good : ∀ ns : List Int, ns.length ≤ 63 → ∃ C1, den [.scr ns] [] = .ok (.bl true) C1) : PySem.W.WalkO q loose XP YP l.row.toRowW d [] (fun f vs => PySem.call f vs) := by
  refine Att.attach_call hn hdf fun w s0 s1 mg mb fa o pm cd doc a vs ns T Y ho hd hcd hmg hobj isI len gens => ?_
  obtain ⟨fd, hb, hG⟩ := G w mg fa _ (hY w _ Y) T.T.g hmg
  obtain ⟨C1, hC⟩ := good ns len
  exact lawG (hY w _ Y) T.T.g T.T.b T.T.builtins T.T.nolimit gens hobj isI (Nat.le_trans len (by rw [sizeLine_eq]; decide)) room hG hb hC
end
end BV
namespace BV
open PySem PySem.Spec PyProof.Rows L2
theorem bb_len : bootBuiltins "len" = some (.builtin "len") := by decide +kernel
theorem bb_abs : bootBuiltins "abs" = some (.builtin "abs") := by decide +kernel
theorem bb_max : bootBuiltins "max" = some (.builtin "max") := by decide +kernel
theorem bb_min : bootBuiltins "min" = some (.builtin "min") := by decide +kernel
theorem bb_sum : bootBuiltins "sum" = some (.builtin "sum") := by decide +kernel
theorem bb_all : bootBuiltins "all" = some (.builtin "all") := by decide +kernel
theorem bb_any : bootBuiltins "any" = some (.builtin "any") := by decide +kernel
theorem bb_repr : bootBuiltins "repr" = some (.builtin "repr") := by decide +kernel
theorem bb_int : bootBuiltins "int" = some (.type "int") := by decide +kernel
theorem bb_bool : bootBuiltins "bool" = some (.type "bool") := by decide +kernel
theorem bb_str : bootBuiltins "str" = some (.type "str") := by decide +kernel
theorem bb_list : bootBuiltins "list" = some (.type "list") := by decide +kernel
theorem bb_tuple : bootBuiltins "tuple" = some (.type "tuple") := by decide +kernel
theorem hu65 {k : Nat} {A : Around} (r : Room k A) : A.units + 65 < cLine := by have := r.un; omega
theorem hu64 {k : Nat} {A : Around} (r : Room k A) : A.units + 64 < cLine := by have := r.un; omega
section
variable {X : Cx} {W : WX} {x : Str} {p pos : Pos}
theorem be_gint {i : Int} (hg : Gl X x) (h : ∃ t, X.mg x = some (.int i t)) (hd : (x == ("__debug__" : Str)) = false := by decide) : BE X W (.Name x p) (fC (.int i)) := by
  obtain ⟨t, e⟩ := h
  exact be_c (v := .int i) (pe_glob hg e (show RelV (.int i) (.int i t) from ⟨t, rfl⟩) hd) fun _ _ => .int i
theorem be_gstr {i : Str} (hg : Gl X x) (h : ∃ t, X.mg x = some (.str i t)) (hd : (x == ("__debug__" : Str)) = false := by decide) : BE X W (.Name x p) (fC (.str i)) := by
  obtain ⟨t, e⟩ := h
  exact be_c (v := .str i) (pe_glob hg e (show RelV (.str i) (.str i t) from ⟨t, rfl⟩) hd) fun _ _ => .str i
variable {k : Nat} {f : Addr} {fd : FuncData} {ps ks : List Str} {den : List D → Cells → Res D} {kws : List Keyword} {fk : Rho → Cells → Res (List D)}
def fK0 (o : List D → Cells → Res D) (fk : Rho → Cells → Res (List D)) : Rho → Cells → Res D := fun ρ C => (fk ρ C).bind fun ys C2 => o ys C2
def oCallK0 (np m : Nat) (π : List Nat) (den : List D → Cells → Res D) (es : List D) (C : Cells) : Res D := if es.length = m ∧ (permL π es).length = np then den (permL π es) C else .stuck
theorem be_callK0 {π : List Nat} (G : FnG X.prog X.w X.K X.mg X.base k f fd ps (spD X.K X.mg ps.length den)) (hr : Room k X.A) (hgd : X.A.guards = some []) (tk : Takes X W) (hg : Gl X x) (hm : X.mg x = some (.ref f)) (hk : PySem.W.keepIn X.K (.ref f) = true) (hb : KOk X.K fd ps ks π 0)
    (hkw : BK X W kws fk) (hall : (backToKw pos (keywordEach kws X.env)).all (·.1.isSome) = true := by rfl) (hks : (backToKw pos (keywordEach kws X.env)).filterMap (·.1) = ks := by rfl)
    (hdb : (x == ("__debug__" : Str)) = false := by decide) (hpl : ((backTo pos (starEach [] X.env)).any (·.1) || (backToKw pos (keywordEach kws X.env)).any (·.1.isNone)) = false := by rfl) :
    BE X W (.Call (.Name x p) [] kws pos) (fK0 (oCallK0 ps.length ks.length π den) fk) := by
  refine ⟨fun pins s σ H Q I h => ?_⟩
  obtain ⟨ρ, C, μ, F, S, E, k0⟩ := h
  refine wpAny_Call_Name_kw (ld_glob I hg hm (PySem.W.callWith_KW0 (h₀ := X.base) I.ok.mod.kin hk hall (thn (hkw.run pos pins s σ H (fun ws H2 => ∃ ds C1 μ1 F1, Sim X.K μ1 F1 C1 H2 ∧ Reps X.K μ1 F1 (permL π ws) ds ∧ ws.length = ks.length ∧ (permL π ws).length = ps.length ∧ kd (RD X.K) X.K X.mg W (den ds C1) μ1 F1 σ H2 Q) I ?_) fun ws s2 hw => ?_) hpl) hdb)
  · refine ⟨ρ, C, μ, F, S, E, kd_bind k0 fun d2 C2 v2 μ2 F2 H2 x2 s2 r2 h2 => ?_⟩
    unfold oCallK0 at h2
    split at h2
    · rename_i z
      have rr := r2.perm π
      exact ⟨_, C2, μ2, F2, s2, rr, by rw [r2.length]; exact z.1, by rw [rr.length]; exact z.2, h2⟩
    · exact h2.elim
  · obtain ⟨zs, H2, I2, rz, ds, C1, μ1, F1, S1, rs, l2, l3, h1⟩ := hw
    refine ⟨I2.kIn, ?_⟩
    rw [hks]
    exact call_fnG G hr hgd tk I2 (hb.to s2 [] ws I2.kIn rfl (by rw [← rz.length]; exact l2)) (vals_perm rz π) S1 rs l3 h1
end
/-- a def of the module: where it stands, what its name is bound to -/
structure DefAt (K : PySem.W.Frag) (mg : Str → Option Value) (x : Str) (st : Stmt) (ps : List Str) (f : Addr) (fd : FuncData) : Prop where
  F : Fun K x x st f fd
  m : mg x = some (.ref f)
  b : Binds K fd ps []
  e : ∃ kV doc pm an cdv ct, fd = PySem.W.fnOf x x (defArgs st) (defBody st) (defScope st) .none kV doc pm an cdv ct
theorem defAt_mk {K : PySem.W.Frag} {mg : Str → Option Value} {h : Heap} {x : Str} {st : Stmt} {ps : List Str} {f : Addr} {oc : Value} {od an : Option Addr} {osl : Array (Option Value)} {kV doc pm cdv ct : Value} (X : K.In h) (G : h.Ns mainGlobals mg)
    (a : PySem.W.nsIn K mainGlobals x = some (some (.ref f))) (l : K.lookup f = some ⟨oc, od, .func (PySem.W.fnOf x x (defArgs st) (defBody st) (defScope st) .none kV doc pm an cdv ct), osl⟩) (c : PySem.W.codeIn K cdv x = true) (k : PySem.W.keepIn K (.ref f) = true)
    (hb : ∀ (kV doc pm : Value) (an : Option Addr) (cdv ct : Value) (us : List Value), us.length = ps.length → bindArgs (PySem.W.fnOf x x (defArgs st) (defBody st) (defScope st) .none kV doc pm an cdv ct) ⟨us, []⟩ = pure (ps.zip us)) :
    DefAt K mg x st ps f (PySem.W.fnOf x x (defArgs st) (defBody st) (defScope st) .none kV doc pm an cdv ct) :=
  ⟨fun_mk l c k, PySem.W.mg_of X G a, (fun_mk l c k).binds hb, ⟨kV, doc, pm, an, cdv, ct, rfl⟩⟩
theorem kOk_mk {K : PySem.W.Frag} {mg : Str → Option Value} {x : Str} {st : Stmt} {ps ks : List Str} {f : Addr} {fd : FuncData} {π : List Nat} {n : Nat} (Da : DefAt K mg x st ps f fd)
    (hb : ∀ (kV doc pm : Value) (an : Option Addr) (cdv ct : Value) (us ws : List Value), us.length = n → ws.length = ks.length → bindArgs (PySem.W.fnOf x x (defArgs st) (defBody st) (defScope st) .none kV doc pm an cdv ct) ⟨us, ks.zip ws⟩ = pure (ps.zip (permL π (us ++ ws)))) : KOk K fd ps ks π n := by
  obtain ⟨kV, doc, pm, an, cdv, ct, rfl⟩ := Da.e
  exact ⟨fun s us ws _ h1 h2 => .of_eq (hb kV doc pm an cdv ct us ws h1 h2)⟩
end BV
namespace BV
open PySem PySem.Spec PyProof.Rows L2

/-! ### reckoning with denotations -/
@[simp] theorem e_var (i : Nat) (ρ : Rho) (C : Cells) : fVar i ρ C = match ρ[i]? with | some (some d) => .ok d C | _ => .stuck := rfl
@[simp] theorem e_c (d : D) (ρ : Rho) (C : Cells) : fC d ρ C = .ok d C := rfl
@[simp] theorem e_f1 (o : D → Cells → Res D) (f : Rho → Cells → Res D) (ρ : Rho) (C : Cells) : f1 o f ρ C = (f ρ C).bind fun x C1 => o x C1 := rfl
@[simp] theorem e_f2 (o : D → D → Cells → Res D) (f g : Rho → Cells → Res D) (ρ : Rho) (C : Cells) : f2 o f g ρ C = (f ρ C).bind fun x C1 => (g ρ C1).bind fun y C2 => o x y C2 := rfl
@[simp] theorem e_fA (o : List D → Cells → Res D) (f : Rho → Cells → Res (List D)) (ρ : Rho) (C : Cells) : fA o f ρ C = (f ρ C).bind fun x C1 => o x C1 := rfl
@[simp] theorem e_aNil (ρ : Rho) (C : Cells) : aNil ρ C = .ok [] C := rfl
@[simp] theorem e_aCons (f : Rho → Cells → Res D) (fs : Rho → Cells → Res (List D)) (ρ : Rho) (C : Cells) : aCons f fs ρ C = (f ρ C).bind fun x C1 => (fs ρ C1).bind fun xs C2 => .ok (x :: xs) C2 := rfl
/-- by a datum that is to be a bool -/
def bl3 {α : Type} (d : D) (x y z : α) : α := match d with
  | .bl true => x
  | .bl false => y
  | _ => z
@[simp] theorem bl3_bl {α : Type} (b : Bool) (x y z : α) : bl3 (.bl b) x y z = if b = true then x else y := by cases b <;> rfl
@[simp] theorem bl3_non {α : Type} (x y z : α) : bl3 .non x y z = z := rfl
@[simp] theorem bl3_int {α : Type} (i : Int) (x y z : α) : bl3 (.int i) x y z = z := rfl
@[simp] theorem e_and (f g : Rho → Cells → Res D) (ρ : Rho) (C : Cells) : andD f g ρ C = (f ρ C).bind fun x C1 => bl3 x (g ρ C1) (.ok (.bl false) C1) .stuck := rfl
@[simp] theorem e_or (f g : Rho → Cells → Res D) (ρ : Rho) (C : Cells) : orD f g ρ C = (f ρ C).bind fun x C1 => bl3 x (.ok (.bl true) C1) (g ρ C1) .stuck := rfl
@[simp] theorem e_not (f : Rho → Cells → Res D) (ρ : Rho) (C : Cells) : notD f ρ C = (f ρ C).bind fun x C1 => match x with | .bl b => .ok (.bl !b) C1 | _ => .stuck := rfl
@[simp] theorem e_if (t f g : Rho → Cells → Res D) (ρ : Rho) (C : Cells) : ifD t f g ρ C = (t ρ C).bind fun x C1 => bl3 x (f ρ C1) (g ρ C1) .stuck := rfl
@[simp] theorem e_chain (o o' : D → D → Cells → Res D) (f g h : Rho → Cells → Res D) (ρ : Rho) (C : Cells) : chainD o o' f g h ρ C = (f ρ C).bind fun x C1 => (g ρ C1).bind fun y C2 => (o x y C2).bind fun z C3 => bl3 z ((h ρ C3).bind fun w C4 => o' y w C4) (.ok (.bl false) C3) .stuck := rfl
@[simp] theorem e_sSeq (f g : Rho → Cells → Out) (ρ : Rho) (C : Cells) : sSeq f g ρ C = (f ρ C).then_ g := rfl
@[simp] theorem e_sNil (ρ : Rho) (C : Cells) : sNil ρ C = .nx ρ C := rfl
@[simp] theorem e_sBk (ρ : Rho) (C : Cells) : sBk ρ C = .bk ρ C := rfl
@[simp] theorem e_sCt (ρ : Rho) (C : Cells) : sCt ρ C = .ct ρ C := rfl
@[simp] theorem e_sExpr (f : Rho → Cells → Res D) (ρ : Rho) (C : Cells) : sExpr f ρ C = (f ρ C).out ρ fun _ C1 => .nx ρ C1 := rfl
@[simp] theorem e_sRet (f : Rho → Cells → Res D) (ρ : Rho) (C : Cells) : sRet f ρ C = (f ρ C).out ρ fun d C1 => .rt d C1 := rfl
@[simp] theorem e_sRetN (ρ : Rho) (C : Cells) : sRetN ρ C = .rt .non C := rfl
@[simp] theorem e_sIf (t : Rho → Cells → Res D) (f g : Rho → Cells → Out) (ρ : Rho) (C : Cells) : sIf t f g ρ C = (toB (t ρ C)).out ρ fun b C1 => if b then f ρ C1 else g ρ C1 := rfl
@[simp] theorem e_sNever (ρ : Rho) (C : Cells) : sNever ρ C = .stuck := rfl
@[simp] theorem e_sSet (i : Nat) (f : Rho → Cells → Res D) (ρ : Rho) (C : Cells) : sSet i f ρ C = (f ρ C).out ρ fun d C1 => .nx (ρ.set i (some d)) C1 := rfl
@[simp] theorem e_sAsg (f : Rho → Cells → Res D) (t : D → Rho → Option Rho) (ρ : Rho) (C : Cells) : sAsg f t ρ C = (f ρ C).out ρ fun d C1 => match t d ρ with | some ρ' => .nx ρ' C1 | none => .stuck := rfl
@[simp] theorem e_sPar (i j : Nat) (fs : Rho → Cells → Res (List D)) (ρ : Rho) (C : Cells) : sPar i j fs ρ C = (fs ρ C).out ρ fun ds C1 => match ds with | [x, y] => .nx ((ρ.set i (some x)).set j (some y)) C1 | _ => .stuck := rfl
@[simp] theorem e_sPar3 (i j l : Nat) (fs : Rho → Cells → Res (List D)) (ρ : Rho) (C : Cells) : sPar3 i j l fs ρ C = (fs ρ C).out ρ fun ds C1 => match ds with | [x, y, z] => .nx (((ρ.set i (some x)).set j (some y)).set l (some z)) C1 | _ => .stuck := rfl
@[simp] theorem e_sSto (f fo fi : Rho → Cells → Res D) (ρ : Rho) (C : Cells) : sSto f fo fi ρ C = (f ρ C).out ρ fun v C1 => (fo ρ C1).out ρ fun x C2 => (fi ρ C2).out ρ fun i C3 => match stoD x i v C3 with | some C4 => .nx ρ C4 | none => .stuck := rfl
@[simp] theorem e_sFor (fi : Rho → Cells → Res Src) (t : D → Rho → Option Rho) (b : Rho → Cells → Out) (ρ : Rho) (C : Cells) : sFor fi t b ρ C = (fi ρ C).out ρ fun ds C1 => forS t b ds ρ C1 := rfl
@[simp] theorem e_sWhile (n : Nat) (c : Rho → Cells → Res D) (b : Rho → Cells → Out) (ρ : Rho) (C : Cells) : sWhile n c b ρ C = whileL c b n ρ C := rfl
@[simp] theorem e_tgN (i : Nat) (d : D) (ρ : Rho) : tgN i d ρ = some (ρ.set i (some d)) := rfl
@[simp] theorem e_toB_t (b : Bool) (C : Cells) : toB (.ok (.bl b) C) = .ok b C := rfl
@[simp] theorem e_toB_ex (c : Str) (p : D) (C : Cells) : toB (.ex c p C) = .ex c p C := rfl
@[simp] theorem e_iSeq (f : Rho → Cells → Res D) (ρ : Rho) (C : Cells) : iSeq f ρ C = (f ρ C).bind fun d C1 => match d with
  | .lst ds => .ok (.fix ds) C1
  | .tup ds => .ok (.fix ds) C1
  | .scr ns => .ok (.fix (ns.map .int)) C1
  | .cel k => match cLen k C1 with
    | some n => .ok (.cel k n) C1
    | none => .stuck
  | _ => .stuck := rfl
@[simp] theorem e_iRg (fr : Rho → Cells → Res (Int × Int)) (ρ : Rho) (C : Cells) : iRg fr ρ C = (fr ρ C).bind fun p C1 => if RgOk p.1 p.2 then .ok (.fix (rg p.1 p.2)) C1 else .stuck := rfl
@[simp] theorem e_rg1 (f : Rho → Cells → Res D) (ρ : Rho) (C : Cells) : rg1 f ρ C = (f ρ C).bind fun x C1 => match x with | .int j => .ok ((0 : Int), j) C1 | _ => .stuck := rfl
@[simp] theorem e_rg2 (f g : Rho → Cells → Res D) (ρ : Rho) (C : Cells) : rg2 f g ρ C = (f ρ C).bind fun x C1 => (g ρ C1).bind fun y C2 => match x, y with | .int i, .int j => .ok (i, j) C2 | _, _ => .stuck := rfl
@[simp] theorem e_fSl (m : Bool) (f : Rho → Cells → Res D) (l h : Rho → Cells → Res (Option Int)) (ρ : Rho) (C : Cells) : fSl m f l h ρ C = (f ρ C).bind fun x C1 => (l ρ C1).bind fun lo C2 => (h ρ C2).bind fun hi C3 => slD m x lo hi C3 := rfl
@[simp] theorem e_pNo (ρ : Rho) (C : Cells) : pNo ρ C = .ok none C := rfl
@[simp] theorem e_pSo (f : Rho → Cells → Res D) (ρ : Rho) (C : Cells) : pSo f ρ C = (f ρ C).bind fun x C1 => match x with | .int i => .ok (some i) C1 | _ => .stuck := rfl
theorem e_fLc (m : Bool) (vs : List Nat) (fi : Rho → Cells → Res Src) (t : D → Rho → Option Rho) (ft fe : Rho → Cells → Res D) (ρ : Rho) (C : Cells) : fLc m vs fi t ft fe ρ C = (fi ρ C).bind fun ds C1 => (lcS t ft fe (wipeD ρ vs) ds C1).bind fun ys C2 => if ys.length < 16777216 then mkL m ys C2 else .stuck := by
  unfold fLc
  rw [sizeLine_eq]
@[simp] theorem e_fYes (ρ : Rho) (C : Cells) : fYes ρ C = .ok (.bl true) C := rfl
@[simp] theorem e_fMt1 (o : D → D → Cells → Res D) (f g : Rho → Cells → Res D) (ρ : Rho) (C : Cells) : fMt1 o f g ρ C = (f ρ C).bind fun x C1 => match asL x C1 with | some _ => (g ρ C1).bind fun v C2 => o x v C2 | none => .stuck := rfl
@[simp] theorem e_oCall (np : Nat) (den : List D → Cells → Res D) (ds : List D) (C : Cells) : oCall np den ds C = if ds.length = np then den ds C else .stuck := rfl
@[simp] theorem e_fK0 (o : List D → Cells → Res D) (fk : Rho → Cells → Res (List D)) (ρ : Rho) (C : Cells) : fK0 o fk ρ C = (fk ρ C).bind fun ys C2 => o ys C2 := rfl
@[simp] theorem e_fAK (o : List D → List D → Cells → Res D) (fs fk : Rho → Cells → Res (List D)) (ρ : Rho) (C : Cells) : fAK o fs fk ρ C = (fs ρ C).bind fun xs C1 => (fk ρ C1).bind fun ys C2 => o xs ys C2 := rfl
@[simp] theorem e_wipe_nil (ρ : Rho) : wipeD ρ [] = ρ := rfl
@[simp] theorem e_wipe_cons (ρ : Rho) (v : Nat) (vs : List Nat) : wipeD ρ (v :: vs) = (wipeD ρ vs).set v none := rfl
@[simp] theorem e_loop_nx (ρ : Rho) (C : Cells) (k : Rho → Cells → Out) : (Out.nx ρ C).loop k = k ρ C := rfl
@[simp] theorem e_loop_ct (ρ : Rho) (C : Cells) (k : Rho → Cells → Out) : (Out.ct ρ C).loop k = k ρ C := rfl
@[simp] theorem e_loop_bk (ρ : Rho) (C : Cells) (k : Rho → Cells → Out) : (Out.bk ρ C).loop k = .nx ρ C := rfl
@[simp] theorem e_loop_rt (d : D) (C : Cells) (k : Rho → Cells → Out) : (Out.rt d C).loop k = .rt d C := rfl
@[simp] theorem e_loop_ex (c : Str) (p : D) (ρ : Rho) (C : Cells) (k : Rho → Cells → Out) : (Out.ex c p ρ C).loop k = .ex c p ρ C := rfl
@[simp] theorem e_loop_stuck (k : Rho → Cells → Out) : Out.stuck.loop k = .stuck := rfl
@[simp] theorem e_mkL_f (ds : List D) (C : Cells) : mkL false ds C = .ok (.lst ds) C := rfl
@[simp] theorem e_mkL_t (ds : List D) (C : Cells) : mkL true ds C = .ok (.cel C.length) (C ++ [.lst ds]) := rfl
@[simp] theorem e_forS_fix (t : D → Rho → Option Rho) (b : Rho → Cells → Out) (ds : List D) : forS t b (.fix ds) = forL t b ds := rfl
@[simp] theorem e_forS_cel (t : D → Rho → Option Rho) (b : Rho → Cells → Out) (k n : Nat) : forS t b (.cel k n) = forC t b k n n := rfl
@[simp] theorem e_lcS_fix (t : D → Rho → Option Rho) (ft fe : Rho → Cells → Res D) (ρ : Rho) (ds : List D) : lcS t ft fe ρ (.fix ds) = lcL t ft fe ρ ds := rfl
@[simp] theorem e_lcS_cel (t : D → Rho → Option Rho) (ft fe : Rho → Cells → Res D) (ρ : Rho) (k n : Nat) : lcS t ft fe ρ (.cel k n) = lcC t ft fe ρ k n n := rfl
/-- operators on ints -/
@[simp] theorem e_add_ii (m : Bool) (i j : Int) (C : Cells) : addD m (.int i) (.int j) C = .ok (.int (i + j)) C := rfl
@[simp] theorem e_sub_ii (i j : Int) (C : Cells) : subD (.int i) (.int j) C = .ok (.int (i - j)) C := rfl
@[simp] theorem e_mul_ii (m : Bool) (i j : Int) (C : Cells) : mulD m (.int i) (.int j) C = if CMul i j then .ok (.int (i * j)) C else .stuck := rfl
@[simp] theorem e_fdiv_ii (i j : Int) (C : Cells) : fdivD (.int i) (.int j) C = if CDiv i j then .ok (.int (i / j)) C else .stuck := rfl
@[simp] theorem e_mod_ii (i j : Int) (C : Cells) : modD (.int i) (.int j) C = if 0 < j then .ok (.int (i % j)) C else .stuck := rfl
@[simp] theorem e_pow_ii (i j : Int) (C : Cells) : powD (.int i) (.int j) C = if CPow i j then .ok (.int (i ^ j.toNat)) C else .stuck := rfl
@[simp] theorem e_neg_i (i : Int) (C : Cells) : negD (.int i) C = .ok (.int (-i)) C := rfl
@[simp] theorem e_cmp_ii (p : Int → Int → Bool) (i j : Int) (C : Cells) : cmpI p (.int i) (.int j) C = .ok (.bl (p i j)) C := rfl
@[simp] theorem e_isN (neg : Bool) (x : D) (C : Cells) : isD neg x .non C = .ok (.bl (if neg then !isNon x else isNon x)) C := rfl
@[simp] theorem e_isB (neg : Bool) (a b : Bool) (C : Cells) : isD neg (.bl a) (.bl b) C = .ok (.bl (if neg then !decide (a = b) else decide (a = b))) C := rfl
@[simp] theorem e_int_i (i : Int) (C : Cells) : oInt [.int i] C = .ok (.int i) C := rfl
@[simp] theorem e_abs_i (i : Int) (C : Cells) : oAbs [.int i] C = .ok (.int (if i < 0 then -i else i)) C := rfl
@[simp] theorem e_max_ii (i j : Int) (C : Cells) : oMax [.int i, .int j] C = .ok (.int (if j > i then j else i)) C := rfl
@[simp] theorem e_min_ii (i j : Int) (C : Cells) : oMin [.int i, .int j] C = .ok (.int (if j < i then j else i)) C := rfl

/-! ### leaving a def -/
mutual
theorem celOk_mono {n m : Nat} (h : n ≤ m) : ∀ d : D, celOk n d = true → celOk m d = true
  | .non, _ => rfl
  | .bl _, _ => rfl
  | .int _, _ => rfl
  | .str _, _ => rfl
  | .scr _, _ => rfl
  | .tup ds, e => by simp only [celOk] at e ⊢; exact celsOk_mono h ds e
  | .lst ds, e => by simp only [celOk] at e ⊢; exact celsOk_mono h ds e
  | .cel k, e => by simp only [celOk, decide_eq_true_eq] at e ⊢; omega
theorem celsOk_mono {n m : Nat} (h : n ≤ m) : ∀ ds : List D, celsOk n ds = true → celsOk m ds = true
  | [], _ => rfl
  | d :: ds, e => by
    simp only [celsOk, Bool.and_eq_true] at e ⊢
    exact ⟨celOk_mono h d e.1, celsOk_mono h ds e.2⟩
end
/-- no cell holds a cell -/
def Flat (C : Cells) : Prop := ∀ c ∈ C, cellOk 0 c = true
theorem Flat.nil : Flat [] := fun _ h => nomatch h
theorem Flat.append {C T : Cells} (h : Flat C) (g : Flat T) : Flat (C ++ T) := fun c hc => (List.mem_append.mp hc).elim (h c) (g c)
theorem Flat.one {ds : List D} (h : celsOk 0 ds = true) : Flat [.lst ds] := fun c hc => by
  simp at hc
  subst hc
  exact h
theorem Flat.set {C : Cells} (h : Flat C) (k : Nat) {ds : List D} (g : celsOk 0 ds = true) : Flat (C.set k (.lst ds)) := fun c hc => by
  rcases List.mem_or_eq_of_mem_set hc with z | z
  · exact h c z
  · subst z
    exact g
theorem Flat.ok {C : Cells} (h : Flat C) (n : Nat) : C.all (cellOk n) = true := List.all_eq_true.mpr fun c hc => by
  have := h c hc
  cases c with
  | dead => rfl
  | lst ds => exact celsOk_mono (Nat.zero_le _) ds this
@[simp] theorem take_app (C T : Cells) : (C ++ T).take C.length = C := by simp
/-- a def that hands back a value, its own cells at the end -/
theorem fin_val {m : Bool} {d : D} {C C' : Cells} (hC : Flat (C'.take C.length)) (hd : celOk C.length d = true) : okFin m C.length d C' = .ok d (C'.take C.length) := by
  unfold okFin
  rw [if_pos (hC.ok _)]
  cases d with
  | cel k =>
    simp only [celOk, decide_eq_true_eq] at hd
    simp [hd]
  | _ => simp only [hd, if_true]
/-- .. its own cell, as a cell -/
theorem fin_cel {k : Nat} {C C' : Cells} {ds : List D} (hC : Flat (C'.take C.length)) (hk : C.length ≤ k) (h : C'[k]? = some (.lst ds)) (hd : celsOk C.length ds = true) : okFin true C.length (.cel k) C' = .ok (.cel C.length) (C'.take C.length ++ [.lst ds]) := by
  unfold okFin
  rw [if_pos (hC.ok _)]
  simp [Nat.not_lt.mpr hk, h, hd]
theorem fin_frz {k : Nat} {C C' : Cells} {ds : List D} (hC : Flat (C'.take C.length)) (hk : C.length ≤ k) (h : C'[k]? = some (.lst ds)) (hd : celsOk C.length ds = true) : okFin false C.length (.cel k) C' = .ok (.lst ds) (C'.take C.length) := by
  unfold okFin
  rw [if_pos (hC.ok _)]
  simp [Nat.not_lt.mpr hk, h, hd]
theorem den_rt {m : Bool} {np N : Nat} {fb : Rho → Cells → Out} {ds : List D} {C C' : Cells} {d : D} (hl : ds.length = np) (h : fb (ds.map some ++ List.replicate (N - np) none) C = .rt d C') : denF m np N fb ds C = okFin m C.length d C' := by
  unfold denF
  rw [if_pos hl, h]
  rfl
/-- a value handed back; whatever cells the def made are gone -/
theorem den_val {m : Bool} {np N : Nat} {fb : Rho → Cells → Out} {ds : List D} {C : Cells} {d : D} (T : Cells) (hC : Flat C) (hl : ds.length = np) (h : fb (ds.map some ++ List.replicate (N - np) none) C = .rt d (C ++ T)) (hd : celOk C.length d = true) : denF m np N fb ds C = .ok d C := by
  rw [den_rt hl h, fin_val (by simpa using hC) hd, take_app]
theorem den_val0 {m : Bool} {np N : Nat} {fb : Rho → Cells → Out} {ds : List D} {C : Cells} {d : D} (hC : Flat C) (hl : ds.length = np) (h : fb (ds.map some ++ List.replicate (N - np) none) C = .rt d C) (hd : celOk C.length d = true) : denF m np N fb ds C = .ok d C :=
  den_val [] hC hl (by simpa using h) hd
theorem den_mut {m : Bool} {np N : Nat} {fb : Rho → Cells → Out} {ds : List D} {C C' : Cells} {d : D} (T : Cells) (hC : Flat C') (hl : ds.length = np) (hs : C'.length = C.length) (h : fb (ds.map some ++ List.replicate (N - np) none) C = .rt d (C' ++ T)) (hd : celOk C.length d = true) : denF m np N fb ds C = .ok d C' := by
  rw [den_rt hl h]
  have e : (C' ++ T).take C.length = C' := by rw [← hs]; simp
  rw [fin_val (by rw [e]; exact hC) hd, e]

/-! ### indexing -/
theorem asS_cel {C : Cells} {k : Nat} {ds : List D} (h : C[k]? = some (.lst ds)) : asS (.cel k) C = some ds := by simp [asS, h]
theorem asL_celE {C : Cells} {k : Nat} {ds : List D} (h : C[k]? = some (.lst ds)) : asL (.cel k) C = some ds := by simp [asL, h]
@[simp] theorem asS_tup (ds : List D) (C : Cells) : asS (.tup ds) C = some ds := rfl
@[simp] theorem asS_lst (ds : List D) (C : Cells) : asS (.lst ds) C = some ds := rfl
@[simp] theorem asS_scr (ns : List Int) (C : Cells) : asS (.scr ns) C = some (ns.map .int) := rfl
@[simp] theorem asL_lst (ds : List D) (C : Cells) : asL (.lst ds) C = some ds := rfl
theorem ixN_of {n : Nat} {i : Int} (h0 : 0 ≤ i) (h1 : i < n) : ixN n i = some i.toNat := by
  unfold ixN
  rw [if_pos h0, if_pos h1]
theorem atI_of {xs : List D} {i : Int} {d : D} (h0 : 0 ≤ i) (h : xs[i.toNat]? = some d) : atI xs i = some d := by
  have h1 := (List.getElem?_eq_some_iff.mp h).1
  unfold atI
  rw [ixN_of h0 (by omega)]
  exact h
theorem ix_of {x : D} {C : Cells} {ds : List D} {i : Int} {d : D} (e : asS x C = some ds) (h0 : 0 ≤ i) (h : ds[i.toNat]? = some d) : ixD x (.int i) C = .ok d C := by
  unfold ixD
  rw [e]
  simp only
  rw [atI_of h0 h]
theorem ix_cel {C : Cells} {k : Nat} {ds : List D} {i : Int} {d : D} (e : C[k]? = some (.lst ds)) (h0 : 0 ≤ i) (h : ds[i.toNat]? = some d) : ixD (.cel k) (.int i) C = .ok d C := ix_of (asS_cel e) h0 h
@[simp] theorem ix_tup0 (a : D) (xs : List D) (C : Cells) : ixD (.tup (a :: xs)) (.int 0) C = .ok a C := ix_of rfl (by decide) rfl
@[simp] theorem ix_tup1 (a b : D) (xs : List D) (C : Cells) : ixD (.tup (a :: b :: xs)) (.int 1) C = .ok b C := ix_of rfl (by decide) rfl
@[simp] theorem ix_tup2 (a b c : D) (xs : List D) (C : Cells) : ixD (.tup (a :: b :: c :: xs)) (.int 2) C = .ok c C := ix_of rfl (by decide) rfl
@[simp] theorem ix_lst0 (a : D) (xs : List D) (C : Cells) : ixD (.lst (a :: xs)) (.int 0) C = .ok a C := ix_of rfl (by decide) rfl
@[simp] theorem ix_lst1 (a b : D) (xs : List D) (C : Cells) : ixD (.lst (a :: b :: xs)) (.int 1) C = .ok b C := ix_of rfl (by decide) rfl
theorem sto_of {C : Cells} {k : Nat} {ds : List D} {i : Int} {v : D} (e : C[k]? = some (.lst ds)) (h0 : 0 ≤ i) (h1 : i < ds.length) : stoD (.cel k) (.int i) v C = some (C.set k (.lst (ds.set i.toNat v))) := by
  unfold stoD
  simp only [e]
  rw [ixN_of h0 h1]
@[simp] theorem oLen_tup (ds : List D) (C : Cells) : oLen [.tup ds] C = .ok (.int ds.length) C := rfl
@[simp] theorem oLen_lst (ds : List D) (C : Cells) : oLen [.lst ds] C = .ok (.int ds.length) C := rfl
@[simp] theorem oLen_scr (ns : List Int) (C : Cells) : oLen [.scr ns] C = .ok (.int ns.length) C := by simp [oLen]
theorem oLen_cel {C : Cells} {k : Nat} {ds : List D} (e : C[k]? = some (.lst ds)) : oLen [.cel k] C = .ok (.int ds.length) C := by simp [oLen, asS_cel e]
theorem set_get {C : Cells} {k : Nat} {c c' : Cell} (e : C[k]? = some c') : (C.set k c)[k]? = some c := by
  have := (List.getElem?_eq_some_iff.mp e).1
  simp [this]
theorem cmul_of {i j : Int} (h : (-(2 ^ 64) < j ∧ j < 2 ^ 64) ∨ (-(2 ^ 64) < i ∧ i < 2 ^ 64)) : CMul i j := h.elim .inr .inl
@[simp] theorem e_oLst (m : Bool) (xs : List D) (C : Cells) : oLst m xs C = if xs.length ≤ 16777216 then mkL m xs C else .stuck := by
  unfold oLst
  rw [sizeLine_eq]
@[simp] theorem e_oTup (xs : List D) (C : Cells) : oTup xs C = if xs.length ≤ 16777216 then .ok (.tup xs) C else .stuck := by
  unfold oTup
  rw [sizeLine_eq]
@[simp] theorem e_add_tt (m : Bool) (xs ys : List D) (C : Cells) : addD m (.tup xs) (.tup ys) C = if xs.length + ys.length ≤ 16777216 then .ok (.tup (xs ++ ys)) C else .stuck := by
  show (if xs.length + ys.length ≤ sizeLine then _ else _) = _
  rw [sizeLine_eq]
@[simp] theorem e_add_ll (m : Bool) (xs ys : List D) (C : Cells) : addD m (.lst xs) (.lst ys) C = if xs.length + ys.length ≤ 16777216 then mkL m (xs ++ ys) C else .stuck := by
  show (if xs.length + ys.length ≤ sizeLine then _ else _) = _
  rw [sizeLine_eq]
@[simp] theorem e_sl_t (m : Bool) (xs : List D) (lo hi : Option Int) (C : Cells) : slD m (.tup xs) lo hi C = .ok (.tup (cut xs lo hi)) C := rfl
@[simp] theorem e_sl_l (m : Bool) (xs : List D) (lo hi : Option Int) (C : Cells) : slD m (.lst xs) lo hi C = mkL m (cut xs lo hi) C := rfl
@[simp] theorem e_tuple_t (xs : List D) (C : Cells) : oTuple [.tup xs] C = .ok (.tup xs) C := rfl
@[simp] theorem e_tuple_l (xs : List D) (C : Cells) : oTuple [.lst xs] C = .ok (.tup xs) C := rfl
theorem e_tuple_c {C : Cells} {k : Nat} {ds : List D} (e : C[k]? = some (.lst ds)) : oTuple [.cel k] C = .ok (.tup ds) C := by simp [oTuple, asS_cel e]
theorem app_of {C : Cells} {k : Nat} {ds : List D} {v : D} (e : C[k]? = some (.lst ds)) (h : ds.length < 16777216) : appD (.cel k) v C = .ok .non (C.set k (.lst (ds ++ [v]))) := by
  unfold appD
  simp only [e]
  rw [if_pos (by rw [sizeLine_eq]; exact h)]
@[simp] theorem e_forL_nil (t : D → Rho → Option Rho) (b : Rho → Cells → Out) (ρ : Rho) (C : Cells) : forL t b [] ρ C = .nx ρ C := rfl
@[simp] theorem e_forL_N (i : Nat) (b : Rho → Cells → Out) (d : D) (ds : List D) (ρ : Rho) (C : Cells) : forL (tgN i) b (d :: ds) ρ C = (b (ρ.set i (some d)) C).loop (forL (tgN i) b ds) := rfl
@[simp] theorem e_lcL_nil (t : D → Rho → Option Rho) (ft fe : Rho → Cells → Res D) (ρ : Rho) (C : Cells) : lcL t ft fe ρ [] C = .ok [] C := rfl
theorem e_lcL_N (i : Nat) (ft fe : Rho → Cells → Res D) (ρ : Rho) (d : D) (ds : List D) (C : Cells) : lcL (tgN i) ft fe ρ (d :: ds) C = (noX (toB (ft (ρ.set i (some d)) C))).bind fun b C1 => if b then (noX (fe (ρ.set i (some d)) C1)).bind fun y C2 => (lcL (tgN i) ft fe ρ ds C2).bind fun ys C3 => .ok (y :: ys) C3 else lcL (tgN i) ft fe ρ ds C1 := rfl
@[simp] theorem noX_ok {α : Type} (a : α) (C : Cells) : noX (.ok a C) = .ok a C := rfl
/-- a comprehension whose test and element leave the cells alone -/
theorem lc_map (i : Nat) {ft fe : Rho → Cells → Res D} {ρ : Rho} {C : Cells} (p : D → Bool) (g : D → D) : ∀ ds : List D, (∀ d ∈ ds, ft (ρ.set i (some d)) C = .ok (.bl (p d)) C) → (∀ d ∈ ds, p d = true → fe (ρ.set i (some d)) C = .ok (g d) C) → lcL (tgN i) ft fe ρ ds C = .ok ((ds.filter p).map g) C
  | [], _, _ => rfl
  | d :: ds, h1, h2 => by
    rw [e_lcL_N, h1 d (by simp)]
    have ih := lc_map i p g ds (fun x hx => h1 x (List.mem_cons_of_mem _ hx)) fun x hx => h2 x (List.mem_cons_of_mem _ hx)
    cases hp : p d with
    | true => simp [h2 d (by simp) hp, ih, hp]
    | false => simp [ih, hp]
theorem lc_mapY (i : Nat) {fe : Rho → Cells → Res D} {ρ : Rho} {C : Cells} (g : D → D) (ds : List D) (h2 : ∀ d ∈ ds, fe (ρ.set i (some d)) C = .ok (g d) C) : lcL (tgN i) fYes fe ρ ds C = .ok (ds.map g) C := by
  rw [lc_map i (fun _ => true) g ds (fun _ _ => rfl) fun d hd _ => h2 d hd, List.filter_eq_self.mpr fun _ _ => rfl]
theorem e_lcC_0 (t : D → Rho → Option Rho) (ft fe : Rho → Cells → Res D) (ρ : Rho) (k n : Nat) (C : Cells) : lcC t ft fe ρ k n 0 C = if cLen k C = some n then .ok [] C else .stuck := rfl
/-- over a cell that stays as it is -/
theorem lcC_map (i : Nat) {ft fe : Rho → Cells → Res D} {ρ : Rho} {C : Cells} {k : Nat} {ds : List D} (hk : C[k]? = some (.lst ds)) (p : D → Bool) (g : D → D) (h1 : ∀ d ∈ ds, ft (ρ.set i (some d)) C = .ok (.bl (p d)) C) (h2 : ∀ d ∈ ds, p d = true → fe (ρ.set i (some d)) C = .ok (g d) C) :
    lcC (tgN i) ft fe ρ k ds.length ds.length C = .ok ((ds.filter p).map g) C := by
  have key : ∀ m, m ≤ ds.length → lcC (tgN i) ft fe ρ k ds.length m C = .ok (((ds.drop (ds.length - m)).filter p).map g) C := by
    intro m
    induction m with
    | zero =>
      intro _
      rw [e_lcC_0, if_pos (by simp [cLen, hk])]
      simp
    | succ m ih =>
      intro hm
      have hlt : ds.length - (m + 1) < ds.length := by omega
      have hmem : ds[ds.length - (m + 1)] ∈ ds := List.getElem_mem hlt
      unfold lcC
      rw [asL_celE hk]
      simp only [if_true, List.getElem?_eq_getElem hlt]
      unfold lcStep
      simp only [e_tgN]
      rw [h1 _ hmem, List.drop_eq_getElem_cons hlt, show ds.length - (m + 1) + 1 = ds.length - m by omega]
      cases hp : p ds[ds.length - (m + 1)] with
      | true => simp [h2 _ hmem hp, ih (by omega), hp]
      | false => simp [ih (by omega), hp]
  have := key ds.length (Nat.le_refl _)
  simpa using this
theorem iSeq_cel {f : Rho → Cells → Res D} {ρ : Rho} {C : Cells} {k : Nat} {ds : List D} (hf : f ρ C = .ok (.cel k) C) (hk : C[k]? = some (.lst ds)) : iSeq f ρ C = .ok (.cel k ds.length) C := by
  simp [hf, cLen, hk]

/-! ### data that are small enough for repr and == -/
structure Good (n w : Nat) (p : PyData) : Prop where
  lay : p.canLay0 = true
  dep : p.depth ≤ n
  lea : p.leavesShort 13 = true
  wei : p.weight ≤ w
  sho : p.showable = true
theorem Good.mono {n m w u : Nat} {p : PyData} (g : Good n w p) (h1 : n ≤ m) (h2 : w ≤ u) : Good m u p := ⟨g.lay, Nat.le_trans g.dep h1, g.lea, Nat.le_trans g.wei h2, g.sho⟩
theorem Good.none : Good 0 0 .none := ⟨rfl, Nat.le_refl _, rfl, Nat.le_refl _, rfl⟩
theorem Good.bool (b : Bool) : Good 0 0 (.bool b) := ⟨rfl, Nat.le_refl _, rfl, Nat.le_refl _, rfl⟩
theorem log2_lt {m k : Nat} (h : m < 2 ^ k) (hk : 0 < k) : m.log2 < k := by
  by_cases z : m = 0
  · subst z
    exact hk
  · exact (Nat.log2_lt z).mpr h
theorem Good.int {i : Int} (h : i.natAbs < 10 ^ 12) : Good 0 41 (.int i) := by
  have h2 : i.natAbs.log2 < 40 := log2_lt (Nat.lt_of_lt_of_le h (by decide)) (by decide)
  refine ⟨rfl, Nat.le_refl _, by simp only [PyData.leavesShort, decide_eq_true_eq]; exact PyData.shown_int_le h, ?_, by simp only [PyData.showable, decide_eq_true_eq]; omega⟩
  show (if i == 0 then 0 else i.natAbs.log2 + 1) ≤ 41
  split <;> omega
structure GoodL (n w : Nat) (ps : List PyData) : Prop where
  lay : PyData.canLayAll0 ps = true
  dep : PyData.depthAll ps ≤ n
  lea : PyData.leavesShortAll 13 ps = true
  wei : PyData.weightAll ps ≤ ps.length * (w + 1)
  sho : PyData.showableAll ps = true
theorem GoodL.nil {n w : Nat} : GoodL n w [] := ⟨rfl, Nat.zero_le _, rfl, Nat.zero_le _, rfl⟩
theorem GoodL.cons {n w : Nat} {p : PyData} {ps : List PyData} (g : Good n w p) (gs : GoodL n w ps) : GoodL n w (p :: ps) := by
  refine ⟨by simp [PyData.canLayAll0, g.lay, gs.lay], by simp only [PyData.depthAll]; exact Nat.max_le.mpr ⟨g.dep, gs.dep⟩, by simp [PyData.leavesShortAll, g.lea, gs.lea], ?_, by simp [PyData.showableAll, g.sho, gs.sho]⟩
  have h1 := g.wei
  have h2 := gs.wei
  simp only [PyData.weightAll, List.length_cons, Nat.add_mul, Nat.one_mul]
  omega
theorem Good.tuple {n w : Nat} {ps : List PyData} (g : GoodL n w ps) : Good (n + 1) (ps.length * (w + 1)) (.tuple ps) := ⟨g.lay, Nat.succ_le_succ g.dep, g.lea, g.wei, g.sho⟩
theorem Good.list {n w : Nat} {ps : List PyData} (g : GoodL n w ps) : Good (n + 1) (ps.length * (w + 1)) (.list ps) := ⟨g.lay, Nat.succ_le_succ g.dep, g.lea, g.wei, g.sho⟩
/-- a datum and what it is as the library's -/
structure GD (n w : Nat) (d : D) (p : PyData) : Prop where
  e : toPy d = some p
  g : Good n w p
theorem GD.mono {n m w u : Nat} {d : D} {p : PyData} (g : GD n w d p) (h1 : n ≤ m) (h2 : w ≤ u) : GD m u d p := ⟨g.e, g.g.mono h1 h2⟩
theorem GD.non : GD 0 0 .non .none := ⟨rfl, .none⟩
theorem GD.bl (b : Bool) : GD 0 0 (.bl b) (.bool b) := ⟨rfl, .bool b⟩
theorem GD.int {i : Int} (h : i.natAbs < 10 ^ 12) : GD 0 41 (.int i) (.int i) := ⟨rfl, .int h⟩
theorem GD.str {x : Str} {w : Nat} (h : PyData.strOk x = true) (h2 : x.cps.size ≤ w) (h3 : (x.cps.toList.all fun c => decide (c < 16 ^ 8)) = true) : GD 0 w (.str x) (.str x) := ⟨rfl, h, Nat.le_refl _, h3, h2, rfl⟩
structure GDs (n w : Nat) (ds : List D) (ps : List PyData) : Prop where
  e : toPys ds = some ps
  g : GoodL n w ps
  l : ps.length = ds.length
theorem GDs.nil {n w : Nat} : GDs n w [] [] := ⟨rfl, .nil, rfl⟩
theorem GDs.cons {n w : Nat} {d : D} {p : PyData} {ds : List D} {ps : List PyData} (g : GD n w d p) (gs : GDs n w ds ps) : GDs n w (d :: ds) (p :: ps) := ⟨by simp [toPys, g.e, gs.e], .cons g.g gs.g, by simp [gs.l]⟩
theorem GD.tup {n w : Nat} {ds : List D} {ps : List PyData} (g : GDs n w ds ps) : GD (n + 1) (ds.length * (w + 1)) (.tup ds) (.tuple ps) := ⟨by simp [toPy, g.e], by rw [← g.l]; exact .tuple g.g⟩
theorem GD.lst {n w : Nat} {ds : List D} {ps : List PyData} (g : GDs n w ds ps) : GD (n + 1) (ds.length * (w + 1)) (.lst ds) (.list ps) := ⟨by simp [toPy, g.e], by rw [← g.l]; exact .list g.g⟩
/-- small data, all of them -/
def GA (n w : Nat) (d : D) : Prop := ∃ p, GD n w d p
theorem GDs.all {n w : Nat} : ∀ {ds : List D}, (∀ d ∈ ds, GA n w d) → ∃ ps, GDs n w ds ps
  | [], _ => ⟨[], .nil⟩
  | d :: ds, h => by
    obtain ⟨p, g⟩ := h d (by simp)
    obtain ⟨ps, gs⟩ := GDs.all (ds := ds) fun x hx => h x (List.mem_cons_of_mem _ hx)
    exact ⟨p :: ps, .cons g gs⟩
theorem GA.mono {n m w u : Nat} {d : D} (g : GA n w d) (h1 : n ≤ m) (h2 : w ≤ u) : GA m u d := let ⟨p, q⟩ := g; ⟨p, q.mono h1 h2⟩
theorem GA.tup {n w : Nat} {ds : List D} (h : ∀ d ∈ ds, GA n w d) : GA (n + 1) (ds.length * (w + 1)) (.tup ds) := let ⟨_, g⟩ := GDs.all h; ⟨_, .tup g⟩
theorem GA.lst {n w : Nat} {ds : List D} (h : ∀ d ∈ ds, GA n w d) : GA (n + 1) (ds.length * (w + 1)) (.lst ds) := let ⟨_, g⟩ := GDs.all h; ⟨_, .lst g⟩
/-- what repr tells of a datum -/
def rp (d : D) : Str := match toPy d with
  | some p => p.shown
  | none => ""
theorem repr_of {n w : Nat} {d : D} {C : Cells} (g : GA n w d) (h1 : n ≤ 64) (h2 : w ≤ 2 ^ 20) : oRepr [d] C = .ok (.str (rp d)) C := by
  obtain ⟨p, e, g⟩ := g
  have ec : toPyC d C = some p := by
    cases d with
    | cel k => simp [toPy] at e
    | _ => exact e
  unfold oRepr rp
  simp only [ec, e]
  rw [if_pos ⟨by simp [SeqAt.shaped, g.lay, Nat.le_trans g.dep h1], g.sho, PyData.shown_fits (B := 13) (by decide) (by decide) g.lea (Nat.le_trans g.wei h2)⟩]
@[simp] theorem eqD_ss (neg : Bool) (a b : Str) (C : Cells) : eqD neg (.str a) (.str b) C = .ok (.bl (if neg then !decide (a = b) else decide (a = b))) C := rfl
/-- == of small data -/
theorem eq_of {n w : Nat} {x y : D} {p q : PyData} {neg : Bool} {C : Cells} (g1 : GD n w x p) (g2 : GD n w y q) (h1 : n ≤ 64) (hs : ∀ a b, ¬ (x = .str a ∧ y = .str b)) : eqD neg x y C = .ok (.bl (if neg then !PyData.eqv p q else PyData.eqv p q)) C := by
  have ec : ∀ {d : D} {p : PyData}, toPy d = some p → toPyC d C = some p := fun {d p} e => by
    cases d with
    | cel k => simp [toPy] at e
    | _ => exact e
  unfold eqD
  split
  · exact absurd ⟨rfl, rfl⟩ (hs _ _)
  · simp only [ec g1.e, ec g2.e]
    rw [if_pos ⟨by simp [SeqAt.shaped, g1.g.lay, Nat.le_trans g1.g.dep h1], by simp [SeqAt.shaped, g2.g.lay, Nat.le_trans g2.g.dep h1]⟩]
theorem fLc_of {m : Bool} {vs : List Nat} {fi : Rho → Cells → Res Src} {t : D → Rho → Option Rho} {ft fe : Rho → Cells → Res D} {ρ : Rho} {C C1 C2 : Cells} {src : Src} {ys : List D} (h1 : fi ρ C = .ok src C1) (h2 : lcS t ft fe (wipeD ρ vs) src C1 = .ok ys C2) (h3 : ys.length ≤ 100000) :
    fLc m vs fi t ft fe ρ C = mkL m ys C2 := by
  unfold fLc
  rw [h1, Res.bind_ok, h2, Res.bind_ok, if_pos (Nat.lt_of_le_of_lt h3 (by rw [sizeLine_eq]; decide))]
theorem iRg1_of {f : Rho → Cells → Res D} {ρ : Rho} {C C1 : Cells} {j : Int} (h : f ρ C = .ok (.int j) C1) (h0 : 0 ≤ j) (h1 : j ≤ 100000) : iRg (rg1 f) ρ C = .ok (.fix (rg 0 j)) C1 := by
  have hr : RgOk 0 j := .of_le (by omega) (by omega) (by omega) (by omega)
  simp [h, hr]
theorem iRg2_of {f g : Rho → Cells → Res D} {ρ : Rho} {C C1 C2 : Cells} {i j : Int} (h : f ρ C = .ok (.int i) C1) (hg : g ρ C1 = .ok (.int j) C2) (a : 0 ≤ i) (b : i ≤ 100000) (h0 : 0 ≤ j) (h1 : j ≤ 100000) : iRg (rg2 f g) ρ C = .ok (.fix (rg i j)) C2 := by
  have hr : RgOk i j := .of_le (by omega) (by omega) (by omega) (by omega)
  simp [h, hg, hr]
/-! ### blocks, statement by statement -/
theorem seq_nx {f g : Rho → Cells → Out} {ρ ρ1 : Rho} {C C1 : Cells} {o : Out} (h1 : f ρ C = .nx ρ1 C1) (h2 : g ρ1 C1 = o) : sSeq f g ρ C = o := by
  unfold sSeq
  rw [h1]
  exact h2
theorem seq_rt {f g : Rho → Cells → Out} {ρ : Rho} {C C1 : Cells} {d : D} (h1 : f ρ C = .rt d C1) : sSeq f g ρ C = .rt d C1 := by
  unfold sSeq
  rw [h1]
  rfl
theorem if_t {t : Rho → Cells → Res D} {f g : Rho → Cells → Out} {ρ : Rho} {C C1 : Cells} {o : Out} (h : t ρ C = .ok (.bl true) C1) (h2 : f ρ C1 = o) : sIf t f g ρ C = o := by
  unfold sIf
  rw [h]
  exact h2
theorem if_f {t : Rho → Cells → Res D} {f g : Rho → Cells → Out} {ρ : Rho} {C C1 : Cells} {o : Out} (h : t ρ C = .ok (.bl false) C1) (h2 : g ρ C1 = o) : sIf t f g ρ C = o := by
  unfold sIf
  rw [h]
  exact h2
theorem set_nx {i : Nat} {f : Rho → Cells → Res D} {ρ ρ' : Rho} {C C1 : Cells} {d : D} (h : f ρ C = .ok d C1) (e : ρ.set i (some d) = ρ') : sSet i f ρ C = .nx ρ' C1 := by
  unfold sSet
  rw [h, ← e]
  rfl
theorem ret_rt {f : Rho → Cells → Res D} {ρ : Rho} {C C1 : Cells} {d : D} (h : f ρ C = .ok d C1) : sRet f ρ C = .rt d C1 := by
  unfold sRet
  rw [h]
  rfl
theorem expr_nx {f : Rho → Cells → Res D} {ρ : Rho} {C C1 : Cells} {d : D} (h : f ρ C = .ok d C1) : sExpr f ρ C = .nx ρ C1 := by
  unfold sExpr
  rw [h]
  rfl
/-- a sequence's items: of a tuple, a list by value, a cell -/
inductive SeqOf (C : Cells) : D → List D → Prop
  | tup (ds : List D) : SeqOf C (.tup ds) ds
  | lst (ds : List D) : SeqOf C (.lst ds) ds
  | cel {k : Nat} {ds : List D} : C[k]? = some (.lst ds) → SeqOf C (.cel k) ds
theorem SeqOf.asS {C : Cells} {x : D} {ds : List D} (h : SeqOf C x ds) : asS x C = some ds := by
  cases h with
  | tup => rfl
  | lst => rfl
  | cel h => exact asS_cel h
theorem SeqOf.len {C : Cells} {x : D} {ds : List D} (h : SeqOf C x ds) : oLen [x] C = .ok (.int ds.length) C := by
  cases h with
  | tup => rfl
  | lst => rfl
  | cel h => exact oLen_cel h
theorem SeqOf.tuple {C : Cells} {x : D} {ds : List D} (h : SeqOf C x ds) : oTuple [x] C = .ok (.tup ds) C := by
  cases h with
  | tup => rfl
  | lst => rfl
  | cel h => exact e_tuple_c h
theorem SeqOf.ix {C : Cells} {x d : D} {ds : List D} {i : Int} (h : SeqOf C x ds) (h0 : 0 ≤ i) (h1 : ds[i.toNat]? = some d) : ixD x (.int i) C = .ok d C := ix_of h.asS h0 h1
theorem SeqOf.isi {C : Cells} {x : D} {ds : List D} (h : SeqOf C x ds) : isiD ["list", "tuple"] x C = .ok (.bl true) C := by
  cases h with
  | tup => rfl
  | lst => rfl
  | cel h => simp [isiD, tyD, h, isTy]
theorem lc_seq {m : Bool} {vs : List Nat} {i j : Nat} {ft fe : Rho → Cells → Res D} {ρ : Rho} {C : Cells} {x : D} {ds : List D} (h : SeqOf C x ds) (hv : ρ[i]? = some (some x)) (p : D → Bool) (g : D → D)
    (h1 : ∀ d ∈ ds, ft ((wipeD ρ vs).set j (some d)) C = .ok (.bl (p d)) C) (h2 : ∀ d ∈ ds, p d = true → fe ((wipeD ρ vs).set j (some d)) C = .ok (g d) C) (h3 : ds.length ≤ 100000) :
    fLc m vs (iSeq (fVar i)) (tgN j) ft fe ρ C = mkL m ((ds.filter p).map g) C := by
  have hl : ((ds.filter p).map g).length ≤ 100000 := by
    rw [List.length_map]
    exact Nat.le_trans (List.length_filter_le _ _) h3
  cases h with
  | tup => exact fLc_of (C1 := C) (src := .fix ds) (by simp [hv]) (lc_map j p g ds h1 h2) hl
  | lst => exact fLc_of (C1 := C) (src := .fix ds) (by simp [hv]) (lc_map j p g ds h1 h2) hl
  | cel h => exact fLc_of (C1 := C) (iSeq_cel (by simp [hv]) h) (lcC_map j h p g h1 h2) hl
mutual
theorem eqv_refl : ∀ p : PyData, p.canLay0 = true → PyData.eqv p p = true
  | .none, _ => rfl
  | .bool _, _ => by simp [PyData.eqv]
  | .int _, _ => by simp [PyData.eqv]
  | .str _, _ => by simp [PyData.eqv]
  | .list xs, h => by simp only [PyData.eqv]; exact eqvAll_refl xs h
  | .tuple xs, h => by simp only [PyData.eqv]; exact eqvAll_refl xs h
  | .dict _, h => by simp [PyData.canLay0] at h
theorem eqvAll_refl : ∀ ps : List PyData, PyData.canLayAll0 ps = true → PyData.eqvAll ps ps = true
  | [], _ => rfl
  | p :: ps, h => by
    simp only [PyData.canLayAll0, Bool.and_eq_true] at h
    simp only [PyData.eqvAll, Bool.and_eq_true]
    exact ⟨eqv_refl p h.1, eqvAll_refl ps h.2⟩
end
/-- an int beside small data -/
theorem eq_int {C : Cells} {i : Int} (a : Int) : eqD false (.int a) (.int i) C = .ok (.bl (a == i)) C := rfl
theorem eq_non {C : Cells} {i : Int} : eqD false .non (.int i) C = .ok (.bl false) C := rfl
theorem cut_take {α : Type} (xs : List α) {i : Int} (h : 0 ≤ i) : cut xs none (some i) = xs.take i.toNat := by
  obtain ⟨k, rfl⟩ : ∃ k : Nat, i = k := ⟨i.toNat, by omega⟩
  unfold cut
  rw [HT.sIx_nat, HT.sIx_none]
  simp only [List.drop_zero, Nat.sub_zero, Int.toNat_natCast]
  rw [List.take_eq_take_iff]
  omega
theorem cut_drop {α : Type} (xs : List α) {i : Int} (h : 0 ≤ i) : cut xs (some i) none = xs.drop i.toNat := by
  obtain ⟨k, rfl⟩ : ∃ k : Nat, i = k := ⟨i.toNat, by omega⟩
  unfold cut
  rw [HT.sIx_nat, HT.sIx_none]
  simp only [Int.toNat_natCast]
  by_cases hk : k ≤ xs.length
  · rw [Nat.min_eq_left hk, List.take_of_length_le (by simp)]
  · rw [Nat.min_eq_right (show xs.length ≤ k by omega), List.drop_eq_nil_of_le (Nat.le_refl _), List.drop_eq_nil_of_le (by omega)]
    simp
theorem cut_mid {α : Type} (xs : List α) {i j : Int} (h : 0 ≤ i) (h2 : 0 ≤ j) : cut xs (some i) (some j) = (xs.drop i.toNat).take (j.toNat - i.toNat) := by
  obtain ⟨k, rfl⟩ : ∃ k : Nat, i = k := ⟨i.toNat, by omega⟩
  obtain ⟨l, rfl⟩ : ∃ k : Nat, j = k := ⟨j.toNat, by omega⟩
  unfold cut
  rw [HT.sIx_nat, HT.sIx_nat]
  simp only [Int.toNat_natCast]
  by_cases hk : k ≤ xs.length
  · rw [Nat.min_eq_left hk, List.take_eq_take_iff, List.length_drop]
    omega
  · rw [Nat.min_eq_right (show xs.length ≤ k by omega), List.drop_eq_nil_of_le (Nat.le_refl _), List.drop_eq_nil_of_le (show xs.length ≤ k by omega)]
    simp
theorem SeqOf.app {C T : Cells} {x : D} {ds : List D} (h : SeqOf C x ds) : SeqOf (C ++ T) x ds := by
  cases h with
  | tup => exact .tup _
  | lst => exact .lst _
  | cel h => exact .cel (by rw [List.getElem?_append_left (List.getElem?_eq_some_iff.mp h).1]; exact h)
theorem SeqOf.setNe {C : Cells} {x : D} {ds : List D} {k : Nat} {c : Cell} (h : SeqOf C x ds) (hk : x ≠ .cel k) : SeqOf (C.set k c) x ds := by
  cases h with
  | tup => exact .tup _
  | lst => exact .lst _
  | cel h =>
    rename_i j
    refine .cel ?_
    rw [List.getElem?_set_ne (fun e => hk (by rw [e]))]
    exact h
theorem set_last (C : Cells) (a b : Cell) : (C ++ [a]).set C.length b = C ++ [b] := by
  simp
theorem par_nx {i j : Nat} {fs : Rho → Cells → Res (List D)} {ρ ρ' : Rho} {C C1 : Cells} {x y : D} (h : fs ρ C = .ok [x, y] C1) (e : (ρ.set i (some x)).set j (some y) = ρ') : sPar i j fs ρ C = .nx ρ' C1 := by
  unfold sPar
  rw [h, ← e]
  rfl
theorem par3_nx {i j l : Nat} {fs : Rho → Cells → Res (List D)} {ρ ρ' : Rho} {C C1 : Cells} {x y z : D} (h : fs ρ C = .ok [x, y, z] C1) (e : ((ρ.set i (some x)).set j (some y)).set l (some z) = ρ') : sPar3 i j l fs ρ C = .nx ρ' C1 := by
  unfold sPar3
  rw [h, ← e]
  rfl
end BV
namespace K26
open PySem PySem.Spec PyProof.Rows L2 BV
def top (i : Nat) : Stmt := PySem.Challenge.pw_wrecktold_k26_whole_the_newest_is_found.main.body.getD i (.Pass ⟨0, 0, 0, 0⟩)
abbrev s_law_box : Stmt := top 24
abbrev N_law_box : List Str := ["_law_script", "_law_k", "_law_cell", "_law_great"]
abbrev P_law_box : List Str := ["_law_script", "_law_k"]
def b_law_box : Rho → Cells → Out :=
  (sSeq (sSet 2 (f2 (addD false) (f2 (mulD false) (fC (.int 11579)) (fVar 1)) (fC (.int 4651))))
    (sSeq (sIf (f2 ltD (fVar 1) (fA oLen (aCons (fVar 0) aNil))) (sSet 2 (fA oAbs (aCons (fA oInt (aCons (f2 ixD (fVar 0) (fVar 1)) aNil)) aNil))) (sIf (f2 gtD (fA oLen (aCons (fVar 0) aNil)) (fC (.int 0))) (sSet 2 (f2 (addD false) (fVar 2) (f2 (mulD false) (f2 modD (fA oInt (aCons (fA oAbs (aCons (fA oInt (aCons (f2 ixD (fVar 0) (f2 modD (fA oInt (aCons (fVar 1) aNil)) (fA oLen (aCons (fVar 0) aNil)))) aNil)) aNil)) aNil)) (fC (.int 2147483563))) (fC (.int 50867))))) sNil))
    (sSeq (sSet 3 (ifD (f2 geD (fVar 2) (f2 powD (fC (.int 10)) (fC (.int 18)))) (fVar 2) (fC (.int 0))))
    (sRet (fA (oLst true) (aCons (fVar 3) (aCons (f2 (addD false) (f2 modD (fA oInt (aCons (f2 (addD false) (f2 (mulD false) (f2 modD (fA oInt (aCons (fVar 2) aNil)) (fC (.int 2147483563))) (fC (.int 40014))) (f2 (mulD false) (fC (.int 4651)) (fVar 1))) aNil)) (fC (.int 2147483563))) (fC (.int 1))) aNil)))))))
def d_law_box : List D → Cells → Res D := denF true 2 4 b_law_box
abbrev s_law_take : Stmt := top 25
abbrev N_law_take : List Str := ["_law_box_here", "_law_many", "_law_digit", "_law_raw"]
abbrev P_law_take : List Str := ["_law_box_here", "_law_many"]
def b_law_take : Rho → Cells → Out :=
  (sSeq (sIf (f2 gtD (f2 ixD (fVar 0) (fC (.int 0))) (fC (.int 0))) (sSeq (sSet 2 (f2 modD (fA oInt (aCons (f2 ixD (fVar 0) (fC (.int 0))) aNil)) (fVar 1)))
    (sSeq (sSto (f2 fdivD (f2 ixD (fVar 0) (fC (.int 0))) (fVar 1)) (fVar 0) (fC (.int 0)))
    (sRet (fVar 2)))) sNil)
    (sSeq (sSet 3 (f2 modD (fA oInt (aCons (f2 (addD false) (f2 (mulD false) (f2 ixD (fVar 0) (fC (.int 1))) (fC (.int 39373))) (fC (.int 39))) aNil)) (fC (.int 2147483647))))
    (sSeq (sSto (f2 (addD false) (f2 modD (fA oInt (aCons (f2 (addD false) (f2 (mulD false) (fVar 3) (fC (.int 40692))) (fC (.int 28))) aNil)) (fC (.int 2147483399))) (fC (.int 1))) (fVar 0) (fC (.int 1)))
    (sRet (f2 modD (fA oInt (aCons (f2 fdivD (f2 (addD false) (f2 (mulD false) (fVar 3) (fC (.int 2147483629))) (f2 ixD (fVar 0) (fC (.int 1)))) (fC (.int 8209))) aNil)) (fVar 1))))))
def d_law_take : List D → Cells → Res D := denF false 2 4 b_law_take
abbrev s_law_pick : Stmt := top 26
abbrev N_law_pick : List Str := ["_law_box_here", "_law_some"]
abbrev P_law_pick : List Str := ["_law_box_here", "_law_some"]
def b_law_pick : Rho → Cells → Out :=
  (sRet (f2 ixD (fVar 1) (fA (oCall 2 d_law_take) (aCons (fVar 0) (aCons (fA oLen (aCons (fVar 1) aNil)) aNil)))))
def d_law_pick : List D → Cells → Res D := denF false 2 2 b_law_pick
abbrev s_law_laid : Stmt := top 27
abbrev N_law_laid : List Str := ["_law_many", "_law_count", "_law_row", "_law_number"]
abbrev P_law_laid : List Str := ["_law_many", "_law_count"]
def b_law_laid : Rho → Cells → Out :=
  (sSeq (sSet 2 (f2 (mulD true) (fA (oLst false) (aCons (fC .non) aNil)) (fVar 0)))
    (sSeq (sFor (iRg (rg1 (fVar 1))) (tgN 3)
    (sSto (fVar 3) (fVar 2) (f2 modD (fA oInt (aCons (fVar 3) aNil)) (fVar 0))))
    (sRet (fVar 2))))
def d_law_laid : List D → Cells → Res D := denF true 2 4 b_law_laid
abbrev s_is_integer : Stmt := top 4
abbrev N_is_integer : List Str := ["value"]
abbrev P_is_integer : List Str := ["value"]
def b_is_integer : Rho → Cells → Out :=
  (sRet (andD (f1 (isiD ["int"]) (fVar 0)) (notD (f1 (isiD ["bool"]) (fVar 0)))))
def d_is_integer : List D → Cells → Res D := denF false 1 1 b_is_integer
abbrev s_is_number : Stmt := top 5
abbrev N_is_number : List Str := ["value"]
abbrev P_is_number : List Str := ["value"]
def b_is_number : Rho → Cells → Out :=
  (sRet (andD (fA (oCall 1 d_is_integer) (aCons (fVar 0) aNil)) (f2 geD (fVar 0) (fC (.int 0)))))
def d_is_number : List D → Cells → Res D := denF false 1 1 b_is_number
abbrev s_is_below : Stmt := top 6
abbrev N_is_below : List Str := ["value", "most"]
abbrev P_is_below : List Str := ["value", "most"]
def b_is_below : Rho → Cells → Out :=
  (sRet (andD (fA (oCall 1 d_is_number) (aCons (fVar 0) aNil)) (f2 ltD (fVar 0) (fVar 1))))
def d_is_below : List D → Cells → Res D := denF false 2 2 b_is_below
abbrev s_need_slots : Stmt := top 11
abbrev N_need_slots : List Str := ["value"]
abbrev P_need_slots : List Str := ["value"]
def b_need_slots : Rho → Cells → Out :=
  (sSeq (sIf (orD (notD (fA (oCall 2 d_is_below) (aCons (fVar 0) (aCons (f2 (addD false) (fC (.int (64))) (fC (.int 1))) aNil)))) (f2 ltD (fVar 0) (fC (.int 2)))) sNever sNil)
    (sRet (fVar 0)))
def d_need_slots : List D → Cells → Res D := denF false 1 1 b_need_slots
abbrev s_need_count : Stmt := top 12
abbrev N_need_count : List Str := ["value"]
abbrev P_need_count : List Str := ["value"]
def b_need_count : Rho → Cells → Out :=
  (sSeq (sIf (notD (fA (oCall 1 d_is_number) (aCons (fVar 0) aNil))) sNever sNil)
    (sRet (fVar 0)))
def d_need_count : List D → Cells → Res D := denF false 1 1 b_need_count
abbrev s_last_in : Stmt := top 14
abbrev N_last_in : List Str := ["many", "count", "slot", "back"]
abbrev P_last_in : List Str := ["many", "count", "slot"]
def b_last_in : Rho → Cells → Out :=
  (sSeq (sSet 3 (f2 modD (fA oInt (aCons (f2 subD (f2 subD (fVar 1) (fC (.int 1))) (fVar 2)) aNil)) (fVar 0)))
    (sRet (ifD (f2 ltD (fVar 3) (fVar 1)) (f2 subD (f2 subD (fVar 1) (fC (.int 1))) (fVar 3)) (fC .non))))
def d_last_in : List D → Cells → Res D := denF false 3 4 b_last_in
abbrev s_ring_row : Stmt := top 15
abbrev N_ring_row : List Str := ["many", "count", "slot"]
abbrev P_ring_row : List Str := ["many", "count"]
def b_ring_row : Rho → Cells → Out :=
  (sSeq (sExpr (fA (oCall 1 d_need_slots) (aCons (fVar 0) aNil)))
    (sSeq (sExpr (fA (oCall 1 d_need_count) (aCons (fVar 1) aNil)))
    (sRet (fA oTuple (aCons (fLc false [2] (iRg (rg1 (fVar 0))) (tgN 2) fYes (fA (oCall 3 d_last_in) (aCons (fVar 0) (aCons (fVar 1) (aCons (fVar 2) aNil))))) aNil)))))
def d_ring_row : List D → Cells → Res D := denF false 2 3 b_ring_row
abbrev s_torn_row : Stmt := top 16
abbrev N_torn_row : List Str := ["many", "count", "found", "here"]
abbrev P_torn_row : List Str := ["many", "count"]
def b_torn_row : Rho → Cells → Out :=
  (sSeq (sSet 2 (fA (oCall 2 d_ring_row) (aCons (fVar 0) (aCons (fVar 1) aNil))))
    (sSeq (sSet 3 (f2 modD (fA oInt (aCons (fVar 1) aNil)) (fVar 0)))
    (sRet (f2 (addD false) (f2 (addD false) (fSl false (fVar 2) pNo (pSo (fVar 3))) (fA oTup (aCons (fC (.str "torn")) aNil))) (fSl false (fVar 2) (pSo (f2 (addD false) (fVar 3) (fC (.int 1)))) pNo)))))
def d_torn_row : List D → Cells → Res D := denF false 2 4 b_torn_row
abbrev s_is_sequence : Stmt := top 7
abbrev N_is_sequence : List Str := ["value"]
abbrev P_is_sequence : List Str := ["value"]
def b_is_sequence : Rho → Cells → Out :=
  (sRet (f1 (isiD ["list", "tuple"]) (fVar 0)))
def d_is_sequence : List D → Cells → Res D := denF false 1 1 b_is_sequence
abbrev s_is_row_form : Stmt := top 18
abbrev N_is_row_form : List Str := ["value", "one"]
abbrev P_is_row_form : List Str := ["value"]
def b_is_row_form : Rho → Cells → Out :=
  (sSeq (sIf (orD (notD (fA (oCall 1 d_is_sequence) (aCons (fVar 0) aNil))) (notD (chainD leD leD (fC (.int 2)) (fA oLen (aCons (fVar 0) aNil)) (fC (.int (64)))))) (sRet (fC (.bl false))) sNil)
    (sRet (fA oAll (aCons (fLc false [1] (iSeq (fVar 0)) (tgN 1) fYes (orD (f2 (isD false) (fVar 1) (fC .non)) (orD (fA (oCall 1 d_is_number) (aCons (fVar 1) aNil)) (andD (f1 (isiD ["str"]) (fVar 1)) (f2 (eqD false) (fVar 1) (fC (.str "torn"))))))) aNil))))
def d_is_row_form : List D → Cells → Res D := denF false 1 2 b_is_row_form
abbrev s_count_of : Stmt := top 17
abbrev N_count_of : List Str := ["row", "numbers", "one"]
abbrev P_count_of : List Str := ["row"]
def b_count_of : Rho → Cells → Out :=
  (sSeq (sSet 1 (fLc false [2] (iSeq (fVar 0)) (tgN 2) (fA (oCall 1 d_is_number) (aCons (fVar 2) aNil)) (fVar 2)))
    (sRet (ifD (f2 gtD (fA oLen (aCons (fVar 1) aNil)) (fC (.int 0))) (f2 (addD false) (fA oMax (aCons (fVar 1) aNil)) (fC (.int 1))) (fC (.int 0)))))
def d_count_of : List D → Cells → Res D := denF false 1 3 b_count_of
abbrev s_is_ring_row : Stmt := top 19
abbrev N_is_ring_row : List Str := ["value", "many", "count"]
abbrev P_is_ring_row : List Str := ["value"]
def b_is_ring_row : Rho → Cells → Out :=
  (sSeq (sIf (notD (fA (oCall 1 d_is_row_form) (aCons (fVar 0) aNil))) (sRet (fC (.bl false))) sNil)
    (sSeq (sPar 1 2 (aCons (fA oLen (aCons (fVar 0) aNil)) (aCons (fA (oCall 1 d_count_of) (aCons (fVar 0) aNil)) aNil)))
    (sRet (f2 (inD false) (fA oTuple (aCons (fVar 0) aNil)) (fA oTup (aCons (fA (oCall 2 d_ring_row) (aCons (fVar 1) (aCons (fVar 2) aNil))) (aCons (fA (oCall 2 d_torn_row) (aCons (fVar 1) (aCons (fVar 2) aNil))) aNil)))))))
def d_is_ring_row : List D → Cells → Res D := denF false 1 3 b_is_ring_row
abbrev s_newest : Stmt := top 21
abbrev N_newest : List Str := ["row", "many", "base", "last", "low", "high", "looked", "middle"]
abbrev P_newest : List Str := ["row"]
def b_newest : Rho → Cells → Out :=
  (sSeq (sPar 1 2 (aCons (fA oLen (aCons (fVar 0) aNil)) (aCons (f2 ixD (fVar 0) (fC (.int 0))) aNil)))
    (sSeq (sIf (f2 (isD false) (fVar 2) (fC .non)) (sRet (fA oTup (aCons (fC .non) (aCons (fC (.int 0)) (aCons (fA oTup (aCons (fC (.int 0)) aNil)) aNil))))) sNil)
    (sSeq (sIf (f2 (eqD false) (fVar 2) (fC (.str "torn"))) (sSeq (sSet 3 (f2 ixD (fVar 0) (f2 subD (fVar 1) (fC (.int 1)))))
    (sRet (fA oTup (aCons (fVar 3) (aCons (ifD (f2 (isD false) (fVar 3) (fC .non)) (fC (.int 0)) (f2 (addD false) (fVar 3) (fC (.int 1)))) (aCons (fA oTup (aCons (fC (.int 0)) (aCons (f2 subD (fVar 1) (fC (.int 1))) aNil))) aNil)))))) sNil)
    (sSeq (sPar3 4 5 6 (aCons (fC (.int 0)) (aCons (fVar 1) (aCons (fA (oLst true) (aCons (fC (.int 0)) aNil)) aNil))))
    (sSeq (sWhile 100000 (f2 gtD (f2 subD (fVar 5) (fVar 4)) (fC (.int 1)))
    (sSeq (sSet 7 (f2 fdivD (f2 (addD false) (fVar 4) (fVar 5)) (fC (.int 2))))
    (sSeq (sExpr (fMt1 appD (fVar 6) (fVar 7)))
    (sIf (f2 (eqD false) (f2 ixD (fVar 0) (fVar 7)) (f2 (addD false) (fVar 2) (fVar 7))) (sSet 4 (fVar 7)) (sSet 5 (fVar 7))))))
    (sRet (fA oTup (aCons (f2 (addD false) (fVar 2) (fVar 4)) (aCons (f2 (addD false) (f2 (addD false) (fVar 2) (fVar 4)) (fC (.int 1))) (aCons (fA oTuple (aCons (fVar 6) aNil)) aNil))))))))))
def d_newest : List D → Cells → Res D := denF false 1 8 b_newest
abbrev s_law_looks : Stmt := top 29
abbrev N_law_looks : List Str := ["_law_row", "_law_found", "_law_known", "_law_beyond"]
abbrev P_law_looks : List Str := ["_law_row"]
def b_law_looks : Rho → Cells → Out :=
  (sSeq (sIf (f2 (isD false) (f2 ixD (fVar 0) (fC (.int 0))) (fC .non)) (sRet (fA oTup (aCons (fC (.int 0)) aNil))) sNil)
    (sSeq (sIf (f2 (eqD false) (f2 ixD (fVar 0) (fC (.int 0))) (fC (.str "torn"))) (sRet (fA oTup (aCons (fC (.int 0)) (aCons (f2 subD (fA oLen (aCons (fVar 0) aNil)) (fC (.int 1))) aNil)))) sNil)
    (sSeq (sPar3 1 2 3 (aCons (fA (oLst true) (aCons (fC (.int 0)) aNil)) (aCons (fC (.int 0)) (aCons (fA oLen (aCons (fVar 0) aNil)) aNil))))
    (sSeq (sWhile 100000 (f2 gtD (f2 subD (fVar 3) (fVar 2)) (fC (.int 1)))
    (sSeq (sExpr (fMt1 appD (fVar 1) (f2 fdivD (f2 (addD false) (fVar 2) (fVar 3)) (fC (.int 2)))))
    (sIf (f2 (eqD false) (f2 ixD (fVar 0) (f2 ixD (fVar 1) (f2 subD (fA oLen (aCons (fVar 1) aNil)) (fC (.int 1))))) (f2 (addD false) (f2 ixD (fVar 0) (fC (.int 0))) (f2 ixD (fVar 1) (f2 subD (fA oLen (aCons (fVar 1) aNil)) (fC (.int 1)))))) (sSet 2 (f2 ixD (fVar 1) (f2 subD (fA oLen (aCons (fVar 1) aNil)) (fC (.int 1))))) (sSet 3 (f2 ixD (fVar 1) (f2 subD (fA oLen (aCons (fVar 1) aNil)) (fC (.int 1))))))))
    (sRet (fA oTuple (aCons (fVar 1) aNil)))))))
def d_law_looks : List D → Cells → Res D := denF false 1 4 b_law_looks
abbrev s_law_doublings : Stmt := top 28
abbrev N_law_doublings : List Str := ["_law_many", "_law_found", "_law_reach"]
abbrev P_law_doublings : List Str := ["_law_many"]
def b_law_doublings : Rho → Cells → Out :=
  (sSeq (sAsg (fA oTup (aCons (fC (.int 0)) (aCons (fC (.int 1)) aNil))) (tgT 2 (tgCons (tgN 1) (tgCons (tgN 2) tgNil))))
    (sSeq (sWhile 100000 (f2 ltD (fVar 2) (fVar 0))
    (sPar 1 2 (aCons (f2 (addD false) (fVar 1) (fC (.int 1))) (aCons (f2 (addD false) (fVar 2) (fVar 2)) aNil))))
    (sRet (fVar 1))))
def d_law_doublings : List D → Cells → Res D := denF false 1 3 b_law_doublings
abbrev s_goes_on : Stmt := top 22
abbrev N_goes_on : List Str := ["row", "number"]
abbrev P_goes_on : List Str := ["row"]
def b_goes_on : Rho → Cells → Out :=
  (sSeq (sSet 1 (f2 ixD (fA (oCall 1 d_newest) (aCons (fVar 0) aNil)) (fC (.int 1))))
    (sRet (fA oTup (aCons (f2 modD (fA oInt (aCons (fVar 1) aNil)) (fA oLen (aCons (fVar 0) aNil))) (aCons (fVar 1) aNil)))))
def d_goes_on : List D → Cells → Res D := denF false 1 2 b_goes_on
abbrev s_slot_of : Stmt := top 13
abbrev N_slot_of : List Str := ["many", "number"]
abbrev P_slot_of : List Str := ["many", "number"]
def b_slot_of : Rho → Cells → Out :=
  (sSeq (sExpr (fA (oCall 1 d_need_slots) (aCons (fVar 0) aNil)))
    (sRet (f2 modD (fA oInt (aCons (fA (oCall 1 d_need_count) (aCons (fVar 1) aNil)) aNil)) (fVar 0))))
def d_slot_of : List D → Cells → Res D := denF false 2 2 b_slot_of
abbrev s_most_looks : Stmt := top 20
abbrev N_most_looks : List Str := ["many", "found", "reach"]
abbrev P_most_looks : List Str := ["many"]
def b_most_looks : Rho → Cells → Out :=
  (sSeq (sExpr (fA (oCall 1 d_need_slots) (aCons (fVar 0) aNil)))
    (sSeq (sAsg (fA oTup (aCons (fC (.int 1)) (aCons (fC (.int 1)) aNil))) (tgT 2 (tgCons (tgN 1) (tgCons (tgN 2) tgNil))))
    (sSeq (sWhile 100000 (f2 ltD (fVar 2) (fVar 0))
    (sPar 1 2 (aCons (f2 (addD false) (fVar 1) (fC (.int 1))) (aCons (f2 (mulD false) (fC (.int 2)) (fVar 2)) aNil))))
    (sRet (fVar 1)))))
def d_most_looks : List D → Cells → Res D := denF false 1 3 b_most_looks
abbrev s_law_right : Stmt := top 30
abbrev N_law_right : List Str := ["_law_box_here", "_law_many", "_law_count", "_law_is_torn", "_law_row", "_law_told", "_law_found", "_law_due", "_law_slot"]
abbrev P_law_right : List Str := ["_law_box_here", "_law_many", "_law_count", "_law_is_torn"]
def b_law_right : Rho → Cells → Out :=
  (sSeq (sSet 4 (fA (oCall 2 d_law_laid) (aCons (fVar 1) (aCons (fVar 2) aNil))))
    (sSeq (sIf (fVar 3) (sSto (fC (.str "torn")) (fVar 4) (f2 modD (fA oInt (aCons (fVar 2) aNil)) (fVar 1))) sNil)
    (sSeq (sSet 5 (ifD (fVar 3) (fA (oCall 2 d_torn_row) (aCons (fVar 1) (aCons (fVar 2) aNil))) (fK0 (oCallK0 2 2 [1, 0] d_ring_row) (aCons (fVar 2) (aCons (fVar 1) aNil)))))
    (sSeq (sIf (orD (f2 (eqD true) (fA oRepr (aCons (fVar 5) aNil)) (fA oRepr (aCons (fA oTuple (aCons (fVar 4) aNil)) aNil))) (f2 (isD true) (fA (oCall 1 d_is_ring_row) (aCons (fA (oCall 2 d_law_pick) (aCons (fVar 0) (aCons (fA (oLst false) (aCons (fVar 4) (aCons (fA oTuple (aCons (fVar 4) aNil)) aNil))) aNil))) aNil)) (fC (.bl true)))) (sRet (fC (.bl false))) sNil)
    (sSeq (sSet 6 (fA (oCall 1 d_newest) (aCons (fA oTuple (aCons (fVar 4) aNil)) aNil)))
    (sSeq (sSet 7 (fA oTup (aCons (ifD (f2 gtD (fVar 2) (fC (.int 0))) (f2 subD (fVar 2) (fC (.int 1))) (fC .non)) (aCons (fVar 2) aNil))))
    (sSeq (sIf (orD (f2 (eqD true) (fA oRepr (aCons (fVar 6) aNil)) (fA oRepr (aCons (f2 (addD false) (fVar 7) (fA oTup (aCons (fA (oCall 1 d_law_looks) (aCons (fVar 4) aNil)) aNil))) aNil))) (f2 gtD (fA oLen (aCons (f2 ixD (fVar 6) (fC (.int 2))) aNil)) (f2 (addD false) (fC (.int 1)) (fA (oCall 1 d_law_doublings) (aCons (fVar 1) aNil))))) (sRet (fC (.bl false))) sNil)
    (sSeq (sFor (iRg (rg1 (fVar 1))) (tgN 8)
    (sIf (f2 (inD true) (fVar 8) (f2 ixD (fVar 6) (fC (.int 2)))) (sSto (fA (oCall 2 d_law_pick) (aCons (fVar 0) (aCons (fA (oLst false) (aCons (fC .non) (aCons (fC (.str "torn")) (aCons (fVar 2) (aCons (f2 (addD false) (fVar 2) (fVar 1)) (aCons (fVar 8) (aCons (f2 subD (fC (.int 0)) (fC (.int 1))) (aCons (fA oTup aNil) aNil)))))))) aNil))) (fVar 4) (fVar 8)) sNil))
    (sSeq (sIf (orD (f2 (eqD true) (fA oRepr (aCons (fA (oCall 1 d_newest) (aCons (fVar 4) aNil)) aNil)) (fA oRepr (aCons (fVar 6) aNil))) (f2 (eqD true) (fA oRepr (aCons (fA (oCall 1 d_goes_on) (aCons (fVar 4) aNil)) aNil)) (fA oRepr (aCons (fA oTup (aCons (f2 modD (fA oInt (aCons (fVar 2) aNil)) (fVar 1)) (aCons (fVar 2) aNil))) aNil)))) (sRet (fC (.bl false))) sNil)
    (sRet (andD (f2 (eqD false) (fA oRepr (aCons (fA (oCall 2 d_slot_of) (aCons (fVar 1) (aCons (fVar 2) aNil))) aNil)) (fA oRepr (aCons (f2 modD (fA oInt (aCons (fVar 2) aNil)) (fVar 1)) aNil))) (f2 (eqD false) (fA oRepr (aCons (fA (oCall 1 d_most_looks) (aCons (fVar 1) aNil)) aNil)) (fA oRepr (aCons (f2 (addD false) (fC (.int 1)) (fA (oCall 1 d_law_doublings) (aCons (fVar 1) aNil))) aNil))))))))))))))
def d_law_right : List D → Cells → Res D := denF false 4 9 b_law_right
abbrev s_law : Stmt := top 31
abbrev N_law : List Str := ["_law_script", "_law_k", "_law_box_here", "_law_many", "_law_count"]
abbrev P_law : List Str := ["_law_script"]
def b_law : Rho → Cells → Out :=
  (sSeq (sFor (iRg (rg1 (fA oMax (aCons (fC (.int 6)) (aCons (fA oMin (aCons (fA oLen (aCons (fVar 0) aNil)) (aCons (fC (.int 20)) aNil))) aNil))))) (tgN 1)
    (sSeq (sSet 2 (fA (oCall 2 d_law_box) (aCons (fVar 0) (aCons (fVar 1) aNil))))
    (sSeq (sSet 3 (f2 (addD false) (fC (.int 2)) (fA (oCall 2 d_law_pick) (aCons (fVar 2) (aCons (fA (oLst false) (aCons (fC (.int 0)) (aCons (fC (.int 1)) (aCons (fC (.int 2)) (aCons (fC (.int 3)) (aCons (fA (oCall 2 d_law_take) (aCons (fVar 2) (aCons (fC (.int 23)) aNil))) (aCons (fA (oCall 2 d_law_take) (aCons (fVar 2) (aCons (fC (.int 23)) aNil))) (aCons (fC (.int 62)) aNil)))))))) aNil)))))
    (sSeq (sSet 4 (fA (oCall 2 d_law_pick) (aCons (fVar 2) (aCons (fA (oLst false) (aCons (fC (.int 0)) (aCons (fC (.int 1)) (aCons (f2 subD (fVar 3) (fC (.int 1))) (aCons (fVar 3) (aCons (f2 (addD false) (fVar 3) (fC (.int 1))) (aCons (f2 (mulD false) (fC (.int 2)) (fVar 3)) (aCons (fA (oCall 2 d_law_take) (aCons (fVar 2) (aCons (f2 (mulD false) (fC (.int 4)) (fVar 3)) aNil))) (aCons (fA (oCall 2 d_law_take) (aCons (fVar 2) (aCons (f2 (mulD false) (fC (.int 4)) (fVar 3)) aNil))) aNil))))))))) aNil))))
    (sIf (notD (fA (oCall 4 d_law_right) (aCons (fVar 2) (aCons (fVar 3) (aCons (fVar 4) (aCons (f2 (eqD false) (fA (oCall 2 d_law_take) (aCons (fVar 2) (aCons (fC (.int 2)) aNil))) (fC (.int 0))) aNil)))))) (sRet (fC (.bl false))) sNil)))))
    (sRet (fC (.bl true))))
def d_law : List D → Cells → Res D := denF false 1 5 b_law
end K26
namespace K26
open PySem PySem.Spec PyProof.Rows L2 BV
structure Txt (K : PySem.W.Frag) (mg : Str → Option Value) (fA : Nat → Addr) (fD : Nat → FuncData) : Prop where
  d_law_box : DefAt K mg "_law_box" s_law_box P_law_box (fA 0) (fD 0)
  d_law_take : DefAt K mg "_law_take" s_law_take P_law_take (fA 1) (fD 1)
  d_law_pick : DefAt K mg "_law_pick" s_law_pick P_law_pick (fA 2) (fD 2)
  d_law_laid : DefAt K mg "_law_laid" s_law_laid P_law_laid (fA 3) (fD 3)
  d_is_integer : DefAt K mg "is_integer" s_is_integer P_is_integer (fA 4) (fD 4)
  d_is_number : DefAt K mg "is_number" s_is_number P_is_number (fA 5) (fD 5)
  d_is_below : DefAt K mg "is_below" s_is_below P_is_below (fA 6) (fD 6)
  d_need_slots : DefAt K mg "need_slots" s_need_slots P_need_slots (fA 7) (fD 7)
  d_need_count : DefAt K mg "need_count" s_need_count P_need_count (fA 8) (fD 8)
  d_last_in : DefAt K mg "last_in" s_last_in P_last_in (fA 9) (fD 9)
  d_ring_row : DefAt K mg "ring_row" s_ring_row P_ring_row (fA 10) (fD 10)
  d_torn_row : DefAt K mg "torn_row" s_torn_row P_torn_row (fA 11) (fD 11)
  d_is_sequence : DefAt K mg "is_sequence" s_is_sequence P_is_sequence (fA 12) (fD 12)
  d_is_row_form : DefAt K mg "is_row_form" s_is_row_form P_is_row_form (fA 13) (fD 13)
  d_count_of : DefAt K mg "count_of" s_count_of P_count_of (fA 14) (fD 14)
  d_is_ring_row : DefAt K mg "is_ring_row" s_is_ring_row P_is_ring_row (fA 15) (fD 15)
  d_newest : DefAt K mg "newest" s_newest P_newest (fA 16) (fD 16)
  d_law_looks : DefAt K mg "_law_looks" s_law_looks P_law_looks (fA 17) (fD 17)
  d_law_doublings : DefAt K mg "_law_doublings" s_law_doublings P_law_doublings (fA 18) (fD 18)
  d_goes_on : DefAt K mg "goes_on" s_goes_on P_goes_on (fA 19) (fD 19)
  d_slot_of : DefAt K mg "slot_of" s_slot_of P_slot_of (fA 20) (fD 20)
  d_most_looks : DefAt K mg "most_looks" s_most_looks P_most_looks (fA 21) (fD 21)
  d_law_right : DefAt K mg "_law_right" s_law_right P_law_right (fA 22) (fD 22)
  d_law : DefAt K mg "law" s_law P_law (fA 23) (fD 23)
  n_abs : mg "abs" = none
  n_all : mg "all" = none
  n_bool : mg "bool" = none
  n_int : mg "int" = none
  n_isinstance : mg "isinstance" = none
  n_len : mg "len" = none
  n_list : mg "list" = none
  n_max : mg "max" = none
  n_min : mg "min" = none
  n_range : mg "range" = none
  n_repr : mg "repr" = none
  n_str : mg "str" = none
  n_tuple : mg "tuple" = none
  c_MOST_SLOTS : ∃ t, mg "MOST_SLOTS" = some (.int (64) t)
  c_TORN : ∃ t, mg "TORN" = some (.str "torn" t)
  kw_ring_row_0_count_many : KOk K (fD 10) P_ring_row ["count", "many"] [1, 0] 0
section
variable {P : Program} {w : World} {K : PySem.W.Frag} {mg : Str → Option Value} {base : Heap} {fA : Nat → Addr} {fD : Nat → FuncData}
theorem sc_law_box : FnScope N_law_box P_law_box (defScope s_law_box) := ⟨rfl, rfl, rfl, by decide +kernel, rfl, by decide +kernel, by decide +kernel⟩
theorem ok_law_box (T : Txt K mg fA fD) : FnG P w K mg base 1 (fA 0) (fD 0) P_law_box (spD K mg 2 d_law_box) := by
  refine fnG_den (k := 0) true T.d_law_box.F sc_law_box (by decide) fun cd A outer s H E gd hr => ?_
  exact (bss_cons (bs_set (i := 2) sc_law_box.nd rfl (.inl rfl) (be_op (ob_add false) (be_op (ob_mul false) be_int (be_var 1 (pv 1))) be_int))
      (bss_cons (bs_if (bt_cmp ob_lt (be_var 1 (pv 1)) (be_callB cb_len rfl T.n_len bb_len (ba_cons (be_var 0 (pv 0)) ba_nil)) (nomark _)) (bss_one (bs_set (i := 2) sc_law_box.nd rfl (.inl rfl) (be_callB cb_abs rfl T.n_abs bb_abs (ba_cons (be_callTy cb_int rfl T.n_int bb_int (ba_cons (be_ix (be_var 0 (pv 0)) (be_var 1 (pv 1)) (fun _ _ => rfl)) ba_nil)) ba_nil)))) (bss_one (bs_if (bt_cmp ob_gt (be_callB cb_len rfl T.n_len bb_len (ba_cons (be_var 0 (pv 0)) ba_nil)) be_int (nomark _)) (bss_one (bs_set (i := 2) sc_law_box.nd rfl (.inl rfl) (be_op (ob_add false) (be_var 2 (pv 2)) (be_op (ob_mul false) (be_op ob_mod (be_callTy cb_int rfl T.n_int bb_int (ba_cons (be_callB cb_abs rfl T.n_abs bb_abs (ba_cons (be_callTy cb_int rfl T.n_int bb_int (ba_cons (be_ix (be_var 0 (pv 0)) (be_op ob_mod (be_callTy cb_int rfl T.n_int bb_int (ba_cons (be_var 1 (pv 1)) ba_nil)) (be_callB cb_len rfl T.n_len bb_len (ba_cons (be_var 0 (pv 0)) ba_nil))) (fun _ _ => rfl)) ba_nil)) ba_nil)) ba_nil)) be_int) be_int)))) bss_nil)))
      (bss_cons (bs_set (i := 3) sc_law_box.nd rfl (.inl rfl) (be_if (bt_cmp ob_ge (be_var 2 (pv 2)) (be_op ob_pow be_int be_int) (nomark _)) (be_var 2 (pv 2)) be_int))
      (bss_one (bs_ret (be_lst true (ba_cons (be_var 3 (pv 3)) (ba_cons (be_op (ob_add false) (be_op ob_mod (be_callTy cb_int rfl T.n_int bb_int (ba_cons (be_op (ob_add false) (be_op (ob_mul false) (be_op ob_mod (be_callTy cb_int rfl T.n_int bb_int (ba_cons (be_var 2 (pv 2)) ba_nil)) be_int) be_int) (be_op (ob_mul false) be_int (be_var 1 (pv 1)))) ba_nil)) be_int) be_int) ba_nil))))))))
theorem sc_law_take : FnScope N_law_take P_law_take (defScope s_law_take) := ⟨rfl, rfl, rfl, by decide +kernel, rfl, by decide +kernel, by decide +kernel⟩
theorem ok_law_take (T : Txt K mg fA fD) : FnG P w K mg base 1 (fA 1) (fD 1) P_law_take (spD K mg 2 d_law_take) := by
  refine fnG_den (k := 0) false T.d_law_take.F sc_law_take (by decide) fun cd A outer s H E gd hr => ?_
  exact (bss_cons (bs_if (bt_cmp ob_gt (be_ix (be_var 0 (pv 0)) be_int (fun _ _ => rfl)) be_int (nomark _)) (bss_cons (bs_set (i := 2) sc_law_take.nd rfl (.inl rfl) (be_op ob_mod (be_callTy cb_int rfl T.n_int bb_int (ba_cons (be_ix (be_var 0 (pv 0)) be_int (fun _ _ => rfl)) ba_nil)) (be_var 1 (pv 1))))
      (bss_cons (bs_sto (be_op ob_fdiv (be_ix (be_var 0 (pv 0)) be_int (fun _ _ => rfl)) (be_var 1 (pv 1))) (be_var 0 (pv 0)) be_int)
      (bss_one (bs_ret (be_var 2 (pv 2)))))) bss_nil)
      (bss_cons (bs_set (i := 3) sc_law_take.nd rfl (.inl rfl) (be_op ob_mod (be_callTy cb_int rfl T.n_int bb_int (ba_cons (be_op (ob_add false) (be_op (ob_mul false) (be_ix (be_var 0 (pv 0)) be_int (fun _ _ => rfl)) be_int) be_int) ba_nil)) be_int))
      (bss_cons (bs_sto (be_op (ob_add false) (be_op ob_mod (be_callTy cb_int rfl T.n_int bb_int (ba_cons (be_op (ob_add false) (be_op (ob_mul false) (be_var 3 (pv 3)) be_int) be_int) ba_nil)) be_int) be_int) (be_var 0 (pv 0)) be_int)
      (bss_one (bs_ret (be_op ob_mod (be_callTy cb_int rfl T.n_int bb_int (ba_cons (be_op ob_fdiv (be_op (ob_add false) (be_op (ob_mul false) (be_var 3 (pv 3)) be_int) (be_ix (be_var 0 (pv 0)) be_int (fun _ _ => rfl))) be_int) ba_nil)) (be_var 1 (pv 1))))))))
theorem sc_law_pick : FnScope N_law_pick P_law_pick (defScope s_law_pick) := ⟨rfl, rfl, rfl, by decide +kernel, rfl, by decide +kernel, by decide +kernel⟩
theorem ok_law_pick (T : Txt K mg fA fD) : FnG P w K mg base 2 (fA 2) (fD 2) P_law_pick (spD K mg 2 d_law_pick) := by
  refine fnG_den (k := 1) false T.d_law_pick.F sc_law_pick (by decide) fun cd A outer s H E gd hr => ?_
  exact (bss_one (bs_ret (be_ix (be_var 1 (pv 1)) (be_call (ok_law_take T) (hr.mono (by decide)) gd (takes_of rfl rfl rfl rfl) rfl T.d_law_take.m T.d_law_take.F.kp T.d_law_take.b (ba_cons (be_var 0 (pv 0)) (ba_cons (be_callB cb_len rfl T.n_len bb_len (ba_cons (be_var 1 (pv 1)) ba_nil)) ba_nil))) (fun _ _ => rfl))))
theorem sc_law_laid : FnScope N_law_laid P_law_laid (defScope s_law_laid) := ⟨rfl, rfl, rfl, by decide +kernel, rfl, by decide +kernel, by decide +kernel⟩
theorem ok_law_laid (T : Txt K mg fA fD) : FnG P w K mg base 1 (fA 3) (fD 3) P_law_laid (spD K mg 2 d_law_laid) := by
  refine fnG_den (k := 0) true T.d_law_laid.F sc_law_laid (by decide) fun cd A outer s H E gd hr => ?_
  exact (bss_cons (bs_set (i := 2) sc_law_laid.nd rfl (.inl rfl) (be_op (ob_mul true) (be_lst false (ba_cons be_non ba_nil)) (be_var 0 (pv 0))))
      (bss_cons (bs_for (passes_of rfl) rfl (bi_range1 rfl T.n_range (be_var 1 (pv 1))) (bg_name (pg_name (i := 3) sc_law_laid.nd rfl (.inl rfl)))
      (bss_one (bs_sto (be_var 3 (pv 3)) (be_var 2 (pv 2)) (be_op ob_mod (be_callTy cb_int rfl T.n_int bb_int (ba_cons (be_var 3 (pv 3)) ba_nil)) (be_var 0 (pv 0))))))
      (bss_one (bs_ret (be_var 2 (pv 2))))))
theorem sc_is_integer : FnScope N_is_integer P_is_integer (defScope s_is_integer) := ⟨rfl, rfl, rfl, by decide +kernel, rfl, by decide +kernel, by decide +kernel⟩
theorem ok_is_integer (T : Txt K mg fA fD) : FnG P w K mg base 1 (fA 4) (fD 4) P_is_integer (spD K mg 1 d_is_integer) := by
  refine fnG_den (k := 0) false T.d_is_integer.F sc_is_integer (by decide) fun cd A outer s H E gd hr => ?_
  exact (bss_one (bs_ret (be_and (be_isi1 (by decide) rfl T.n_isinstance (be_var 0 (pv 0)) (pe_bltn rfl T.n_int bb_int rfl)) (be_one (be_not (be_isi1 (by decide) rfl T.n_isinstance (be_var 0 (pv 0)) (pe_bltn rfl T.n_bool bb_bool rfl)))))))
theorem sc_is_number : FnScope N_is_number P_is_number (defScope s_is_number) := ⟨rfl, rfl, rfl, by decide +kernel, rfl, by decide +kernel, by decide +kernel⟩
theorem ok_is_number (T : Txt K mg fA fD) : FnG P w K mg base 2 (fA 5) (fD 5) P_is_number (spD K mg 1 d_is_number) := by
  refine fnG_den (k := 1) false T.d_is_number.F sc_is_number (by decide) fun cd A outer s H E gd hr => ?_
  exact (bss_one (bs_ret (be_and (be_call (ok_is_integer T) (hr.mono (by decide)) gd (takes_of rfl rfl rfl rfl) rfl T.d_is_integer.m T.d_is_integer.F.kp T.d_is_integer.b (ba_cons (be_var 0 (pv 0)) ba_nil)) (be_one (be_cmp ob_ge (be_var 0 (pv 0)) be_int (nomark _))))))
theorem sc_is_below : FnScope N_is_below P_is_below (defScope s_is_below) := ⟨rfl, rfl, rfl, by decide +kernel, rfl, by decide +kernel, by decide +kernel⟩
theorem ok_is_below (T : Txt K mg fA fD) : FnG P w K mg base 3 (fA 6) (fD 6) P_is_below (spD K mg 2 d_is_below) := by
  refine fnG_den (k := 2) false T.d_is_below.F sc_is_below (by decide) fun cd A outer s H E gd hr => ?_
  exact (bss_one (bs_ret (be_and (be_call (ok_is_number T) (hr.mono (by decide)) gd (takes_of rfl rfl rfl rfl) rfl T.d_is_number.m T.d_is_number.F.kp T.d_is_number.b (ba_cons (be_var 0 (pv 0)) ba_nil)) (be_one (be_cmp ob_lt (be_var 0 (pv 0)) (be_var 1 (pv 1)) (nomark _))))))
theorem sc_need_slots : FnScope N_need_slots P_need_slots (defScope s_need_slots) := ⟨rfl, rfl, rfl, by decide +kernel, rfl, by decide +kernel, by decide +kernel⟩
theorem ok_need_slots (T : Txt K mg fA fD) : FnG P w K mg base 4 (fA 7) (fD 7) P_need_slots (spD K mg 1 d_need_slots) := by
  refine fnG_den (k := 3) false T.d_need_slots.F sc_need_slots (by decide) fun cd A outer s H E gd hr => ?_
  exact (bss_cons (bs_if (bt_w (bw_or (bt_not (bt_val (be_call (ok_is_below T) (hr.mono (by decide)) gd (takes_of rfl rfl rfl rfl) rfl T.d_is_below.m T.d_is_below.F.kp T.d_is_below.b (ba_cons (be_var 0 (pv 0)) (ba_cons (be_op (ob_add false) (be_gint rfl T.c_MOST_SLOTS) be_int) ba_nil))))) (bw_or1 (bt_cmp ob_lt (be_var 0 (pv 0)) be_int (nomark _))))) (bss_one bs_never) bss_nil)
      (bss_one (bs_ret (be_var 0 (pv 0)))))
theorem sc_need_count : FnScope N_need_count P_need_count (defScope s_need_count) := ⟨rfl, rfl, rfl, by decide +kernel, rfl, by decide +kernel, by decide +kernel⟩
theorem ok_need_count (T : Txt K mg fA fD) : FnG P w K mg base 3 (fA 8) (fD 8) P_need_count (spD K mg 1 d_need_count) := by
  refine fnG_den (k := 2) false T.d_need_count.F sc_need_count (by decide) fun cd A outer s H E gd hr => ?_
  exact (bss_cons (bs_if (bt_not (bt_val (be_call (ok_is_number T) (hr.mono (by decide)) gd (takes_of rfl rfl rfl rfl) rfl T.d_is_number.m T.d_is_number.F.kp T.d_is_number.b (ba_cons (be_var 0 (pv 0)) ba_nil)))) (bss_one bs_never) bss_nil)
      (bss_one (bs_ret (be_var 0 (pv 0)))))
theorem sc_last_in : FnScope N_last_in P_last_in (defScope s_last_in) := ⟨rfl, rfl, rfl, by decide +kernel, rfl, by decide +kernel, by decide +kernel⟩
theorem ok_last_in (T : Txt K mg fA fD) : FnG P w K mg base 1 (fA 9) (fD 9) P_last_in (spD K mg 3 d_last_in) := by
  refine fnG_den (k := 0) false T.d_last_in.F sc_last_in (by decide) fun cd A outer s H E gd hr => ?_
  exact (bss_cons (bs_set (i := 3) sc_last_in.nd rfl (.inl rfl) (be_op ob_mod (be_callTy cb_int rfl T.n_int bb_int (ba_cons (be_op ob_sub (be_op ob_sub (be_var 1 (pv 1)) be_int) (be_var 2 (pv 2))) ba_nil)) (be_var 0 (pv 0))))
      (bss_one (bs_ret (be_if (bt_cmp ob_lt (be_var 3 (pv 3)) (be_var 1 (pv 1)) (nomark _)) (be_op ob_sub (be_op ob_sub (be_var 1 (pv 1)) be_int) (be_var 3 (pv 3))) be_non))))
theorem sc_ring_row : FnScope N_ring_row P_ring_row (defScope s_ring_row) := ⟨rfl, rfl, rfl, by decide +kernel, rfl, by decide +kernel, by decide +kernel⟩
theorem ok_ring_row (T : Txt K mg fA fD) : FnG P w K mg base 5 (fA 10) (fD 10) P_ring_row (spD K mg 2 d_ring_row) := by
  refine fnG_den (k := 4) false T.d_ring_row.F sc_ring_row (by decide) fun cd A outer s H E gd hr => ?_
  exact (bss_cons (bs_expr (be_call (ok_need_slots T) (hr.mono (by decide)) gd (takes_of rfl rfl rfl rfl) rfl T.d_need_slots.m T.d_need_slots.F.kp T.d_need_slots.b (ba_cons (be_var 0 (pv 0)) ba_nil)))
      (bss_cons (bs_expr (be_call (ok_need_count T) (hr.mono (by decide)) gd (takes_of rfl rfl rfl rfl) rfl T.d_need_count.m T.d_need_count.F.kp T.d_need_count.b (ba_cons (be_var 1 (pv 1)) ba_nil)))
      (bss_one (bs_ret (be_callTy cb_tuple rfl T.n_tuple bb_tuple (ba_cons (be_lc (own := [("slot", 2)]) false rfl sc_ring_row.nd (blkOk_by (N := N_ring_row) (sc := defScope s_ring_row) (by decide +kernel)) (by decide) (bi_range1 rfl T.n_range (be_var 0 (pv 0))) (fun _ _ _ _ _ => (bg_name (pg_name (i := 2) sc_ring_row.nd rfl (by first | exact .inl rfl | exact .inr rfl)))) (fun _ _ _ _ _ => bts_nil) (fun _ _ _ _ _ => (be_call (ok_last_in T) (hr.mono (by decide)) gd takes0 rfl T.d_last_in.m T.d_last_in.F.kp T.d_last_in.b (ba_cons (be_var 0 (pv 0)) (ba_cons (be_var 1 (pv 1)) (ba_cons (be_var 2 (pv 2)) ba_nil)))))) ba_nil))))))
theorem sc_torn_row : FnScope N_torn_row P_torn_row (defScope s_torn_row) := ⟨rfl, rfl, rfl, by decide +kernel, rfl, by decide +kernel, by decide +kernel⟩
theorem ok_torn_row (T : Txt K mg fA fD) : FnG P w K mg base 6 (fA 11) (fD 11) P_torn_row (spD K mg 2 d_torn_row) := by
  refine fnG_den (k := 5) false T.d_torn_row.F sc_torn_row (by decide) fun cd A outer s H E gd hr => ?_
  exact (bss_cons (bs_set (i := 2) sc_torn_row.nd rfl (.inl rfl) (be_call (ok_ring_row T) (hr.mono (by decide)) gd (takes_of rfl rfl rfl rfl) rfl T.d_ring_row.m T.d_ring_row.F.kp T.d_ring_row.b (ba_cons (be_var 0 (pv 0)) (ba_cons (be_var 1 (pv 1)) ba_nil))))
      (bss_cons (bs_set (i := 3) sc_torn_row.nd rfl (.inl rfl) (be_op ob_mod (be_callTy cb_int rfl T.n_int bb_int (ba_cons (be_var 1 (pv 1)) ba_nil)) (be_var 0 (pv 0))))
      (bss_one (bs_ret (be_op (ob_add false) (be_op (ob_add false) (be_sl false (be_var 2 (pv 2)) bo_none (bo_some (be_var 3 (pv 3)))) (be_tup (ba_cons (be_gstr rfl T.c_TORN) ba_nil))) (be_sl false (be_var 2 (pv 2)) (bo_some (be_op (ob_add false) (be_var 3 (pv 3)) be_int)) bo_none))))))
theorem sc_is_sequence : FnScope N_is_sequence P_is_sequence (defScope s_is_sequence) := ⟨rfl, rfl, rfl, by decide +kernel, rfl, by decide +kernel, by decide +kernel⟩
theorem ok_is_sequence (T : Txt K mg fA fD) : FnG P w K mg base 1 (fA 12) (fD 12) P_is_sequence (spD K mg 1 d_is_sequence) := by
  refine fnG_den (k := 0) false T.d_is_sequence.F sc_is_sequence (by decide) fun cd A outer s H E gd hr => ?_
  exact (bss_one (bs_ret (be_isi2 (by decide) (by decide) rfl T.n_isinstance (be_var 0 (pv 0)) (pe_bltn rfl T.n_list bb_list rfl) (pe_bltn rfl T.n_tuple bb_tuple rfl))))
theorem sc_is_row_form : FnScope N_is_row_form P_is_row_form (defScope s_is_row_form) := ⟨rfl, rfl, rfl, by decide +kernel, rfl, by decide +kernel, by decide +kernel⟩
theorem ok_is_row_form (T : Txt K mg fA fD) : FnG P w K mg base 3 (fA 13) (fD 13) P_is_row_form (spD K mg 1 d_is_row_form) := by
  refine fnG_den (k := 2) false T.d_is_row_form.F sc_is_row_form (by decide) fun cd A outer s H E gd hr => ?_
  exact (bss_cons (bs_if (bt_w (bw_or (bt_not (bt_val (be_call (ok_is_sequence T) (hr.mono (by decide)) gd (takes_of rfl rfl rfl rfl) rfl T.d_is_sequence.m T.d_is_sequence.F.kp T.d_is_sequence.b (ba_cons (be_var 0 (pv 0)) ba_nil)))) (bw_or1 (bt_not (bt_chain ob_le ob_le be_int (be_callB cb_len rfl T.n_len bb_len (ba_cons (be_var 0 (pv 0)) ba_nil)) (be_gint rfl T.c_MOST_SLOTS)))))) (bss_one (bs_ret be_bl)) bss_nil)
      (bss_one (bs_ret (be_callB (cb_all rfl) rfl T.n_all bb_all (ba_cons (be_lc (own := [("one", 1)]) false rfl sc_is_row_form.nd (blkOk_by (N := N_is_row_form) (sc := defScope s_is_row_form) (by decide +kernel)) (by decide) (bi_seq (be_var 0 (pv 0))) (fun _ _ _ _ _ => (bg_name (pg_name (i := 1) sc_is_row_form.nd rfl (by first | exact .inl rfl | exact .inr rfl)))) (fun _ _ _ _ _ => bts_nil) (fun _ _ _ _ _ => (be_or (be_cmp ob_is (be_var 1 (pv 1)) be_non (nomark _)) (be_or (be_call (ok_is_number T) (hr.mono (by decide)) gd takes0 rfl T.d_is_number.m T.d_is_number.F.kp T.d_is_number.b (ba_cons (be_var 1 (pv 1)) ba_nil)) (be_one (be_and (be_isi1 (by decide) rfl T.n_isinstance (be_var 1 (pv 1)) (pe_bltn rfl T.n_str bb_str rfl)) (be_one (be_cmp (ob_eq (hu64 hr)) (be_var 1 (pv 1)) (be_gstr rfl T.c_TORN) (nomark _))))))))) ba_nil)))))
theorem sc_count_of : FnScope N_count_of P_count_of (defScope s_count_of) := ⟨rfl, rfl, rfl, by decide +kernel, rfl, by decide +kernel, by decide +kernel⟩
theorem ok_count_of (T : Txt K mg fA fD) : FnG P w K mg base 3 (fA 14) (fD 14) P_count_of (spD K mg 1 d_count_of) := by
  refine fnG_den (k := 2) false T.d_count_of.F sc_count_of (by decide) fun cd A outer s H E gd hr => ?_
  exact (bss_cons (bs_setLc (own := [("one", 2)]) (i := 1) false rfl sc_count_of.nd (blkOk_by (N := N_count_of) (sc := defScope s_count_of) (by decide +kernel)) (by decide) rfl rfl (sw_true rfl rfl rfl (by decide +kernel)) (bi_seq (be_var 0 (pv 0))) (fun _ _ _ _ _ => (bg_name (pg_name (i := 2) sc_count_of.nd rfl (by first | exact .inl rfl | exact .inr rfl)))) (fun _ _ _ _ _ => (bts_one (bt_val (be_call (ok_is_number T) (hr.mono (by decide)) gd takes0 rfl T.d_is_number.m T.d_is_number.F.kp T.d_is_number.b (ba_cons (be_var 2 (pv 2)) ba_nil))))) (fun _ _ _ _ _ => (be_var 2 (pv 2))))
      (bss_one (bs_ret (be_if (bt_cmp ob_gt (be_callB cb_len rfl T.n_len bb_len (ba_cons (be_var 1 (pv 1)) ba_nil)) be_int (nomark _)) (be_op (ob_add false) (be_callB (cb_max rfl) rfl T.n_max bb_max (ba_cons (be_var 1 (pv 1)) ba_nil)) be_int) be_int))))
theorem sc_is_ring_row : FnScope N_is_ring_row P_is_ring_row (defScope s_is_ring_row) := ⟨rfl, rfl, rfl, by decide +kernel, rfl, by decide +kernel, by decide +kernel⟩
theorem ok_is_ring_row (T : Txt K mg fA fD) : FnG P w K mg base 7 (fA 15) (fD 15) P_is_ring_row (spD K mg 1 d_is_ring_row) := by
  refine fnG_den (k := 6) false T.d_is_ring_row.F sc_is_ring_row (by decide) fun cd A outer s H E gd hr => ?_
  exact (bss_cons (bs_if (bt_not (bt_val (be_call (ok_is_row_form T) (hr.mono (by decide)) gd (takes_of rfl rfl rfl rfl) rfl T.d_is_row_form.m T.d_is_row_form.F.kp T.d_is_row_form.b (ba_cons (be_var 0 (pv 0)) ba_nil)))) (bss_one (bs_ret be_bl)) bss_nil)
      (bss_cons (bs_par (i := 1) (j := 2) rfl sc_is_ring_row.nd rfl rfl (by decide) rfl rfl (ba_cons (be_callB cb_len rfl T.n_len bb_len (ba_cons (be_var 0 (pv 0)) ba_nil)) (ba_cons (be_call (ok_count_of T) (hr.mono (by decide)) gd (takes_of rfl rfl rfl rfl) rfl T.d_count_of.m T.d_count_of.F.kp T.d_count_of.b (ba_cons (be_var 0 (pv 0)) ba_nil)) ba_nil)) rfl)
      (bss_one (bs_ret (be_cmp (ob_in (hu65 hr)) (be_callTy cb_tuple rfl T.n_tuple bb_tuple (ba_cons (be_var 0 (pv 0)) ba_nil)) (be_tup (ba_cons (be_call (ok_ring_row T) (hr.mono (by decide)) gd (takes_of rfl rfl rfl rfl) rfl T.d_ring_row.m T.d_ring_row.F.kp T.d_ring_row.b (ba_cons (be_var 1 (pv 1)) (ba_cons (be_var 2 (pv 2)) ba_nil))) (ba_cons (be_call (ok_torn_row T) (hr.mono (by decide)) gd (takes_of rfl rfl rfl rfl) rfl T.d_torn_row.m T.d_torn_row.F.kp T.d_torn_row.b (ba_cons (be_var 1 (pv 1)) (ba_cons (be_var 2 (pv 2)) ba_nil))) ba_nil))) rfl)))))
theorem sc_newest : FnScope N_newest P_newest (defScope s_newest) := ⟨rfl, rfl, rfl, by decide +kernel, rfl, by decide +kernel, by decide +kernel⟩
theorem ok_newest (T : Txt K mg fA fD) : FnG P w K mg base 1 (fA 16) (fD 16) P_newest (spD K mg 1 d_newest) := by
  refine fnG_den (k := 0) false T.d_newest.F sc_newest (by decide) fun cd A outer s H E gd hr => ?_
  exact (bss_cons (bs_par (i := 1) (j := 2) rfl sc_newest.nd rfl rfl (by decide) rfl rfl (ba_cons (be_callB cb_len rfl T.n_len bb_len (ba_cons (be_var 0 (pv 0)) ba_nil)) (ba_cons (be_ix (be_var 0 (pv 0)) be_int (fun _ _ => rfl)) ba_nil)) rfl)
      (bss_cons (bs_if (bt_cmp ob_is (be_var 2 (pv 2)) be_non (nomark _)) (bss_one (bs_ret (be_tup (ba_cons be_non (ba_cons be_int (ba_cons (be_tup (ba_cons be_int ba_nil)) ba_nil)))))) bss_nil)
      (bss_cons (bs_if (bt_cmp (ob_eq (hu64 hr)) (be_var 2 (pv 2)) (be_gstr rfl T.c_TORN) (nomark _)) (bss_cons (bs_set (i := 3) sc_newest.nd rfl (.inl rfl) (be_ix (be_var 0 (pv 0)) (be_op ob_sub (be_var 1 (pv 1)) be_int) (fun _ _ => rfl)))
      (bss_one (bs_ret (be_tup (ba_cons (be_var 3 (pv 3)) (ba_cons (be_if (bt_cmp ob_is (be_var 3 (pv 3)) be_non (nomark _)) be_int (be_op (ob_add false) (be_var 3 (pv 3)) be_int)) (ba_cons (be_tup (ba_cons be_int (ba_cons (be_op ob_sub (be_var 1 (pv 1)) be_int) ba_nil))) ba_nil))))))) bss_nil)
      (bss_cons (bs_par3 (ps_par3 (i := 4) (j := 5) (l := 6) rfl sc_newest.nd rfl rfl rfl (by decide) (by decide) (by decide) rfl rfl rfl (ba_cons be_int (ba_cons (be_var 1 (pv 1)) (ba_cons (be_lst true (ba_cons be_int ba_nil)) ba_nil))) rfl))
      (bss_cons (bs_while 100000 (passes_of rfl) (bt_cmp ob_gt (be_op ob_sub (be_var 5 (pv 5)) (be_var 4 (pv 4))) be_int (nomark _))
      (bss_cons (bs_set (i := 7) sc_newest.nd rfl (.inl rfl) (be_op ob_fdiv (be_op (ob_add false) (be_var 4 (pv 4)) (be_var 5 (pv 5))) be_int))
      (bss_cons (bs_expr (be_app (be_var 6 (pv 6)) (be_var 7 (pv 7)) (fun h1 h2 => pe_bm PySem.F.plainAttrs_list PySem.F.slot_list_append PySem.F.type_list_append mt_append h1 (pa_cons h2 pa_nil))))
      (bss_one (bs_if (bt_cmp (ob_eq (hu64 hr)) (be_ix (be_var 0 (pv 0)) (be_var 7 (pv 7)) (fun _ _ => rfl)) (be_op (ob_add false) (be_var 2 (pv 2)) (be_var 7 (pv 7))) (nomark _)) (bss_one (bs_set (i := 4) sc_newest.nd rfl (.inl rfl) (be_var 7 (pv 7)))) (bss_one (bs_set (i := 5) sc_newest.nd rfl (.inl rfl) (be_var 7 (pv 7)))))))))
      (bss_one (bs_ret (be_tup (ba_cons (be_op (ob_add false) (be_var 2 (pv 2)) (be_var 4 (pv 4))) (ba_cons (be_op (ob_add false) (be_op (ob_add false) (be_var 2 (pv 2)) (be_var 4 (pv 4))) be_int) (ba_cons (be_callTy cb_tuple rfl T.n_tuple bb_tuple (ba_cons (be_var 6 (pv 6)) ba_nil)) ba_nil)))))))))))
theorem sc_law_looks : FnScope N_law_looks P_law_looks (defScope s_law_looks) := ⟨rfl, rfl, rfl, by decide +kernel, rfl, by decide +kernel, by decide +kernel⟩
theorem ok_law_looks (T : Txt K mg fA fD) : FnG P w K mg base 1 (fA 17) (fD 17) P_law_looks (spD K mg 1 d_law_looks) := by
  refine fnG_den (k := 0) false T.d_law_looks.F sc_law_looks (by decide) fun cd A outer s H E gd hr => ?_
  exact (bss_cons (bs_if (bt_cmp ob_is (be_ix (be_var 0 (pv 0)) be_int (fun _ _ => rfl)) be_non (nomark _)) (bss_one (bs_ret (be_tup (ba_cons be_int ba_nil)))) bss_nil)
      (bss_cons (bs_if (bt_cmp (ob_eq (hu64 hr)) (be_ix (be_var 0 (pv 0)) be_int (fun _ _ => rfl)) be_str (nomark _)) (bss_one (bs_ret (be_tup (ba_cons be_int (ba_cons (be_op ob_sub (be_callB cb_len rfl T.n_len bb_len (ba_cons (be_var 0 (pv 0)) ba_nil)) be_int) ba_nil))))) bss_nil)
      (bss_cons (bs_par3 (ps_par3 (i := 1) (j := 2) (l := 3) rfl sc_law_looks.nd rfl rfl rfl (by decide) (by decide) (by decide) rfl rfl rfl (ba_cons (be_lst true (ba_cons be_int ba_nil)) (ba_cons be_int (ba_cons (be_callB cb_len rfl T.n_len bb_len (ba_cons (be_var 0 (pv 0)) ba_nil)) ba_nil))) rfl))
      (bss_cons (bs_while 100000 (passes_of rfl) (bt_cmp ob_gt (be_op ob_sub (be_var 3 (pv 3)) (be_var 2 (pv 2))) be_int (nomark _))
      (bss_cons (bs_expr (be_app (be_var 1 (pv 1)) (be_op ob_fdiv (be_op (ob_add false) (be_var 2 (pv 2)) (be_var 3 (pv 3))) be_int) (fun h1 h2 => pe_bm PySem.F.plainAttrs_list PySem.F.slot_list_append PySem.F.type_list_append mt_append h1 (pa_cons h2 pa_nil))))
      (bss_one (bs_if (bt_cmp (ob_eq (hu64 hr)) (be_ix (be_var 0 (pv 0)) (be_ix (be_var 1 (pv 1)) (be_op ob_sub (be_callB cb_len rfl T.n_len bb_len (ba_cons (be_var 1 (pv 1)) ba_nil)) be_int) (fun _ _ => rfl)) (fun _ _ => rfl)) (be_op (ob_add false) (be_ix (be_var 0 (pv 0)) be_int (fun _ _ => rfl)) (be_ix (be_var 1 (pv 1)) (be_op ob_sub (be_callB cb_len rfl T.n_len bb_len (ba_cons (be_var 1 (pv 1)) ba_nil)) be_int) (fun _ _ => rfl))) (nomark _)) (bss_one (bs_set (i := 2) sc_law_looks.nd rfl (.inl rfl) (be_ix (be_var 1 (pv 1)) (be_op ob_sub (be_callB cb_len rfl T.n_len bb_len (ba_cons (be_var 1 (pv 1)) ba_nil)) be_int) (fun _ _ => rfl)))) (bss_one (bs_set (i := 3) sc_law_looks.nd rfl (.inl rfl) (be_ix (be_var 1 (pv 1)) (be_op ob_sub (be_callB cb_len rfl T.n_len bb_len (ba_cons (be_var 1 (pv 1)) ba_nil)) be_int) (fun _ _ => rfl))))))))
      (bss_one (bs_ret (be_callTy cb_tuple rfl T.n_tuple bb_tuple (ba_cons (be_var 1 (pv 1)) ba_nil))))))))
theorem sc_law_doublings : FnScope N_law_doublings P_law_doublings (defScope s_law_doublings) := ⟨rfl, rfl, rfl, by decide +kernel, rfl, by decide +kernel, by decide +kernel⟩
theorem ok_law_doublings (T : Txt K mg fA fD) : FnG P w K mg base 1 (fA 18) (fD 18) P_law_doublings (spD K mg 1 d_law_doublings) := by
  refine fnG_den (k := 0) false T.d_law_doublings.F sc_law_doublings (by decide) fun cd A outer s H E gd hr => ?_
  exact (bss_cons (bs_asg (be_tup (ba_cons be_int (ba_cons be_int ba_nil))) (bg_tup rfl (bgs_cons (bg_name (pg_name (i := 1) sc_law_doublings.nd rfl (.inl rfl))) (bgs_cons (bg_name (pg_name (i := 2) sc_law_doublings.nd rfl (.inl rfl))) bgs_nil))))
      (bss_cons (bs_while 100000 (passes_of rfl) (bt_cmp ob_lt (be_var 2 (pv 2)) (be_var 0 (pv 0)) (nomark _))
      (bss_one (bs_par (i := 1) (j := 2) rfl sc_law_doublings.nd rfl rfl (by decide) rfl rfl (ba_cons (be_op (ob_add false) (be_var 1 (pv 1)) be_int) (ba_cons (be_op (ob_add false) (be_var 2 (pv 2)) (be_var 2 (pv 2))) ba_nil)) rfl)))
      (bss_one (bs_ret (be_var 1 (pv 1))))))
theorem sc_goes_on : FnScope N_goes_on P_goes_on (defScope s_goes_on) := ⟨rfl, rfl, rfl, by decide +kernel, rfl, by decide +kernel, by decide +kernel⟩
theorem ok_goes_on (T : Txt K mg fA fD) : FnG P w K mg base 2 (fA 19) (fD 19) P_goes_on (spD K mg 1 d_goes_on) := by
  refine fnG_den (k := 1) false T.d_goes_on.F sc_goes_on (by decide) fun cd A outer s H E gd hr => ?_
  exact (bss_cons (bs_set (i := 1) sc_goes_on.nd rfl (.inl rfl) (be_ix (be_call (ok_newest T) (hr.mono (by decide)) gd (takes_of rfl rfl rfl rfl) rfl T.d_newest.m T.d_newest.F.kp T.d_newest.b (ba_cons (be_var 0 (pv 0)) ba_nil)) be_int (fun _ _ => rfl)))
      (bss_one (bs_ret (be_tup (ba_cons (be_op ob_mod (be_callTy cb_int rfl T.n_int bb_int (ba_cons (be_var 1 (pv 1)) ba_nil)) (be_callB cb_len rfl T.n_len bb_len (ba_cons (be_var 0 (pv 0)) ba_nil))) (ba_cons (be_var 1 (pv 1)) ba_nil))))))
theorem sc_slot_of : FnScope N_slot_of P_slot_of (defScope s_slot_of) := ⟨rfl, rfl, rfl, by decide +kernel, rfl, by decide +kernel, by decide +kernel⟩
theorem ok_slot_of (T : Txt K mg fA fD) : FnG P w K mg base 5 (fA 20) (fD 20) P_slot_of (spD K mg 2 d_slot_of) := by
  refine fnG_den (k := 4) false T.d_slot_of.F sc_slot_of (by decide) fun cd A outer s H E gd hr => ?_
  exact (bss_cons (bs_expr (be_call (ok_need_slots T) (hr.mono (by decide)) gd (takes_of rfl rfl rfl rfl) rfl T.d_need_slots.m T.d_need_slots.F.kp T.d_need_slots.b (ba_cons (be_var 0 (pv 0)) ba_nil)))
      (bss_one (bs_ret (be_op ob_mod (be_callTy cb_int rfl T.n_int bb_int (ba_cons (be_call (ok_need_count T) (hr.mono (by decide)) gd (takes_of rfl rfl rfl rfl) rfl T.d_need_count.m T.d_need_count.F.kp T.d_need_count.b (ba_cons (be_var 1 (pv 1)) ba_nil)) ba_nil)) (be_var 0 (pv 0))))))
theorem sc_most_looks : FnScope N_most_looks P_most_looks (defScope s_most_looks) := ⟨rfl, rfl, rfl, by decide +kernel, rfl, by decide +kernel, by decide +kernel⟩
theorem ok_most_looks (T : Txt K mg fA fD) : FnG P w K mg base 5 (fA 21) (fD 21) P_most_looks (spD K mg 1 d_most_looks) := by
  refine fnG_den (k := 4) false T.d_most_looks.F sc_most_looks (by decide) fun cd A outer s H E gd hr => ?_
  exact (bss_cons (bs_expr (be_call (ok_need_slots T) (hr.mono (by decide)) gd (takes_of rfl rfl rfl rfl) rfl T.d_need_slots.m T.d_need_slots.F.kp T.d_need_slots.b (ba_cons (be_var 0 (pv 0)) ba_nil)))
      (bss_cons (bs_asg (be_tup (ba_cons be_int (ba_cons be_int ba_nil))) (bg_tup rfl (bgs_cons (bg_name (pg_name (i := 1) sc_most_looks.nd rfl (.inl rfl))) (bgs_cons (bg_name (pg_name (i := 2) sc_most_looks.nd rfl (.inl rfl))) bgs_nil))))
      (bss_cons (bs_while 100000 (passes_of rfl) (bt_cmp ob_lt (be_var 2 (pv 2)) (be_var 0 (pv 0)) (nomark _))
      (bss_one (bs_par (i := 1) (j := 2) rfl sc_most_looks.nd rfl rfl (by decide) rfl rfl (ba_cons (be_op (ob_add false) (be_var 1 (pv 1)) be_int) (ba_cons (be_op (ob_mul false) be_int (be_var 2 (pv 2))) ba_nil)) rfl)))
      (bss_one (bs_ret (be_var 1 (pv 1)))))))
theorem sc_law_right : FnScope N_law_right P_law_right (defScope s_law_right) := ⟨rfl, rfl, rfl, by decide +kernel, rfl, by decide +kernel, by decide +kernel⟩
theorem ok_law_right (T : Txt K mg fA fD) : FnG P w K mg base 8 (fA 22) (fD 22) P_law_right (spD K mg 4 d_law_right) := by
  refine fnG_den (k := 7) false T.d_law_right.F sc_law_right (by decide) fun cd A outer s H E gd hr => ?_
  exact (bss_cons (bs_set (i := 4) sc_law_right.nd rfl (.inl rfl) (be_call (ok_law_laid T) (hr.mono (by decide)) gd (takes_of rfl rfl rfl rfl) rfl T.d_law_laid.m T.d_law_laid.F.kp T.d_law_laid.b (ba_cons (be_var 1 (pv 1)) (ba_cons (be_var 2 (pv 2)) ba_nil))))
      (bss_cons (bs_if (bt_val (be_var 3 (pv 3))) (bss_one (bs_sto be_str (be_var 4 (pv 4)) (be_op ob_mod (be_callTy cb_int rfl T.n_int bb_int (ba_cons (be_var 2 (pv 2)) ba_nil)) (be_var 1 (pv 1))))) bss_nil)
      (bss_cons (bs_set (i := 5) sc_law_right.nd rfl (.inl rfl) (be_if (bt_val (be_var 3 (pv 3))) (be_call (ok_torn_row T) (hr.mono (by decide)) gd (takes_of rfl rfl rfl rfl) rfl T.d_torn_row.m T.d_torn_row.F.kp T.d_torn_row.b (ba_cons (be_var 1 (pv 1)) (ba_cons (be_var 2 (pv 2)) ba_nil))) (be_callK0 (π := [1, 0]) (ks := ["count", "many"]) (ok_ring_row T) (hr.mono (by decide)) gd (takes_of rfl rfl rfl rfl) rfl T.d_ring_row.m T.d_ring_row.F.kp T.kw_ring_row_0_count_many (bk_cons (be_var 2 (pv 2)) (bk_cons (be_var 1 (pv 1)) bk_nil)))))
      (bss_cons (bs_if (bt_w (bw_or (bt_cmp (ob_ne (hu64 hr)) (be_callB (cb_repr gd (hu65 hr)) rfl T.n_repr bb_repr (ba_cons (be_var 5 (pv 5)) ba_nil)) (be_callB (cb_repr gd (hu65 hr)) rfl T.n_repr bb_repr (ba_cons (be_callTy cb_tuple rfl T.n_tuple bb_tuple (ba_cons (be_var 4 (pv 4)) ba_nil)) ba_nil)) (nomark _)) (bw_or1 (bt_cmp ob_isnot (be_call (ok_is_ring_row T) (hr.mono (by decide)) gd (takes_of rfl rfl rfl rfl) rfl T.d_is_ring_row.m T.d_is_ring_row.F.kp T.d_is_ring_row.b (ba_cons (be_call (ok_law_pick T) (hr.mono (by decide)) gd (takes_of rfl rfl rfl rfl) rfl T.d_law_pick.m T.d_law_pick.F.kp T.d_law_pick.b (ba_cons (be_var 0 (pv 0)) (ba_cons (be_lst false (ba_cons (be_var 4 (pv 4)) (ba_cons (be_callTy cb_tuple rfl T.n_tuple bb_tuple (ba_cons (be_var 4 (pv 4)) ba_nil)) ba_nil))) ba_nil))) ba_nil)) be_bl (nomark _))))) (bss_one (bs_ret be_bl)) bss_nil)
      (bss_cons (bs_set (i := 6) sc_law_right.nd rfl (.inl rfl) (be_call (ok_newest T) (hr.mono (by decide)) gd (takes_of rfl rfl rfl rfl) rfl T.d_newest.m T.d_newest.F.kp T.d_newest.b (ba_cons (be_callTy cb_tuple rfl T.n_tuple bb_tuple (ba_cons (be_var 4 (pv 4)) ba_nil)) ba_nil)))
      (bss_cons (bs_set (i := 7) sc_law_right.nd rfl (.inl rfl) (be_tup (ba_cons (be_if (bt_cmp ob_gt (be_var 2 (pv 2)) be_int (nomark _)) (be_op ob_sub (be_var 2 (pv 2)) be_int) be_non) (ba_cons (be_var 2 (pv 2)) ba_nil))))
      (bss_cons (bs_if (bt_w (bw_or (bt_cmp (ob_ne (hu64 hr)) (be_callB (cb_repr gd (hu65 hr)) rfl T.n_repr bb_repr (ba_cons (be_var 6 (pv 6)) ba_nil)) (be_callB (cb_repr gd (hu65 hr)) rfl T.n_repr bb_repr (ba_cons (be_op (ob_add false) (be_var 7 (pv 7)) (be_tup (ba_cons (be_call (ok_law_looks T) (hr.mono (by decide)) gd (takes_of rfl rfl rfl rfl) rfl T.d_law_looks.m T.d_law_looks.F.kp T.d_law_looks.b (ba_cons (be_var 4 (pv 4)) ba_nil)) ba_nil))) ba_nil)) (nomark _)) (bw_or1 (bt_cmp ob_gt (be_callB cb_len rfl T.n_len bb_len (ba_cons (be_ix (be_var 6 (pv 6)) be_int (fun _ _ => rfl)) ba_nil)) (be_op (ob_add false) be_int (be_call (ok_law_doublings T) (hr.mono (by decide)) gd (takes_of rfl rfl rfl rfl) rfl T.d_law_doublings.m T.d_law_doublings.F.kp T.d_law_doublings.b (ba_cons (be_var 1 (pv 1)) ba_nil))) (nomark _))))) (bss_one (bs_ret be_bl)) bss_nil)
      (bss_cons (bs_for (passes_of rfl) rfl (bi_range1 rfl T.n_range (be_var 1 (pv 1))) (bg_name (pg_name (i := 8) sc_law_right.nd rfl (.inl rfl)))
      (bss_one (bs_if (bt_cmp (ob_notin (hu65 hr)) (be_var 8 (pv 8)) (be_ix (be_var 6 (pv 6)) be_int (fun _ _ => rfl)) rfl) (bss_one (bs_sto (be_call (ok_law_pick T) (hr.mono (by decide)) gd (takes_of rfl rfl rfl rfl) rfl T.d_law_pick.m T.d_law_pick.F.kp T.d_law_pick.b (ba_cons (be_var 0 (pv 0)) (ba_cons (be_lst false (ba_cons be_non (ba_cons be_str (ba_cons (be_var 2 (pv 2)) (ba_cons (be_op (ob_add false) (be_var 2 (pv 2)) (be_var 1 (pv 1))) (ba_cons (be_var 8 (pv 8)) (ba_cons (be_op ob_sub be_int be_int) (ba_cons (be_tup ba_nil) ba_nil)))))))) ba_nil))) (be_var 4 (pv 4)) (be_var 8 (pv 8)))) bss_nil)))
      (bss_cons (bs_if (bt_w (bw_or (bt_cmp (ob_ne (hu64 hr)) (be_callB (cb_repr gd (hu65 hr)) rfl T.n_repr bb_repr (ba_cons (be_call (ok_newest T) (hr.mono (by decide)) gd (takes_of rfl rfl rfl rfl) rfl T.d_newest.m T.d_newest.F.kp T.d_newest.b (ba_cons (be_var 4 (pv 4)) ba_nil)) ba_nil)) (be_callB (cb_repr gd (hu65 hr)) rfl T.n_repr bb_repr (ba_cons (be_var 6 (pv 6)) ba_nil)) (nomark _)) (bw_or1 (bt_cmp (ob_ne (hu64 hr)) (be_callB (cb_repr gd (hu65 hr)) rfl T.n_repr bb_repr (ba_cons (be_call (ok_goes_on T) (hr.mono (by decide)) gd (takes_of rfl rfl rfl rfl) rfl T.d_goes_on.m T.d_goes_on.F.kp T.d_goes_on.b (ba_cons (be_var 4 (pv 4)) ba_nil)) ba_nil)) (be_callB (cb_repr gd (hu65 hr)) rfl T.n_repr bb_repr (ba_cons (be_tup (ba_cons (be_op ob_mod (be_callTy cb_int rfl T.n_int bb_int (ba_cons (be_var 2 (pv 2)) ba_nil)) (be_var 1 (pv 1))) (ba_cons (be_var 2 (pv 2)) ba_nil))) ba_nil)) (nomark _))))) (bss_one (bs_ret be_bl)) bss_nil)
      (bss_one (bs_ret (be_and (be_cmp (ob_eq (hu64 hr)) (be_callB (cb_repr gd (hu65 hr)) rfl T.n_repr bb_repr (ba_cons (be_call (ok_slot_of T) (hr.mono (by decide)) gd (takes_of rfl rfl rfl rfl) rfl T.d_slot_of.m T.d_slot_of.F.kp T.d_slot_of.b (ba_cons (be_var 1 (pv 1)) (ba_cons (be_var 2 (pv 2)) ba_nil))) ba_nil)) (be_callB (cb_repr gd (hu65 hr)) rfl T.n_repr bb_repr (ba_cons (be_op ob_mod (be_callTy cb_int rfl T.n_int bb_int (ba_cons (be_var 2 (pv 2)) ba_nil)) (be_var 1 (pv 1))) ba_nil)) (nomark _)) (be_one (be_cmp (ob_eq (hu64 hr)) (be_callB (cb_repr gd (hu65 hr)) rfl T.n_repr bb_repr (ba_cons (be_call (ok_most_looks T) (hr.mono (by decide)) gd (takes_of rfl rfl rfl rfl) rfl T.d_most_looks.m T.d_most_looks.F.kp T.d_most_looks.b (ba_cons (be_var 1 (pv 1)) ba_nil)) ba_nil)) (be_callB (cb_repr gd (hu65 hr)) rfl T.n_repr bb_repr (ba_cons (be_op (ob_add false) be_int (be_call (ok_law_doublings T) (hr.mono (by decide)) gd (takes_of rfl rfl rfl rfl) rfl T.d_law_doublings.m T.d_law_doublings.F.kp T.d_law_doublings.b (ba_cons (be_var 1 (pv 1)) ba_nil))) ba_nil)) (nomark _)))))))))))))))
theorem sc_law : FnScope N_law P_law (defScope s_law) := ⟨rfl, rfl, rfl, by decide +kernel, rfl, by decide +kernel, by decide +kernel⟩
theorem ok_law (T : Txt K mg fA fD) : FnG P w K mg base 9 (fA 23) (fD 23) P_law (spD K mg 1 d_law) := by
  refine fnG_den (k := 8) false T.d_law.F sc_law (by decide) fun cd A outer s H E gd hr => ?_
  exact (bss_cons (bs_for (passes_of rfl) rfl (bi_range1 rfl T.n_range (be_callB (cb_max rfl) rfl T.n_max bb_max (ba_cons be_int (ba_cons (be_callB (cb_min rfl) rfl T.n_min bb_min (ba_cons (be_callB cb_len rfl T.n_len bb_len (ba_cons (be_var 0 (pv 0)) ba_nil)) (ba_cons be_int ba_nil))) ba_nil)))) (bg_name (pg_name (i := 1) sc_law.nd rfl (.inl rfl)))
      (bss_cons (bs_set (i := 2) sc_law.nd rfl (.inl rfl) (be_call (ok_law_box T) (hr.mono (by decide)) gd (takes_of rfl rfl rfl rfl) rfl T.d_law_box.m T.d_law_box.F.kp T.d_law_box.b (ba_cons (be_var 0 (pv 0)) (ba_cons (be_var 1 (pv 1)) ba_nil))))
      (bss_cons (bs_set (i := 3) sc_law.nd rfl (.inl rfl) (be_op (ob_add false) be_int (be_call (ok_law_pick T) (hr.mono (by decide)) gd (takes_of rfl rfl rfl rfl) rfl T.d_law_pick.m T.d_law_pick.F.kp T.d_law_pick.b (ba_cons (be_var 2 (pv 2)) (ba_cons (be_lst false (ba_cons be_int (ba_cons be_int (ba_cons be_int (ba_cons be_int (ba_cons (be_call (ok_law_take T) (hr.mono (by decide)) gd (takes_of rfl rfl rfl rfl) rfl T.d_law_take.m T.d_law_take.F.kp T.d_law_take.b (ba_cons (be_var 2 (pv 2)) (ba_cons be_int ba_nil))) (ba_cons (be_call (ok_law_take T) (hr.mono (by decide)) gd (takes_of rfl rfl rfl rfl) rfl T.d_law_take.m T.d_law_take.F.kp T.d_law_take.b (ba_cons (be_var 2 (pv 2)) (ba_cons be_int ba_nil))) (ba_cons be_int ba_nil)))))))) ba_nil)))))
      (bss_cons (bs_set (i := 4) sc_law.nd rfl (.inl rfl) (be_call (ok_law_pick T) (hr.mono (by decide)) gd (takes_of rfl rfl rfl rfl) rfl T.d_law_pick.m T.d_law_pick.F.kp T.d_law_pick.b (ba_cons (be_var 2 (pv 2)) (ba_cons (be_lst false (ba_cons be_int (ba_cons be_int (ba_cons (be_op ob_sub (be_var 3 (pv 3)) be_int) (ba_cons (be_var 3 (pv 3)) (ba_cons (be_op (ob_add false) (be_var 3 (pv 3)) be_int) (ba_cons (be_op (ob_mul false) be_int (be_var 3 (pv 3))) (ba_cons (be_call (ok_law_take T) (hr.mono (by decide)) gd (takes_of rfl rfl rfl rfl) rfl T.d_law_take.m T.d_law_take.F.kp T.d_law_take.b (ba_cons (be_var 2 (pv 2)) (ba_cons (be_op (ob_mul false) be_int (be_var 3 (pv 3))) ba_nil))) (ba_cons (be_call (ok_law_take T) (hr.mono (by decide)) gd (takes_of rfl rfl rfl rfl) rfl T.d_law_take.m T.d_law_take.F.kp T.d_law_take.b (ba_cons (be_var 2 (pv 2)) (ba_cons (be_op (ob_mul false) be_int (be_var 3 (pv 3))) ba_nil))) ba_nil))))))))) ba_nil))))
      (bss_one (bs_if (bt_not (bt_val (be_call (ok_law_right T) (hr.mono (by decide)) gd (takes_of rfl rfl rfl rfl) rfl T.d_law_right.m T.d_law_right.F.kp T.d_law_right.b (ba_cons (be_var 2 (pv 2)) (ba_cons (be_var 3 (pv 3)) (ba_cons (be_var 4 (pv 4)) (ba_cons (be_cmp (ob_eq (hu64 hr)) (be_call (ok_law_take T) (hr.mono (by decide)) gd (takes_of rfl rfl rfl rfl) rfl T.d_law_take.m T.d_law_take.F.kp T.d_law_take.b (ba_cons (be_var 2 (pv 2)) (ba_cons be_int ba_nil))) be_int (nomark _)) ba_nil))))))) (bss_one (bs_ret be_bl)) bss_nil))))))
      (bss_one (bs_ret be_bl)))
end
end K26
namespace K26
open PySem L2 BV
/-! ### the box: draws -/
structure Box (C : Cells) (k : Nat) : Prop where
  ex : ∃ g s : Int, C[k]? = some (.lst [.int g, .int s]) ∧ 0 ≤ g ∧ 0 ≤ s ∧ s < 2 ^ 32
theorem take_spec {C : Cells} {k : Nat} {m : Int} (hC : Flat C) (hb : Box C k) (h0 : 0 < m) (h1 : m < 2 ^ 28) :
    ∃ (r : Int) (bx : List D), d_law_take [.cel k, .int m] C = .ok (.int r) (C.set k (.lst bx)) ∧ 0 ≤ r ∧ r < m ∧ Flat (C.set k (.lst bx)) ∧ Box (C.set k (.lst bx)) k := by
  obtain ⟨g, s, hk, hg, hs, hs2⟩ := hb.ex
  have hkl := (List.getElem?_eq_some_iff.mp hk).1
  have i0 : ixD (.cel k) (.int 0) C = .ok (.int g) C := ix_cel hk (by decide) rfl
  have i1 : ixD (.cel k) (.int 1) C = .ok (.int s) C := ix_cel hk (by decide) rfl
  by_cases hp : g > 0
  · refine ⟨g % m, [.int (g / m), .int s], ?_, Int.emod_nonneg _ (by omega), Int.emod_lt_of_pos _ h0, hC.set k rfl, ⟨g / m, s, by simp [hkl], Int.ediv_nonneg hg (by omega), hs, hs2⟩⟩
    refine den_mut [] (hC.set k rfl) rfl (by simp) ?_ rfl
    have hd : CDiv g m := ⟨h0, by omega⟩
    have st : stoD (.cel k) (.int 0) (.int (g / m)) C = some (C.set k (.lst [.int (g / m), .int s])) := sto_of hk (by decide) (by simp)
    simp [b_law_take, i0, hp, h0, hd, st]
  · have hm : ∀ i j : Int, -(2 ^ 64) < j → j < 2 ^ 64 → CMul i j := fun i j a b => .inr ⟨a, b⟩
    refine ⟨((s * 39373 + 39) % 2147483647 * 2147483629 + ((((s * 39373 + 39) % 2147483647) * 40692 + 28) % 2147483399 + 1)) / 8209 % m, [.int g, .int ((((s * 39373 + 39) % 2147483647) * 40692 + 28) % 2147483399 + 1)], ?_, Int.emod_nonneg _ (by omega), Int.emod_lt_of_pos _ h0, hC.set k rfl,
      ⟨g, (((s * 39373 + 39) % 2147483647) * 40692 + 28) % 2147483399 + 1, by simp [hkl], hg, by omega, by omega⟩⟩
    refine den_mut [] (hC.set k rfl) rfl (by simp) ?_ rfl
    have st : ∀ v, stoD (.cel k) (.int 1) v C = some (C.set k (.lst [.int g, v])) := fun v => sto_of hk (by decide) (by simp)
    have i1' : ∀ v, ixD (.cel k) (.int 1) (C.set k (.lst [.int g, v])) = .ok v (C.set k (.lst [.int g, v])) := fun v => ix_cel (set_get hk) (by decide) rfl
    have c1 : CDiv ((s * 39373 + 39) % 2147483647 * 2147483629 + ((((s * 39373 + 39) % 2147483647) * 40692 + 28) % 2147483399 + 1)) 8209 := ⟨by decide, by decide⟩
    simp [b_law_take, i0, hp, h0, st, i1, i1', hm, c1]
end K26
namespace K26
open PySem L2 BV
theorem scr_at {ns : List Int} {C : Cells} {i : Int} (h0 : 0 ≤ i) (h1 : i < ns.length) : ∃ v, ixD (.scr ns) (.int i) C = .ok (.int v) C := by
  refine ⟨ns[i.toNat]'(by omega), ix_of (asS_scr _ _) h0 ?_⟩
  have : i.toNat < ns.length := by omega
  simp [this]
theorem box_spec {ns : List Int} {C : Cells} {k : Int} (hC : Flat C) (h0 : 0 ≤ k) (h1 : k < 1000) :
    ∃ bx, d_law_box [.scr ns, .int k] C = .ok (.cel C.length) (C ++ [.lst bx]) ∧ Flat (C ++ [.lst bx]) ∧ Box (C ++ [.lst bx]) C.length := by
  have hm : ∀ i j : Int, -(2 ^ 64) < j → j < 2 ^ 64 → CMul i j := fun i j a b => .inr ⟨a, b⟩
  have hm' : ∀ i j : Int, -(2 ^ 64) < i → i < 2 ^ 64 → CMul i j := fun i j a b => .inl ⟨a, b⟩
  have hp : CPow 10 18 := by decide
  -- the state behind the ifs: some number in slot 2
  have mid : ∃ c : Int, 0 ≤ c ∧ (sIf (f2 ltD (fVar 1) (fA oLen (aCons (fVar 0) aNil))) (sSet 2 (fA oAbs (aCons (fA oInt (aCons (f2 ixD (fVar 0) (fVar 1)) aNil)) aNil)))
      (sIf (f2 gtD (fA oLen (aCons (fVar 0) aNil)) (fC (.int 0))) (sSet 2 (f2 (addD false) (fVar 2) (f2 (mulD false) (f2 modD (fA oInt (aCons (fA oAbs (aCons (fA oInt (aCons (f2 ixD (fVar 0) (f2 modD (fA oInt (aCons (fVar 1) aNil)) (fA oLen (aCons (fVar 0) aNil)))) aNil)) aNil)) aNil)) (fC (.int 2147483563))) (fC (.int 50867))))) sNil))
      [some (.scr ns), some (.int k), some (.int (11579 * k + 4651)), none] C = .nx [some (.scr ns), some (.int k), some (.int c), none] C := by
    by_cases a : k < ns.length
    · obtain ⟨v, hv⟩ := scr_at (C := C) h0 a
      exact ⟨if v < 0 then -v else v, by split <;> omega, by simp [a, hv]⟩
    · by_cases b : (0 : Int) < ns.length
      · obtain ⟨v, hv⟩ := scr_at (C := C) (i := k % ns.length) (Int.emod_nonneg _ (by omega)) (Int.emod_lt_of_pos _ b)
        have b' : 0 < ns.length := by omega
        refine ⟨11579 * k + 4651 + (if v < 0 then -v else v) % 2147483563 * 50867, by split <;> omega, ?_⟩
        simp [a, b, b', hv, hm]
      · exact ⟨11579 * k + 4651, by omega, by simp [a, b]; omega⟩
  obtain ⟨c, hc0, hmid⟩ := mid
  refine ⟨[.int (if c ≥ 10 ^ 18 then c else 0), .int ((c % 2147483563 * 40014 + 4651 * k) % 2147483563 + 1)], ?_, hC.append (.one rfl), ⟨if c ≥ 10 ^ 18 then c else 0, (c % 2147483563 * 40014 + 4651 * k) % 2147483563 + 1, by simp, ?_, by omega, by omega⟩⟩
  · have e : b_law_box ([D.scr ns, .int k].map some ++ List.replicate (4 - 2) none) C = .rt (.cel C.length) (C ++ [.lst [.int (if c ≥ 10 ^ 18 then c else 0), .int ((c % 2147483563 * 40014 + 4651 * k) % 2147483563 + 1)]]) := by
      unfold b_law_box
      rw [e_sSeq]
      simp only [List.map_cons, List.map_nil, List.cons_append, List.nil_append, List.replicate, Nat.reduceSub, e_sSet, e_f2, e_c, e_var, List.getElem?_cons_zero, List.getElem?_cons_succ, Res.bind_ok, e_mul_ii, e_add_ii, if_pos (hm' 11579 k (by decide) (by decide)), Res.out_ok, List.set_cons_succ, List.set_cons_zero, Out.then_nx]
      rw [e_sSeq, hmid]
      by_cases g : (1000000000000000000 : Int) ≤ c
      · simp [hp, g, hm, hm']
      · simp [hp, g, hm, hm']
    refine (den_rt (m := true) (np := 2) (N := 4) rfl e).trans ?_
    have := fin_cel (ds := [.int (if c ≥ 10 ^ 18 then c else 0), .int ((c % 2147483563 * 40014 + 4651 * k) % 2147483563 + 1)]) (C := C) (C' := C ++ [.lst [.int (if c ≥ 10 ^ 18 then c else 0), .int ((c % 2147483563 * 40014 + 4651 * k) % 2147483563 + 1)]]) (k := C.length) (by simpa using hC) (Nat.le_refl _) (by simp) rfl
    rw [this, take_app]
  · split <;> omega
theorem pick_spec {C : Cells} {k : Nat} {x : D} {ds : List D} (hC : Flat C) (hb : Box C k) (hx : x = .lst ds ∨ x = .tup ds) (h0 : 0 < ds.length) (h1 : ds.length < 1000) (hc : celsOk C.length ds = true) :
    ∃ (j : Nat) (d : D) (bx : List D), ds[j]? = some d ∧ d_law_pick [.cel k, x] C = .ok d (C.set k (.lst bx)) ∧ Flat (C.set k (.lst bx)) ∧ Box (C.set k (.lst bx)) k := by
  obtain ⟨r, bx, e, r0, r1, hF, hB⟩ := take_spec (m := ds.length) hC hb (by omega) (by omega)
  have hj : r.toNat < ds.length := by omega
  refine ⟨r.toNat, ds[r.toNat], bx, by simp [hj], ?_, hF, hB⟩
  have hd : celOk C.length ds[r.toNat] = true := by
    have : ∀ (ds : List D) (n : Nat), celsOk n ds = true → ∀ d ∈ ds, celOk n d = true := by
      intro ds n
      induction ds with
      | nil => intro _ d hd; cases hd
      | cons a as ih =>
        intro h d hd
        simp only [celsOk, Bool.and_eq_true] at h
        rcases List.mem_cons.mp hd with e | hd
        · rw [e]; exact h.1
        · exact ih h.2 d hd
    exact this ds _ hc _ (List.getElem_mem hj)
  refine den_mut [] hF rfl (by simp) ?_ hd
  have hi : ∀ C', asS x C' = some ds := by rcases hx with rfl | rfl <;> intro _ <;> rfl
  have hl : oLen [x] C = .ok (.int ds.length) C := by rcases hx with rfl | rfl <;> rfl
  have hix : ixD x (.int r) (C.set k (.lst bx)) = .ok ds[r.toNat] (C.set k (.lst bx)) := ix_of (hi _) r0 (by simp [hj])
  simp [b_law_pick, hl, e, hix]
end K26
namespace K26
open PySem L2 BV
/-! ### words -/
def isI : D → Bool
  | .int _ => true
  | _ => false
def isNum : D → Bool
  | .int i => decide (0 ≤ i)
  | _ => false
theorem integer_spec {x : D} {C : Cells} (hC : Flat C) (hx : ∀ k, x ≠ .cel k) : d_is_integer [x] C = .ok (.bl (isI x)) C := by
  refine den_val0 hC rfl ?_ rfl
  cases x with
  | cel k => exact absurd rfl (hx k)
  | _ => rfl
theorem number_spec {x : D} {C : Cells} (hC : Flat C) (hx : ∀ k, x ≠ .cel k) : d_is_number [x] C = .ok (.bl (isNum x)) C := by
  refine den_val0 hC rfl ?_ rfl
  have h := integer_spec hC hx
  cases x with
  | cel k => exact absurd rfl (hx k)
  | int i => simp [b_is_number, h, isI, isNum]
  | _ => simp [b_is_number, h, isI, isNum]
theorem below_spec {i m : Int} {C : Cells} (hC : Flat C) : d_is_below [.int i, .int m] C = .ok (.bl (decide (0 ≤ i) && decide (i < m))) C := by
  refine den_val0 hC rfl ?_ rfl
  have h := number_spec (x := .int i) hC (fun _ e => nomatch e)
  by_cases a : 0 ≤ i <;> simp [b_is_below, h, isNum, a]
theorem need_slots_spec {m : Int} {C : Cells} (hC : Flat C) (h0 : 2 ≤ m) (h1 : m ≤ 64) : d_need_slots [.int m] C = .ok (.int m) C := by
  refine den_val0 hC rfl ?_ rfl
  have h := below_spec (i := m) (m := 65) hC
  have a : 0 ≤ m := by omega
  have b : m < 65 := by omega
  have c : ¬ m < 2 := by omega
  simp [b_need_slots, h, a, b, c]
theorem need_count_spec {m : Int} {C : Cells} (hC : Flat C) (h0 : 0 ≤ m) : d_need_count [.int m] C = .ok (.int m) C := by
  refine den_val0 hC rfl ?_ rfl
  have h := number_spec (x := .int m) hC (fun _ e => nomatch e)
  simp [b_need_count, h, isNum, h0]
theorem slot_spec {m n : Int} {C : Cells} (hC : Flat C) (h0 : 2 ≤ m) (h1 : m ≤ 64) (h2 : 0 ≤ n) : d_slot_of [.int m, .int n] C = .ok (.int (n % m)) C := by
  refine den_val0 hC rfl ?_ rfl
  have a : 0 < m := by omega
  simp [b_slot_of, need_slots_spec hC h0 h1, need_count_spec hC h2, a]
/-! ### rows -/
/-- what lies in a slot -/
def lastD (m c s : Int) : D := if (c - 1 - s) % m < c then .int (c - 1 - (c - 1 - s) % m) else .non
theorem last_in_spec {m c s : Int} {C : Cells} (hC : Flat C) (h0 : 0 < m) : d_last_in [.int m, .int c, .int s] C = .ok (lastD m c s) C := by
  refine den_val0 hC rfl ?_ (by unfold lastD; split <;> rfl)
  unfold lastD
  by_cases a : (c - 1 - s) % m < c <;> simp [b_last_in, h0, a]
def rowD (m : Nat) (c : Int) : List D := (List.range m).map fun (s : Nat) => lastD m c (s : Nat)
theorem rowD_len (m : Nat) (c : Int) : (rowD m c).length = m := by simp [rowD]
theorem rowD_get {m : Nat} {c : Int} {s : Nat} (h : s < m) : (rowD m c)[s]? = some (lastD m c s) := by simp [rowD, h]
theorem lastD_ok (m c s : Int) (n : Nat) : celOk n (lastD m c s) = true := by unfold lastD; split <;> rfl
theorem celsOk_of {n : Nat} : ∀ {ds : List D}, (∀ d ∈ ds, celOk n d = true) → celsOk n ds = true
  | [], _ => rfl
  | d :: ds, h => by
    simp only [celsOk, Bool.and_eq_true]
    exact ⟨h d (by simp), celsOk_of fun x hx => h x (List.mem_cons_of_mem _ hx)⟩
theorem rowD_ok (m : Nat) (c : Int) (n : Nat) : celsOk n (rowD m c) = true := celsOk_of fun d hd => by
  simp only [rowD, List.mem_map] at hd
  obtain ⟨s, _, rfl⟩ := hd
  exact lastD_ok _ _ _ _
theorem rg_map (m : Nat) (g : D → D) : (rg 0 m).map g = (List.range m).map fun (s : Nat) => g (.int (s : Nat)) := by
  simp [rg, List.map_map, Function.comp_def]
theorem rg_mem {m : Nat} {d : D} (h : d ∈ rg 0 m) : ∃ s : Nat, d = .int s ∧ s < m := by
  simp only [rg, List.mem_map, List.mem_range] at h
  obtain ⟨s, h1, h2⟩ := h
  exact ⟨s, by rw [← h2]; simp, by omega⟩
theorem ring_row_spec {m : Nat} {c : Int} {C : Cells} (hC : Flat C) (h0 : 2 ≤ m) (h1 : m ≤ 64) (h2 : 0 ≤ c) : d_ring_row [.int m, .int c] C = .ok (.tup (rowD m c)) C := by
  refine den_val0 hC rfl ?_ (by simp only [celOk]; exact rowD_ok _ _ _)
  have hl := fLc_of (m := false) (vs := [2]) (fi := iRg (rg1 (fVar 0))) (t := tgN 2) (ft := fYes) (fe := fA (oCall 3 d_last_in) (aCons (fVar 0) (aCons (fVar 1) (aCons (fVar 2) aNil)))) (ρ := [some (.int m), some (.int c), none]) (C := C) (ys := rowD m c)
    (iRg1_of (j := m) rfl (by omega) (by omega)) (by
      refine (lc_mapY (i := 2) (fun d => match d with | .int s => lastD m c s | _ => .non) (rg 0 m) fun d hd => ?_).trans (by rw [rg_map]; rfl)
      obtain ⟨s, rfl, _⟩ := rg_mem hd
      simp [last_in_spec hC (show (0 : Int) < m by omega)]) (by rw [rowD_len]; omega)
  have n1 := need_slots_spec (m := m) hC (by omega) (by omega)
  have n2 := need_count_spec hC h2
  exact seq_nx (C1 := C) (expr_nx (d := .int m) (by simp [n1])) (seq_nx (C1 := C) (expr_nx (d := .int c) (by simp [n2])) (ret_rt (by simp [hl])))
end K26
namespace K26
open PySem L2 BV
theorem sequence_spec {x : D} {ds : List D} {C : Cells} (hC : Flat C) (h : SeqOf C x ds) : d_is_sequence [x] C = .ok (.bl true) C := by
  refine den_val0 hC rfl ?_ rfl
  exact ret_rt (by simp [h.isi])
abbrev TT : D := .str "torn"
/-- what lies in a slot of a row -/
def okIt : D → Bool
  | .non => true
  | .int i => decide (0 ≤ i) && decide (i < 1000)
  | .str x => decide (x = ("torn" : Str))
  | _ => false
theorem okIt_cases {d : D} (h : okIt d = true) : d = .non ∨ (∃ i, d = .int i ∧ 0 ≤ i ∧ i < 1000) ∨ d = TT := by
  cases d with
  | non => exact .inl rfl
  | int i =>
    simp only [okIt, Bool.and_eq_true, decide_eq_true_eq] at h
    exact .inr (.inl ⟨i, rfl, h.1, h.2⟩)
  | str x =>
    simp only [okIt, decide_eq_true_eq] at h
    exact .inr (.inr (by rw [h]))
  | _ => simp [okIt] at h
theorem torn_ga : GA 0 41 TT := ⟨_, .str (by decide +kernel) (by decide +kernel) (by decide +kernel)⟩
theorem okIt_ga {d : D} (h : okIt d = true) : GA 0 41 d := by
  rcases okIt_cases h with rfl | ⟨i, rfl, h0, h1⟩ | rfl
  · exact ⟨_, GD.non.mono (Nat.le_refl _) (Nat.zero_le _)⟩
  · exact ⟨_, .int (by omega)⟩
  · exact torn_ga
theorem form_spec {x : D} {ds : List D} {C : Cells} (hC : Flat C) (h : SeqOf C x ds) (h0 : 2 ≤ ds.length) (h1 : ds.length ≤ 64) (ho : ∀ d ∈ ds, okIt d = true) : d_is_row_form [x] C = .ok (.bl true) C := by
  refine den_val0 hC rfl ?_ rfl
  have s1 := sequence_spec hC h
  have hl := lc_seq (m := false) (vs := [1]) (i := 0) (j := 1) (ρ := [some x, none]) (ft := fYes) (fe := (orD (f2 (isD false) (fVar 1) (fC .non)) (orD (fA (oCall 1 d_is_number) (aCons (fVar 1) aNil)) (andD (f1 (isiD ["str"]) (fVar 1)) (f2 (eqD false) (fVar 1) (fC (.str "torn")))))))
    h rfl (fun _ => true) (fun _ => .bl true) (fun _ _ => rfl) (fun d hd _ => by
      have nn : d_is_number [d] C = .ok (.bl (isNum d)) C := number_spec hC (by
        rcases okIt_cases (ho d hd) with rfl | ⟨i, rfl, _, _⟩ | rfl <;> intro k e <;> cases e)
      rcases okIt_cases (ho d hd) with rfl | ⟨i, rfl, h2, h3⟩ | rfl
      · simp [isNon]
      · simp [isNon, nn, isNum, h2]
      · simp [isNon, nn, isNum, isiD, tyD, isTy]) (by omega)
  rw [List.filter_eq_self.mpr fun _ _ => rfl] at hl
  have ha : oAll [.lst (ds.map fun _ => .bl true)] C = .ok (.bl true) C := by
    have e : (ds.map fun _ => D.bl true) = (ds.map fun _ => true).map D.bl := by simp [List.map_map, Function.comp_def]
    have e2 : blsC (.lst (ds.map fun _ => .bl true)) C = some (ds.map fun _ => true) := by
      show bls? _ = _
      rw [e, bls?_map]
    simp [oAll, e2]
  have l1 : (2 : Int) ≤ ds.length := by omega
  have l2 : (ds.length : Int) ≤ 64 := by omega
  exact seq_nx (C1 := C) (if_f (C1 := C) (by simp [s1, h.len, l1, l2]) rfl) (ret_rt (by simp [hl, ha]))
/-- the numbers of a row -/
def nums : List D → List Int
  | [] => []
  | .int i :: r => if 0 ≤ i then i :: nums r else nums r
  | _ :: r => nums r
theorem nums_eq : ∀ ds : List D, (ds.filter isNum).map (fun d => d) = (nums ds).map .int
  | [] => rfl
  | d :: ds => by
    have ih := nums_eq ds
    simp only [List.map_id'] at ih ⊢
    cases d with
    | int i =>
      by_cases h : 0 ≤ i
      · simp [nums, isNum, h, ih]
      · simp [nums, isNum, h, ih]
    | _ => simp [nums, isNum, ih]
def cntOf (ds : List D) : Int := match maxI (nums ds) with
  | some m => m + 1
  | none => 0
theorem count_spec {x : D} {ds : List D} {C : Cells} (hC : Flat C) (h : SeqOf C x ds) (h1 : ds.length ≤ 64) (hd : ∀ d ∈ ds, ∀ k, d ≠ .cel k) : d_count_of [x] C = .ok (.int (cntOf ds)) C := by
  refine den_val0 hC rfl ?_ rfl
  have hl := lc_seq (m := false) (vs := [2]) (i := 0) (j := 2) (ρ := [some x, none, none]) (ft := (fA (oCall 1 d_is_number) (aCons (fVar 2) aNil))) (fe := fVar 2)
    h rfl isNum (fun d => d) (fun d hm => by simp [number_spec hC (hd d hm)]) (fun d hm _ => by simp) (by omega)
  rw [nums_eq] at hl
  refine seq_nx (C1 := C) (ρ1 := [some x, some (.lst ((nums ds).map .int)), none]) (set_nx (C1 := C) (d := .lst ((nums ds).map .int)) (by simp [hl]) rfl) (ret_rt ?_)
  cases e : nums ds with
  | nil => simp [cntOf, e, maxI]
  | cons n r =>
    have hm : oMax [.lst ((n :: r).map .int)] C = .ok (.int ((n :: r).foldl (fun a b => if b > a then b else a) n)) C := by
      have : intsC (.lst ((n :: r).map D.int)) C = some (n :: r) := by
        show ints? ((n :: r).map D.int) = _
        rw [ints?_map]
      simp only [oMax, this, Option.bind_some, maxI]
      simp
    simp only [List.map_cons] at hm
    have hlen : (0 : Int) < ((r.length : Nat) : Int) + 1 := by omega
    simp [cntOf, e, maxI, hm, hlen]
end K26
namespace K26
open PySem L2 BV
/-- a row, torn or not -/
def rowT (m : Nat) (c : Int) (t : Bool) : List D := if t then (rowD m c).set (c % m).toNat TT else rowD m c
theorem rowT_len (m : Nat) (c : Int) (t : Bool) : (rowT m c t).length = m := by
  unfold rowT
  split <;> simp [rowD_len]
theorem lastD_cases (m c s : Int) : lastD m c s = .non ∨ ∃ n, lastD m c s = .int n ∧ 0 ≤ n ∧ n = c - 1 - (c - 1 - s) % m := by
  unfold lastD
  split
  · exact .inr ⟨_, rfl, by omega, rfl⟩
  · exact .inl rfl
theorem rowD_mem {m : Nat} {c : Int} {d : D} (h : d ∈ rowD m c) : ∃ s : Nat, s < m ∧ d = lastD m c s := by
  simp only [rowD, List.mem_map, List.mem_range] at h
  obtain ⟨s, h1, h2⟩ := h
  exact ⟨s, h1, h2.symm⟩
theorem lastD_ok2 {m : Nat} {c : Int} (hm : 0 < m) (hc : c < 1000) (s : Int) : okIt (lastD m c s) = true := by
  rcases lastD_cases m c s with e | ⟨n, e, h0, h1⟩
  · rw [e]; rfl
  · rw [e]
    have := Int.emod_nonneg (c - 1 - s) (show (m : Int) ≠ 0 by omega)
    simp only [okIt, Bool.and_eq_true, decide_eq_true_eq]
    omega
theorem rowT_ok {m : Nat} {c : Int} {t : Bool} (hm : 0 < m) (hc : c < 1000) : ∀ d ∈ rowT m c t, okIt d = true := by
  intro d hd
  unfold rowT at hd
  split at hd
  · rcases List.mem_or_eq_of_mem_set hd with h | h
    · obtain ⟨s, _, rfl⟩ := rowD_mem h
      exact lastD_ok2 hm hc _
    · rw [h]; decide
  · obtain ⟨s, _, rfl⟩ := rowD_mem hd
    exact lastD_ok2 hm hc _
theorem okIt_nocel {d : D} (h : okIt d = true) : ∀ k, d ≠ .cel k := fun k e => by rw [e] at h; simp [okIt] at h
theorem okIt_cel {d : D} (h : okIt d = true) (n : Nat) : celOk n d = true := by
  rcases okIt_cases h with rfl | ⟨i, rfl, _, _⟩ | rfl <;> rfl
theorem torn_row_spec {m : Nat} {c : Int} {C : Cells} (hC : Flat C) (h0 : 2 ≤ m) (h1 : m ≤ 64) (h2 : 0 ≤ c) (h3 : c < 1000) : d_torn_row [.int m, .int c] C = .ok (.tup (rowT m c true)) C := by
  refine den_val0 hC rfl ?_ (by simp only [celOk]; exact celsOk_of fun d hd => okIt_cel (rowT_ok (by omega) h3 d hd) _)
  have hr := ring_row_spec hC h0 h1 h2
  have hp : (0 : Int) < m := by omega
  have k0 := Int.emod_nonneg c (show (m : Int) ≠ 0 by omega)
  have k1 := Int.emod_lt_of_pos c hp
  refine seq_nx (C1 := C) (ρ1 := [some (.int m), some (.int c), some (.tup (rowD m c)), none]) (set_nx (C1 := C) (d := .tup (rowD m c)) (by simp [hr]) rfl)
    (seq_nx (C1 := C) (ρ1 := [some (.int m), some (.int c), some (.tup (rowD m c)), some (.int (c % m))]) (set_nx (C1 := C) (d := .int (c % m)) (by simp [show ¬ m = 0 by omega]) rfl) (ret_rt ?_))
  have e1 : cut (rowD m c) none (some (c % m)) = (rowD m c).take (c % m).toNat := cut_take _ k0
  have e2 : cut (rowD m c) (some (c % m + 1)) none = (rowD m c).drop ((c % m).toNat + 1) := by
    rw [cut_drop _ (by omega)]
    congr 1
    omega
  have e3 : (rowD m c).take (c % m).toNat ++ TT :: (rowD m c).drop ((c % m).toNat + 1) = rowT m c true := by
    unfold rowT
    rw [if_pos rfl, List.set_eq_take_append_cons_drop, if_pos (by rw [rowD_len]; omega)]
  have l1 : ((rowD m c).take (c % m).toNat).length + 1 ≤ 16777216 := by simp [rowD_len]; omega
  have l2 : ((rowD m c).take (c % m).toNat).length + (1 + ((rowD m c).drop ((c % m).toNat + 1)).length) ≤ 16777216 := by simp [rowD_len]; omega
  simp only [e_f2, e_fSl, e_var, List.getElem?_cons_succ, List.getElem?_cons_zero, Res.bind_ok, e_pNo, e_pSo, e_sl_t, e_fA, e_aCons, e_aNil, e_c, e_oTup, List.length_cons, List.length_nil, e_add_ii, e1, e2]
  simp only [Nat.zero_add, show (1 ≤ 16777216) = True by simp, if_true, Res.bind_ok, e_add_tt, List.length_cons, List.length_nil, Nat.zero_add, if_pos l1, List.length_append, List.append_assoc, List.singleton_append, List.cons_append, List.nil_append]
  rw [if_pos (by omega), e3]
/-! ### counts of rows -/
theorem nums_mem {i : Int} : ∀ {ds : List D}, i ∈ nums ds ↔ D.int i ∈ ds ∧ 0 ≤ i
  | [] => by simp [nums]
  | d :: ds => by
    have ih := nums_mem (i := i) (ds := ds)
    cases d with
    | int j =>
      unfold nums
      split
      · simp only [List.mem_cons, ih, D.int.injEq]
        constructor
        · rintro (rfl | ⟨a, b⟩)
          · exact ⟨.inl rfl, by assumption⟩
          · exact ⟨.inr a, b⟩
        · rintro ⟨a | a, b⟩
          · exact .inl a
          · exact .inr ⟨a, b⟩
      · simp only [List.mem_cons, ih, D.int.injEq]
        constructor
        · rintro ⟨a, b⟩
          exact ⟨.inr a, b⟩
        · rintro ⟨a | a, b⟩
          · omega
          · exact ⟨a, b⟩
    | _ => simp [nums, ih]
theorem cnt_of {ds : List D} {c : Int} (h0 : 0 ≤ c) (hin : 0 < c → D.int (c - 1) ∈ ds) (hle : ∀ i, D.int i ∈ ds → i < c) : cntOf ds = c := by
  unfold cntOf
  cases e : maxI (nums ds) with
  | none =>
    have z : nums ds = [] := by
      cases q : nums ds with
      | nil => rfl
      | cons a b => rw [q] at e; simp [maxI] at e
    by_cases hc : 0 < c
    · have := nums_mem.mpr ⟨hin hc, show 0 ≤ c - 1 by omega⟩
      rw [z] at this
      cases this
    · simp only
      omega
  | some m =>
    obtain ⟨h1, h2⟩ := maxI_spec e
    obtain ⟨h3, h4⟩ := nums_mem.mp h1
    have h5 := hle m h3
    have h6 := h2 (c - 1) (nums_mem.mpr ⟨hin (by omega), by omega⟩)
    simp only
    omega
theorem lastD_top {m : Nat} {c : Int} (hm : 0 < m) (hc : 0 < c) : lastD m c ((c - 1) % m) = .int (c - 1) := by
  unfold lastD
  have e : (c - 1 - (c - 1) % m) % m = 0 := by
    rw [Int.sub_emod, Int.emod_emod, Int.sub_self]
    rfl
  rw [e]
  simp [hc]
theorem rowT_get {m : Nat} {c : Int} {t : Bool} {s : Nat} (h : s < m) : (rowT m c t)[s]? = some (if t = true ∧ (s : Int) = c % m then TT else lastD m c s) := by
  have k0 := Int.emod_nonneg c (show (m : Int) ≠ 0 by omega)
  unfold rowT
  cases t with
  | false => simp [rowD_get h]
  | true =>
    simp only [if_true, true_and]
    by_cases e : (s : Int) = c % m
    · rw [if_pos e]
      have : (c % m).toNat = s := by omega
      rw [this, List.getElem?_set_self (by rw [rowD_len]; exact h)]
    · rw [if_neg e, List.getElem?_set_ne (by omega), rowD_get h]
theorem succ_ne {m : Nat} {c : Int} (hm : 2 ≤ m) : (c - 1) % m ≠ c % m := by
  intro e
  have h : (c - (c - 1)) % m = 0 := by
    rw [Int.sub_emod, ← e, Int.sub_self]
    rfl
  rw [show c - (c - 1) = 1 by omega] at h
  rw [Int.emod_eq_of_lt (by omega) (by omega)] at h
  omega
theorem cnt_row {m : Nat} {c : Int} {t : Bool} (hm : 2 ≤ m) (h0 : 0 ≤ c) : cntOf (rowT m c t) = c := by
  refine cnt_of h0 (fun hc => ?_) fun i hi => ?_
  · have k0 := Int.emod_nonneg (c - 1) (show (m : Int) ≠ 0 by omega)
    have k1 := Int.emod_lt_of_pos (c - 1) (show (0 : Int) < m by omega)
    have hs : ((c - 1) % m).toNat < m := by omega
    have hg := rowT_get (c := c) (t := t) hs
    have e : ((((c - 1) % m).toNat : Nat) : Int) = (c - 1) % m := by omega
    rw [e, if_neg (fun z => succ_ne hm z.2), lastD_top (by omega) hc] at hg
    exact List.mem_of_getElem? hg
  · obtain ⟨s, hs⟩ := List.getElem?_of_mem hi
    have hlt : s < m := by
      have := (List.getElem?_eq_some_iff.mp hs).1
      rwa [rowT_len] at this
    rw [rowT_get hlt] at hs
    split at hs
    · cases hs
    · rcases lastD_cases m c s with e | ⟨n, e, a, b⟩
      · rw [e] at hs; cases hs
      · rw [e] at hs
        cases hs
        have := Int.emod_nonneg (c - 1 - s) (show (m : Int) ≠ 0 by omega)
        omega
theorem row_ga {m : Nat} {c : Int} {t : Bool} (hm : 0 < m) (hc : c < 1000) : GA 1 (m * 42) (.tup (rowT m c t)) := by
  have := GA.tup (n := 0) (w := 41) (ds := rowT m c t) fun d hd => okIt_ga (rowT_ok hm hc d hd)
  rwa [rowT_len] at this
theorem is_ring_spec {x : D} {m : Nat} {c : Int} {t : Bool} {C : Cells} (hC : Flat C) (h : SeqOf C x (rowT m c t)) (h0 : 2 ≤ m) (h1 : m ≤ 64) (h2 : 0 ≤ c) (h3 : c < 1000) : d_is_ring_row [x] C = .ok (.bl true) C := by
  refine den_val0 hC rfl ?_ rfl
  have ho := rowT_ok (t := t) (show 0 < m by omega) h3
  have f := form_spec hC h (by rw [rowT_len]; exact h0) (by rw [rowT_len]; exact h1) ho
  have ct := count_spec hC h (by rw [rowT_len]; exact h1) fun d hd => okIt_nocel (ho d hd)
  rw [cnt_row h0 h2] at ct
  have r1 := ring_row_spec hC h0 h1 h2
  have r2 := torn_row_spec hC h0 h1 h2 h3
  have hl := h.len
  rw [rowT_len] at hl
  refine seq_nx (C1 := C) (if_f (C1 := C) (by simp [f]) rfl) (seq_nx (C1 := C) (ρ1 := [some x, some (.int m), some (.int c)]) (by simp [hl, ct]) (ret_rt ?_))
  have e0 : rowD m c = rowT m c false := rfl
  rw [e0] at r1
  obtain ⟨p, g⟩ := row_ga (m := m) (c := c) (t := t) (by omega) h3
  obtain ⟨p1, g1⟩ := row_ga (m := m) (c := c) (t := false) (by omega) h3
  obtain ⟨p2, g2⟩ := row_ga (m := m) (c := c) (t := true) (by omega) h3
  have hin : inD false (.tup (rowT m c t)) (.tup [.tup (rowT m c false), .tup (rowT m c true)]) C = .ok (.bl true) C := by
    have e1 : toPyC (.tup (rowT m c t)) C = some p := g.e
    have e2 : toPyC (.tup [.tup (rowT m c false), .tup (rowT m c true)]) C = some (.tuple [p1, p2]) := by
      have : toPys [.tup (rowT m c false), .tup (rowT m c true)] = some [p1, p2] := by
        simp only [toPys, g1.e, g2.e]
      show toPy _ = _
      simp only [toPy, this, Option.map_some]
    unfold inD
    simp only [e1, e2]
    have hd := g.g.dep
    have hd1 := g1.g.dep
    have hd2 := g2.g.dep
    rw [if_pos ⟨by simp [SeqAt.shaped, g.g.lay]; omega, by simp [SeqAt.shaped, PyData.canLay0, PyData.canLayAll0, g1.g.lay, g2.g.lay, PyData.depth, PyData.depthAll]; omega⟩]
    have : ([p1, p2].any fun z => PyData.eqv z p) = true := by
      cases t with
      | false =>
        have : p = p1 := Option.some.inj (g.e.symm.trans g1.e)
        subst this
        simp [eqv_refl p g.g.lay]
      | true =>
        have : p = p2 := Option.some.inj (g.e.symm.trans g2.e)
        subst this
        simp [eqv_refl p g.g.lay]
    simp [this]
  simp [h.tuple, r1, r2, hin]
end K26
namespace K26
open PySem L2 BV
/-! ### the search by halves -/
def srch (t : Int → Bool) : Nat → Int → Int → List D → Int × List D
  | 0, lo, _, lk => (lo, lk)
  | n + 1, lo, hi, lk => if hi - lo > 1 then (if t ((lo + hi) / 2) then srch t n ((lo + hi) / 2) hi (lk ++ [.int ((lo + hi) / 2)]) else srch t n lo ((lo + hi) / 2) (lk ++ [.int ((lo + hi) / 2)])) else (lo, lk)
theorem srch_mono (t : Int → Bool) : ∀ (n : Nat) (lo hi : Int) (lk : List D) (d : D), d ∈ lk → d ∈ (srch t n lo hi lk).2
  | 0, _, _, _, _, h => h
  | n + 1, lo, hi, lk, d, h => by
    unfold srch
    split
    · split
      · exact srch_mono t n _ _ _ d (List.mem_append_left _ h)
      · exact srch_mono t n _ _ _ d (List.mem_append_left _ h)
    · exact h
/-- the search finds the last place at which the test holds -/
theorem srch_fst {t : Int → Bool} {p : Int} : ∀ (n : Nat) (lo hi : Int) (lk : List D), hi - lo ≤ n + 1 → lo ≤ p → p < hi → (∀ j, lo < j → j < hi → t j = decide (j ≤ p)) → (srch t n lo hi lk).1 = p
  | 0, lo, hi, lk, h, h1, h2, ht => by
    show lo = p
    omega
  | n + 1, lo, hi, lk, h, h1, h2, ht => by
    unfold srch
    split
    · have hm := ht ((lo + hi) / 2) (by omega) (by omega)
      split
      · rename_i e
        rw [e] at hm
        have := of_decide_eq_true hm.symm
        exact srch_fst n _ _ _ (by omega) this h2 fun j a b => ht j (by omega) b
      · rename_i e
        have e' : t ((lo + hi) / 2) = false := by simpa using e
        rw [e'] at hm
        have := of_decide_eq_false hm.symm
        exact srch_fst n _ _ _ (by omega) h1 (by omega) fun j a b => ht j a (by omega)
    · show lo = p
      omega
/-- .. by few looks -/
theorem srch_len (t : Int → Bool) : ∀ (n k : Nat) (lo hi : Int) (lk : List D), hi - lo ≤ 2 ^ k → (srch t n lo hi lk).2.length ≤ lk.length + k
  | 0, k, lo, hi, lk, h => Nat.le_add_right _ _
  | n + 1, k, lo, hi, lk, h => by
    unfold srch
    split
    · rename_i g
      cases k with
      | zero => simp at h; omega
      | succ k =>
        have hp : (2 : Int) ^ (k + 1) = 2 * 2 ^ k := by rw [Int.pow_succ]; omega
        rw [hp] at h
        split
        · have := srch_len t n k ((lo + hi) / 2) hi (lk ++ [.int ((lo + hi) / 2)]) (by omega)
          simp only [List.length_append, List.length_cons, List.length_nil] at this
          omega
        · have := srch_len t n k lo ((lo + hi) / 2) (lk ++ [.int ((lo + hi) / 2)]) (by omega)
          simp only [List.length_append, List.length_cons, List.length_nil] at this
          omega
    · exact Nat.le_add_right _ _
theorem srch_ints (t : Int → Bool) (m : Int) : ∀ (n : Nat) (lo hi : Int) (lk : List D), 0 ≤ lo → hi ≤ m → (∀ d ∈ lk, ∃ j, d = .int j ∧ 0 ≤ j ∧ j < m) → ∀ d ∈ (srch t n lo hi lk).2, ∃ j, d = .int j ∧ 0 ≤ j ∧ j < m
  | 0, _, _, _, _, _, h => h
  | n + 1, lo, hi, lk, h0, h1, h => by
    unfold srch
    split
    · rename_i g
      have h' : ∀ d ∈ lk ++ [.int ((lo + hi) / 2)], ∃ j, d = .int j ∧ 0 ≤ j ∧ j < m := fun d hd => by
        rcases List.mem_append.mp hd with hd | hd
        · exact h d hd
        · simp only [List.mem_singleton] at hd
          exact ⟨_, hd, by omega, by omega⟩
      split
      · exact srch_ints t m n _ _ _ (by omega) h1 h'
      · exact srch_ints t m n _ _ _ h0 (by omega) h'
    · exact h
/-- the test of a look -/
def intEq (d : D) (z : Int) : Bool := match d with
  | .int i => i == z
  | _ => false
def tst (R : List D) (base j : Int) : Bool := match R[j.toNat]? with
  | some d => intEq d (base + j)
  | none => false
theorem eq_okIt {d : D} {z : Int} {C : Cells} (h : okIt d = true) : eqD false d (.int z) C = .ok (.bl (intEq d z)) C := by
  rcases okIt_cases h with rfl | ⟨i, rfl, _, _⟩ | rfl
  · rfl
  · rfl
  · have e : SeqAt.shaped (.str ("torn" : Str)) = true := by decide +kernel
    unfold eqD
    simp only [toPyC, toPy]
    rw [if_pos ⟨e, rfl⟩]
    simp [PyData.eqv, intEq]
/-- what newest and the law's own looks have in common: the row at slot 0 is a number -/
structure Looks (C : Cells) (x : D) (ds R : List D) (base : Int) : Prop where
  sq : SeqOf C x ds
  len : ds.length = R.length
  ok : ∀ d ∈ R, okIt d = true
theorem loopN (R : List D) (base : Int) (x : D) (ds : List D) (kk : Nat) (lst : Option D) :
    ∀ (n : Nat) (F : Nat) (lo hi : Int) (lk : List D) (C : Cells) (md : Option D), n < F → hi - lo ≤ n + 1 → 0 ≤ lo → hi ≤ R.length → C[kk]? = some (.lst lk) → lk.length + n < 100000 → (∀ lk', SeqOf (C.set kk (.lst lk')) x ds) → SeqOf C x ds → ds.length = R.length → (∀ d ∈ R, okIt d = true) →
      (∀ j : Nat, D.int j ∈ (srch (tst R base) n lo hi lk).2 → j < R.length → ds[j]? = R[j]?) →
      ∃ hi' md', whileL (f2 gtD (f2 subD (fVar 5) (fVar 4)) (fC (.int 1)))
        (sSeq (sSet 7 (f2 fdivD (f2 (addD false) (fVar 4) (fVar 5)) (fC (.int 2)))) (sSeq (sExpr (fMt1 appD (fVar 6) (fVar 7))) (sIf (f2 (eqD false) (f2 ixD (fVar 0) (fVar 7)) (f2 (addD false) (fVar 2) (fVar 7))) (sSet 4 (fVar 7)) (sSet 5 (fVar 7))))) F
        [some x, some (.int R.length), some (.int base), lst, some (.int lo), some (.int hi), some (.cel kk), md] C =
        .nx [some x, some (.int R.length), some (.int base), lst, some (.int (srch (tst R base) n lo hi lk).1), hi', some (.cel kk), md'] (C.set kk (.lst (srch (tst R base) n lo hi lk).2)) := by
  intro n
  induction n with
  | zero =>
    intro F lo hi lk C md hF h1 h0 hh hk hl hx hx0 hlen hok hag
    obtain ⟨F, rfl⟩ : ∃ f, F = f + 1 := ⟨F - 1, by omega⟩
    refine ⟨some (.int hi), md, ?_⟩
    have e : C.set kk (.lst lk) = C := by
      apply List.ext_getElem?
      intro i
      by_cases hi : i = kk
      · subst hi
        rw [hk]
        have := (List.getElem?_eq_some_iff.mp hk).1
        simp [this]
      · rw [List.getElem?_set_ne (Ne.symm hi)]
    have g : ¬ (1 < hi - lo) := by omega
    simp [whileL, srch, g, e]
  | succ n ih =>
    intro F lo hi lk C md hF h1 h0 hh hk hl hx hx0 hlen hok hag
    obtain ⟨F, rfl⟩ : ∃ f, F = f + 1 := ⟨F - 1, by omega⟩
    by_cases g : 1 < hi - lo
    · have gs : hi - lo > 1 := g
      have hap := app_of (v := .int ((lo + hi) / 2)) hk (by omega)
      have hm0 : 0 ≤ (lo + hi) / 2 := by omega
      have hm1 : ((lo + hi) / 2).toNat < R.length := by omega
      have hmem : D.int ((((lo + hi) / 2).toNat : Nat) : Int) ∈ (srch (tst R base) (n + 1) lo hi lk).2 := by
        unfold srch
        rw [if_pos gs, show ((((lo + hi) / 2).toNat : Nat) : Int) = (lo + hi) / 2 by omega]
        split
        · exact srch_mono _ _ _ _ _ _ (by simp)
        · exact srch_mono _ _ _ _ _ _ (by simp)
      have hds := hag _ hmem hm1
      have hR : R[((lo + hi) / 2).toNat]? = some R[((lo + hi) / 2).toNat] := by simp [hm1]
      have hokm := hok _ (List.getElem_mem hm1)
      have hix := (hx (lk ++ [.int ((lo + hi) / 2)])).ix hm0 (hds.trans hR)
      have heq : eqD false R[((lo + hi) / 2).toNat] (.int (base + (lo + hi) / 2)) (C.set kk (.lst (lk ++ [.int ((lo + hi) / 2)]))) = .ok (.bl (tst R base ((lo + hi) / 2))) (C.set kk (.lst (lk ++ [.int ((lo + hi) / 2)]))) := by
        rw [eq_okIt hokm]
        unfold tst
        rw [hR]
      have hasl := asL_celE hk
      have hd2 : CDiv (lo + hi) 2 := ⟨by decide, by decide⟩
      have hset : ∀ z : List D, (C.set kk (.lst (lk ++ [.int ((lo + hi) / 2)]))).set kk (.lst z) = C.set kk (.lst z) := fun z => by simp
      have nxt : ∀ lo2 hi2 : Int, hi2 - lo2 ≤ (n : Int) + 1 → 0 ≤ lo2 → hi2 ≤ R.length → srch (tst R base) (n + 1) lo hi lk = srch (tst R base) n lo2 hi2 (lk ++ [.int ((lo + hi) / 2)]) → _ := fun lo2 hi2 a1 a2 a3 a4 =>
        ih F lo2 hi2 (lk ++ [.int ((lo + hi) / 2)]) (C.set kk (.lst (lk ++ [.int ((lo + hi) / 2)]))) (some (.int ((lo + hi) / 2))) (by omega) a1 a2 a3 (set_get hk) (by simp; omega) (fun z => by rw [hset]; exact hx z) (hx _) hlen hok (fun j hj => hag j (by rw [a4]; exact hj))
      cases ht : tst R base ((lo + hi) / 2) with
      | true =>
        have es : srch (tst R base) (n + 1) lo hi lk = srch (tst R base) n ((lo + hi) / 2) hi (lk ++ [.int ((lo + hi) / 2)]) := by
          conv => lhs; unfold srch
          rw [if_pos gs, if_pos ht]
        obtain ⟨hi', md', q⟩ := nxt ((lo + hi) / 2) hi (by omega) hm0 hh es
        refine ⟨hi', md', ?_⟩
        rw [es]
        rw [hset] at q
        rw [ht] at heq
        unfold whileL
        simp only [e_f2, e_var, e_c, List.getElem?_cons_zero, List.getElem?_cons_succ, Res.bind_ok, e_sub_ii, e_cmp_ii, e_toB_t, Res.out_ok, decide_eq_true g, if_true]
        rw [← q]
        simp [hd2, hap, hasl, hix, heq]
      | false =>
        have es : srch (tst R base) (n + 1) lo hi lk = srch (tst R base) n lo ((lo + hi) / 2) (lk ++ [.int ((lo + hi) / 2)]) := by
          conv => lhs; unfold srch
          rw [if_pos gs, if_neg (by rw [ht]; exact Bool.false_ne_true)]
        obtain ⟨hi', md', q⟩ := nxt lo ((lo + hi) / 2) (by omega) h0 (by omega) es
        refine ⟨hi', md', ?_⟩
        rw [es]
        rw [hset] at q
        rw [ht] at heq
        unfold whileL
        simp only [e_f2, e_var, e_c, List.getElem?_cons_zero, List.getElem?_cons_succ, Res.bind_ok, e_sub_ii, e_cmp_ii, e_toB_t, Res.out_ok, decide_eq_true g, if_true]
        rw [← q]
        simp [hd2, hap, hasl, hix, heq]
    · have gs : ¬ hi - lo > 1 := g
      have es : srch (tst R base) (n + 1) lo hi lk = (lo, lk) := by
        unfold srch
        rw [if_neg gs]
      rw [es]
      refine ⟨some (.int hi), md, ?_⟩
      have e : C.set kk (.lst lk) = C := by
        apply List.ext_getElem?
        intro i
        by_cases hi : i = kk
        · subst hi
          rw [hk]
          have := (List.getElem?_eq_some_iff.mp hk).1
          simp [this]
        · rw [List.getElem?_set_ne (Ne.symm hi)]
      simp [whileL, g, e]
end K26
namespace K26
open PySem L2 BV
def looksOf (R : List D) : List D := match R[0]? with
  | some D.non => [.int 0]
  | some (D.int base) => (srch (tst R base) 100 0 R.length [.int 0]).2
  | _ => [.int 0, .int (R.length - 1)]
def lastOf (c : Int) : D := if 0 < c then .int (c - 1) else .non
theorem looks_ints {R : List D} (h : 2 ≤ R.length) : ∀ d ∈ looksOf R, ∃ j, d = .int j ∧ 0 ≤ j ∧ j < R.length := by
  unfold looksOf
  split
  · intro d hd
    simp only [List.mem_singleton] at hd
    exact ⟨0, hd, by omega, by omega⟩
  · exact srch_ints _ _ _ _ _ _ (by omega) (by omega) fun d hd => by
      simp only [List.mem_singleton] at hd
      exact ⟨0, hd, by omega, by omega⟩
  · intro d hd
    simp only [List.mem_cons, List.not_mem_nil, or_false] at hd
    rcases hd with rfl | rfl
    · exact ⟨0, rfl, by omega, by omega⟩
    · exact ⟨_, rfl, by omega, by omega⟩
theorem looks_zero {R : List D} : D.int 0 ∈ looksOf R := by
  unfold looksOf
  split
  · simp
  · exact srch_mono _ _ _ _ _ _ (by simp)
  · simp
/-- slot 0 of a row -/
theorem row0 {m : Nat} {c : Int} {t : Bool} (hm : 2 ≤ m) (h0 : 0 ≤ c) :
    ((rowT m c t)[0]? = some .non ∧ c = 0) ∨ ((rowT m c t)[0]? = some TT ∧ c % m = 0) ∨
      (∃ base, (rowT m c t)[0]? = some (.int base) ∧ 0 ≤ base ∧ base ≤ c - 1 ∧ c - 1 < base + m ∧ base = c - 1 - (c - 1) % m ∧ (t = true → c % m ≠ 0)) := by
  have hg := rowT_get (c := c) (t := t) (show 0 < m by omega)
  by_cases e : t = true ∧ ((0 : Nat) : Int) = c % m
  · rw [if_pos e] at hg
    exact .inr (.inl ⟨hg, by have := e.2; omega⟩)
  · rw [if_neg e] at hg
    unfold lastD at hg
    simp only [Int.natCast_zero, Int.sub_zero] at hg
    have k0 := Int.emod_nonneg (c - 1) (show (m : Int) ≠ 0 by omega)
    have k1 := Int.emod_lt_of_pos (c - 1) (show (0 : Int) < m by omega)
    split at hg
    · rename_i z
      refine .inr (.inr ⟨_, hg, by omega, by omega, by omega, rfl, fun ht q => e ⟨ht, by omega⟩⟩)
    · rename_i z
      refine .inl ⟨hg, ?_⟩
      by_cases hc : 0 < c
      · exfalso
        have a1 := Int.emod_add_mul_ediv (c - 1) m
        have a2 := Int.ediv_nonneg (show 0 ≤ c - 1 by omega) (show (0 : Int) ≤ m by omega)
        have a3 := Int.mul_nonneg (show (0 : Int) ≤ m by omega) a2
        omega
      · omega
/-- the test of a look is: at most so far -/
theorem tst_row {m : Nat} {c base : Int} {t : Bool} (hm : 2 ≤ m) (hb : 0 ≤ base) (h1 : base ≤ c - 1) (h2 : c - 1 < base + m) (h3 : base = c - 1 - (c - 1) % m) (h4 : t = true → c % m ≠ 0) (j : Int) (j0 : 0 < j) (j1 : j < m) :
    tst (rowT m c t) base j = decide (j ≤ c - 1 - base) := by
  have hj : j.toNat < m := by omega
  have ej : ((j.toNat : Nat) : Int) = j := by omega
  have hp : (0 : Int) < m := by omega
  unfold tst
  rw [rowT_get hj, ej]
  -- base is a multiple of m
  have bm : base % m = 0 := by
    rw [h3, Int.sub_emod, Int.emod_emod, Int.sub_self]
    rfl
  have key : (c - 1 - j) % m = if j ≤ c - 1 - base then c - 1 - base - j else c - 1 - base - j + m := by
    have e : c - 1 - j = (c - 1 - base - j) + base := by omega
    rw [e, Int.add_emod, bm, Int.add_zero, Int.emod_emod]
    split
    · exact Int.emod_eq_of_lt (by omega) (by omega)
    · rw [← Int.add_emod_right]
      exact Int.emod_eq_of_lt (by omega) (by omega)
  by_cases q : t = true ∧ j = c % m
  · simp only [if_pos q]
    have hcm : c % m = c - base := by
      have e : c = (c - base) + base := by omega
      conv => lhs; rw [e, Int.add_emod, bm, Int.add_zero, Int.emod_emod]
      by_cases z : c - base < m
      · exact Int.emod_eq_of_lt (by omega) z
      · exfalso
        have : c - base = m := by omega
        apply h4 q.1
        rw [e, Int.add_emod, bm, Int.add_zero, Int.emod_emod, this, Int.emod_self]
    have : ¬ j ≤ c - 1 - base := by omega
    simp [intEq, this]
  · simp only [if_neg q]
    unfold lastD
    rw [key]
    by_cases z : j ≤ c - 1 - base
    · rw [if_pos z, if_pos (by omega)]
      simp only [intEq, beq_iff_eq, Bool.decide_eq_true, z, decide_true]
      omega
    · rw [if_neg z]
      split
      · have : ¬ (c - 1 - (c - 1 - base - j + m) = base + j) := by omega
        simp [intEq, z, this]
      · simp [intEq, z]
end K26
namespace K26
open PySem L2 BV
@[simp] theorem isNon_n : isNon D.non = true := rfl
@[simp] theorem isNon_i (i : Int) : isNon (D.int i) = false := rfl
@[simp] theorem isNon_s (i : Str) : isNon (D.str i) = false := rfl
theorem rowT_in {m : Nat} {c : Int} {t : Bool} {j : Nat} (h : j < m) : ∃ d, (rowT m c t)[j]? = some d ∧ d ∈ rowT m c t := by
  have hl : j < (rowT m c t).length := by rw [rowT_len]; exact h
  exact ⟨(rowT m c t)[j], by simp [hl], List.getElem_mem hl⟩
theorem looks_ok {R : List D} (h : 2 ≤ R.length) (n : Nat) : celsOk n (looksOf R) = true := celsOk_of fun d hd => by
  obtain ⟨j, rfl, _, _⟩ := looks_ints h d hd
  rfl
theorem lastOf_ok (c : Int) (n : Nat) : celOk n (lastOf c) = true := by unfold lastOf; split <;> rfl
theorem eq_torn (b : Int) (C : Cells) : eqD false (.int b) (.str ("torn" : Str)) C = .ok (.bl false) C := by
  have e : SeqAt.shaped (.str ("torn" : Str)) = true := by decide +kernel
  unfold eqD
  simp only [toPyC, toPy]
  rw [if_pos ⟨rfl, e⟩]
  simp [PyData.eqv]
theorem newest_ok {R : List D} {c : Int} (h : 2 ≤ R.length) (n : Nat) : celOk n (.tup [lastOf c, .int c, .tup (looksOf R)]) = true := by
  simp [celOk, celsOk, lastOf_ok, looks_ok h]
theorem seq_lt {C : Cells} {x : D} {ds : List D} (h : SeqOf C x ds) : x ≠ .cel C.length := by
  intro e
  subst e
  cases h with
  | cel h =>
    have := (List.getElem?_eq_some_iff.mp h).1
    omega
theorem newest_spec {x : D} {ds : List D} {m : Nat} {c : Int} {t : Bool} {C : Cells} (hC : Flat C) (hx : SeqOf C x ds) (hl : ds.length = m) (h0 : 2 ≤ m) (h1 : m ≤ 64) (h2 : 0 ≤ c) (h3 : c < 1000)
    (hag : ∀ j : Nat, D.int j ∈ looksOf (rowT m c t) → j < m → ds[j]? = (rowT m c t)[j]?) : d_newest [x] C = .ok (.tup [lastOf c, .int c, .tup (looksOf (rowT m c t))]) C := by
  have hlen := hx.len
  rw [hl] at hlen
  have hR : (rowT m c t).length = m := rowT_len _ _ _
  have hok := newest_ok (R := rowT m c t) (c := c) (by omega) C.length
  have a0 := hag 0 looks_zero (by omega)
  have hp : ∀ d0, (rowT m c t)[0]? = some d0 → sPar 1 2 (aCons (fA oLen (aCons (fVar 0) aNil)) (aCons (f2 ixD (fVar 0) (fC (.int 0))) aNil)) ([x].map some ++ List.replicate (8 - 1) none) C = .nx [some x, some (.int m), some d0, none, none, none, none, none] C := fun d0 hd =>
    par_nx (x := .int m) (y := d0) (by
      have := hx.ix (i := 0) (by decide) (show ds[(0 : Int).toNat]? = some d0 from a0.trans hd)
      simp [hlen, this]) rfl
  rcases row0 (t := t) h0 h2 with ⟨hr, hc⟩ | ⟨hr, hc⟩ | ⟨base, hr, hb0, hb1, hb2, hb3, hb4⟩
  · refine den_val0 hC rfl ?_ hok
    have hlk : looksOf (rowT m c t) = [.int 0] := by unfold looksOf; rw [hr]
    have hlo : lastOf c = .non := by rw [hc]; rfl
    rw [hlk, hlo, hc]
    exact seq_nx (C1 := C) (hp _ hr) (seq_rt (if_t (C1 := C) (by simp) (ret_rt (by simp))))
  · refine den_val0 hC rfl ?_ hok
    have hlk : looksOf (rowT m c t) = [.int 0, .int (m - 1)] := by unfold looksOf; rw [hr, hR]
    have hmm : ((((m - 1 : Nat)) : Nat) : Int) = (m : Int) - 1 := by omega
    have al := hag (m - 1) (by rw [hlk, hmm]; simp) (by omega)
    have hk : (rowT m c t)[m - 1]? = some (lastOf c) := by
      rw [rowT_get (by omega), hmm]
      have e1 : (c - 1 - ((m : Int) - 1)) % m = 0 := by
        rw [show c - 1 - ((m : Int) - 1) = c - m by omega, Int.sub_emod, hc, Int.emod_self]
        rfl
      rw [if_neg (fun z => by have := z.2; omega)]
      unfold lastD lastOf
      rw [e1]
      simp
    have hix := hx.ix (i := (m : Int) - 1) (by omega) (d := lastOf c) (by rw [show ((m : Int) - 1).toNat = m - 1 by omega]; exact al.trans hk)
    refine seq_nx (C1 := C) (hp _ hr) (seq_nx (C1 := C) (if_f (C1 := C) (by simp) rfl) (seq_rt (if_t (C1 := C) (by simp) ?_)))
    refine seq_nx (C1 := C) (ρ1 := [some x, some (.int m), some TT, some (lastOf c), none, none, none, none]) (set_nx (C1 := C) (d := lastOf c) (by simp [hix]) rfl) (ret_rt ?_)
    rw [hlk]
    unfold lastOf
    by_cases z : 0 < c
    · simp [z]
    · have : c = 0 := by omega
      subst this
      simp
  · have hlk : looksOf (rowT m c t) = (srch (tst (rowT m c t) base) 100 0 m [.int 0]).2 := by unfold looksOf; rw [hr, hR]
    have hfst : (srch (tst (rowT m c t) base) 100 0 m [.int 0]).1 = c - 1 - base :=
      srch_fst 100 0 m _ (by omega) (by omega) (by omega) fun j j0 j1 => tst_row h0 hb0 hb1 hb2 hb3 hb4 j j0 j1
    refine den_val [.lst (looksOf (rowT m c t))] hC rfl ?_ hok
    have hlo : lastOf c = .int (c - 1) := by unfold lastOf; rw [if_pos (by omega)]
    have hset : ∀ z, (C ++ [Cell.lst [D.int 0]]).set C.length (Cell.lst z) = C ++ [Cell.lst z] := fun z => set_last _ _ _
    obtain ⟨hi', md', q⟩ := loopN (rowT m c t) base x ds C.length none 100 100000 0 m [.int 0] (C ++ [.lst [.int 0]]) none (by decide) (by omega) (by decide) (by omega) (by simp) (by simp)
      (fun z => by rw [hset]; exact hx.app) hx.app (by omega) (rowT_ok (by omega) h3) (fun j hj hjm => hag j (by rw [hlk]; exact hj) (by omega))
    rw [hset, hR, hfst, ← hlk] at q
    refine seq_nx (C1 := C) (hp _ hr) (seq_nx (C1 := C) (if_f (C1 := C) (by simp) rfl) (seq_nx (C1 := C) (if_f (C1 := C) (by simp only [e_f2, e_var, e_c, List.getElem?_cons_zero, List.getElem?_cons_succ, Res.bind_ok]; exact eq_torn _ _) rfl) ?_))
    refine seq_nx (C1 := C ++ [.lst [.int 0]]) (ρ1 := [some x, some (.int m), some (.int base), none, some (.int 0), some (.int m), some (.cel C.length), none]) (par3_nx (x := .int 0) (y := .int m) (z := .cel C.length) (by simp) rfl) ?_
    refine seq_nx q (ret_rt ?_)
    have htl : (C ++ [.lst (looksOf (rowT m c t))])[C.length]? = some (.lst (looksOf (rowT m c t))) := by simp
    rw [hlo]
    have ht := e_tuple_c htl
    simp only [e_fA, e_f2, e_aCons, e_aNil, e_var, e_c, List.getElem?_cons_zero, List.getElem?_cons_succ, Res.bind_ok, e_add_ii, e_oTup, ht]
    simp [show base + (c - 1 - base) = c - 1 by omega]
end K26
namespace K26
open PySem L2 BV
theorem loopL (R : List D) (base : Int) (x : D) (kk : Nat) (hb : R[0]? = some (.int base)) :
    ∀ (n : Nat) (F : Nat) (lo hi : Int) (lk : List D) (C : Cells), n < F → hi - lo ≤ n + 1 → 0 ≤ lo → hi ≤ R.length → C[kk]? = some (.lst lk) → lk.length + n < 100000 → (∀ lk', SeqOf (C.set kk (.lst lk')) x R) → SeqOf C x R → (∀ d ∈ R, okIt d = true) →
      ∃ hi', whileL (f2 gtD (f2 subD (fVar 3) (fVar 2)) (fC (.int 1)))
        (sSeq (sExpr (fMt1 appD (fVar 1) (f2 fdivD (f2 (addD false) (fVar 2) (fVar 3)) (fC (.int 2)))))
    (sIf (f2 (eqD false) (f2 ixD (fVar 0) (f2 ixD (fVar 1) (f2 subD (fA oLen (aCons (fVar 1) aNil)) (fC (.int 1))))) (f2 (addD false) (f2 ixD (fVar 0) (fC (.int 0))) (f2 ixD (fVar 1) (f2 subD (fA oLen (aCons (fVar 1) aNil)) (fC (.int 1)))))) (sSet 2 (f2 ixD (fVar 1) (f2 subD (fA oLen (aCons (fVar 1) aNil)) (fC (.int 1))))) (sSet 3 (f2 ixD (fVar 1) (f2 subD (fA oLen (aCons (fVar 1) aNil)) (fC (.int 1)))))))
        F [some x, some (.cel kk), some (.int lo), some (.int hi)] C =
        .nx [some x, some (.cel kk), some (.int (srch (tst R base) n lo hi lk).1), hi'] (C.set kk (.lst (srch (tst R base) n lo hi lk).2)) := by
  intro n
  induction n with
  | zero =>
    intro F lo hi lk C hF h1 h0 hh hk hl hx hx0 hok
    obtain ⟨F, rfl⟩ : ∃ f, F = f + 1 := ⟨F - 1, by omega⟩
    refine ⟨some (.int hi), ?_⟩
    have e : C.set kk (.lst lk) = C := by
      apply List.ext_getElem?
      intro i
      by_cases hi : i = kk
      · subst hi
        rw [hk]
        have := (List.getElem?_eq_some_iff.mp hk).1
        simp [this]
      · rw [List.getElem?_set_ne (Ne.symm hi)]
    have g : ¬ (1 < hi - lo) := by omega
    simp [whileL, srch, g, e]
  | succ n ih =>
    intro F lo hi lk C hF h1 h0 hh hk hl hx hx0 hok
    obtain ⟨F, rfl⟩ : ∃ f, F = f + 1 := ⟨F - 1, by omega⟩
    by_cases g : 1 < hi - lo
    · have gs : hi - lo > 1 := g
      have hap := app_of (v := .int ((lo + hi) / 2)) hk (by omega)
      have hm0 : 0 ≤ (lo + hi) / 2 := by omega
      have hm1 : ((lo + hi) / 2).toNat < R.length := by omega
      have hR : R[((lo + hi) / 2).toNat]? = some R[((lo + hi) / 2).toNat] := by simp [hm1]
      have hokm := hok _ (List.getElem_mem hm1)
      have hix := (hx (lk ++ [.int ((lo + hi) / 2)])).ix hm0 hR
      have hix0 := (hx (lk ++ [.int ((lo + hi) / 2)])).ix (i := 0) (by decide) hb
      have hlast : ixD (.cel kk) (.int lk.length) (C.set kk (.lst (lk ++ [.int ((lo + hi) / 2)]))) = .ok (.int ((lo + hi) / 2)) (C.set kk (.lst (lk ++ [.int ((lo + hi) / 2)]))) := ix_cel (set_get hk) (by omega) (by simp)
      have hlk := oLen_cel (set_get (c := .lst (lk ++ [.int ((lo + hi) / 2)])) hk)
      simp only [List.length_append, List.length_cons, List.length_nil, Nat.zero_add] at hlk
      have hl1 : (((lk.length + 1 : Nat)) : Int) - 1 = lk.length := by omega
      rw [← hl1] at hlast
      have heq : eqD false R[((lo + hi) / 2).toNat] (.int (base + (lo + hi) / 2)) (C.set kk (.lst (lk ++ [.int ((lo + hi) / 2)]))) = .ok (.bl (tst R base ((lo + hi) / 2))) (C.set kk (.lst (lk ++ [.int ((lo + hi) / 2)]))) := by
        rw [eq_okIt hokm]
        unfold tst
        rw [hR]
      have hasl := asL_celE hk
      have hd2 : CDiv (lo + hi) 2 := ⟨by decide, by decide⟩
      have hset : ∀ z : List D, (C.set kk (.lst (lk ++ [.int ((lo + hi) / 2)]))).set kk (.lst z) = C.set kk (.lst z) := fun z => by simp
      have nxt : ∀ lo2 hi2 : Int, hi2 - lo2 ≤ (n : Int) + 1 → 0 ≤ lo2 → hi2 ≤ R.length → srch (tst R base) (n + 1) lo hi lk = srch (tst R base) n lo2 hi2 (lk ++ [.int ((lo + hi) / 2)]) → _ := fun lo2 hi2 a1 a2 a3 a4 =>
        ih F lo2 hi2 (lk ++ [.int ((lo + hi) / 2)]) (C.set kk (.lst (lk ++ [.int ((lo + hi) / 2)]))) (by omega) a1 a2 a3 (set_get hk) (by simp; omega) (fun z => by rw [hset]; exact hx z) (hx _) hok
      cases ht : tst R base ((lo + hi) / 2) with
      | true =>
        have es : srch (tst R base) (n + 1) lo hi lk = srch (tst R base) n ((lo + hi) / 2) hi (lk ++ [.int ((lo + hi) / 2)]) := by
          conv => lhs; unfold srch
          rw [if_pos gs, if_pos ht]
        obtain ⟨hi', q⟩ := nxt ((lo + hi) / 2) hi (by omega) hm0 hh es
        refine ⟨hi', ?_⟩
        rw [es]
        rw [hset] at q
        rw [ht] at heq
        unfold whileL
        simp only [e_f2, e_var, e_c, List.getElem?_cons_zero, List.getElem?_cons_succ, Res.bind_ok, e_sub_ii, e_cmp_ii, e_toB_t, Res.out_ok, decide_eq_true g, if_true]
        rw [← q]
        simp only [e_sSeq, e_sExpr, e_fMt1, e_f2, e_var, e_c, List.getElem?_cons_zero, List.getElem?_cons_succ, Res.bind_ok, e_add_ii, hasl, e_fdiv_ii, if_pos hd2, hap, Res.out_ok, Out.then_nx, e_sIf, e_fA, e_aCons, e_aNil, hlk, e_sub_ii, hlast, hix, hix0, heq, e_toB_t]
        simp only [e_sSet, e_f2, e_var, e_c, e_fA, e_aCons, e_aNil, List.getElem?_cons_zero, List.getElem?_cons_succ, Res.bind_ok, hlk, e_sub_ii, hlast, if_true, Bool.false_eq_true, if_false, Res.out_ok, Out.then_nx]
        simp
      | false =>
        have es : srch (tst R base) (n + 1) lo hi lk = srch (tst R base) n lo ((lo + hi) / 2) (lk ++ [.int ((lo + hi) / 2)]) := by
          conv => lhs; unfold srch
          rw [if_pos gs, if_neg (by rw [ht]; exact Bool.false_ne_true)]
        obtain ⟨hi', q⟩ := nxt lo ((lo + hi) / 2) (by omega) h0 (by omega) es
        refine ⟨hi', ?_⟩
        rw [es]
        rw [hset] at q
        rw [ht] at heq
        unfold whileL
        simp only [e_f2, e_var, e_c, List.getElem?_cons_zero, List.getElem?_cons_succ, Res.bind_ok, e_sub_ii, e_cmp_ii, e_toB_t, Res.out_ok, decide_eq_true g, if_true]
        rw [← q]
        simp only [e_sSeq, e_sExpr, e_fMt1, e_f2, e_var, e_c, List.getElem?_cons_zero, List.getElem?_cons_succ, Res.bind_ok, e_add_ii, hasl, e_fdiv_ii, if_pos hd2, hap, Res.out_ok, Out.then_nx, e_sIf, e_fA, e_aCons, e_aNil, hlk, e_sub_ii, hlast, hix, hix0, heq, e_toB_t]
        simp only [e_sSet, e_f2, e_var, e_c, e_fA, e_aCons, e_aNil, List.getElem?_cons_zero, List.getElem?_cons_succ, Res.bind_ok, hlk, e_sub_ii, hlast, if_true, Bool.false_eq_true, if_false, Res.out_ok, Out.then_nx]
        simp
    · have gs : ¬ hi - lo > 1 := g
      have es : srch (tst R base) (n + 1) lo hi lk = (lo, lk) := by
        unfold srch
        rw [if_neg gs]
      rw [es]
      refine ⟨some (.int hi), ?_⟩
      have e : C.set kk (.lst lk) = C := by
        apply List.ext_getElem?
        intro i
        by_cases hi : i = kk
        · subst hi
          rw [hk]
          have := (List.getElem?_eq_some_iff.mp hk).1
          simp [this]
        · rw [List.getElem?_set_ne (Ne.symm hi)]
      simp [whileL, g, e]
end K26
namespace K26
open PySem L2 BV
theorem looks_spec {x : D} {m : Nat} {c : Int} {t : Bool} {C : Cells} (hC : Flat C) (hx : SeqOf C x (rowT m c t)) (h0 : 2 ≤ m) (h1 : m ≤ 64) (h2 : 0 ≤ c) (h3 : c < 1000) : d_law_looks [x] C = .ok (.tup (looksOf (rowT m c t))) C := by
  have hlen := hx.len
  rw [rowT_len] at hlen
  have hR : (rowT m c t).length = m := rowT_len _ _ _
  have hok : celOk C.length (.tup (looksOf (rowT m c t))) = true := looks_ok (by omega) _
  have hix : ∀ d0, (rowT m c t)[0]? = some d0 → ixD x (.int 0) C = .ok d0 C := fun d0 h => hx.ix (by decide) h
  rcases row0 (t := t) h0 h2 with ⟨hr, hc⟩ | ⟨hr, hc⟩ | ⟨base, hr, hb0, hb1, hb2, hb3, hb4⟩
  · refine den_val0 hC rfl ?_ hok
    have hlk : looksOf (rowT m c t) = [.int 0] := by unfold looksOf; rw [hr]
    rw [hlk]
    exact seq_rt (if_t (C1 := C) (by simp [hix _ hr]) (ret_rt (by simp)))
  · refine den_val0 hC rfl ?_ hok
    have hlk : looksOf (rowT m c t) = [.int 0, .int (m - 1)] := by unfold looksOf; rw [hr, hR]
    rw [hlk]
    exact seq_nx (C1 := C) (if_f (C1 := C) (by simp [hix _ hr]) rfl) (seq_rt (if_t (C1 := C) (by simp [hix _ hr]) (ret_rt (by simp [hlen]))))
  · have hlk : looksOf (rowT m c t) = (srch (tst (rowT m c t) base) 100 0 m [.int 0]).2 := by unfold looksOf; rw [hr, hR]
    refine den_val [.lst (looksOf (rowT m c t))] hC rfl ?_ hok
    have hset : ∀ z, (C ++ [Cell.lst [D.int 0]]).set C.length (Cell.lst z) = C ++ [Cell.lst z] := fun z => set_last _ _ _
    obtain ⟨hi', q⟩ := loopL (rowT m c t) base x C.length hr 100 100000 0 m [.int 0] (C ++ [.lst [.int 0]]) (by decide) (by omega) (by decide) (by omega) (by simp) (by simp)
      (fun z => by rw [hset]; exact hx.app) hx.app (rowT_ok (by omega) h3)
    rw [hset, ← hlk] at q
    refine seq_nx (C1 := C) (if_f (C1 := C) (by simp [hix _ hr]) rfl) (seq_nx (C1 := C) (if_f (C1 := C) (by simp only [e_f2, e_var, e_c, List.map_cons, List.map_nil, List.cons_append, List.nil_append, List.getElem?_cons_zero, Res.bind_ok, hix _ hr]; exact eq_torn _ _) rfl) ?_)
    refine seq_nx (C1 := C ++ [.lst [.int 0]]) (ρ1 := [some x, some (.cel C.length), some (.int 0), some (.int m)]) (par3_nx (x := .cel C.length) (y := .int 0) (z := .int m) (by
      have hl2 := hx.app (T := [.lst [.int 0]]) |>.len
      rw [rowT_len] at hl2
      simp [hl2]) rfl) ?_
    refine seq_nx q (ret_rt ?_)
    have htl : (C ++ [.lst (looksOf (rowT m c t))])[C.length]? = some (.lst (looksOf (rowT m c t))) := by simp
    have ht := e_tuple_c htl
    simp only [e_fA, e_aCons, e_aNil, e_var, List.getElem?_cons_zero, List.getElem?_cons_succ, Res.bind_ok, ht]
/-! ### doublings -/
def dblN : Nat → Int → Int → Nat
  | 0, _, _ => 0
  | n + 1, m, r => if r < m then 1 + dblN n m (2 * r) else 0
theorem dblN_ge : ∀ (n : Nat) (m r : Int), m ≤ r * 2 ^ n → m ≤ r * 2 ^ (dblN n m r)
  | 0, m, r, h => h
  | n + 1, m, r, h => by
    unfold dblN
    split
    · have := dblN_ge n m (2 * r) (by rw [Int.pow_succ] at h; rw [show 2 * r * 2 ^ n = r * (2 ^ n * 2) by rw [Int.mul_comm 2 r, Int.mul_assoc, Int.mul_comm 2]]; exact h)
      rw [Nat.add_comm, Int.pow_succ, show r * (2 ^ dblN n m (2 * r) * 2) = 2 * r * 2 ^ dblN n m (2 * r) by rw [Int.mul_comm 2 r, Int.mul_assoc, Int.mul_comm 2]]
      exact this
    · simp; omega
theorem loopD {m : Int} {C : Cells} (hm : m ≤ 64) : ∀ (n F : Nat) (f r : Int), n < F → m ≤ r * 2 ^ n → 0 < r → ∃ r', whileL (f2 ltD (fVar 2) (fVar 0)) (sPar 1 2 (aCons (f2 (addD false) (fVar 1) (fC (.int 1))) (aCons (f2 (addD false) (fVar 2) (fVar 2)) aNil))) F [some (.int m), some (.int f), some (.int r)] C =
      .nx [some (.int m), some (.int (f + (dblN n m r : Nat))), some (.int r')] C := by
  intro n
  induction n with
  | zero =>
    intro F f r hF h h0
    obtain ⟨F, rfl⟩ : ∃ f, F = f + 1 := ⟨F - 1, by omega⟩
    have g : ¬ r < m := by simp at h; omega
    exact ⟨r, by simp [whileL, dblN, g]⟩
  | succ n ih =>
    intro F f r hF h h0
    obtain ⟨F, rfl⟩ : ∃ f, F = f + 1 := ⟨F - 1, by omega⟩
    by_cases g : r < m
    · obtain ⟨r', q⟩ := ih F (f + 1) (r + r) (by omega) (by rw [Int.pow_succ] at h; rw [show (r + r) * 2 ^ n = r * (2 ^ n * 2) by rw [show r + r = r * 2 by omega, Int.mul_assoc, Int.mul_comm 2]]; exact h) (by omega)
      refine ⟨r', ?_⟩
      have e : (f + ((dblN (n + 1) m r : Nat) : Int)) = f + 1 + (dblN n m (r + r) : Nat) := by
        conv => lhs; unfold dblN
        rw [if_pos g, show 2 * r = r + r by omega]
        omega
      rw [e, ← q]
      simp [whileL, g]
    · exact ⟨r, by simp [whileL, dblN, g]⟩
theorem loopM {m : Int} {C : Cells} (hm : m ≤ 64) : ∀ (n F : Nat) (f r : Int), n < F → m ≤ r * 2 ^ n → 0 < r → ∃ r', whileL (f2 ltD (fVar 2) (fVar 0)) (sPar 1 2 (aCons (f2 (addD false) (fVar 1) (fC (.int 1))) (aCons (f2 (mulD false) (fC (.int 2)) (fVar 2)) aNil))) F [some (.int m), some (.int f), some (.int r)] C =
      .nx [some (.int m), some (.int (f + (dblN n m r : Nat))), some (.int r')] C := by
  intro n
  induction n with
  | zero =>
    intro F f r hF h h0
    obtain ⟨F, rfl⟩ : ∃ f, F = f + 1 := ⟨F - 1, by omega⟩
    have g : ¬ r < m := by simp at h; omega
    exact ⟨r, by simp [whileL, dblN, g]⟩
  | succ n ih =>
    intro F f r hF h h0
    obtain ⟨F, rfl⟩ : ∃ f, F = f + 1 := ⟨F - 1, by omega⟩
    by_cases g : r < m
    · obtain ⟨r', q⟩ := ih F (f + 1) (2 * r) (by omega) (by rw [Int.pow_succ] at h; rw [show 2 * r * 2 ^ n = r * (2 ^ n * 2) by rw [Int.mul_comm 2 r, Int.mul_assoc, Int.mul_comm 2]]; exact h) (by omega)
      refine ⟨r', ?_⟩
      have e : (f + ((dblN (n + 1) m r : Nat) : Int)) = f + 1 + (dblN n m (2 * r) : Nat) := by
        conv => lhs; unfold dblN
        rw [if_pos g]
        omega
      have hm : CMul 2 r := .inl ⟨by decide, by decide⟩
      rw [e, ← q]
      simp [whileL, g, hm]
    · exact ⟨r, by simp [whileL, dblN, g]⟩
theorem dbl_spec {m : Nat} {C : Cells} (hC : Flat C) (h1 : m ≤ 64) : d_law_doublings [.int m] C = .ok (.int (dblN 6 m 1 : Nat)) C := by
  obtain ⟨r', q⟩ := loopD (C := C) (m := m) (by omega) 6 100000 0 1 (by decide) (by simp; omega) (by decide)
  refine den_val0 hC rfl ?_ rfl
  refine seq_nx (C1 := C) (ρ1 := [some (.int m), some (.int 0), some (.int 1)]) (by simp [tgT, tgCons, tgNil]) (seq_nx q (ret_rt (by simp)))
theorem most_spec {m : Nat} {C : Cells} (hC : Flat C) (h0 : 2 ≤ m) (h1 : m ≤ 64) : d_most_looks [.int m] C = .ok (.int (1 + (dblN 6 m 1 : Nat))) C := by
  obtain ⟨r', q⟩ := loopM (C := C) (m := m) (by omega) 6 100000 1 1 (by decide) (by simp; omega) (by decide)
  refine den_val0 hC rfl ?_ rfl
  refine seq_nx (C1 := C) (expr_nx (d := .int m) (by simp [need_slots_spec hC (show 2 ≤ (m : Int) by omega) (show (m : Int) ≤ 64 by omega)])) (seq_nx (C1 := C) (ρ1 := [some (.int m), some (.int 1), some (.int 1)]) (by simp [tgT, tgCons, tgNil]) (seq_nx q (ret_rt (by simp))))
/-- the looks are few -/
theorem looks_len {m : Nat} {c : Int} {t : Bool} (h0 : 2 ≤ m) (h1 : m ≤ 64) : (looksOf (rowT m c t)).length ≤ 1 + dblN 6 m 1 := by
  have hR : (rowT m c t).length = m := rowT_len _ _ _
  have h2 : (m : Int) ≤ 2 ^ (dblN 6 m 1) := by
    have := dblN_ge 6 m 1 (by simp; omega)
    rwa [Int.one_mul] at this
  unfold looksOf
  split
  · simp
  · have := srch_len (tst (rowT m c t) ‹Int›) 100 (dblN 6 m 1) 0 m [.int 0] (by omega)
    rw [hR]
    simpa using this
  · have : 1 ≤ dblN 6 m 1 := by
      unfold dblN
      rw [if_pos (by omega)]
      omega
    simp
    omega
end K26
namespace K26
open PySem L2 BV
/-! ### rows laid one by one -/
theorem emod_pred {a m : Int} (hm : 0 < m) (h : a % m ≠ 0) : (a - 1) % m = a % m - 1 := by
  have k0 := Int.emod_nonneg a (show m ≠ 0 by omega)
  have k1 := Int.emod_lt_of_pos a hm
  have e : a - 1 = (a % m - 1) + m * (a / m) := by
    have := Int.emod_add_mul_ediv a m
    omega
  rw [e, Int.add_mul_emod_self_left]
  exact Int.emod_eq_of_lt (by omega) (by omega)
theorem row_step {m : Nat} (hm : 0 < m) (i : Nat) : (rowD m i).set ((i : Int) % m).toNat (.int i) = rowD m ((i : Int) + 1) := by
  have k0 := Int.emod_nonneg (i : Int) (show (m : Int) ≠ 0 by omega)
  have k1 := Int.emod_lt_of_pos (i : Int) (show (0 : Int) < m by omega)
  apply List.ext_getElem?
  intro j
  by_cases hj : j < m
  · rw [rowD_get hj]
    by_cases e : ((i : Int) % m).toNat = j
    · rw [e, List.getElem?_set_self (by rw [rowD_len]; exact hj)]
      have ej : (j : Int) = (i : Int) % m := by omega
      unfold lastD
      have z : ((i : Int) + 1 - 1 - (j : Int)) % m = 0 := by
        rw [ej, show (i : Int) + 1 - 1 - (i : Int) % m = (i : Int) - (i : Int) % m by omega, Int.sub_emod, Int.emod_emod, Int.sub_self]
        rfl
      rw [z, if_pos (by omega)]
      congr 2
      omega
    · rw [List.getElem?_set_ne e, rowD_get hj]
      have z : ((i : Int) - (j : Int)) % m ≠ 0 := by
        intro q
        have e2 : (i : Int) = (j : Int) + m * (((i : Int) - (j : Int)) / m) := by
          have := Int.emod_add_mul_ediv ((i : Int) - (j : Int)) m
          omega
        have e3 : (i : Int) % m = j := by
          rw [e2, Int.add_mul_emod_self_left]
          exact Int.emod_eq_of_lt (by omega) (by omega)
        omega
      have z2 := emod_pred (show (0 : Int) < m by omega) z
      unfold lastD
      rw [show (i : Int) + 1 - 1 - (j : Int) = (i : Int) - (j : Int) by omega, show (i : Int) - 1 - (j : Int) = (i : Int) - (j : Int) - 1 by omega, z2]
      by_cases w : ((i : Int) - (j : Int)) % m < (i : Int) + 1
      · rw [if_pos w, if_pos (by omega)]
        congr 2
        omega
      · rw [if_neg w, if_neg (by omega)]
  · rw [List.getElem?_eq_none (by simp [rowD_len]; omega), List.getElem?_eq_none (by simp [rowD_len]; omega)]
theorem row_zero {m : Nat} : repN (m : Int) [D.non] = rowD m 0 := by
  unfold repN rowD
  apply List.ext_getElem?
  intro j
  have e : (List.replicate ((m : Int)).toNat [D.non]).flatten = List.replicate m D.non := by
    rw [Int.toNat_natCast]
    induction m with
    | zero => rfl
    | succ n ih => rw [List.replicate_succ, List.flatten_cons, ih]; rfl
  rw [e]
  by_cases hj : j < m
  · have z : ¬ ((0 - 1 - (j : Int)) % (m : Int) < 0) := by
      have := Int.emod_nonneg (0 - 1 - (j : Int)) (show (m : Int) ≠ 0 by omega)
      omega
    have z2 : lastD m 0 j = .non := by unfold lastD; rw [if_neg z]
    simp [hj, z2]
  · rw [List.getElem?_eq_none (by simp; omega), List.getElem?_eq_none (by simp; omega)]
theorem rg_r' (c : Nat) : rg 0 (c : Int) = (List.range' 0 c).map fun (s : Nat) => D.int (s : Nat) := by
  simp [rg, List.range_eq_range']
theorem loopLaid {m : Nat} {c : D} {C : Cells} (hm : 0 < m) : ∀ (n i : Nat) (o : Option D), ∃ o', forL (tgN 3) (sSto (fVar 3) (fVar 2) (f2 modD (fA oInt (aCons (fVar 3) aNil)) (fVar 0))) ((List.range' i n).map fun (s : Nat) => D.int (s : Nat)) [some (.int m), some c, some (.cel C.length), o] (C ++ [.lst (rowD m i)]) =
    .nx [some (.int m), some c, some (.cel C.length), o'] (C ++ [.lst (rowD m ((i + n : Nat) : Int))]) := by
  intro n
  induction n with
  | zero => intro i o; exact ⟨o, rfl⟩
  | succ n ih =>
    intro i o
    have k0 := Int.emod_nonneg (i : Int) (show (m : Int) ≠ 0 by omega)
    have k1 := Int.emod_lt_of_pos (i : Int) (show (0 : Int) < m by omega)
    obtain ⟨o', q⟩ := ih (i + 1) (some (.int i))
    refine ⟨o', ?_⟩
    rw [show i + (n + 1) = i + 1 + n by omega, ← q, List.range'_succ, List.map_cons, e_forL_N]
    have st : stoD (.cel C.length) (.int ((i : Int) % m)) (.int i) (C ++ [.lst (rowD m i)]) = some (C ++ [.lst (rowD m ((i : Int) + 1))]) := by
      rw [sto_of (ds := rowD m i) (by simp) k0 (by rw [rowD_len]; exact k1), row_step hm, set_last]
    have e1 : (((i + 1 : Nat)) : Int) = (i : Int) + 1 := by omega
    rw [e1]
    simp [st, hm]
theorem mul_l (m : Bool) (xs : List D) (k : Int) (C : Cells) : mulD m (.lst xs) (.int k) C = if -(2 ^ 63) ≤ k ∧ k < 2 ^ 63 ∧ xs.length * k.toNat ≤ sizeLine then mkL m (repN k xs) C else .stuck := by
  unfold mulD
  rfl
theorem size64 : 64 ≤ sizeLine := by decide
theorem mul_row {m : Nat} {C : Cells} (h : m ≤ 64) : mulD true (.lst [.non]) (.int m) C = .ok (.cel C.length) (C ++ [.lst (rowD m 0)]) := by
  rw [← row_zero, mul_l, if_pos ⟨by omega, by omega, by have := size64; rw [List.length_singleton]; omega⟩]
  rfl
theorem laid_0 {m : Nat} {c : Nat} {C : Cells} (h1 : m ≤ 64) : f2 (mulD true) (fA (oLst false) (aCons (fC .non) aNil)) (fVar 0) [some (.int m), some (.int (c : Nat)), none, none] C = .ok (.cel C.length) (C ++ [.lst (rowD m 0)]) := by
  have e : fA (oLst false) (aCons (fC .non) aNil) [some (.int m), some (.int (c : Nat)), none, none] C = .ok (.lst [.non]) C := by
    simp
  have e2 : fVar 0 [some (D.int m), some (.int (c : Nat)), none, none] C = .ok (.int m) C := rfl
  rw [e_f2, e, Res.bind_ok, e2, Res.bind_ok]
  exact mul_row h1
theorem laid_1 {m : Nat} {c : Nat} {C : Cells} (h1 : m ≤ 64) : sSet 2 (f2 (mulD true) (fA (oLst false) (aCons (fC .non) aNil)) (fVar 0)) [some (.int m), some (.int (c : Nat)), none, none] C = .nx [some (.int m), some (.int (c : Nat)), some (.cel C.length), none] (C ++ [.lst (rowD m 0)]) :=
  set_nx (d := .cel C.length) (laid_0 h1) rfl
theorem laid_2 {m : Nat} {c : Nat} {C : Cells} (h0 : 2 ≤ m) (h3 : c ≤ 1000) : ∃ o', sFor (iRg (rg1 (fVar 1))) (tgN 3) (sSto (fVar 3) (fVar 2) (f2 modD (fA oInt (aCons (fVar 3) aNil)) (fVar 0))) [some (.int m), some (.int (c : Nat)), some (.cel C.length), none] (C ++ [.lst (rowD m 0)]) = .nx [some (.int m), some (.int (c : Nat)), some (.cel C.length), o'] (C ++ [.lst (rowD m c)]) := by
  obtain ⟨o', q⟩ := loopLaid (m := m) (c := .int (c : Nat)) (C := C) (by omega) c 0 none
  refine ⟨o', ?_⟩
  have hr := iRg1_of (f := fVar 1) (ρ := [some (.int m), some (.int (c : Nat)), some (.cel C.length), none]) (C := C ++ [.lst (rowD m 0)]) (C1 := C ++ [.lst (rowD m 0)]) (j := (c : Nat)) (by simp) (by omega) (by omega)
  simp only [Nat.zero_add, Int.natCast_zero] at q
  rw [e_sFor, hr, rg_r']
  simp only [Res.out_ok, e_forS_fix]
  exact q
theorem laid_body {m : Nat} {c : Nat} {C : Cells} (h0 : 2 ≤ m) (h1 : m ≤ 64) (h3 : c ≤ 1000) : b_law_laid [some (.int m), some (.int (c : Nat)), none, none] C = .rt (.cel C.length) (C ++ [.lst (rowD m c)]) := by
  obtain ⟨o', q⟩ := laid_2 (C := C) h0 h3
  exact seq_nx (laid_1 h1) (seq_nx q (ret_rt (by simp)))
theorem laid_spec {m : Nat} {c : Nat} {C : Cells} (hC : Flat C) (h0 : 2 ≤ m) (h1 : m ≤ 64) (h3 : c ≤ 1000) : d_law_laid [.int m, .int (c : Nat)] C = .ok (.cel C.length) (C ++ [.lst (rowD m c)]) := by
  refine (den_rt (m := true) (np := 2) (N := 4) (ds := [D.int m, .int (c : Nat)]) rfl (laid_body h0 h1 h3)).trans ?_
  have := fin_cel (ds := rowD m c) (C := C) (C' := C ++ [.lst (rowD m c)]) (k := C.length) (by simpa using hC) (Nat.le_refl _) (by simp) (rowD_ok _ _ _)
  rw [this, take_app]
theorem goes_spec {x : D} {ds : List D} {m : Nat} {c : Int} {t : Bool} {C : Cells} (hC : Flat C) (hx : SeqOf C x ds) (hl : ds.length = m) (h0 : 2 ≤ m) (h1 : m ≤ 64) (h2 : 0 ≤ c) (h3 : c < 1000)
    (hag : ∀ j : Nat, D.int j ∈ looksOf (rowT m c t) → j < m → ds[j]? = (rowT m c t)[j]?) : d_goes_on [x] C = .ok (.tup [.int (c % m), .int c]) C := by
  refine den_val0 hC rfl ?_ rfl
  have hn := newest_spec hC hx hl h0 h1 h2 h3 hag
  have hlen := hx.len
  rw [hl] at hlen
  have hix : ixD (.tup [lastOf c, .int c, .tup (looksOf (rowT m c t))]) (.int 1) C = .ok (.int c) C := (SeqOf.tup _).ix (by decide) rfl
  refine seq_nx (C1 := C) (ρ1 := [some x, some (.int c)]) (set_nx (C1 := C) (d := .int c) (by simp [hn, hix]) rfl) (ret_rt (by simp [hlen, show 0 < m by omega]))
/-! ### a slot among the looks -/
def intsOf (L : List Int) : List D := L.map D.int
theorem looks_list {R : List D} (h : 2 ≤ R.length) : ∃ L : List Int, looksOf R = intsOf L := by
  have := looks_ints h
  generalize looksOf R = ds at this
  induction ds with
  | nil => exact ⟨[], rfl⟩
  | cons d ds ih =>
    obtain ⟨j, rfl, _, _⟩ := this d (by simp)
    obtain ⟨L, rfl⟩ := ih fun x hx => this x (List.mem_cons_of_mem _ hx)
    exact ⟨j :: L, rfl⟩
theorem toPys_ints : ∀ L : List Int, toPys (intsOf L) = some (L.map PyData.int)
  | [] => rfl
  | i :: L => by
    have := toPys_ints L
    simp only [intsOf, List.map_cons] at this ⊢
    simp [toPys, toPy, this]
theorem lay_ints : ∀ L : List Int, PyData.canLayAll0 (L.map PyData.int) = true ∧ PyData.depthAll (L.map PyData.int) = 0
  | [] => ⟨rfl, rfl⟩
  | i :: L => ⟨by simp [PyData.canLayAll0, PyData.canLay0, (lay_ints L).1], by simp [PyData.depthAll, PyData.depth, (lay_ints L).2]⟩
theorem any_ints (s : Int) : ∀ L : List Int, ((L.map PyData.int).any fun z => PyData.eqv z (.int s)) = decide (s ∈ L)
  | [] => rfl
  | i :: L => by
    have := any_ints s L
    simp only [List.map_cons, List.any_cons, this, PyData.eqv, List.mem_cons]
    by_cases e : i = s
    · subst e; simp
    · have : ¬ s = i := fun q => e q.symm
      simp [e, this]
theorem mem_ints {s : Int} {L : List Int} : D.int s ∈ intsOf L ↔ s ∈ L := by
  simp [intsOf]
theorem nin_ints {s : Int} {R : List D} (h : 2 ≤ R.length) : ∃ b : Bool, (b = false ↔ D.int s ∈ looksOf R) ∧ ∀ C, inD true (.int s) (.tup (looksOf R)) C = .ok (.bl b) C := by
  obtain ⟨L, e⟩ := looks_list h
  rw [e]
  refine ⟨!decide (s ∈ L), by rw [mem_ints]; simp, fun C => ?_⟩
  unfold inD
  simp only [toPyC, toPy, toPys_ints, Option.map_some]
  rw [if_pos ⟨rfl, by simp [SeqAt.shaped, PyData.canLay0, (lay_ints L).1, PyData.depth, (lay_ints L).2]⟩, any_ints]
  rfl
end K26
namespace K26
open PySem L2 BV
/-! ### the checks of one box -/
theorem celsOk_mem {n : Nat} : ∀ {ds : List D}, celsOk n ds = true → ∀ d ∈ ds, celOk n d = true
  | [], _, _, h => nomatch h
  | a :: as, h, d, hd => by
    simp only [celsOk, Bool.and_eq_true] at h
    rcases List.mem_cons.mp hd with e | hd
    · rw [e]; exact h.1
    · exact celsOk_mem h.2 d hd
structure St (E : Cells) (k n : Nat) (ds : List D) : Prop where
  fl : Flat E
  bx : Box E k
  at' : E[n]? = some (.lst ds)
  ne : k ≠ n
theorem St.sq {E : Cells} {k n : Nat} {ds : List D} (s : St E k n ds) : SeqOf E (.cel n) ds := .cel s.at'
theorem Box.setNe {E : Cells} {k n : Nat} {c : Cell} (h : Box E k) (hn : k ≠ n) : Box (E.set n c) k := by
  obtain ⟨g, s, e, r⟩ := h.ex
  exact ⟨g, s, by rw [List.getElem?_set_ne (Ne.symm hn)]; exact e, r⟩
theorem Box.app {E T : Cells} {k : Nat} (h : Box E k) : Box (E ++ T) k := by
  obtain ⟨g, s, e, r⟩ := h.ex
  exact ⟨g, s, by rw [List.getElem?_append_left (List.getElem?_eq_some_iff.mp e).1]; exact e, r⟩
theorem Box.lt {E : Cells} {k : Nat} (h : Box E k) : k < E.length := by
  obtain ⟨g, s, e, r⟩ := h.ex
  exact (List.getElem?_eq_some_iff.mp e).1
/-- a draw leaves the row -/
theorem St.draw {E : Cells} {k n : Nat} {ds : List D} {bx : List D} (s : St E k n ds) (h1 : Flat (E.set k (.lst bx))) (h2 : Box (E.set k (.lst bx)) k) : St (E.set k (.lst bx)) k n ds :=
  ⟨h1, h2, by rw [List.getElem?_set_ne s.ne]; exact s.at', s.ne⟩
theorem St.put {E : Cells} {k n : Nat} {ds : List D} (s : St E k n ds) {i : Nat} {d : D} (hd : celOk 0 d = true) : St (E.set n (.lst (ds.set i d))) k n (ds.set i d) := by
  have hc : celsOk 0 ds = true := s.fl _ (List.mem_of_getElem? s.at')
  refine ⟨s.fl.set n (celsOk_of fun x hx => ?_), s.bx.setNe s.ne, set_get s.at', s.ne⟩
  rcases List.mem_or_eq_of_mem_set hx with h | h
  · exact celsOk_mem hc x h
  · rw [h]; exact hd
abbrev rr (k m : Nat) (c : Int) (t : Bool) (n : Nat) (a b e o : Option D) : Rho := [some (.cel k), some (.int m), some (.int c), some (.bl t), some (.cel n), a, b, e, o]
def Agr (R ds : List D) (m : Nat) : Prop := ∀ j : Nat, D.int j ∈ looksOf R → j < m → ds[j]? = R[j]?
abbrev bodyW : Rho → Cells → Out := (sIf (f2 (inD true) (fVar 8) (f2 ixD (fVar 6) (fC (.int 2)))) (sSto (fA (oCall 2 d_law_pick) (aCons (fVar 0) (aCons (fA (oLst false) (aCons (fC .non) (aCons (fC (.str "torn")) (aCons (fVar 2) (aCons (f2 (addD false) (fVar 2) (fVar 1)) (aCons (fVar 8) (aCons (f2 subD (fC (.int 0)) (fC (.int 1))) (aCons (fA oTup aNil) aNil)))))))) aNil))) (fVar 4) (fVar 8)) sNil)
theorem turnW {k m n : Nat} {c : Int} {t : Bool} {a e o : Option D} {R : List D} {l1 l2 : D} {E : Cells} {ds : List D} {i : Nat} (s : St E k n ds) (hR : 2 ≤ R.length) (hl : ds.length = m) (hi : i < m) (hm : m ≤ 64) (ha : Agr R ds m) :
    ∃ E' ds', bodyW (rr k m c t n a (some (.tup [l1, l2, .tup (looksOf R)])) e (some (.int i))) E = .nx (rr k m c t n a (some (.tup [l1, l2, .tup (looksOf R)])) e (some (.int i))) E' ∧ St E' k n ds' ∧ ds'.length = m ∧ Agr R ds' m ∧ E'.length = E.length := by
  obtain ⟨b, hb, hin⟩ := nin_ints (s := (i : Int)) hR
  have hix : ∀ E, ixD (.tup [l1, l2, .tup (looksOf R)]) (.int 2) E = .ok (.tup (looksOf R)) E := fun E => (SeqOf.tup _).ix (by decide) rfl
  cases b with
  | false =>
    exact ⟨E, ds, if_f (C1 := E) (by simp [hix, hin]) rfl, s, hl, ha, rfl⟩
  | true =>
    obtain ⟨j, d, bx, hj, hp, hF, hB⟩ := pick_spec (x := .lst [.non, TT, .int c, .int (c + m), .int i, .int (0 - 1), .tup []]) (ds := [.non, TT, .int c, .int (c + m), .int i, .int (0 - 1), .tup []]) s.fl s.bx (.inl rfl) (by simp) (by simp) rfl
    have hd : celOk 0 d = true := celsOk_mem (ds := [.non, TT, .int c, .int (c + m), .int i, .int (0 - 1), .tup []]) rfl d (List.mem_of_getElem? hj)
    have s2 := s.draw hF hB
    have hst := sto_of (v := d) (i := (i : Int)) s2.at' (by omega) (by omega)
    refine ⟨_, ds.set i d, if_t (C1 := E) (by simp [hix, hin]) ?_, s2.put hd, by simp [hl], ?_, by simp⟩
    · have hl : fA (oLst false) (aCons (fC .non) (aCons (fC (.str "torn")) (aCons (fVar 2) (aCons (f2 (addD false) (fVar 2) (fVar 1)) (aCons (fVar 8) (aCons (f2 subD (fC (.int 0)) (fC (.int 1))) (aCons (fA oTup aNil) aNil))))))) (rr k m c t n a (some (.tup [l1, l2, .tup (looksOf R)])) e (some (.int i))) E = .ok (.lst [.non, TT, .int c, .int (c + m), .int i, .int (0 - 1), .tup []]) E := by
        simp [rr]
      rw [e_sSto, e_fA, e_aCons]
      simp only [e_var, rr, List.getElem?_cons_zero, List.getElem?_cons_succ, Res.bind_ok, e_aCons, e_aNil] at hl ⊢
      rw [hl]
      simp only [Res.bind_ok, e_oCall, List.length_cons, List.length_nil, hp, Nat.zero_add, Nat.reduceAdd, if_true, Res.out_ok, hst, Int.toNat_natCast]
    · intro j2 h1 h2
      by_cases e : i = j2
      · subst e
        have := hb.mpr h1
        cases this
      · rw [List.getElem?_set_ne e]
        exact ha j2 h1 h2
theorem loopW {k m n : Nat} {c : Int} {t : Bool} {a e : Option D} {R : List D} {l1 l2 : D} (hR : 2 ≤ R.length) (hm : m ≤ 64) : ∀ (q i : Nat) (o : Option D) (E : Cells) (ds : List D), i + q ≤ m → St E k n ds → ds.length = m → Agr R ds m →
    ∃ E' ds' o', forL (tgN 8) bodyW ((List.range' i q).map fun (s : Nat) => D.int (s : Nat)) (rr k m c t n a (some (.tup [l1, l2, .tup (looksOf R)])) e o) E = .nx (rr k m c t n a (some (.tup [l1, l2, .tup (looksOf R)])) e o') E' ∧ St E' k n ds' ∧ ds'.length = m ∧ Agr R ds' m ∧ E'.length = E.length := by
  intro q
  induction q with
  | zero => intro i o E ds _ s hl ha; exact ⟨E, ds, o, rfl, s, hl, ha, rfl⟩
  | succ q ih =>
    intro i o E ds hq s hl ha
    obtain ⟨E1, ds1, h1, s1, hl1, ha1, hn1⟩ := turnW (c := c) (t := t) (a := a) (e := e) (o := o) (l1 := l1) (l2 := l2) (i := i) s hR hl (by omega) hm ha
    obtain ⟨E2, ds2, o2, h2, s2, hl2, ha2, hn2⟩ := ih (i + 1) (some (.int i)) E1 ds1 (by omega) s1 hl1 ha1
    refine ⟨E2, ds2, o2, ?_, s2, hl2, ha2, hn2.trans hn1⟩
    rw [List.range'_succ, List.map_cons, e_forL_N]
    have e0 : (rr k m c t n a (some (.tup [l1, l2, .tup (looksOf R)])) e o).set 8 (some (.int i)) = rr k m c t n a (some (.tup [l1, l2, .tup (looksOf R)])) e (some (.int i)) := rfl
    rw [e0, h1]
    exact h2
end K26
namespace K26
open PySem L2 BV
theorem dblN_le : ∀ (n : Nat) (m r : Int), dblN n m r ≤ n
  | 0, _, _ => Nat.le_refl _
  | n + 1, m, r => by
    unfold dblN
    split
    · have := dblN_le n m (2 * r)
      omega
    · exact Nat.zero_le _
theorem looks_ga {m : Nat} {c : Int} {t : Bool} (h0 : 2 ≤ m) (h1 : m ≤ 64) : GA 1 300 (.tup (looksOf (rowT m c t))) := by
  have h := looks_len (c := c) (t := t) h0 h1
  have h2 := dblN_le 6 m 1
  refine (GA.tup (n := 0) (w := 41) fun d hd => ?_).mono (Nat.le_refl _) (show (looksOf (rowT m c t)).length * (41 + 1) ≤ 300 by omega)
  obtain ⟨j, rfl, j0, j1⟩ := looks_ints (by rw [rowT_len]; exact h0) d hd
  rw [rowT_len] at j1
  exact ⟨_, .int (by omega)⟩
theorem newest_ga {m : Nat} {c : Int} {t : Bool} (h0 : 2 ≤ m) (h1 : m ≤ 64) (h2 : 0 ≤ c) (h3 : c < 1000) : GA 2 (3 * 301) (.tup [lastOf c, .int c, .tup (looksOf (rowT m c t))]) := by
  refine (show GA 2 (3 * 301) (.tup [lastOf c, .int c, .tup (looksOf (rowT m c t))]) from GA.tup (n := 1) (w := 300) (ds := [lastOf c, .int c, .tup (looksOf (rowT m c t))]) fun d hd => ?_)
  simp only [List.mem_cons, List.not_mem_nil, or_false] at hd
  rcases hd with rfl | rfl | rfl
  · unfold lastOf
    split
    · exact ⟨_, (GD.int (by omega)).mono (by decide) (by decide)⟩
    · exact ⟨_, GD.non.mono (by decide) (by decide)⟩
  · exact ⟨_, (GD.int (by omega)).mono (by decide) (by decide)⟩
  · exact looks_ga h0 h1
theorem int_ga {c : Int} (h : c.natAbs < 10 ^ 12) : GA 0 41 (.int c) := ⟨_, GD.int h⟩
theorem pair_ga {a c : Int} (h : a.natAbs < 10 ^ 12) (h2 : c.natAbs < 10 ^ 12) : GA 1 84 (.tup [.int a, .int c]) := by
  refine (show GA 1 84 (.tup [.int a, .int c]) from GA.tup (n := 0) (w := 41) (ds := [.int a, .int c]) fun d hd => ?_)
  simp only [List.mem_cons, List.not_mem_nil, or_false] at hd
  rcases hd with rfl | rfl
  · exact int_ga h
  · exact int_ga h2
/-- the first half: until the looks are checked -/
abbrev S1 : Rho → Cells → Out := sSet 4 (fA (oCall 2 d_law_laid) (aCons (fVar 1) (aCons (fVar 2) aNil)))
abbrev S2 : Rho → Cells → Out := sIf (fVar 3) (sSto (fC (.str "torn")) (fVar 4) (f2 modD (fA oInt (aCons (fVar 2) aNil)) (fVar 1))) sNil
abbrev S3 : Rho → Cells → Out := sSet 5 (ifD (fVar 3) (fA (oCall 2 d_torn_row) (aCons (fVar 1) (aCons (fVar 2) aNil))) (fK0 (oCallK0 2 2 [1, 0] d_ring_row) (aCons (fVar 2) (aCons (fVar 1) aNil))))
abbrev S4 : Rho → Cells → Out := sIf (orD (f2 (eqD true) (fA oRepr (aCons (fVar 5) aNil)) (fA oRepr (aCons (fA oTuple (aCons (fVar 4) aNil)) aNil))) (f2 (isD true) (fA (oCall 1 d_is_ring_row) (aCons (fA (oCall 2 d_law_pick) (aCons (fVar 0) (aCons (fA (oLst false) (aCons (fVar 4) (aCons (fA oTuple (aCons (fVar 4) aNil)) aNil))) aNil))) aNil)) (fC (.bl true)))) (sRet (fC (.bl false))) sNil
abbrev S5 : Rho → Cells → Out := sSet 6 (fA (oCall 1 d_newest) (aCons (fA oTuple (aCons (fVar 4) aNil)) aNil))
abbrev S6 : Rho → Cells → Out := sSet 7 (fA oTup (aCons (ifD (f2 gtD (fVar 2) (fC (.int 0))) (f2 subD (fVar 2) (fC (.int 1))) (fC .non)) (aCons (fVar 2) aNil)))
abbrev S7 : Rho → Cells → Out := sIf (orD (f2 (eqD true) (fA oRepr (aCons (fVar 6) aNil)) (fA oRepr (aCons (f2 (addD false) (fVar 7) (fA oTup (aCons (fA (oCall 1 d_law_looks) (aCons (fVar 4) aNil)) aNil))) aNil))) (f2 gtD (fA oLen (aCons (f2 ixD (fVar 6) (fC (.int 2))) aNil)) (f2 (addD false) (fC (.int 1)) (fA (oCall 1 d_law_doublings) (aCons (fVar 1) aNil))))) (sRet (fC (.bl false))) sNil
abbrev S9 : Rho → Cells → Out := sIf (orD (f2 (eqD true) (fA oRepr (aCons (fA (oCall 1 d_newest) (aCons (fVar 4) aNil)) aNil)) (fA oRepr (aCons (fVar 6) aNil))) (f2 (eqD true) (fA oRepr (aCons (fA (oCall 1 d_goes_on) (aCons (fVar 4) aNil)) aNil)) (fA oRepr (aCons (fA oTup (aCons (f2 modD (fA oInt (aCons (fVar 2) aNil)) (fVar 1)) (aCons (fVar 2) aNil))) aNil)))) (sRet (fC (.bl false))) sNil
abbrev S10 : Rho → Cells → Out := sRet (andD (f2 (eqD false) (fA oRepr (aCons (fA (oCall 2 d_slot_of) (aCons (fVar 1) (aCons (fVar 2) aNil))) aNil)) (fA oRepr (aCons (f2 modD (fA oInt (aCons (fVar 2) aNil)) (fVar 1)) aNil))) (f2 (eqD false) (fA oRepr (aCons (fA (oCall 1 d_most_looks) (aCons (fVar 1) aNil)) aNil)) (fA oRepr (aCons (f2 (addD false) (fC (.int 1)) (fA (oCall 1 d_law_doublings) (aCons (fVar 1) aNil))) aNil))))
theorem right_eq : b_law_right = sSeq S1 (sSeq S2 (sSeq S3 (sSeq S4 (sSeq S5 (sSeq S6 (sSeq S7 (sSeq (sFor (iRg (rg1 (fVar 1))) (tgN 8) bodyW) (sSeq S9 S10)))))))) := rfl
variable {k m n : Nat} {c : Int} {t : Bool} {E : Cells}
theorem r1 (hC : Flat E) (h0 : 2 ≤ m) (h1 : m ≤ 64) (h2 : 0 ≤ c) (h3 : c < 1000) : S1 ([D.cel k, .int m, .int c, .bl t].map some ++ List.replicate (9 - 4) none) E = .nx (rr k m c t E.length none none none none) (E ++ [.lst (rowD m c)]) := by
  have hl := laid_spec (m := m) (c := c.toNat) hC h0 h1 (by omega)
  rw [show ((c.toNat : Nat) : Int) = c by omega] at hl
  have e2 : aCons (fVar 1) (aCons (fVar 2) aNil) [some (D.cel k), some (.int m), some (.int c), some (.bl t), none, none, none, none, none] E = .ok [.int m, .int c] E := rfl
  refine set_nx (ρ := [some (D.cel k), some (.int m), some (.int c), some (.bl t), none, none, none, none, none]) (d := .cel E.length) ?_ rfl
  rw [e_fA, e2, Res.bind_ok, e_oCall, if_pos (show [D.int m, D.int c].length = 2 from rfl)]
  exact hl
theorem r2 (h0 : 2 ≤ m) : S2 (rr k m c t E.length none none none none) (E ++ [.lst (rowD m c)]) = .nx (rr k m c t E.length none none none none) (E ++ [.lst (rowT m c t)]) := by
  cases t with
  | false => exact if_f (C1 := E ++ [.lst (rowD m c)]) (by simp [rr]) rfl
  | true =>
    have k0 := Int.emod_nonneg c (show (m : Int) ≠ 0 by omega)
    have k1 := Int.emod_lt_of_pos c (show (0 : Int) < m by omega)
    have st : stoD (.cel E.length) (.int (c % m)) TT (E ++ [.lst (rowD m c)]) = some (E ++ [.lst (rowT m c true)]) := by
      rw [sto_of (ds := rowD m c) (by simp) k0 (by rw [rowD_len]; exact k1), set_last]
      rfl
    refine if_t (C1 := E ++ [.lst (rowD m c)]) (by simp [rr]) ?_
    have hm : (0 : Int) < m := by omega
    simp only [e_sSto, e_c, e_var, rr, List.getElem?_cons_zero, List.getElem?_cons_succ, Res.out_ok, e_f2, e_fA, e_aCons, e_aNil, Res.bind_ok, e_int_i, e_mod_ii, if_pos hm, st]
theorem st0 (hC : Flat E) (hb : Box E k) (h0 : 2 ≤ m) (h3 : c < 1000) : St (E ++ [.lst (rowT m c t)]) k E.length (rowT m c t) :=
  ⟨hC.append (.one (celsOk_of fun d hd => okIt_cel (rowT_ok (by omega) h3 d hd) _)), hb.app, by simp, by have := hb.lt; omega⟩
theorem r3 (s : St E k n (rowT m c t)) (h0 : 2 ≤ m) (h1 : m ≤ 64) (h2 : 0 ≤ c) (h3 : c < 1000) : S3 (rr k m c t n none none none none) E = .nx (rr k m c t n (some (.tup (rowT m c t))) none none none) E := by
  refine set_nx (d := .tup (rowT m c t)) ?_ rfl
  cases t with
  | false => simp [rr, oCallK0, permL, ring_row_spec s.fl h0 h1 h2, rowT]
  | true => simp [rr, torn_row_spec s.fl h0 h1 h2 h3]
theorem r4 (s : St E k n (rowT m c t)) (h0 : 2 ≤ m) (h1 : m ≤ 64) (h2 : 0 ≤ c) (h3 : c < 1000) (hn : n < E.length) : ∃ E', S4 (rr k m c t n (some (.tup (rowT m c t))) none none none) E = .nx (rr k m c t n (some (.tup (rowT m c t))) none none none) E' ∧ St E' k n (rowT m c t) ∧ E'.length = E.length := by
  have hcs : celsOk E.length [D.cel n, .tup (rowT m c t)] = true := by
    simp only [celsOk, celOk, Bool.and_eq_true, decide_eq_true_eq, and_true]
    exact ⟨hn, celsOk_of fun d hd => okIt_cel (rowT_ok (by omega) h3 d hd) _⟩
  obtain ⟨j, d, bx, hj, hp, hF, hB⟩ := pick_spec (x := .lst [.cel n, .tup (rowT m c t)]) (ds := [.cel n, .tup (rowT m c t)]) s.fl s.bx (.inl rfl) (by simp) (by simp) hcs
  have s2 := s.draw hF hB
  have hd : SeqOf (E.set k (.lst bx)) d (rowT m c t) := by
    have := List.mem_of_getElem? hj
    simp only [List.mem_cons, List.not_mem_nil, or_false] at this
    rcases this with rfl | rfl
    · exact s2.sq
    · exact .tup _
  have hr := is_ring_spec hF hd h0 h1 h2 h3
  refine ⟨_, if_f (C1 := E.set k (.lst bx)) ?_ rfl, s2, by simp⟩
  have g := repr_of (C := E) (row_ga (m := m) (c := c) (t := t) (by omega) h3) (by decide) (by omega)
  have ht := s.sq.tuple
  rw [e_or]
  have e1 : f2 (eqD true) (fA oRepr (aCons (fVar 5) aNil)) (fA oRepr (aCons (fA oTuple (aCons (fVar 4) aNil)) aNil)) (rr k m c t n (some (.tup (rowT m c t))) none none none) E = .ok (.bl false) E := by
    simp [rr, g, ht]
  rw [e1]
  simp only [Res.bind_ok, bl3_bl, Bool.false_eq_true, if_false]
  have e2 : fA (oLst false) (aCons (fVar 4) (aCons (fA oTuple (aCons (fVar 4) aNil)) aNil)) (rr k m c t n (some (.tup (rowT m c t))) none none none) E = .ok (.lst [.cel n, .tup (rowT m c t)]) E := by
    simp [rr, ht, mkL]
  generalize fA (oLst false) (aCons (fVar 4) (aCons (fA oTuple (aCons (fVar 4) aNil)) aNil)) = X at e2 ⊢
  simp [e2, hp, hr]
theorem r5 (s : St E k n (rowT m c t)) (h0 : 2 ≤ m) (h1 : m ≤ 64) (h2 : 0 ≤ c) (h3 : c < 1000) {a : Option D} : S5 (rr k m c t n a none none none) E = .nx (rr k m c t n a (some (.tup [lastOf c, .int c, .tup (looksOf (rowT m c t))])) none none) E := by
  refine set_nx (d := .tup [lastOf c, .int c, .tup (looksOf (rowT m c t))]) ?_ rfl
  have hn := newest_spec (x := .tup (rowT m c t)) s.fl (.tup _) (rowT_len m c t) h0 h1 h2 h3 fun _ _ _ => rfl
  have ht := s.sq.tuple
  simp [rr, ht, hn]
theorem r6 {a b : Option D} : S6 (rr k m c t n a b none none) E = .nx (rr k m c t n a b (some (.tup [lastOf c, .int c])) none) E := by
  refine set_nx (d := .tup [lastOf c, .int c]) ?_ rfl
  unfold lastOf
  by_cases z : 0 < c <;> simp [rr, z]
theorem r7 (s : St E k n (rowT m c t)) (h0 : 2 ≤ m) (h1 : m ≤ 64) (h2 : 0 ≤ c) (h3 : c < 1000) {a : Option D} : S7 (rr k m c t n a (some (.tup [lastOf c, .int c, .tup (looksOf (rowT m c t))])) (some (.tup [lastOf c, .int c])) none) E = .nx (rr k m c t n a (some (.tup [lastOf c, .int c, .tup (looksOf (rowT m c t))])) (some (.tup [lastOf c, .int c])) none) E := by
  have hl := looks_spec s.fl s.sq h0 h1 h2 h3
  have hd := dbl_spec (m := m) s.fl h1
  have g := repr_of (C := E) (newest_ga (t := t) h0 h1 h2 h3) (by decide) (by decide)
  have hix : ixD (.tup [lastOf c, .int c, .tup (looksOf (rowT m c t))]) (.int 2) E = .ok (.tup (looksOf (rowT m c t))) E := (SeqOf.tup _).ix (by decide) rfl
  have hlen := (SeqOf.tup (C := E) (looksOf (rowT m c t))).len
  have hle := looks_len (c := c) (t := t) h0 h1
  refine if_f (C1 := E) ?_ rfl
  have e1 : f2 (eqD true) (fA oRepr (aCons (fVar 6) aNil)) (fA oRepr (aCons (f2 (addD false) (fVar 7) (fA oTup (aCons (fA (oCall 1 d_law_looks) (aCons (fVar 4) aNil)) aNil))) aNil)) (rr k m c t n a (some (.tup [lastOf c, .int c, .tup (looksOf (rowT m c t))])) (some (.tup [lastOf c, .int c])) none) E = .ok (.bl false) E := by
    simp [rr, g, hl]
  rw [e_or, e1]
  have hng : ¬ (1 + ((dblN 6 m 1 : Nat) : Int) < ((looksOf (rowT m c t)).length : Int)) := by omega
  simp [rr, hix, hlen, hd, hng]
theorem r8 {ds : List D} {a e : Option D} {R : List D} {l1 l2 : D} (s : St E k n ds) (hR : 2 ≤ R.length) (hl : ds.length = m) (hm : m ≤ 64) (ha : Agr R ds m) :
    ∃ E' ds' o', sFor (iRg (rg1 (fVar 1))) (tgN 8) bodyW (rr k m c t n a (some (.tup [l1, l2, .tup (looksOf R)])) e none) E = .nx (rr k m c t n a (some (.tup [l1, l2, .tup (looksOf R)])) e o') E' ∧ St E' k n ds' ∧ ds'.length = m ∧ Agr R ds' m ∧ E'.length = E.length := by
  obtain ⟨E', ds', o', q, s', hl', ha', hn'⟩ := loopW (c := c) (t := t) (a := a) (e := e) (l1 := l1) (l2 := l2) hR hm m 0 none E ds (by omega) s hl ha
  refine ⟨E', ds', o', ?_, s', hl', ha', hn'⟩
  have hr := iRg1_of (f := fVar 1) (ρ := rr k m c t n a (some (.tup [l1, l2, .tup (looksOf R)])) e none) (C := E) (C1 := E) (j := (m : Nat)) (by simp [rr]) (by omega) (by omega)
  rw [e_sFor, hr, rg_r']
  simp only [Res.out_ok, e_forS_fix]
  exact q
theorem r9 {ds : List D} (s : St E k n ds) (h0 : 2 ≤ m) (h1 : m ≤ 64) (h2 : 0 ≤ c) (h3 : c < 1000) (hl : ds.length = m) (ha : Agr (rowT m c t) ds m) {a b o : Option D} : S9 (rr k m c t n a (some (.tup [lastOf c, .int c, .tup (looksOf (rowT m c t))])) b o) E = .nx (rr k m c t n a (some (.tup [lastOf c, .int c, .tup (looksOf (rowT m c t))])) b o) E := by
  have hn := newest_spec s.fl s.sq hl h0 h1 h2 h3 ha
  have hg := goes_spec s.fl s.sq hl h0 h1 h2 h3 ha
  have g := repr_of (C := E) (newest_ga (t := t) h0 h1 h2 h3) (by decide) (by decide)
  have k0 := Int.emod_nonneg c (show (m : Int) ≠ 0 by omega)
  have k1 := Int.emod_lt_of_pos c (show (0 : Int) < m by omega)
  have g2 := repr_of (C := E) (pair_ga (a := c % m) (c := c) (by omega) (by omega)) (by decide) (by decide)
  refine if_f (C1 := E) ?_ rfl
  have e1 : f2 (eqD true) (fA oRepr (aCons (fA (oCall 1 d_newest) (aCons (fVar 4) aNil)) aNil)) (fA oRepr (aCons (fVar 6) aNil)) (rr k m c t n a (some (.tup [lastOf c, .int c, .tup (looksOf (rowT m c t))])) b o) E = .ok (.bl false) E := by
    simp [rr, hn, g]
  rw [e_or, e1]
  simp [rr, hg, g2, show 0 < m by omega]
theorem r10 {ds : List D} (s : St E k n ds) (h0 : 2 ≤ m) (h1 : m ≤ 64) (h2 : 0 ≤ c) (h3 : c < 1000) {a b e o : Option D} : S10 (rr k m c t n a b e o) E = .rt (.bl true) E := by
  have hd := dbl_spec (m := m) s.fl h1
  have hm := most_spec (m := m) s.fl h0 h1
  have hs := slot_spec (m := m) (n := c) s.fl (by omega) (by omega) h2
  have k0 := Int.emod_nonneg c (show (m : Int) ≠ 0 by omega)
  have k1 := Int.emod_lt_of_pos c (show (0 : Int) < m by omega)
  have hle := dblN_le 6 m 1
  have g1 := repr_of (C := E) (int_ga (c := c % m) (by omega)) (by decide) (by decide)
  have g2 := repr_of (C := E) (int_ga (c := 1 + (dblN 6 m 1 : Nat)) (by omega)) (by decide) (by decide)
  refine ret_rt ?_
  simp [rr, hd, hm, hs, g1, g2, show 0 < m by omega]
theorem right_spec (hC : Flat E) (hb : Box E k) (h0 : 2 ≤ m) (h1 : m ≤ 64) (h2 : 0 ≤ c) (h3 : c < 1000) : ∃ E', d_law_right [.cel k, .int m, .int c, .bl t] E = .ok (.bl true) E' ∧ Flat E' ∧ E'.length = E.length := by
  have s0 := st0 (t := t) hC hb h0 h3
  obtain ⟨E1, q4, s1, n1⟩ := r4 s0 h0 h1 h2 h3 (by simp)
  obtain ⟨E2, ds2, o2, q8, s2, l2, a2, n2⟩ := r8 (c := c) (t := t) (a := some (.tup (rowT m c t))) (e := some (.tup [lastOf c, .int c])) (R := rowT m c t) (l1 := lastOf c) (l2 := .int c) s1 (by rw [rowT_len]; exact h0) (rowT_len m c t) h1 fun _ _ _ => rfl
  have hlen : E2.length = E.length + 1 := by rw [n2, n1]; simp
  have hF : Flat (E2.take E.length) := fun x hx => s2.fl x (List.mem_of_mem_take hx)
  refine ⟨E2.take E.length, ?_, hF, by simp; omega⟩
  refine den_mut (E2.drop E.length) hF rfl (by simp; omega) ?_ rfl
  rw [List.take_append_drop, right_eq]
  exact seq_nx (r1 hC h0 h1 h2 h3) (seq_nx (r2 h0) (seq_nx (r3 s0 h0 h1 h2 h3) (seq_nx q4 (seq_nx (r5 s1 h0 h1 h2 h3) (seq_nx r6 (seq_nx (r7 s1 h0 h1 h2 h3) (seq_nx q8 (seq_nx (r9 s2 h0 h1 h2 h3 l2 a2) (r10 s2 h0 h1 h2 h3)))))))))
end K26
namespace K26
open PySem L2 BV
structure Dr (k : Nat) (E : Cells) : Prop where
  fl : Flat E
  bx : Box E k
theorem take_d {E : Cells} {k : Nat} {m : Int} (h : Dr k E) (h0 : 0 < m) (h1 : m < 2 ^ 28) : ∃ (r : Int) (E' : Cells), d_law_take [.cel k, .int m] E = .ok (.int r) E' ∧ 0 ≤ r ∧ r < m ∧ Dr k E' := by
  obtain ⟨r, bx, e, r0, r1, hF, hB⟩ := take_spec h.fl h.bx h0 h1
  exact ⟨r, _, e, r0, r1, hF, hB⟩
theorem pick_d {E : Cells} {k : Nat} {L : List Int} (h : Dr k E) (h0 : 0 < L.length) (h1 : L.length < 1000) : ∃ (i : Int) (E' : Cells), i ∈ L ∧ d_law_pick [.cel k, .lst (intsOf L)] E = .ok (.int i) E' ∧ Dr k E' := by
  obtain ⟨j, d, bx, hj, hp, hF, hB⟩ := pick_spec (x := .lst (intsOf L)) (ds := intsOf L) h.fl h.bx (.inl rfl) (by simpa [intsOf] using h0) (by simpa [intsOf] using h1) (celsOk_of fun d hd => by
    simp only [intsOf, List.mem_map] at hd
    obtain ⟨a, _, rfl⟩ := hd
    rfl)
  have hm := List.mem_of_getElem? hj
  simp only [intsOf, List.mem_map] at hm
  obtain ⟨a, ha, rfl⟩ := hm
  exact ⟨a, _, ha, hp, hF, hB⟩
theorem box_d {ns : List Int} {C : Cells} {i : Int} (hC : Flat C) (h0 : 0 ≤ i) (h1 : i < 1000) : ∃ E, d_law_box [.scr ns, .int i] C = .ok (.cel C.length) E ∧ Dr C.length E := by
  obtain ⟨bx, e, hF, hB⟩ := box_spec (ns := ns) hC h0 h1
  exact ⟨_, e, hF, hB⟩
abbrev T1 : Rho → Cells → Out := sSet 2 (fA (oCall 2 d_law_box) (aCons (fVar 0) (aCons (fVar 1) aNil)))
abbrev T2 : Rho → Cells → Out := sSet 3 (f2 (addD false) (fC (.int 2)) (fA (oCall 2 d_law_pick) (aCons (fVar 2) (aCons (fA (oLst false) (aCons (fC (.int 0)) (aCons (fC (.int 1)) (aCons (fC (.int 2)) (aCons (fC (.int 3)) (aCons (fA (oCall 2 d_law_take) (aCons (fVar 2) (aCons (fC (.int 23)) aNil))) (aCons (fA (oCall 2 d_law_take) (aCons (fVar 2) (aCons (fC (.int 23)) aNil))) (aCons (fC (.int 62)) aNil)))))))) aNil))))
abbrev T3 : Rho → Cells → Out := sSet 4 (fA (oCall 2 d_law_pick) (aCons (fVar 2) (aCons (fA (oLst false) (aCons (fC (.int 0)) (aCons (fC (.int 1)) (aCons (f2 subD (fVar 3) (fC (.int 1))) (aCons (fVar 3) (aCons (f2 (addD false) (fVar 3) (fC (.int 1))) (aCons (f2 (mulD false) (fC (.int 2)) (fVar 3)) (aCons (fA (oCall 2 d_law_take) (aCons (fVar 2) (aCons (f2 (mulD false) (fC (.int 4)) (fVar 3)) aNil))) (aCons (fA (oCall 2 d_law_take) (aCons (fVar 2) (aCons (f2 (mulD false) (fC (.int 4)) (fVar 3)) aNil))) aNil))))))))) aNil)))
abbrev T4 : Rho → Cells → Out := sIf (notD (fA (oCall 4 d_law_right) (aCons (fVar 2) (aCons (fVar 3) (aCons (fVar 4) (aCons (f2 (eqD false) (fA (oCall 2 d_law_take) (aCons (fVar 2) (aCons (fC (.int 2)) aNil))) (fC (.int 0))) aNil)))))) (sRet (fC (.bl false))) sNil
abbrev bodyL : Rho → Cells → Out := sSeq T1 (sSeq T2 (sSeq T3 T4))
variable {ns : List Int} {i : Int} {C E : Cells} {k : Nat}
theorem t1 (hC : Flat C) (h0 : 0 ≤ i) (h1 : i < 1000) (a b c : Option D) : ∃ E, T1 [some (.scr ns), some (.int i), a, b, c] C = .nx [some (.scr ns), some (.int i), some (.cel C.length), b, c] E ∧ Dr C.length E := by
  obtain ⟨E, e, h⟩ := box_d (ns := ns) hC h0 h1
  refine ⟨E, set_nx (d := .cel C.length) ?_ rfl, h⟩
  simp [e]
theorem t2 (h : Dr k E) (b c : Option D) : ∃ (m : Int) (E' : Cells), T2 [some (.scr ns), some (.int i), some (.cel k), b, c] E = .nx [some (.scr ns), some (.int i), some (.cel k), some (.int m), c] E' ∧ Dr k E' ∧ 2 ≤ m ∧ m ≤ 64 := by
  obtain ⟨r1, E1, e1, a1, b1, h1⟩ := take_d (m := 23) h (by decide) (by decide)
  obtain ⟨r2, E2, e2, a2, b2, h2⟩ := take_d (m := 23) h1 (by decide) (by decide)
  obtain ⟨j, E3, hj, e3, h3⟩ := pick_d (L := [0, 1, 2, 3, r1, r2, 62]) h2 (by simp) (by simp)
  refine ⟨2 + j, E3, set_nx (d := .int (2 + j)) ?_ rfl, h3, ?_⟩
  · simp only [intsOf, List.map_cons, List.map_nil] at e3
    simp [e1, e2, e3, mkL]
  · simp only [List.mem_cons, List.not_mem_nil, or_false] at hj
    omega
theorem t3 {m : Int} (h : Dr k E) (m0 : 2 ≤ m) (m1 : m ≤ 64) (c : Option D) : ∃ (n : Int) (E' : Cells), T3 [some (.scr ns), some (.int i), some (.cel k), some (.int m), c] E = .nx [some (.scr ns), some (.int i), some (.cel k), some (.int m), some (.int n)] E' ∧ Dr k E' ∧ 0 ≤ n ∧ n < 1000 := by
  obtain ⟨r1, E1, e1, a1, b1, h1⟩ := take_d (m := 4 * m) h (by omega) (by omega)
  obtain ⟨r2, E2, e2, a2, b2, h2⟩ := take_d (m := 4 * m) h1 (by omega) (by omega)
  obtain ⟨j, E3, hj, e3, h3⟩ := pick_d (L := [0, 1, m - 1, m, m + 1, 2 * m, r1, r2]) h2 (by simp) (by simp)
  have hm2 : CMul 2 m := .inl ⟨by decide, by decide⟩
  have hm4 : CMul 4 m := .inl ⟨by decide, by decide⟩
  refine ⟨j, E3, set_nx (d := .int j) ?_ rfl, h3, ?_⟩
  · simp only [intsOf, List.map_cons, List.map_nil] at e3
    simp [e1, e2, e3, mkL, hm2, hm4]
  · simp only [List.mem_cons, List.not_mem_nil, or_false] at hj
    omega
theorem t4 {m n : Int} (h : Dr k E) (m0 : 2 ≤ m) (m1 : m ≤ 64) (n0 : 0 ≤ n) (n1 : n < 1000) : ∃ E', T4 [some (.scr ns), some (.int i), some (.cel k), some (.int m), some (.int n)] E = .nx [some (.scr ns), some (.int i), some (.cel k), some (.int m), some (.int n)] E' ∧ Flat E' := by
  obtain ⟨r1, E1, e1, a1, b1, h1⟩ := take_d (m := 2) h (by decide) (by decide)
  obtain ⟨E2, e2, h2, _⟩ := right_spec (m := m.toNat) (c := n) (t := r1 == 0) h1.fl h1.bx (by omega) (by omega) n0 n1
  rw [show ((m.toNat : Nat) : Int) = m by omega] at e2
  refine ⟨E2, if_f (C1 := E2) ?_ rfl, h2⟩
  simp [e1, eq_int, e2]
theorem turnL (hC : Flat C) (h0 : 0 ≤ i) (h1 : i < 1000) (a b c : Option D) : ∃ E a' b' c', bodyL [some (.scr ns), some (.int i), a, b, c] C = .nx [some (.scr ns), some (.int i), a', b', c'] E ∧ Flat E := by
  obtain ⟨E1, q1, d1⟩ := t1 (ns := ns) hC h0 h1 a b c
  obtain ⟨m, E2, q2, d2, m0, m1⟩ := t2 (ns := ns) (i := i) d1 b c
  obtain ⟨n, E3, q3, d3, n0, n1⟩ := t3 (ns := ns) (i := i) d2 m0 m1 c
  obtain ⟨E4, q4, f4⟩ := t4 (ns := ns) (i := i) d3 m0 m1 n0 n1
  exact ⟨E4, _, _, _, seq_nx q1 (seq_nx q2 (seq_nx q3 q4)), f4⟩
theorem loopLaw : ∀ (q i : Nat) (C : Cells) (o a b c : Option D), i + q ≤ 1000 → Flat C → ∃ E o' a' b' c', forL (tgN 1) bodyL ((List.range' i q).map fun (s : Nat) => D.int (s : Nat)) [some (.scr ns), o, a, b, c] C = .nx [some (.scr ns), o', a', b', c'] E ∧ Flat E := by
  intro q
  induction q with
  | zero => intro i C o a b c _ hC; exact ⟨C, o, a, b, c, rfl, hC⟩
  | succ q ih =>
    intro i C o a b c hq hC
    obtain ⟨E1, a1, b1, c1, h1, f1⟩ := turnL (ns := ns) (i := (i : Nat)) hC (by omega) (by omega) a b c
    obtain ⟨E2, o2, a2, b2, c2, h2, f2⟩ := ih (i + 1) E1 (some (.int (i : Nat))) a1 b1 c1 (by omega) f1
    refine ⟨E2, o2, a2, b2, c2, ?_, f2⟩
    rw [List.range'_succ, List.map_cons, e_forL_N]
    have e0 : ([some (.scr ns), o, a, b, c] : Rho).set 1 (some (.int (i : Nat))) = [some (.scr ns), some (.int (i : Nat)), a, b, c] := rfl
    rw [e0, h1]
    exact h2
end K26
namespace K26
open PySem L2 BV
theorem law_good : ∀ ns : List Int, ns.length ≤ 63 → ∃ C1, d_law [.scr ns] [] = .ok (.bl true) C1 := by
  intro ns hn
  obtain ⟨q, hq, hq0⟩ : ∃ q : Nat, (if (if (20 : Int) < ns.length then (20 : Int) else ns.length) > 6 then (if (20 : Int) < ns.length then (20 : Int) else ns.length) else 6) = (q : Nat) ∧ q ≤ 20 := by
    refine ⟨(if (if (20 : Int) < ns.length then (20 : Int) else ns.length) > 6 then (if (20 : Int) < ns.length then (20 : Int) else ns.length) else 6).toNat, ?_, ?_⟩ <;> split <;> (try split) <;> omega
  obtain ⟨E, o', a', b', c', h, hF⟩ := loopLaw (ns := ns) q 0 [] none none none none (by omega) Flat.nil
  have hr := iRg1_of (f := fA oMax (aCons (fC (.int 6)) (aCons (fA oMin (aCons (fA oLen (aCons (fVar 0) aNil)) (aCons (fC (.int 20)) aNil))) aNil))) (ρ := [some (.scr ns), none, none, none, none]) (C := []) (C1 := []) (j := (q : Nat)) (by
    have e1 : oLen [.scr ns] [] = .ok (.int ns.length) [] := by simp
    have e2 : aCons (fA oLen (aCons (fVar 0) aNil)) (aCons (fC (.int 20)) aNil) [some (.scr ns), none, none, none, none] [] = .ok [.int ns.length, .int 20] [] := by simp [e1]
    rw [e_fA]
    simp only [e_aCons, e_aNil, e_c, e_fA, Res.bind_ok] at e2 ⊢
    rw [e2]
    simp only [Res.bind_ok, e_min_ii, e_max_ii, hq]) (by omega) (by omega)
  have hb : b_law [some (.scr ns), none, none, none, none] [] = .rt (.bl true) E := by
    refine seq_nx (ρ1 := [some (.scr ns), o', a', b', c']) (C1 := E) ?_ (ret_rt rfl)
    rw [e_sFor, hr, rg_r']
    simp only [Res.out_ok, e_forS_fix]
    exact h
  have := den_rt (m := false) (np := 1) (N := 5) (ds := [.scr ns]) rfl hb
  refine ⟨_, this.trans (fin_val (C := []) (by simpa using Flat.nil) rfl)⟩
end K26
namespace K26
open PySem PySem.Spec PyProof.Rows L2 BV
theorem all_mk {l : PySem.W.OpenLaw} {w : World} {K : PySem.W.Frag} {h : Heap} {mg : Str → Option Value} {fa : Addr} (X : K.In h) (G : h.Ns mainGlobals mg) (hfa : mg "law" = some (.ref fa))
    {f0 : Addr} {oc0 kV0 dc0 pm0 cd0 ct0 : Value} {od0 an0 : Option Addr} {sl0 : Array (Option Value)}
    (a0 : PySem.W.nsIn K mainGlobals "_law_box" = some (some (.ref f0))) (l0 : K.lookup f0 = some ⟨oc0, od0, .func (PySem.W.fnOf "_law_box" "_law_box" (defArgs s_law_box) (defBody s_law_box) (defScope s_law_box) .none kV0 dc0 pm0 an0 cd0 ct0), sl0⟩) (c0 : PySem.W.codeIn K cd0 "_law_box" = true) (k0 : PySem.W.keepIn K (.ref f0) = true)
    {f1 : Addr} {oc1 kV1 dc1 pm1 cd1 ct1 : Value} {od1 an1 : Option Addr} {sl1 : Array (Option Value)}
    (a1 : PySem.W.nsIn K mainGlobals "_law_take" = some (some (.ref f1))) (l1 : K.lookup f1 = some ⟨oc1, od1, .func (PySem.W.fnOf "_law_take" "_law_take" (defArgs s_law_take) (defBody s_law_take) (defScope s_law_take) .none kV1 dc1 pm1 an1 cd1 ct1), sl1⟩) (c1 : PySem.W.codeIn K cd1 "_law_take" = true) (k1 : PySem.W.keepIn K (.ref f1) = true)
    {f2 : Addr} {oc2 kV2 dc2 pm2 cd2 ct2 : Value} {od2 an2 : Option Addr} {sl2 : Array (Option Value)}
    (a2 : PySem.W.nsIn K mainGlobals "_law_pick" = some (some (.ref f2))) (l2 : K.lookup f2 = some ⟨oc2, od2, .func (PySem.W.fnOf "_law_pick" "_law_pick" (defArgs s_law_pick) (defBody s_law_pick) (defScope s_law_pick) .none kV2 dc2 pm2 an2 cd2 ct2), sl2⟩) (c2 : PySem.W.codeIn K cd2 "_law_pick" = true) (k2 : PySem.W.keepIn K (.ref f2) = true)
    {f3 : Addr} {oc3 kV3 dc3 pm3 cd3 ct3 : Value} {od3 an3 : Option Addr} {sl3 : Array (Option Value)}
    (a3 : PySem.W.nsIn K mainGlobals "_law_laid" = some (some (.ref f3))) (l3 : K.lookup f3 = some ⟨oc3, od3, .func (PySem.W.fnOf "_law_laid" "_law_laid" (defArgs s_law_laid) (defBody s_law_laid) (defScope s_law_laid) .none kV3 dc3 pm3 an3 cd3 ct3), sl3⟩) (c3 : PySem.W.codeIn K cd3 "_law_laid" = true) (k3 : PySem.W.keepIn K (.ref f3) = true)
    {f4 : Addr} {oc4 kV4 dc4 pm4 cd4 ct4 : Value} {od4 an4 : Option Addr} {sl4 : Array (Option Value)}
    (a4 : PySem.W.nsIn K mainGlobals "is_integer" = some (some (.ref f4))) (l4 : K.lookup f4 = some ⟨oc4, od4, .func (PySem.W.fnOf "is_integer" "is_integer" (defArgs s_is_integer) (defBody s_is_integer) (defScope s_is_integer) .none kV4 dc4 pm4 an4 cd4 ct4), sl4⟩) (c4 : PySem.W.codeIn K cd4 "is_integer" = true) (k4 : PySem.W.keepIn K (.ref f4) = true)
    {f5 : Addr} {oc5 kV5 dc5 pm5 cd5 ct5 : Value} {od5 an5 : Option Addr} {sl5 : Array (Option Value)}
    (a5 : PySem.W.nsIn K mainGlobals "is_number" = some (some (.ref f5))) (l5 : K.lookup f5 = some ⟨oc5, od5, .func (PySem.W.fnOf "is_number" "is_number" (defArgs s_is_number) (defBody s_is_number) (defScope s_is_number) .none kV5 dc5 pm5 an5 cd5 ct5), sl5⟩) (c5 : PySem.W.codeIn K cd5 "is_number" = true) (k5 : PySem.W.keepIn K (.ref f5) = true)
    {f6 : Addr} {oc6 kV6 dc6 pm6 cd6 ct6 : Value} {od6 an6 : Option Addr} {sl6 : Array (Option Value)}
    (a6 : PySem.W.nsIn K mainGlobals "is_below" = some (some (.ref f6))) (l6 : K.lookup f6 = some ⟨oc6, od6, .func (PySem.W.fnOf "is_below" "is_below" (defArgs s_is_below) (defBody s_is_below) (defScope s_is_below) .none kV6 dc6 pm6 an6 cd6 ct6), sl6⟩) (c6 : PySem.W.codeIn K cd6 "is_below" = true) (k6 : PySem.W.keepIn K (.ref f6) = true)
    {f7 : Addr} {oc7 kV7 dc7 pm7 cd7 ct7 : Value} {od7 an7 : Option Addr} {sl7 : Array (Option Value)}
    (a7 : PySem.W.nsIn K mainGlobals "need_slots" = some (some (.ref f7))) (l7 : K.lookup f7 = some ⟨oc7, od7, .func (PySem.W.fnOf "need_slots" "need_slots" (defArgs s_need_slots) (defBody s_need_slots) (defScope s_need_slots) .none kV7 dc7 pm7 an7 cd7 ct7), sl7⟩) (c7 : PySem.W.codeIn K cd7 "need_slots" = true) (k7 : PySem.W.keepIn K (.ref f7) = true)
    {f8 : Addr} {oc8 kV8 dc8 pm8 cd8 ct8 : Value} {od8 an8 : Option Addr} {sl8 : Array (Option Value)}
    (a8 : PySem.W.nsIn K mainGlobals "need_count" = some (some (.ref f8))) (l8 : K.lookup f8 = some ⟨oc8, od8, .func (PySem.W.fnOf "need_count" "need_count" (defArgs s_need_count) (defBody s_need_count) (defScope s_need_count) .none kV8 dc8 pm8 an8 cd8 ct8), sl8⟩) (c8 : PySem.W.codeIn K cd8 "need_count" = true) (k8 : PySem.W.keepIn K (.ref f8) = true)
    {f9 : Addr} {oc9 kV9 dc9 pm9 cd9 ct9 : Value} {od9 an9 : Option Addr} {sl9 : Array (Option Value)}
    (a9 : PySem.W.nsIn K mainGlobals "last_in" = some (some (.ref f9))) (l9 : K.lookup f9 = some ⟨oc9, od9, .func (PySem.W.fnOf "last_in" "last_in" (defArgs s_last_in) (defBody s_last_in) (defScope s_last_in) .none kV9 dc9 pm9 an9 cd9 ct9), sl9⟩) (c9 : PySem.W.codeIn K cd9 "last_in" = true) (k9 : PySem.W.keepIn K (.ref f9) = true)
    {f10 : Addr} {oc10 kV10 dc10 pm10 cd10 ct10 : Value} {od10 an10 : Option Addr} {sl10 : Array (Option Value)}
    (a10 : PySem.W.nsIn K mainGlobals "ring_row" = some (some (.ref f10))) (l10 : K.lookup f10 = some ⟨oc10, od10, .func (PySem.W.fnOf "ring_row" "ring_row" (defArgs s_ring_row) (defBody s_ring_row) (defScope s_ring_row) .none kV10 dc10 pm10 an10 cd10 ct10), sl10⟩) (c10 : PySem.W.codeIn K cd10 "ring_row" = true) (k10 : PySem.W.keepIn K (.ref f10) = true)
    {f11 : Addr} {oc11 kV11 dc11 pm11 cd11 ct11 : Value} {od11 an11 : Option Addr} {sl11 : Array (Option Value)}
    (a11 : PySem.W.nsIn K mainGlobals "torn_row" = some (some (.ref f11))) (l11 : K.lookup f11 = some ⟨oc11, od11, .func (PySem.W.fnOf "torn_row" "torn_row" (defArgs s_torn_row) (defBody s_torn_row) (defScope s_torn_row) .none kV11 dc11 pm11 an11 cd11 ct11), sl11⟩) (c11 : PySem.W.codeIn K cd11 "torn_row" = true) (k11 : PySem.W.keepIn K (.ref f11) = true)
    {f12 : Addr} {oc12 kV12 dc12 pm12 cd12 ct12 : Value} {od12 an12 : Option Addr} {sl12 : Array (Option Value)}
    (a12 : PySem.W.nsIn K mainGlobals "is_sequence" = some (some (.ref f12))) (l12 : K.lookup f12 = some ⟨oc12, od12, .func (PySem.W.fnOf "is_sequence" "is_sequence" (defArgs s_is_sequence) (defBody s_is_sequence) (defScope s_is_sequence) .none kV12 dc12 pm12 an12 cd12 ct12), sl12⟩) (c12 : PySem.W.codeIn K cd12 "is_sequence" = true) (k12 : PySem.W.keepIn K (.ref f12) = true)
    {f13 : Addr} {oc13 kV13 dc13 pm13 cd13 ct13 : Value} {od13 an13 : Option Addr} {sl13 : Array (Option Value)}
    (a13 : PySem.W.nsIn K mainGlobals "is_row_form" = some (some (.ref f13))) (l13 : K.lookup f13 = some ⟨oc13, od13, .func (PySem.W.fnOf "is_row_form" "is_row_form" (defArgs s_is_row_form) (defBody s_is_row_form) (defScope s_is_row_form) .none kV13 dc13 pm13 an13 cd13 ct13), sl13⟩) (c13 : PySem.W.codeIn K cd13 "is_row_form" = true) (k13 : PySem.W.keepIn K (.ref f13) = true)
    {f14 : Addr} {oc14 kV14 dc14 pm14 cd14 ct14 : Value} {od14 an14 : Option Addr} {sl14 : Array (Option Value)}
    (a14 : PySem.W.nsIn K mainGlobals "count_of" = some (some (.ref f14))) (l14 : K.lookup f14 = some ⟨oc14, od14, .func (PySem.W.fnOf "count_of" "count_of" (defArgs s_count_of) (defBody s_count_of) (defScope s_count_of) .none kV14 dc14 pm14 an14 cd14 ct14), sl14⟩) (c14 : PySem.W.codeIn K cd14 "count_of" = true) (k14 : PySem.W.keepIn K (.ref f14) = true)
    {f15 : Addr} {oc15 kV15 dc15 pm15 cd15 ct15 : Value} {od15 an15 : Option Addr} {sl15 : Array (Option Value)}
    (a15 : PySem.W.nsIn K mainGlobals "is_ring_row" = some (some (.ref f15))) (l15 : K.lookup f15 = some ⟨oc15, od15, .func (PySem.W.fnOf "is_ring_row" "is_ring_row" (defArgs s_is_ring_row) (defBody s_is_ring_row) (defScope s_is_ring_row) .none kV15 dc15 pm15 an15 cd15 ct15), sl15⟩) (c15 : PySem.W.codeIn K cd15 "is_ring_row" = true) (k15 : PySem.W.keepIn K (.ref f15) = true)
    {f16 : Addr} {oc16 kV16 dc16 pm16 cd16 ct16 : Value} {od16 an16 : Option Addr} {sl16 : Array (Option Value)}
    (a16 : PySem.W.nsIn K mainGlobals "newest" = some (some (.ref f16))) (l16 : K.lookup f16 = some ⟨oc16, od16, .func (PySem.W.fnOf "newest" "newest" (defArgs s_newest) (defBody s_newest) (defScope s_newest) .none kV16 dc16 pm16 an16 cd16 ct16), sl16⟩) (c16 : PySem.W.codeIn K cd16 "newest" = true) (k16 : PySem.W.keepIn K (.ref f16) = true)
    {f17 : Addr} {oc17 kV17 dc17 pm17 cd17 ct17 : Value} {od17 an17 : Option Addr} {sl17 : Array (Option Value)}
    (a17 : PySem.W.nsIn K mainGlobals "_law_looks" = some (some (.ref f17))) (l17 : K.lookup f17 = some ⟨oc17, od17, .func (PySem.W.fnOf "_law_looks" "_law_looks" (defArgs s_law_looks) (defBody s_law_looks) (defScope s_law_looks) .none kV17 dc17 pm17 an17 cd17 ct17), sl17⟩) (c17 : PySem.W.codeIn K cd17 "_law_looks" = true) (k17 : PySem.W.keepIn K (.ref f17) = true)
    {f18 : Addr} {oc18 kV18 dc18 pm18 cd18 ct18 : Value} {od18 an18 : Option Addr} {sl18 : Array (Option Value)}
    (a18 : PySem.W.nsIn K mainGlobals "_law_doublings" = some (some (.ref f18))) (l18 : K.lookup f18 = some ⟨oc18, od18, .func (PySem.W.fnOf "_law_doublings" "_law_doublings" (defArgs s_law_doublings) (defBody s_law_doublings) (defScope s_law_doublings) .none kV18 dc18 pm18 an18 cd18 ct18), sl18⟩) (c18 : PySem.W.codeIn K cd18 "_law_doublings" = true) (k18 : PySem.W.keepIn K (.ref f18) = true)
    {f19 : Addr} {oc19 kV19 dc19 pm19 cd19 ct19 : Value} {od19 an19 : Option Addr} {sl19 : Array (Option Value)}
    (a19 : PySem.W.nsIn K mainGlobals "goes_on" = some (some (.ref f19))) (l19 : K.lookup f19 = some ⟨oc19, od19, .func (PySem.W.fnOf "goes_on" "goes_on" (defArgs s_goes_on) (defBody s_goes_on) (defScope s_goes_on) .none kV19 dc19 pm19 an19 cd19 ct19), sl19⟩) (c19 : PySem.W.codeIn K cd19 "goes_on" = true) (k19 : PySem.W.keepIn K (.ref f19) = true)
    {f20 : Addr} {oc20 kV20 dc20 pm20 cd20 ct20 : Value} {od20 an20 : Option Addr} {sl20 : Array (Option Value)}
    (a20 : PySem.W.nsIn K mainGlobals "slot_of" = some (some (.ref f20))) (l20 : K.lookup f20 = some ⟨oc20, od20, .func (PySem.W.fnOf "slot_of" "slot_of" (defArgs s_slot_of) (defBody s_slot_of) (defScope s_slot_of) .none kV20 dc20 pm20 an20 cd20 ct20), sl20⟩) (c20 : PySem.W.codeIn K cd20 "slot_of" = true) (k20 : PySem.W.keepIn K (.ref f20) = true)
    {f21 : Addr} {oc21 kV21 dc21 pm21 cd21 ct21 : Value} {od21 an21 : Option Addr} {sl21 : Array (Option Value)}
    (a21 : PySem.W.nsIn K mainGlobals "most_looks" = some (some (.ref f21))) (l21 : K.lookup f21 = some ⟨oc21, od21, .func (PySem.W.fnOf "most_looks" "most_looks" (defArgs s_most_looks) (defBody s_most_looks) (defScope s_most_looks) .none kV21 dc21 pm21 an21 cd21 ct21), sl21⟩) (c21 : PySem.W.codeIn K cd21 "most_looks" = true) (k21 : PySem.W.keepIn K (.ref f21) = true)
    {f22 : Addr} {oc22 kV22 dc22 pm22 cd22 ct22 : Value} {od22 an22 : Option Addr} {sl22 : Array (Option Value)}
    (a22 : PySem.W.nsIn K mainGlobals "_law_right" = some (some (.ref f22))) (l22 : K.lookup f22 = some ⟨oc22, od22, .func (PySem.W.fnOf "_law_right" "_law_right" (defArgs s_law_right) (defBody s_law_right) (defScope s_law_right) .none kV22 dc22 pm22 an22 cd22 ct22), sl22⟩) (c22 : PySem.W.codeIn K cd22 "_law_right" = true) (k22 : PySem.W.keepIn K (.ref f22) = true)
    {f23 : Addr} {oc23 kV23 dc23 pm23 cd23 ct23 : Value} {od23 an23 : Option Addr} {sl23 : Array (Option Value)}
    (a23 : PySem.W.nsIn K mainGlobals "law" = some (some (.ref f23))) (l23 : K.lookup f23 = some ⟨oc23, od23, .func (PySem.W.fnOf "law" "law" (defArgs s_law) (defBody s_law) (defScope s_law) .none kV23 dc23 pm23 an23 cd23 ct23), sl23⟩) (c23 : PySem.W.codeIn K cd23 "law" = true) (k23 : PySem.W.keepIn K (.ref f23) = true)
    (z_abs : PySem.W.nsIn K mainGlobals "abs" = some none)
    (z_all : PySem.W.nsIn K mainGlobals "all" = some none)
    (z_bool : PySem.W.nsIn K mainGlobals "bool" = some none)
    (z_int : PySem.W.nsIn K mainGlobals "int" = some none)
    (z_isinstance : PySem.W.nsIn K mainGlobals "isinstance" = some none)
    (z_len : PySem.W.nsIn K mainGlobals "len" = some none)
    (z_list : PySem.W.nsIn K mainGlobals "list" = some none)
    (z_max : PySem.W.nsIn K mainGlobals "max" = some none)
    (z_min : PySem.W.nsIn K mainGlobals "min" = some none)
    (z_range : PySem.W.nsIn K mainGlobals "range" = some none)
    (z_repr : PySem.W.nsIn K mainGlobals "repr" = some none)
    (z_str : PySem.W.nsIn K mainGlobals "str" = some none)
    (z_tuple : PySem.W.nsIn K mainGlobals "tuple" = some none)
    {t_MOST_SLOTS : Tok} (y_MOST_SLOTS : PySem.W.nsIn K mainGlobals "MOST_SLOTS" = some (some (.int (64) t_MOST_SLOTS)))
    {t_TORN : Tok} (y_TORN : PySem.W.nsIn K mainGlobals "TORN" = some (some (.str "torn" t_TORN)))
    : ∃ fd : FuncData, (∀ (s : Shared) (v : Value), BindsTo s fd ⟨[v], []⟩ [("_law_script", v)]) ∧ ∀ base : Heap, K.In base → base.Ns mainGlobals mg → FnG l.prog w K mg base 9 fa fd ["_law_script"] (spD K mg 1 d_law) := by
  have e := hfa.symm.trans (PySem.W.mg_of X G a23)
  cases e
  have D0 := defAt_mk (ps := P_law_box) X G a0 l0 c0 k0 fun _ _ _ _ _ _ us hl => match us, hl with | [_, _], _ => rfl
  have D1 := defAt_mk (ps := P_law_take) X G a1 l1 c1 k1 fun _ _ _ _ _ _ us hl => match us, hl with | [_, _], _ => rfl
  have D2 := defAt_mk (ps := P_law_pick) X G a2 l2 c2 k2 fun _ _ _ _ _ _ us hl => match us, hl with | [_, _], _ => rfl
  have D3 := defAt_mk (ps := P_law_laid) X G a3 l3 c3 k3 fun _ _ _ _ _ _ us hl => match us, hl with | [_, _], _ => rfl
  have D4 := defAt_mk (ps := P_is_integer) X G a4 l4 c4 k4 fun _ _ _ _ _ _ us hl => match us, hl with | [_], _ => rfl
  have D5 := defAt_mk (ps := P_is_number) X G a5 l5 c5 k5 fun _ _ _ _ _ _ us hl => match us, hl with | [_], _ => rfl
  have D6 := defAt_mk (ps := P_is_below) X G a6 l6 c6 k6 fun _ _ _ _ _ _ us hl => match us, hl with | [_, _], _ => rfl
  have D7 := defAt_mk (ps := P_need_slots) X G a7 l7 c7 k7 fun _ _ _ _ _ _ us hl => match us, hl with | [_], _ => rfl
  have D8 := defAt_mk (ps := P_need_count) X G a8 l8 c8 k8 fun _ _ _ _ _ _ us hl => match us, hl with | [_], _ => rfl
  have D9 := defAt_mk (ps := P_last_in) X G a9 l9 c9 k9 fun _ _ _ _ _ _ us hl => match us, hl with | [_, _, _], _ => rfl
  have D10 := defAt_mk (ps := P_ring_row) X G a10 l10 c10 k10 fun _ _ _ _ _ _ us hl => match us, hl with | [_, _], _ => rfl
  have D11 := defAt_mk (ps := P_torn_row) X G a11 l11 c11 k11 fun _ _ _ _ _ _ us hl => match us, hl with | [_, _], _ => rfl
  have D12 := defAt_mk (ps := P_is_sequence) X G a12 l12 c12 k12 fun _ _ _ _ _ _ us hl => match us, hl with | [_], _ => rfl
  have D13 := defAt_mk (ps := P_is_row_form) X G a13 l13 c13 k13 fun _ _ _ _ _ _ us hl => match us, hl with | [_], _ => rfl
  have D14 := defAt_mk (ps := P_count_of) X G a14 l14 c14 k14 fun _ _ _ _ _ _ us hl => match us, hl with | [_], _ => rfl
  have D15 := defAt_mk (ps := P_is_ring_row) X G a15 l15 c15 k15 fun _ _ _ _ _ _ us hl => match us, hl with | [_], _ => rfl
  have D16 := defAt_mk (ps := P_newest) X G a16 l16 c16 k16 fun _ _ _ _ _ _ us hl => match us, hl with | [_], _ => rfl
  have D17 := defAt_mk (ps := P_law_looks) X G a17 l17 c17 k17 fun _ _ _ _ _ _ us hl => match us, hl with | [_], _ => rfl
  have D18 := defAt_mk (ps := P_law_doublings) X G a18 l18 c18 k18 fun _ _ _ _ _ _ us hl => match us, hl with | [_], _ => rfl
  have D19 := defAt_mk (ps := P_goes_on) X G a19 l19 c19 k19 fun _ _ _ _ _ _ us hl => match us, hl with | [_], _ => rfl
  have D20 := defAt_mk (ps := P_slot_of) X G a20 l20 c20 k20 fun _ _ _ _ _ _ us hl => match us, hl with | [_, _], _ => rfl
  have D21 := defAt_mk (ps := P_most_looks) X G a21 l21 c21 k21 fun _ _ _ _ _ _ us hl => match us, hl with | [_], _ => rfl
  have D22 := defAt_mk (ps := P_law_right) X G a22 l22 c22 k22 fun _ _ _ _ _ _ us hl => match us, hl with | [_, _, _, _], _ => rfl
  have D23 := defAt_mk (ps := P_law) X G a23 l23 c23 k23 fun _ _ _ _ _ _ us hl => match us, hl with | [_], _ => rfl
  have T : Txt K mg (fun i => [f0, f1, f2, f3, f4, f5, f6, f7, f8, f9, f10, f11, f12, f13, f14, f15, f16, f17, f18, f19, f20, f21, f22, fa].getD i 0) (fun i => [PySem.W.fnOf "_law_box" "_law_box" (defArgs s_law_box) (defBody s_law_box) (defScope s_law_box) .none kV0 dc0 pm0 an0 cd0 ct0, PySem.W.fnOf "_law_take" "_law_take" (defArgs s_law_take) (defBody s_law_take) (defScope s_law_take) .none kV1 dc1 pm1 an1 cd1 ct1, PySem.W.fnOf "_law_pick" "_law_pick" (defArgs s_law_pick) (defBody s_law_pick) (defScope s_law_pick) .none kV2 dc2 pm2 an2 cd2 ct2, PySem.W.fnOf "_law_laid" "_law_laid" (defArgs s_law_laid) (defBody s_law_laid) (defScope s_law_laid) .none kV3 dc3 pm3 an3 cd3 ct3, PySem.W.fnOf "is_integer" "is_integer" (defArgs s_is_integer) (defBody s_is_integer) (defScope s_is_integer) .none kV4 dc4 pm4 an4 cd4 ct4, PySem.W.fnOf "is_number" "is_number" (defArgs s_is_number) (defBody s_is_number) (defScope s_is_number) .none kV5 dc5 pm5 an5 cd5 ct5, PySem.W.fnOf "is_below" "is_below" (defArgs s_is_below) (defBody s_is_below) (defScope s_is_below) .none kV6 dc6 pm6 an6 cd6 ct6, PySem.W.fnOf "need_slots" "need_slots" (defArgs s_need_slots) (defBody s_need_slots) (defScope s_need_slots) .none kV7 dc7 pm7 an7 cd7 ct7, PySem.W.fnOf "need_count" "need_count" (defArgs s_need_count) (defBody s_need_count) (defScope s_need_count) .none kV8 dc8 pm8 an8 cd8 ct8, PySem.W.fnOf "last_in" "last_in" (defArgs s_last_in) (defBody s_last_in) (defScope s_last_in) .none kV9 dc9 pm9 an9 cd9 ct9, PySem.W.fnOf "ring_row" "ring_row" (defArgs s_ring_row) (defBody s_ring_row) (defScope s_ring_row) .none kV10 dc10 pm10 an10 cd10 ct10, PySem.W.fnOf "torn_row" "torn_row" (defArgs s_torn_row) (defBody s_torn_row) (defScope s_torn_row) .none kV11 dc11 pm11 an11 cd11 ct11, PySem.W.fnOf "is_sequence" "is_sequence" (defArgs s_is_sequence) (defBody s_is_sequence) (defScope s_is_sequence) .none kV12 dc12 pm12 an12 cd12 ct12, PySem.W.fnOf "is_row_form" "is_row_form" (defArgs s_is_row_form) (defBody s_is_row_form) (defScope s_is_row_form) .none kV13 dc13 pm13 an13 cd13 ct13, PySem.W.fnOf "count_of" "count_of" (defArgs s_count_of) (defBody s_count_of) (defScope s_count_of) .none kV14 dc14 pm14 an14 cd14 ct14, PySem.W.fnOf "is_ring_row" "is_ring_row" (defArgs s_is_ring_row) (defBody s_is_ring_row) (defScope s_is_ring_row) .none kV15 dc15 pm15 an15 cd15 ct15, PySem.W.fnOf "newest" "newest" (defArgs s_newest) (defBody s_newest) (defScope s_newest) .none kV16 dc16 pm16 an16 cd16 ct16, PySem.W.fnOf "_law_looks" "_law_looks" (defArgs s_law_looks) (defBody s_law_looks) (defScope s_law_looks) .none kV17 dc17 pm17 an17 cd17 ct17, PySem.W.fnOf "_law_doublings" "_law_doublings" (defArgs s_law_doublings) (defBody s_law_doublings) (defScope s_law_doublings) .none kV18 dc18 pm18 an18 cd18 ct18, PySem.W.fnOf "goes_on" "goes_on" (defArgs s_goes_on) (defBody s_goes_on) (defScope s_goes_on) .none kV19 dc19 pm19 an19 cd19 ct19, PySem.W.fnOf "slot_of" "slot_of" (defArgs s_slot_of) (defBody s_slot_of) (defScope s_slot_of) .none kV20 dc20 pm20 an20 cd20 ct20, PySem.W.fnOf "most_looks" "most_looks" (defArgs s_most_looks) (defBody s_most_looks) (defScope s_most_looks) .none kV21 dc21 pm21 an21 cd21 ct21, PySem.W.fnOf "_law_right" "_law_right" (defArgs s_law_right) (defBody s_law_right) (defScope s_law_right) .none kV22 dc22 pm22 an22 cd22 ct22, PySem.W.fnOf "law" "law" (defArgs s_law) (defBody s_law) (defScope s_law) .none kV23 dc23 pm23 an23 cd23 ct23].getD i (PySem.W.fnOf "law" "law" (defArgs s_law) (defBody s_law) (defScope s_law) .none kV23 dc23 pm23 an23 cd23 ct23)) :=
    { d_law_box := D0
      d_law_take := D1
      d_law_pick := D2
      d_law_laid := D3
      d_is_integer := D4
      d_is_number := D5
      d_is_below := D6
      d_need_slots := D7
      d_need_count := D8
      d_last_in := D9
      d_ring_row := D10
      d_torn_row := D11
      d_is_sequence := D12
      d_is_row_form := D13
      d_count_of := D14
      d_is_ring_row := D15
      d_newest := D16
      d_law_looks := D17
      d_law_doublings := D18
      d_goes_on := D19
      d_slot_of := D20
      d_most_looks := D21
      d_law_right := D22
      d_law := D23
      n_abs := PySem.W.mg_none_of X G z_abs
      n_all := PySem.W.mg_none_of X G z_all
      n_bool := PySem.W.mg_none_of X G z_bool
      n_int := PySem.W.mg_none_of X G z_int
      n_isinstance := PySem.W.mg_none_of X G z_isinstance
      n_len := PySem.W.mg_none_of X G z_len
      n_list := PySem.W.mg_none_of X G z_list
      n_max := PySem.W.mg_none_of X G z_max
      n_min := PySem.W.mg_none_of X G z_min
      n_range := PySem.W.mg_none_of X G z_range
      n_repr := PySem.W.mg_none_of X G z_repr
      n_str := PySem.W.mg_none_of X G z_str
      n_tuple := PySem.W.mg_none_of X G z_tuple
      c_MOST_SLOTS := ⟨_, PySem.W.mg_of X G y_MOST_SLOTS⟩
      c_TORN := ⟨_, PySem.W.mg_of X G y_TORN⟩
      kw_ring_row_0_count_many := kOk_mk D10 fun _ _ _ _ _ _ us ws h1 h2 => match us, ws, h1, h2 with | [], [_, _], _, _ => rfl }
  exact ⟨_, fun s v => .of_eq rfl, fun base _ _ => ok_law (fA := fun i => [f0, f1, f2, f3, f4, f5, f6, f7, f8, f9, f10, f11, f12, f13, f14, f15, f16, f17, f18, f19, f20, f21, f22, fa].getD i 0) T⟩
end K26

open PySem PySem.W PyProof.Rows in
theorem PySem.Challenge.cw_wrecktold_k26_whole_the_newest_is_found_holds : PySem.Challenge.rw_wrecktold_k26_whole_the_newest_is_found.Holds := by
  w_on; o_law; k_head; (case hw => w_witness2)
  k_fill
  refine BV.walkG (l := PySem.Challenge.rw_wrecktold_k26_whole_the_newest_is_found) (k := 9) (x := "_law_script") rfl rfl ⟨rfl, by decide, by decide⟩ (fun w h Y => PySem.W.kIn_of Y) ?F K26.law_good
  case F =>
    intro w mg fa h KX G hmg
    refine' K26.all_mk KX G hmg ?a0 ?l0 ?c0 ?k0 ?a1 ?l1 ?c1 ?k1 ?a2 ?l2 ?c2 ?k2 ?a3 ?l3 ?c3 ?k3 ?a4 ?l4 ?c4 ?k4 ?a5 ?l5 ?c5 ?k5 ?a6 ?l6 ?c6 ?k6 ?a7 ?l7 ?c7 ?k7 ?a8 ?l8 ?c8 ?k8 ?a9 ?l9 ?c9 ?k9 ?a10 ?l10 ?c10 ?k10 ?a11 ?l11 ?c11 ?k11 ?a12 ?l12 ?c12 ?k12 ?a13 ?l13 ?c13 ?k13 ?a14 ?l14 ?c14 ?k14 ?a15 ?l15 ?c15 ?k15 ?a16 ?l16 ?c16 ?k16 ?a17 ?l17 ?c17 ?k17 ?a18 ?l18 ?c18 ?k18 ?a19 ?l19 ?c19 ?k19 ?a20 ?l20 ?c20 ?k20 ?a21 ?l21 ?c21 ?k21 ?a22 ?l22 ?c22 ?k22 ?a23 ?l23 ?c23 ?k23 ?z_abs ?z_all ?z_bool ?z_int ?z_isinstance ?z_len ?z_list ?z_max ?z_min ?z_range ?z_repr ?z_str ?z_tuple ?y_MOST_SLOTS ?y_TORN
    (case a0 => k_is)
    (case l0 => k_is)
    (case c0 => k_is)
    (case k0 => k_is)
    (case a1 => k_is)
    (case l1 => k_is)
    (case c1 => k_is)
    (case k1 => k_is)
    (case a2 => k_is)
    (case l2 => k_is)
    (case c2 => k_is)
    (case k2 => k_is)
    (case a3 => k_is)
    (case l3 => k_is)
    (case c3 => k_is)
    (case k3 => k_is)
    (case a4 => k_is)
    (case l4 => k_is)
    (case c4 => k_is)
    (case k4 => k_is)
    (case a5 => k_is)
    (case l5 => k_is)
    (case c5 => k_is)
    (case k5 => k_is)
    (case a6 => k_is)
    (case l6 => k_is)
    (case c6 => k_is)
    (case k6 => k_is)
    (case a7 => k_is)
    (case l7 => k_is)
    (case c7 => k_is)
    (case k7 => k_is)
    (case a8 => k_is)
    (case l8 => k_is)
    (case c8 => k_is)
    (case k8 => k_is)
    (case a9 => k_is)
    (case l9 => k_is)
    (case c9 => k_is)
    (case k9 => k_is)
    (case a10 => k_is)
    (case l10 => k_is)
    (case c10 => k_is)
    (case k10 => k_is)
    (case a11 => k_is)
    (case l11 => k_is)
    (case c11 => k_is)
    (case k11 => k_is)
    (case a12 => k_is)
    (case l12 => k_is)
    (case c12 => k_is)
    (case k12 => k_is)
    (case a13 => k_is)
    (case l13 => k_is)
    (case c13 => k_is)
    (case k13 => k_is)
    (case a14 => k_is)
    (case l14 => k_is)
    (case c14 => k_is)
    (case k14 => k_is)
    (case a15 => k_is)
    (case l15 => k_is)
    (case c15 => k_is)
    (case k15 => k_is)
    (case a16 => k_is)
    (case l16 => k_is)
    (case c16 => k_is)
    (case k16 => k_is)
    (case a17 => k_is)
    (case l17 => k_is)
    (case c17 => k_is)
    (case k17 => k_is)
    (case a18 => k_is)
    (case l18 => k_is)
    (case c18 => k_is)
    (case k18 => k_is)
    (case a19 => k_is)
    (case l19 => k_is)
    (case c19 => k_is)
    (case k19 => k_is)
    (case a20 => k_is)
    (case l20 => k_is)
    (case c20 => k_is)
    (case k20 => k_is)
    (case a21 => k_is)
    (case l21 => k_is)
    (case c21 => k_is)
    (case k21 => k_is)
    (case a22 => k_is)
    (case l22 => k_is)
    (case c22 => k_is)
    (case k22 => k_is)
    (case a23 => k_is)
    (case l23 => k_is)
    (case c23 => k_is)
    (case k23 => k_is)
    (case z_abs => k_is)
    (case z_all => k_is)
    (case z_bool => k_is)
    (case z_int => k_is)
    (case z_isinstance => k_is)
    (case z_len => k_is)
    (case z_list => k_is)
    (case z_max => k_is)
    (case z_min => k_is)
    (case z_range => k_is)
    (case z_repr => k_is)
    (case z_str => k_is)
    (case z_tuple => k_is)
    (case y_MOST_SLOTS => k_is)
    (case y_TORN => k_is)
