import PyProof.Rows.All
import Wide.All
import OpenK.AllK
import Wide.FinOn
import HandS.ForMost
import HandS.ForExc
import HandS.CallSlots
import HandS.TupAny
import HandS.TupMul
import HandS.Deep
import HandS.Style
import HandS.Walk
import HandS.Conv
import HandS.IsInst
import HandS.RaiseMore
import HandS.Dict
import HandS.DictComp
import HandS.More
import HandS.SortInts
import HandS.SortOrd
import HandS.SortRule
import HandS.Strs
import PySem.Challenge.RW_wrecktold_k29_whole_what_is_needed_and_w
set_option Elab.async false
set_option linter.all false
set_option maxRecDepth 100000
set_option maxHeartbeats 4000000
/-! BV: a by-value layer over HandS. Data D without addresses (mutable lists as numbered cells), plain functions for
what constructs of Python compute on them, one lemma a construct. -/
namespace BV
open PySem PySem.Spec PyProof.Rows L2

/-- data: tuples and lists by value; cel k: the k-th mutable list; scr: the script -/
inductive D where
  | non | bl (b : Bool) | int (i : Int) | str (x : Str) | tup (xs : List D) | lst (xs : List D) | cel (k : Nat) | scr (ns : List Int) | ftp (xs : List D)
instance : Inhabited D := ⟨.non⟩
inductive Cell where
  | lst (xs : List D) | dic (ks : List (Key × D)) | dead
abbrev Cells := List Cell
abbrev Rho := List (Option D)
inductive Res (α : Type) where
  | ok (a : α) (C : Cells) | ex (c : Str) (p : D) (C : Cells) | stuck
def Res.bind {α β : Type} (r : Res α) (g : α → Cells → Res β) : Res β := match r with
  | .ok a C => g a C
  | .ex c p C => .ex c p C
  | .stuck => .stuck
@[simp] theorem Res.bind_ok {α β : Type} (a : α) (C : Cells) (g : α → Cells → Res β) : (Res.ok a C).bind g = g a C := rfl
@[simp] theorem Res.bind_ex {α β : Type} (c : Str) (p : D) (C : Cells) (g : α → Cells → Res β) : (Res.ex c p C : Res α).bind g = .ex c p C := rfl
@[simp] theorem Res.bind_stuck {α β : Type} (g : α → Cells → Res β) : (Res.stuck : Res α).bind g = .stuck := rfl

/-! ### how data lie in the abstract heap: μ the cells' addresses, F the frozen part -/
mutual
inductive Rep (K : PySem.W.Frag) (μ : List Addr) (F : Hp) : V → D → Prop
  | non : Rep K μ F .non .non
  | bl (b : Bool) : Rep K μ F (.bl b) (.bl b)
  | int (i : Int) : Rep K μ F (.int i) (.int i)
  | str (x : Str) : Rep K μ F (.str x) (.str x)
  | tup {a : Addr} {vs : List V} {ds : List D} : SqT K F a vs → Reps K μ F vs ds → Rep K μ F (.ref a) (.tup ds)
  | lst {a : Addr} {vs : List V} {ds : List D} : F a = some (.lst vs) → Reps K μ F vs ds → Rep K μ F (.ref a) (.lst ds)
  | cel {a : Addr} {k : Nat} : μ[k]? = some a → Rep K μ F (.ref a) (.cel k)
  | scr {a : Addr} {ns : List Int} : SqL K F a (ns.map V.int) → Rep K μ F (.ref a) (.scr ns)
  | ftp {a : Addr} {o : Obj} {vs : List V} {ds : List D} : F a = some (.frz o (.tup vs)) → o.dict = none → o.cls = .type "tuple" → Reps K μ F vs ds → Rep K μ F (.ref a) (.ftp ds)
inductive Reps (K : PySem.W.Frag) (μ : List Addr) (F : Hp) : List V → List D → Prop
  | nil : Reps K μ F [] []
  | cons {v : V} {vs : List V} {d : D} {ds : List D} : Rep K μ F v d → Reps K μ F vs ds → Reps K μ F (v :: vs) (d :: ds)
end
section
variable {K : PySem.W.Frag} {μ μ' : List Addr} {F F' : Hp}
theorem sameT {H H' : Hp} {a : Addr} {xs : List V} (e : Same H H') (h : SqT K H a xs) : SqT K H' a xs := by
  rcases h with (q | ⟨o, q⟩) | q
  · exact .inl (.inl (e _ _ q))
  · exact .inl (.inr ⟨o, e _ _ q⟩)
  · exact .inr q
theorem pre_get {τ : List Addr} {k : Nat} {a : Addr} (e : μ' = μ ++ τ) (h : μ[k]? = some a) : μ'[k]? = some a := by
  rw [e, List.getElem?_append_left (List.getElem?_eq_some_iff.mp h).1]
  exact h
mutual
theorem Rep.mono (hp : ∃ τ, μ' = μ ++ τ) (hf : Same F F') : ∀ (d : D) (v : V), Rep K μ F v d → Rep K μ' F' v d
  | .non, _, h => by cases h; exact .non
  | .bl b, _, h => by cases h; exact .bl b
  | .int i, _, h => by cases h; exact .int i
  | .str x, _, h => by cases h; exact .str x
  | .tup ds, _, h => by
    cases h with
    | tup a b => exact .tup (sameT hf a) (Reps.mono hp hf ds _ b)
  | .ftp ds, _, h => by
    cases h with
    | ftp a b c d => exact .ftp (hf _ _ a) b c (Reps.mono hp hf ds _ d)
  | .lst ds, _, h => by
    cases h with
    | lst a b => exact .lst (hf _ _ a) (Reps.mono hp hf ds _ b)
  | .cel k, _, h => by
    cases h with
    | cel a =>
      obtain ⟨τ, e⟩ := hp
      exact .cel (pre_get e a)
  | .scr ns, _, h => by
    cases h with
    | scr a => exact .scr (hf.seq a)
theorem Reps.mono (hp : ∃ τ, μ' = μ ++ τ) (hf : Same F F') : ∀ (ds : List D) (vs : List V), Reps K μ F vs ds → Reps K μ' F' vs ds
  | [], _, h => by cases h; exact .nil
  | d :: ds, _, h => by
    cases h with
    | cons a b => exact .cons (Rep.mono hp hf d _ a) (Reps.mono hp hf ds _ b)
end
theorem Reps.length : ∀ {vs : List V} {ds : List D}, Reps K μ F vs ds → vs.length = ds.length
  | _, _, .nil => rfl
  | _, _, .cons _ t => congrArg (· + 1) (Reps.length t)
theorem Reps.get : ∀ {vs : List V} {ds : List D} {i : Nat} {d : D}, Reps K μ F vs ds → ds[i]? = some d → ∃ v, vs[i]? = some v ∧ Rep K μ F v d
  | _, _, i, d, .nil, e => by simp at e
  | _, _, 0, d, .cons r t, e => by
    simp at e
    subst e
    exact ⟨_, rfl, r⟩
  | _, _, i + 1, d, .cons r t, e => by
    obtain ⟨v, h1, h2⟩ := Reps.get (i := i) t (by simpa using e)
    exact ⟨v, by simpa using h1, h2⟩
theorem Reps.getV : ∀ {vs : List V} {ds : List D} {i : Nat} {v : V}, Reps K μ F vs ds → vs[i]? = some v → ∃ d, ds[i]? = some d ∧ Rep K μ F v d
  | _, _, i, d, .nil, e => by simp at e
  | _, _, 0, d, .cons r t, e => by
    simp at e
    subst e
    exact ⟨_, rfl, r⟩
  | _, _, i + 1, d, .cons r t, e => by
    obtain ⟨v, h1, h2⟩ := Reps.getV (i := i) t (by simpa using e)
    exact ⟨v, by simpa using h1, h2⟩
theorem Reps.append : ∀ {vs ws : List V} {ds es : List D}, Reps K μ F vs ds → Reps K μ F ws es → Reps K μ F (vs ++ ws) (ds ++ es)
  | _, _, _, _, .nil, s => s
  | _, _, _, _, .cons r t, s => .cons r (Reps.append t s)
theorem Reps.set {v : V} {d : D} (r : Rep K μ F v d) : ∀ {vs : List V} {ds : List D} (i : Nat), Reps K μ F vs ds → Reps K μ F (vs.set i v) (ds.set i d)
  | _, _, _, .nil => .nil
  | _, _, 0, .cons _ t => .cons r t
  | _, _, i + 1, .cons q t => .cons q (Reps.set r i t)
theorem Reps.take : ∀ {vs : List V} {ds : List D} (n : Nat), Reps K μ F vs ds → Reps K μ F (vs.take n) (ds.take n)
  | _, _, 0, _ => .nil
  | _, _, _ + 1, .nil => .nil
  | _, _, n + 1, .cons r t => .cons r (Reps.take n t)
theorem Reps.drop : ∀ {vs : List V} {ds : List D} (n : Nat), Reps K μ F vs ds → Reps K μ F (vs.drop n) (ds.drop n)
  | _, _, 0, r => r
  | _, _, _ + 1, .nil => .nil
  | _, _, n + 1, .cons _ t => Reps.drop n t
theorem Reps.rep {vs : List V} {ds : List D} (r : Reps K μ F vs ds) : ∀ n : Nat, Reps K μ F (List.replicate n vs).flatten (List.replicate n ds).flatten
  | 0 => .nil
  | n + 1 => by
    simp only [List.replicate_succ, List.flatten_cons]
    exact r.append (Reps.rep r n)
theorem Reps.ints : ∀ (ns : List Int), Reps K μ F (ns.map V.int) (ns.map D.int)
  | [] => .nil
  | n :: ns => .cons (.int n) (Reps.ints ns)
theorem Reps.of_ints : ∀ {vs : List V} {ns : List Int}, Reps K μ F vs (ns.map D.int) → vs = ns.map V.int
  | _, [], h => by cases h; rfl
  | _, n :: ns, h => by
    cases h with
    | cons a b =>
      cases a
      rw [Reps.of_ints b]
      rfl
theorem Reps.of_bls : ∀ {vs : List V} {bs : List Bool}, Reps K μ F vs (bs.map D.bl) → vs = bs.map V.bl
  | _, [], h => by cases h; rfl
  | _, n :: ns, h => by
    cases h with
    | cons a b =>
      cases a
      rw [Reps.of_bls b]
      rfl
end

/-- the entries of a dict -/
def KReps (K : PySem.W.Frag) (μ : List Addr) (F : Hp) (ws : List (Key × V)) (ks : List (Key × D)) : Prop := ws.map (·.1) = ks.map (·.1) ∧ Reps K μ F (ws.map (·.2)) (ks.map (·.2))
theorem KReps.mono {K : PySem.W.Frag} {μ μ' : List Addr} {F F' : Hp} (h1 : ∃ τ, μ' = μ ++ τ) (h2 : Same F F') (ks : List (Key × D)) (ws : List (Key × V)) (r : KReps K μ F ws ks) : KReps K μ' F' ws ks := ⟨r.1, Reps.mono h1 h2 _ _ r.2⟩
/-! ### the relation of states -/
def CellRep (K : PySem.W.Frag) (μ : List Addr) (F H : Hp) (a : Addr) : Cell → Prop
  | .lst ds => F a = none ∧ ∃ vs, H a = some (.lst vs) ∧ Reps K μ F vs ds
  | .dic ks => F a = none ∧ ∃ ws, H a = some (.dK ws) ∧ KReps K μ F ws ks
  | .dead => True
structure Sim (K : PySem.W.Frag) (μ : List Addr) (F : Hp) (C : Cells) (H : Hp) : Prop where
  sub : Same F H
  len : μ.length = C.length
  nd : μ.Nodup
  trk : ∀ a, a ∈ μ → H a ≠ none
  cel : ∀ (k : Nat) (c : Cell) (a : Addr), C[k]? = some c → μ[k]? = some a → CellRep K μ F H a c
structure Ext (μ : List Addr) (F H : Hp) (μ' : List Addr) (F' H' : Hp) : Prop where
  pre : ∃ τ, μ' = μ ++ τ ∧ ∀ a, a ∈ τ → H a = none
  fr : Same F F'
  thr : ∀ a, H' a = none → H a = none
  new : ∀ a o, F' a = some o → F a = none → H a = none ∨ a ∈ μ
  keep : ∀ a o, H a = some o → a ∉ μ → H' a = some o
def ERel (K : PySem.W.Frag) (μ : List Addr) (F : Hp) (ρ : Rho) (σ : L2.St) : Prop :=
  ρ.length = σ.length ∧ ∀ (i : Nat) (d : D), ρ[i]? = some (some d) → ∃ v, σ[i]? = some (some v) ∧ Rep K μ F v d
section
variable {K : PySem.W.Frag} {μ μ' μ'' : List Addr} {F F' F'' H H' H'' : Hp} {C C' : Cells} {ρ : Rho} {σ : L2.St}
theorem Ext.refl : Ext μ F H μ F H := ⟨⟨[], by simp, fun a h => nomatch h⟩, Same.refl F, fun _ h => h, fun a o h1 h2 => (by rw [h1] at h2; cases h2), fun _ _ h _ => h⟩
theorem Ext.trans (x : Ext μ F H μ' F' H') (y : Ext μ' F' H' μ'' F'' H'') : Ext μ F H μ'' F'' H'' := by
  obtain ⟨τ, e, n⟩ := x.pre
  obtain ⟨τ', e', n'⟩ := y.pre
  refine ⟨⟨τ ++ τ', by rw [e', e, List.append_assoc], fun a h => ?_⟩, x.fr.trans y.fr, fun a h => x.thr a (y.thr a h), fun a o h1 h2 => ?_, fun a o h1 h2 => ?_⟩
  · rcases List.mem_append.mp h with h | h
    · exact n a h
    · exact x.thr a (n' a h)
  · cases q : F' a with
    | some o' => exact x.new a o' q h2
    | none =>
      rcases y.new a o h1 q with z | z
      · exact .inl (x.thr a z)
      · rw [e] at z
        rcases List.mem_append.mp z with z | z
        · exact .inr z
        · exact .inl (n a z)
  · refine y.keep a o (x.keep a o h1 h2) fun z => ?_
    rw [e] at z
    rcases List.mem_append.mp z with z | z
    · exact h2 z
    · rw [n a z] at h1
      cases h1
theorem Ext.rep (x : Ext μ F H μ' F' H') {v : V} {d : D} (r : Rep K μ F v d) : Rep K μ' F' v d := Rep.mono ⟨_, x.pre.choose_spec.1⟩ x.fr d v r
theorem Ext.reps (x : Ext μ F H μ' F' H') {v : List V} {d : List D} (r : Reps K μ F v d) : Reps K μ' F' v d := Reps.mono ⟨_, x.pre.choose_spec.1⟩ x.fr d v r
theorem Ext.env (x : Ext μ F H μ' F' H') (e : ERel K μ F ρ σ) : ERel K μ' F' ρ σ := ⟨e.1, fun i d h => by
  obtain ⟨v, a, b⟩ := e.2 i d h
  exact ⟨v, a, x.rep b⟩⟩
theorem Sim.free (S : Sim K μ F C H) {p : Addr} (h : H p = none) : F p = none := S.sub.free h
theorem Sim.notin (S : Sim K μ F C H) {p : Addr} (h : H p = none) : p ∉ μ := fun z => S.trk p z h
/-- a new frozen object -/
theorem Sim.alloc (S : Sim K μ F C H) {p : Addr} {o : HO} (hp : H p = none) : Sim K μ (upd F p o) C (upd H p o) ∧ Ext μ F H μ (upd F p o) (upd H p o) := by
  have fF : Same F (upd F p o) := fun b u e => by
    rw [upd_ne (ne_of_none e (S.free hp))]
    exact e
  refine ⟨⟨fun b u e => ?_, S.len, S.nd, fun a h z => ?_, fun k c a h1 h2 => ?_⟩, ⟨⟨[], by simp, fun a h => nomatch h⟩, fF, fun a h => ?_, fun a u h1 h2 => ?_, fun a u h1 h2 => ?_⟩⟩
  · by_cases hb : b = p
    · subst hb
      rw [upd_same] at e ⊢
      exact e
    · rw [upd_ne hb] at e ⊢
      exact S.sub b u e
  · by_cases hb : a = p
    · subst hb
      rw [upd_same] at z
      cases z
    · rw [upd_ne hb] at z
      exact S.trk a h z
  · have q := S.cel k c a h1 h2
    cases c with
    | dead => trivial
    | lst ds =>
      obtain ⟨f, vs, g, r⟩ := q
      have hne : a ≠ p := ne_of_none g hp
      exact ⟨by rw [upd_ne hne]; exact f, vs, by rw [upd_ne hne]; exact g, Reps.mono ⟨[], by simp⟩ fF _ _ r⟩
    | dic ds =>
      obtain ⟨f, vs, g, r⟩ := q
      have hne : a ≠ p := ne_of_none g hp
      exact ⟨by rw [upd_ne hne]; exact f, vs, by rw [upd_ne hne]; exact g, KReps.mono ⟨[], by simp⟩ fF _ _ r⟩
  · by_cases hb : a = p
    · subst hb
      exact hp
    · rw [upd_ne hb] at h
      exact h
  · by_cases hb : a = p
    · subst hb
      exact .inl hp
    · rw [upd_ne hb, h2] at h1
      cases h1
  · rw [upd_ne (ne_of_none h1 hp)]
    exact h1
/-- a new cell -/
theorem Sim.cell (S : Sim K μ F C H) {p : Addr} {vs : List V} {ds : List D} (hp : H p = none) (r : Reps K μ F vs ds) :
    Sim K (μ ++ [p]) F (C ++ [.lst ds]) (upd H p (.lst vs)) ∧ Ext μ F H (μ ++ [p]) F (upd H p (.lst vs)) := by
  refine ⟨⟨fun b u e => ?_, by simp [S.len], ?_, fun a h z => ?_, fun k c a h1 h2 => ?_⟩, ⟨⟨[p], rfl, fun a h => by simp at h; subst h; exact hp⟩, Same.refl F, fun a h => ?_, fun a u h1 h2 => (by rw [h1] at h2; cases h2), fun a u h1 h2 => ?_⟩⟩
  · rw [upd_ne (ne_of_none (S.sub b u e) hp)]
    exact S.sub b u e
  · refine List.nodup_append.mpr ⟨S.nd, by simp, fun a h b hb e => ?_⟩
    simp at hb
    subst hb
    subst e
    exact S.notin hp h
  · by_cases hb : a = p
    · subst hb
      rw [upd_same] at z
      cases z
    · rw [upd_ne hb] at z
      rcases List.mem_append.mp h with h | h
      · exact S.trk a h z
      · simp at h
        exact hb h
  · by_cases hk : k < C.length
    · rw [List.getElem?_append_left hk] at h1
      rw [List.getElem?_append_left (by rw [S.len]; exact hk)] at h2
      have q := S.cel k c a h1 h2
      cases c with
      | dead => trivial
      | lst ds' =>
        obtain ⟨f, vs', g, r'⟩ := q
        exact ⟨f, vs', by rw [upd_ne (ne_of_none g hp)]; exact g, Reps.mono ⟨[p], rfl⟩ (Same.refl F) _ _ r'⟩
      | dic ds' =>
        obtain ⟨f, vs', g, r'⟩ := q
        exact ⟨f, vs', by rw [upd_ne (ne_of_none g hp)]; exact g, KReps.mono ⟨[p], rfl⟩ (Same.refl F) _ _ r'⟩
    · have h3 : k - C.length = 0 := by
        rw [List.getElem?_append_right (by omega)] at h1
        have := (List.getElem?_eq_some_iff.mp h1).1
        simp at this
        omega
      rw [List.getElem?_append_right (by omega), h3] at h1
      rw [List.getElem?_append_right (by rw [S.len]; omega), S.len, h3] at h2
      simp at h1 h2
      subst h1 h2
      exact ⟨S.free hp, vs, upd_same, Reps.mono ⟨[p], rfl⟩ (Same.refl F) _ _ r⟩
  · by_cases hb : a = p
    · subst hb
      exact hp
    · rw [upd_ne hb] at h
      exact h
  · rw [upd_ne (ne_of_none h1 hp)]
    exact h1
/-- a cell is written -/
theorem Sim.write (S : Sim K μ F C H) {k : Nat} {a : Addr} {ds ds' : List D} {vs' : List V} (hk : C[k]? = some (.lst ds)) (ha : μ[k]? = some a) (r : Reps K μ F vs' ds') :
    Sim K μ F (C.set k (.lst ds')) (upd H a (.lst vs')) ∧ Ext μ F H μ F (upd H a (.lst vs')) := by
  obtain ⟨f, vs, g, r0⟩ := S.cel k _ a hk ha
  refine ⟨⟨fun b u e => ?_, by simp [S.len], S.nd, fun b h z => ?_, fun j c b h1 h2 => ?_⟩, ⟨⟨[], by simp, fun a h => nomatch h⟩, Same.refl F, fun b h => ?_, fun a u h1 h2 => (by rw [h1] at h2; cases h2), fun b u h1 h2 => ?_⟩⟩
  · have hne : b ≠ a := fun z => by rw [z, f] at e; cases e
    rw [upd_ne hne]
    exact S.sub b u e
  · by_cases hb : b = a
    · subst hb
      rw [upd_same] at z
      cases z
    · rw [upd_ne hb] at z
      exact S.trk b h z
  · by_cases hj : j = k
    · subst hj
      rw [ha] at h2
      cases h2
      rw [List.getElem?_set_self (List.getElem?_eq_some_iff.mp hk).1] at h1
      cases h1
      exact ⟨f, vs', upd_same, r⟩
    · rw [List.getElem?_set_ne (Ne.symm hj)] at h1
      have q := S.cel j c b h1 h2
      have hne : b ≠ a := fun z => by
        subst z
        obtain ⟨l1, e1⟩ := List.getElem?_eq_some_iff.mp h2
        obtain ⟨l2, e2⟩ := List.getElem?_eq_some_iff.mp ha
        exact hj ((List.getElem_inj S.nd).mp (e1.trans e2.symm))
      cases c with
      | dead => trivial
      | lst ds2 =>
        obtain ⟨f2, vs2, g2, r2⟩ := q
        exact ⟨f2, vs2, by rw [upd_ne hne]; exact g2, r2⟩
      | dic ds2 =>
        obtain ⟨f2, vs2, g2, r2⟩ := q
        exact ⟨f2, vs2, by rw [upd_ne hne]; exact g2, r2⟩
  · by_cases hb : b = a
    · subst hb
      rw [upd_same] at h
      cases h
    · rw [upd_ne hb] at h
      exact h
  · have hne : b ≠ a := fun z => h2 (z ▸ List.mem_of_getElem? ha)
    rw [upd_ne hne]
    exact h1
/-- a cell is frozen: it is written no more -/
theorem Sim.freeze (S : Sim K μ F C H) {k : Nat} {a : Addr} {ds : List D} (hk : C[k]? = some (.lst ds)) (ha : μ[k]? = some a) :
    ∃ vs F', F' = upd F a (.lst vs) ∧ Reps K μ F' vs ds ∧ Sim K μ F' (C.set k .dead) H ∧ Ext μ F H μ F' H := by
  obtain ⟨f, vs, g, r⟩ := S.cel k _ a hk ha
  have fF : Same F (upd F a (.lst vs)) := fun b u e => by
    rw [upd_ne (ne_of_none e f)]
    exact e
  refine ⟨vs, _, rfl, Reps.mono ⟨[], by simp⟩ fF _ _ r, ⟨fun b u e => ?_, by simp [S.len], S.nd, S.trk, fun j c b h1 h2 => ?_⟩, ⟨⟨[], by simp, fun a h => nomatch h⟩, fF, fun _ h => h, fun b u h1 h2 => ?_, fun _ _ h _ => h⟩⟩
  · by_cases hb : b = a
    · subst hb
      rw [upd_same] at e
      cases e
      exact g
    · rw [upd_ne hb] at e
      exact S.sub b u e
  · by_cases hj : j = k
    · subst hj
      rw [List.getElem?_set_self (List.getElem?_eq_some_iff.mp hk).1] at h1
      cases h1
      trivial
    · rw [List.getElem?_set_ne (Ne.symm hj)] at h1
      have q := S.cel j c b h1 h2
      have hne : b ≠ a := fun z => by
        subst z
        obtain ⟨l1, e1⟩ := List.getElem?_eq_some_iff.mp h2
        obtain ⟨l2, e2⟩ := List.getElem?_eq_some_iff.mp ha
        exact hj ((List.getElem_inj S.nd).mp (e1.trans e2.symm))
      cases c with
      | dead => trivial
      | lst ds2 =>
        obtain ⟨f2, vs2, g2, r2⟩ := q
        exact ⟨by rw [upd_ne hne]; exact f2, vs2, g2, Reps.mono ⟨[], by simp⟩ fF _ _ r2⟩
      | dic ds2 =>
        obtain ⟨f2, vs2, g2, r2⟩ := q
        exact ⟨by rw [upd_ne hne]; exact f2, vs2, g2, KReps.mono ⟨[], by simp⟩ fF _ _ r2⟩
  · by_cases hb : b = a
    · exact .inr (hb ▸ List.mem_of_getElem? ha)
    · rw [upd_ne hb, h2] at h1
      cases h1
theorem ERel.set (e : ERel K μ F ρ σ) {i : Nat} {v : V} {d : D} (r : Rep K μ F v d) : ERel K μ F (ρ.set i (some d)) (σ.set i (some v)) := by
  refine ⟨by simp [e.1], fun j d' h => ?_⟩
  by_cases hj : j = i
  · subst hj
    have hl : j < ρ.length := by
      have := (List.getElem?_eq_some_iff.mp h).1
      simpa using this
    rw [List.getElem?_set_self hl] at h
    cases h
    exact ⟨v, by rw [List.getElem?_set_self (by rw [← e.1]; exact hl)], r⟩
  · rw [List.getElem?_set_ne (Ne.symm hj)] at h ⊢
    exact e.2 j d' h
end

/-! ### what is wanted behind -/
def exF (c : Str) : Str := if c = "TooGreat" then "most" else if c = "Quarrel" then "paper" else if c = "NoHappening" ∨ c = "NoChannel" ∨ c = "NoBlock" then "value" else "at"
/-- an exception of the package: its class by name, what it was given -/
def XRep (K : PySem.W.Frag) (mg : Str → Option Value) (μ : List Addr) (F H : Hp) (c : Str) (p : D) (cls : Value) (dx : Option Addr) : Prop :=
  mg c = some cls ∧ ∃ d v, dx = some d ∧ H d = some (.xd [(exF c, v)]) ∧ Rep K μ F v p
abbrev RR (α β : Type) := List Addr → Hp → β → α → Prop
def kd {α β : Type} (R : RR α β) (K : PySem.W.Frag) (mg : Str → Option Value) (W : WX) (r : Res α) (μ : List Addr) (F : Hp) (σ : L2.St) (H : Hp) (Q : β → Hp → Prop) : Prop :=
  match r with
  | .ok d C' => ∀ v μ' F' H', Ext μ F H μ' F' H' → Sim K μ' F' C' H' → R μ' F' v d → Q v H'
  | .ex c p C' => ∀ cls dx μ' F' H', Ext μ F H μ' F' H' → Sim K μ' F' C' H' → XRep K mg μ' F' H' c p cls dx → W cls dx σ H'
  | .stuck => False
section
variable {α β γ δ : Type} {R : RR α β} {R' : RR γ δ} {K : PySem.W.Frag} {mg : Str → Option Value} {W : WX} {μ μ' : List Addr} {F F' H H' : Hp} {C C' : Cells} {ρ : Rho} {σ : L2.St}
theorem kd_mono {r : Res α} {Q : β → Hp → Prop} (x : Ext μ F H μ' F' H') (h : kd R K mg W r μ F σ H Q) : kd R K mg W r μ' F' σ H' Q := by
  cases r with
  | ok d C1 => exact fun v μ2 F2 H2 x2 s2 r2 => h v μ2 F2 H2 (x.trans x2) s2 r2
  | ex c p C1 => exact fun cls dx μ2 F2 H2 x2 s2 r2 => h cls dx μ2 F2 H2 (x.trans x2) s2 r2
  | stuck => exact h
theorem kd_bind {r : Res α} {g : α → Cells → Res γ} {Q : δ → Hp → Prop} {k : β → Hp → Prop} (h : kd R' K mg W (r.bind g) μ F σ H Q)
    (hk : ∀ d C1 v μ1 F1 H1, Ext μ F H μ1 F1 H1 → Sim K μ1 F1 C1 H1 → R μ1 F1 v d → kd R' K mg W (g d C1) μ1 F1 σ H1 Q → k v H1) : kd R K mg W r μ F σ H k := by
  cases r with
  | ok d C1 => exact fun v μ1 F1 H1 x1 s1 r1 => hk d C1 v μ1 F1 H1 x1 s1 r1 (kd_mono x1 h)
  | ex c p C1 => exact h
  | stuck => exact h
theorem kd_ret {d : α} {v : β} {Q : β → Hp → Prop} (S : Sim K μ F C H) (r : R μ F v d) (h : kd R K mg W (.ok d C) μ F σ H Q) : Q v H := h v μ F H .refl S r
end
abbrev RD (K : PySem.W.Frag) : RR D V := fun μ F v d => Rep K μ F v d
abbrev RL (K : PySem.W.Frag) : RR (List D) (List V) := fun μ F v d => Reps K μ F v d
abbrev RB : RR Bool Bool := fun _ _ b d => b = d
/-- what a test wants: a bool -/
def toB (r : Res D) : Res Bool := match r with
  | .ok (.bl b) C => .ok b C
  | .ex c p C => .ex c p C
  | _ => .stuck
/-- readings -/
def rE (K : PySem.W.Frag) (mg : Str → Option Value) (W : WX) (f : Rho → Cells → Res D) : TE := fun σ H Q => ∃ ρ C μ F, Sim K μ F C H ∧ ERel K μ F ρ σ ∧ kd (RD K) K mg W (f ρ C) μ F σ H Q
def rT (K : PySem.W.Frag) (mg : Str → Option Value) (W : WX) (f : Rho → Cells → Res D) : TT := fun σ H Q => ∃ ρ C μ F, Sim K μ F C H ∧ ERel K μ F ρ σ ∧ kd RB K mg W (toB (f ρ C)) μ F σ H Q
def rA (K : PySem.W.Frag) (mg : Str → Option Value) (W : WX) (f : Rho → Cells → Res (List D)) : TA := fun σ H Q => ∃ ρ C μ F, Sim K μ F C H ∧ ERel K μ F ρ σ ∧ kd (RL K) K mg W (f ρ C) μ F σ H Q
abbrev BE (X : Cx) (W : WX) (e : Expr) (f : Rho → Cells → Res D) : Prop := PE X e (rE X.K X.mg W f)
abbrev BT (X : Cx) (W : WX) (e : Expr) (f : Rho → Cells → Res D) : Prop := PT X e (rT X.K X.mg W f)
abbrev BW (X : Cx) (W : WX) (e : Expr) (f : Rho → Cells → Res D) : Prop := PW X e (rT X.K X.mg W f)
abbrev BA (X : Cx) (W : WX) (es : List Expr) (f : Rho → Cells → Res (List D)) : Prop := PA X es (rA X.K X.mg W f)
theorem peI {X : Cx} {e : Expr} {t t' : TE} (h : PE X e t) (k : ∀ σ H Q, t' σ H Q → t σ H Q) : PE X e t' := ⟨fun pins s σ H Q I q => h.run pins s σ H Q I (k σ H Q q)⟩
theorem ptI {X : Cx} {e : Expr} {t t' : TT} (h : PT X e t) (k : ∀ σ H Q, t' σ H Q → t σ H Q) : PT X e t' := ⟨fun pins s σ H Q I q => h.run pins s σ H Q I (k σ H Q q)⟩
theorem pwI {X : Cx} {e : Expr} {t t' : TT} (h : PW X e t) (k : ∀ σ H Q, t' σ H Q → t σ H Q) : PW X e t' := ⟨fun wh pins s σ H Q I q => h.run wh pins s σ H Q I (k σ H Q q)⟩
theorem paI {X : Cx} {e : List Expr} {t t' : TA} (h : PA X e t) (k : ∀ σ H Q, t' σ H Q → t σ H Q) : PA X e t' := ⟨fun pos pins s σ H Q I q => h.run pos pins s σ H Q I (k σ H Q q)⟩
end BV
namespace BV
open PySem PySem.Spec PyProof.Rows L2

/-! ### reading cells -/
def asL (d : D) (C : Cells) : Option (List D) := match d with
  | .lst ds => some ds
  | .cel k => match C[k]? with
    | some (.lst ds) => some ds
    | _ => none
  | _ => none
theorem ftp_sq {K : PySem.W.Frag} {F : Hp} {a : Addr} {o : Obj} {vs : List V} (h : F a = some (.frz o (.tup vs))) : SqT K F a vs := .inl (.inr ⟨o, h⟩)
/-- a list or a tuple -/
def asS (d : D) (C : Cells) : Option (List D) := match d with
  | .lst ds => some ds
  | .tup ds => some ds
  | .ftp ds => some ds
  | .scr ns => some (ns.map .int)
  | .cel k => match C[k]? with
    | some (.lst ds) => some ds
    | _ => none
  | _ => none
section
variable {K : PySem.W.Frag} {μ : List Addr} {F H : Hp} {C : Cells} {v : V} {d : D} {ds : List D}
theorem mu_of (S : Sim K μ F C H) {k : Nat} {c : Cell} (h : C[k]? = some c) : ∃ a, μ[k]? = some a := by
  have := (List.getElem?_eq_some_iff.mp h).1
  exact ⟨μ[k]'(by rw [S.len]; exact this), by simp [S.len, this]⟩
theorem asL_rep (S : Sim K μ F C H) (r : Rep K μ F v d) (h : asL d C = some ds) : ∃ a vs, v = .ref a ∧ H a = some (.lst vs) ∧ Reps K μ F vs ds := by
  cases r with
  | lst a b =>
    simp only [asL, Option.some.injEq] at h
    subst h
    exact ⟨_, _, rfl, S.sub _ _ a, b⟩
  | cel a =>
    rename_i a' k
    simp only [asL] at h
    split at h
    · rename_i ds' e
      cases h
      obtain ⟨_, vs, g, r⟩ := S.cel k _ _ e a
      exact ⟨_, vs, rfl, g, r⟩
    · cases h
  | _ => cases h
theorem asS_rep (S : Sim K μ F C H) (r : Rep K μ F v d) (h : asS d C = some ds) : ∃ a vs, v = .ref a ∧ (SqL K H a vs ∨ SqT K H a vs) ∧ Reps K μ F vs ds := by
  cases r with
  | lst a b =>
    simp only [asS, Option.some.injEq] at h
    subst h
    exact ⟨_, _, rfl, .inl (SqL.of (S.sub _ _ a)), b⟩
  | tup a b =>
    simp only [asS, Option.some.injEq] at h
    subst h
    exact ⟨_, _, rfl, .inr (sameT S.sub a), b⟩
  | ftp a b c d =>
    simp only [asS, Option.some.injEq] at h
    subst h
    exact ⟨_, _, rfl, .inr (sameT S.sub (ftp_sq a)), d⟩
  | scr a =>
    simp only [asS, Option.some.injEq] at h
    subst h
    exact ⟨_, _, rfl, .inl (S.sub.seq a), Reps.ints _⟩
  | cel a =>
    rename_i a' k
    simp only [asS] at h
    split at h
    · rename_i ds' e
      cases h
      obtain ⟨_, vs, g, r⟩ := S.cel k _ _ e a
      exact ⟨_, vs, rfl, .inl (SqL.of g), r⟩
    · cases h
  | _ => cases h
end

/-! ### making lists, tuples -/
/-- a new list: a cell (true), or frozen -/
def mkL (m : Bool) (ds : List D) (C : Cells) : Res D := if m then .ok (.cel C.length) (C ++ [.lst ds]) else .ok (.lst ds) C
section
variable {K : PySem.W.Frag} {mg : Str → Option Value} {W : WX} {μ : List Addr} {F H : Hp} {C : Cells} {σ : L2.St} {Q : V → Hp → Prop}
theorem kd_mkL {m : Bool} {ds : List D} {vs : List V} {p : Addr} (S : Sim K μ F C H) (hp : H p = none) (r : Reps K μ F vs ds) (h : kd (RD K) K mg W (mkL m ds C) μ F σ H Q) : Q (.ref p) (upd H p (.lst vs)) := by
  cases m with
  | true =>
    obtain ⟨S1, X1⟩ := S.cell hp r
    refine h _ _ _ _ X1 S1 (.cel ?_)
    rw [List.getElem?_append_right (by rw [S.len]; exact Nat.le_refl _), S.len, Nat.sub_self]
    rfl
  | false =>
    obtain ⟨S1, X1⟩ := S.alloc (o := .lst vs) hp
    exact h _ _ _ _ X1 S1 (.lst upd_same (X1.reps r))
theorem kd_mkT {ds : List D} {vs : List V} {p : Addr} (S : Sim K μ F C H) (hp : H p = none) (r : Reps K μ F vs ds) (h : kd (RD K) K mg W (.ok (.tup ds) C) μ F σ H Q) : Q (.ref p) (upd H p (.tup vs)) := by
  obtain ⟨S1, X1⟩ := S.alloc (o := .tup vs) hp
  exact h _ _ _ _ X1 S1 (.tup (SqT.of upd_same) (X1.reps r))
end

/-! ### names, constants -/
def fVar (i : Nat) : Rho → Cells → Res D := fun ρ C => match ρ[i]? with
  | some (some d) => .ok d C
  | _ => .stuck
def fC (d : D) : Rho → Cells → Res D := fun _ C => .ok d C
section
variable {X : Cx} {W : WX} {a b e : Expr} {es : List Expr} {f g : Rho → Cells → Res D} {pos : Pos}
theorem be_var (i : Nat) {x : Str} (h : PE X (.Name x pos) (tVar i)) : BE X W (.Name x pos) (fVar i) := by
  refine peI h ?_
  rintro σ H Q ⟨ρ, C, μ, F, S, E, k⟩
  unfold fVar at k
  split at k
  · rename_i d e
    obtain ⟨v, h1, h2⟩ := E.2 _ _ e
    exact ⟨v, h1, kd_ret S h2 k⟩
  · exact k.elim
theorem be_c {e : Expr} {d : D} {v : V} (h : PE X e (tC v)) (r : ∀ μ F, Rep X.K μ F v d) : BE X W e (fC d) := by
  refine peI h ?_
  rintro σ H Q ⟨ρ, C, μ, F, S, E, k⟩
  exact kd_ret S (r _ _) k
theorem be_int {i : Int} {j} : BE X W (.Constant (.int i) j pos) (fC (.int i)) := be_c pe_int fun _ _ => .int i
theorem be_bl {i : Bool} {j} : BE X W (.Constant (.bool i) j pos) (fC (.bl i)) := be_c pe_bl fun _ _ => .bl i
theorem be_str {i : Str} {j} : BE X W (.Constant (.str i) j pos) (fC (.str i)) := be_c pe_str fun _ _ => .str i
theorem be_non {j} : BE X W (.Constant .none j pos) (fC .non) := be_c pe_non fun _ _ => .non

/-! ### operators -/
def OpB (X : Cx) (W : WX) (F : Value → Value → Sem Value) (o : D → D → Cells → Res D) : Prop :=
  ∃ r : R2, OpR X F r ∧ ∀ (x y : D) (C : Cells) (v w : V) (μ : List Addr) (Fh H : Hp) (σ : L2.St) (Q : VK), Sim X.K μ Fh C H → Rep X.K μ Fh v x → Rep X.K μ Fh w y → kd (RD X.K) X.K X.mg W (o x y C) μ Fh σ H Q → r v w H Q
def f2 (o : D → D → Cells → Res D) (f g : Rho → Cells → Res D) : Rho → Cells → Res D := fun ρ C => (f ρ C).bind fun x C1 => (g ρ C1).bind fun y C2 => o x y C2
def f1 (o : D → Cells → Res D) (f : Rho → Cells → Res D) : Rho → Cells → Res D := fun ρ C => (f ρ C).bind fun x C1 => o x C1
theorem tOp_of {r : R2} {o : D → D → Cells → Res D} (hr : ∀ (x y : D) (C : Cells) (v w : V) (μ : List Addr) (Fh H : Hp) (σ : L2.St) (Q : VK), Sim X.K μ Fh C H → Rep X.K μ Fh v x → Rep X.K μ Fh w y → kd (RD X.K) X.K X.mg W (o x y C) μ Fh σ H Q → r v w H Q)
    (σ : L2.St) (H : Hp) (Q : VK) (h : rE X.K X.mg W (f2 o f g) σ H Q) : tOp r (rE X.K X.mg W f) (rE X.K X.mg W g) σ H Q := by
  obtain ⟨ρ, C, μ, F, S, E, k⟩ := h
  refine ⟨ρ, C, μ, F, S, E, kd_bind k fun d C1 v μ1 F1 H1 x1 s1 r1 h1 => ?_⟩
  refine ⟨ρ, C1, μ1, F1, s1, x1.env E, kd_bind h1 fun d2 C2 v2 μ2 F2 H2 x2 s2 r2 h2 => ?_⟩
  exact hr d d2 C2 v v2 μ2 F2 H2 σ Q s2 (x2.rep r1) r2 h2
theorem be_op {op : Operator} {o : D → D → Cells → Res D} (ho : OpB X W (binaryOp op) o) (ha : BE X W a f) (hb : BE X W b g) : BE X W (.BinOp a op b pos) (f2 o f g) := by
  obtain ⟨r, hr, hk⟩ := ho
  exact peI (pe_op hr ha hb) (tOp_of hk)
theorem be_cmp {op : CmpOp} {o : D → D → Cells → Res D} (ho : OpB X W (compareOp op) o) (ha : BE X W a f) (hb : BE X W b g) (hm : behindInMarks op b = false) : BE X W (.Compare a [op] [b] pos) (f2 o f g) := by
  obtain ⟨r, hr, hk⟩ := ho
  exact peI (pe_cmpR hr ha hb hm) (tOp_of hk)
theorem kd_toB {r : Res D} {K : PySem.W.Frag} {mg : Str → Option Value} {μ : List Addr} {F H : Hp} {σ : L2.St} {Q : Bool → Hp → Prop} (h : kd RB K mg W (toB r) μ F σ H Q) : kd (RD K) K mg W r μ F σ H (fun v H' => ∃ b, v = .bl b ∧ Q b H') := by
  cases r with
  | stuck => exact h
  | ex c p C => exact h
  | ok d C =>
    intro v μ' F' H' x s r
    cases d with
    | bl b =>
      cases r
      exact ⟨b, rfl, h b μ' F' H' x s rfl⟩
    | _ => exact False.elim h
theorem rT_val (h : BE X W e f) : ∀ σ H Q, rT X.K X.mg W f σ H Q → rE X.K X.mg W f σ H (fun v H' => ∃ b, v = .bl b ∧ Q b H') := by
  rintro σ H Q ⟨ρ, C, μ, F, S, E, k⟩
  exact ⟨ρ, C, μ, F, S, E, kd_toB k⟩
/-- tests: a name, a call, a constant -/
theorem bt_val (h : BE X W e f) (he : ∀ whole, isTrue e X.env whole = (do let v ← whole; standAt e.pos; holding [v] (truthy v)) := by intro _; rfl) : BT X W e f := ptI (pt_val h he) (rT_val h)
theorem bt_cmp {op : CmpOp} {o : D → D → Cells → Res D} (ho : OpB X W (compareOp op) o) (ha : BE X W a f) (hb : BE X W b g) (hm : behindInMarks op b = false) : BT X W (.Compare a [op] [b] pos) (f2 o f g) := by
  have hv := be_cmp (pos := pos) ho ha hb hm
  obtain ⟨r, hr, hk⟩ := ho
  refine ptI (pt_cmpR hr ha hb hm) fun σ H Q q => ?_
  exact tOp_of hk _ _ _ (rT_val hv σ H Q q)
/-- chains a < b < c -/
def chainD (o o' : D → D → Cells → Res D) (f g h : Rho → Cells → Res D) : Rho → Cells → Res D := fun ρ C => (f ρ C).bind fun x C1 => (g ρ C1).bind fun y C2 => (o x y C2).bind fun z C3 => match z with
  | .bl true => (h ρ C3).bind fun w C4 => o' y w C4
  | .bl false => .ok (.bl false) C3
  | _ => .stuck
variable {c : Expr} {h : Rho → Cells → Res D}
theorem chain_of {r r' : R2} {o o' : D → D → Cells → Res D}
    (hr : ∀ (x y : D) (C : Cells) (v w : V) (μ : List Addr) (Fh H : Hp) (σ : L2.St) (Q : VK), Sim X.K μ Fh C H → Rep X.K μ Fh v x → Rep X.K μ Fh w y → kd (RD X.K) X.K X.mg W (o x y C) μ Fh σ H Q → r v w H Q)
    (hr' : ∀ (x y : D) (C : Cells) (v w : V) (μ : List Addr) (Fh H : Hp) (σ : L2.St) (Q : VK), Sim X.K μ Fh C H → Rep X.K μ Fh v x → Rep X.K μ Fh w y → kd (RD X.K) X.K X.mg W (o' x y C) μ Fh σ H Q → r' v w H Q)
    (σ : L2.St) (H : Hp) (Q : VK) (q : rE X.K X.mg W (chainD o o' f g h) σ H Q) : tChain r r' (rE X.K X.mg W f) (rE X.K X.mg W g) (rE X.K X.mg W h) σ H Q := by
  obtain ⟨ρ, C, μ, F, S, E, k⟩ := q
  refine ⟨ρ, C, μ, F, S, E, kd_bind k fun d C1 v μ1 F1 H1 x1 s1 r1 h1 => ?_⟩
  refine ⟨ρ, C1, μ1, F1, s1, x1.env E, kd_bind h1 fun d2 C2 v2 μ2 F2 H2 x2 s2 r2 h2 => ?_⟩
  refine hr d d2 C2 v v2 μ2 F2 H2 σ _ s2 (x2.rep r1) r2 (kd_bind h2 fun d3 C3 v3 μ3 F3 H3 x3 s3 r3 h3 => ?_)
  cases d3 with
  | bl z =>
    cases r3
    refine ⟨z, rfl, ?_⟩
    cases z with
    | true =>
      rw [if_pos rfl]
      refine ⟨ρ, C3, μ3, F3, s3, x3.env (x2.env (x1.env E)), kd_bind h3 fun d4 C4 v4 μ4 F4 H4 x4 s4 r4 h4 => ?_⟩
      exact hr' d2 d4 C4 v2 v4 μ4 F4 H4 σ Q s4 (x4.rep (x3.rep r2)) r4 h4
    | false =>
      rw [if_neg Bool.false_ne_true]
      exact kd_ret s3 (.bl false) h3
  | _ => exact False.elim h3
theorem be_chain {op op' : CmpOp} {o o' : D → D → Cells → Res D} (ho : OpB X W (compareOp op) o) (ho' : OpB X W (compareOp op') o') (ha : BE X W a f) (hb : BE X W b g) (hc : BE X W c h)
    (hm : lastMarks [op, op'] [b, c] = false := by with_unfolding_all rfl) : BE X W (.Compare a [op, op'] [b, c] pos) (chainD o o' f g h) := by
  obtain ⟨r, hr, hk⟩ := ho
  obtain ⟨r', hr', hk'⟩ := ho'
  exact peI (pe_chain hr hr' ha hb hc hm) (chain_of hk hk')
theorem bt_chain {op op' : CmpOp} {o o' : D → D → Cells → Res D} (ho : OpB X W (compareOp op) o) (ho' : OpB X W (compareOp op') o') (ha : BE X W a f) (hb : BE X W b g) (hc : BE X W c h)
    (hm : lastMarks [op, op'] [b, c] = false := by with_unfolding_all rfl) : BT X W (.Compare a [op, op'] [b, c] pos) (chainD o o' f g h) := by
  have hv := be_chain (pos := pos) ho ho' ha hb hc hm
  obtain ⟨r, hr, hk⟩ := ho
  obtain ⟨r', hr', hk'⟩ := ho'
  refine ptI (pt_chain hr hr' ha hb hc hm) fun σ H Q q => ?_
  exact chain_of hk hk' _ _ _ (rT_val hv σ H Q q)

/-! ### and, or, not, if -/
def andD (f g : Rho → Cells → Res D) : Rho → Cells → Res D := fun ρ C => (f ρ C).bind fun x C1 => match x with
  | .bl true => g ρ C1
  | .bl false => .ok (.bl false) C1
  | _ => .stuck
def orD (f g : Rho → Cells → Res D) : Rho → Cells → Res D := fun ρ C => (f ρ C).bind fun x C1 => match x with
  | .bl true => .ok (.bl true) C1
  | .bl false => g ρ C1
  | _ => .stuck
def notD (f : Rho → Cells → Res D) : Rho → Cells → Res D := fun ρ C => (f ρ C).bind fun x C1 => match x with
  | .bl b => .ok (.bl !b) C1
  | _ => .stuck
def ifD (t f g : Rho → Cells → Res D) : Rho → Cells → Res D := fun ρ C => (t ρ C).bind fun x C1 => match x with
  | .bl true => f ρ C1
  | .bl false => g ρ C1
  | _ => .stuck
variable {rest : List Expr}
theorem toB_bind {r : Res D} {g : D → Cells → Res D} : toB (r.bind g) = r.bind fun x C => toB (g x C) := by cases r <;> rfl
/-- a test first, then what hangs on it -/
theorem kd_test {α β : Type} {R : RR α β} {K : PySem.W.Frag} {mg : Str → Option Value} {W : WX} {r : Res D} {μ : List Addr} {F H : Hp} {σ : L2.St} {g : D → Cells → Res α} {Q : β → Hp → Prop} {k : Bool → Hp → Prop} (h : kd R K mg W (r.bind g) μ F σ H Q)
    (h0 : ∀ d C, (∀ b, d ≠ .bl b) → g d C = .stuck)
    (hk : ∀ b C1 μ1 F1 H1, Ext μ F H μ1 F1 H1 → Sim K μ1 F1 C1 H1 → kd R K mg W (g (.bl b) C1) μ1 F1 σ H1 Q → k b H1) : kd RB K mg W (toB r) μ F σ H k := by
  cases r with
  | stuck => exact h
  | ex c p C => exact h
  | ok d C =>
    by_cases hd : ∃ b, d = .bl b
    · obtain ⟨b, rfl⟩ := hd
      intro b' μ1 F1 H1 x1 s1 e
      cases e
      exact hk b C μ1 F1 H1 x1 s1 (kd_mono x1 h)
    · have e : (Res.ok d C).bind g = .stuck := h0 d C fun b z => hd ⟨b, z⟩
      rw [e] at h
      exact h.elim
theorem bw_and1 (ha : BT X W a f) : BW X W (.BoolOp .And [a] pos) f := pw_and1 ha
theorem bw_or1 (ha : BT X W a f) : BW X W (.BoolOp .Or [a] pos) f := pw_or1 ha
theorem bw_and (ha : BT X W a f) (hb : BW X W (.BoolOp .And (b :: rest) pos) g) : BW X W (.BoolOp .And (a :: b :: rest) pos) (andD f g) := by
  refine pwI (pw_and ha hb) ?_
  rintro σ H Q ⟨ρ, C, μ, F, S, E, k⟩
  unfold andD at k
  rw [toB_bind] at k
  refine ⟨ρ, C, μ, F, S, E, kd_test k (fun d C h0 => ?_) fun b C1 μ1 F1 H1 x1 s1 h1 => ?_⟩
  · cases d with
    | bl b => exact absurd rfl (h0 b)
    | _ => rfl
  · cases b with
    | true => exact iteT ⟨ρ, C1, μ1, F1, s1, x1.env E, h1⟩
    | false => exact iteF (kd_ret s1 rfl h1)
theorem bw_or (ha : BT X W a f) (hb : BW X W (.BoolOp .Or (b :: rest) pos) g) : BW X W (.BoolOp .Or (a :: b :: rest) pos) (orD f g) := by
  refine pwI (pw_or ha hb) ?_
  rintro σ H Q ⟨ρ, C, μ, F, S, E, k⟩
  unfold orD at k
  rw [toB_bind] at k
  refine ⟨ρ, C, μ, F, S, E, kd_test k (fun d C h0 => ?_) fun b C1 μ1 F1 H1 x1 s1 h1 => ?_⟩
  · cases d with
    | bl b => exact absurd rfl (h0 b)
    | _ => rfl
  · cases b with
    | true => exact iteT (kd_ret s1 rfl h1)
    | false => exact iteF ⟨ρ, C1, μ1, F1, s1, x1.env E, h1⟩
theorem bt_w (h : BW X W e f) : BT X W e f := PW.pt h
theorem bt_not (ha : BT X W a f) : BT X W (.UnaryOp .Not a pos) (notD f) := by
  refine ptI (pt_not ha) ?_
  rintro σ H Q ⟨ρ, C, μ, F, S, E, k⟩
  unfold notD at k
  rw [toB_bind] at k
  refine ⟨ρ, C, μ, F, S, E, kd_test k (fun d C h0 => ?_) fun b C1 μ1 F1 H1 x1 s1 h1 => kd_ret s1 rfl h1⟩
  cases d with
  | bl b => exact absurd rfl (h0 b)
  | _ => rfl
theorem be_one {op} (ha : BE X W a f) : BE X W (.BoolOp op [a] pos) f := pe_one ha
theorem be_and (ha : BE X W a f) (hb : BE X W (.BoolOp .And (b :: rest) pos) g) : BE X W (.BoolOp .And (a :: b :: rest) pos) (andD f g) := by
  refine peI (pe_and ha hb) ?_
  rintro σ H Q ⟨ρ, C, μ, F, S, E, k⟩
  refine ⟨ρ, C, μ, F, S, E, kd_bind k fun d C1 v μ1 F1 H1 x1 s1 r1 h1 => ?_⟩
  cases d with
  | bl b =>
    cases r1
    refine ⟨b, rfl, ?_⟩
    cases b with
    | true => exact iteT ⟨ρ, C1, μ1, F1, s1, x1.env E, h1⟩
    | false => exact iteF (kd_ret s1 (.bl _) h1)
  | _ => exact False.elim h1
theorem be_or (ha : BE X W a f) (hb : BE X W (.BoolOp .Or (b :: rest) pos) g) : BE X W (.BoolOp .Or (a :: b :: rest) pos) (orD f g) := by
  refine peI (pe_or ha hb) ?_
  rintro σ H Q ⟨ρ, C, μ, F, S, E, k⟩
  refine ⟨ρ, C, μ, F, S, E, kd_bind k fun d C1 v μ1 F1 H1 x1 s1 r1 h1 => ?_⟩
  cases d with
  | bl b =>
    cases r1
    refine ⟨b, rfl, ?_⟩
    cases b with
    | true => exact iteT (kd_ret s1 (.bl _) h1)
    | false => exact iteF ⟨ρ, C1, μ1, F1, s1, x1.env E, h1⟩
  | _ => exact False.elim h1
theorem be_not (ha : BE X W a f) : BE X W (.UnaryOp .Not a pos) (notD f) := by
  refine peI (pe_not ha) ?_
  rintro σ H Q ⟨ρ, C, μ, F, S, E, k⟩
  refine ⟨ρ, C, μ, F, S, E, kd_bind k fun d C1 v μ1 F1 H1 x1 s1 r1 h1 => ?_⟩
  cases d with
  | bl b =>
    cases r1
    exact ⟨b, rfl, kd_ret s1 (.bl _) h1⟩
  | _ => exact False.elim h1
theorem be_if (hc : BT X W c h) (ha : BE X W a f) (hb : BE X W b g) : BE X W (.IfExp c a b pos) (ifD h f g) := by
  refine peI (pe_ifExp hc ha hb) ?_
  rintro σ H Q ⟨ρ, C, μ, F, S, E, k⟩
  refine ⟨ρ, C, μ, F, S, E, kd_test k (fun d C h0 => ?_) fun b C1 μ1 F1 H1 x1 s1 h1 => ?_⟩
  · cases d with
    | bl b => exact absurd rfl (h0 b)
    | _ => rfl
  · cases b with
    | true => exact iteT ⟨ρ, C1, μ1, F1, s1, x1.env E, h1⟩
    | false => exact iteF ⟨ρ, C1, μ1, F1, s1, x1.env E, h1⟩

/-! ### argument lists, displays, calls of built-ins -/
def aNil : Rho → Cells → Res (List D) := fun _ C => .ok [] C
def aCons (f : Rho → Cells → Res D) (fs : Rho → Cells → Res (List D)) : Rho → Cells → Res (List D) := fun ρ C => (f ρ C).bind fun x C1 => (fs ρ C1).bind fun xs C2 => .ok (x :: xs) C2
def fA (o : List D → Cells → Res D) (fs : Rho → Cells → Res (List D)) : Rho → Cells → Res D := fun ρ C => (fs ρ C).bind fun xs C1 => o xs C1
variable {fs : Rho → Cells → Res (List D)}
theorem ba_nil : BA X W [] aNil := by
  refine paI pa_nil ?_
  rintro σ H Q ⟨ρ, C, μ, F, S, E, k⟩
  exact kd_ret S .nil k
theorem ba_cons (ha : BE X W e f) (hr : BA X W es fs) (hs : starEach (e :: es) X.env = (false, eval e X.env) :: starEach es X.env := by rfl) : BA X W (e :: es) (aCons f fs) := by
  refine paI (pa_cons ha hr hs) ?_
  rintro σ H Q ⟨ρ, C, μ, F, S, E, k⟩
  refine ⟨ρ, C, μ, F, S, E, kd_bind k fun d C1 v μ1 F1 H1 x1 s1 r1 h1 => ?_⟩
  refine ⟨ρ, C1, μ1, F1, s1, x1.env E, kd_bind h1 fun d2 C2 v2 μ2 F2 H2 x2 s2 r2 h2 => ?_⟩
  exact kd_ret s2 (.cons (x2.rep r1) r2) h2
def oTup : List D → Cells → Res D := fun xs C => if xs.length ≤ sizeLine then .ok (.tup xs) C else .stuck
def oLst (m : Bool) : List D → Cells → Res D := fun xs C => if xs.length ≤ sizeLine then mkL m xs C else .stuck
theorem be_tup {j} (h : BA X W es fs) : BE X W (.Tuple es j pos) (fA oTup fs) := by
  refine peI (pe_tup h) ?_
  rintro σ H Q ⟨ρ, C, μ, F, S, E, k⟩
  refine ⟨ρ, C, μ, F, S, E, kd_bind k fun d C1 v μ1 F1 H1 x1 s1 r1 h1 => ?_⟩
  unfold oTup at h1
  split at h1
  · rename_i z
    exact ⟨by rw [r1.length]; exact z, fun p hp => kd_mkT s1 hp r1 h1⟩
  · exact h1.elim
theorem be_lst (m : Bool) (h : BA X W es fs) : BE X W (.List es pos) (fA (oLst m) fs) := by
  refine peI (pe_lst h) ?_
  rintro σ H Q ⟨ρ, C, μ, F, S, E, k⟩
  refine ⟨ρ, C, μ, F, S, E, kd_bind k fun d C1 v μ1 F1 H1 x1 s1 r1 h1 => ?_⟩
  unfold oLst at h1
  split at h1
  · rename_i z
    exact ⟨by rw [r1.length]; exact z, fun p hp => kd_mkL s1 hp r1 h1⟩
  · exact h1.elim
/-- a call by values -/
def CallB (X : Cx) (W : WX) (F : Value) (o : List D → Cells → Res D) : Prop :=
  ∃ r : List V → Hp → VK → Prop, CallR X F r ∧ ∀ (xs : List D) (C : Cells) (vs : List V) (μ : List Addr) (Fh H : Hp) (σ : L2.St) (Q : VK), Sim X.K μ Fh C H → Reps X.K μ Fh vs xs → kd (RD X.K) X.K X.mg W (o xs C) μ Fh σ H Q → r vs H Q
theorem be_callB {id : String} {x : Str} {p : Pos} {o : List D → Cells → Res D} (hc : CallB X W (.builtin id) o) (hg : Gl X x) (hm : X.mg x = none) (hv : bootBuiltins x = some (.builtin id)) (ha : BA X W (e :: es) fs) (hn : x ≠ "__name__" := by decide) (hdb : (x == ("__debug__" : Str)) = false := by decide)
    (he : starEach (e :: es) X.env = (false, eval e X.env) :: starEach es X.env := by rfl) (hpl : (backTo pos (starEach es X.env)).any (·.1) = false := by rfl) : BE X W (.Call (.Name x p) (e :: es) [] pos) (fA o fs) := by
  obtain ⟨r, hr, hk⟩ := hc
  refine peI (pe_callB hr hg hm hv ha hn hdb he hpl) ?_
  rintro σ H Q ⟨ρ, C, μ, F, S, E, k⟩
  exact ⟨ρ, C, μ, F, S, E, kd_bind k fun d C1 v μ1 F1 H1 x1 s1 r1 h1 => hk d C1 v μ1 F1 H1 σ Q s1 r1 h1⟩
theorem be_callTy {T : String} {x : Str} {p : Pos} {o : List D → Cells → Res D} (hc : CallB X W (.type T) o) (hg : Gl X x) (hm : X.mg x = none) (hv : bootBuiltins x = some (.type T)) (ha : BA X W (e :: es) fs) (hn : x ≠ "__name__" := by decide) (hdb : (x == ("__debug__" : Str)) = false := by decide)
    (he : starEach (e :: es) X.env = (false, eval e X.env) :: starEach es X.env := by rfl) (hpl : (backTo pos (starEach es X.env)).any (·.1) = false := by rfl) : BE X W (.Call (.Name x p) (e :: es) [] pos) (fA o fs) := by
  obtain ⟨r, hr, hk⟩ := hc
  refine peI (pe_callTy hr hg hm hv ha hn hdb he hpl) ?_
  rintro σ H Q ⟨ρ, C, μ, F, S, E, k⟩
  exact ⟨ρ, C, μ, F, S, E, kd_bind k fun d C1 v μ1 F1 H1 x1 s1 r1 h1 => hk d C1 v μ1 F1 H1 σ Q s1 r1 h1⟩

/-! ### subscripts -/
def IxB (X : Cx) (W : WX) (o : D → D → Cells → Res D) : Prop :=
  ∃ r : R2, IxR X r ∧ ∀ (x y : D) (C : Cells) (v w : V) (μ : List Addr) (Fh H : Hp) (σ : L2.St) (Q : VK), Sim X.K μ Fh C H → Rep X.K μ Fh v x → Rep X.K μ Fh w y → kd (RD X.K) X.K X.mg W (o x y C) μ Fh σ H Q → r v w H Q
theorem be_ixB {o : D → D → Cells → Res D} (ho : IxB X W o) (ha : BE X W a f) (hb : BE X W b g) (hs : PlainIx b) : BE X W (.Subscript a b pos) (f2 o f g) := by
  obtain ⟨r, hr, hk⟩ := ho
  exact peI (pe_ix hr ha hb hs) (tOp_of hk)
def ixD (x y : D) (C : Cells) : Res D := match asS x C, y with
  | some ds, .int i => match atI ds i with
    | some d => .ok d C
    | none => .stuck
  | _, _ => .stuck
theorem Reps.atI {K : PySem.W.Frag} {μ : List Addr} {F : Hp} {vs : List V} {ds : List D} {i : Int} {d : D} (r : Reps K μ F vs ds) (h : L2.atI ds i = some d) : ∃ v, L2.atI vs i = some v ∧ Rep K μ F v d := by
  unfold L2.atI at h ⊢
  rw [r.length]
  cases q : ixN ds.length i with
  | none => rw [q] at h; cases h
  | some j =>
    rw [q] at h
    exact r.get h
theorem ixB_seq : IxB X W ixD := by
  refine ⟨_, ix_seq, fun x y C v w μ F H σ Q S r1 r2 k => ?_⟩
  unfold ixD at k
  split at k
  · rename_i ds i e
    split at k
    · rename_i d e2
      obtain ⟨a, vs, rfl, q, rs⟩ := asS_rep S r1 e
      obtain ⟨u, e3, r3⟩ := rs.atI e2
      cases r2
      rcases q with q | q
      · exact .inl ⟨a, vs, i, u, rfl, rfl, q, e3, kd_ret S r3 k⟩
      · exact .inr (.inl ⟨a, vs, i, u, rfl, rfl, q, e3, kd_ret S r3 k⟩)
    · exact k.elim
  · exact k.elim
theorem be_ix (ha : BE X W a f) (hb : BE X W b g) (hs : PlainIx b) : BE X W (.Subscript a b pos) (f2 ixD f g) := be_ixB ixB_seq ha hb hs
end
end BV
namespace BV
open PySem PySem.Spec PyProof.Rows L2

section
variable {X : Cx} {W : WX}
theorem OpB.mk {F : Value → Value → Sem Value} {r : R2} {o : D → D → Cells → Res D} (h : OpR X F r)
    (k : ∀ (x y : D) (C : Cells) (v w : V) (μ : List Addr) (Fh H : Hp) (σ : L2.St) (Q : VK), Sim X.K μ Fh C H → Rep X.K μ Fh v x → Rep X.K μ Fh w y → kd (RD X.K) X.K X.mg W (o x y C) μ Fh σ H Q → r v w H Q) : OpB X W F o := ⟨r, h, k⟩

/-! ### arithmetic -/
def addD (m : Bool) (x y : D) (C : Cells) : Res D := match x, y with
  | .int i, .int j => .ok (.int (i + j)) C
  | .str a, .str b => if a.length + b.length ≤ sizeLine then .ok (.str (a ++ b)) C else .stuck
  | .tup xs, .tup ys => if xs.length + ys.length ≤ sizeLine then .ok (.tup (xs ++ ys)) C else .stuck
  | x, y => match asL x C, asL y C with
    | some xs, some ys => if xs.length + ys.length ≤ sizeLine then mkL m (xs ++ ys) C else .stuck
    | _, _ => .stuck
theorem ob_add (m : Bool) : OpB X W (binaryOp .Add) (addD m) := by
  refine .mk (op_add.or (op_add_str.or (op_catA.or op_cat))) fun x y C v w μ F H σ Q S r1 r2 k => ?_
  unfold addD at k
  split at k
  · cases r1
    cases r2
    exact .inl ⟨_, _, rfl, rfl, kd_ret S (.int _) k⟩
  · cases r1
    cases r2
    split at k
    · rename_i z
      exact .inr (.inl ⟨_, _, rfl, rfl, z, kd_ret S (.str _) k⟩)
    · exact k.elim
  · cases r1 with
    | tup a1 b1 =>
      cases r2 with
      | tup a2 b2 =>
        split at k
        · rename_i z
          rw [← b1.length, ← b2.length] at z
          refine .inr (.inr (.inl ⟨_, _, _, _, rfl, rfl, sameT S.sub a1, sameT S.sub a2, z, fun e => ?_, fun _ e => ?_, fun _ _ p hp => kd_mkT S hp (b1.append b2) k⟩))
          · subst e
            cases b1
            exact kd_ret S (.tup a2 b2) k
          · subst e
            cases b2
            rw [List.append_nil] at k
            exact kd_ret S (.tup a1 b1) k
        · exact k.elim
  · split at k
    · rename_i xs ys e1 e2
      split at k
      · rename_i z
        obtain ⟨a, vs, rfl, h1, q1⟩ := asL_rep S r1 e1
        obtain ⟨b, ws, rfl, h2, q2⟩ := asL_rep S r2 e2
        rw [← q1.length, ← q2.length] at z
        exact .inr (.inr (.inr ⟨a, b, vs, ws, rfl, rfl, h1, h2, z, fun p hp => kd_mkL S hp (q1.append q2) k⟩))
      · exact k.elim
    · exact k.elim
def subD (x y : D) (C : Cells) : Res D := match x, y with
  | .int i, .int j => .ok (.int (i - j)) C
  | _, _ => .stuck
theorem ob_sub : OpB X W (binaryOp .Sub) subD := by
  refine .mk op_sub fun x y C v w μ F H σ Q S r1 r2 k => ?_
  unfold subD at k
  split at k
  · cases r1
    cases r2
    exact ⟨_, _, rfl, rfl, kd_ret S (.int _) k⟩
  · exact k.elim
instance (i j : Int) : Decidable (CMul i j) := by unfold CMul; infer_instance
instance (i j : Int) : Decidable (CDiv i j) := by unfold CDiv; infer_instance
instance (i j : Int) : Decidable (CPow i j) := by unfold CPow; infer_instance
def repN {α : Type} (k : Int) (xs : List α) : List α := (List.replicate k.toNat xs).flatten
def mulD (m : Bool) (x y : D) (C : Cells) : Res D := match x, y with
  | .int i, .int j => if CMul i j then .ok (.int (i * j)) C else .stuck
  | .tup xs, .int k => if xs ≠ [] ∧ 2 ≤ k ∧ k ≤ 1000 ∧ xs.length ≤ 1000 then .ok (.tup (repN k xs)) C else .stuck
  | x, .int k => match asL x C with
    | some xs => if -(2 ^ 63) ≤ k ∧ k < 2 ^ 63 ∧ xs.length * k.toNat ≤ sizeLine then mkL m (repN k xs) C else .stuck
    | none => .stuck
  | _, _ => .stuck
theorem ob_mul (m : Bool) : OpB X W (binaryOp .Mult) (mulD m) := by
  refine .mk (op_mul.or (op_repT.or op_rep)) fun x y C v w μ F H σ Q S r1 r2 k => ?_
  unfold mulD at k
  split at k
  · cases r1
    cases r2
    split at k
    · rename_i z
      exact .inl ⟨_, _, rfl, rfl, z, kd_ret S (.int _) k⟩
    · exact k.elim
  · cases r2
    cases r1 with
    | tup a1 b1 =>
      split at k
      · rename_i z
        obtain ⟨z1, z2, z3, z4⟩ := z
        rw [← b1.length] at z4
        refine .inr (.inl ⟨_, _, _, rfl, rfl, sameT S.sub a1, fun e => ?_, z2, z3, z4, fun p hp => kd_mkT S hp (b1.rep _) k⟩)
        subst e
        cases b1
        exact z1 rfl
      · exact k.elim
  · cases r2
    split at k
    · rename_i xs e
      split at k
      · rename_i z
        obtain ⟨z1, z2, z3⟩ := z
        obtain ⟨a, vs, rfl, h1, q1⟩ := asL_rep S r1 e
        rw [← q1.length] at z3
        exact .inr (.inr ⟨a, _, vs, rfl, rfl, h1, z1, z2, z3, fun p hp => kd_mkL S hp (q1.rep _) k⟩)
      · exact k.elim
    · exact k.elim
  · exact k.elim
def fdivD (x y : D) (C : Cells) : Res D := match x, y with
  | .int i, .int j => if CDiv i j then .ok (.int (i / j)) C else .stuck
  | _, _ => .stuck
theorem ob_fdiv : OpB X W (binaryOp .FloorDiv) fdivD := by
  refine .mk op_fdiv fun x y C v w μ F H σ Q S r1 r2 k => ?_
  unfold fdivD at k
  split at k
  · cases r1
    cases r2
    split at k
    · rename_i z
      exact ⟨_, _, rfl, rfl, z, kd_ret S (.int _) k⟩
    · exact k.elim
  · exact k.elim
def modD (x y : D) (C : Cells) : Res D := match x, y with
  | .int i, .int j => if 0 < j then .ok (.int (i % j)) C else .stuck
  | _, _ => .stuck
theorem ob_mod : OpB X W (binaryOp .Mod) modD := by
  refine .mk op_mod fun x y C v w μ F H σ Q S r1 r2 k => ?_
  unfold modD at k
  split at k
  · cases r1
    cases r2
    split at k
    · rename_i z
      exact ⟨_, _, rfl, rfl, z, kd_ret S (.int _) k⟩
    · exact k.elim
  · exact k.elim
def powD (x y : D) (C : Cells) : Res D := match x, y with
  | .int i, .int j => if CPow i j then .ok (.int (i ^ j.toNat)) C else .stuck
  | _, _ => .stuck
theorem ob_pow : OpB X W (binaryOp .Pow) powD := by
  refine .mk op_pow fun x y C v w μ F H σ Q S r1 r2 k => ?_
  unfold powD at k
  split at k
  · cases r1
    cases r2
    split at k
    · rename_i z
      exact ⟨_, _, rfl, rfl, z, kd_ret S (.int _) k⟩
    · exact k.elim
  · exact k.elim
def negD (x : D) (C : Cells) : Res D := match x with
  | .int i => .ok (.int (-i)) C
  | _ => .stuck
theorem be_neg {a : Expr} {f : Rho → Cells → Res D} {pos : Pos} (ha : BE X W a f) : BE X W (.UnaryOp .USub a pos) (f1 negD f) := by
  refine peI (pe_un un_neg ha) ?_
  rintro σ H Q ⟨ρ, C, μ, F, S, E, k⟩
  refine ⟨ρ, C, μ, F, S, E, kd_bind k fun d C1 v μ1 F1 H1 x1 s1 r1 h1 => ?_⟩
  unfold negD at h1
  split at h1
  · cases r1
    exact ⟨_, rfl, kd_ret s1 (.int _) h1⟩
  · exact h1.elim

/-! ### comparisons -/
def cmpI (p : Int → Int → Bool) (x y : D) (C : Cells) : Res D := match x, y with
  | .int i, .int j => .ok (.bl (p i j)) C
  | _, _ => .stuck
abbrev ltD := cmpI fun i j => decide (i < j)
abbrev leD := cmpI fun i j => decide (i ≤ j)
abbrev gtD := cmpI fun i j => decide (j < i)
abbrev geD := cmpI fun i j => decide (j ≤ i)
theorem ob_cmpI {F : Value → Value → Sem Value} {p : Int → Int → Bool} (h : OpR X F (rI0 fun i j => .bl (p i j))) : OpB X W F (cmpI p) := by
  refine .mk h fun x y C v w μ F H σ Q S r1 r2 k => ?_
  unfold cmpI at k
  split at k
  · cases r1
    cases r2
    exact ⟨_, _, rfl, rfl, kd_ret S (.bl _) k⟩
  · exact k.elim
theorem ob_lt : OpB X W (compareOp .Lt) ltD := ob_cmpI op_lt
theorem ob_le : OpB X W (compareOp .LtE) leD := ob_cmpI op_le
theorem ob_gt : OpB X W (compareOp .Gt) gtD := ob_cmpI op_gt
theorem ob_ge : OpB X W (compareOp .GtE) geD := ob_cmpI op_ge
def isNon : D → Bool
  | .non => true
  | _ => false
def isD (neg : Bool) (x y : D) (C : Cells) : Res D := match y with
  | .non => .ok (.bl (if neg then !isNon x else isNon x)) C
  | .bl b => match x with
    | .bl a => .ok (.bl (if neg then !decide (a = b) else decide (a = b))) C
    | _ => .stuck
  | _ => .stuck
theorem isN_dec {K : PySem.W.Frag} {μ : List Addr} {F : Hp} {v : V} {x : D} (r : Rep K μ F v x) : decide (v = V.non) = isNon x := by
  cases r <;> simp [isNon]
theorem ob_is : OpB X W (compareOp .Is) (isD false) := by
  refine .mk (op_isN.or op_isBl) fun x y C v w μ F H σ Q S r1 r2 k => ?_
  unfold isD at k
  split at k
  · cases r2
    refine .inl ⟨rfl, ?_⟩
    rw [isN_dec r1]
    exact kd_ret S (.bl _) k
  · cases r2
    split at k
    · cases r1
      exact .inr ⟨_, _, rfl, rfl, kd_ret S (.bl _) k⟩
    · exact k.elim
  · exact k.elim
theorem ob_isnot : OpB X W (compareOp .IsNot) (isD true) := by
  refine .mk (op_notN.or op_notBl) fun x y C v w μ F H σ Q S r1 r2 k => ?_
  unfold isD at k
  split at k
  · cases r2
    refine .inl ⟨rfl, ?_⟩
    rw [isN_dec r1]
    exact kd_ret S (.bl _) k
  · cases r2
    split at k
    · cases r1
      exact .inr ⟨_, _, rfl, rfl, kd_ret S (.bl _) k⟩
    · exact k.elim
  · exact k.elim
end

/-! ### data without cells as the library's data -/
mutual
def toPy : D → Option PyData
  | .non => some .none
  | .bl b => some (.bool b)
  | .int i => some (.int i)
  | .str x => some (.str x)
  | .tup ds => (toPys ds).map .tuple
  | .ftp ds => (toPys ds).map .tuple
  | .lst ds => (toPys ds).map .list
  | .cel _ => none
  | .scr _ => none
def toPys : List D → Option (List PyData)
  | [] => some []
  | d :: ds => match toPy d, toPys ds with
    | some p, some ps => some (p :: ps)
    | _, _ => none
end
/-- .. a cell's content at the top -/
def toPyC (d : D) (C : Cells) : Option PyData := match d with
  | .cel k => match C[k]? with
    | some (.lst ds) => (toPys ds).map .list
    | _ => none
  | d => toPy d
section
variable {K : PySem.W.Frag} {μ : List Addr} {F H : Hp}
mutual
theorem toPy_dp (hs : Same F H) : ∀ (d : D) (p : PyData) (v : V), toPy d = some p → Rep K μ F v d → Dp K H v p
  | .non, p, v, e, r => by
    simp only [toPy, Option.some.injEq] at e
    subst e
    cases r
    exact .non
  | .bl b, p, v, e, r => by
    simp only [toPy, Option.some.injEq] at e
    subst e
    cases r
    exact .bl b
  | .int i, p, v, e, r => by
    simp only [toPy, Option.some.injEq] at e
    subst e
    cases r
    exact .int i
  | .str x, p, v, e, r => by
    simp only [toPy, Option.some.injEq] at e
    subst e
    cases r
    exact .str x
  | .tup ds, p, v, e, r => by
    simp only [toPy, Option.map_eq_some_iff] at e
    obtain ⟨ps, e1, e2⟩ := e
    subst e2
    cases r with
    | tup a b => exact .tup (sameT hs a) (toPys_dp hs ds ps _ e1 b)
  | .ftp ds, p, v, e, r => by
    simp only [toPy, Option.map_eq_some_iff] at e
    obtain ⟨ps, e1, e2⟩ := e
    subst e2
    cases r with
    | ftp a b c d => exact .tup (sameT hs (ftp_sq a)) (toPys_dp hs ds ps _ e1 d)
  | .lst ds, p, v, e, r => by
    simp only [toPy, Option.map_eq_some_iff] at e
    obtain ⟨ps, e1, e2⟩ := e
    subst e2
    cases r with
    | lst a b => exact .lst (SqL.of (hs _ _ a)) (toPys_dp hs ds ps _ e1 b)
  | .cel _, p, v, e, r => by simp only [toPy] at e; cases e
  | .scr _, p, v, e, r => by simp only [toPy] at e; cases e
theorem toPys_dp (hs : Same F H) : ∀ (ds : List D) (ps : List PyData) (vs : List V), toPys ds = some ps → Reps K μ F vs ds → DpAll K H vs ps
  | [], ps, vs, e, r => by
    simp only [toPys, Option.some.injEq] at e
    subst e
    cases r
    exact .nil
  | d :: ds, ps, vs, e, r => by
    simp only [toPys] at e
    split at e
    · rename_i p ps' e1 e2
      cases e
      cases r with
      | cons a b => exact .cons (toPy_dp hs d p _ e1 a) (toPys_dp hs ds ps' _ e2 b)
    · cases e
end
theorem toPyC_dp {C : Cells} {d : D} {p : PyData} {v : V} (S : Sim K μ F C H) (e : toPyC d C = some p) (r : Rep K μ F v d) : Dp K H v p := by
  unfold toPyC at e
  split at e
  · rename_i k
    split at e
    · rename_i ds hk
      simp only [Option.map_eq_some_iff] at e
      obtain ⟨ps, e1, e2⟩ := e
      subst e2
      cases r with
      | cel a =>
        obtain ⟨_, vs, g, q⟩ := S.cel k _ _ hk a
        exact .lst (SqL.of g) (toPys_dp S.sub ds ps vs e1 q)
    · cases e
  · exact toPy_dp S.sub _ _ _ e r
end

/-! ### ==, in, repr -/
def eqD (neg : Bool) (x y : D) (C : Cells) : Res D := match x, y with
  | .str a, .str b => .ok (.bl (if neg then !decide (a = b) else decide (a = b))) C
  | x, y => match toPyC x C, toPyC y C with
  | some a, some b => if SeqAt.shaped a = true ∧ SeqAt.shaped b = true then .ok (.bl (if neg then !PyData.eqv a b else PyData.eqv a b)) C else .stuck
  | _, _ => .stuck
def inD (neg : Bool) (x y : D) (C : Cells) : Res D := match toPyC x C, toPyC y C with
  | some a, some (.list bs) => if SeqAt.shaped a = true ∧ SeqAt.shaped (.list bs) = true then .ok (.bl (if neg then !bs.any fun z => PyData.eqv z a else bs.any fun z => PyData.eqv z a)) C else .stuck
  | some a, some (.tuple bs) => if SeqAt.shaped a = true ∧ SeqAt.shaped (.tuple bs) = true then .ok (.bl (if neg then !bs.any fun z => PyData.eqv z a else bs.any fun z => PyData.eqv z a)) C else .stuck
  | _, _ => .stuck
section
variable {X : Cx} {W : WX}
theorem ob_eq (hu : X.A.units + 64 < cLine) : OpB X W (compareOp .Eq) (eqD false) := by
  refine .mk (op_eq.or (op_eqD hu)) fun x y C v w μ F H σ Q S r1 r2 k => ?_
  unfold eqD at k
  split at k
  · rename_i a b
    cases r1
    cases r2
    refine .inl ⟨rfl, ?_⟩
    have e : decide (V.str a = V.str b) = decide (a = b) := by simp
    rw [e]
    exact kd_ret S (.bl _) k
  · split at k
    · rename_i a b e1 e2
      split at k
      · rename_i z
        exact .inr ⟨a, b, toPyC_dp S e1 r1, toPyC_dp S e2 r2, z.1, z.2, kd_ret S (.bl _) k⟩
      · exact k.elim
    · exact k.elim
theorem ob_ne (hu : X.A.units + 64 < cLine) : OpB X W (compareOp .NotEq) (eqD true) := by
  refine .mk (op_ne.or (op_neD hu)) fun x y C v w μ F H σ Q S r1 r2 k => ?_
  unfold eqD at k
  split at k
  · rename_i a b
    cases r1
    cases r2
    refine .inl ⟨rfl, ?_⟩
    have e : decide (V.str a = V.str b) = decide (a = b) := by simp
    rw [e]
    exact kd_ret S (.bl _) k
  · split at k
    · rename_i a b e1 e2
      split at k
      · rename_i z
        exact .inr ⟨a, b, toPyC_dp S e1 r1, toPyC_dp S e2 r2, z.1, z.2, kd_ret S (.bl _) k⟩
      · exact k.elim
    · exact k.elim
def rInT (K : PySem.W.Frag) (neg : Bool) : R2 := fun x y H Q => ∃ d ds, Dp K H x d ∧ Dp K H y (.tuple ds) ∧ SeqAt.shaped d = true ∧ SeqAt.shaped (.tuple ds) = true ∧ Q (.bl (if neg then !ds.any fun z => PyData.eqv z d else ds.any fun z => PyData.eqv z d)) H
theorem op_inT (hu : X.A.units + 65 < cLine) : OpR X (compareOp .In) (rInT X.K false) := by
  intro pins s σ H x y v u Q I rx ry h
  obtain ⟨d, ds, h1, h2, s1, s2, q⟩ := h
  obtain ⟨as, q1⟩ := Dp.reads I d x v h1 rx
  obtain ⟨bs, q2⟩ := Dp.reads I (.tuple ds) y u h2 ry
  exact SeqAt.in_tuple_reads q2 q1 (SeqAt.canLay_of_shaped s2) (SeqAt.canLay_of_shaped s1) (room_in_shaped s1 hu) ⟨.bl _, H, I, rfl, q⟩
theorem op_notInT (hu : X.A.units + 65 < cLine) : OpR X (compareOp .NotIn) (rInT X.K true) := by
  intro pins s σ H x y v u Q I rx ry h
  obtain ⟨d, ds, h1, h2, s1, s2, q⟩ := h
  obtain ⟨as, q1⟩ := Dp.reads I d x v h1 rx
  obtain ⟨bs, q2⟩ := Dp.reads I (.tuple ds) y u h2 ry
  exact SeqAt.notIn_tuple_reads q2 q1 (SeqAt.canLay_of_shaped s2) (SeqAt.canLay_of_shaped s1) (room_in_shaped s1 hu) ⟨.bl _, H, I, rfl, q⟩
theorem ob_in (hu : X.A.units + 65 < cLine) : OpB X W (compareOp .In) (inD false) := by
  refine .mk ((op_inD hu).or (op_inT hu)) fun x y C v w μ F H σ Q S r1 r2 k => ?_
  unfold inD at k
  split at k
  · rename_i a b e1 e2
    split at k
    · rename_i z
      exact .inl ⟨a, b, toPyC_dp S e1 r1, toPyC_dp S e2 r2, z.1, z.2, kd_ret S (.bl _) k⟩
    · exact k.elim
  · rename_i a b e1 e2
    split at k
    · rename_i z
      exact .inr ⟨a, b, toPyC_dp S e1 r1, toPyC_dp S e2 r2, z.1, z.2, kd_ret S (.bl _) k⟩
    · exact k.elim
  · exact k.elim
theorem ob_notin (hu : X.A.units + 65 < cLine) : OpB X W (compareOp .NotIn) (inD true) := by
  refine .mk ((op_notInD hu).or (op_notInT hu)) fun x y C v w μ F H σ Q S r1 r2 k => ?_
  unfold inD at k
  split at k
  · rename_i a b e1 e2
    split at k
    · rename_i z
      exact .inl ⟨a, b, toPyC_dp S e1 r1, toPyC_dp S e2 r2, z.1, z.2, kd_ret S (.bl _) k⟩
    · exact k.elim
  · rename_i a b e1 e2
    split at k
    · rename_i z
      exact .inr ⟨a, b, toPyC_dp S e1 r1, toPyC_dp S e2 r2, z.1, z.2, kd_ret S (.bl _) k⟩
    · exact k.elim
  · exact k.elim
/-- repr(x) -/
def oRepr (xs : List D) (C : Cells) : Res D := match xs with
  | [x] => match toPyC x C with
    | some p => if SeqAt.shaped p = true ∧ p.showable = true ∧ p.shown.length ≤ sizeLine then .ok (.str p.shown) C else .stuck
    | none => .stuck
  | _ => .stuck
theorem call_reprD (hg : X.A.guards = some []) (hu : X.A.units + 65 < cLine) : CallR X (.builtin "repr") (fun xs H Q => ∃ x p, xs = [x] ∧ Dp X.K H x p ∧ SeqAt.shaped p = true ∧ p.showable = true ∧ p.shown.length ≤ sizeLine ∧ Q (.str p.shown) H) := by
  intro pins s σ H xs us Q I r h
  obtain ⟨x, p, rfl, hd, sh, hs, hz, q⟩ := h
  obtain ⟨u, rfl, r1⟩ := vals1 r
  have kept : ∀ (h' : Heap) (t : Nat), (∀ b o, s.heap.get? b = some o → h'.get? b = some o) → Inv X pins σ H { s with heap := h', toks := t } := fun h' t hk => I.kept (t' := t) hk
  have big : ∀ d : PyData, Dp X.K H x d → SeqAt.shaped d = true → d.showable = true → d.shown.length ≤ sizeLine → Q (.str d.shown) H → (∃ a, x = .ref a) → wpAny (model X.prog X.w) X.A (call (.builtin "repr") [u]) (EP X pins σ Q) X.xe s := by
    intro d hd sh hs hz q hx
    obtain ⟨a, rfl⟩ := hx
    cases r1
    obtain ⟨as, rd⟩ := Dp.reads I d (.ref a) _ hd rfl
    have h1 := SeqAt.depth_of_shaped sh
    exact repr_of_reads' rd hs (PyData.noDict_hsm (PyData.hasDict_of_canLay d (SeqAt.canLay_of_shaped sh))) hg (by omega) (fun _ _ e => e) (fun h' t tk hk => ⟨.str _, H, kept h' tk hk, ⟨t, rfl⟩, q⟩) hz
  cases hd with
  | non =>
    cases r1
    simp only [PyData.shown] at q
    exact PySem.P.repr_of_none ⟨.str _, H, I.tok _, ⟨_, rfl⟩, q⟩
  | bl b =>
    cases r1
    simp only [PyData.shown] at q
    exact PySem.P.repr_of_bool ⟨.str _, H, I.tok _, ⟨_, rfl⟩, q⟩
  | int i =>
    obtain ⟨t, rfl⟩ := r1
    simp only [PyData.shown] at q
    simp only [PyData.showable, decide_eq_true_eq] at hs
    exact PySem.P.repr_of_int hs ⟨.str _, H, I.tok _, ⟨_, rfl⟩, q⟩
  | str z =>
    obtain ⟨t, rfl⟩ := r1
    simp only [PyData.shown] at q hz
    exact PySem.P.repr_of_str ⟨.str _, H, I.tok _, ⟨_, rfl⟩, q⟩ hz
  | lst a b => exact big _ (.lst a b) sh hs hz q ⟨_, rfl⟩
  | tup a b => exact big _ (.tup a b) sh hs hz q ⟨_, rfl⟩
theorem cb_repr (hg : X.A.guards = some []) (hu : X.A.units + 65 < cLine) : CallB X W (.builtin "repr") oRepr := by
  refine ⟨_, call_reprD hg hu, fun xs C vs μ F H σ Q S r k => ?_⟩
  unfold oRepr at k
  split at k
  · split at k
    · rename_i p e
      split at k
      · rename_i z
        cases r with
        | cons r1 r2 =>
          cases r2
          exact ⟨_, p, rfl, toPyC_dp S e r1, z.1, z.2.1, z.2.2, kd_ret S (.str _) k⟩
      · exact k.elim
    · exact k.elim
  · exact k.elim
end
end BV
namespace BV
open PySem PySem.Spec PyProof.Rows L2

def ints? : List D → Option (List Int)
  | [] => some []
  | .int i :: r => (ints? r).map (i :: ·)
  | _ => none
def bls? : List D → Option (List Bool)
  | [] => some []
  | .bl i :: r => (bls? r).map (i :: ·)
  | _ => none
theorem ints?_eq : ∀ {ds : List D} {ns : List Int}, ints? ds = some ns → ds = ns.map .int
  | [], ns, e => by
    simp only [ints?, Option.some.injEq] at e
    subst e
    rfl
  | d :: r, ns, e => by
    cases d with
    | int i =>
      simp only [ints?, Option.map_eq_some_iff] at e
      obtain ⟨ms, e1, e2⟩ := e
      subst e2
      rw [ints?_eq e1]
      rfl
    | _ => simp only [ints?] at e; cases e
theorem bls?_eq : ∀ {ds : List D} {ns : List Bool}, bls? ds = some ns → ds = ns.map .bl
  | [], ns, e => by
    simp only [bls?, Option.some.injEq] at e
    subst e
    rfl
  | d :: r, ns, e => by
    cases d with
    | bl i =>
      simp only [bls?, Option.map_eq_some_iff] at e
      obtain ⟨ms, e1, e2⟩ := e
      subst e2
      rw [bls?_eq e1]
      rfl
    | _ => simp only [bls?] at e; cases e
@[simp] theorem ints?_map (ns : List Int) : ints? (ns.map D.int) = some ns := by
  induction ns with
  | nil => rfl
  | cons n ns ih => simp [ints?, ih]
@[simp] theorem bls?_map (ns : List Bool) : bls? (ns.map D.bl) = some ns := by
  induction ns with
  | nil => rfl
  | cons n ns ih => simp [bls?, ih]

section
variable {X : Cx} {W : WX}
/-! ### len, int, abs -/
def oLen (xs : List D) (C : Cells) : Res D := match xs with
  | [.str x] => if x.length ≤ sizeLine then .ok (.int x.length) C else .stuck
  | [d] => match asS d C with
    | some ds => .ok (.int ds.length) C
    | none => .stuck
  | _ => .stuck
theorem reps1 {K : PySem.W.Frag} {μ : List Addr} {F : Hp} {vs : List V} {d : D} (r : Reps K μ F vs [d]) : ∃ v, vs = [v] ∧ Rep K μ F v d := by
  cases r with
  | cons a b =>
    cases b
    exact ⟨_, rfl, a⟩
theorem reps2 {K : PySem.W.Frag} {μ : List Addr} {F : Hp} {vs : List V} {d e : D} (r : Reps K μ F vs [d, e]) : ∃ v w, vs = [v, w] ∧ Rep K μ F v d ∧ Rep K μ F w e := by
  cases r with
  | cons a b =>
    obtain ⟨w, rfl, c⟩ := reps1 b
    exact ⟨_, w, rfl, a, c⟩
theorem cb_len : CallB X W (.builtin "len") oLen := by
  refine ⟨_, call_len, fun xs C vs μ F H σ Q S r k => ?_⟩
  unfold oLen at k
  split at k
  · obtain ⟨v, rfl, r1⟩ := reps1 r
    cases r1
    split at k
    · rename_i z
      exact ⟨_, _, rfl, ⟨z, rfl⟩, kd_ret S (.int _) k⟩
    · exact k.elim
  · obtain ⟨v, rfl, r1⟩ := reps1 r
    split at k
    · rename_i ds e
      obtain ⟨a, vs, rfl, q, rs⟩ := asS_rep S r1 e
      rw [← rs.length] at k
      refine ⟨_, _, rfl, ?_, kd_ret S (.int _) k⟩
      rcases q with q | q
      · exact .inl ⟨vs, q, rfl⟩
      · exact .inr ⟨vs, q, rfl⟩
    · exact k.elim
  · exact k.elim
def oInt (xs : List D) (C : Cells) : Res D := match xs with
  | [.int i] => .ok (.int i) C
  | [.bl b] => .ok (.int (if b then 1 else 0)) C
  | _ => .stuck
theorem cb_int : CallB X W (.type "int") oInt := by
  refine ⟨_, call_int1, fun xs C vs μ F H σ Q S r k => ?_⟩
  unfold oInt at k
  split at k
  · obtain ⟨v, rfl, r1⟩ := reps1 r
    cases r1
    exact .inl ⟨_, rfl, kd_ret S (.int _) k⟩
  · obtain ⟨v, rfl, r1⟩ := reps1 r
    cases r1
    exact .inr ⟨_, rfl, kd_ret S (.int _) k⟩
  · exact k.elim
def oAbs (xs : List D) (C : Cells) : Res D := match xs with
  | [.int i] => .ok (.int (if i < 0 then -i else i)) C
  | _ => .stuck
theorem cb_abs : CallB X W (.builtin "abs") oAbs := by
  refine ⟨_, call_abs, fun xs C vs μ F H σ Q S r k => ?_⟩
  unfold oAbs at k
  split at k
  · obtain ⟨v, rfl, r1⟩ := reps1 r
    cases r1
    exact ⟨_, rfl, kd_ret S (.int _) k⟩
  · exact k.elim
/-! ### max, min, sum, all, any -/
def maxI : List Int → Option Int
  | [] => none
  | n :: ns => some (ns.foldl (fun a b => if b > a then b else a) n)
def minI : List Int → Option Int
  | [] => none
  | n :: ns => some (ns.foldl (fun a b => if b < a then b else a) n)
theorem foldl_max (ns : List Int) : ∀ n : Int, (ns.foldl (fun a b => if b > a then b else a) n = n ∨ ns.foldl (fun a b => if b > a then b else a) n ∈ ns) ∧ n ≤ ns.foldl (fun a b => if b > a then b else a) n ∧ ∀ y ∈ ns, y ≤ ns.foldl (fun a b => if b > a then b else a) n := by
  induction ns with
  | nil => intro n; simp
  | cons m ns ih =>
    intro n
    simp only [List.foldl_cons]
    obtain ⟨h1, h2, h3⟩ := ih (if m > n then m else n)
    refine ⟨?_, ?_, ?_⟩
    · rcases h1 with h1 | h1
      · by_cases c : m > n
        · rw [if_pos c] at h1 ⊢
          exact .inr (by rw [h1]; simp)
        · rw [if_neg c] at h1 ⊢
          exact .inl h1
      · exact .inr (List.mem_cons_of_mem _ h1)
    · by_cases c : m > n
      · rw [if_pos c] at h2 ⊢
        omega
      · rw [if_neg c] at h2 ⊢
        exact h2
    · intro y hy
      rcases List.mem_cons.mp hy with e | hy
      · subst e
        by_cases c : y > n
        · rw [if_pos c] at h2 ⊢
          exact h2
        · rw [if_neg c] at h2 ⊢
          omega
      · exact h3 y hy
theorem foldl_min (ns : List Int) : ∀ n : Int, (ns.foldl (fun a b => if b < a then b else a) n = n ∨ ns.foldl (fun a b => if b < a then b else a) n ∈ ns) ∧ ns.foldl (fun a b => if b < a then b else a) n ≤ n ∧ ∀ y ∈ ns, ns.foldl (fun a b => if b < a then b else a) n ≤ y := by
  induction ns with
  | nil => intro n; simp
  | cons m ns ih =>
    intro n
    simp only [List.foldl_cons]
    obtain ⟨h1, h2, h3⟩ := ih (if m < n then m else n)
    refine ⟨?_, ?_, ?_⟩
    · rcases h1 with h1 | h1
      · by_cases c : m < n
        · rw [if_pos c] at h1 ⊢
          exact .inr (by rw [h1]; simp)
        · rw [if_neg c] at h1 ⊢
          exact .inl h1
      · exact .inr (List.mem_cons_of_mem _ h1)
    · by_cases c : m < n
      · rw [if_pos c] at h2 ⊢
        omega
      · rw [if_neg c] at h2 ⊢
        exact h2
    · intro y hy
      rcases List.mem_cons.mp hy with e | hy
      · subst e
        by_cases c : y < n
        · rw [if_pos c] at h2 ⊢
          exact h2
        · rw [if_neg c] at h2 ⊢
          omega
      · exact h3 y hy
theorem maxI_spec {ns : List Int} {m : Int} (h : maxI ns = some m) : m ∈ ns ∧ ∀ y ∈ ns, y ≤ m := by
  cases ns with
  | nil => cases h
  | cons n ns =>
    simp only [maxI, Option.some.injEq] at h
    subst h
    obtain ⟨h1, h2, h3⟩ := foldl_max ns n
    refine ⟨?_, fun y hy => ?_⟩
    · rcases h1 with h1 | h1
      · rw [h1]
        simp
      · exact List.mem_cons_of_mem _ h1
    · rcases List.mem_cons.mp hy with e | hy
      · rw [e]
        exact h2
      · exact h3 y hy
theorem minI_spec {ns : List Int} {m : Int} (h : minI ns = some m) : m ∈ ns ∧ ∀ y ∈ ns, m ≤ y := by
  cases ns with
  | nil => cases h
  | cons n ns =>
    simp only [minI, Option.some.injEq] at h
    subst h
    obtain ⟨h1, h2, h3⟩ := foldl_min ns n
    refine ⟨?_, fun y hy => ?_⟩
    · rcases h1 with h1 | h1
      · rw [h1]
        simp
      · exact List.mem_cons_of_mem _ h1
    · rcases List.mem_cons.mp hy with e | hy
      · rw [e]
        exact h2
      · exact h3 y hy
def intsC (d : D) (C : Cells) : Option (List Int) := (asL d C).bind ints?
theorem intsC_rep {K : PySem.W.Frag} {μ : List Addr} {F H : Hp} {C : Cells} {v : V} {d : D} {ns : List Int} (S : Sim K μ F C H) (r : Rep K μ F v d) (h : intsC d C = some ns) : ∃ a, v = .ref a ∧ H a = some (.lst (ns.map V.int)) := by
  unfold intsC at h
  simp only [Option.bind_eq_some_iff] at h
  obtain ⟨ds, e1, e2⟩ := h
  obtain ⟨a, vs, rfl, g, rs⟩ := asL_rep S r e1
  rw [ints?_eq e2] at rs
  rw [rs.of_ints] at g
  exact ⟨a, rfl, g⟩
def oMax (xs : List D) (C : Cells) : Res D := match xs with
  | [.int i, .int j] => .ok (.int (if j > i then j else i)) C
  | [d] => match (intsC d C).bind maxI with
    | some m => .ok (.int m) C
    | none => .stuck
  | _ => .stuck
def oMin (xs : List D) (C : Cells) : Res D := match xs with
  | [.int i, .int j] => .ok (.int (if j < i then j else i)) C
  | [d] => match (intsC d C).bind minI with
    | some m => .ok (.int m) C
    | none => .stuck
  | _ => .stuck
theorem cb_max (hc : X.calm = true) : CallB X W (.builtin "max") oMax := by
  refine ⟨_, (call_max2 hc).or (cr_max hc), fun xs C vs μ F H σ Q S r k => ?_⟩
  unfold oMax at k
  split at k
  · obtain ⟨v, w, rfl, r1, r2⟩ := reps2 r
    cases r1
    cases r2
    exact .inl ⟨_, _, rfl, kd_ret S (.int _) k⟩
  · obtain ⟨v, rfl, r1⟩ := reps1 r
    split at k
    · rename_i m e
      simp only [Option.bind_eq_some_iff] at e
      obtain ⟨ns, e1, e2⟩ := e
      obtain ⟨a, rfl, g⟩ := intsC_rep S r1 e1
      obtain ⟨h1, h2⟩ := maxI_spec e2
      refine .inr ⟨a, ns, rfl, SqL.of g, List.length_pos_of_mem h1, fun m' h3 h4 => ?_⟩
      have e : m' = m := Int.le_antisymm (h2 _ h3) (h4 _ h1)
      rw [e]
      exact kd_ret S (.int _) k
    · exact k.elim
  · exact k.elim
theorem cb_min (hc : X.calm = true) : CallB X W (.builtin "min") oMin := by
  refine ⟨_, (call_min2 hc).or (cr_min hc), fun xs C vs μ F H σ Q S r k => ?_⟩
  unfold oMin at k
  split at k
  · obtain ⟨v, w, rfl, r1, r2⟩ := reps2 r
    cases r1
    cases r2
    exact .inl ⟨_, _, rfl, kd_ret S (.int _) k⟩
  · obtain ⟨v, rfl, r1⟩ := reps1 r
    split at k
    · rename_i m e
      simp only [Option.bind_eq_some_iff] at e
      obtain ⟨ns, e1, e2⟩ := e
      obtain ⟨a, rfl, g⟩ := intsC_rep S r1 e1
      obtain ⟨h1, h2⟩ := minI_spec e2
      refine .inr ⟨a, ns, rfl, SqL.of g, List.length_pos_of_mem h1, fun m' h3 h4 => ?_⟩
      have e : m' = m := Int.le_antisymm (h4 _ h1) (h2 _ h3)
      rw [e]
      exact kd_ret S (.int _) k
    · exact k.elim
  · exact k.elim
def oSum (xs : List D) (C : Cells) : Res D := match xs with
  | [d] => match intsC d C with
    | some ns => .ok (.int ns.sum) C
    | none => .stuck
  | _ => .stuck
theorem cb_sum (hc : X.calm = true) : CallB X W (.builtin "sum") oSum := by
  refine ⟨_, cr_sum hc, fun xs C vs μ F H σ Q S r k => ?_⟩
  unfold oSum at k
  split at k
  · obtain ⟨v, rfl, r1⟩ := reps1 r
    split at k
    · rename_i ns e
      obtain ⟨a, rfl, g⟩ := intsC_rep S r1 e
      exact ⟨a, ns, rfl, SqL.of g, kd_ret S (.int _) k⟩
    · exact k.elim
  · exact k.elim
def blsC (d : D) (C : Cells) : Option (List Bool) := (asL d C).bind bls?
theorem blsC_rep {K : PySem.W.Frag} {μ : List Addr} {F H : Hp} {C : Cells} {v : V} {d : D} {ns : List Bool} (S : Sim K μ F C H) (r : Rep K μ F v d) (h : blsC d C = some ns) : ∃ a, v = .ref a ∧ H a = some (.lst (ns.map V.bl)) := by
  unfold blsC at h
  simp only [Option.bind_eq_some_iff] at h
  obtain ⟨ds, e1, e2⟩ := h
  obtain ⟨a, vs, rfl, g, rs⟩ := asL_rep S r e1
  rw [bls?_eq e2] at rs
  rw [rs.of_bls] at g
  exact ⟨a, rfl, g⟩
def oAll (xs : List D) (C : Cells) : Res D := match xs with
  | [d] => match blsC d C with
    | some bs => .ok (.bl (bs.all id)) C
    | none => .stuck
  | _ => .stuck
def oAny (xs : List D) (C : Cells) : Res D := match xs with
  | [d] => match blsC d C with
    | some bs => .ok (.bl (bs.any id)) C
    | none => .stuck
  | _ => .stuck
theorem cb_all (hc : X.calm = true) : CallB X W (.builtin "all") oAll := by
  refine ⟨_, cr_all hc, fun xs C vs μ F H σ Q S r k => ?_⟩
  unfold oAll at k
  split at k
  · obtain ⟨v, rfl, r1⟩ := reps1 r
    split at k
    · rename_i ns e
      obtain ⟨a, rfl, g⟩ := blsC_rep S r1 e
      exact ⟨a, ns, rfl, SqL.of g, kd_ret S (.bl _) k⟩
    · exact k.elim
  · exact k.elim
theorem cb_any (hc : X.calm = true) : CallB X W (.builtin "any") oAny := by
  refine ⟨_, cr_any hc, fun xs C vs μ F H σ Q S r k => ?_⟩
  unfold oAny at k
  split at k
  · obtain ⟨v, rfl, r1⟩ := reps1 r
    split at k
    · rename_i ns e
      obtain ⟨a, rfl, g⟩ := blsC_rep S r1 e
      exact ⟨a, ns, rfl, SqL.of g, kd_ret S (.bl _) k⟩
    · exact k.elim
  · exact k.elim
/-! ### list, tuple -/
def oList (m : Bool) (xs : List D) (C : Cells) : Res D := match xs with
  | [d] => match asS d C with
    | some ds => mkL m ds C
    | none => .stuck
  | _ => .stuck
theorem cb_list (m : Bool) : CallB X W (.type "list") (oList m) := by
  refine ⟨_, call_list_of, fun xs C vs μ F H σ Q S r k => ?_⟩
  unfold oList at k
  split at k
  · obtain ⟨v, rfl, r1⟩ := reps1 r
    split at k
    · rename_i ds e
      obtain ⟨a, vs, rfl, g, rs⟩ := asS_rep S r1 e
      exact ⟨a, vs, rfl, g, fun p hp => kd_mkL S hp rs k⟩
    · exact k.elim
  · exact k.elim
def oTuple (xs : List D) (C : Cells) : Res D := match xs with
  | [d] => match asS d C with
    | some ds => .ok (.tup ds) C
    | none => .stuck
  | _ => .stuck
theorem asT_rep {K : PySem.W.Frag} {μ : List Addr} {F H : Hp} {C : Cells} {v : V} {d : D} {ds : List D} (S : Sim K μ F C H) (r : Rep K μ F v d) (h : asS d C = some ds) :
    ∃ a vs, v = .ref a ∧ Reps K μ F vs ds ∧ (SqL K H a vs ∨ (SqT K H a vs ∧ SqT K F a vs)) := by
  cases r with
  | tup a b =>
    simp only [asS, Option.some.injEq] at h
    subst h
    exact ⟨_, _, rfl, b, .inr ⟨sameT S.sub a, a⟩⟩
  | ftp a b c d =>
    simp only [asS, Option.some.injEq] at h
    subst h
    exact ⟨_, _, rfl, d, .inr ⟨sameT S.sub (ftp_sq a), ftp_sq a⟩⟩
  | lst a b =>
    simp only [asS, Option.some.injEq] at h
    subst h
    exact ⟨_, _, rfl, b, .inl (SqL.of (S.sub _ _ a))⟩
  | scr a =>
    simp only [asS, Option.some.injEq] at h
    subst h
    exact ⟨_, _, rfl, Reps.ints _, .inl (S.sub.seq a)⟩
  | cel a =>
    rename_i a' k
    simp only [asS] at h
    split at h
    · rename_i ds' e
      cases h
      obtain ⟨_, vs, g, r⟩ := S.cel k _ _ e a
      exact ⟨_, vs, rfl, r, .inl (SqL.of g)⟩
    · cases h
  | _ => cases h
theorem cb_tuple : CallB X W (.type "tuple") oTuple := by
  refine ⟨_, call_tuple_of, fun xs C vs μ F H σ Q S r k => ?_⟩
  unfold oTuple at k
  split at k
  · obtain ⟨v, rfl, r1⟩ := reps1 r
    split at k
    · rename_i ds e
      obtain ⟨a, vs, rfl, rs, g⟩ := asT_rep S r1 e
      rcases g with g | ⟨g, g2⟩
      · exact ⟨a, vs, rfl, .inl ⟨g, fun p hp => kd_mkT S hp rs k⟩⟩
      · exact ⟨a, vs, rfl, .inr ⟨g, kd_ret S (.tup g2 rs) k⟩⟩
    · exact k.elim
  · exact k.elim

/-! ### ranges as lists, as tuples -/
def rg (a b : Int) : List D := (List.range (b - a).toNat).map fun (i : Nat) => D.int (a + (i : Nat))
theorem reps_rg {K : PySem.W.Frag} {μ : List Addr} {F : Hp} (a b : Int) : Reps K μ F (rgV a b) (rg a b) := by
  unfold rgV rg
  induction List.range (b - a).toNat with
  | nil => exact .nil
  | cons n ns ih => exact .cons (.int _) ih
instance (a b : Int) : Decidable (RgOk a b) := by unfold RgOk; infer_instance
def RG (K : PySem.W.Frag) (mg : Str → Option Value) (W : WX) (f : Rho → Cells → Res (Int × Int)) : L2.St → Hp → (Int → Int → Hp → Prop) → Prop := fun σ H Q => ∃ ρ C μ F, Sim K μ F C H ∧ ERel K μ F ρ σ ∧ kd (fun _ _ (v : Int × Int) d => v = d) K mg W (f ρ C) μ F σ H (fun p H' => Q p.1 p.2 H')
abbrev BRg (X : Cx) (W : WX) (e : Expr) (f : Rho → Cells → Res (Int × Int)) : Prop := PRg X e (RG X.K X.mg W f)
def rg1 (f : Rho → Cells → Res D) : Rho → Cells → Res (Int × Int) := fun ρ C => (f ρ C).bind fun x C1 => match x with
  | .int j => .ok (0, j) C1
  | _ => .stuck
def rg2 (f g : Rho → Cells → Res D) : Rho → Cells → Res (Int × Int) := fun ρ C => (f ρ C).bind fun x C1 => (g ρ C1).bind fun y C2 => match x, y with
  | .int i, .int j => .ok (i, j) C2
  | _, _ => .stuck
variable {a b e : Expr} {f g : Rho → Cells → Res D} {fr : Rho → Cells → Res (Int × Int)} {p pos : Pos}
theorem prgI {t t' : L2.St → Hp → (Int → Int → Hp → Prop) → Prop} (h : PRg X e t) (k : ∀ σ H Q, t' σ H Q → t σ H Q) : PRg X e t' := fun pins s σ H R I q => h pins s σ H R I (k σ H R q)
theorem brg1 (hg : Gl X "range") (hm : X.mg "range" = none) (ha : BE X W a f) (na : starEach [a] X.env = (false, eval a X.env) :: starEach [] X.env := by rfl) : BRg X W (.Call (.Name "range" p) [a] [] pos) (rg1 f) := by
  refine prgI (prg_1 hg hm ha na) ?_
  rintro σ H Q ⟨ρ, C, μ, F, S, E, k⟩
  refine ⟨ρ, C, μ, F, S, E, kd_bind k fun d C1 v μ1 F1 H1 x1 s1 r1 h1 => ?_⟩
  cases d with
  | int j =>
    cases r1
    exact ⟨j, rfl, kd_ret (v := ((0 : Int), j)) s1 rfl h1⟩
  | _ => exact False.elim h1
theorem brg2 (hg : Gl X "range") (hm : X.mg "range" = none) (ha : BE X W a f) (hb : BE X W b g) (na : starEach [a, b] X.env = (false, eval a X.env) :: starEach [b] X.env := by rfl)
    (nb : starEach [b] X.env = (false, eval b X.env) :: starEach [] X.env := by rfl) (hp : (backTo pos (starEach [b] X.env)).any (·.1) = false := by rfl) : BRg X W (.Call (.Name "range" p) [a, b] [] pos) (rg2 f g) := by
  refine prgI (prg_2 hg hm ha hb na nb hp) ?_
  rintro σ H Q ⟨ρ, C, μ, F, S, E, k⟩
  refine ⟨ρ, C, μ, F, S, E, kd_bind k fun d C1 v μ1 F1 H1 x1 s1 r1 h1 => ?_⟩
  refine ⟨ρ, C1, μ1, F1, s1, x1.env E, kd_bind h1 fun d2 C2 v2 μ2 F2 H2 x2 s2 r2 h2 => ?_⟩
  cases d with
  | int i =>
    cases r1
    cases d2 with
    | int j =>
      cases r2
      exact ⟨i, j, rfl, rfl, kd_ret (v := (i, j)) s2 rfl h2⟩
    | _ => exact False.elim h2
  | _ => exact False.elim h2
def lstRg (m : Bool) (fr : Rho → Cells → Res (Int × Int)) : Rho → Cells → Res D := fun ρ C => (fr ρ C).bind fun p C1 => if RgOk p.1 p.2 then mkL m (rg p.1 p.2) C1 else .stuck
def tupRg (fr : Rho → Cells → Res (Int × Int)) : Rho → Cells → Res D := fun ρ C => (fr ρ C).bind fun p C1 => if RgOk p.1 p.2 then .ok (.tup (rg p.1 p.2)) C1 else .stuck
theorem be_lstRg (m : Bool) (hc : X.calm = true) (hg : Gl X "list") (hm : X.mg "list" = none) (he : BRg X W e fr) (na : starEach [e] X.env = (false, eval e X.env) :: starEach [] X.env := by rfl) : BE X W (.Call (.Name "list" p) [e] [] pos) (lstRg m fr) := by
  refine peI (pe_listRg hc hg hm he na) ?_
  rintro σ H Q ⟨ρ, C, μ, F, S, E, k⟩
  refine ⟨ρ, C, μ, F, S, E, kd_bind k fun d C1 v μ1 F1 H1 x1 s1 r1 h1 => ?_⟩
  cases r1
  split at h1
  · rename_i z
    exact ⟨z, fun q hq => kd_mkL s1 hq (reps_rg _ _) h1⟩
  · exact h1.elim
theorem be_tupRg (hc : X.calm = true) (hg : Gl X "tuple") (hm : X.mg "tuple" = none) (he : BRg X W e fr) (na : starEach [e] X.env = (false, eval e X.env) :: starEach [] X.env := by rfl) : BE X W (.Call (.Name "tuple" p) [e] [] pos) (tupRg fr) := by
  refine peI (pe_tupRg hc hg hm he na) ?_
  rintro σ H Q ⟨ρ, C, μ, F, S, E, k⟩
  refine ⟨ρ, C, μ, F, S, E, kd_bind k fun d C1 v μ1 F1 H1 x1 s1 r1 h1 => ?_⟩
  cases r1
  split at h1
  · rename_i z
    exact ⟨z, fun q hq => kd_mkT s1 hq (reps_rg _ _) h1⟩
  · exact h1.elim

/-! ### slices -/
def cut {α : Type} (xs : List α) (lo hi : Option Int) : List α := (xs.drop (HT.sIx xs.length 0 lo)).take (HT.sIx xs.length xs.length hi - HT.sIx xs.length 0 lo)
theorem Reps.cut {K : PySem.W.Frag} {μ : List Addr} {F : Hp} {vs : List V} {ds : List D} (r : Reps K μ F vs ds) (lo hi : Option Int) : Reps K μ F (cutV vs lo hi) (BV.cut ds lo hi) := by
  unfold cutV BV.cut
  rw [r.length]
  exact (r.drop _).take _
def RO (K : PySem.W.Frag) (mg : Str → Option Value) (W : WX) (f : Rho → Cells → Res (Option Int)) : TO := fun σ H Q => ∃ ρ C μ F, Sim K μ F C H ∧ ERel K μ F ρ σ ∧ kd (fun _ _ (v : Option Int) d => v = d) K mg W (f ρ C) μ F σ H Q
abbrev BO (X : Cx) (W : WX) (e : Option Expr) (f : Rho → Cells → Res (Option Int)) : Prop := PO X e (RO X.K X.mg W f)
theorem poI {e : Option Expr} {t t' : TO} (h : PO X e t) (k : ∀ σ H Q, t' σ H Q → t σ H Q) : PO X e t' := ⟨fun pins s σ H Q I q => h.run pins s σ H Q I (k σ H Q q)⟩
def pNo : Rho → Cells → Res (Option Int) := fun _ C => .ok none C
def pSo (f : Rho → Cells → Res D) : Rho → Cells → Res (Option Int) := fun ρ C => (f ρ C).bind fun x C1 => match x with
  | .int i => .ok (some i) C1
  | _ => .stuck
theorem bo_none : BO X W none pNo := by
  refine poI po_none ?_
  rintro σ H Q ⟨ρ, C, μ, F, S, E, k⟩
  exact kd_ret S rfl k
theorem bo_some (h : BE X W e f) : BO X W (some e) (pSo f) := by
  refine poI (po_some h) ?_
  rintro σ H Q ⟨ρ, C, μ, F, S, E, k⟩
  refine ⟨ρ, C, μ, F, S, E, kd_bind k fun d C1 v μ1 F1 H1 x1 s1 r1 h1 => ?_⟩
  cases d with
  | int i =>
    cases r1
    exact ⟨i, rfl, kd_ret (v := some i) s1 rfl h1⟩
  | _ => exact False.elim h1
def slD (m : Bool) (x : D) (lo hi : Option Int) (C : Cells) : Res D := match x with
  | .tup ds => .ok (.tup (cut ds lo hi)) C
  | x => match asL x C with
    | some ds => mkL m (cut ds lo hi) C
    | none => .stuck
def fSl (m : Bool) (f : Rho → Cells → Res D) (l h : Rho → Cells → Res (Option Int)) : Rho → Cells → Res D := fun ρ C => (f ρ C).bind fun x C1 => (l ρ C1).bind fun lo C2 => (h ρ C2).bind fun hi C3 => slD m x lo hi C3
theorem cut_whole {ds : List D} {lo hi : Option Int} (h : HT.sIx ds.length 0 lo = 0 ∧ HT.sIx ds.length ds.length hi = ds.length) : cut ds lo hi = ds := by
  unfold cut
  rw [h.1, h.2]
  simp
variable {lo hi : Option Expr} {fl fh : Rho → Cells → Res (Option Int)} {p2 : Pos}
theorem be_sl (m : Bool) (he : BE X W e f) (hl : BO X W lo fl) (hh : BO X W hi fh) : BE X W (.Subscript e (.Slice lo hi none p2) pos) (fSl m f fl fh) := by
  refine peI (pe_slice (sl_tupA.or sl_list) he hl hh) ?_
  rintro σ H Q ⟨ρ, C, μ, F, S, E, k⟩
  refine ⟨ρ, C, μ, F, S, E, kd_bind k fun d C1 v μ1 F1 H1 x1 s1 r1 h1 => ?_⟩
  refine ⟨ρ, C1, μ1, F1, s1, x1.env E, kd_bind h1 fun l C2 v2 μ2 F2 H2 x2 s2 r2 h2 => ?_⟩
  refine ⟨ρ, C2, μ2, F2, s2, x2.env (x1.env E), kd_bind h2 fun h C3 v3 μ3 F3 H3 x3 s3 r3 h3 => ?_⟩
  cases r2
  cases r3
  have r := x3.rep (x2.rep r1)
  unfold slD at h3
  split at h3
  · cases r with
    | tup a b =>
      refine .inl ⟨_, _, rfl, sameT s3.sub a, fun z => ?_, fun _ p hp => kd_mkT s3 hp (b.cut _ _) h3⟩
      rw [b.length] at z
      rw [cut_whole z] at h3
      exact kd_ret s3 (.tup a b) h3
  · split at h3
    · rename_i ds e
      obtain ⟨a, vs, rfl, g, rs⟩ := asL_rep s3 r e
      exact .inr ⟨a, vs, rfl, SqL.of g, fun p hp => kd_mkL s3 hp (rs.cut _ _) h3⟩
    · exact h3.elim

/-! ### isinstance with built-in types -/
def tyD (d : D) (C : Cells) : Option String := match d with
  | .non => some "NoneType"
  | .bl _ => some "bool"
  | .int _ => some "int"
  | .str _ => some "str"
  | .tup _ => some "tuple"
  | .ftp _ => some "tuple"
  | .lst _ => some "list"
  | .scr _ => some "list"
  | .cel k => match C[k]? with
    | some (.lst _) => some "list"
    | _ => none
def isTy (t c : String) : Bool := t == c || (t == "bool" && c == "int")
def isiD (cs : List String) (d : D) (C : Cells) : Res D := match tyD d C with
  | some t => .ok (.bl (cs.any fun c => isTy t c)) C
  | none => .stuck
def tyNames : List String := ["NoneType", "bool", "int", "str", "tuple", "list"]
def clNames : List String := ["bool", "int", "str", "tuple", "list"]
theorem kit_ty (K : PySem.W.Frag) : ∀ t ∈ tyNames, ∀ c ∈ clNames, PySem.W.kitOne K (.type t) (.type c) = some (isTy t c) := by
  intro t ht c hc
  simp only [tyNames, clNames, List.mem_cons, List.not_mem_nil, or_false] at ht hc
  rcases ht with rfl | rfl | rfl | rfl | rfl | rfl <;> rcases hc with rfl | rfl | rfl | rfl | rfl <;> rfl
theorem tyD_rep {K : PySem.W.Frag} {μ : List Addr} {F H : Hp} {C : Cells} {v : V} {d : D} {t : String} (S : Sim K μ F C H) (r : Rep K μ F v d) (h : tyD d C = some t) : TyX K H v (.type t) ∧ t ∈ tyNames := by
  cases r with
  | non => cases h; exact ⟨.base .non, by decide⟩
  | bl b => cases h; exact ⟨.base (.bl b), by decide⟩
  | int b => cases h; exact ⟨.base (.int b), by decide⟩
  | str b => cases h; exact ⟨.base (.str b), by decide⟩
  | lst a b => cases h; exact ⟨.base (.lst (S.sub _ _ a)), by decide⟩
  | tup a b =>
    cases h
    refine ⟨?_, by decide⟩
    rcases sameT S.sub a with (q | ⟨o, q⟩) | ⟨o, its, n, q1, q2, _⟩
    · exact .base (.tup q)
    · exact .fTuple q
    · exact .kTuple q1 q2
  | ftp a b c d =>
    cases h
    exact ⟨.fTuple (S.sub _ _ a), by decide⟩
  | scr a =>
    cases h
    refine ⟨?_, by decide⟩
    rcases S.sub.seq a with (q | ⟨o, q⟩) | ⟨o, its, n, q1, q2, _⟩
    · exact .base (.lst q)
    · exact .base (.frz q)
    · exact .kList q1 q2
  | cel a =>
    rename_i a' k
    simp only [tyD] at h
    split at h
    · rename_i ds' e
      cases h
      obtain ⟨_, vs, g, r⟩ := S.cel k _ _ e a
      exact ⟨.base (.lst g), by decide⟩
    · cases h
variable {c c2 : String} {tx : Expr} {x : Str}
theorem be_isi1 (hc : c ∈ clNames) (hg : Gl X "isinstance") (hm : X.mg "isinstance" = none) (he : BE X W e f) (hx : PE X tx (tC (.ty c)))
    (n1 : starEach [e, tx] X.env = (false, eval e X.env) :: starEach [tx] X.env := by rfl) (n2 : starEach [tx] X.env = (false, eval tx X.env) :: starEach [] X.env := by rfl) (hpl : (backTo pos (starEach [tx] X.env)).any (·.1) = false := by rfl) :
    BE X W (.Call (.Name "isinstance" p) [e, tx] [] pos) (f1 (isiD [c]) f) := by
  refine peI (pe_callB call_isi hg hm (by decide +kernel) (pa_cons he (pa_cons hx pa_nil n2) n1) (he := n1) (hpl := hpl)) ?_
  rintro σ H Q ⟨ρ, C, μ, F, S, E, k⟩
  refine ⟨ρ, C, μ, F, S, E, kd_bind k fun d C1 v μ1 F1 H1 x1 s1 r1 h1 => ?_⟩
  unfold isiD at h1
  split at h1
  · rename_i t e1
    obtain ⟨q1, q2⟩ := tyD_rep s1 r1 e1
    refine ⟨v, .ty c, .type t, .type c, _, rfl, .ty c, q1, kit_ty _ t q2 c hc, ?_⟩
    simp only [List.any_cons, List.any_nil, Bool.or_false] at h1
    exact kd_ret s1 (.bl _) h1
  · exact h1.elim
end
end BV
namespace BV
open PySem PySem.Spec PyProof.Rows L2

/-! ### what a statement ends in -/
inductive Out where
  | nx (ρ : Rho) (C : Cells) | rt (d : D) (C : Cells) | bk (ρ : Rho) (C : Cells) | ct (ρ : Rho) (C : Cells) | ex (c : Str) (p : D) (ρ : Rho) (C : Cells) | stuck
def Res.out {α : Type} (r : Res α) (ρ : Rho) (g : α → Cells → Out) : Out := match r with
  | .ok a C => g a C
  | .ex c p C => .ex c p ρ C
  | .stuck => .stuck
@[simp] theorem Res.out_ok {α : Type} (a : α) (C : Cells) (ρ : Rho) (g : α → Cells → Out) : (Res.ok a C).out ρ g = g a C := rfl
@[simp] theorem Res.out_ex {α : Type} (c : Str) (p : D) (C : Cells) (ρ : Rho) (g : α → Cells → Out) : (Res.ex c p C : Res α).out ρ g = .ex c p ρ C := rfl
@[simp] theorem Res.out_stuck {α : Type} (ρ : Rho) (g : α → Cells → Out) : (Res.stuck : Res α).out ρ g = .stuck := rfl
def sd (K : PySem.W.Frag) (mg : Str → Option Value) (W : WX) (o : Out) (D : Ends) (μ : List Addr) (F H : Hp) : Prop := match o with
  | .nx ρ C => ∀ σ μ' F' H', Ext μ F H μ' F' H' → Sim K μ' F' C H' → ERel K μ' F' ρ σ → D.nx σ H'
  | .rt d C => ∀ v μ' F' H', Ext μ F H μ' F' H' → Sim K μ' F' C H' → Rep K μ' F' v d → D.rt v H'
  | .bk ρ C => ∀ σ μ' F' H', Ext μ F H μ' F' H' → Sim K μ' F' C H' → ERel K μ' F' ρ σ → D.bk σ H'
  | .ct ρ C => ∀ σ μ' F' H', Ext μ F H μ' F' H' → Sim K μ' F' C H' → ERel K μ' F' ρ σ → D.ct σ H'
  | .ex c p ρ C => ∀ cls dx σ μ' F' H', Ext μ F H μ' F' H' → Sim K μ' F' C H' → ERel K μ' F' ρ σ → XRep K mg μ' F' H' c p cls dx → W cls dx σ H'
  | .stuck => False
def rS (K : PySem.W.Frag) (mg : Str → Option Value) (W : WX) (f : Rho → Cells → Out) : TS := fun D σ H => ∃ ρ C μ F, Sim K μ F C H ∧ ERel K μ F ρ σ ∧ sd K mg W (f ρ C) D μ F H
abbrev BS (X : Cx) (W : WX) (st : Stmt) (f : Rho → Cells → Out) : Prop := PS X st (rS X.K X.mg W f)
abbrev BSs (X : Cx) (W : WX) (st : List Stmt) (f : Rho → Cells → Out) : Prop := PSs X st (rS X.K X.mg W f)
theorem psI {X : Cx} {e : Stmt} {t t' : TS} (h : PS X e t) (k : ∀ D σ H, t' D σ H → t D σ H) : PS X e t' := ⟨fun pins s σ H D I q => h.run pins s σ H D I (k D σ H q)⟩
theorem pssI {X : Cx} {e : List Stmt} {t t' : TS} (h : PSs X e t) (k : ∀ D σ H, t' D σ H → t D σ H) : PSs X e t' := ⟨fun pins s σ H D I q => h.run pins s σ H D I (k D σ H q)⟩
section
variable {α β : Type} {R : RR α β} {K : PySem.W.Frag} {mg : Str → Option Value} {W : WX} {μ μ' : List Addr} {F F' H H' : Hp} {C C' : Cells} {ρ : Rho} {σ : L2.St} {D : Ends} {o : Out}
theorem sd_mono (x : Ext μ F H μ' F' H') (h : sd K mg W o D μ F H) : sd K mg W o D μ' F' H' := by
  cases o with
  | nx ρ C => exact fun σ μ2 F2 H2 x2 => h σ μ2 F2 H2 (x.trans x2)
  | rt d C => exact fun σ μ2 F2 H2 x2 => h σ μ2 F2 H2 (x.trans x2)
  | bk ρ C => exact fun σ μ2 F2 H2 x2 => h σ μ2 F2 H2 (x.trans x2)
  | ct ρ C => exact fun σ μ2 F2 H2 x2 => h σ μ2 F2 H2 (x.trans x2)
  | ex c p ρ C => exact fun cls dx σ μ2 F2 H2 x2 => h cls dx σ μ2 F2 H2 (x.trans x2)
  | stuck => exact h
theorem sd_bind {r : Res α} {g : α → Cells → Out} {k : β → Hp → Prop} (E : ERel K μ F ρ σ) (h : sd K mg W (r.out ρ g) D μ F H)
    (hk : ∀ d C1 v μ1 F1 H1, Ext μ F H μ1 F1 H1 → Sim K μ1 F1 C1 H1 → R μ1 F1 v d → sd K mg W (g d C1) D μ1 F1 H1 → k v H1) : kd R K mg W r μ F σ H k := by
  cases r with
  | ok d C1 => exact fun v μ1 F1 H1 x1 s1 r1 => hk d C1 v μ1 F1 H1 x1 s1 r1 (sd_mono x1 h)
  | ex c p C1 => exact fun cls dx μ1 F1 H1 x1 s1 r1 => h cls dx σ μ1 F1 H1 x1 s1 (x1.env E) r1
  | stuck => exact h
theorem sd_nx (S : Sim K μ F C H) (E : ERel K μ F ρ σ) (h : sd K mg W (.nx ρ C) D μ F H) : D.nx σ H := h σ μ F H .refl S E
/-- one out behind another -/
def Out.then_ (o : Out) (k : Rho → Cells → Out) : Out := match o with
  | .nx ρ C => k ρ C
  | o => o
@[simp] theorem Out.then_nx (ρ : Rho) (C : Cells) (k : Rho → Cells → Out) : (Out.nx ρ C).then_ k = k ρ C := rfl
@[simp] theorem Out.then_rt (d : BV.D) (C : Cells) (k : Rho → Cells → Out) : (Out.rt d C).then_ k = .rt d C := rfl
@[simp] theorem Out.then_bk (ρ : Rho) (C : Cells) (k : Rho → Cells → Out) : (Out.bk ρ C).then_ k = .bk ρ C := rfl
@[simp] theorem Out.then_ct (ρ : Rho) (C : Cells) (k : Rho → Cells → Out) : (Out.ct ρ C).then_ k = .ct ρ C := rfl
@[simp] theorem Out.then_ex (c : Str) (p : BV.D) (ρ : Rho) (C : Cells) (k : Rho → Cells → Out) : (Out.ex c p ρ C).then_ k = .ex c p ρ C := rfl
@[simp] theorem Out.then_stuck (k : Rho → Cells → Out) : Out.stuck.then_ k = .stuck := rfl
theorem sd_then {k : Rho → Cells → Out} (h : sd K mg W (o.then_ k) D μ F H) : sd K mg W o { D with nx := rS K mg W k D } μ F H := by
  cases o with
  | nx ρ C => exact fun σ μ2 F2 H2 x2 s2 e2 => ⟨ρ, C, μ2, F2, s2, e2, sd_mono x2 h⟩
  | rt d C => exact h
  | bk ρ C => exact h
  | ct ρ C => exact h
  | ex c p ρ C => exact h
  | stuck => exact h
end

/-! ### statements -/
def sSeq (f g : Rho → Cells → Out) : Rho → Cells → Out := fun ρ C => (f ρ C).then_ g
def sNil : Rho → Cells → Out := fun ρ C => .nx ρ C
def sBk : Rho → Cells → Out := fun ρ C => .bk ρ C
def sCt : Rho → Cells → Out := fun ρ C => .ct ρ C
def sExpr (f : Rho → Cells → Res D) : Rho → Cells → Out := fun ρ C => (f ρ C).out ρ fun _ C1 => .nx ρ C1
def sRet (f : Rho → Cells → Res D) : Rho → Cells → Out := fun ρ C => (f ρ C).out ρ fun d C1 => .rt d C1
def sRetN : Rho → Cells → Out := fun _ C => .rt .non C
def sIf (t : Rho → Cells → Res D) (f g : Rho → Cells → Out) : Rho → Cells → Out := fun ρ C => (toB (t ρ C)).out ρ fun b C1 => if b then f ρ C1 else g ρ C1
def sNever : Rho → Cells → Out := fun _ _ => .stuck
def sSet (i : Nat) (f : Rho → Cells → Res D) : Rho → Cells → Out := fun ρ C => (f ρ C).out ρ fun d C1 => .nx (ρ.set i (some d)) C1
section
variable {X : Cx} {W : WX} {st : Stmt} {rest ss ss' : List Stmt} {e : Expr} {f g : Rho → Cells → Out} {fe ft : Rho → Cells → Res D} {pos : Pos}
theorem bss_nil : BSs X W [] sNil := by
  refine pssI pss_nil ?_
  rintro D σ H ⟨ρ, C, μ, F, S, E, k⟩
  exact sd_nx S E k
theorem bss_cons (h1 : BS X W st f) (h2 : BSs X W rest g) : BSs X W (st :: rest) (sSeq f g) := by
  refine pssI (pss_cons h1 h2) ?_
  rintro D σ H ⟨ρ, C, μ, F, S, E, k⟩
  exact ⟨ρ, C, μ, F, S, E, sd_then k⟩
theorem bss_one (h1 : BS X W st f) : BSs X W [st] f := pss_one h1
theorem bs_never : BS X W st sNever := by
  refine psI ps_never ?_
  rintro D σ H ⟨ρ, C, μ, F, S, E, k⟩
  exact k
theorem bs_pass : BS X W (.Pass pos) sNil := by
  refine psI ps_pass ?_
  rintro D σ H ⟨ρ, C, μ, F, S, E, k⟩
  exact sd_nx S E k
theorem bs_break : BS X W (.Break pos) sBk := by
  refine psI ps_break ?_
  rintro D σ H ⟨ρ, C, μ, F, S, E, k⟩
  exact k σ μ F H .refl S E
theorem bs_continue : BS X W (.Continue pos) sCt := by
  refine psI ps_continue ?_
  rintro D σ H ⟨ρ, C, μ, F, S, E, k⟩
  exact k σ μ F H .refl S E
theorem bs_expr (he : BE X W e fe) (hs : swapsWith e none pos.line X.env = pure false := by rfl) : BS X W (.Expr e pos) (sExpr fe) := by
  refine psI (ps_expr he hs) ?_
  rintro D σ H ⟨ρ, C, μ, F, S, E, k⟩
  exact ⟨ρ, C, μ, F, S, E, sd_bind E k fun d C1 v μ1 F1 H1 x1 s1 r1 h1 => sd_nx s1 (x1.env E) h1⟩
theorem bs_ret (he : BE X W e fe) : BS X W (.Return (some e) pos) (sRet fe) := by
  refine psI (ps_ret he) ?_
  rintro D σ H ⟨ρ, C, μ, F, S, E, k⟩
  exact ⟨ρ, C, μ, F, S, E, sd_bind E k fun d C1 v μ1 F1 H1 x1 s1 r1 h1 => h1 v μ1 F1 H1 .refl s1 r1⟩
theorem bs_retN : BS X W (.Return none pos) sRetN := by
  refine psI ps_retN ?_
  rintro D σ H ⟨ρ, C, μ, F, S, E, k⟩
  exact k _ μ F H .refl S .non
theorem bs_if (hc : BT X W e ft) (ha : BSs X W ss f) (hb : BSs X W ss' g) : BS X W (.If e ss ss' pos) (sIf ft f g) := by
  refine psI (ps_if hc ha hb) ?_
  rintro D σ H ⟨ρ, C, μ, F, S, E, k⟩
  refine ⟨ρ, C, μ, F, S, E, sd_bind (R := RB) E k fun b C1 v μ1 F1 H1 x1 s1 r1 h1 => ?_⟩
  subst r1
  cases v with
  | true => exact iteT ⟨ρ, C1, μ1, F1, s1, x1.env E, h1⟩
  | false => exact iteF ⟨ρ, C1, μ1, F1, s1, x1.env E, h1⟩
theorem bs_set {i : Nat} {x : Str} {pos' : Pos} (hN : X.N.Nodup) (hi : X.N[i]? = some x) (hx : Loc X.env.scope x) (he : BE X W e fe) (hs : swapsWith e (some (.Name x pos')) pos.line X.env = pure false := by rfl)
    (hf : X.fn x = true ∨ X.env.scope.names.lookup x = some .local := by first | exact .inl rfl | exact .inr rfl | assumption) : BS X W (.Assign [.Name x pos'] e pos) (sSet i fe) := by
  refine psI (ps_set hN hi hx he hs hf) ?_
  rintro D σ H ⟨ρ, C, μ, F, S, E, k⟩
  exact ⟨ρ, C, μ, F, S, E, sd_bind E k fun d C1 v μ1 F1 H1 x1 s1 r1 h1 => sd_nx s1 ((x1.env E).set r1) h1⟩

/-! ### targets -/
/-- what a target does with a datum: t the new slots; ns: the slots that it stores -/
def rG (K : PySem.W.Frag) (t : D → Rho → Option Rho) (ns : List Nat) : TG := fun v σ H Q => ∃ ρ C μ F d ρ', Sim K μ F C H ∧ ERel K μ F ρ σ ∧ Rep K μ F v d ∧ t d ρ = some ρ' ∧
  ∀ σ', ERel K μ F ρ' σ' → (∀ vs, (∀ i ∈ ns, i ∈ vs) → wipe σ' vs = wipe σ vs) → Q σ' H
def rGs (K : PySem.W.Frag) (t : List D → Rho → Option Rho) (ns : List Nat) : TGs := fun v σ H Q => ∃ ρ C μ F d ρ', Sim K μ F C H ∧ ERel K μ F ρ σ ∧ Reps K μ F v d ∧ t d ρ = some ρ' ∧
  ∀ σ', ERel K μ F ρ' σ' → (∀ vs, (∀ i ∈ ns, i ∈ vs) → wipe σ' vs = wipe σ vs) → Q σ' H
abbrev BG (X : Cx) (tg : Expr) (t : D → Rho → Option Rho) (ns : List Nat) : Prop := PG X tg (rG X.K t ns)
abbrev BGs (X : Cx) (tg : List Expr) (t : List D → Rho → Option Rho) (ns : List Nat) : Prop := PGs X tg (rGs X.K t ns)
theorem pgI {tg : Expr} {t t' : TG} (h : PG X tg t) (k : ∀ v σ H Q, t' v σ H Q → t v σ H Q) : PG X tg t' := ⟨fun pins s σ H v u Q I r q => h.run pins s σ H v u Q I r (k v σ H Q q)⟩
theorem pgsI {tg : List Expr} {t t' : TGs} (h : PGs X tg t) (k : ∀ v σ H Q, t' v σ H Q → t v σ H Q) : PGs X tg t' := ⟨fun pins s σ H v u Q I r q => h.run pins s σ H v u Q I r (k v σ H Q q)⟩
def tgN (i : Nat) (d : D) (ρ : Rho) : Option Rho := some (ρ.set i (some d))
theorem wipe_none {σ : L2.St} {i : Nat} : ∀ {vs : List Nat}, i ∈ vs → (wipe σ vs).set i none = wipe σ vs
  | [], h => nomatch h
  | v :: vs, h => by
    unfold wipe
    rcases List.mem_cons.mp h with e | h
    · subst e
      rw [List.set_set]
    · by_cases e : i = v
      · subst e
        rw [List.set_set]
      · rw [List.set_comm _ _ (Ne.symm e), wipe_none h]
theorem wipe_set {σ : L2.St} {i : Nat} {o : Option V} : ∀ {vs : List Nat}, i ∈ vs → wipe (σ.set i o) vs = wipe σ vs
  | [], h => nomatch h
  | v :: vs, h => by
    have key : ∀ ws : List Nat, (wipe (σ.set i o) ws).set i none = (wipe σ ws).set i none := by
      intro ws
      induction ws with
      | nil => simp [wipe, List.set_set]
      | cons w ws ih =>
        simp only [wipe]
        by_cases e : w = i
        · subst e
          rw [List.set_set, List.set_set]
          exact ih
        · rw [List.set_comm _ _ e, ih, List.set_comm _ _ (Ne.symm e)]
    unfold wipe
    rcases List.mem_cons.mp h with e | h
    · subst e
      exact key vs
    · rw [wipe_set h]
theorem bg_name {i : Nat} {x : Str} {p : Pos} (h : PG X (.Name x p) (gName i)) : BG X (.Name x p) (tgN i) [i] := by
  refine pgI h ?_
  rintro v σ H Q ⟨ρ, C, μ, F, d, ρ', S, E, r, e, k⟩
  cases e
  exact k _ (E.set r) fun vs hv => wipe_set (hv i (by simp))
def tgNil (ds : List D) (ρ : Rho) : Option Rho := match ds with
  | [] => some ρ
  | _ => none
def tgCons (t : D → Rho → Option Rho) (ts : List D → Rho → Option Rho) (ds : List D) (ρ : Rho) : Option Rho := match ds with
  | d :: r => (t d ρ).bind fun ρ1 => ts r ρ1
  | [] => none
def tgT (n : Nat) (ts : List D → Rho → Option Rho) (d : D) (ρ : Rho) : Option Rho := match d with
  | .tup ds => if ds.length = n then ts ds ρ else none
  | _ => none
theorem bgs_nil : BGs X [] tgNil [] := by
  refine pgsI pgs_nil ?_
  rintro v σ H Q ⟨ρ, C, μ, F, d, ρ', S, E, r, e, k⟩
  unfold tgNil at e
  split at e
  · cases e
    cases r
    exact ⟨rfl, k σ E fun _ _ => rfl⟩
  · cases e
theorem bgs_cons {x : Expr} {xs : List Expr} {t : D → Rho → Option Rho} {ts : List D → Rho → Option Rho} {n1 n2 : List Nat} (h1 : BG X x t n1) (h2 : BGs X xs ts n2)
    (hs : (assignEach (x :: xs) X.env).map (·.2) = assign x X.env :: (assignEach xs X.env).map (·.2) := by rfl) : BGs X (x :: xs) (tgCons t ts) (n1 ++ n2) := by
  refine pgsI (pgs_cons h1 h2 hs) ?_
  rintro v σ H Q ⟨ρ, C, μ, F, d, ρ', S, E, r, e, k⟩
  unfold tgCons at e
  split at e
  · simp only [Option.bind_eq_some_iff] at e
    obtain ⟨ρ1, e1, e2⟩ := e
    cases r with
    | cons a b =>
      refine ⟨_, _, rfl, ρ, C, μ, F, _, ρ1, S, E, a, e1, fun σ1 E1 w1 => ⟨ρ1, C, μ, F, _, ρ', S, E1, b, e2, fun σ2 E2 w2 => k σ2 E2 fun vs hv => ?_⟩⟩
      rw [w2 vs fun i hi => hv i (List.mem_append_right _ hi), w1 vs fun i hi => hv i (List.mem_append_left _ hi)]
  · cases e
theorem bg_tup {es : List Expr} {j : Nat} {p : Pos} {ts : List D → Rho → Option Rho} {n : Nat} {ns : List Nat} (hc : X.calm = true) (h : BGs X es ts ns) (hn : (assignEach es X.env).length = n := by rfl) (hst : (assignEach es X.env).findIdx? (·.1) = none := by rfl) :
    BG X (.Tuple es j p) (tgT n ts) ns := by
  refine pgI (pg_tup hc h hn hst) ?_
  rintro v σ H Q ⟨ρ, C, μ, F, d, ρ', S, E, r, e, k⟩
  unfold tgT at e
  split at e
  · split at e
    · rename_i z
      cases r with
      | tup a b =>
        rw [← b.length] at z
        exact ⟨_, _, rfl, sameT S.sub a, z, ρ, C, μ, F, _, ρ', S, E, b, e, k⟩
    · cases e
  · cases e
def sAsg (f : Rho → Cells → Res D) (t : D → Rho → Option Rho) : Rho → Cells → Out := fun ρ C => (f ρ C).out ρ fun d C1 => match t d ρ with
  | some ρ' => .nx ρ' C1
  | none => .stuck
theorem bs_asg {tg : Expr} {t : D → Rho → Option Rho} {ns : List Nat} (he : BE X W e fe) (hg : BG X tg t ns) (hs : swapsWithSole [tg] e pos.line X.env = pure false := by rfl) (hw : swappedStores [tg] e X.env = pure none := by rfl)
    (h1 : (assignEach [tg] X.env).map (·.2) = [assign tg X.env] := by rfl) : BS X W (.Assign [tg] e pos) (sAsg fe t) := by
  refine psI (ps_asg he hg hs hw h1) ?_
  rintro D σ H ⟨ρ, C, μ, F, S, E, k⟩
  refine ⟨ρ, C, μ, F, S, E, sd_bind E k fun d C1 v μ1 F1 H1 x1 s1 r1 h1 => ?_⟩
  split at h1
  · rename_i ρ' e1
    exact ⟨ρ, C1, μ1, F1, d, ρ', s1, x1.env E, r1, e1, fun σ' E' _ => sd_nx s1 E' h1⟩
  · exact h1.elim
def sPar (i j : Nat) (fs : Rho → Cells → Res (List BV.D)) : Rho → Cells → Out := fun ρ C => (fs ρ C).out ρ fun ds C1 => match ds with
  | [x, y] => .nx ((ρ.set i (some x)).set j (some y)) C1
  | _ => .stuck
theorem bs_par {i j : Nat} {x y : Str} {a b : Expr} {fs : Rho → Cells → Res (List D)} {px py pt : Pos} {kt k2 pt2} (hc : X.calm = true) (hN : X.N.Nodup) (hi : X.N[i]? = some x) (hj : X.N[j]? = some y) (hij : i ≠ j)
    (hx : X.env.scope.names.lookup x = some .local) (hy : X.env.scope.names.lookup y = some .local) (ha : BA X W [a, b] fs)
    (hw : swappedStores [.Tuple [.Name x px, .Name y py] kt pt] (.Tuple [a, b] k2 pt2) X.env = pure (some [x, y]))
    (hs : swapsWithSole [.Tuple [.Name x px, .Name y py] kt pt] (.Tuple [a, b] k2 pt2) pos.line X.env = pure false := by rfl) : BS X W (.Assign [.Tuple [.Name x px, .Name y py] kt pt] (.Tuple [a, b] k2 pt2) pos) (sPar i j fs) := by
  refine psI (ps_par hc hN hi hj hij hx hy ha hw hs) ?_
  rintro D σ H ⟨ρ, C, μ, F, S, E, k⟩
  refine ⟨ρ, C, μ, F, S, E, sd_bind E k fun d C1 v μ1 F1 H1 x1 s1 r1 h1 => ?_⟩
  split at h1
  · obtain ⟨v1, v2, rfl, q1, q2⟩ := reps2 r1
    exact ⟨v1, v2, rfl, sd_nx s1 (((x1.env E).set q1).set q2) h1⟩
  · exact h1.elim
def sPar3 (i j l : Nat) (fs : Rho → Cells → Res (List BV.D)) : Rho → Cells → Out := fun ρ C => (fs ρ C).out ρ fun ds C1 => match ds with
  | [x, y, z] => .nx (((ρ.set i (some x)).set j (some y)).set l (some z)) C1
  | _ => .stuck
theorem bs_par3 {i j l : Nat} {x y z : Str} {a b c : Expr} {fs : Rho → Cells → Res (List D)} {px py pz pt : Pos} {kt k2 pt2} (h : PS X (.Assign [.Tuple [.Name x px, .Name y py, .Name z pz] kt pt] (.Tuple [a, b, c] k2 pt2) pos) (tPar3 i j l (rA X.K X.mg W fs))) :
    BS X W (.Assign [.Tuple [.Name x px, .Name y py, .Name z pz] kt pt] (.Tuple [a, b, c] k2 pt2) pos) (sPar3 i j l fs) := by
  refine psI h ?_
  rintro D σ H ⟨ρ, C, μ, F, S, E, k⟩
  refine ⟨ρ, C, μ, F, S, E, sd_bind E k fun d C1 v μ1 F1 H1 x1 s1 r1 h1 => ?_⟩
  split at h1
  · cases r1 with
    | cons q1 r1 =>
      obtain ⟨v2, v3, rfl, q2, q3⟩ := reps2 r1
      exact ⟨_, v2, v3, rfl, sd_nx s1 ((((x1.env E).set q1).set q2).set q3) h1⟩
  · exact h1.elim
/-- xs[i] = v -/
def stoD (x i v : BV.D) (C : Cells) : Option Cells := match x, i with
  | .cel k, .int n => match C[k]? with
    | some (.lst ds) => match ixN ds.length n with
      | some j => some (C.set k (.lst (ds.set j v)))
      | none => none
    | _ => none
  | _, _ => none
def sSto (f fo fi : Rho → Cells → Res BV.D) : Rho → Cells → Out := fun ρ C => (f ρ C).out ρ fun v C1 => (fo ρ C1).out ρ fun x C2 => (fi ρ C2).out ρ fun i C3 => match stoD x i v C3 with
  | some C4 => .nx ρ C4
  | none => .stuck
theorem sto_rep {K : PySem.W.Frag} {μ : List Addr} {F H : Hp} {C C' : Cells} {x i v : D} {vx vi vv : V} (S : Sim K μ F C H) (rx : Rep K μ F vx x) (ri : Rep K μ F vi i) (rv : Rep K μ F vv v) (e : stoD x i v C = some C') :
    ∃ p xs k j, vx = .ref p ∧ vi = .int k ∧ H p = some (.lst xs) ∧ ixN xs.length k = some j ∧ Sim K μ F C' (upd H p (.lst (xs.set j vv))) ∧ Ext μ F H μ F (upd H p (.lst (xs.set j vv))) := by
  unfold stoD at e
  split at e
  · split at e
    · rename_i ds hk
      split at e
      · rename_i j hj
        cases e
        cases rx with
        | cel a =>
          cases ri
          obtain ⟨f, vs, g, r⟩ := S.cel _ _ _ hk a
          rw [← r.length] at hj
          obtain ⟨S1, X1⟩ := S.write hk a (r.set rv j)
          exact ⟨_, vs, _, j, rfl, rfl, g, hj, S1, X1⟩
      · cases e
    · cases e
  · cases e
theorem bs_sto {o i : Expr} {p2 : Pos} {fo fi : Rho → Cells → Res D} (hv : BE X W e fe) (ho : BE X W o fo) (hi : BE X W i fi)
    (ha : ∀ v, assign (.Subscript o i p2) X.env v = (do
      let ov ← holding [v] (eval o X.env)
      let iv ← holding [v, ov] (eval i X.env)
      standAt p2
      holding [v, ov, iv] (setItem ov iv v)
      release [v, ov, iv] []) := by intro _; rfl)
    (hs : swapsWithSole [.Subscript o i p2] e pos.line X.env = pure false := by rfl) (hw : swappedStores [.Subscript o i p2] e X.env = pure none := by rfl)
    (h1 : (assignEach [.Subscript o i p2] X.env).map (·.2) = [assign (.Subscript o i p2) X.env] := by rfl) : BS X W (.Assign [.Subscript o i p2] e pos) (sSto fe fo fi) := by
  refine psI (ps_asg hv (pg_sub ho hi set_list ha) hs hw h1) ?_
  rintro D σ H ⟨ρ, C, μ, F, S, E, k⟩
  refine ⟨ρ, C, μ, F, S, E, sd_bind E k fun d C1 v μ1 F1 H1 x1 s1 r1 h1 => ?_⟩
  refine ⟨ρ, C1, μ1, F1, s1, x1.env E, sd_bind (x1.env E) h1 fun d2 C2 v2 μ2 F2 H2 x2 s2 r2 h2 => ?_⟩
  refine ⟨ρ, C2, μ2, F2, s2, x2.env (x1.env E), sd_bind (x2.env (x1.env E)) h2 fun d3 C3 v3 μ3 F3 H3 x3 s3 r3 h3 => ?_⟩
  split at h3
  · rename_i C4 e4
    obtain ⟨p, xs, k', j, q1, q2, q3, q4, S4, X4⟩ := sto_rep s3 (x3.rep r2) r3 (x3.rep (x2.rep r1)) e4
    exact ⟨p, xs, k', j, q1, q2, q3, q4, h3 σ μ3 F3 _ X4 S4 (X4.env (x3.env (x2.env (x1.env E))))⟩
  · exact h3.elim

/-! ### methods of lists -/
def fMt1 (o : BV.D → BV.D → Cells → Res BV.D) (f g : Rho → Cells → Res BV.D) : Rho → Cells → Res BV.D := fun ρ C => (f ρ C).bind fun x C1 => match asL x C1 with
  | some _ => (g ρ C1).bind fun v C2 => o x v C2
  | none => .stuck
theorem tyL {K : PySem.W.Frag} {μ : List Addr} {F H : Hp} {C : Cells} {x : BV.D} {v : V} {ds : List BV.D} (S : Sim K μ F C H) (r : Rep K μ F v x) (e : asL x C = some ds) : tyV K "list" v H := by
  obtain ⟨a, vs, rfl, g, _⟩ := asL_rep S r e
  exact .inl ⟨rfl, vs, SqL.of g⟩
def appD (x v : BV.D) (C : Cells) : Res BV.D := match x with
  | .cel k => match C[k]? with
    | some (.lst ds) => if ds.length < sizeLine then .ok .non (C.set k (.lst (ds ++ [v]))) else .stuck
    | _ => .stuck
  | _ => .stuck
def extD (x v : BV.D) (C : Cells) : Res BV.D := match x, asL v C with
  | .cel k, some es => match C[k]? with
    | some (.lst ds) => if ds.length + es.length ≤ sizeLine then .ok .non (C.set k (.lst (ds ++ es))) else .stuck
    | _ => .stuck
  | _, _ => .stuck
variable {a b : Expr} {fa fb : Rho → Cells → Res BV.D} {apos : Pos}
theorem be_app (ha : BE X W a fa) (hb : BE X W b fb) (h : ∀ {ta tb : TE}, PE X a ta → PE X b tb → PE X (.Call (.Attribute a "append" apos) [b] [] pos) (tBM X.K "list" rAppend ta (tCons tb tNil))) :
    BE X W (.Call (.Attribute a "append" apos) [b] [] pos) (fMt1 appD fa fb) := by
  refine peI (h ha hb) ?_
  rintro σ H Q ⟨ρ, C, μ, F, S, E, k⟩
  refine ⟨ρ, C, μ, F, S, E, kd_bind k fun d C1 v μ1 F1 H1 x1 s1 r1 h1 => ?_⟩
  split at h1
  · rename_i ds e1
    refine ⟨tyL s1 r1 e1, ρ, C1, μ1, F1, s1, x1.env E, kd_bind h1 fun d2 C2 v2 μ2 F2 H2 x2 s2 r2 h2 => ?_⟩
    unfold appD at h2
    split at h2
    · split at h2
      · rename_i ds' hk
        split at h2
        · rename_i z
          have r3 := x2.rep r1
          cases r3 with
          | cel a' =>
            obtain ⟨f', vs, g, r⟩ := s2.cel _ _ _ hk a'
            obtain ⟨S3, X3⟩ := s2.write hk a' (r.append (.cons r2 .nil))
            rw [← r.length] at z
            exact ⟨_, vs, v2, rfl, rfl, g, z, h2 _ _ _ _ X3 S3 .non⟩
        · exact h2.elim
      · exact h2.elim
    · exact h2.elim
  · exact h1.elim
theorem be_ext (ha : BE X W a fa) (hb : BE X W b fb) (h : ∀ {ta tb : TE}, PE X a ta → PE X b tb → PE X (.Call (.Attribute a "extend" apos) [b] [] pos) (tBM X.K "list" rExtend ta (tCons tb tNil))) :
    BE X W (.Call (.Attribute a "extend" apos) [b] [] pos) (fMt1 extD fa fb) := by
  refine peI (h ha hb) ?_
  rintro σ H Q ⟨ρ, C, μ, F, S, E, k⟩
  refine ⟨ρ, C, μ, F, S, E, kd_bind k fun d C1 v μ1 F1 H1 x1 s1 r1 h1 => ?_⟩
  split at h1
  · rename_i ds e1
    refine ⟨tyL s1 r1 e1, ρ, C1, μ1, F1, s1, x1.env E, kd_bind h1 fun d2 C2 v2 μ2 F2 H2 x2 s2 r2 h2 => ?_⟩
    unfold extD at h2
    split at h2
    · rename_i k' es e2
      split at h2
      · rename_i ds' hk
        split at h2
        · rename_i z
          have r3 := x2.rep r1
          obtain ⟨b', ws, rfl, g2, rs2⟩ := asL_rep s2 r2 e2
          cases r3 with
          | cel a' =>
            obtain ⟨f', vs, g, r⟩ := s2.cel _ _ _ hk a'
            obtain ⟨S3, X3⟩ := s2.write hk a' (r.append rs2)
            rw [← r.length, ← rs2.length] at z
            exact ⟨_, b', vs, ws, rfl, rfl, g, g2, z, h2 _ _ _ _ X3 S3 .non⟩
        · exact h2.elim
      · exact h2.elim
    · exact h2.elim
  · exact h1.elim
end
end BV
namespace BV
open PySem PySem.Spec PyProof.Rows L2

/-! ### what is walked -/
/-- the iterator J yields the data ds, one a turn, whatever else happens -/
structure WkD (K : PySem.W.Frag) (J : It) (μ : List Addr) (F : Hp) (ds : List D) : Prop where
  go : ∀ i μ2 F2 C2 H2, i < ds.length → (∃ τ, μ2 = μ ++ τ) → Same F F2 → Sim K μ2 F2 C2 H2 → J.go i H2 ∧ ∀ x H3, J.yld i H2 x H3 → ∃ F3 d, Ext μ2 F2 H2 μ2 F3 H3 ∧ Sim K μ2 F3 C2 H3 ∧ ds[i]? = some d ∧ Rep K μ2 F3 x d
  stop : ∀ μ2 F2 C2 H2, (∃ τ, μ2 = μ ++ τ) → Same F F2 → Sim K μ2 F2 C2 H2 → J.stop ds.length H2
/-- .. the k-th cell's content, as it stands at each turn; its length stays n -/
structure WkC (K : PySem.W.Frag) (J : It) (μ : List Addr) (F : Hp) (k n : Nat) : Prop where
  go : ∀ i μ2 F2 C2 H2 ds, i < n → (∃ τ, μ2 = μ ++ τ) → Same F F2 → Sim K μ2 F2 C2 H2 → C2[k]? = some (.lst ds) → ds.length = n → J.go i H2 ∧ ∀ x H3, J.yld i H2 x H3 → H3 = H2 ∧ ∃ d, ds[i]? = some d ∧ Rep K μ2 F2 x d
  stop : ∀ μ2 F2 C2 H2 ds, (∃ τ, μ2 = μ ++ τ) → Same F F2 → Sim K μ2 F2 C2 H2 → C2[k]? = some (.lst ds) → ds.length = n → J.stop n H2
inductive Src where
  | fix (ds : List D) | cel (k n : Nat)
def WkS (K : PySem.W.Frag) (J : It) (μ : List Addr) (F : Hp) : Src → Prop
  | .fix ds => WkD K J μ F ds
  | .cel k n => WkC K J μ F k n
abbrev RI (K : PySem.W.Frag) : RR Src It := fun μ F J ds => WkS K J μ F ds
def rI (K : PySem.W.Frag) (mg : Str → Option Value) (W : WX) (f : Rho → Cells → Res Src) : TI := fun σ H R => ∃ ρ C μ F, Sim K μ F C H ∧ ERel K μ F ρ σ ∧ kd (RI K) K mg W (f ρ C) μ F σ H R
abbrev BI (X : Cx) (W : WX) (tg it : Expr) (f : Rho → Cells → Res Src) : Prop := PI X tg it (rI X.K X.mg W f)
theorem piI {X : Cx} {tg it : Expr} {t t' : TI} (h : PI X tg it t) (k : ∀ σ H R, t' σ H R → t σ H R) : PI X tg it t' := ⟨fun pins s σ H R I q => h.run pins s σ H R I (k σ H R q)⟩
/-- a frozen sequence -/
def asF (d : D) : Option (List D) := match d with
  | .lst ds => some ds
  | .tup ds => some ds
  | .ftp ds => some ds
  | .scr ns => some (ns.map .int)
  | _ => none
def cLen (k : Nat) (C : Cells) : Option Nat := match C[k]? with
  | some (.lst ds) => some ds.length
  | _ => none
def iSeq (f : Rho → Cells → Res D) : Rho → Cells → Res Src := fun ρ C => (f ρ C).bind fun d C1 => match d with
  | .lst ds => .ok (.fix ds) C1
  | .tup ds => .ok (.fix ds) C1
  | .ftp ds => .ok (.fix ds) C1
  | .scr ns => .ok (.fix (ns.map .int)) C1
  | .cel k => match cLen k C1 with
    | some n => .ok (.cel k n) C1
    | none => .stuck
  | _ => .stuck
section
variable {K : PySem.W.Frag} {μ : List Addr} {F : Hp} {a : Addr} {vs : List V} {ds : List D}
theorem wk_list (h : SqL K F a vs) (r : Reps K μ F vs ds) : WkD K (Itl K a) μ F ds := by
  refine ⟨fun i μ2 F2 C2 H2 hi hp hs S => ?_, fun μ2 F2 C2 H2 hp hs S => ?_⟩
  · have q : SqL K H2 a vs := S.sub.seq (hs.seq h)
    have hv : i < vs.length := by rw [r.length]; exact hi
    refine ⟨⟨vs, vs[i], q, by simp [hv]⟩, fun x H3 y => ?_⟩
    obtain ⟨e, y⟩ := y
    subst e
    obtain ⟨d, e1, r1⟩ := r.getV (y vs q)
    exact ⟨F2, d, .refl, S, e1, Rep.mono hp hs _ _ r1⟩
  · exact ⟨vs, S.sub.seq (hs.seq h), by rw [r.length]; exact Nat.le_refl _⟩
theorem wk_tup (h : SqT K F a vs) (r : Reps K μ F vs ds) : WkD K (Itt K a) μ F ds := by
  refine ⟨fun i μ2 F2 C2 H2 hi hp hs S => ?_, fun μ2 F2 C2 H2 hp hs S => ?_⟩
  · have q : SqT K H2 a vs := sameT S.sub (sameT hs h)
    have hv : i < vs.length := by rw [r.length]; exact hi
    refine ⟨⟨vs, vs[i], q, by simp [hv]⟩, fun x H3 y => ?_⟩
    obtain ⟨e, y⟩ := y
    subst e
    obtain ⟨d, e1, r1⟩ := r.getV (y vs q)
    exact ⟨F2, d, .refl, S, e1, Rep.mono hp hs _ _ r1⟩
  · exact ⟨vs, sameT S.sub (sameT hs h), by rw [r.length]; exact Nat.le_refl _⟩
theorem wk_cel {k n : Nat} (h : μ[k]? = some a) : WkC K (Itl K a) μ F k n := by
  refine ⟨fun i μ2 F2 C2 H2 ds hi hp hs S hk hn => ?_, fun μ2 F2 C2 H2 ds hp hs S hk hn => ?_⟩
  · obtain ⟨τ, e⟩ := hp
    obtain ⟨_, vs, g, r⟩ := S.cel k _ _ hk (pre_get e h)
    have q : SqL K H2 a vs := SqL.of g
    have hv : i < vs.length := by rw [r.length, hn]; exact hi
    refine ⟨⟨vs, vs[i], q, by simp [hv]⟩, fun x H3 y => ?_⟩
    obtain ⟨e, y⟩ := y
    obtain ⟨d, e1, r1⟩ := r.getV (y vs q)
    exact ⟨e, d, e1, r1⟩
  · obtain ⟨τ, e⟩ := hp
    obtain ⟨_, vs, g, r⟩ := S.cel k _ _ hk (pre_get e h)
    exact ⟨vs, SqL.of g, by rw [r.length, hn]; exact Nat.le_refl _⟩
theorem wk_range (lo : Int) (n : Nat) : WkD K (Itr lo n) μ F ((List.range n).map fun (i : Nat) => D.int (lo + (i : Nat))) := by
  refine ⟨fun i μ2 F2 C2 H2 hi hp hs S => ⟨(by show i < n; simpa using hi), fun x H3 y => ?_⟩, fun μ2 F2 C2 H2 hp hs S => ?_⟩
  · obtain ⟨e, y⟩ := y
    subst e y
    have hi' : i < n := by simpa using hi
    exact ⟨F2, .int (lo + (i : Nat)), .refl, S, by simp [hi'], .int _⟩
  · show n ≤ _
    simp
end
section
variable {X : Cx} {W : WX} {tg e a b : Expr} {f g : Rho → Cells → Res D} {p pos : Pos}
theorem bi_seq (he : BE X W e f) : BI X W tg e (iSeq f) := by
  have key : PI X tg e (fun σ H R => ∃ ρ C μ F, Sim X.K μ F C H ∧ ERel X.K μ F ρ σ ∧ kd (RI X.K) X.K X.mg W (iSeq f ρ C) μ F σ H R) := by
    refine ⟨fun pins s σ H R I h => ?_⟩
    have hl : ∀ (xs : List V) (a : Addr) (s1 : Shared) (H1 : Hp), Inv X pins σ H1 s1 → SqL X.K H1 a xs → R (Itl X.K a) H1 → wpAny (model X.prog X.w) X.A (pyIter (.ref a)) (PIE X pins σ tg R) X.xe s1 := fun xs a s1 H1 I1 q r1 => by
      obtain ⟨its, _, pl, _⟩ := I1.list q
      refine wpAny_pyIter_list pl.isList ⟨_, [s1.heap.objs.size], _, _, H1, rfl, I1.kept (t' := s1.toks) (fun b o z => Heap.get?_push_of_some _ z), turn_list a _, ⟨_, Heap.get?_push_size _ rfl, rfl, rfl⟩, fun b hb => ?_, r1⟩
      rw [show b = s1.heap.objs.size from by simpa using hb]
      exact I1.fpOk (Nat.le_refl _) (I1.hok.fresh (Nat.le_refl _))
    have ht : ∀ (xs : List V) (a : Addr) (s1 : Shared) (H1 : Hp), Inv X pins σ H1 s1 → SqT X.K H1 a xs → R (Itt X.K a) H1 → wpAny (model X.prog X.w) X.A (pyIter (.ref a)) (PIE X pins σ tg R) X.xe s1 := fun xs a s1 H1 I1 q r1 => by
      obtain ⟨its, _, pl, _⟩ := I1.tuple q
      refine wpAny_pyIter_tuple (show s1.heap.IsTuple a its.toArray from pl) ⟨_, [s1.heap.objs.size], _, _, H1, rfl, I1.kept (t' := s1.toks) (fun b o z => Heap.get?_push_of_some _ z), turn_tuple a _, ⟨_, Heap.get?_push_size _ rfl, rfl, rfl⟩, fun b hb => ?_, r1⟩
      rw [show b = s1.heap.objs.size from by simpa using hb]
      exact I1.fpOk (Nat.le_refl _) (I1.hok.fresh (Nat.le_refl _))
    obtain ⟨ρ, C, μ, F, S, E, k⟩ := h
    have k2 : rE X.K X.mg W f σ H (fun v H1 => ∃ a xs, v = .ref a ∧ ((SqL X.K H1 a xs ∧ R (Itl X.K a) H1) ∨ (SqT X.K H1 a xs ∧ R (Itt X.K a) H1))) := by
      refine ⟨ρ, C, μ, F, S, E, kd_bind k fun d C1 v μ1 F1 H1 x1 s1 r1 h1 => ?_⟩
      cases d with
      | lst ds =>
        cases r1 with
        | lst q1 q2 => exact ⟨_, _, rfl, .inl ⟨SqL.of (s1.sub _ _ q1), kd_ret s1 (wk_list (SqL.of q1) q2) h1⟩⟩
      | tup ds =>
        cases r1 with
        | tup q1 q2 => exact ⟨_, _, rfl, .inr ⟨sameT s1.sub q1, kd_ret s1 (wk_tup q1 q2) h1⟩⟩
      | ftp ds =>
        cases r1 with
        | ftp q1 b c q2 => exact ⟨_, _, rfl, .inr ⟨sameT s1.sub (ftp_sq q1), kd_ret s1 (wk_tup (ftp_sq q1) q2) h1⟩⟩
      | scr ns =>
        cases r1 with
        | scr q1 => exact ⟨_, _, rfl, .inl ⟨s1.sub.seq q1, kd_ret s1 (wk_list q1 (Reps.ints _)) h1⟩⟩
      | cel k =>
        cases r1 with
        | cel q1 =>
          simp only at h1
          split at h1
          · rename_i n en
            unfold cLen at en
            split at en
            · rename_i ds hk
              obtain ⟨_, vs, g, r⟩ := s1.cel k _ _ hk q1
              exact ⟨_, vs, rfl, .inl ⟨SqL.of g, kd_ret s1 (wk_cel q1) h1⟩⟩
            · cases en
          · exact h1.elim
      | _ => exact h1.elim
    refine thn (he.run pins s σ H _ I k2) fun v s1 ⟨x, H1, I1, r1, a, xs, ex, q⟩ => ?_
    subst ex
    cases r1
    rcases q with ⟨q, r⟩ | ⟨q, r⟩
    · exact hl xs a s1 H1 I1 q r
    · exact ht xs a s1 H1 I1 q r
  exact key
def iRg (fr : Rho → Cells → Res (Int × Int)) : Rho → Cells → Res Src := fun ρ C => (fr ρ C).bind fun p C1 => if RgOk p.1 p.2 then .ok (.fix (rg p.1 p.2)) C1 else .stuck
theorem bi_range1 (hg : Gl X "range") (hm : X.mg "range" = none) (ha : BE X W a f) (na : starEach [a] X.env = [(false, eval a X.env)] := by rfl) : BI X W tg (.Call (.Name "range" p) [a] [] pos) (iRg (rg1 f)) := by
  refine piI (pi_range1 hg hm (pa_cons ha pa_nil na) na) ?_
  rintro σ H R ⟨ρ, C, μ, F, S, E, k⟩
  unfold iRg rg1 at k
  have k' : kd (RI X.K) X.K X.mg W ((f ρ C).bind fun d C1 => match d with | .int j => if RgOk 0 j then .ok (.fix (rg 0 j)) C1 else .stuck | _ => .stuck) μ F σ H R := by
    cases hf : f ρ C with
    | ok d C1 =>
      rw [hf] at k
      cases d <;> exact k
    | ex c p C1 =>
      rw [hf] at k
      exact k
    | stuck =>
      rw [hf] at k
      exact k
  refine ⟨ρ, C, μ, F, S, E, kd_bind k' fun d C1 v μ1 F1 H1 x1 s1 r1 h1 => ?_⟩
  cases d with
  | int j =>
    cases r1
    simp only at h1
    split at h1
    · rename_i z
      refine ⟨j, rfl, z.2.2.1, z.2.2.2.1, kd_ret s1 ?_ h1⟩
      have := wk_range (K := X.K) (μ := μ1) (F := F1) 0 j.toNat
      show WkD _ _ _ _ (rg 0 j)
      unfold rg
      rw [show (j - 0).toNat = j.toNat from by omega]
      exact this
    · exact h1.elim
  | _ => exact False.elim h1
theorem bi_range2 (hg : Gl X "range") (hm : X.mg "range" = none) (ha : BE X W a f) (hb : BE X W b g) (na : starEach [a, b] X.env = [(false, eval a X.env), (false, eval b X.env)] := by rfl) (nb : starEach [b] X.env = [(false, eval b X.env)] := by rfl) :
    BI X W tg (.Call (.Name "range" p) [a, b] [] pos) (iRg (rg2 f g)) := by
  refine piI (pi_range2 hg hm (pa_cons ha (pa_cons hb pa_nil nb) (by rw [na, nb])) na nb) ?_
  rintro σ H R ⟨ρ, C, μ, F, S, E, k⟩
  unfold iRg rg2 at k
  have k' : kd (RI X.K) X.K X.mg W ((f ρ C).bind fun d C1 => (g ρ C1).bind fun d2 C2 => match d, d2 with | .int i, .int j => if RgOk i j then .ok (.fix (rg i j)) C2 else .stuck | _, _ => .stuck) μ F σ H R := by
    cases hf : f ρ C with
    | ok d C1 =>
      rw [hf] at k
      simp only [Res.bind_ok] at k ⊢
      cases hg' : g ρ C1 with
      | ok d2 C2 =>
        rw [hg'] at k
        cases d <;> cases d2 <;> exact k
      | ex c p C1 =>
        rw [hg'] at k
        exact k
      | stuck =>
        rw [hg'] at k
        exact k
    | ex c p C1 =>
      rw [hf] at k
      exact k
    | stuck =>
      rw [hf] at k
      exact k
  refine ⟨ρ, C, μ, F, S, E, kd_bind k' fun d C1 v μ1 F1 H1 x1 s1 r1 h1 => ?_⟩
  refine ⟨ρ, C1, μ1, F1, s1, x1.env E, kd_bind h1 fun d2 C2 v2 μ2 F2 H2 x2 s2 r2 h2 => ?_⟩
  cases d with
  | int i =>
    cases r1
    cases d2 with
    | int j =>
      cases r2
      simp only at h2
      split at h2
      · rename_i z
        refine ⟨i, j, rfl, ⟨z.1, z.2.1, z.2.2.1, z.2.2.2.1⟩, kd_ret s2 ?_ h2⟩
        exact wk_range (K := X.K) (μ := μ2) (F := F2) i (j - i).toNat
      · exact h2.elim
    | _ => exact False.elim h2
  | _ => cases d2 <;> exact False.elim h2
end

/-! ### for, while -/
def Out.loop (o : Out) (k : Rho → Cells → Out) : Out := match o with
  | .nx ρ C => k ρ C
  | .ct ρ C => k ρ C
  | .bk ρ C => .nx ρ C
  | o => o
def forL (t : D → Rho → Option Rho) (b : Rho → Cells → Out) : List D → Rho → Cells → Out
  | [], ρ, C => .nx ρ C
  | d :: ds, ρ, C => match t d ρ with
    | some ρ1 => (b ρ1 C).loop (forL t b ds)
    | none => .stuck
/-- .. over the k-th cell's content, whose length stays n; m turns are left -/
def forC (t : D → Rho → Option Rho) (b : Rho → Cells → Out) (k n : Nat) : Nat → Rho → Cells → Out
  | 0, ρ, C => if cLen k C = some n then .nx ρ C else .stuck
  | m + 1, ρ, C => match asL (.cel k) C with
    | some ds => if ds.length = n then match ds[n - (m + 1)]? with
      | some d => match t d ρ with
        | some ρ1 => (b ρ1 C).loop (forC t b k n m)
        | none => .stuck
      | none => .stuck
      else .stuck
    | none => .stuck
def forS (t : D → Rho → Option Rho) (b : Rho → Cells → Out) : Src → Rho → Cells → Out
  | .fix ds => forL t b ds
  | .cel k n => forC t b k n n
def sFor (fi : Rho → Cells → Res Src) (t : D → Rho → Option Rho) (b : Rho → Cells → Out) : Rho → Cells → Out := fun ρ C => (fi ρ C).out ρ fun ds C1 => forS t b ds ρ C1
theorem cLen_some {k n : Nat} {C : Cells} (h : cLen k C = some n) : ∃ ds, C[k]? = some (.lst ds) ∧ ds.length = n := by
  unfold cLen at h
  split at h
  · rename_i ds e
    exact ⟨ds, e, Option.some.inj h⟩
  · cases h
theorem asL_cel {k : Nat} {C : Cells} {ds : List D} (h : asL (.cel k) C = some ds) : C[k]? = some (.lst ds) := by
  simp only [asL] at h
  split at h
  · rename_i ds' e
    cases h
    exact e
  · cases h
def whileL (c : Rho → Cells → Res D) (b : Rho → Cells → Out) : Nat → Rho → Cells → Out
  | 0, _, _ => .stuck
  | n + 1, ρ, C => (toB (c ρ C)).out ρ fun x C1 => if x then (b ρ C1).loop (whileL c b n) else .nx ρ C1
def sWhile (n : Nat) (c : Rho → Cells → Res D) (b : Rho → Cells → Out) : Rho → Cells → Out := whileL c b n
section
variable {X : Cx} {W : WX} {it tg c : Expr} {body : List Stmt} {fi : Rho → Cells → Res Src} {t : D → Rho → Option Rho} {ns : List Nat} {fb : Rho → Cells → Out} {fc : Rho → Cells → Res D} {pos : Pos}
theorem sd_loop {K : PySem.W.Frag} {mg : Str → Option Value} {μ : List Addr} {F H : Hp} {D : Ends} {o : Out} {k : Rho → Cells → Out} {N : L2.St → Hp → Prop} (h : sd K mg W (o.loop k) D μ F H)
    (hN : ∀ ρ C σ μ' F' H', Ext μ F H μ' F' H' → Sim K μ' F' C H' → ERel K μ' F' ρ σ → sd K mg W (k ρ C) D μ' F' H' → N σ H') : sd K mg W o { D with nx := N, ct := N, bk := D.nx } μ F H := by
  cases o with
  | nx ρ C => exact fun σ μ2 F2 H2 x2 s2 e2 => hN ρ C σ μ2 F2 H2 x2 s2 e2 (sd_mono x2 h)
  | ct ρ C => exact fun σ μ2 F2 H2 x2 s2 e2 => hN ρ C σ μ2 F2 H2 x2 s2 e2 (sd_mono x2 h)
  | bk ρ C => exact h
  | rt d C => exact h
  | ex c p ρ C => exact h
  | stuck => exact h
theorem bs_for (hp : PassesOwn (model X.prog X.w) X.A X.env X.xe) (hc : X.calm = true) (hi : BI X W tg it fi) (hg : BG X tg t ns) (hb : BSs X W body fb) (hs : ∀ x, foldedSetIterable it X.env x = pure x := by intro _; rfl) :
    BS X W (.For tg it body [] pos) (sFor fi t fb) := by
  refine psI (ps_for hp hc hi hg hb hs) ?_
  rintro D σ H ⟨ρ, C, μ, F, S, E, k⟩
  refine ⟨ρ, C, μ, F, S, E, sd_bind E k fun src C1 J μ1 F1 H1 x1 s1 r1 h1 => ?_⟩
  cases src with
  | cel kk n =>
    refine ⟨fun i m σ H => m = n - i ∧ i ≤ n ∧ ∃ ρ C μ2 F2, (∃ τ, μ2 = μ1 ++ τ) ∧ Same F1 F2 ∧ Sim X.K μ2 F2 C H ∧ ERel X.K μ2 F2 ρ σ ∧ sd X.K X.mg W (forC t fb kk n (n - i) ρ C) D μ2 F2 H,
      ⟨n, by simp, Nat.zero_le _, ρ, C1, μ1, F1, ⟨[], by simp⟩, Same.refl _, s1, x1.env E, h1⟩, ?_⟩
    rintro i m σ2 H2 ⟨rfl, hi, ρ2, C2, μ2, F2, hp, hs, S2, E2, k2⟩
    by_cases hlt : i < n
    · have em : n - i = (n - (i + 1)) + 1 := by omega
      rw [em] at k2
      unfold forC at k2
      split at k2
      · rename_i ds2 e2
        split at k2
        · rename_i hn
          have hk := asL_cel e2
          obtain ⟨hgo, hy⟩ := r1.go i μ2 F2 C2 H2 ds2 hlt hp hs S2 hk hn
          refine .inr ⟨hgo, _, fun σ' H' p' => ⟨n - (i + 1), by omega, p'⟩, fun x H3 y => ?_⟩
          obtain ⟨e3, d, ed, rd⟩ := hy x H3 y
          subst e3
          have ei : n - (n - (i + 1) + 1) = i := by omega
          rw [ei, ed] at k2
          simp only at k2
          split at k2
          · rename_i ρ3 e3
            refine ⟨ρ2, C2, μ2, F2, d, ρ3, S2, E2, rd, e3, fun σ4 E4 _ => ⟨ρ3, C2, μ2, F2, S2, E4, sd_loop k2 fun ρ5 C5 σ5 μ5 F5 H5 x5 s5 e5 k5 => ?_⟩⟩
            refine ⟨rfl, hlt, ρ5, C5, μ5, F5, ?_, hs.trans x5.fr, s5, e5, k5⟩
            obtain ⟨τ1, q1⟩ := hp
            obtain ⟨τ2, q2, _⟩ := x5.pre
            exact ⟨τ1 ++ τ2, by rw [q2, q1, List.append_assoc]⟩
          · exact k2.elim
        · exact k2.elim
      · exact k2.elim
    · have e : i = n := by omega
      subst e
      rw [Nat.sub_self] at k2
      unfold forC at k2
      split at k2
      · rename_i z
        obtain ⟨ds2, hk, hn⟩ := cLen_some z
        exact .inl ⟨r1.stop μ2 F2 C2 H2 ds2 hp hs S2 hk hn, sd_nx S2 E2 k2⟩
      · exact k2.elim
  | fix ds =>
  refine ⟨fun i m σ H => m = ds.length - i ∧ i ≤ ds.length ∧ ∃ ρ C μ2 F2, (∃ τ, μ2 = μ1 ++ τ) ∧ Same F1 F2 ∧ Sim X.K μ2 F2 C H ∧ ERel X.K μ2 F2 ρ σ ∧ sd X.K X.mg W (forL t fb (ds.drop i) ρ C) D μ2 F2 H,
    ⟨ds.length, by simp, Nat.zero_le _, ρ, C1, μ1, F1, ⟨[], by simp⟩, Same.refl _, s1, x1.env E, h1⟩, ?_⟩
  rintro i m σ2 H2 ⟨rfl, hi, ρ2, C2, μ2, F2, hp, hs, S2, E2, k2⟩
  by_cases hlt : i < ds.length
  · obtain ⟨hgo, hy⟩ := r1.go i μ2 F2 C2 H2 hlt hp hs S2
    refine .inr ⟨hgo, _, fun σ' H' p' => ⟨ds.length - (i + 1), by omega, p'⟩, fun x H3 y => ?_⟩
    obtain ⟨F3, d, X3, S3, ed, rd⟩ := hy x H3 y
    rw [List.drop_eq_getElem_cons hlt] at k2
    have ed' : ds[i] = d := by
      rw [List.getElem?_eq_getElem hlt] at ed
      exact Option.some.inj ed
    rw [ed'] at k2
    unfold forL at k2
    split at k2
    · rename_i ρ3 e3
      refine ⟨ρ2, C2, μ2, F3, d, ρ3, S3, X3.env E2, rd, e3, fun σ4 E4 _ => ⟨ρ3, C2, μ2, F3, S3, E4, sd_loop (sd_mono X3 k2) fun ρ5 C5 σ5 μ5 F5 H5 x5 s5 e5 k5 => ?_⟩⟩
      refine ⟨rfl, hlt, ρ5, C5, μ5, F5, ?_, hs.trans (X3.fr.trans x5.fr), s5, e5, k5⟩
      obtain ⟨τ1, q1⟩ := hp
      obtain ⟨τ2, q2, _⟩ := x5.pre
      exact ⟨τ1 ++ τ2, by rw [q2, q1, List.append_assoc]⟩
    · exact k2.elim
  · have e : i = ds.length := by omega
    subst e
    rw [List.drop_length] at k2
    exact .inl ⟨r1.stop μ2 F2 C2 H2 hp hs S2, sd_nx S2 E2 k2⟩
theorem bs_while (n : Nat) (hp : PassesOwn (model X.prog X.w) X.A X.env X.xe) (hc : BT X W c fc) (hb : BSs X W body fb) : BS X W (.While c body [] pos) (sWhile n fc fb) := by
  refine psI (ps_while hp hc hb) ?_
  rintro D σ H ⟨ρ, C, μ, F, S, E, k⟩
  refine ⟨fun m σ H => ∃ ρ C μ F, Sim X.K μ F C H ∧ ERel X.K μ F ρ σ ∧ sd X.K X.mg W (whileL fc fb m ρ C) D μ F H, ⟨n, ρ, C, μ, F, S, E, k⟩, ?_⟩
  rintro m σ2 H2 ⟨ρ2, C2, μ2, F2, S2, E2, k2⟩
  cases m with
  | zero => exact k2.elim
  | succ m =>
    unfold whileL at k2
    refine ⟨ρ2, C2, μ2, F2, S2, E2, sd_bind (R := RB) E2 k2 fun b C3 v μ3 F3 H3 x3 s3 r3 h3 => ?_⟩
    subst r3
    cases v with
    | true =>
      refine iteT ⟨_, fun σ' H' p' => ⟨m, Nat.lt_succ_self _, p'⟩, ρ2, C3, μ3, F3, s3, x3.env E2, sd_loop h3 fun ρ5 C5 σ5 μ5 F5 H5 x5 s5 e5 k5 => ⟨ρ5, C5, μ5, F5, s5, e5, k5⟩⟩
    | false => exact iteF (sd_nx s3 (x3.env E2) h3)
end

/-! ### list comprehensions -/
def wipeD (ρ : Rho) : List Nat → Rho
  | [] => ρ
  | v :: vs => (wipeD ρ vs).set v none
def noX {α : Type} (r : Res α) : Res α := match r with
  | .ex _ _ _ => .stuck
  | r => r
/-- one turn: k goes on -/
def lcStep (t : D → Rho → Option Rho) (ft fe : Rho → Cells → Res D) (ρ : Rho) (d : D) (C : Cells) (k : Cells → Res (List D)) : Res (List D) := match t d ρ with
  | some ρ1 => (noX (toB (ft ρ1 C))).bind fun b C1 => if b then (noX (fe ρ1 C1)).bind fun y C2 => (k C2).bind fun ys C3 => .ok (y :: ys) C3 else k C1
  | none => .stuck
def lcL (t : D → Rho → Option Rho) (ft fe : Rho → Cells → Res D) (ρ : Rho) : List D → Cells → Res (List D)
  | [], C => .ok [] C
  | d :: ds, C => lcStep t ft fe ρ d C (lcL t ft fe ρ ds)
def lcC (t : D → Rho → Option Rho) (ft fe : Rho → Cells → Res D) (ρ : Rho) (k n : Nat) : Nat → Cells → Res (List D)
  | 0, C => if cLen k C = some n then .ok [] C else .stuck
  | m + 1, C => match asL (.cel k) C with
    | some ds => if ds.length = n then match ds[n - (m + 1)]? with
      | some d => lcStep t ft fe ρ d C (lcC t ft fe ρ k n m)
      | none => .stuck
      else .stuck
    | none => .stuck
def lcS (t : D → Rho → Option Rho) (ft fe : Rho → Cells → Res D) (ρ : Rho) : Src → Cells → Res (List D)
  | .fix ds => lcL t ft fe ρ ds
  | .cel k n => lcC t ft fe ρ k n n
theorem noX_ne {α : Type} (r : Res α) (c : Str) (p : D) (C : Cells) : noX r ≠ .ex c p C := by
  cases r <;> simp [noX]
def NoEx (k : Cells → Res (List D)) : Prop := ∀ (C : Cells) (c : Str) (p : D) (C' : Cells), k C ≠ .ex c p C'
theorem noex_step {t : D → Rho → Option Rho} {ft fe : Rho → Cells → Res D} {ρ : Rho} {d : D} {k : Cells → Res (List D)} (hk : NoEx k) : NoEx fun C => lcStep t ft fe ρ d C k := by
  intro C c p C' h
  simp only [lcStep] at h
  split at h
  · cases h1 : noX (toB (ft _ C)) with
    | stuck => rw [h1] at h; cases h
    | ex c1 p1 C1 => exact noX_ne _ _ _ _ h1
    | ok b C1 =>
      rw [h1] at h
      simp only [Res.bind_ok] at h
      split at h
      · cases h2 : noX (fe _ C1) with
        | stuck => rw [h2] at h; cases h
        | ex c1 p1 C1 => exact noX_ne _ _ _ _ h2
        | ok y C2 =>
          rw [h2] at h
          simp only [Res.bind_ok] at h
          cases h3 : k C2 with
          | stuck => rw [h3] at h; cases h
          | ex c1 p1 C1 => exact hk _ _ _ _ h3
          | ok ys C3 =>
            rw [h3] at h
            cases h
      · exact hk _ _ _ _ h
  · cases h
theorem noex_lcL (t : D → Rho → Option Rho) (ft fe : Rho → Cells → Res D) (ρ : Rho) : ∀ ds : List D, NoEx (lcL t ft fe ρ ds)
  | [] => fun C c p C' h => by simp [lcL] at h
  | d :: ds => fun C c p C' h => noex_step (noex_lcL t ft fe ρ ds) C c p C' h
theorem noex_lcC (t : D → Rho → Option Rho) (ft fe : Rho → Cells → Res D) (ρ : Rho) (k n : Nat) : ∀ m : Nat, NoEx (lcC t ft fe ρ k n m)
  | 0 => fun C c p C' h => by
    unfold lcC at h
    split at h <;> cases h
  | m + 1 => fun C c p C' h => by
    unfold lcC at h
    split at h
    · split at h
      · split at h
        · exact noex_step (noex_lcC t ft fe ρ k n m) C c p C' h
        · cases h
      · cases h
    · cases h
def fYes : Rho → Cells → Res D := fun _ C => .ok (.bl true) C
def fLc (m : Bool) (vs : List Nat) (fi : Rho → Cells → Res Src) (t : D → Rho → Option Rho) (ft fe : Rho → Cells → Res D) : Rho → Cells → Res D := fun ρ C => (fi ρ C).bind fun ds C1 => (lcS t ft fe (wipeD ρ vs) ds C1).bind fun ys C2 => if ys.length < sizeLine then mkL m ys C2 else .stuck
abbrev W0 : WX := fun _ _ _ _ => False
section
variable {K : PySem.W.Frag} {mg : Str → Option Value} {W : WX} {μ μ' : List Addr} {F F' H H' : Hp} {C C' : Cells} {ρ : Rho} {σ : L2.St}
theorem ERel.wipe (E : ERel K μ F ρ σ) : ∀ vs : List Nat, ERel K μ F (wipeD ρ vs) (L2.wipe σ vs)
  | [] => E
  | v :: vs => by
    have ih := ERel.wipe E vs
    unfold wipeD L2.wipe
    refine ⟨by simp [ih.1], fun i d h => ?_⟩
    by_cases hi : v = i
    · subst hi
      by_cases hv : v < (wipeD ρ vs).length
      · rw [List.getElem?_set_self hv] at h
        cases h
      · rw [List.getElem?_eq_none (by simpa using hv)] at h
        cases h
    · rw [List.getElem?_set_ne hi] at h ⊢
      exact ih.2 i d h
theorem wipe_wipe (σ : L2.St) (vs : List Nat) : wipe (wipe σ vs) vs = wipe σ vs := by
  have : ∀ us : List Nat, (∀ i ∈ us, i ∈ vs) → wipe (wipe σ vs) us = wipe σ vs := by
    intro us
    induction us with
    | nil => intro _; rfl
    | cons u us ih =>
      intro h
      show (wipe (wipe σ vs) us).set u none = _
      rw [ih fun i hi => h i (List.mem_cons_of_mem _ hi), wipe_none (h u (by simp))]
  exact this vs fun _ h => h
/-- an object beside the cells and the frozen part changes -/
theorem Sim.other {D : Addr} {o : HO} (S : Sim K μ F C H) (h1 : D ∉ μ) (h2 : F D = none) : Sim K μ F C (upd H D o) := by
  refine ⟨fun b u e => ?_, S.len, S.nd, fun a h z => ?_, fun k c a e1 e2 => ?_⟩
  · have hne : b ≠ D := fun z => by rw [z, h2] at e; cases e
    rw [upd_ne hne]
    exact S.sub b u e
  · by_cases hb : a = D
    · subst hb
      exact h1 h
    · rw [upd_ne hb] at z
      exact S.trk a h z
  · have q := S.cel k c a e1 e2
    cases c with
    | dead => trivial
    | lst ds =>
      obtain ⟨f, vs, g, r⟩ := q
      have hne : a ≠ D := fun z => h1 (z ▸ List.mem_of_getElem? e2)
      exact ⟨f, vs, by rw [upd_ne hne]; exact g, r⟩
    | dic ds =>
      obtain ⟨f, vs, g, r⟩ := q
      have hne : a ≠ D := fun z => h1 (z ▸ List.mem_of_getElem? e2)
      exact ⟨f, vs, by rw [upd_ne hne]; exact g, r⟩
/-- a list beside them becomes one of ours -/
theorem kd_adopt {μ0 : List Addr} {F0 H0 : Hp} {D : Addr} {m : Bool} {ds : List BV.D} {vs : List V} {Q : V → Hp → Prop} (S : Sim K μ F C H) (X : Ext μ0 F0 H0 μ F H) (h0 : H0 D = none) (h1 : D ∉ μ) (h2 : F D = none) (h3 : H D = some (.lst vs)) (r : Reps K μ F vs ds)
    (h : kd (RD K) K mg W (mkL m ds C) μ0 F0 σ H0 Q) : Q (.ref D) H := by
  cases m with
  | true =>
    obtain ⟨τ, e, n⟩ := X.pre
    refine h _ (μ ++ [D]) F H ⟨⟨τ ++ [D], by rw [e, List.append_assoc], fun a ha => ?_⟩, X.fr, X.thr, X.new, X.keep⟩ ⟨S.sub, by simp [S.len], ?_, fun a ha => ?_, fun k c a e1 e2 => ?_⟩ (.cel ?_)
    · rcases List.mem_append.mp ha with ha | ha
      · exact n a ha
      · simp at ha
        subst ha
        exact h0
    · refine List.nodup_append.mpr ⟨S.nd, by simp, fun a ha b hb e => ?_⟩
      simp at hb
      subst hb
      subst e
      exact h1 ha
    · rcases List.mem_append.mp ha with ha | ha
      · exact S.trk a ha
      · simp at ha
        subst ha
        rw [h3]
        simp
    · by_cases hk : k < C.length
      · rw [List.getElem?_append_left hk] at e1
        rw [List.getElem?_append_left (by rw [S.len]; exact hk)] at e2
        have q := S.cel k c a e1 e2
        cases c with
        | dead => trivial
        | lst ds2 =>
          obtain ⟨f, vs2, g, r2⟩ := q
          exact ⟨f, vs2, g, Reps.mono ⟨[D], rfl⟩ (Same.refl F) _ _ r2⟩
        | dic ds2 =>
          obtain ⟨f, vs2, g, r2⟩ := q
          exact ⟨f, vs2, g, KReps.mono ⟨[D], rfl⟩ (Same.refl F) _ _ r2⟩
      · have hk0 : k - C.length = 0 := by
          rw [List.getElem?_append_right (by omega)] at e1
          have := (List.getElem?_eq_some_iff.mp e1).1
          simp at this
          omega
        rw [List.getElem?_append_right (by omega), hk0] at e1
        rw [List.getElem?_append_right (by rw [S.len]; omega), S.len, hk0] at e2
        simp at e1 e2
        subst e1 e2
        exact ⟨h2, vs, h3, Reps.mono ⟨[D], rfl⟩ (Same.refl F) _ _ r⟩
    · rw [List.getElem?_append_right (by rw [S.len]; exact Nat.le_refl _), S.len, Nat.sub_self]
      rfl
  | false =>
    have fF : Same F (upd F D (.lst vs)) := fun b u e => by
      rw [upd_ne (ne_of_none e h2)]
      exact e
    refine h _ μ (upd F D (.lst vs)) H ⟨X.pre, X.fr.trans fF, X.thr, fun a o e1 e2 => ?_, X.keep⟩ ⟨fun b u e => ?_, S.len, S.nd, S.trk, fun k c a e1 e2 => ?_⟩ (.lst upd_same (Reps.mono ⟨[], by simp⟩ fF _ _ r))
    · by_cases hb : a = D
      · subst hb
        exact .inl h0
      · rw [upd_ne hb] at e1
        exact X.new a o e1 e2
    · by_cases hb : b = D
      · subst hb
        rw [upd_same] at e
        cases e
        exact h3
      · rw [upd_ne hb] at e
        exact S.sub b u e
    · have q := S.cel k c a e1 e2
      cases c with
      | dead => trivial
      | lst ds2 =>
        obtain ⟨f, vs2, g, r2⟩ := q
        have hne : a ≠ D := fun z => h1 (z ▸ List.mem_of_getElem? e2)
        exact ⟨by rw [upd_ne hne]; exact f, vs2, g, Reps.mono ⟨[], by simp⟩ fF _ _ r2⟩
      | dic ds2 =>
        obtain ⟨f, vs2, g, r2⟩ := q
        have hne : a ≠ D := fun z => h1 (z ▸ List.mem_of_getElem? e2)
        exact ⟨by rw [upd_ne hne]; exact f, vs2, g, KReps.mono ⟨[], by simp⟩ fF _ _ r2⟩
end
/-- tests of a comprehension -/
abbrev BTs (X : Cx) (W : WX) (es : List Expr) (f : Rho → Cells → Res D) : Prop := PTs X es (rT X.K X.mg W f)
section
variable {X : Cx} {W : WX}
theorem bts_nil : BTs X W [] fYes := by
  refine ⟨fun pins s σ H Q I h => pts_nil.run pins s σ H Q I ?_⟩
  obtain ⟨ρ, C, μ, F, S, E, k⟩ := h
  exact kd_ret (v := true) S rfl k
theorem bts_one {c : Expr} {f : Rho → Cells → Res D} (h : BT X W c f) : BTs X W [c] f := pts_one h
/-- what holds between the turns: the new list stands at D, beside cells and frozen part -/
structure LcInv (K : PySem.W.Frag) (μ1 : List Addr) (F1 H1 : Hp) (D : Addr) (C2 : Cells) (μ2 : List Addr) (F2 H2 : Hp) (acc : List BV.D) (va : List V) : Prop where
  x2 : Ext μ1 F1 H1 μ2 F2 H2
  s2 : Sim K μ2 F2 C2 H2
  d1 : D ∉ μ2
  d2 : F2 D = none
  d3 : H2 D = some (.lst va)
  ra : Reps K μ2 F2 va acc
def lcK (m : Bool) (acc : List D) (r : Res (List D)) : Res D := r.bind fun ys C3 => if (acc ++ ys).length < sizeLine then mkL m (acc ++ ys) C3 else .stuck
theorem lc_step {t : D → Rho → Option Rho} {ns : List Nat} {ft fe : Rho → Cells → Res D} {m : Bool} {vs : List Nat} {ρw : Rho} {σ : L2.St} {Q : VK} {μ1 μ2 : List Addr} {F1 F2 F3 H1 H2 H3 : Hp} {D : Addr} {C2 : Cells} {acc : List BV.D} {va : List V} {x : V} {d : BV.D} {kk : Cells → Res (List BV.D)} {N : Hp → Prop}
    (hv : ∀ i ∈ ns, i ∈ vs) (hD : H1 D = none) (L : LcInv X.K μ1 F1 H1 D C2 μ2 F2 H2 acc va) (X3 : Ext μ2 F2 H2 μ2 F3 H3) (S3 : Sim X.K μ2 F3 C2 H3) (rd : Rep X.K μ2 F3 x d) (E1 : ERel X.K μ1 F1 ρw (wipe σ vs)) (nx : NoEx kk)
    (k2 : kd (RD X.K) X.K X.mg W (lcK m acc (lcStep t ft fe ρw d C2 kk)) μ1 F1 σ H1 Q)
    (hN : ∀ C' μ' F' H' acc' va', LcInv X.K μ1 F1 H1 D C' μ' F' H' acc' va' → kd (RD X.K) X.K X.mg W (lcK m acc' (kk C')) μ1 F1 σ H1 Q → N H') :
    rG X.K t ns x (wipe σ vs) H3 fun σ2 H2 => wipe σ2 vs = wipe σ vs ∧ rT X.K X.mg W0 ft σ2 H2 fun b H3 =>
      if b = true then rE X.K X.mg W0 fe σ2 H3 fun y H4 => ∃ acc, H4 D = some (.lst acc) ∧ acc.length < sizeLine ∧ N (upd H4 D (.lst (acc ++ [y]))) else N H3 := by
  obtain ⟨x2, s2, d1, d2, d3, ra⟩ := L
  have dn : ∀ {μa : List Addr} {Fa Ha : Hp}, Ext μ2 F2 H2 μa Fa Ha → D ∉ μa ∧ Fa D = none ∧ Ha D = some (.lst va) := fun {μa Fa Ha} xa => by
    refine ⟨fun z => ?_, ?_, xa.keep D _ d3 d1⟩
    · obtain ⟨τ, e, nn⟩ := xa.pre
      rw [e] at z
      rcases List.mem_append.mp z with z | z
      · exact d1 z
      · rw [nn D z] at d3
        cases d3
    · cases q : Fa D with
      | none => rfl
      | some o =>
        rcases xa.new D o q d2 with z | z
        · rw [z] at d3
          cases d3
        · exact absurd z d1
  unfold lcK lcStep at k2
  split at k2
  · rename_i ρ3 e3
    refine ⟨ρw, C2, μ2, F3, d, ρ3, S3, X3.env (x2.env E1), rd, e3, fun σ4 E4 w4 => ⟨?_, ρ3, C2, μ2, F3, S3, E4, ?_⟩⟩
    · rw [w4 vs hv]
      exact wipe_wipe σ vs
    · cases hft : toB (ft ρ3 C2) with
      | stuck =>
        rw [hft] at k2
        exact k2.elim
      | ex c p C3 =>
        rw [hft] at k2
        exact k2.elim
      | ok b C3 =>
        rw [hft] at k2
        intro b' μ4 F4 H4 x4 s4 eb
        have eb' : b' = b := eb
        subst eb'
        simp only [noX, Res.bind_ok] at k2
        cases b' with
        | true =>
          refine iteT ⟨ρ3, C3, μ4, F4, s4, x4.env E4, ?_⟩
          simp only [if_true] at k2
          cases hfe : fe ρ3 C3 with
          | stuck =>
            rw [hfe] at k2
            exact k2.elim
          | ex c p C4 =>
            rw [hfe] at k2
            exact k2.elim
          | ok yv C4 =>
            rw [hfe] at k2
            simp only [noX, Res.bind_ok] at k2
            intro w5 μ5 F5 H5 x5 s5 r5
            have xa := X3.trans (x4.trans x5)
            obtain ⟨g1, g2, g3⟩ := dn xa
            have kk2 : kd (RD X.K) X.K X.mg W (lcK m (acc ++ [yv]) (kk C4)) μ1 F1 σ H1 Q ∧ va.length < sizeLine := by
              unfold lcK
              cases hr : kk C4 with
              | stuck =>
                rw [hr] at k2
                exact k2.elim
              | ex c p C5 => exact (nx _ _ _ _ hr).elim
              | ok ys C5 =>
                rw [hr] at k2
                simp only [Res.bind_ok] at k2 ⊢
                rw [List.append_assoc]
                refine ⟨k2, ?_⟩
                split at k2
                · rename_i z
                  simp only [List.length_append, List.length_cons, List.length_nil] at z
                  rw [ra.length]
                  omega
                · exact k2.elim
            refine ⟨va, g3, kk2.2, hN C4 μ5 F5 _ (acc ++ [yv]) (va ++ [w5]) ⟨?_, s5.other g1 g2, g1, g2, upd_same, (xa.reps ra).append (.cons r5 .nil)⟩ kk2.1⟩
            have xb := x2.trans xa
            exact ⟨xb.pre, xb.fr, fun a z => by
              by_cases hb : a = D
              · subst hb; exact hD
              · rw [upd_ne hb] at z; exact xb.thr a z, xb.new, fun a o e z => by rw [upd_ne (ne_of_none e hD)]; exact xb.keep a o e z⟩
        | false =>
          simp only [if_neg Bool.false_ne_true] at k2
          have xa := X3.trans x4
          obtain ⟨g1, g2, g3⟩ := dn xa
          exact iteF (hN C3 μ4 F4 H4 acc va ⟨x2.trans xa, s4, g1, g2, g3, xa.reps ra⟩ k2)
  · exact k2.elim
theorem lc_reading {fi : Rho → Cells → Res Src} {t : D → Rho → Option Rho} {ns : List Nat} {ft fe : Rho → Cells → Res D} {m : Bool} {vs : List Nat} (hv : ∀ i ∈ ns, i ∈ vs) (σ : L2.St) (H : Hp) (Q : VK) (h : rE X.K X.mg W (fLc m vs fi t ft fe) σ H Q) :
    tLc (rI X.K X.mg W fi) (rG X.K t ns) (rT X.K X.mg W0 ft) (rE X.K X.mg W0 fe) vs σ H Q := by
  obtain ⟨ρ, C, μ, F, S, E, k⟩ := h
  refine ⟨ρ, C, μ, F, S, E, kd_bind k fun src C1 J μ1 F1 H1 x1 s1 r1 h1 => ?_⟩
  intro D hD
  have E1 := (x1.env E).wipe vs
  have L0 : LcInv X.K μ1 F1 H1 D C1 μ1 F1 (upd H1 D (.lst [])) [] [] := ⟨⟨⟨[], by simp, fun a z => nomatch z⟩, Same.refl _, fun a z => by
      by_cases hb : a = D
      · subst hb; exact hD
      · rw [upd_ne hb] at z; exact z, fun a o e1 e2 => (by rw [e1] at e2; cases e2), fun a o e _ => by rw [upd_ne (ne_of_none e hD)]; exact e⟩,
    s1.other (s1.notin hD) (s1.free hD), s1.notin hD, s1.free hD, upd_same, .nil⟩
  have pre : ∀ {C2 μ2 F2 H2 acc va}, LcInv X.K μ1 F1 H1 D C2 μ2 F2 H2 acc va → ∃ τ, μ2 = μ1 ++ τ := fun L => ⟨_, L.x2.pre.choose_spec.1⟩
  cases src with
  | fix ds =>
    refine ⟨fun i n H2 => n = ds.length - i ∧ i ≤ ds.length ∧ ∃ C2 μ2 F2 acc va, LcInv X.K μ1 F1 H1 D C2 μ2 F2 H2 acc va ∧ kd (RD X.K) X.K X.mg W (lcK m acc (lcL t ft fe (wipeD ρ vs) (ds.drop i) C2)) μ1 F1 σ H1 Q,
      ⟨ds.length, by simp, Nat.zero_le _, C1, μ1, F1, [], [], L0, h1⟩, ?_⟩
    rintro i n H2 ⟨rfl, hi, C2, μ2, F2, acc, va, L, k2⟩
    by_cases hlt : i < ds.length
    · obtain ⟨hgo, hy⟩ := r1.go i μ2 F2 C2 H2 hlt (pre L) L.x2.fr L.s2
      refine .inr ⟨hgo, _, fun H' p' => ⟨ds.length - (i + 1), by omega, p'⟩, fun x H3 y => ?_⟩
      obtain ⟨F3, d, X3, S3, ed, rd⟩ := hy x H3 y
      rw [List.drop_eq_getElem_cons hlt] at k2
      have ed' : ds[i] = d := by
        rw [List.getElem?_eq_getElem hlt] at ed
        exact Option.some.inj ed
      rw [ed'] at k2
      exact lc_step hv hD L X3 S3 rd E1 (noex_lcL _ _ _ _ _) k2 fun C' μ' F' H' acc' va' L' k' => ⟨rfl, hlt, C', μ', F', acc', va', L', k'⟩
    · have e : i = ds.length := by omega
      subst e
      rw [List.drop_length] at k2
      refine .inl ⟨r1.stop μ2 F2 C2 H2 (pre L) L.x2.fr L.s2, ?_⟩
      unfold lcK lcL at k2
      simp only [Res.bind_ok, List.append_nil] at k2
      split at k2
      · exact kd_adopt L.s2 L.x2 hD L.d1 L.d2 L.d3 L.ra k2
      · exact k2.elim
  | cel kk n =>
    refine ⟨fun i m' H2 => m' = n - i ∧ i ≤ n ∧ ∃ C2 μ2 F2 acc va, LcInv X.K μ1 F1 H1 D C2 μ2 F2 H2 acc va ∧ kd (RD X.K) X.K X.mg W (lcK m acc (lcC t ft fe (wipeD ρ vs) kk n (n - i) C2)) μ1 F1 σ H1 Q,
      ⟨n, by simp, Nat.zero_le _, C1, μ1, F1, [], [], L0, h1⟩, ?_⟩
    rintro i m' H2 ⟨rfl, hi, C2, μ2, F2, acc, va, L, k2⟩
    by_cases hlt : i < n
    · have em : n - i = (n - (i + 1)) + 1 := by omega
      rw [em] at k2
      unfold lcC at k2
      split at k2
      · rename_i ds2 e2
        split at k2
        · rename_i hn
          obtain ⟨hgo, hy⟩ := r1.go i μ2 F2 C2 H2 ds2 hlt (pre L) L.x2.fr L.s2 (asL_cel e2) hn
          refine .inr ⟨hgo, _, fun H' p' => ⟨n - (i + 1), by omega, p'⟩, fun x H3 y => ?_⟩
          obtain ⟨e3, d, ed, rd⟩ := hy x H3 y
          subst e3
          have ei : n - (n - (i + 1) + 1) = i := by omega
          rw [ei, ed] at k2
          exact lc_step hv hD L .refl L.s2 rd E1 (noex_lcC _ _ _ _ _ _ _) k2 fun C' μ' F' H' acc' va' L' k' => ⟨rfl, hlt, C', μ', F', acc', va', L', k'⟩
        · exact k2.elim
      · exact k2.elim
    · have e : i = n := by omega
      subst e
      rw [Nat.sub_self] at k2
      unfold lcC lcK at k2
      split at k2
      · rename_i z
        obtain ⟨ds2, hk, hn⟩ := cLen_some z
        refine .inl ⟨r1.stop μ2 F2 C2 H2 ds2 (pre L) L.x2.fr L.s2 hk hn, ?_⟩
        simp only [Res.bind_ok, List.append_nil] at k2
        split at k2
        · exact kd_adopt L.s2 L.x2 hD L.d1 L.d2 L.d3 L.ra k2
        · exact k2.elim
      · exact k2.elim
end
end BV
namespace BV
open PySem PySem.Spec PyProof.Rows L2

section
variable {X : Cx} {W : WX}
theorem be_lc (m : Bool) {elt tg it : Expr} {ifs : List Expr} {scope : Scope} {own : List (Str × Nat)} {pos : Pos} {fi : Rho → Cells → Res Src} {t : D → Rho → Option Rho} {ns : List Nat} {ft fe : Rho → Cells → Res D} (hc : X.calm = true) (hN : X.N.Nodup) (ok : BlkOk X.N X.env.scope scope own)
    (hv : ∀ i ∈ ns, i ∈ own.map (·.2)) (hi : BI X W tg it fi) (hg : ∀ (s : Shared) (H : Hp) (C : Addr) (cl : List (Str × Addr)) (fp : List Addr), BG (X.blk s H scope (compEnvC scope cl C X.env) fp) tg t ns)
    (ht : ∀ (s : Shared) (H : Hp) (C : Addr) (cl : List (Str × Addr)) (fp : List Addr), BTs (X.blk s H scope (compEnvC scope cl C X.env) fp) W0 ifs ft) (he : ∀ (s : Shared) (H : Hp) (C : Addr) (cl : List (Str × Addr)) (fp : List Addr), BE (X.blk s H scope (compEnvC scope cl C X.env) fp) W0 elt fe)
    (hs : ∀ x, foldedSetIterable it X.env x = pure x := by intro _; rfl) : BE X W (.ListComp elt [⟨tg, it, ifs, 0⟩] scope pos) (fLc m (own.map (·.2)) fi t ft fe) :=
  peI (pe_lc hc hN hi ok hg ht he hs) (lc_reading hv)
theorem bs_setLc (m : Bool) {i : Nat} {y : Str} {py : Pos} {elt tg it : Expr} {ifs : List Expr} {scope : Scope} {own : List (Str × Nat)} {pos spos : Pos} {fi : Rho → Cells → Res Src} {t : D → Rho → Option Rho} {ns : List Nat} {ft fe : Rho → Cells → Res D} (hc : X.calm = true) (hN : X.N.Nodup) (ok : BlkOk X.N X.env.scope scope own)
    (hv : ∀ i ∈ ns, i ∈ own.map (·.2)) (hy : X.N[i]? = some y) (hyl : X.env.scope.names.lookup y = some .local) (hsw : swapsWith (.ListComp elt [⟨tg, it, ifs, 0⟩] scope pos) (some (.Name y py)) spos.line X.env = pure true)
    (hi : BI X W tg it fi) (hg : ∀ (s : Shared) (H : Hp) (C : Addr) (cl : List (Str × Addr)) (fp : List Addr), BG (X.blk s H scope (compEnvC scope cl C X.env) fp) tg t ns)
    (ht : ∀ (s : Shared) (H : Hp) (C : Addr) (cl : List (Str × Addr)) (fp : List Addr), BTs (X.blk s H scope (compEnvC scope cl C X.env) fp) W0 ifs ft) (he : ∀ (s : Shared) (H : Hp) (C : Addr) (cl : List (Str × Addr)) (fp : List Addr), BE (X.blk s H scope (compEnvC scope cl C X.env) fp) W0 elt fe)
    (hs : ∀ x, foldedSetIterable it X.env x = pure x := by intro _; rfl) : BS X W (.Assign [.Name y py] (.ListComp elt [⟨tg, it, ifs, 0⟩] scope pos) spos) (sSet i (fLc m (own.map (·.2)) fi t ft fe)) := by
  refine psI (ps_setLc (g := rG X.K t ns) (tt := rT X.K X.mg W0 ft) (te := rE X.K X.mg W0 fe) hc hN hy hyl hsw hi ok hg ht he hs) ?_
  rintro D σ H ⟨ρ, C, μ, F, S, E, k⟩
  exact lc_reading (X := X) (W := W) hv _ _ _ ⟨ρ, C, μ, F, S, E, sd_bind E k fun d C1 v μ1 F1 H1 x1 s1 r1 h1 => sd_nx s1 ((x1.env E).set r1) h1⟩
/-- isinstance(x, (c1, c2)) -/
theorem be_isi2 {c c2 : String} {e tx ty : Expr} {f : Rho → Cells → Res D} {p pos pt : Pos} {j : Nat} (hc : c ∈ clNames) (hc2 : c2 ∈ clNames) (hg : Gl X "isinstance") (hm : X.mg "isinstance" = none) (he : BE X W e f) (hx : PE X tx (tC (.ty c))) (hy : PE X ty (tC (.ty c2)))
    (n1 : starEach [e, .Tuple [tx, ty] j pt] X.env = (false, eval e X.env) :: starEach [.Tuple [tx, ty] j pt] X.env := by rfl) (n2 : starEach [.Tuple [tx, ty] j pt] X.env = (false, eval (.Tuple [tx, ty] j pt) X.env) :: starEach [] X.env := by rfl)
    (n3 : starEach [tx, ty] X.env = (false, eval tx X.env) :: starEach [ty] X.env := by rfl) (n4 : starEach [ty] X.env = (false, eval ty X.env) :: starEach [] X.env := by rfl)
    (hpl : (backTo pos (starEach [.Tuple [tx, ty] j pt] X.env)).any (·.1) = false := by rfl) :
    BE X W (.Call (.Name "isinstance" p) [e, .Tuple [tx, ty] j pt] [] pos) (f1 (isiD [c, c2]) f) := by
  refine peI (pe_callB call_isiT hg hm (by decide +kernel) (pa_cons he (pa_cons (pe_tup (pa_cons hx (pa_cons hy pa_nil n4) n3)) pa_nil n2) n1) (he := n1) (hpl := hpl)) ?_
  rintro σ H Q ⟨ρ, C, μ, F, S, E, k⟩
  refine ⟨ρ, C, μ, F, S, E, kd_bind k fun d C1 v μ1 F1 H1 x1 s1 r1 h1 => ?_⟩
  unfold isiD at h1
  split at h1
  · rename_i t e1
    refine ⟨by show 2 ≤ sizeLine; rw [sizeLine_eq]; decide, fun p hp => ?_⟩
    obtain ⟨s2, x2⟩ := s1.alloc (o := .tup [.ty c, .ty c2]) hp
    obtain ⟨q1, q2⟩ := tyD_rep s2 (x2.rep r1) e1
    refine ⟨v, p, [.ty c, .ty c2], .type t, [.type c, .type c2], [c, c2].any fun z => isTy t z, rfl, upd_same, .cons (.ty c) (.cons (.ty c2) .nil), q1, ?_, ?_⟩
    · unfold PySem.W.kitAny PySem.W.kitAny PySem.W.kitAny
      rw [kit_ty _ t q2 c hc, kit_ty _ t q2 c2 hc2]
      simp only [List.any_cons, List.any_nil, Bool.or_false]
      cases isTy t c <;> cases isTy t c2 <;> rfl
    · exact h1 _ _ _ _ x2 s2 (.bl _)
  · exact h1.elim
end

/-! ### defs -/
/-! no cell from n on in it -/
mutual
def celOk (n : Nat) : D → Bool
  | .tup ds => celsOk n ds
  | .ftp ds => celsOk n ds
  | .lst ds => celsOk n ds
  | .cel k => decide (k < n)
  | _ => true
def celsOk (n : Nat) : List D → Bool
  | [] => true
  | d :: ds => celOk n d && celsOk n ds
end
def cellOk (n : Nat) : Cell → Bool
  | .lst ds => celsOk n ds
  | .dic ks => celsOk n (ks.map (·.2))
  | .dead => true
section
variable {K : PySem.W.Frag} {μ : List Addr} {F : Hp} {n : Nat}
mutual
theorem Rep.cutc : ∀ (d : D) (v : V), celOk n d = true → Rep K μ F v d → Rep K (μ.take n) F v d
  | .non, _, _, h => by cases h; exact .non
  | .bl b, _, _, h => by cases h; exact .bl b
  | .int i, _, _, h => by cases h; exact .int i
  | .str x, _, _, h => by cases h; exact .str x
  | .scr ns, _, _, h => by
    cases h with
    | scr a => exact .scr a
  | .tup ds, _, e, h => by
    cases h with
    | tup a b => exact .tup a (Reps.cutc ds _ (by simpa [celOk] using e) b)
  | .ftp ds, _, e, h => by
    cases h with
    | ftp a b c d => exact .ftp a b c (Reps.cutc ds _ (by simpa [celOk] using e) d)
  | .lst ds, _, e, h => by
    cases h with
    | lst a b => exact .lst a (Reps.cutc ds _ (by simpa [celOk] using e) b)
  | .cel k, _, e, h => by
    cases h with
    | cel a =>
      simp only [celOk, decide_eq_true_eq] at e
      refine .cel ?_
      rw [List.getElem?_take_of_lt e]
      exact a
theorem Reps.cutc : ∀ (ds : List D) (vs : List V), celsOk n ds = true → Reps K μ F vs ds → Reps K (μ.take n) F vs ds
  | [], _, _, h => by cases h; exact .nil
  | d :: ds, _, e, h => by
    simp only [celsOk, Bool.and_eq_true] at e
    cases h with
    | cons a b => exact .cons (Rep.cutc d _ e.1 a) (Reps.cutc ds _ e.2 b)
end
end
/-- what a def hands back: its own cells are forgotten; one that it returns is kept (m), or frozen -/
def okFin (m : Bool) (n : Nat) (d : D) (C : Cells) : Res D :=
  if (C.take n).all (cellOk n) then match d with
    | .cel k => if k < n then .ok d (C.take n) else match C[k]? with
      | some (.lst ds) => if celsOk n ds then (if m then .ok (.cel n) (C.take n ++ [.lst ds]) else .ok (.lst ds) (C.take n)) else .stuck
      | _ => .stuck
    | d => if celOk n d then .ok d (C.take n) else .stuck
  else .stuck
def exFin (n : Nat) (c : Str) (p : D) (C : Cells) : Res D := if (C.take n).all (cellOk n) && celOk n p then .ex c p (C.take n) else .stuck
def outFin (m : Bool) (n : Nat) (o : Out) : Res D := match o with
  | .nx _ C => okFin m n .non C
  | .rt d C => okFin m n d C
  | .ex c p _ C => exFin n c p C
  | _ => .stuck
def denF (m : Bool) (np N : Nat) (fb : Rho → Cells → Out) : List D → Cells → Res D := fun ds C => if ds.length = np then outFin m C.length (fb (ds.map some ++ List.replicate (N - np) none) C) else .stuck
section
variable {K : PySem.W.Frag} {mg : Str → Option Value} {W : WX} {μ μ' : List Addr} {F F' H H' : Hp} {C C' : Cells} {σ : L2.St}
theorem KReps.cutc {n : Nat} (ks : List (Key × D)) (ws : List (Key × V)) (h : celsOk n (ks.map (·.2)) = true) (r : KReps K μ F ws ks) : KReps K (μ.take n) F ws ks := ⟨r.1, Reps.cutc _ _ h r.2⟩
theorem Sim.cutc (S : Sim K μ' F' C' H') (n : Nat) (h : (C'.take n).all (cellOk n) = true) : Sim K (μ'.take n) F' (C'.take n) H' := by
  refine ⟨S.sub, by simp [S.len], S.nd.sublist (List.take_sublist _ _), fun a ha => S.trk a (List.mem_of_mem_take ha), fun k c a e1 e2 => ?_⟩
  have hk : k < n := by
    have := (List.getElem?_eq_some_iff.mp e1).1
    simp at this
    omega
  have hc : cellOk n c = true := List.all_eq_true.mp h c (List.mem_of_getElem? e1)
  rw [List.getElem?_take_of_lt hk] at e1 e2
  have q := S.cel k c a e1 e2
  cases c with
  | dead => trivial
  | lst ds =>
    obtain ⟨f, vs, g, r⟩ := q
    exact ⟨f, vs, g, Reps.cutc ds vs hc r⟩
  | dic ds =>
    obtain ⟨f, vs, g, r⟩ := q
    exact ⟨f, vs, g, KReps.cutc ds vs hc r⟩
theorem Ext.cutc (x : Ext μ F H μ' F' H') : μ'.take μ.length = μ ∧ Ext μ F H μ F' H' := by
  obtain ⟨τ, e, n⟩ := x.pre
  exact ⟨by rw [e]; simp, ⟨[], by simp, fun a h => nomatch h⟩, x.fr, x.thr, x.new, x.keep⟩
theorem fin_ok {m : Bool} {d : D} {v : V} {Q : VK} (S0 : Sim K μ F C H) (x : Ext μ F H μ' F' H') (S : Sim K μ' F' C' H') (r : Rep K μ' F' v d) (h : kd (RD K) K mg W (okFin m C.length d C') μ F σ H Q) : Q v H' := by
  unfold okFin at h
  split at h
  · rename_i hall
    obtain ⟨e1, x1⟩ := x.cutc
    have S1 := S.cutc C.length hall
    rw [← S0.len, e1, S0.len] at S1
    split at h
    · rename_i k
      split at h
      · rename_i hk
        refine h v μ F' H' x1 S1 ?_
        have := Rep.cutc (n := C.length) (.cel k) v (by simp [celOk, hk]) r
        rw [← S0.len, e1] at this
        exact this
      · rename_i hk
        split at h
        · rename_i ds hd
          split at h
          · rename_i hcs
            cases r with
            | cel a =>
              rename_i a0
              obtain ⟨f, vs, g, rr⟩ := S.cel k _ _ hd a
              have rr' := Reps.cutc (n := C.length) ds vs hcs rr
              rw [← S0.len, e1] at rr'
              have ha : a0 ∈ μ' := List.mem_of_getElem? a
              obtain ⟨τ, eτ, nτ⟩ := x.pre
              have hτ : a0 ∈ τ := by
                rw [eτ, List.getElem?_append_right (by rw [S0.len]; omega)] at a
                exact List.mem_of_getElem? a
              have hn : a0 ∉ μ := fun z => by
                have := S.nd
                rw [eτ] at this
                exact (List.nodup_append.mp this).2.2 _ z _ hτ rfl
              have h' : kd (RD K) K mg W (mkL m ds (C'.take C.length)) μ F σ H Q := by
                have hlen : (C'.take C.length).length = C.length := by
                  rw [List.length_take]
                  have : C.length ≤ C'.length := by
                    rw [← S.len, ← S0.len, eτ]
                    simp
                  omega
                unfold mkL
                rw [hlen]
                exact h
              exact kd_adopt S1 x1 (nτ _ hτ) hn f g rr' h'
          · exact h.elim
        · exact h.elim
    · split at h
      · rename_i hok
        refine h v μ F' H' x1 S1 ?_
        have := Rep.cutc (n := C.length) d v hok r
        rw [← S0.len, e1] at this
        exact this
      · exact h.elim
  · exact h.elim
end

/-- a def's promise: it computes den -/
def spD (K : PySem.W.Frag) (mg : Str → Option Value) (np : Nat) (den : List D → Cells → Res D) : Sp := fun vs H Q E => vs.length = np ∧ ∃ μ F C ds, Sim K μ F C H ∧ Reps K μ F vs ds ∧ kd (RD K) K mg (fun cls d _ H' => E cls d H') (den ds C) μ F [] H Q
/-- as FnOk, where no guard is under way -/
structure FnG (P : Program) (w : World) (K : PySem.W.Frag) (mg : Str → Option Value) (base : Heap) (k : Nat) (f : Addr) (fd : FuncData) (ps : List Str) (sp : Sp) : Prop where
  len : ∀ vs H Q E, sp vs H Q E → vs.length = ps.length
  run : ∀ (A : Around) (outer : List Env) (s : Shared) (H : Hp) (args : Args) (us : List Value) (vs : List V) (Q : VK) (E : XK), A.guards = some [] → Room k A → Env0 P w K mg base A outer s H →
    BindsTo s fd args (ps.zip us) → Vals vs us → sp vs H Q E → codeAny (model P w) A (.call (.ref f) args) (CR (L2.CX P w) outer P w H s Q E) s
theorem FnG.mono {P : Program} {w : World} {K : PySem.W.Frag} {mg : Str → Option Value} {base : Heap} {j k : Nat} {f : Addr} {fd : FuncData} {ps : List Str} {sp : Sp} (G : FnG P w K mg base j f fd ps sp) (h : j ≤ k) : FnG P w K mg base k f fd ps sp :=
  ⟨G.len, fun A outer s H args us vs Q E g r => G.run A outer s H args us vs Q E g (r.mono h)⟩
section
variable {P : Program} {w : World} {K : PySem.W.Frag} {mg : Str → Option Value} {base : Heap}
/-- the context of a def's body -/
abbrev BX (P : Program) (w : World) (K : PySem.W.Frag) (mg : Str → Option Value) (base : Heap) (N : List Str) (qual : Str) (sc : Scope) (f : Addr) (cd : Value) (A : Around) (outer : List Env) (s : Shared) (H : Hp) (E : XK) : Cx :=
  cxOf (L2.CX P w) P w K mg base N qual sc f cd A outer s H E
abbrev WF (E : XK) : WX := fun cls d _ H => E cls d H
theorem fnG_of {x qual : Str} {st : Stmt} {f : Addr} {fd : FuncData} {N ps : List Str} {k : Nat} {sp : Sp} (G : Fun K x qual st f fd) (S : FnScope N ps (defScope st)) (len : ∀ vs H Q E, sp vs H Q E → vs.length = ps.length)
    (body : ∀ (cd : Value) (A : Around) (outer : List Env) (s : Shared) (H : Hp) (vs : List V) (Q : VK) (E : XK), A.guards = some [] → Room k (A.deeper (envOfC qual (defScope st) s.heap.objs.size f cd)) → sp vs H Q E →
      ∃ t, PSs (BX P w K mg base N qual (defScope st) f cd A outer s H E) (defBody st) t ∧ t { nx := fun _ H' => Q .non H', rt := Q } (L2.start N vs) H) : FnG P w K mg base (k + 1) f fd ps sp := by
  obtain ⟨oc, od, kV, doc, pm, an, cd, ct, osl, rfl, look, code⟩ := G.ex
  constructor
  · exact len
  intro A outer s H args us vs Q E gd room e0 bind rel want
  have inS : K.In s.heap := e0.mod.kin.keeps fun b o q => (e0.bs b o q).1
  have noLim : s.heap.NoLimit := e0.mod.nolimit.keeps fun b o q => (e0.bs b o q).1
  have kinds : ∀ y ∈ ps.zip us, (defScope st).names.lookup y.1 = some .local ∨ ((defScope st).names.lookup y.1 = some .cell ∧ ((cellsFrom (s.heap.objs.size + 1) (defScope st).names []).lookup y.1).isSome = true) := by
    rintro ⟨n, v⟩ hy
    have hn := (List.of_mem_zip hy).1
    cases S.par n hn with
    | inl q => exact .inl q
    | inr q => exact .inr ⟨q, PySem.W.cellsFrom_some _ _ _ (.inl q)⟩
  refine codeAny_call_function room.depth (inS _ _ look) rfl S.co S.gen rfl (PySem.W.codeRec_of inS code) (bind _ _ _ _ (wpAny_newFunctionEnv_cells S.kind kinds fun env henv s1 hs1 => ?_))
  subst henv
  refine ⟨noLim.keeps hs1.toInCall.keep, codeAny_func ?_⟩
  obtain ⟨t, ht, hq⟩ := body cd A outer s H vs Q E gd (room.deeper _) want
  have I := inv_start (CX := L2.CX P w) (N := N) (f := f) (E := E) S room.hd e0 (len _ _ _ _ want) rel hs1
  refine wpAny_mono (ht.run [] s1 (L2.start N vs) H _ I hq) (fun fl s' h' => ?_) fun e s' h' => h'
  cases fl with
  | brk => exact h'.elim fun _ z => z.elim fun _ z => z.2.elim
  | cont => exact h'.elim fun _ z => z.elim fun _ z => z.2.elim
  | next =>
    obtain ⟨σ', H', J, q⟩ := h'
    exact ⟨.non, H', J.os, J.bare, J.base, J.hok, rfl, q⟩
  | ret u =>
    obtain ⟨v, σ', H', J, r, q⟩ := h'
    exact ⟨v, H', J.os, J.bare, J.base, J.hok, r, q⟩
/-- a def's body computes: so the def does -/
theorem fnG_den {x qual : Str} {st : Stmt} {f : Addr} {fd : FuncData} {N ps : List Str} {k : Nat} (m : Bool) {fb : Rho → Cells → Out} (G : Fun K x qual st f fd) (S : FnScope N ps (defScope st)) (hps : ps.length ≤ N.length)
    (body : ∀ (cd : Value) (A : Around) (outer : List Env) (s : Shared) (H : Hp) (E : XK), A.guards = some [] → Room k (A.deeper (envOfC qual (defScope st) s.heap.objs.size f cd)) →
      BSs (BX P w K mg base N qual (defScope st) f cd A outer s H E) (WF E) (defBody st) fb) : FnG P w K mg base (k + 1) f fd ps (spD K mg ps.length (denF m ps.length N.length fb)) := by
  refine fnG_of G S (fun vs H Q E h => h.1) fun cd A outer s H vs Q E gd room h => ⟨_, body cd A outer s H E gd room, ?_⟩
  obtain ⟨hl, μ, F, C, ds, S0, r, k0⟩ := h
  have hd : ds.length = ps.length := by rw [← r.length]; exact hl
  unfold denF at k0
  rw [if_pos hd] at k0
  refine ⟨ds.map some ++ List.replicate (N.length - ps.length) none, C, μ, F, S0, ⟨?_, fun i d e => ?_⟩, ?_⟩
  · unfold L2.start
    simp [hl, hd]
  · have hi : i < ds.length := by
      by_cases z : i < ds.length
      · exact z
      · rw [List.getElem?_append_right (by simp; omega)] at e
        have := List.mem_of_getElem? e
        simp at this
    rw [List.getElem?_append_left (by simpa using hi)] at e
    simp only [List.getElem?_map, Option.map_eq_some_iff] at e
    obtain ⟨d', e1, e2⟩ := e
    cases e2
    obtain ⟨v, e3, rv⟩ := r.get e1
    refine ⟨v, ?_, rv⟩
    unfold L2.start
    rw [List.getElem?_append_left (by simp; rw [r.length]; exact hi), List.getElem?_map, e3]
    rfl
  · generalize fb (ds.map some ++ List.replicate (N.length - ps.length) none) C = o at k0
    cases o with
    | nx ρ' C' => exact fun σ μ' F' H' x S' E' => fin_ok (m := m) S0 x S' .non k0
    | rt d C' => exact fun v μ' F' H' x S' r' => fin_ok (m := m) S0 x S' r' k0
    | bk ρ' C' => exact k0.elim
    | ct ρ' C' => exact k0.elim
    | stuck => exact k0.elim
    | ex c p ρ' C' =>
      intro cls dx σ μ' F' H' x S' E' xr
      unfold outFin exFin at k0
      simp only at k0
      split at k0
      · rename_i z
        simp only [Bool.and_eq_true] at z
        obtain ⟨e1, x1⟩ := x.cutc
        have S1 := S'.cutc C.length z.1
        rw [← S0.len, e1, S0.len] at S1
        obtain ⟨h1, d, v, h2, h3, h4⟩ := xr
        have h5 := Rep.cutc (n := C.length) p v z.2 h4
        rw [← S0.len, e1] at h5
        exact k0 cls dx μ F' H' x1 S1 ⟨h1, d, v, h2, h3, h5⟩
      · exact k0.elim
end
section
variable {X : Cx} {W : WX} {k : Nat} {f : Addr} {fd : FuncData} {ps : List Str} {den : List D → Cells → Res D} {x : Str} {p pos : Pos} {e : Expr} {es : List Expr} {fs : Rho → Cells → Res (List D)}
theorem run_fnG {pins : List (Addr × Obj)} {σ : L2.St} {H : Hp} {s : Shared} {Q : VK} {args : Args} {us : List Value} {vs : List V} {ds : List D} {C : Cells} {μ : List Addr} {F : Hp} (G : FnG X.prog X.w X.K X.mg X.base k f fd ps (spD X.K X.mg ps.length den)) (hr : Room k X.A) (hgd : X.A.guards = some []) (tk : Takes X W)
    (I : Inv X pins σ H s) (hb : BindsTo s fd args (ps.zip us)) (r : Vals vs us) (S : Sim X.K μ F C H) (rs : Reps X.K μ F vs ds) (hl : vs.length = ps.length) (h : kd (RD X.K) X.K X.mg W (den ds C) μ F σ H Q) :
    codeAny (model X.prog X.w) X.A (.call (.ref f) args) (fun r s' => match r with | .ok (.ret u) => EP X pins σ Q u s' | .ok _ => False | .error e => X.xe e s') s := by
  refine codeAny_mono (G.run X.A X.stack s H args us vs Q (WE W σ) hgd hr I.env0 hb r ⟨hl, μ, F, C, ds, S, rs, ?_⟩) fun q s' hq => ?_
  · cases hd : den ds C with
    | ok d C1 =>
      rw [hd] at h
      exact h
    | ex c p C1 =>
      rw [hd] at h
      exact h
    | stuck =>
      rw [hd] at h
      exact h
  · cases q with
    | error e => exact passAt tk σ pins H s e s' I hq
    | ok fl =>
      cases fl with
      | ret u => exact I.after hq
      | next => exact False.elim hq
      | brk => exact False.elim hq
      | cont => exact False.elim hq
theorem call_fnG {pins : List (Addr × Obj)} {σ : L2.St} {H : Hp} {s : Shared} {Q : VK} {args : List Value} {kw : List (Str × Value)} {us : List Value} {vs : List V} {ds : List D} {C : Cells} {μ : List Addr} {F : Hp} (G : FnG X.prog X.w X.K X.mg X.base k f fd ps (spD X.K X.mg ps.length den)) (hr : Room k X.A) (hgd : X.A.guards = some []) (tk : Takes X W)
    (I : Inv X pins σ H s) (hb : BindsTo s fd ⟨args, kw⟩ (ps.zip us)) (r : Vals vs us) (S : Sim X.K μ F C H) (rs : Reps X.K μ F vs ds) (hl : vs.length = ps.length) (h : kd (RD X.K) X.K X.mg W (den ds C) μ F σ H Q) :
    wpAny (model X.prog X.w) X.A (call (.ref f) args kw) (EP X pins σ Q) X.xe s := by
  refine wpAny_call (codeAny_mono (run_fnG G hr hgd tk I hb r S rs hl h) fun q s' hq => ?_)
  cases q with
  | error e => exact hq
  | ok fl =>
    cases fl with
    | ret u => exact hq
    | next => exact False.elim hq
    | brk => exact False.elim hq
    | cont => exact False.elim hq
def oCall (np : Nat) (den : List D → Cells → Res D) (ds : List D) (C : Cells) : Res D := if ds.length = np then den ds C else .stuck
theorem be_call (G : FnG X.prog X.w X.K X.mg X.base k f fd ps (spD X.K X.mg ps.length den)) (hr : Room k X.A) (hgd : X.A.guards = some []) (tk : Takes X W) (hg : Gl X x) (hm : X.mg x = some (.ref f)) (hk : PySem.W.keepIn X.K (.ref f) = true) (hb : Binds X.K fd ps [])
    (ha : BA X W (e :: es) fs) (hdb : (x == ("__debug__" : Str)) = false := by decide) (he : starEach (e :: es) X.env = (false, eval e X.env) :: starEach es X.env := by rfl) (hpl : (backTo pos (starEach es X.env)).any (·.1) = false := by rfl) :
    BE X W (.Call (.Name x p) (e :: es) [] pos) (fA (oCall ps.length den) fs) := by
  refine ⟨fun pins s σ H Q I h => ?_⟩
  obtain ⟨ρ, C, μ, F, S, E, k0⟩ := h
  refine wpAny_Call_Name_kw (ld_glob I hg hm (PySem.W.callWith_K (h₀ := X.base) I.ok.mod.kin hk (thn (ha.run pos pins s σ H (fun vs H1 => ∃ ds C1 μ1 F1, Sim X.K μ1 F1 C1 H1 ∧ Reps X.K μ1 F1 vs ds ∧ kd (RD X.K) X.K X.mg W (oCall ps.length den ds C1) μ1 F1 σ H1 Q) I ?_) fun us s1 hu => ?_) he hpl) hdb)
  · exact ⟨ρ, C, μ, F, S, E, kd_bind k0 fun d C1 v μ1 F1 H1 x1 s1 r1 h1 => ⟨d, C1, μ1, F1, s1, r1, h1⟩⟩
  · obtain ⟨vs, H1, I1, r, ds, C1, μ1, F1, S1, rs, h1⟩ := hu
    unfold oCall at h1
    split at h1
    · rename_i hl
      have hlv : vs.length = ps.length := by rw [rs.length]; exact hl
      have hlu : us.length = ps.length := by rw [← r.length]; exact hlv
      have hbb := hb s1 us I1.kIn (by rw [List.append_nil]; exact hlu)
      rw [List.append_nil] at hbb
      exact ⟨I1.kIn, call_fnG G hr hgd tk I1 hbb r S1 rs hlv h1⟩
    · exact h1.elim
end
end BV
namespace BV
open PySem PySem.Spec PyProof.Rows L2

section
variable {X : Cx} {W : WX} {k : Nat} {f : Addr} {fd : FuncData} {ps ks : List Str} {den : List D → Cells → Res D} {x : Str} {p pos : Pos} {e : Expr} {es : List Expr} {kws : List Keyword} {fs fk : Rho → Cells → Res (List D)} {nm : Option Str} {kpos : Pos} {fe : Rho → Cells → Res D}
/-! ### calls with keywords -/
abbrev BK (X : Cx) (W : WX) (kws : List Keyword) (f : Rho → Cells → Res (List D)) : Prop := PK X kws (rA X.K X.mg W f)
theorem pkI {kws : List Keyword} {t t' : TA} (h : PK X kws t) (q : ∀ σ H Q, t' σ H Q → t σ H Q) : PK X kws t' := ⟨fun pos pins s σ H Q I z => h.run pos pins s σ H Q I (q σ H Q z)⟩
theorem bk_nil : BK X W [] aNil := by
  refine pkI pk_nil ?_
  rintro σ H Q ⟨ρ, C, μ, F, S, E, q⟩
  exact kd_ret S .nil q
theorem bk_cons (ha : BE X W e fe) (hr : BK X W kws fk) : BK X W (⟨nm, e, kpos⟩ :: kws) (aCons fe fk) := by
  refine pkI (pk_cons ha hr) ?_
  rintro σ H Q ⟨ρ, C, μ, F, S, E, q⟩
  refine ⟨ρ, C, μ, F, S, E, kd_bind q fun d C1 v μ1 F1 H1 x1 s1 r1 h1 => ?_⟩
  refine ⟨ρ, C1, μ1, F1, s1, x1.env E, kd_bind h1 fun d2 C2 v2 μ2 F2 H2 x2 s2 r2 h2 => ?_⟩
  exact kd_ret s2 (.cons (x2.rep r1) r2) h2
/-- how keywords come to the parameters: π tells by parameter its place among the handed values (the positional ones, then the keywords') -/
def permL {α : Type} (π : List Nat) (xs : List α) : List α := π.filterMap fun i => xs[i]?
structure KOk (K : PySem.W.Frag) (fd : FuncData) (ps ks : List Str) (π : List Nat) (n : Nat) : Prop where
  to : ∀ (s : Shared) (us ws : List Value), K.In s.heap → us.length = n → ws.length = ks.length → BindsTo s fd ⟨us, ks.zip ws⟩ (ps.zip (permL π (us ++ ws)))
theorem Reps.perm {K : PySem.W.Frag} {μ : List Addr} {F : Hp} {vs : List V} {ds : List D} (r : Reps K μ F vs ds) : ∀ π : List Nat, Reps K μ F (permL π vs) (permL π ds)
  | [] => .nil
  | i :: π => by
    unfold permL
    simp only [List.filterMap_cons]
    cases h : ds[i]? with
    | none =>
      have h2 : vs[i]? = none := by
        rw [List.getElem?_eq_none_iff] at h ⊢
        rw [r.length]
        exact h
      rw [h2]
      exact Reps.perm r π
    | some d =>
      obtain ⟨v, h2, rv⟩ := r.get h
      rw [h2]
      exact .cons rv (Reps.perm r π)
theorem vals_perm {vs : List V} {us : List Value} (r : Vals vs us) : ∀ π : List Nat, Vals (permL π vs) (permL π us)
  | [] => .nil
  | i :: π => by
    unfold permL
    simp only [List.filterMap_cons]
    cases h : vs[i]? with
    | none =>
      rw [r.none_of h]
      exact vals_perm r π
    | some d =>
      obtain ⟨v, h2, rv⟩ := r.get h
      rw [h2]
      exact .cons rv (vals_perm r π)
def oCallK (np n m : Nat) (π : List Nat) (den : List D → Cells → Res D) (ds es : List D) (C : Cells) : Res D := if ds.length = n ∧ es.length = m ∧ (permL π (ds ++ es)).length = np then den (permL π (ds ++ es)) C else .stuck
def fAK (o : List D → List D → Cells → Res D) (fs fk : Rho → Cells → Res (List D)) : Rho → Cells → Res D := fun ρ C => (fs ρ C).bind fun xs C1 => (fk ρ C1).bind fun ys C2 => o xs ys C2
theorem be_callK {n : Nat} {π : List Nat} (G : FnG X.prog X.w X.K X.mg X.base k f fd ps (spD X.K X.mg ps.length den)) (hr : Room k X.A) (hgd : X.A.guards = some []) (tk : Takes X W) (hg : Gl X x) (hm : X.mg x = some (.ref f)) (hk : PySem.W.keepIn X.K (.ref f) = true) (hb : KOk X.K fd ps ks π n)
    (ha : BA X W (e :: es) fs) (hkw : BK X W kws fk) (hall : (backToKw pos (keywordEach kws X.env)).all (·.1.isSome) = true := by rfl) (hks : (backToKw pos (keywordEach kws X.env)).filterMap (·.1) = ks := by rfl)
    (hdb : (x == ("__debug__" : Str)) = false := by decide) (he : starEach (e :: es) X.env = (false, eval e X.env) :: starEach es X.env := by rfl)
    (hpl : ((backTo pos (starEach (e :: es) X.env)).any (·.1) || (backToKw pos (keywordEach kws X.env)).any (·.1.isNone)) = false := by rfl) :
    BE X W (.Call (.Name x p) (e :: es) kws pos) (fAK (oCallK ps.length n ks.length π den) fs fk) := by
  refine ⟨fun pins s σ H Q I h => ?_⟩
  obtain ⟨ρ, C, μ, F, S, E, k0⟩ := h
  refine wpAny_Call_Name_kw (ld_glob I hg hm (PySem.W.callWith_KW (h₀ := X.base) I.ok.mod.kin hk hall (thn (ha.run pos pins s σ H (fun vs H1 => rA X.K X.mg W fk σ H1 (fun ws H2 => ∃ ds C1 μ1 F1, Sim X.K μ1 F1 C1 H2 ∧ Reps X.K μ1 F1 (permL π (vs ++ ws)) ds ∧ vs.length = n ∧ ws.length = ks.length ∧ (permL π (vs ++ ws)).length = ps.length ∧ kd (RD X.K) X.K X.mg W (den ds C1) μ1 F1 σ H2 Q)) I ?_) fun us s1 hu => ?_) hpl he) hdb)
  · refine ⟨ρ, C, μ, F, S, E, kd_bind k0 fun d C1 v μ1 F1 H1 x1 s1 r1 h1 => ⟨ρ, C1, μ1, F1, s1, x1.env E, kd_bind h1 fun d2 C2 v2 μ2 F2 H2 x2 s2 r2 h2 => ?_⟩⟩
    unfold oCallK at h2
    split at h2
    · rename_i z
      have rr := ((x2.reps r1).append r2).perm π
      exact ⟨_, C2, μ2, F2, s2, rr, by rw [r1.length]; exact z.1, by rw [r2.length]; exact z.2.1, by rw [rr.length]; exact z.2.2, h2⟩
    · exact h2.elim
  · obtain ⟨vs, H1, I1, r, q⟩ := hu
    refine thn (hkw.run pos pins s1 σ H1 _ I1 q) fun ws s2 hw => ?_
    obtain ⟨zs, H2, I2, rz, ds, C1, μ1, F1, S1, rs, l1, l2, l3, h1⟩ := hw
    refine ⟨I2.kIn, ?_⟩
    rw [hks]
    have rv := vals_perm (r.append rz) π
    exact call_fnG G hr hgd tk I2 (hb.to s2 us ws I2.kIn (by rw [← r.length]; exact l1) (by rw [← rz.length]; exact l2)) rv S1 rs l3 h1
end

/-! ### the end of a law -/
section
theorem lawG {P : Program} {w : World} {K : PySem.W.Frag} {mg mb : Str → Option Value} {k : Nat} {fa a : Addr} {fd : FuncData} {x : Str} {den : List D → Cells → Res D} {C1 : Cells} {s1 : Shared} {vs : List Value} {ns : List Int}
    (inK : K.In s1.heap) (gl : s1.heap.Ns mainGlobals mg) (bl : s1.heap.Ns builtinsNs mb) (bl2 : ∀ x : Str, x ≠ "__name__" → mb x = bootBuiltins x) (lim : s1.heap.NoLimit) (gens : s1.gens = #[])
    (scr : s1.heap.get? a = some { cls := .type "list", data := .seq vs.toArray }) (isI : IntsAre vs ns) (few : ns.length ≤ sizeLine) (room : Room k callerA)
    (G : ∀ base : Heap, K.In base → base.Ns mainGlobals mg → FnG P w K mg base k fa fd [x] (spD K mg 1 den)) (bind : ∀ (s : Shared) (u : Value), BindsTo s fd ⟨[u], []⟩ [(x, u)])
    (good : den [.scr ns] [] = .ok (.bl true) C1) :
    codeAny (model P w) callerA (.call (.ref fa) ⟨[.ref a], []⟩) (fun r s' => r = .ok (.ret (.bool true)) ∧ OldK s1.heap s'.heap ∧ s'.os = s1.os ∧ AllBare s'.gens) s1 := by
  have rel := vals_ints isI
  -- what is tracked: the script, locked, unless it is one of the module's own objects
  have go : ∀ H : Hp, (∀ b u, H b = some u → b = a ∧ u = .frz { cls := .type "list", data := .seq vs.toArray } (.lst (ns.map V.int)) ∧ K.lookup a = none) → SqL K H a (ns.map V.int) →
      codeAny (model P w) callerA (.call (.ref fa) ⟨[.ref a], []⟩) (fun r s' => r = .ok (.ret (.bool true)) ∧ OldK s1.heap s'.heap ∧ s'.os = s1.os ∧ AllBare s'.gens) s1 := by
    intro H only seq
    have ok : HOk P w H s1.heap := fun b u e => by
      obtain ⟨rfl, rfl, _⟩ := only b u e
      exact ⟨scr, by rw [List.length_map]; exact few, vs, _, rel, scr⟩
    have hide : ∀ {b : Addr} {o : Obj}, s1.heap.get? b = some o → H b = none → (hidT s1.heap H).get? b = some o := fun e n => hidT_get e n
    have nodict : ∀ {b : Addr} {o : Obj} {es : Array DictEntry} {ep : Nat}, s1.heap.get? b = some o → o.data = .dict es ep → H b = none := by
      intro b o es ep e d
      cases q : H b with
      | none => rfl
      | some u =>
        obtain ⟨rfl, _, _⟩ := only b u q
        rw [scr] at e
        cases e
        have d' : Data.seq vs.toArray _ = Data.dict es ep := d
        cases d'
    have nsOf : ∀ {b : Addr} {m : Str → Option Value}, s1.heap.Ns b m → (hidT s1.heap H).Ns b m := fun ⟨o, es, ep, e, d, r⟩ => ⟨o, es, ep, hide e (nodict e d), d, r⟩
    have inB : K.In (hidT s1.heap H) := fun b o e => hide (inK b o e) (by
      cases q : H b with
      | none => rfl
      | some u =>
        obtain ⟨rfl, _, z⟩ := only b u q
        rw [z] at e
        cases e)
    have md : Mod K mg (hidT s1.heap H) := ⟨inB, nsOf gl, ⟨mb, nsOf bl, bl2⟩, let ⟨mc, h1, h2⟩ := lim; ⟨mc, nsOf h1, h2⟩⟩
    have env0 : Env0 P w K mg (hidT s1.heap H) callerA [] s1 H := ⟨rfl, md, fun b o e => of_hidT e, Nat.le_of_eq (hidT_size _ _), trivial, fun b hb => absurd (show b ∈ ([] : List Addr) from hb) List.not_mem_nil, ok, .of_eq gens⟩
    refine codeAny_mono ((G _ inB (nsOf gl)).run callerA [] s1 H ⟨[.ref a], []⟩ [.ref a] [.ref a] (fun v _ => v = .bl true) (fun _ _ _ => False) rfl room env0 (bind s1 (.ref a)) (.cons rfl .nil) ⟨rfl, [], H, [], [.scr ns], ?_, .cons (.scr seq) .nil, ?_⟩) fun r s' h => ?_
    · exact ⟨Same.refl H, rfl, .nil, fun a h => (nomatch h), fun k c a e _ => by simp at e⟩
    · rw [good]
      intro v μ' F' H' _ _ r
      cases r
      rfl
    · cases r with
      | error e =>
        obtain ⟨_, _, _, _, _, _, _, _, _, _, _, _, z⟩ := h
        exact z.elim
      | ok fl =>
        cases fl with
        | next => exact False.elim h
        | brk => exact False.elim h
        | cont => exact False.elim h
        | ret u =>
          obtain ⟨v, H', os, bare, un, ok', r', q⟩ := h
          subst q
          obtain rfl : u = Value.bool true := r'
          refine ⟨rfl, OldK.of_keep fun b o e => ?_, os, bare⟩
          cases q : H b with
          | none => exact un.keep b o e q (fun z => nomatch (show b ∈ ([] : List Addr) from z)) (by simp)
          | some u =>
            obtain ⟨rfl, rfl, _⟩ := only b u q
            obtain ⟨e2, _⟩ := ok' b _ (un.frzs b _ _ q)
            rw [scr] at e
            cases e
            exact e2
  cases hk : K.lookup a with
  | some o =>
    have e := inK a o hk
    rw [scr] at e
    cases e
    exact go (fun _ => none) (fun b u z => nomatch z) (.inr ⟨_, vs.toArray, _, hk, rfl, rfl, rfl, by rw [List.size_toArray, isI.length]; exact few, by simpa using rel⟩)
  | none =>
    refine go (fun b => if b = a then some (.frz { cls := .type "list", data := .seq vs.toArray } (.lst (ns.map V.int))) else none) (fun b u z => ?_) (.inl (.inr ⟨_, if_pos rfl⟩))
    by_cases hb : b = a
    · subst hb
      have z' := (if_pos rfl).symm.trans z
      cases z'
      exact ⟨rfl, rfl, hk⟩
    · have z' := (if_neg hb).symm.trans z
      cases z'
/-- the goal that k_head leaves, from the denotation of the law -/
theorem walkG {l : PySem.W.OpenLaw} {k : Nat} {q : Program} {loose : List Str} {XP : (Str → Option Value) → Heap → Prop} {YP : World → Heap → Prop} {d : DefRec} {K : Params → PySem.W.Frag} {x : Str} {den : List D → Cells → Res D}
    (hn : l.most = some 63) (hdf : d.params.defaults = []) (room : Room k callerA) (hY : ∀ (w : World) (h : Heap), YP w h → (K w.params).In h)
    (G : ∀ (w : World) (mg : Str → Option Value) (fa : Addr) (h : Heap), (K w.params).In h → h.Ns mainGlobals mg → mg d.name = some (.ref fa) →
      ∃ fd : FuncData, (∀ (s : Shared) (u : Value), BindsTo s fd ⟨[u], []⟩ [(x, u)]) ∧ ∀ base : Heap, (K w.params).In base → base.Ns mainGlobals mg → FnG l.prog w (K w.params) mg base k fa fd [x] (spD (K w.params) mg 1 den))
    (good : ∀ ns : List Int, ns.length ≤ 63 → ∃ C1, den [.scr ns] [] = .ok (.bl true) C1) : PySem.W.WalkO q loose XP YP l.row.toRowW d [] (fun f vs => PySem.call f vs) := by
  refine Att.attach_call hn hdf fun w s0 s1 mg mb fa o pm cd doc a vs ns T Y ho hd hcd hmg hobj isI len gens => ?_
  obtain ⟨fd, hb, hG⟩ := G w mg fa _ (hY w _ Y) T.T.g hmg
  obtain ⟨C1, hC⟩ := good ns len
  exact lawG (hY w _ Y) T.T.g T.T.b T.T.builtins T.T.nolimit gens hobj isI (Nat.le_trans len (by rw [sizeLine_eq]; decide)) room hG hb hC
end
end BV
namespace BV
open PySem PySem.Spec PyProof.Rows L2
theorem bb_len : bootBuiltins "len" = some (.builtin "len") := by decide +kernel
theorem bb_abs : bootBuiltins "abs" = some (.builtin "abs") := by decide +kernel
theorem bb_max : bootBuiltins "max" = some (.builtin "max") := by decide +kernel
theorem bb_min : bootBuiltins "min" = some (.builtin "min") := by decide +kernel
theorem bb_sum : bootBuiltins "sum" = some (.builtin "sum") := by decide +kernel
theorem bb_all : bootBuiltins "all" = some (.builtin "all") := by decide +kernel
theorem bb_any : bootBuiltins "any" = some (.builtin "any") := by decide +kernel
theorem bb_repr : bootBuiltins "repr" = some (.builtin "repr") := by decide +kernel
theorem bb_int : bootBuiltins "int" = some (.type "int") := by decide +kernel
theorem bb_bool : bootBuiltins "bool" = some (.type "bool") := by decide +kernel
theorem bb_str : bootBuiltins "str" = some (.type "str") := by decide +kernel
theorem bb_list : bootBuiltins "list" = some (.type "list") := by decide +kernel
theorem bb_tuple : bootBuiltins "tuple" = some (.type "tuple") := by decide +kernel
theorem hu65 {k : Nat} {A : Around} (r : Room k A) : A.units + 65 < cLine := by have := r.un; omega
theorem hu64 {k : Nat} {A : Around} (r : Room k A) : A.units + 64 < cLine := by have := r.un; omega
section
variable {X : Cx} {W : WX} {x : Str} {p pos : Pos}
theorem be_gint {i : Int} (hg : Gl X x) (h : ∃ t, X.mg x = some (.int i t)) (hd : (x == ("__debug__" : Str)) = false := by decide) : BE X W (.Name x p) (fC (.int i)) := by
  obtain ⟨t, e⟩ := h
  exact be_c (v := .int i) (pe_glob hg e (show RelV (.int i) (.int i t) from ⟨t, rfl⟩) hd) fun _ _ => .int i
theorem be_gstr {i : Str} (hg : Gl X x) (h : ∃ t, X.mg x = some (.str i t)) (hd : (x == ("__debug__" : Str)) = false := by decide) : BE X W (.Name x p) (fC (.str i)) := by
  obtain ⟨t, e⟩ := h
  exact be_c (v := .str i) (pe_glob hg e (show RelV (.str i) (.str i t) from ⟨t, rfl⟩) hd) fun _ _ => .str i
variable {k : Nat} {f : Addr} {fd : FuncData} {ps ks : List Str} {den : List D → Cells → Res D} {kws : List Keyword} {fk : Rho → Cells → Res (List D)}
def fK0 (o : List D → Cells → Res D) (fk : Rho → Cells → Res (List D)) : Rho → Cells → Res D := fun ρ C => (fk ρ C).bind fun ys C2 => o ys C2
def oCallK0 (np m : Nat) (π : List Nat) (den : List D → Cells → Res D) (es : List D) (C : Cells) : Res D := if es.length = m ∧ (permL π es).length = np then den (permL π es) C else .stuck
theorem be_callK0 {π : List Nat} (G : FnG X.prog X.w X.K X.mg X.base k f fd ps (spD X.K X.mg ps.length den)) (hr : Room k X.A) (hgd : X.A.guards = some []) (tk : Takes X W) (hg : Gl X x) (hm : X.mg x = some (.ref f)) (hk : PySem.W.keepIn X.K (.ref f) = true) (hb : KOk X.K fd ps ks π 0)
    (hkw : BK X W kws fk) (hall : (backToKw pos (keywordEach kws X.env)).all (·.1.isSome) = true := by rfl) (hks : (backToKw pos (keywordEach kws X.env)).filterMap (·.1) = ks := by rfl)
    (hdb : (x == ("__debug__" : Str)) = false := by decide) (hpl : ((backTo pos (starEach [] X.env)).any (·.1) || (backToKw pos (keywordEach kws X.env)).any (·.1.isNone)) = false := by rfl) :
    BE X W (.Call (.Name x p) [] kws pos) (fK0 (oCallK0 ps.length ks.length π den) fk) := by
  refine ⟨fun pins s σ H Q I h => ?_⟩
  obtain ⟨ρ, C, μ, F, S, E, k0⟩ := h
  refine wpAny_Call_Name_kw (ld_glob I hg hm (PySem.W.callWith_KW0 (h₀ := X.base) I.ok.mod.kin hk hall (thn (hkw.run pos pins s σ H (fun ws H2 => ∃ ds C1 μ1 F1, Sim X.K μ1 F1 C1 H2 ∧ Reps X.K μ1 F1 (permL π ws) ds ∧ ws.length = ks.length ∧ (permL π ws).length = ps.length ∧ kd (RD X.K) X.K X.mg W (den ds C1) μ1 F1 σ H2 Q) I ?_) fun ws s2 hw => ?_) hpl) hdb)
  · refine ⟨ρ, C, μ, F, S, E, kd_bind k0 fun d2 C2 v2 μ2 F2 H2 x2 s2 r2 h2 => ?_⟩
    unfold oCallK0 at h2
    split at h2
    · rename_i z
      have rr := r2.perm π
      exact ⟨_, C2, μ2, F2, s2, rr, by rw [r2.length]; exact z.1, by rw [rr.length]; exact z.2, h2⟩
    · exact h2.elim
  · obtain ⟨zs, H2, I2, rz, ds, C1, μ1, F1, S1, rs, l2, l3, h1⟩ := hw
    refine ⟨I2.kIn, ?_⟩
    rw [hks]
    exact call_fnG G hr hgd tk I2 (hb.to s2 [] ws I2.kIn rfl (by rw [← rz.length]; exact l2)) (vals_perm rz π) S1 rs l3 h1
end
/-- a def of the module: where it stands, what its name is bound to -/
structure DefAt (K : PySem.W.Frag) (mg : Str → Option Value) (x : Str) (st : Stmt) (ps : List Str) (f : Addr) (fd : FuncData) : Prop where
  F : Fun K x x st f fd
  m : mg x = some (.ref f)
  b : Binds K fd ps []
  e : ∃ kV doc pm an cdv ct, fd = PySem.W.fnOf x x (defArgs st) (defBody st) (defScope st) .none kV doc pm an cdv ct
theorem defAt_mk {K : PySem.W.Frag} {mg : Str → Option Value} {h : Heap} {x : Str} {st : Stmt} {ps : List Str} {f : Addr} {oc : Value} {od an : Option Addr} {osl : Array (Option Value)} {kV doc pm cdv ct : Value} (X : K.In h) (G : h.Ns mainGlobals mg)
    (a : PySem.W.nsIn K mainGlobals x = some (some (.ref f))) (l : K.lookup f = some ⟨oc, od, .func (PySem.W.fnOf x x (defArgs st) (defBody st) (defScope st) .none kV doc pm an cdv ct), osl⟩) (c : PySem.W.codeIn K cdv x = true) (k : PySem.W.keepIn K (.ref f) = true)
    (hb : ∀ (kV doc pm : Value) (an : Option Addr) (cdv ct : Value) (us : List Value), us.length = ps.length → bindArgs (PySem.W.fnOf x x (defArgs st) (defBody st) (defScope st) .none kV doc pm an cdv ct) ⟨us, []⟩ = pure (ps.zip us)) :
    DefAt K mg x st ps f (PySem.W.fnOf x x (defArgs st) (defBody st) (defScope st) .none kV doc pm an cdv ct) :=
  ⟨fun_mk l c k, PySem.W.mg_of X G a, (fun_mk l c k).binds hb, ⟨kV, doc, pm, an, cdv, ct, rfl⟩⟩
theorem kOk_mk {K : PySem.W.Frag} {mg : Str → Option Value} {x : Str} {st : Stmt} {ps ks : List Str} {f : Addr} {fd : FuncData} {π : List Nat} {n : Nat} (Da : DefAt K mg x st ps f fd)
    (hb : ∀ (kV doc pm : Value) (an : Option Addr) (cdv ct : Value) (us ws : List Value), us.length = n → ws.length = ks.length → bindArgs (PySem.W.fnOf x x (defArgs st) (defBody st) (defScope st) .none kV doc pm an cdv ct) ⟨us, ks.zip ws⟩ = pure (ps.zip (permL π (us ++ ws)))) : KOk K fd ps ks π n := by
  obtain ⟨kV, doc, pm, an, cdv, ct, rfl⟩ := Da.e
  exact ⟨fun s us ws _ h1 h2 => .of_eq (hb kV doc pm an cdv ct us ws h1 h2)⟩
end BV
namespace BV
open PySem PySem.Spec PyProof.Rows L2

/-! ### reckoning with denotations -/
@[simp] theorem e_var (i : Nat) (ρ : Rho) (C : Cells) : fVar i ρ C = match ρ[i]? with | some (some d) => .ok d C | _ => .stuck := rfl
@[simp] theorem e_c (d : D) (ρ : Rho) (C : Cells) : fC d ρ C = .ok d C := rfl
@[simp] theorem e_f1 (o : D → Cells → Res D) (f : Rho → Cells → Res D) (ρ : Rho) (C : Cells) : f1 o f ρ C = (f ρ C).bind fun x C1 => o x C1 := rfl
@[simp] theorem e_f2 (o : D → D → Cells → Res D) (f g : Rho → Cells → Res D) (ρ : Rho) (C : Cells) : f2 o f g ρ C = (f ρ C).bind fun x C1 => (g ρ C1).bind fun y C2 => o x y C2 := rfl
@[simp] theorem e_fA (o : List D → Cells → Res D) (f : Rho → Cells → Res (List D)) (ρ : Rho) (C : Cells) : fA o f ρ C = (f ρ C).bind fun x C1 => o x C1 := rfl
@[simp] theorem e_aNil (ρ : Rho) (C : Cells) : aNil ρ C = .ok [] C := rfl
@[simp] theorem e_aCons (f : Rho → Cells → Res D) (fs : Rho → Cells → Res (List D)) (ρ : Rho) (C : Cells) : aCons f fs ρ C = (f ρ C).bind fun x C1 => (fs ρ C1).bind fun xs C2 => .ok (x :: xs) C2 := rfl
/-- by a datum that is to be a bool -/
def bl3 {α : Type} (d : D) (x y z : α) : α := match d with
  | .bl true => x
  | .bl false => y
  | _ => z
@[simp] theorem bl3_bl {α : Type} (b : Bool) (x y z : α) : bl3 (.bl b) x y z = if b = true then x else y := by cases b <;> rfl
@[simp] theorem bl3_non {α : Type} (x y z : α) : bl3 .non x y z = z := rfl
@[simp] theorem bl3_int {α : Type} (i : Int) (x y z : α) : bl3 (.int i) x y z = z := rfl
@[simp] theorem e_and (f g : Rho → Cells → Res D) (ρ : Rho) (C : Cells) : andD f g ρ C = (f ρ C).bind fun x C1 => bl3 x (g ρ C1) (.ok (.bl false) C1) .stuck := rfl
@[simp] theorem e_or (f g : Rho → Cells → Res D) (ρ : Rho) (C : Cells) : orD f g ρ C = (f ρ C).bind fun x C1 => bl3 x (.ok (.bl true) C1) (g ρ C1) .stuck := rfl
@[simp] theorem e_not (f : Rho → Cells → Res D) (ρ : Rho) (C : Cells) : notD f ρ C = (f ρ C).bind fun x C1 => match x with | .bl b => .ok (.bl !b) C1 | _ => .stuck := rfl
@[simp] theorem e_if (t f g : Rho → Cells → Res D) (ρ : Rho) (C : Cells) : ifD t f g ρ C = (t ρ C).bind fun x C1 => bl3 x (f ρ C1) (g ρ C1) .stuck := rfl
@[simp] theorem e_chain (o o' : D → D → Cells → Res D) (f g h : Rho → Cells → Res D) (ρ : Rho) (C : Cells) : chainD o o' f g h ρ C = (f ρ C).bind fun x C1 => (g ρ C1).bind fun y C2 => (o x y C2).bind fun z C3 => bl3 z ((h ρ C3).bind fun w C4 => o' y w C4) (.ok (.bl false) C3) .stuck := rfl
@[simp] theorem e_sSeq (f g : Rho → Cells → Out) (ρ : Rho) (C : Cells) : sSeq f g ρ C = (f ρ C).then_ g := rfl
@[simp] theorem e_sNil (ρ : Rho) (C : Cells) : sNil ρ C = .nx ρ C := rfl
@[simp] theorem e_sBk (ρ : Rho) (C : Cells) : sBk ρ C = .bk ρ C := rfl
@[simp] theorem e_sCt (ρ : Rho) (C : Cells) : sCt ρ C = .ct ρ C := rfl
@[simp] theorem e_sExpr (f : Rho → Cells → Res D) (ρ : Rho) (C : Cells) : sExpr f ρ C = (f ρ C).out ρ fun _ C1 => .nx ρ C1 := rfl
@[simp] theorem e_sRet (f : Rho → Cells → Res D) (ρ : Rho) (C : Cells) : sRet f ρ C = (f ρ C).out ρ fun d C1 => .rt d C1 := rfl
@[simp] theorem e_sRetN (ρ : Rho) (C : Cells) : sRetN ρ C = .rt .non C := rfl
@[simp] theorem e_sIf (t : Rho → Cells → Res D) (f g : Rho → Cells → Out) (ρ : Rho) (C : Cells) : sIf t f g ρ C = (toB (t ρ C)).out ρ fun b C1 => if b then f ρ C1 else g ρ C1 := rfl
@[simp] theorem e_sNever (ρ : Rho) (C : Cells) : sNever ρ C = .stuck := rfl
@[simp] theorem e_sSet (i : Nat) (f : Rho → Cells → Res D) (ρ : Rho) (C : Cells) : sSet i f ρ C = (f ρ C).out ρ fun d C1 => .nx (ρ.set i (some d)) C1 := rfl
@[simp] theorem e_sAsg (f : Rho → Cells → Res D) (t : D → Rho → Option Rho) (ρ : Rho) (C : Cells) : sAsg f t ρ C = (f ρ C).out ρ fun d C1 => match t d ρ with | some ρ' => .nx ρ' C1 | none => .stuck := rfl
@[simp] theorem e_sPar (i j : Nat) (fs : Rho → Cells → Res (List D)) (ρ : Rho) (C : Cells) : sPar i j fs ρ C = (fs ρ C).out ρ fun ds C1 => match ds with | [x, y] => .nx ((ρ.set i (some x)).set j (some y)) C1 | _ => .stuck := rfl
@[simp] theorem e_sPar3 (i j l : Nat) (fs : Rho → Cells → Res (List D)) (ρ : Rho) (C : Cells) : sPar3 i j l fs ρ C = (fs ρ C).out ρ fun ds C1 => match ds with | [x, y, z] => .nx (((ρ.set i (some x)).set j (some y)).set l (some z)) C1 | _ => .stuck := rfl
@[simp] theorem e_sSto (f fo fi : Rho → Cells → Res D) (ρ : Rho) (C : Cells) : sSto f fo fi ρ C = (f ρ C).out ρ fun v C1 => (fo ρ C1).out ρ fun x C2 => (fi ρ C2).out ρ fun i C3 => match stoD x i v C3 with | some C4 => .nx ρ C4 | none => .stuck := rfl
@[simp] theorem e_sFor (fi : Rho → Cells → Res Src) (t : D → Rho → Option Rho) (b : Rho → Cells → Out) (ρ : Rho) (C : Cells) : sFor fi t b ρ C = (fi ρ C).out ρ fun ds C1 => forS t b ds ρ C1 := rfl
@[simp] theorem e_sWhile (n : Nat) (c : Rho → Cells → Res D) (b : Rho → Cells → Out) (ρ : Rho) (C : Cells) : sWhile n c b ρ C = whileL c b n ρ C := rfl
@[simp] theorem e_tgN (i : Nat) (d : D) (ρ : Rho) : tgN i d ρ = some (ρ.set i (some d)) := rfl
@[simp] theorem e_toB_t (b : Bool) (C : Cells) : toB (.ok (.bl b) C) = .ok b C := rfl
@[simp] theorem e_toB_ex (c : Str) (p : D) (C : Cells) : toB (.ex c p C) = .ex c p C := rfl
@[simp] theorem e_iSeq (f : Rho → Cells → Res D) (ρ : Rho) (C : Cells) : iSeq f ρ C = (f ρ C).bind fun d C1 => match d with
  | .lst ds => .ok (.fix ds) C1
  | .tup ds => .ok (.fix ds) C1
  | .ftp ds => .ok (.fix ds) C1
  | .scr ns => .ok (.fix (ns.map .int)) C1
  | .cel k => match cLen k C1 with
    | some n => .ok (.cel k n) C1
    | none => .stuck
  | _ => .stuck := rfl
@[simp] theorem e_iRg (fr : Rho → Cells → Res (Int × Int)) (ρ : Rho) (C : Cells) : iRg fr ρ C = (fr ρ C).bind fun p C1 => if RgOk p.1 p.2 then .ok (.fix (rg p.1 p.2)) C1 else .stuck := rfl
@[simp] theorem e_rg1 (f : Rho → Cells → Res D) (ρ : Rho) (C : Cells) : rg1 f ρ C = (f ρ C).bind fun x C1 => match x with | .int j => .ok ((0 : Int), j) C1 | _ => .stuck := rfl
@[simp] theorem e_rg2 (f g : Rho → Cells → Res D) (ρ : Rho) (C : Cells) : rg2 f g ρ C = (f ρ C).bind fun x C1 => (g ρ C1).bind fun y C2 => match x, y with | .int i, .int j => .ok (i, j) C2 | _, _ => .stuck := rfl
@[simp] theorem e_fSl (m : Bool) (f : Rho → Cells → Res D) (l h : Rho → Cells → Res (Option Int)) (ρ : Rho) (C : Cells) : fSl m f l h ρ C = (f ρ C).bind fun x C1 => (l ρ C1).bind fun lo C2 => (h ρ C2).bind fun hi C3 => slD m x lo hi C3 := rfl
@[simp] theorem e_pNo (ρ : Rho) (C : Cells) : pNo ρ C = .ok none C := rfl
@[simp] theorem e_pSo (f : Rho → Cells → Res D) (ρ : Rho) (C : Cells) : pSo f ρ C = (f ρ C).bind fun x C1 => match x with | .int i => .ok (some i) C1 | _ => .stuck := rfl
theorem e_fLc (m : Bool) (vs : List Nat) (fi : Rho → Cells → Res Src) (t : D → Rho → Option Rho) (ft fe : Rho → Cells → Res D) (ρ : Rho) (C : Cells) : fLc m vs fi t ft fe ρ C = (fi ρ C).bind fun ds C1 => (lcS t ft fe (wipeD ρ vs) ds C1).bind fun ys C2 => if ys.length < 16777216 then mkL m ys C2 else .stuck := by
  unfold fLc
  rw [sizeLine_eq]
@[simp] theorem e_fYes (ρ : Rho) (C : Cells) : fYes ρ C = .ok (.bl true) C := rfl
@[simp] theorem e_fMt1 (o : D → D → Cells → Res D) (f g : Rho → Cells → Res D) (ρ : Rho) (C : Cells) : fMt1 o f g ρ C = (f ρ C).bind fun x C1 => match asL x C1 with | some _ => (g ρ C1).bind fun v C2 => o x v C2 | none => .stuck := rfl
@[simp] theorem e_oCall (np : Nat) (den : List D → Cells → Res D) (ds : List D) (C : Cells) : oCall np den ds C = if ds.length = np then den ds C else .stuck := rfl
@[simp] theorem e_fK0 (o : List D → Cells → Res D) (fk : Rho → Cells → Res (List D)) (ρ : Rho) (C : Cells) : fK0 o fk ρ C = (fk ρ C).bind fun ys C2 => o ys C2 := rfl
@[simp] theorem e_fAK (o : List D → List D → Cells → Res D) (fs fk : Rho → Cells → Res (List D)) (ρ : Rho) (C : Cells) : fAK o fs fk ρ C = (fs ρ C).bind fun xs C1 => (fk ρ C1).bind fun ys C2 => o xs ys C2 := rfl
@[simp] theorem e_wipe_nil (ρ : Rho) : wipeD ρ [] = ρ := rfl
@[simp] theorem e_wipe_cons (ρ : Rho) (v : Nat) (vs : List Nat) : wipeD ρ (v :: vs) = (wipeD ρ vs).set v none := rfl
@[simp] theorem e_loop_nx (ρ : Rho) (C : Cells) (k : Rho → Cells → Out) : (Out.nx ρ C).loop k = k ρ C := rfl
@[simp] theorem e_loop_ct (ρ : Rho) (C : Cells) (k : Rho → Cells → Out) : (Out.ct ρ C).loop k = k ρ C := rfl
@[simp] theorem e_loop_bk (ρ : Rho) (C : Cells) (k : Rho → Cells → Out) : (Out.bk ρ C).loop k = .nx ρ C := rfl
@[simp] theorem e_loop_rt (d : D) (C : Cells) (k : Rho → Cells → Out) : (Out.rt d C).loop k = .rt d C := rfl
@[simp] theorem e_loop_ex (c : Str) (p : D) (ρ : Rho) (C : Cells) (k : Rho → Cells → Out) : (Out.ex c p ρ C).loop k = .ex c p ρ C := rfl
@[simp] theorem e_loop_stuck (k : Rho → Cells → Out) : Out.stuck.loop k = .stuck := rfl
@[simp] theorem e_mkL_f (ds : List D) (C : Cells) : mkL false ds C = .ok (.lst ds) C := rfl
@[simp] theorem e_mkL_t (ds : List D) (C : Cells) : mkL true ds C = .ok (.cel C.length) (C ++ [.lst ds]) := rfl
@[simp] theorem e_forS_fix (t : D → Rho → Option Rho) (b : Rho → Cells → Out) (ds : List D) : forS t b (.fix ds) = forL t b ds := rfl
@[simp] theorem e_forS_cel (t : D → Rho → Option Rho) (b : Rho → Cells → Out) (k n : Nat) : forS t b (.cel k n) = forC t b k n n := rfl
@[simp] theorem e_lcS_fix (t : D → Rho → Option Rho) (ft fe : Rho → Cells → Res D) (ρ : Rho) (ds : List D) : lcS t ft fe ρ (.fix ds) = lcL t ft fe ρ ds := rfl
@[simp] theorem e_lcS_cel (t : D → Rho → Option Rho) (ft fe : Rho → Cells → Res D) (ρ : Rho) (k n : Nat) : lcS t ft fe ρ (.cel k n) = lcC t ft fe ρ k n n := rfl
/-- operators on ints -/
@[simp] theorem e_add_ii (m : Bool) (i j : Int) (C : Cells) : addD m (.int i) (.int j) C = .ok (.int (i + j)) C := rfl
@[simp] theorem e_sub_ii (i j : Int) (C : Cells) : subD (.int i) (.int j) C = .ok (.int (i - j)) C := rfl
@[simp] theorem e_mul_ii (m : Bool) (i j : Int) (C : Cells) : mulD m (.int i) (.int j) C = if CMul i j then .ok (.int (i * j)) C else .stuck := rfl
@[simp] theorem e_fdiv_ii (i j : Int) (C : Cells) : fdivD (.int i) (.int j) C = if CDiv i j then .ok (.int (i / j)) C else .stuck := rfl
@[simp] theorem e_mod_ii (i j : Int) (C : Cells) : modD (.int i) (.int j) C = if 0 < j then .ok (.int (i % j)) C else .stuck := rfl
@[simp] theorem e_pow_ii (i j : Int) (C : Cells) : powD (.int i) (.int j) C = if CPow i j then .ok (.int (i ^ j.toNat)) C else .stuck := rfl
@[simp] theorem e_neg_i (i : Int) (C : Cells) : negD (.int i) C = .ok (.int (-i)) C := rfl
@[simp] theorem e_cmp_ii (p : Int → Int → Bool) (i j : Int) (C : Cells) : cmpI p (.int i) (.int j) C = .ok (.bl (p i j)) C := rfl
@[simp] theorem e_isN (neg : Bool) (x : D) (C : Cells) : isD neg x .non C = .ok (.bl (if neg then !isNon x else isNon x)) C := rfl
@[simp] theorem e_isB (neg : Bool) (a b : Bool) (C : Cells) : isD neg (.bl a) (.bl b) C = .ok (.bl (if neg then !decide (a = b) else decide (a = b))) C := rfl
@[simp] theorem e_int_i (i : Int) (C : Cells) : oInt [.int i] C = .ok (.int i) C := rfl
@[simp] theorem e_abs_i (i : Int) (C : Cells) : oAbs [.int i] C = .ok (.int (if i < 0 then -i else i)) C := rfl
@[simp] theorem e_max_ii (i j : Int) (C : Cells) : oMax [.int i, .int j] C = .ok (.int (if j > i then j else i)) C := rfl
@[simp] theorem e_min_ii (i j : Int) (C : Cells) : oMin [.int i, .int j] C = .ok (.int (if j < i then j else i)) C := rfl

/-! ### leaving a def -/
mutual
theorem celOk_mono {n m : Nat} (h : n ≤ m) : ∀ d : D, celOk n d = true → celOk m d = true
  | .non, _ => rfl
  | .bl _, _ => rfl
  | .int _, _ => rfl
  | .str _, _ => rfl
  | .scr _, _ => rfl
  | .tup ds, e => by simp only [celOk] at e ⊢; exact celsOk_mono h ds e
  | .ftp ds, e => by simp only [celOk] at e ⊢; exact celsOk_mono h ds e
  | .lst ds, e => by simp only [celOk] at e ⊢; exact celsOk_mono h ds e
  | .cel k, e => by simp only [celOk, decide_eq_true_eq] at e ⊢; omega
theorem celsOk_mono {n m : Nat} (h : n ≤ m) : ∀ ds : List D, celsOk n ds = true → celsOk m ds = true
  | [], _ => rfl
  | d :: ds, e => by
    simp only [celsOk, Bool.and_eq_true] at e ⊢
    exact ⟨celOk_mono h d e.1, celsOk_mono h ds e.2⟩
end
/-- no cell holds a cell -/
def Flat (C : Cells) : Prop := ∀ c ∈ C, cellOk 0 c = true
theorem Flat.nil : Flat [] := fun _ h => nomatch h
theorem Flat.append {C T : Cells} (h : Flat C) (g : Flat T) : Flat (C ++ T) := fun c hc => (List.mem_append.mp hc).elim (h c) (g c)
theorem Flat.one {ds : List D} (h : celsOk 0 ds = true) : Flat [.lst ds] := fun c hc => by
  simp at hc
  subst hc
  exact h
theorem Flat.set {C : Cells} (h : Flat C) (k : Nat) {ds : List D} (g : celsOk 0 ds = true) : Flat (C.set k (.lst ds)) := fun c hc => by
  rcases List.mem_or_eq_of_mem_set hc with z | z
  · exact h c z
  · subst z
    exact g
theorem Flat.ok {C : Cells} (h : Flat C) (n : Nat) : C.all (cellOk n) = true := List.all_eq_true.mpr fun c hc => by
  have := h c hc
  cases c with
  | dead => rfl
  | lst ds => exact celsOk_mono (Nat.zero_le _) ds this
  | dic ks => exact celsOk_mono (Nat.zero_le _) _ this
@[simp] theorem take_app (C T : Cells) : (C ++ T).take C.length = C := by simp
/-- a def that hands back a value, its own cells at the end -/
theorem fin_val {m : Bool} {d : D} {C C' : Cells} (hC : Flat (C'.take C.length)) (hd : celOk C.length d = true) : okFin m C.length d C' = .ok d (C'.take C.length) := by
  unfold okFin
  rw [if_pos (hC.ok _)]
  cases d with
  | cel k =>
    simp only [celOk, decide_eq_true_eq] at hd
    simp [hd]
  | _ => simp only [hd, if_true]
/-- .. its own cell, as a cell -/
theorem fin_cel {k : Nat} {C C' : Cells} {ds : List D} (hC : Flat (C'.take C.length)) (hk : C.length ≤ k) (h : C'[k]? = some (.lst ds)) (hd : celsOk C.length ds = true) : okFin true C.length (.cel k) C' = .ok (.cel C.length) (C'.take C.length ++ [.lst ds]) := by
  unfold okFin
  rw [if_pos (hC.ok _)]
  simp [Nat.not_lt.mpr hk, h, hd]
theorem fin_frz {k : Nat} {C C' : Cells} {ds : List D} (hC : Flat (C'.take C.length)) (hk : C.length ≤ k) (h : C'[k]? = some (.lst ds)) (hd : celsOk C.length ds = true) : okFin false C.length (.cel k) C' = .ok (.lst ds) (C'.take C.length) := by
  unfold okFin
  rw [if_pos (hC.ok _)]
  simp [Nat.not_lt.mpr hk, h, hd]
theorem den_rt {m : Bool} {np N : Nat} {fb : Rho → Cells → Out} {ds : List D} {C C' : Cells} {d : D} (hl : ds.length = np) (h : fb (ds.map some ++ List.replicate (N - np) none) C = .rt d C') : denF m np N fb ds C = okFin m C.length d C' := by
  unfold denF
  rw [if_pos hl, h]
  rfl
/-- a value handed back; whatever cells the def made are gone -/
theorem den_val {m : Bool} {np N : Nat} {fb : Rho → Cells → Out} {ds : List D} {C : Cells} {d : D} (T : Cells) (hC : Flat C) (hl : ds.length = np) (h : fb (ds.map some ++ List.replicate (N - np) none) C = .rt d (C ++ T)) (hd : celOk C.length d = true) : denF m np N fb ds C = .ok d C := by
  rw [den_rt hl h, fin_val (by simpa using hC) hd, take_app]
theorem den_val0 {m : Bool} {np N : Nat} {fb : Rho → Cells → Out} {ds : List D} {C : Cells} {d : D} (hC : Flat C) (hl : ds.length = np) (h : fb (ds.map some ++ List.replicate (N - np) none) C = .rt d C) (hd : celOk C.length d = true) : denF m np N fb ds C = .ok d C :=
  den_val [] hC hl (by simpa using h) hd
theorem den_mut {m : Bool} {np N : Nat} {fb : Rho → Cells → Out} {ds : List D} {C C' : Cells} {d : D} (T : Cells) (hC : Flat C') (hl : ds.length = np) (hs : C'.length = C.length) (h : fb (ds.map some ++ List.replicate (N - np) none) C = .rt d (C' ++ T)) (hd : celOk C.length d = true) : denF m np N fb ds C = .ok d C' := by
  rw [den_rt hl h]
  have e : (C' ++ T).take C.length = C' := by rw [← hs]; simp
  rw [fin_val (by rw [e]; exact hC) hd, e]

/-! ### indexing -/
theorem asS_cel {C : Cells} {k : Nat} {ds : List D} (h : C[k]? = some (.lst ds)) : asS (.cel k) C = some ds := by simp [asS, h]
theorem asL_celE {C : Cells} {k : Nat} {ds : List D} (h : C[k]? = some (.lst ds)) : asL (.cel k) C = some ds := by simp [asL, h]
@[simp] theorem asS_tup (ds : List D) (C : Cells) : asS (.tup ds) C = some ds := rfl
@[simp] theorem asS_lst (ds : List D) (C : Cells) : asS (.lst ds) C = some ds := rfl
@[simp] theorem asS_scr (ns : List Int) (C : Cells) : asS (.scr ns) C = some (ns.map .int) := rfl
@[simp] theorem asL_lst (ds : List D) (C : Cells) : asL (.lst ds) C = some ds := rfl
theorem ixN_of {n : Nat} {i : Int} (h0 : 0 ≤ i) (h1 : i < n) : ixN n i = some i.toNat := by
  unfold ixN
  rw [if_pos h0, if_pos h1]
theorem atI_of {xs : List D} {i : Int} {d : D} (h0 : 0 ≤ i) (h : xs[i.toNat]? = some d) : atI xs i = some d := by
  have h1 := (List.getElem?_eq_some_iff.mp h).1
  unfold atI
  rw [ixN_of h0 (by omega)]
  exact h
theorem ix_of {x : D} {C : Cells} {ds : List D} {i : Int} {d : D} (e : asS x C = some ds) (h0 : 0 ≤ i) (h : ds[i.toNat]? = some d) : ixD x (.int i) C = .ok d C := by
  unfold ixD
  rw [e]
  simp only
  rw [atI_of h0 h]
theorem ix_cel {C : Cells} {k : Nat} {ds : List D} {i : Int} {d : D} (e : C[k]? = some (.lst ds)) (h0 : 0 ≤ i) (h : ds[i.toNat]? = some d) : ixD (.cel k) (.int i) C = .ok d C := ix_of (asS_cel e) h0 h
@[simp] theorem ix_tup0 (a : D) (xs : List D) (C : Cells) : ixD (.tup (a :: xs)) (.int 0) C = .ok a C := ix_of rfl (by decide) rfl
@[simp] theorem ix_tup1 (a b : D) (xs : List D) (C : Cells) : ixD (.tup (a :: b :: xs)) (.int 1) C = .ok b C := ix_of rfl (by decide) rfl
@[simp] theorem ix_tup2 (a b c : D) (xs : List D) (C : Cells) : ixD (.tup (a :: b :: c :: xs)) (.int 2) C = .ok c C := ix_of rfl (by decide) rfl
@[simp] theorem ix_lst0 (a : D) (xs : List D) (C : Cells) : ixD (.lst (a :: xs)) (.int 0) C = .ok a C := ix_of rfl (by decide) rfl
@[simp] theorem ix_lst1 (a b : D) (xs : List D) (C : Cells) : ixD (.lst (a :: b :: xs)) (.int 1) C = .ok b C := ix_of rfl (by decide) rfl
theorem sto_of {C : Cells} {k : Nat} {ds : List D} {i : Int} {v : D} (e : C[k]? = some (.lst ds)) (h0 : 0 ≤ i) (h1 : i < ds.length) : stoD (.cel k) (.int i) v C = some (C.set k (.lst (ds.set i.toNat v))) := by
  unfold stoD
  simp only [e]
  rw [ixN_of h0 h1]
@[simp] theorem oLen_tup (ds : List D) (C : Cells) : oLen [.tup ds] C = .ok (.int ds.length) C := rfl
@[simp] theorem oLen_lst (ds : List D) (C : Cells) : oLen [.lst ds] C = .ok (.int ds.length) C := rfl
@[simp] theorem oLen_scr (ns : List Int) (C : Cells) : oLen [.scr ns] C = .ok (.int ns.length) C := by simp [oLen]
theorem oLen_cel {C : Cells} {k : Nat} {ds : List D} (e : C[k]? = some (.lst ds)) : oLen [.cel k] C = .ok (.int ds.length) C := by simp [oLen, asS_cel e]
theorem set_get {C : Cells} {k : Nat} {c c' : Cell} (e : C[k]? = some c') : (C.set k c)[k]? = some c := by
  have := (List.getElem?_eq_some_iff.mp e).1
  simp [this]
theorem cmul_of {i j : Int} (h : (-(2 ^ 64) < j ∧ j < 2 ^ 64) ∨ (-(2 ^ 64) < i ∧ i < 2 ^ 64)) : CMul i j := h.elim .inr .inl
@[simp] theorem e_oLst (m : Bool) (xs : List D) (C : Cells) : oLst m xs C = if xs.length ≤ 16777216 then mkL m xs C else .stuck := by
  unfold oLst
  rw [sizeLine_eq]
@[simp] theorem e_oTup (xs : List D) (C : Cells) : oTup xs C = if xs.length ≤ 16777216 then .ok (.tup xs) C else .stuck := by
  unfold oTup
  rw [sizeLine_eq]
@[simp] theorem e_add_tt (m : Bool) (xs ys : List D) (C : Cells) : addD m (.tup xs) (.tup ys) C = if xs.length + ys.length ≤ 16777216 then .ok (.tup (xs ++ ys)) C else .stuck := by
  show (if xs.length + ys.length ≤ sizeLine then _ else _) = _
  rw [sizeLine_eq]
@[simp] theorem e_add_ll (m : Bool) (xs ys : List D) (C : Cells) : addD m (.lst xs) (.lst ys) C = if xs.length + ys.length ≤ 16777216 then mkL m (xs ++ ys) C else .stuck := by
  show (if xs.length + ys.length ≤ sizeLine then _ else _) = _
  rw [sizeLine_eq]
@[simp] theorem e_sl_t (m : Bool) (xs : List D) (lo hi : Option Int) (C : Cells) : slD m (.tup xs) lo hi C = .ok (.tup (cut xs lo hi)) C := rfl
@[simp] theorem e_sl_l (m : Bool) (xs : List D) (lo hi : Option Int) (C : Cells) : slD m (.lst xs) lo hi C = mkL m (cut xs lo hi) C := rfl
@[simp] theorem e_tuple_t (xs : List D) (C : Cells) : oTuple [.tup xs] C = .ok (.tup xs) C := rfl
@[simp] theorem e_tuple_l (xs : List D) (C : Cells) : oTuple [.lst xs] C = .ok (.tup xs) C := rfl
theorem e_tuple_c {C : Cells} {k : Nat} {ds : List D} (e : C[k]? = some (.lst ds)) : oTuple [.cel k] C = .ok (.tup ds) C := by simp [oTuple, asS_cel e]
theorem app_of {C : Cells} {k : Nat} {ds : List D} {v : D} (e : C[k]? = some (.lst ds)) (h : ds.length < 16777216) : appD (.cel k) v C = .ok .non (C.set k (.lst (ds ++ [v]))) := by
  unfold appD
  simp only [e]
  rw [if_pos (by rw [sizeLine_eq]; exact h)]
@[simp] theorem e_forL_nil (t : D → Rho → Option Rho) (b : Rho → Cells → Out) (ρ : Rho) (C : Cells) : forL t b [] ρ C = .nx ρ C := rfl
@[simp] theorem e_forL_N (i : Nat) (b : Rho → Cells → Out) (d : D) (ds : List D) (ρ : Rho) (C : Cells) : forL (tgN i) b (d :: ds) ρ C = (b (ρ.set i (some d)) C).loop (forL (tgN i) b ds) := rfl
@[simp] theorem e_lcL_nil (t : D → Rho → Option Rho) (ft fe : Rho → Cells → Res D) (ρ : Rho) (C : Cells) : lcL t ft fe ρ [] C = .ok [] C := rfl
theorem e_lcL_N (i : Nat) (ft fe : Rho → Cells → Res D) (ρ : Rho) (d : D) (ds : List D) (C : Cells) : lcL (tgN i) ft fe ρ (d :: ds) C = (noX (toB (ft (ρ.set i (some d)) C))).bind fun b C1 => if b then (noX (fe (ρ.set i (some d)) C1)).bind fun y C2 => (lcL (tgN i) ft fe ρ ds C2).bind fun ys C3 => .ok (y :: ys) C3 else lcL (tgN i) ft fe ρ ds C1 := rfl
@[simp] theorem noX_ok {α : Type} (a : α) (C : Cells) : noX (.ok a C) = .ok a C := rfl
/-- a comprehension whose test and element leave the cells alone -/
theorem lc_map (i : Nat) {ft fe : Rho → Cells → Res D} {ρ : Rho} {C : Cells} (p : D → Bool) (g : D → D) : ∀ ds : List D, (∀ d ∈ ds, ft (ρ.set i (some d)) C = .ok (.bl (p d)) C) → (∀ d ∈ ds, p d = true → fe (ρ.set i (some d)) C = .ok (g d) C) → lcL (tgN i) ft fe ρ ds C = .ok ((ds.filter p).map g) C
  | [], _, _ => rfl
  | d :: ds, h1, h2 => by
    rw [e_lcL_N, h1 d (by simp)]
    have ih := lc_map i p g ds (fun x hx => h1 x (List.mem_cons_of_mem _ hx)) fun x hx => h2 x (List.mem_cons_of_mem _ hx)
    cases hp : p d with
    | true => simp [h2 d (by simp) hp, ih, hp]
    | false => simp [ih, hp]
theorem lc_mapY (i : Nat) {fe : Rho → Cells → Res D} {ρ : Rho} {C : Cells} (g : D → D) (ds : List D) (h2 : ∀ d ∈ ds, fe (ρ.set i (some d)) C = .ok (g d) C) : lcL (tgN i) fYes fe ρ ds C = .ok (ds.map g) C := by
  rw [lc_map i (fun _ => true) g ds (fun _ _ => rfl) fun d hd _ => h2 d hd, List.filter_eq_self.mpr fun _ _ => rfl]
theorem e_lcC_0 (t : D → Rho → Option Rho) (ft fe : Rho → Cells → Res D) (ρ : Rho) (k n : Nat) (C : Cells) : lcC t ft fe ρ k n 0 C = if cLen k C = some n then .ok [] C else .stuck := rfl
/-- over a cell that stays as it is -/
theorem lcC_map (i : Nat) {ft fe : Rho → Cells → Res D} {ρ : Rho} {C : Cells} {k : Nat} {ds : List D} (hk : C[k]? = some (.lst ds)) (p : D → Bool) (g : D → D) (h1 : ∀ d ∈ ds, ft (ρ.set i (some d)) C = .ok (.bl (p d)) C) (h2 : ∀ d ∈ ds, p d = true → fe (ρ.set i (some d)) C = .ok (g d) C) :
    lcC (tgN i) ft fe ρ k ds.length ds.length C = .ok ((ds.filter p).map g) C := by
  have key : ∀ m, m ≤ ds.length → lcC (tgN i) ft fe ρ k ds.length m C = .ok (((ds.drop (ds.length - m)).filter p).map g) C := by
    intro m
    induction m with
    | zero =>
      intro _
      rw [e_lcC_0, if_pos (by simp [cLen, hk])]
      simp
    | succ m ih =>
      intro hm
      have hlt : ds.length - (m + 1) < ds.length := by omega
      have hmem : ds[ds.length - (m + 1)] ∈ ds := List.getElem_mem hlt
      unfold lcC
      rw [asL_celE hk]
      simp only [if_true, List.getElem?_eq_getElem hlt]
      unfold lcStep
      simp only [e_tgN]
      rw [h1 _ hmem, List.drop_eq_getElem_cons hlt, show ds.length - (m + 1) + 1 = ds.length - m by omega]
      cases hp : p ds[ds.length - (m + 1)] with
      | true => simp [h2 _ hmem hp, ih (by omega), hp]
      | false => simp [ih (by omega), hp]
  have := key ds.length (Nat.le_refl _)
  simpa using this
theorem iSeq_cel {f : Rho → Cells → Res D} {ρ : Rho} {C : Cells} {k : Nat} {ds : List D} (hf : f ρ C = .ok (.cel k) C) (hk : C[k]? = some (.lst ds)) : iSeq f ρ C = .ok (.cel k ds.length) C := by
  simp [hf, cLen, hk]

/-! ### data that are small enough for repr and == -/
structure Good (n w : Nat) (p : PyData) : Prop where
  lay : p.canLay0 = true
  dep : p.depth ≤ n
  lea : p.leavesShort 13 = true
  wei : p.weight ≤ w
  sho : p.showable = true
theorem Good.mono {n m w u : Nat} {p : PyData} (g : Good n w p) (h1 : n ≤ m) (h2 : w ≤ u) : Good m u p := ⟨g.lay, Nat.le_trans g.dep h1, g.lea, Nat.le_trans g.wei h2, g.sho⟩
theorem Good.none : Good 0 0 .none := ⟨rfl, Nat.le_refl _, rfl, Nat.le_refl _, rfl⟩
theorem Good.bool (b : Bool) : Good 0 0 (.bool b) := ⟨rfl, Nat.le_refl _, rfl, Nat.le_refl _, rfl⟩
theorem log2_lt {m k : Nat} (h : m < 2 ^ k) (hk : 0 < k) : m.log2 < k := by
  by_cases z : m = 0
  · subst z
    exact hk
  · exact (Nat.log2_lt z).mpr h
theorem Good.int {i : Int} (h : i.natAbs < 10 ^ 12) : Good 0 41 (.int i) := by
  have h2 : i.natAbs.log2 < 40 := log2_lt (Nat.lt_of_lt_of_le h (by decide)) (by decide)
  refine ⟨rfl, Nat.le_refl _, by simp only [PyData.leavesShort, decide_eq_true_eq]; exact PyData.shown_int_le h, ?_, by simp only [PyData.showable, decide_eq_true_eq]; omega⟩
  show (if i == 0 then 0 else i.natAbs.log2 + 1) ≤ 41
  split <;> omega
structure GoodL (n w : Nat) (ps : List PyData) : Prop where
  lay : PyData.canLayAll0 ps = true
  dep : PyData.depthAll ps ≤ n
  lea : PyData.leavesShortAll 13 ps = true
  wei : PyData.weightAll ps ≤ ps.length * (w + 1)
  sho : PyData.showableAll ps = true
theorem GoodL.nil {n w : Nat} : GoodL n w [] := ⟨rfl, Nat.zero_le _, rfl, Nat.zero_le _, rfl⟩
theorem GoodL.cons {n w : Nat} {p : PyData} {ps : List PyData} (g : Good n w p) (gs : GoodL n w ps) : GoodL n w (p :: ps) := by
  refine ⟨by simp [PyData.canLayAll0, g.lay, gs.lay], by simp only [PyData.depthAll]; exact Nat.max_le.mpr ⟨g.dep, gs.dep⟩, by simp [PyData.leavesShortAll, g.lea, gs.lea], ?_, by simp [PyData.showableAll, g.sho, gs.sho]⟩
  have h1 := g.wei
  have h2 := gs.wei
  simp only [PyData.weightAll, List.length_cons, Nat.add_mul, Nat.one_mul]
  omega
theorem Good.tuple {n w : Nat} {ps : List PyData} (g : GoodL n w ps) : Good (n + 1) (ps.length * (w + 1)) (.tuple ps) := ⟨g.lay, Nat.succ_le_succ g.dep, g.lea, g.wei, g.sho⟩
theorem Good.list {n w : Nat} {ps : List PyData} (g : GoodL n w ps) : Good (n + 1) (ps.length * (w + 1)) (.list ps) := ⟨g.lay, Nat.succ_le_succ g.dep, g.lea, g.wei, g.sho⟩
/-- a datum and what it is as the library's -/
structure GD (n w : Nat) (d : D) (p : PyData) : Prop where
  e : toPy d = some p
  g : Good n w p
theorem GD.mono {n m w u : Nat} {d : D} {p : PyData} (g : GD n w d p) (h1 : n ≤ m) (h2 : w ≤ u) : GD m u d p := ⟨g.e, g.g.mono h1 h2⟩
theorem GD.non : GD 0 0 .non .none := ⟨rfl, .none⟩
theorem GD.bl (b : Bool) : GD 0 0 (.bl b) (.bool b) := ⟨rfl, .bool b⟩
theorem GD.int {i : Int} (h : i.natAbs < 10 ^ 12) : GD 0 41 (.int i) (.int i) := ⟨rfl, .int h⟩
theorem GD.str {x : Str} {w : Nat} (h : PyData.strOk x = true) (h2 : x.cps.size ≤ w) (h3 : (x.cps.toList.all fun c => decide (c < 16 ^ 8)) = true) : GD 0 w (.str x) (.str x) := ⟨rfl, h, Nat.le_refl _, h3, h2, rfl⟩
structure GDs (n w : Nat) (ds : List D) (ps : List PyData) : Prop where
  e : toPys ds = some ps
  g : GoodL n w ps
  l : ps.length = ds.length
theorem GDs.nil {n w : Nat} : GDs n w [] [] := ⟨rfl, .nil, rfl⟩
theorem GDs.cons {n w : Nat} {d : D} {p : PyData} {ds : List D} {ps : List PyData} (g : GD n w d p) (gs : GDs n w ds ps) : GDs n w (d :: ds) (p :: ps) := ⟨by simp [toPys, g.e, gs.e], .cons g.g gs.g, by simp [gs.l]⟩
theorem GD.tup {n w : Nat} {ds : List D} {ps : List PyData} (g : GDs n w ds ps) : GD (n + 1) (ds.length * (w + 1)) (.tup ds) (.tuple ps) := ⟨by simp [toPy, g.e], by rw [← g.l]; exact .tuple g.g⟩
theorem GD.lst {n w : Nat} {ds : List D} {ps : List PyData} (g : GDs n w ds ps) : GD (n + 1) (ds.length * (w + 1)) (.lst ds) (.list ps) := ⟨by simp [toPy, g.e], by rw [← g.l]; exact .list g.g⟩
/-- small data, all of them -/
def GA (n w : Nat) (d : D) : Prop := ∃ p, GD n w d p
theorem GDs.all {n w : Nat} : ∀ {ds : List D}, (∀ d ∈ ds, GA n w d) → ∃ ps, GDs n w ds ps
  | [], _ => ⟨[], .nil⟩
  | d :: ds, h => by
    obtain ⟨p, g⟩ := h d (by simp)
    obtain ⟨ps, gs⟩ := GDs.all (ds := ds) fun x hx => h x (List.mem_cons_of_mem _ hx)
    exact ⟨p :: ps, .cons g gs⟩
theorem GA.mono {n m w u : Nat} {d : D} (g : GA n w d) (h1 : n ≤ m) (h2 : w ≤ u) : GA m u d := let ⟨p, q⟩ := g; ⟨p, q.mono h1 h2⟩
theorem GA.tup {n w : Nat} {ds : List D} (h : ∀ d ∈ ds, GA n w d) : GA (n + 1) (ds.length * (w + 1)) (.tup ds) := let ⟨_, g⟩ := GDs.all h; ⟨_, .tup g⟩
theorem GA.lst {n w : Nat} {ds : List D} (h : ∀ d ∈ ds, GA n w d) : GA (n + 1) (ds.length * (w + 1)) (.lst ds) := let ⟨_, g⟩ := GDs.all h; ⟨_, .lst g⟩
/-- what repr tells of a datum -/
def rp (d : D) : Str := match toPy d with
  | some p => p.shown
  | none => ""
theorem repr_of {n w : Nat} {d : D} {C : Cells} (g : GA n w d) (h1 : n ≤ 64) (h2 : w ≤ 2 ^ 20) : oRepr [d] C = .ok (.str (rp d)) C := by
  obtain ⟨p, e, g⟩ := g
  have ec : toPyC d C = some p := by
    cases d with
    | cel k => simp [toPy] at e
    | _ => exact e
  unfold oRepr rp
  simp only [ec, e]
  rw [if_pos ⟨by simp [SeqAt.shaped, g.lay, Nat.le_trans g.dep h1], g.sho, PyData.shown_fits (B := 13) (by decide) (by decide) g.lea (Nat.le_trans g.wei h2)⟩]
@[simp] theorem eqD_ss (neg : Bool) (a b : Str) (C : Cells) : eqD neg (.str a) (.str b) C = .ok (.bl (if neg then !decide (a = b) else decide (a = b))) C := rfl
/-- == of small data -/
theorem eq_of {n w : Nat} {x y : D} {p q : PyData} {neg : Bool} {C : Cells} (g1 : GD n w x p) (g2 : GD n w y q) (h1 : n ≤ 64) (hs : ∀ a b, ¬ (x = .str a ∧ y = .str b)) : eqD neg x y C = .ok (.bl (if neg then !PyData.eqv p q else PyData.eqv p q)) C := by
  have ec : ∀ {d : D} {p : PyData}, toPy d = some p → toPyC d C = some p := fun {d p} e => by
    cases d with
    | cel k => simp [toPy] at e
    | _ => exact e
  unfold eqD
  split
  · exact absurd ⟨rfl, rfl⟩ (hs _ _)
  · simp only [ec g1.e, ec g2.e]
    rw [if_pos ⟨by simp [SeqAt.shaped, g1.g.lay, Nat.le_trans g1.g.dep h1], by simp [SeqAt.shaped, g2.g.lay, Nat.le_trans g2.g.dep h1]⟩]
theorem fLc_of {m : Bool} {vs : List Nat} {fi : Rho → Cells → Res Src} {t : D → Rho → Option Rho} {ft fe : Rho → Cells → Res D} {ρ : Rho} {C C1 C2 : Cells} {src : Src} {ys : List D} (h1 : fi ρ C = .ok src C1) (h2 : lcS t ft fe (wipeD ρ vs) src C1 = .ok ys C2) (h3 : ys.length ≤ 100000) :
    fLc m vs fi t ft fe ρ C = mkL m ys C2 := by
  unfold fLc
  rw [h1, Res.bind_ok, h2, Res.bind_ok, if_pos (Nat.lt_of_le_of_lt h3 (by rw [sizeLine_eq]; decide))]
theorem iRg1_of {f : Rho → Cells → Res D} {ρ : Rho} {C C1 : Cells} {j : Int} (h : f ρ C = .ok (.int j) C1) (h0 : 0 ≤ j) (h1 : j ≤ 100000) : iRg (rg1 f) ρ C = .ok (.fix (rg 0 j)) C1 := by
  have hr : RgOk 0 j := .of_le (by omega) (by omega) (by omega) (by omega)
  simp [h, hr]
theorem iRg2_of {f g : Rho → Cells → Res D} {ρ : Rho} {C C1 C2 : Cells} {i j : Int} (h : f ρ C = .ok (.int i) C1) (hg : g ρ C1 = .ok (.int j) C2) (a : 0 ≤ i) (b : i ≤ 100000) (h0 : 0 ≤ j) (h1 : j ≤ 100000) : iRg (rg2 f g) ρ C = .ok (.fix (rg i j)) C2 := by
  have hr : RgOk i j := .of_le (by omega) (by omega) (by omega) (by omega)
  simp [h, hg, hr]
/-! ### blocks, statement by statement -/
theorem seq_nx {f g : Rho → Cells → Out} {ρ ρ1 : Rho} {C C1 : Cells} {o : Out} (h1 : f ρ C = .nx ρ1 C1) (h2 : g ρ1 C1 = o) : sSeq f g ρ C = o := by
  unfold sSeq
  rw [h1]
  exact h2
theorem seq_rt {f g : Rho → Cells → Out} {ρ : Rho} {C C1 : Cells} {d : D} (h1 : f ρ C = .rt d C1) : sSeq f g ρ C = .rt d C1 := by
  unfold sSeq
  rw [h1]
  rfl
theorem if_t {t : Rho → Cells → Res D} {f g : Rho → Cells → Out} {ρ : Rho} {C C1 : Cells} {o : Out} (h : t ρ C = .ok (.bl true) C1) (h2 : f ρ C1 = o) : sIf t f g ρ C = o := by
  unfold sIf
  rw [h]
  exact h2
theorem if_f {t : Rho → Cells → Res D} {f g : Rho → Cells → Out} {ρ : Rho} {C C1 : Cells} {o : Out} (h : t ρ C = .ok (.bl false) C1) (h2 : g ρ C1 = o) : sIf t f g ρ C = o := by
  unfold sIf
  rw [h]
  exact h2
theorem set_nx {i : Nat} {f : Rho → Cells → Res D} {ρ ρ' : Rho} {C C1 : Cells} {d : D} (h : f ρ C = .ok d C1) (e : ρ.set i (some d) = ρ') : sSet i f ρ C = .nx ρ' C1 := by
  unfold sSet
  rw [h, ← e]
  rfl
theorem ret_rt {f : Rho → Cells → Res D} {ρ : Rho} {C C1 : Cells} {d : D} (h : f ρ C = .ok d C1) : sRet f ρ C = .rt d C1 := by
  unfold sRet
  rw [h]
  rfl
theorem expr_nx {f : Rho → Cells → Res D} {ρ : Rho} {C C1 : Cells} {d : D} (h : f ρ C = .ok d C1) : sExpr f ρ C = .nx ρ C1 := by
  unfold sExpr
  rw [h]
  rfl
/-- a sequence's items: of a tuple, a list by value, a cell -/
inductive SeqOf (C : Cells) : D → List D → Prop
  | tup (ds : List D) : SeqOf C (.tup ds) ds
  | lst (ds : List D) : SeqOf C (.lst ds) ds
  | cel {k : Nat} {ds : List D} : C[k]? = some (.lst ds) → SeqOf C (.cel k) ds
theorem SeqOf.asS {C : Cells} {x : D} {ds : List D} (h : SeqOf C x ds) : asS x C = some ds := by
  cases h with
  | tup => rfl
  | lst => rfl
  | cel h => exact asS_cel h
theorem SeqOf.len {C : Cells} {x : D} {ds : List D} (h : SeqOf C x ds) : oLen [x] C = .ok (.int ds.length) C := by
  cases h with
  | tup => rfl
  | lst => rfl
  | cel h => exact oLen_cel h
theorem SeqOf.tuple {C : Cells} {x : D} {ds : List D} (h : SeqOf C x ds) : oTuple [x] C = .ok (.tup ds) C := by
  cases h with
  | tup => rfl
  | lst => rfl
  | cel h => exact e_tuple_c h
theorem SeqOf.ix {C : Cells} {x d : D} {ds : List D} {i : Int} (h : SeqOf C x ds) (h0 : 0 ≤ i) (h1 : ds[i.toNat]? = some d) : ixD x (.int i) C = .ok d C := ix_of h.asS h0 h1
theorem SeqOf.isi {C : Cells} {x : D} {ds : List D} (h : SeqOf C x ds) : isiD ["list", "tuple"] x C = .ok (.bl true) C := by
  cases h with
  | tup => rfl
  | lst => rfl
  | cel h => simp [isiD, tyD, h, isTy]
theorem lc_seq {m : Bool} {vs : List Nat} {i j : Nat} {ft fe : Rho → Cells → Res D} {ρ : Rho} {C : Cells} {x : D} {ds : List D} (h : SeqOf C x ds) (hv : ρ[i]? = some (some x)) (p : D → Bool) (g : D → D)
    (h1 : ∀ d ∈ ds, ft ((wipeD ρ vs).set j (some d)) C = .ok (.bl (p d)) C) (h2 : ∀ d ∈ ds, p d = true → fe ((wipeD ρ vs).set j (some d)) C = .ok (g d) C) (h3 : ds.length ≤ 100000) :
    fLc m vs (iSeq (fVar i)) (tgN j) ft fe ρ C = mkL m ((ds.filter p).map g) C := by
  have hl : ((ds.filter p).map g).length ≤ 100000 := by
    rw [List.length_map]
    exact Nat.le_trans (List.length_filter_le _ _) h3
  cases h with
  | tup => exact fLc_of (C1 := C) (src := .fix ds) (by simp [hv]) (lc_map j p g ds h1 h2) hl
  | lst => exact fLc_of (C1 := C) (src := .fix ds) (by simp [hv]) (lc_map j p g ds h1 h2) hl
  | cel h => exact fLc_of (C1 := C) (iSeq_cel (by simp [hv]) h) (lcC_map j h p g h1 h2) hl
mutual
theorem eqv_refl : ∀ p : PyData, p.canLay0 = true → PyData.eqv p p = true
  | .none, _ => rfl
  | .bool _, _ => by simp [PyData.eqv]
  | .int _, _ => by simp [PyData.eqv]
  | .str _, _ => by simp [PyData.eqv]
  | .list xs, h => by simp only [PyData.eqv]; exact eqvAll_refl xs h
  | .tuple xs, h => by simp only [PyData.eqv]; exact eqvAll_refl xs h
  | .dict _, h => by simp [PyData.canLay0] at h
theorem eqvAll_refl : ∀ ps : List PyData, PyData.canLayAll0 ps = true → PyData.eqvAll ps ps = true
  | [], _ => rfl
  | p :: ps, h => by
    simp only [PyData.canLayAll0, Bool.and_eq_true] at h
    simp only [PyData.eqvAll, Bool.and_eq_true]
    exact ⟨eqv_refl p h.1, eqvAll_refl ps h.2⟩
end
/-- an int beside small data -/
theorem eq_int {C : Cells} {i : Int} (a : Int) : eqD false (.int a) (.int i) C = .ok (.bl (a == i)) C := rfl
theorem eq_non {C : Cells} {i : Int} : eqD false .non (.int i) C = .ok (.bl false) C := rfl
theorem cut_take {α : Type} (xs : List α) {i : Int} (h : 0 ≤ i) : cut xs none (some i) = xs.take i.toNat := by
  obtain ⟨k, rfl⟩ : ∃ k : Nat, i = k := ⟨i.toNat, by omega⟩
  unfold cut
  rw [HT.sIx_nat, HT.sIx_none]
  simp only [List.drop_zero, Nat.sub_zero, Int.toNat_natCast]
  rw [List.take_eq_take_iff]
  omega
theorem cut_drop {α : Type} (xs : List α) {i : Int} (h : 0 ≤ i) : cut xs (some i) none = xs.drop i.toNat := by
  obtain ⟨k, rfl⟩ : ∃ k : Nat, i = k := ⟨i.toNat, by omega⟩
  unfold cut
  rw [HT.sIx_nat, HT.sIx_none]
  simp only [Int.toNat_natCast]
  by_cases hk : k ≤ xs.length
  · rw [Nat.min_eq_left hk, List.take_of_length_le (by simp)]
  · rw [Nat.min_eq_right (show xs.length ≤ k by omega), List.drop_eq_nil_of_le (Nat.le_refl _), List.drop_eq_nil_of_le (by omega)]
    simp
theorem cut_mid {α : Type} (xs : List α) {i j : Int} (h : 0 ≤ i) (h2 : 0 ≤ j) : cut xs (some i) (some j) = (xs.drop i.toNat).take (j.toNat - i.toNat) := by
  obtain ⟨k, rfl⟩ : ∃ k : Nat, i = k := ⟨i.toNat, by omega⟩
  obtain ⟨l, rfl⟩ : ∃ k : Nat, j = k := ⟨j.toNat, by omega⟩
  unfold cut
  rw [HT.sIx_nat, HT.sIx_nat]
  simp only [Int.toNat_natCast]
  by_cases hk : k ≤ xs.length
  · rw [Nat.min_eq_left hk, List.take_eq_take_iff, List.length_drop]
    omega
  · rw [Nat.min_eq_right (show xs.length ≤ k by omega), List.drop_eq_nil_of_le (Nat.le_refl _), List.drop_eq_nil_of_le (show xs.length ≤ k by omega)]
    simp
theorem SeqOf.app {C T : Cells} {x : D} {ds : List D} (h : SeqOf C x ds) : SeqOf (C ++ T) x ds := by
  cases h with
  | tup => exact .tup _
  | lst => exact .lst _
  | cel h => exact .cel (by rw [List.getElem?_append_left (List.getElem?_eq_some_iff.mp h).1]; exact h)
theorem SeqOf.setNe {C : Cells} {x : D} {ds : List D} {k : Nat} {c : Cell} (h : SeqOf C x ds) (hk : x ≠ .cel k) : SeqOf (C.set k c) x ds := by
  cases h with
  | tup => exact .tup _
  | lst => exact .lst _
  | cel h =>
    rename_i j
    refine .cel ?_
    rw [List.getElem?_set_ne (fun e => hk (by rw [e]))]
    exact h
theorem set_last (C : Cells) (a b : Cell) : (C ++ [a]).set C.length b = C ++ [b] := by
  simp
theorem par_nx {i j : Nat} {fs : Rho → Cells → Res (List D)} {ρ ρ' : Rho} {C C1 : Cells} {x y : D} (h : fs ρ C = .ok [x, y] C1) (e : (ρ.set i (some x)).set j (some y) = ρ') : sPar i j fs ρ C = .nx ρ' C1 := by
  unfold sPar
  rw [h, ← e]
  rfl
theorem par3_nx {i j l : Nat} {fs : Rho → Cells → Res (List D)} {ρ ρ' : Rho} {C C1 : Cells} {x y z : D} (h : fs ρ C = .ok [x, y, z] C1) (e : ((ρ.set i (some x)).set j (some y)).set l (some z) = ρ') : sPar3 i j l fs ρ C = .nx ρ' C1 := by
  unfold sPar3
  rw [h, ← e]
  rfl
end BV
namespace BV
open PySem PySem.Spec PyProof.Rows L2
/-! ### dicts: entries as data -/
def kOf (d : D) : Option Key := match d with
  | .int i => some (.inl i)
  | .str x => some (.inr x)
  | _ => none
def kD (k : Key) : D := match k with
  | .inl i => .int i
  | .inr x => .str x
def getD' (ks : List (Key × D)) (k : Key) : Option D := (ks.find? fun p => decide (p.1 = k)).map (·.2)
def putD (ks : List (Key × D)) (k : Key) (d : D) : List (Key × D) :=
  if (ks.any fun p => decide (p.1 = k)) = true then ks.map (fun p => if p.1 = k then (p.1, d) else p) else ks ++ [(k, d)]
section
variable {K : PySem.W.Frag} {μ : List Addr} {F : Hp}
theorem kOf_rep {v : V} {d : D} {k : Key} (e : kOf d = some k) (r : Rep K μ F v d) : v = kV k := by
  cases r with
  | int i => cases e; rfl
  | str x => cases e; rfl
  | _ => cases e
theorem kD_rep (k : Key) : Rep K μ F (kV k) (kD k) := by
  cases k with
  | inl i => exact .int i
  | inr x => exact .str x
theorem KReps.nil : KReps K μ F [] [] := ⟨rfl, .nil⟩
theorem KReps.any {ws : List (Key × V)} {ks : List (Key × D)} (r : KReps K μ F ws ks) (k : Key) : (ws.any fun p => decide (p.1 = k)) = (ks.any fun p => decide (p.1 = k)) := by
  have e1 : (ws.any fun p => decide (p.1 = k)) = ((ws.map (·.1)).any fun z => decide (z = k)) := by rw [List.any_map]; rfl
  have e2 : (ks.any fun p => decide (p.1 = k)) = ((ks.map (·.1)).any fun z => decide (z = k)) := by rw [List.any_map]; rfl
  rw [e1, e2, r.1]
theorem KReps.len {ws : List (Key × V)} {ks : List (Key × D)} (r : KReps K μ F ws ks) : ws.length = ks.length := by
  have := congrArg List.length r.1
  simpa using this
theorem KReps.cons_inv {w : Key × V} {ws : List (Key × V)} {p : Key × D} {ks : List (Key × D)} (r : KReps K μ F (w :: ws) (p :: ks)) : w.1 = p.1 ∧ Rep K μ F w.2 p.2 ∧ KReps K μ F ws ks := by
  obtain ⟨e, q⟩ := r
  simp only [List.map_cons, List.cons.injEq] at e
  cases q with
  | cons a b => exact ⟨e.1, a, e.2, b⟩
theorem KReps.cons {w : Key × V} {ws : List (Key × V)} {p : Key × D} {ks : List (Key × D)} (e : w.1 = p.1) (a : Rep K μ F w.2 p.2) (r : KReps K μ F ws ks) : KReps K μ F (w :: ws) (p :: ks) :=
  ⟨by simp [e, r.1], .cons a r.2⟩
theorem KReps.find : ∀ {ws : List (Key × V)} {ks : List (Key × D)} (k : Key), KReps K μ F ws ks → (valV ws k = none ∧ getD' ks k = none) ∨ ∃ v d, valV ws k = some v ∧ getD' ks k = some d ∧ Rep K μ F v d
  | [], [], _, _ => .inl ⟨rfl, rfl⟩
  | [], p :: ks, _, r => by
    have := r.len
    simp at this
  | w :: ws, [], _, r => by
    have := r.len
    simp at this
  | w :: ws, p :: ks, k, r => by
    obtain ⟨e, a, r'⟩ := r.cons_inv
    by_cases h : p.1 = k
    · exact .inr ⟨w.2, p.2, valV_pos (e.trans h), by simp [getD', List.find?_cons, h], a⟩
    · have h' : ¬ w.1 = k := fun z => h (e.symm.trans z)
      have e2 : getD' (p :: ks) k = getD' ks k := by simp [getD', List.find?_cons, h]
      rw [valV_neg h', e2]
      exact KReps.find k r'
theorem KReps.upd {v : V} {d : D} (a : Rep K μ F v d) (k : Key) : ∀ {ws : List (Key × V)} {ks : List (Key × D)}, KReps K μ F ws ks → KReps K μ F (ws.map fun p => if p.1 = k then (p.1, v) else p) (ks.map fun p => if p.1 = k then (p.1, d) else p)
  | [], [], _ => .nil
  | [], p :: ks, r => by
    have := r.len
    simp at this
  | w :: ws, [], r => by
    have := r.len
    simp at this
  | w :: ws, p :: ks, r => by
    obtain ⟨e, b, r'⟩ := r.cons_inv
    simp only [List.map_cons]
    refine .cons ?_ ?_ (KReps.upd a k r')
    · by_cases h : p.1 = k
      · rw [if_pos (e.trans h), if_pos h]; exact e
      · rw [if_neg (fun z => h (e.symm.trans z)), if_neg h]; exact e
    · by_cases h : p.1 = k
      · rw [if_pos (e.trans h), if_pos h]; exact a
      · rw [if_neg (fun z => h (e.symm.trans z)), if_neg h]; exact b
theorem KReps.put {ws : List (Key × V)} {ks : List (Key × D)} {v : V} {d : D} (r : KReps K μ F ws ks) (a : Rep K μ F v d) (k : Key) : KReps K μ F (putK ws k v) (putD ks k d) := by
  unfold putK putD
  rw [r.any k]
  split
  · exact r.upd a k
  · exact ⟨by simp [r.1], by simpa using r.2.append (.cons a .nil)⟩
theorem KReps.keys {ws : List (Key × V)} {ks : List (Key × D)} (r : KReps K μ F ws ks) : Reps K μ F (ws.map fun p => kV p.1) (ks.map fun p => kD p.1) := by
  have e1 : (ws.map fun p => kV p.1) = (ws.map (·.1)).map kV := by rw [List.map_map]; rfl
  have e2 : (ks.map fun p => kD p.1) = (ks.map (·.1)).map kD := by rw [List.map_map]; rfl
  rw [e1, e2, r.1]
  induction ks.map (·.1) with
  | nil => exact .nil
  | cons k l ih => exact .cons (kD_rep k) ih
end
section
variable {K : PySem.W.Frag} {mg : Str → Option Value} {W : WX} {μ μ' : List Addr} {F F' H H' : Hp} {C C' : Cells} {σ : L2.St}
/-- the dict of a cell -/
theorem Sim.dic (S : Sim K μ F C H) {k : Nat} {a : Addr} {ks : List (Key × D)} (hk : C[k]? = some (.dic ks)) (ha : μ[k]? = some a) : ∃ ws, H a = some (.dK ws) ∧ KReps K μ F ws ks := by
  obtain ⟨_, ws, g, r⟩ := S.cel k _ a hk ha
  exact ⟨ws, g, r⟩
/-- a dict's cell is written -/
theorem Sim.writeK (S : Sim K μ F C H) {k : Nat} {a : Addr} {ks ks' : List (Key × D)} {ws' : List (Key × V)} (hk : C[k]? = some (.dic ks)) (ha : μ[k]? = some a) (r : KReps K μ F ws' ks') :
    Sim K μ F (C.set k (.dic ks')) (upd H a (.dK ws')) ∧ Ext μ F H μ F (upd H a (.dK ws')) := by
  obtain ⟨f, vs, g, r0⟩ := S.cel k _ a hk ha
  refine ⟨⟨fun b u e => ?_, by simp [S.len], S.nd, fun b h z => ?_, fun j c b h1 h2 => ?_⟩, ⟨⟨[], by simp, fun a h => nomatch h⟩, Same.refl F, fun b h => ?_, fun a u h1 h2 => (by rw [h1] at h2; cases h2), fun b u h1 h2 => ?_⟩⟩
  · have hne : b ≠ a := fun z => by rw [z, f] at e; cases e
    rw [upd_ne hne]
    exact S.sub b u e
  · by_cases hb : b = a
    · subst hb
      rw [upd_same] at z
      cases z
    · rw [upd_ne hb] at z
      exact S.trk b h z
  · by_cases hj : j = k
    · subst hj
      rw [ha] at h2
      cases h2
      rw [List.getElem?_set_self (List.getElem?_eq_some_iff.mp hk).1] at h1
      cases h1
      exact ⟨f, ws', upd_same, r⟩
    · rw [List.getElem?_set_ne (Ne.symm hj)] at h1
      have q := S.cel j c b h1 h2
      have hne : b ≠ a := fun z => by
        subst z
        obtain ⟨l1, e1⟩ := List.getElem?_eq_some_iff.mp h2
        obtain ⟨l2, e2⟩ := List.getElem?_eq_some_iff.mp ha
        exact hj ((List.getElem_inj S.nd).mp (e1.trans e2.symm))
      cases c with
      | dead => trivial
      | lst ds2 =>
        obtain ⟨f2, vs2, g2, r2⟩ := q
        exact ⟨f2, vs2, by rw [upd_ne hne]; exact g2, r2⟩
      | dic ds2 =>
        obtain ⟨f2, vs2, g2, r2⟩ := q
        exact ⟨f2, vs2, by rw [upd_ne hne]; exact g2, r2⟩
  · by_cases hb : b = a
    · subst hb
      rw [upd_same] at h
      cases h
    · rw [upd_ne hb] at h
      exact h
  · have hne : b ≠ a := fun z => h2 (z ▸ List.mem_of_getElem? ha)
    rw [upd_ne hne]
    exact h1
/-- a dict beside them becomes one of ours -/
theorem kd_adoptK {μ0 : List Addr} {F0 H0 : Hp} {D : Addr} {ks : List (Key × BV.D)} {ws : List (Key × V)} {Q : V → Hp → Prop} (S : Sim K μ F C H) (X : Ext μ0 F0 H0 μ F H) (h0 : H0 D = none) (h1 : D ∉ μ) (h2 : F D = none) (h3 : H D = some (.dK ws)) (r : KReps K μ F ws ks)
    (h : kd (RD K) K mg W (.ok (.cel C.length) (C ++ [.dic ks])) μ0 F0 σ H0 Q) : Q (.ref D) H := by
  obtain ⟨τ, e, n⟩ := X.pre
  refine h _ (μ ++ [D]) F H ⟨⟨τ ++ [D], by rw [e, List.append_assoc], fun a ha => ?_⟩, X.fr, X.thr, X.new, X.keep⟩ ⟨S.sub, by simp [S.len], ?_, fun a ha => ?_, fun k c a e1 e2 => ?_⟩ (.cel ?_)
  · rcases List.mem_append.mp ha with ha | ha
    · exact n a ha
    · simp at ha
      subst ha
      exact h0
  · refine List.nodup_append.mpr ⟨S.nd, by simp, fun a ha b hb e => ?_⟩
    simp at hb
    subst hb
    subst e
    exact h1 ha
  · rcases List.mem_append.mp ha with ha | ha
    · exact S.trk a ha
    · simp at ha
      subst ha
      rw [h3]
      exact fun z => nomatch z
  · by_cases hk : k < C.length
    · rw [List.getElem?_append_left hk] at e1
      rw [List.getElem?_append_left (by rw [S.len]; exact hk)] at e2
      have q := S.cel k c a e1 e2
      cases c with
      | dead => trivial
      | lst ds2 =>
        obtain ⟨f, vs2, g, r2⟩ := q
        exact ⟨f, vs2, g, Reps.mono ⟨[D], rfl⟩ (Same.refl F) _ _ r2⟩
      | dic ds2 =>
        obtain ⟨f, vs2, g, r2⟩ := q
        exact ⟨f, vs2, g, KReps.mono ⟨[D], rfl⟩ (Same.refl F) _ _ r2⟩
    · have hk0 : k - C.length = 0 := by
        rw [List.getElem?_append_right (by omega)] at e1
        have := (List.getElem?_eq_some_iff.mp e1).1
        simp at this
        omega
      rw [List.getElem?_append_right (by omega), hk0] at e1
      rw [List.getElem?_append_right (by rw [S.len]; omega), S.len, hk0] at e2
      simp at e1 e2
      subst e1 e2
      exact ⟨h2, ws, h3, KReps.mono ⟨[D], rfl⟩ (Same.refl F) _ _ r⟩
  · rw [List.getElem?_append_right (by rw [S.len]; exact Nat.le_refl _), S.len, Nat.sub_self]
    rfl
end
/-! ### k in d -/
def dicD (x : D) (C : Cells) : Option (List (Key × D)) := match x with
  | .cel k => match C[k]? with
    | some (.dic ks) => some ks
    | _ => none
  | _ => none
theorem dicD_rep {K : PySem.W.Frag} {μ : List Addr} {F H : Hp} {C : Cells} {x : D} {v : V} {ks : List (Key × D)} (S : Sim K μ F C H) (r : Rep K μ F v x) (e : dicD x C = some ks) : ∃ a ws k, v = .ref a ∧ x = .cel k ∧ C[k]? = some (.dic ks) ∧ μ[k]? = some a ∧ H a = some (.dK ws) ∧ KReps K μ F ws ks := by
  unfold dicD at e
  split at e
  · split at e
    · rename_i ks' hk
      cases e
      cases r with
      | cel a' =>
        obtain ⟨ws, g, r⟩ := S.dic hk a'
        exact ⟨_, ws, _, rfl, rfl, hk, a', g, r⟩
    · cases e
  · cases e
section
variable {X : Cx} {W : WX}
def rDIn : R2 := fun y x H Q => ∃ a o, x = .ref a ∧ DGet H a y o ∧ Q (.bl o.isSome) H
def rDNin : R2 := fun y x H Q => ∃ a o, x = .ref a ∧ DGet H a y o ∧ Q (.bl (!o.isSome)) H
theorem op_din (hu : X.A.units + 1 < cLine) : OpR X (compareOp .In) rDIn := by
  intro pins s σ H x y v u Q I rx ry h
  obtain ⟨a, o, rfl, g, q⟩ := h
  obtain rfl : u = Value.ref a := ry
  exact d_in hu I g rx fun s' I' => ⟨.bl o.isSome, H, I', rfl, q⟩
theorem op_dnin (hu : X.A.units + 1 < cLine) : OpR X (compareOp .NotIn) rDNin := by
  intro pins s σ H x y v u Q I rx ry h
  obtain ⟨a, o, rfl, g, q⟩ := h
  obtain rfl : u = Value.ref a := ry
  exact d_notIn hu I g rx fun s' I' => ⟨.bl (!o.isSome), H, I', rfl, q⟩
/-- in, of a dict or a sequence -/
def in2D (neg : Bool) (x y : D) (C : Cells) : Res D := match dicD y C with
  | some ks => match kOf x with
    | some k => .ok (.bl (if neg then !(getD' ks k).isSome else (getD' ks k).isSome)) C
    | none => .stuck
  | none => inD neg x y C
theorem ob_in2 (hu : X.A.units + 65 < cLine) : OpB X W (compareOp .In) (in2D false) := by
  obtain ⟨r, hr, hk⟩ := ob_in (X := X) (W := W) hu
  refine ⟨_, (op_din (by omega)).or hr, fun x y C v w μ F H σ Q S r1 r2 k => ?_⟩
  unfold in2D at k
  split at k
  · rename_i ks e
    obtain ⟨a, ws, j, rfl, _, _, _, g, rk⟩ := dicD_rep S r2 e
    split at k
    · rename_i kk ek
      have ev := kOf_rep ek r1
      subst ev
      refine .inl ⟨a, valV ws kk, rfl, DGet.k g, ?_⟩
      have k2 := kd_ret S (.bl _) k
      rcases rk.find kk with ⟨z1, z2⟩ | ⟨v', d', z1, z2, _⟩
      · rw [z1]; rw [z2] at k2; exact k2
      · rw [z1]; rw [z2] at k2; exact k2
    · exact k.elim
  · exact .inr (hk x y C v w μ F H σ Q S r1 r2 k)
theorem ob_nin2 (hu : X.A.units + 65 < cLine) : OpB X W (compareOp .NotIn) (in2D true) := by
  obtain ⟨r, hr, hk⟩ := ob_notin (X := X) (W := W) hu
  refine ⟨_, (op_dnin (by omega)).or hr, fun x y C v w μ F H σ Q S r1 r2 k => ?_⟩
  unfold in2D at k
  split at k
  · rename_i ks e
    obtain ⟨a, ws, j, rfl, _, _, _, g, rk⟩ := dicD_rep S r2 e
    split at k
    · rename_i kk ek
      have ev := kOf_rep ek r1
      subst ev
      refine .inl ⟨a, valV ws kk, rfl, DGet.k g, ?_⟩
      have k2 := kd_ret S (.bl _) k
      rcases rk.find kk with ⟨z1, z2⟩ | ⟨v', d', z1, z2, _⟩
      · rw [z1]; rw [z2] at k2; exact k2
      · rw [z1]; rw [z2] at k2; exact k2
    · exact k.elim
  · exact .inr (hk x y C v w μ F H σ Q S r1 r2 k)
/-! ### d.update(e) -/
def mergeK (ks ls : List (Key × V)) : List (Key × V) := ls.foldl (fun acc p => putK acc p.1 p.2) ks
def mergeD (ks ls : List (Key × D)) : List (Key × D) := ls.foldl (fun acc p => putD acc p.1 p.2) ks
theorem putK_le (c : List (Key × V)) (k : Key) (x : V) : (putK c k x).length ≤ c.length + 1 := by
  unfold putK
  split <;> simp
theorem mergeK_le : ∀ (ls ks : List (Key × V)), (mergeK ks ls).length ≤ ks.length + ls.length
  | [], ks => by simp [mergeK]
  | p :: ls, ks => by
    have h1 := mergeK_le ls (putK ks p.1 p.2)
    have h2 := putK_le ks p.1 p.2
    have e : mergeK ks (p :: ls) = mergeK (putK ks p.1 p.2) ls := rfl
    rw [e, List.length_cons]
    omega
theorem KV.merge : ∀ {ls : List (Key × V)} {vl : List (Key × Value)}, KV ls vl → ∀ {ks : List (Key × V)} {vk : List (Key × Value)}, KV ks vk → KV (mergeK ks ls) (PySem.merged vk vl) := by
  intro ls vl h
  induction h with
  | nil => intro ks vk q; exact q
  | cons a r ih =>
    intro ks vk q
    rename_i p q' ls' vl'
    have e : PySem.merged vk (q' :: vl') = PySem.merged (PySem.stored vk q'.1 q'.2) vl' := rfl
    have e2 : mergeK ks (p :: ls') = mergeK (putK ks p.1 p.2) ls' := rfl
    rw [e, e2, ← a.1]
    exact ih (L2.KV.put q p.1 a.2)
theorem KReps.merge {K : PySem.W.Frag} {μ : List Addr} {F : Hp} : ∀ {ls : List (Key × V)} {l2 : List (Key × D)}, KReps K μ F ls l2 → ∀ {ks : List (Key × V)} {k2 : List (Key × D)}, KReps K μ F ks k2 → KReps K μ F (mergeK ks ls) (mergeD k2 l2)
  | [], [], _, _, _, q => q
  | [], p :: ks, r, _, _, _ => by
    have := r.len
    simp at this
  | w :: ws, [], r, _, _, _ => by
    have := r.len
    simp at this
  | w :: ls, p :: l2, r, ks, k2, q => by
    obtain ⟨e, a, r'⟩ := r.cons_inv
    have e1 : mergeK ks (w :: ls) = mergeK (putK ks w.1 w.2) ls := rfl
    have e2 : mergeD k2 (p :: l2) = mergeD (putD k2 p.1 p.2) l2 := rfl
    rw [e1, e2, e]
    exact KReps.merge r' (q.put a p.1)
def rUpd (x : V) (vs : List V) (H : Hp) (Q : VK) : Prop := ∃ a b ks ls, x = .ref a ∧ vs = [.ref b] ∧ a ≠ b ∧ H a = some (.dK ks) ∧ H b = some (.dK ls) ∧ ks.length + ls.length ≤ sizeLine ∧ Q .non (upd H a (.dK (mergeK ks ls)))
theorem mt_dupd : MtR X "dict.update" rUpd := by
  intro pins s σ H x vs v us Q I rx rv h
  obtain ⟨a, b, ks, ls, rfl, rfl, hne, ha, hb, hz, q⟩ := h
  obtain rfl : v = Value.ref a := rx
  obtain ⟨u, rfl, ru⟩ := vals1 rv
  obtain rfl : u = Value.ref b := ru
  obtain ⟨z1, hd1, v1, r1, d1⟩ := dk_of I.hok ha
  obtain ⟨z2, hd2, v2, r2, d2⟩ := dk_of I.hok hb
  refine call_meetsIn PySem.F.slot_dict_update d1.typeIs PySem.F.entry_dict_update (PySem.F.args_dict_update_2 _ _) (meets_dict_update (mixKind X.prog X.w) a b hne hd2) ⟨v1, v2, d1, d2, by rw [← r1.length, ← r2.length]; exact hz, fun h' dd' _ hs => ?_⟩
  have he : ∃ q, h'.get? a = some q := let ⟨q, _, _, hq, _⟩ := dd'; ⟨q, hq⟩
  exact ⟨.non, _, d_write (t' := s.toks) I (by rw [ha]; exact True.intro) hs he (dk_new (Nat.le_trans (mergeK_le _ _) hz) hd1 (KV.merge r2 r1) dd'), rfl, q⟩
def updD (x y : D) (C : Cells) : Res D := match x, y with
  | .cel k, .cel j => if k = j then .stuck else match C[k]?, C[j]? with
    | some (.dic ks), some (.dic ls) => if ks.length + ls.length ≤ sizeLine then .ok .non (C.set k (.dic (mergeD ks ls))) else .stuck
    | _, _ => .stuck
  | _, _ => .stuck
def fMtK (o : D → D → Cells → Res D) (f g : Rho → Cells → Res D) : Rho → Cells → Res D := fun ρ C => (f ρ C).bind fun x C1 => match dicD x C1 with
  | some _ => (g ρ C1).bind fun v C2 => o x v C2
  | none => .stuck
theorem be_upd {a b : Expr} {fa fb : Rho → Cells → Res D} {apos pos : Pos} (ha : BE X W a fa) (hb : BE X W b fb) (h : ∀ {ta tb : TE}, PE X a ta → PE X b tb → PE X (.Call (.Attribute a "update" apos) [b] [] pos) (tBM X.K "dict" rUpd ta (tCons tb tNil))) :
    BE X W (.Call (.Attribute a "update" apos) [b] [] pos) (fMtK updD fa fb) := by
  refine peI (h ha hb) ?_
  rintro σ H Q ⟨ρ, C, μ, F, S, E, k⟩
  refine ⟨ρ, C, μ, F, S, E, kd_bind k fun d C1 v μ1 F1 H1 x1 s1 r1 h1 => ?_⟩
  split at h1
  · rename_i ks0 e1
    obtain ⟨a0, ws0, j0, ev, ex, hk0, hm0, g0, rk0⟩ := dicD_rep s1 r1 e1
    subst ev
    refine ⟨.inr (.inr (.inl ⟨rfl, .inl ⟨ws0, g0⟩⟩)), ρ, C1, μ1, F1, s1, x1.env E, kd_bind h1 fun d2 C2 v2 μ2 F2 H2 x2 s2 r2 h2 => ?_⟩
    unfold updD at h2
    split at h2
    · split at h2
      · exact h2.elim
      · rename_i kk jj hne
        split at h2
        · rename_i ks ls e3 e4
          split at h2
          · rename_i z
            have r3 := x2.rep r1
            cases r3 with
            | cel a' =>
              cases r2 with
              | cel b' =>
                obtain ⟨w1, g1, q1⟩ := s2.dic e3 a'
                obtain ⟨w2, g2, q2⟩ := s2.dic e4 b'
                obtain ⟨S3, X3⟩ := s2.writeK e3 a' (KReps.merge q2 q1)
                have hab : a0 ≠ _ := fun z => hne (by
                  obtain ⟨l1, y1⟩ := List.getElem?_eq_some_iff.mp a'
                  obtain ⟨l2, y2⟩ := List.getElem?_eq_some_iff.mp b'
                  exact (List.getElem_inj s2.nd).mp (y1.trans (z.trans y2.symm)))
                rw [← q1.len, ← q2.len] at z
                exact ⟨_, _, w1, w2, rfl, rfl, hab, g1, g2, z, h2 _ _ _ _ X3 S3 .non⟩
          · exact h2.elim
        · exact h2.elim
    · exact h2.elim
  · exact h1.elim
/-! ### list(d) -/
def oListD (m : Bool) (xs : List D) (C : Cells) : Res D := match xs with
  | [x] => match dicD x C with
    | some ks => mkL m (ks.map fun p => kD p.1) C
    | none => oList m xs C
  | _ => oList m xs C
theorem cb_listD (m : Bool) (hc : X.calm = true) : CallB X W (.type "list") (oListD m) := by
  obtain ⟨r, hr, hk⟩ := cb_list (X := X) (W := W) m
  refine ⟨fun xs H Q => (∃ (a : Addr) (kvs : List (Key × V)), xs = [.ref a] ∧ Rd H a (.dK kvs) ∧ ∀ p, H p = none → Q (.ref p) (upd H p (.lst (kvs.map fun kv => kV kv.1)))) ∨ r xs H Q, ?_, fun xs C vs μ F H σ Q S rs k => ?_⟩
  · intro pins s σ H xs us Q I rv h
    rcases h with h | h
    · exact call_listD hc pins s σ H xs us Q I rv h
    · exact hr pins s σ H xs us Q I rv h
  · unfold oListD at k
    split at k
    · rename_i x
      split at k
      · rename_i ks e
        obtain ⟨v, rfl, r1⟩ := reps1 rs
        obtain ⟨a, ws, j, rfl, _, _, _, g, rk⟩ := dicD_rep S r1 e
        exact .inl ⟨a, ws, rfl, .inl g, fun p hp => kd_mkL S hp rk.keys k⟩
      · exact .inr (hk _ C vs μ F H σ Q S rs k)
    · exact .inr (hk _ C vs μ F H σ Q S rs k)
end
end BV
namespace BV
open PySem PySem.Spec PyProof.Rows L2
/-! ### dict comprehensions over what is fixed -/
def dcL (t : D → Rho → Option Rho) (ft fk fv : Rho → Cells → Res D) (ρ : Rho) : List (Key × D) → List D → Cells → Res (List (Key × D))
  | acc, [], C => .ok acc C
  | acc, d :: ds, C => match t d ρ with
    | some ρ1 => (noX (toB (ft ρ1 C))).bind fun b C1 => if b then (noX (fk ρ1 C1)).bind fun x C2 => (noX (fv ρ1 C2)).bind fun y C3 => match kOf x with
        | some k => if acc.length < sizeLine then dcL t ft fk fv ρ (putD acc k y) ds C3 else .stuck
        | none => .stuck
      else dcL t ft fk fv ρ acc ds C1
    | none => .stuck
def fDc (vs : List Nat) (fi : Rho → Cells → Res Src) (t : D → Rho → Option Rho) (ft fk fv : Rho → Cells → Res D) : Rho → Cells → Res D := fun ρ C => (fi ρ C).bind fun src C1 => match src with
  | .fix ds => (dcL t ft fk fv (wipeD ρ vs) [] ds C1).bind fun ks C2 => .ok (.cel C2.length) (C2 ++ [.dic ks])
  | _ => .stuck
theorem noex_dcL (t : D → Rho → Option Rho) (ft fk fv : Rho → Cells → Res D) (ρ : Rho) : ∀ (ds : List D) (acc : List (Key × D)) (C : Cells) (c : Str) (p : D) (C' : Cells), dcL t ft fk fv ρ acc ds C ≠ .ex c p C'
  | [], acc, C, c, p, C' => fun h => by simp [dcL] at h
  | d :: ds, acc, C, c, p, C' => fun h => by
    unfold dcL at h
    split at h
    · cases h1 : noX (toB (ft _ C)) with
      | stuck => rw [h1] at h; cases h
      | ex c1 p1 C1 => exact noX_ne _ _ _ _ h1
      | ok b C1 =>
        rw [h1] at h
        simp only [Res.bind_ok] at h
        split at h
        · cases h2 : noX (fk _ C1) with
          | stuck => rw [h2] at h; cases h
          | ex c1 p1 C1 => exact noX_ne _ _ _ _ h2
          | ok x C2 =>
            rw [h2] at h
            simp only [Res.bind_ok] at h
            cases h3 : noX (fv _ C2) with
            | stuck => rw [h3] at h; cases h
            | ex c1 p1 C1 => exact noX_ne _ _ _ _ h3
            | ok y C3 =>
              rw [h3] at h
              simp only [Res.bind_ok] at h
              split at h
              · split at h
                · exact noex_dcL t ft fk fv ρ ds _ _ _ _ _ h
                · cases h
              · cases h
        · exact noex_dcL t ft fk fv ρ ds _ _ _ _ _ h
    · cases h
section
variable {X : Cx} {W : WX}
/-- between the turns: the new dict stands at D -/
structure DcInv (K : PySem.W.Frag) (μ1 : List Addr) (F1 H1 : Hp) (D : Addr) (C2 : Cells) (μ2 : List Addr) (F2 H2 : Hp) (acc : List (Key × BV.D)) (va : List (Key × V)) : Prop where
  x2 : Ext μ1 F1 H1 μ2 F2 H2
  s2 : Sim K μ2 F2 C2 H2
  d1 : D ∉ μ2
  d2 : F2 D = none
  d3 : H2 D = some (.dK va)
  ra : KReps K μ2 F2 va acc
def dcK (r : Res (List (Key × BV.D))) : Res BV.D := r.bind fun ks C2 => .ok (.cel C2.length) (C2 ++ [.dic ks])
theorem dc_step {t : BV.D → Rho → Option Rho} {ns : List Nat} {ft fk fv : Rho → Cells → Res BV.D} {vs : List Nat} {ρw : Rho} {σ : L2.St} {Q : VK} {μ1 μ2 : List Addr} {F1 F2 F3 H1 H2 H3 : Hp} {D : Addr} {C2 : Cells} {acc : List (Key × BV.D)} {va : List (Key × V)} {x : V} {d : BV.D} {ds : List BV.D} {N : Hp → Prop}
    (hv : ∀ i ∈ ns, i ∈ vs) (hD : H1 D = none) (L : DcInv X.K μ1 F1 H1 D C2 μ2 F2 H2 acc va) (X3 : Ext μ2 F2 H2 μ2 F3 H3) (S3 : Sim X.K μ2 F3 C2 H3) (rd : Rep X.K μ2 F3 x d) (E1 : ERel X.K μ1 F1 ρw (wipe σ vs))
    (k2 : kd (RD X.K) X.K X.mg W (dcK (dcL t ft fk fv ρw acc (d :: ds) C2)) μ1 F1 σ H1 Q)
    (hN : ∀ C' μ' F' H' acc' va', DcInv X.K μ1 F1 H1 D C' μ' F' H' acc' va' → kd (RD X.K) X.K X.mg W (dcK (dcL t ft fk fv ρw acc' ds C')) μ1 F1 σ H1 Q → N H') :
    rG X.K t ns x (wipe σ vs) H3 fun σ2 H2 => wipe σ2 vs = wipe σ vs ∧ rT X.K X.mg W0 ft σ2 H2 fun b H3 =>
      if b = true then rE X.K X.mg W0 fk σ2 H3 fun y H4 => rE X.K X.mg W0 fv σ2 H4 fun z H5 => ∃ kvs k, y = kV k ∧ H5 D = some (.dK kvs) ∧ kvs.length < sizeLine ∧ N (upd H5 D (.dK (putK kvs k z))) else N H3 := by
  obtain ⟨x2, s2, d1, d2, d3, ra⟩ := L
  have dn : ∀ {μa : List Addr} {Fa Ha : Hp}, Ext μ2 F2 H2 μa Fa Ha → D ∉ μa ∧ Fa D = none ∧ Ha D = some (.dK va) := fun {μa Fa Ha} xa => by
    refine ⟨fun z => ?_, ?_, xa.keep D _ d3 d1⟩
    · obtain ⟨τ, e, nn⟩ := xa.pre
      rw [e] at z
      rcases List.mem_append.mp z with z | z
      · exact d1 z
      · rw [nn D z] at d3
        cases d3
    · cases q : Fa D with
      | none => rfl
      | some o =>
        rcases xa.new D o q d2 with z | z
        · rw [z] at d3
          cases d3
        · exact absurd z d1
  unfold dcK dcL at k2
  split at k2
  · rename_i ρ3 e3
    refine ⟨ρw, C2, μ2, F3, d, ρ3, S3, X3.env (x2.env E1), rd, e3, fun σ4 E4 w4 => ⟨?_, ρ3, C2, μ2, F3, S3, E4, ?_⟩⟩
    · rw [w4 vs hv]
      exact wipe_wipe σ vs
    · cases hft : toB (ft ρ3 C2) with
      | stuck =>
        rw [hft] at k2
        exact k2.elim
      | ex c p C3 =>
        rw [hft] at k2
        exact k2.elim
      | ok b C3 =>
        rw [hft] at k2
        intro b' μ4 F4 H4 x4 s4 eb
        have eb' : b' = b := eb
        subst eb'
        simp only [noX, Res.bind_ok] at k2
        cases b' with
        | true =>
          refine iteT ⟨ρ3, C3, μ4, F4, s4, x4.env E4, ?_⟩
          simp only [if_true] at k2
          cases hfk : fk ρ3 C3 with
          | stuck =>
            rw [hfk] at k2
            exact k2.elim
          | ex c p C4 =>
            rw [hfk] at k2
            exact k2.elim
          | ok xk C4 =>
            rw [hfk] at k2
            simp only [noX, Res.bind_ok] at k2
            intro w5 μ5 F5 H5 x5 s5 r5
            refine ⟨ρ3, C4, μ5, F5, s5, x5.env (x4.env E4), ?_⟩
            cases hfv : fv ρ3 C4 with
            | stuck =>
              rw [hfv] at k2
              exact k2.elim
            | ex c p C5 =>
              rw [hfv] at k2
              exact k2.elim
            | ok yv C5 =>
              rw [hfv] at k2
              simp only [noX, Res.bind_ok] at k2
              intro w6 μ6 F6 H6 x6 s6 r6
              have xa := X3.trans (x4.trans (x5.trans x6))
              obtain ⟨g1, g2, g3⟩ := dn xa
              split at k2
              · rename_i kk ek
                split at k2
                · rename_i hz
                  have rk := xa
                  have ra6 : KReps X.K μ6 F6 va acc := ⟨ra.1, xa.reps ra.2⟩
                  refine ⟨va, kk, kOf_rep ek r5, g3, by rw [ra.len]; exact hz, hN C5 μ6 F6 _ (putD acc kk yv) (putK va kk w6) ⟨?_, s6.other g1 g2, g1, g2, upd_same, ra6.put r6 kk⟩ k2⟩
                  have xb := x2.trans xa
                  exact ⟨xb.pre, xb.fr, fun a z => by
                    by_cases hb : a = D
                    · subst hb; exact hD
                    · rw [upd_ne hb] at z; exact xb.thr a z, xb.new, fun a o e z => by rw [upd_ne (ne_of_none e hD)]; exact xb.keep a o e z⟩
                · exact k2.elim
              · exact k2.elim
        | false =>
          simp only [if_neg Bool.false_ne_true] at k2
          have xa := X3.trans x4
          obtain ⟨g1, g2, g3⟩ := dn xa
          exact iteF (hN C3 μ4 F4 H4 acc va ⟨x2.trans xa, s4, g1, g2, g3, ra.1, xa.reps ra.2⟩ k2)
  · exact k2.elim
theorem dc_reading {fi : Rho → Cells → Res Src} {t : BV.D → Rho → Option Rho} {ns : List Nat} {ft fk fv : Rho → Cells → Res BV.D} {vs : List Nat} (hv : ∀ i ∈ ns, i ∈ vs) (σ : L2.St) (H : Hp) (Q : VK) (h : rE X.K X.mg W (fDc vs fi t ft fk fv) σ H Q) :
    tDc (rI X.K X.mg W fi) (rG X.K t ns) (rT X.K X.mg W0 ft) (rE X.K X.mg W0 fk) (rE X.K X.mg W0 fv) vs σ H Q := by
  obtain ⟨ρ, C, μ, F, S, E, k⟩ := h
  refine ⟨ρ, C, μ, F, S, E, kd_bind k fun src C1 J μ1 F1 H1 x1 s1 r1 h1 => ?_⟩
  intro D hD
  have E1 := (x1.env E).wipe vs
  have L0 : DcInv X.K μ1 F1 H1 D C1 μ1 F1 (upd H1 D (.dK [])) [] [] := ⟨⟨⟨[], by simp, fun a z => nomatch z⟩, Same.refl _, fun a z => by
      by_cases hb : a = D
      · subst hb; exact hD
      · rw [upd_ne hb] at z; exact z, fun a o e1 e2 => (by rw [e1] at e2; cases e2), fun a o e _ => by rw [upd_ne (ne_of_none e hD)]; exact e⟩,
    s1.other (s1.notin hD) (s1.free hD), s1.notin hD, s1.free hD, upd_same, .nil⟩
  have pre : ∀ {C2 μ2 F2 H2 acc va}, DcInv X.K μ1 F1 H1 D C2 μ2 F2 H2 acc va → ∃ τ, μ2 = μ1 ++ τ := fun L => ⟨_, L.x2.pre.choose_spec.1⟩
  cases src with
  | fix ds =>
    refine ⟨fun i n H2 => n = ds.length - i ∧ i ≤ ds.length ∧ ∃ C2 μ2 F2 acc va, DcInv X.K μ1 F1 H1 D C2 μ2 F2 H2 acc va ∧ kd (RD X.K) X.K X.mg W (dcK (dcL t ft fk fv (wipeD ρ vs) acc (ds.drop i) C2)) μ1 F1 σ H1 Q,
      ⟨ds.length, by simp, Nat.zero_le _, C1, μ1, F1, [], [], L0, h1⟩, ?_⟩
    rintro i n H2 ⟨rfl, hi, C2, μ2, F2, acc, va, L, k2⟩
    by_cases hlt : i < ds.length
    · obtain ⟨hgo, hy⟩ := r1.go i μ2 F2 C2 H2 hlt (pre L) L.x2.fr L.s2
      refine .inr ⟨hgo, _, fun H' p' => ⟨ds.length - (i + 1), by omega, p'⟩, fun x H3 y => ?_⟩
      obtain ⟨F3, d, X3, S3, ed, rd⟩ := hy x H3 y
      rw [List.drop_eq_getElem_cons hlt] at k2
      have ed' : ds[i] = d := by
        rw [List.getElem?_eq_getElem hlt] at ed
        exact Option.some.inj ed
      rw [ed'] at k2
      exact dc_step hv hD L X3 S3 rd E1 k2 fun C' μ' F' H' acc' va' L' k' => ⟨rfl, hlt, C', μ', F', acc', va', L', k'⟩
    · have e : i = ds.length := by omega
      subst e
      rw [List.drop_length] at k2
      refine .inl ⟨r1.stop μ2 F2 C2 H2 (pre L) L.x2.fr L.s2, ?_⟩
      unfold dcK dcL at k2
      simp only [Res.bind_ok] at k2
      exact kd_adoptK L.s2 L.x2 hD L.d1 L.d2 L.d3 L.ra k2
  | cel kk n => exact h1.elim
theorem be_dc {kx vx tg it : Expr} {ifs : List Expr} {scope : Scope} {own : List (Str × Nat)} {pos : Pos} {fi : Rho → Cells → Res Src} {t : BV.D → Rho → Option Rho} {ns : List Nat} {ft fk fv : Rho → Cells → Res BV.D} (hc : X.calm = true) (hN : X.N.Nodup) (ok : BlkOk X.N X.env.scope scope own)
    (hv : ∀ i ∈ ns, i ∈ own.map (·.2)) (hi : BI X W tg it fi) (hg : ∀ (s : Shared) (H : Hp) (C : Addr) (cl : List (Str × Addr)) (fp : List Addr), BG (X.blk s H scope (compEnvC scope cl C X.env) fp) tg t ns)
    (ht : ∀ (s : Shared) (H : Hp) (C : Addr) (cl : List (Str × Addr)) (fp : List Addr), BTs (X.blk s H scope (compEnvC scope cl C X.env) fp) W0 ifs ft) (hk : ∀ (s : Shared) (H : Hp) (C : Addr) (cl : List (Str × Addr)) (fp : List Addr), BE (X.blk s H scope (compEnvC scope cl C X.env) fp) W0 kx fk)
    (he : ∀ (s : Shared) (H : Hp) (C : Addr) (cl : List (Str × Addr)) (fp : List Addr), BE (X.blk s H scope (compEnvC scope cl C X.env) fp) W0 vx fv)
    (hs : ∀ x, foldedSetIterable it X.env x = pure x := by intro _; rfl) : BE X W (.DictComp kx vx [⟨tg, it, ifs, 0⟩] scope pos) (fDc (own.map (·.2)) fi t ft fk fv) :=
  peI (pe_dc hc hN hi ok hg ht hk he hs) (dc_reading hv)
/-- name = {..} on one line, the name a local -/
theorem ps_setD1 {i : Nat} {y : Str} {py : Pos} {kx vx tg it : Expr} {ifs : List Expr} {scope : Scope} {own : List (Str × Nat)} {pos spos : Pos} {wi : TI} {g : TG} {tt : TT} {tk tv : TE} (hc : X.calm = true) (hN : X.N.Nodup) (hy : X.N[i]? = some y) (hyl : X.env.scope.names.lookup y = some .local)
    (hsw : swapsWith (.DictComp kx vx [⟨tg, it, ifs, 0⟩] scope pos) (some (.Name y py)) spos.line X.env = pure true) (hi : PI X tg it wi) (ok : BlkOk X.N X.env.scope scope own)
    (hg : ∀ (s : Shared) (H : Hp) (C : Addr) (cl : List (Str × Addr)) (fp : List Addr), PG (X.blk s H scope (compEnvC scope cl C X.env) fp) tg g) (ht : ∀ (s : Shared) (H : Hp) (C : Addr) (cl : List (Str × Addr)) (fp : List Addr), PTs (X.blk s H scope (compEnvC scope cl C X.env) fp) ifs tt)
    (hk : ∀ (s : Shared) (H : Hp) (C : Addr) (cl : List (Str × Addr)) (fp : List Addr), PE (X.blk s H scope (compEnvC scope cl C X.env) fp) kx tk) (he : ∀ (s : Shared) (H : Hp) (C : Addr) (cl : List (Str × Addr)) (fp : List Addr), PE (X.blk s H scope (compEnvC scope cl C X.env) fp) vx tv)
    (hs : ∀ x, foldedSetIterable it X.env x = pure x) :
    PS X (.Assign [.Name y py] (.DictComp kx vx [⟨tg, it, ifs, 0⟩] scope pos) spos) (tAsg (tDc wi g tt tk tv (own.map (·.2))) (gName i)) := by
  refine ⟨fun pn s σ H D I q => ?_⟩
  rw [exec_Assign_Name_used _ _ _ _ hsw]
  refine wpAny_bind (wpAny_standAt (wpAny_bind ?_))
  show wpAny _ X.A (do let _ ← comprehension (.DictComp kx vx [⟨tg, it, ifs, 0⟩] scope pos) scope X.env (firstIterPos [⟨tg, it, ifs, 0⟩] pos) newDict false (eval it X.env) (some (assign (.Name y py) X.env))) _ _ s
  have q1 : tDc wi g tt tk tv (own.map (·.2)) σ H (fun x H1 => gName i x σ H1 D.nx) := q
  refine wpAny_bind (thn (dc_core (Qf := fun _ s' => SP X pn D .next s') hc hN I hi ok hg ht hk he hs q1 fun L Z s' m H' I' q2 hn fo => ?_) fun _ s' z => wpAny_pure (wpAny_pure z))
  show wpAny _ _ (assign (.Name y py) X.env (.ref L)) _ _ _
  refine wpAny_assign_Name (store_ok2 (v := V.ref L) I' hN hy (.inl hyl) rfl (fun s2 I2 ⟨a, sb, ha⟩ => ?_) (.inr hyl))
  obtain ⟨c0, c1, c2, c3, c4, c5⟩ := fo
  have hne : Z ≠ a := ha.elim (fun z => by rw [z]; exact c1) fun z e => c4 y a z e.symm
  exact ⟨m, hn.sameBut sb hne, fun h3 sb3 => ⟨_, H', I2.turned (t' := s2.toks) (fun b o hb e => (sb3.2 b hb).trans e) c0 c1 c3 c4 c5, q2⟩⟩
theorem sw_dict {kx vx : Expr} {gs : List Comprehension} {scope : Scope} {pos py : Pos} {y : Str} {l : Nat} {env : Env} (hk : env.scope.kind = .function) (hy : env.scope.names.lookup y = some .local) (hl : (py.line == pos.line) = true)
    (ha : (scope.names.any fun (n, k) => n == y && (k == .local || k == .cell)) = false) : swapsWith (.DictComp kx vx gs scope pos) (some (.Name y py)) l env = pure true := by
  have k1 : env.kindOf y = some .local := hy
  have k2 : env.blockKind = .function := by unfold Env.blockKind; rw [hk]; rfl
  unfold swapsWith
  simp only [k2, k1, ha, Expr.pos, hl]
  rfl
theorem bs_setDc {i : Nat} {y : Str} {py : Pos} {kx vx tg it : Expr} {ifs : List Expr} {scope : Scope} {own : List (Str × Nat)} {pos spos : Pos} {fi : Rho → Cells → Res Src} {t : BV.D → Rho → Option Rho} {ns : List Nat} {ft fk fv : Rho → Cells → Res BV.D} (hc : X.calm = true) (hN : X.N.Nodup) (ok : BlkOk X.N X.env.scope scope own)
    (hv : ∀ i ∈ ns, i ∈ own.map (·.2)) (hy : X.N[i]? = some y) (hyl : X.env.scope.names.lookup y = some .local) (hsw : swapsWith (.DictComp kx vx [⟨tg, it, ifs, 0⟩] scope pos) (some (.Name y py)) spos.line X.env = pure true)
    (hi : BI X W tg it fi) (hg : ∀ (s : Shared) (H : Hp) (C : Addr) (cl : List (Str × Addr)) (fp : List Addr), BG (X.blk s H scope (compEnvC scope cl C X.env) fp) tg t ns)
    (ht : ∀ (s : Shared) (H : Hp) (C : Addr) (cl : List (Str × Addr)) (fp : List Addr), BTs (X.blk s H scope (compEnvC scope cl C X.env) fp) W0 ifs ft) (hk : ∀ (s : Shared) (H : Hp) (C : Addr) (cl : List (Str × Addr)) (fp : List Addr), BE (X.blk s H scope (compEnvC scope cl C X.env) fp) W0 kx fk)
    (he : ∀ (s : Shared) (H : Hp) (C : Addr) (cl : List (Str × Addr)) (fp : List Addr), BE (X.blk s H scope (compEnvC scope cl C X.env) fp) W0 vx fv)
    (hs : ∀ x, foldedSetIterable it X.env x = pure x := by intro _; rfl) : BS X W (.Assign [.Name y py] (.DictComp kx vx [⟨tg, it, ifs, 0⟩] scope pos) spos) (sSet i (fDc (own.map (·.2)) fi t ft fk fv)) := by
  refine psI (ps_setD1 (g := rG X.K t ns) (tt := rT X.K X.mg W0 ft) (tk := rE X.K X.mg W0 fk) (tv := rE X.K X.mg W0 fv) hc hN hy hyl hsw hi ok hg ht hk he hs) ?_
  rintro D σ H ⟨ρ, C, μ, F, S, E, k⟩
  exact dc_reading (X := X) (W := W) hv _ _ _ ⟨ρ, C, μ, F, S, E, sd_bind E k fun d C1 v μ1 F1 H1 x1 s1 r1 h1 => sd_nx s1 ((x1.env E).set r1) h1⟩
/-! ### x += e, whole numbers -/
def sAug (i : Nat) (o : Int → Int → Int) (f : Rho → Cells → Res BV.D) : Rho → Cells → Out := fun ρ C => match ρ[i]? with
  | some (some (.int a)) => (f ρ C).out ρ fun d C1 => match d with
    | .int b => .nx (ρ.set i (some (.int (o a b)))) C1
    | _ => .stuck
  | _ => .stuck
theorem bs_aug {i : Nat} {x : Str} {e : Expr} {op : Operator} {o : Int → Int → Int} {f : Rho → Cells → Res BV.D} {pos pos' : Pos} (hN : X.N.Nodup) (hi : X.N[i]? = some x) (hx : Loc X.env.scope x) (he : BE X W e f) (ho : PIp X op (ipI o))
    (hf : X.fn x = true ∨ X.env.scope.names.lookup x = some .local := by first | exact .inl rfl | exact .inr rfl | assumption) : BS X W (.AugAssign (.Name x pos') op e pos) (sAug i o f) := by
  refine psI (ps_aug hN hi hx he ho hf) ?_
  rintro D σ H ⟨ρ, C, μ, F, S, E, k⟩
  unfold sAug at k
  split at k
  · rename_i a ea
    obtain ⟨v, e1, r1⟩ := E.2 i _ ea
    cases r1
    refine ⟨_, e1, ρ, C, μ, F, S, E, sd_bind E k fun d C1 v1 μ1 F1 H1 x1 s1 r2 h1 => ?_⟩
    split at h1
    · cases r2
      exact ⟨a, _, rfl, rfl, sd_nx s1 ((x1.env E).set (.int _)) h1⟩
    · exact h1.elim
  · exact k.elim
end
end BV
namespace BV
open PySem PySem.Spec PyProof.Rows L2
section
variable {X : Cx} {W : WX}
/-! ### xs.index(y) -/
def idxD (x y : D) (C : Cells) : Res D := match asL x C with
  | some _ => match toPyC x C, toPyC y C with
    | some (.list ds), some d => if SeqAt.shaped (.list ds) = true ∧ SeqAt.shaped d = true then match ds.findIdx? fun z => PyData.eqv z d with
      | some j => .ok (.int (j : Nat)) C
      | none => .stuck
      else .stuck
    | _, _ => .stuck
  | none => .stuck
theorem be_idx {a b : Expr} {fa fb : Rho → Cells → Res D} {apos pos : Pos} (ha : BE X W a fa) (hb : BE X W b fb) (h : ∀ {ta tb : TE}, PE X a ta → PE X b tb → PE X (.Call (.Attribute a "index" apos) [b] [] pos) (tBM X.K "list" (rIndexD X.K) ta (tCons tb tNil))) :
    BE X W (.Call (.Attribute a "index" apos) [b] [] pos) (fMt1 idxD fa fb) := by
  refine peI (h ha hb) ?_
  rintro σ H Q ⟨ρ, C, μ, F, S, E, k⟩
  refine ⟨ρ, C, μ, F, S, E, kd_bind k fun d C1 v μ1 F1 H1 x1 s1 r1 h1 => ?_⟩
  split at h1
  · rename_i ds0 e1
    refine ⟨tyL s1 r1 e1, ρ, C1, μ1, F1, s1, x1.env E, kd_bind h1 fun d2 C2 v2 μ2 F2 H2 x2 s2 r2 h2 => ?_⟩
    unfold idxD at h2
    have r3 := x2.rep r1
    split at h2
    · rename_i ds' e2
      split at h2
      · rename_i ps p e3 e4
        split at h2
        · rename_i z
          split at h2
          · rename_i j ej
            obtain ⟨hj, hp, hno⟩ := List.findIdx?_eq_some_iff_getElem.mp ej
            have q3 := toPyC_dp s2 e3 r3
            obtain ⟨a0, vs0, ev, _, _⟩ := asL_rep s2 r3 e2
            subst ev
            exact ⟨a0, v2, p, ps, j, ps[j], rfl, rfl, q3, toPyC_dp s2 e4 r2, z.1, z.2, by simp [hj], hp, fun m z' hm hz => by
              obtain ⟨hm2, rfl⟩ := List.getElem?_eq_some_iff.mp hz
              have := hno m hm
              simpa using this, kd_ret s2 (.int _) h2⟩
          · exact h2.elim
        · exact h2.elim
      · exact h2.elim
    · exact h2.elim
  · exact h1.elim
end
/-! ### sorted(xs), whole numbers -/
def insI (x : Int) : List Int → List Int
  | [] => [x]
  | y :: ys => if x ≤ y then x :: y :: ys else y :: insI x ys
def srtI : List Int → List Int
  | [] => []
  | x :: xs => insI x (srtI xs)
theorem insI_perm (x : Int) : ∀ ys : List Int, (insI x ys).Perm (x :: ys)
  | [] => .refl _
  | y :: ys => by
    unfold insI
    split
    · exact .refl _
    · exact ((insI_perm x ys).cons y).trans (.swap x y ys)
theorem srtI_perm : ∀ xs : List Int, (srtI xs).Perm xs
  | [] => .refl _
  | x :: xs => (insI_perm x _).trans ((srtI_perm xs).cons x)
theorem insI_up (x : Int) : ∀ {ys : List Int}, ys.Pairwise (· ≤ ·) → (insI x ys).Pairwise (· ≤ ·)
  | [], _ => by simp [insI]
  | y :: ys, h => by
    obtain ⟨h1, h2⟩ := List.pairwise_cons.mp h
    unfold insI
    split
    · rename_i hxy
      refine List.pairwise_cons.mpr ⟨fun z hz => ?_, h⟩
      rcases List.mem_cons.mp hz with e | hz
      · rw [e]; exact hxy
      · exact Int.le_trans hxy (h1 z hz)
    · rename_i hxy
      refine List.pairwise_cons.mpr ⟨fun z hz => ?_, insI_up x h2⟩
      rcases List.mem_cons.mp ((insI_perm x ys).mem_iff.mp hz) with e | hz
      · rw [e]; omega
      · exact h1 z hz
theorem srtI_up : ∀ xs : List Int, (srtI xs).Pairwise (· ≤ ·)
  | [] => .nil
  | x :: xs => insI_up x (srtI_up xs)
theorem up_one : ∀ {xs ys : List Int}, xs.Perm ys → xs.Pairwise (· ≤ ·) → ys.Pairwise (· ≤ ·) → xs = ys
  | [], ys, p, _, _ => (List.nil_perm.mp p).symm
  | x :: xs, [], p, _, _ => by have := p.length_eq; simp at this
  | x :: xs, y :: ys, p, h1, h2 => by
    obtain ⟨a1, a2⟩ := List.pairwise_cons.mp h1
    obtain ⟨b1, b2⟩ := List.pairwise_cons.mp h2
    have e : x = y := by
      have m1 : x ∈ y :: ys := p.mem_iff.mp (List.mem_cons_self ..)
      have m2 : y ∈ x :: xs := p.mem_iff.mpr (List.mem_cons_self ..)
      rcases List.mem_cons.mp m1 with e | m1
      · exact e
      · rcases List.mem_cons.mp m2 with e | m2
        · exact e.symm
        · have q1 := b1 x m1
          have q2 := a1 y m2
          omega
    subst e
    rw [up_one (List.Perm.cons_inv p) a2 b2]
def intsD : List D → Option (List Int)
  | [] => some []
  | .int i :: ds => (intsD ds).map (i :: ·)
  | _ :: _ => none
theorem intsD_map : ∀ {ds : List D} {ns : List Int}, intsD ds = some ns → ds = ns.map D.int
  | [], ns, h => by cases h; rfl
  | .int i :: ds, ns, h => by
    unfold intsD at h
    cases e : intsD ds with
    | none => rw [e] at h; cases h
    | some ms =>
      rw [e] at h
      cases h
      rw [intsD_map e]
      rfl
  | .non :: _, _, h => by cases h
  | .bl _ :: _, _, h => by cases h
  | .str _ :: _, _, h => by cases h
  | .tup _ :: _, _, h => by cases h
  | .ftp _ :: _, _, h => by cases h
  | .lst _ :: _, _, h => by cases h
  | .cel _ :: _, _, h => by cases h
  | .scr _ :: _, _, h => by cases h
@[simp] theorem intsD_of : ∀ ns : List Int, intsD (ns.map D.int) = some ns
  | [] => rfl
  | n :: ns => by simp [intsD, intsD_of ns]
section
variable {X : Cx} {W : WX}
def oSrt (m : Bool) (xs : List D) (C : Cells) : Res D := match xs with
  | [x] => match asL x C with
    | some ds => match intsD ds with
      | some ns => mkL m ((srtI ns).map D.int) C
      | none => .stuck
    | none => .stuck
  | _ => .stuck
theorem cb_srt (m : Bool) : CallB X W (.builtin "sorted") (oSrt m) := by
  refine ⟨_, cr_sortedI, fun xs C vs μ F H σ Q S r k => ?_⟩
  unfold oSrt at k
  split at k
  · obtain ⟨v, rfl, r1⟩ := reps1 r
    split at k
    · rename_i ds e
      obtain ⟨a, vs, rfl, g, rs⟩ := asL_rep S r1 e
      split at k
      · rename_i ns en
        have ed := intsD_map en
        subst ed
        have ev := Reps.of_ints rs
        subst ev
        refine ⟨a, ns, rfl, SqL.of g, fun ns' p hp hup hnew => ?_⟩
        have e2 : ns' = srtI ns := up_one (hp.trans (srtI_perm ns).symm) hup (srtI_up ns)
        subst e2
        exact kd_mkL S hnew (Reps.ints _) k
      · exact k.elim
    · exact k.elim
  · exact k.elim
/-! ### x[i], y[j] = e -/
def sSto2 (f fo fi go gi : Rho → Cells → Res D) : Rho → Cells → Out := fun ρ C => (f ρ C).out ρ fun v C1 => match v with
  | .tup [v1, v2] => (fo ρ C1).out ρ fun x C2 => (fi ρ C2).out ρ fun i C3 => match stoD x i v1 C3 with
    | some C4 => (go ρ C4).out ρ fun y C5 => (gi ρ C5).out ρ fun j C6 => match stoD y j v2 C6 with
      | some C7 => .nx ρ C7
      | none => .stuck
    | none => .stuck
  | _ => .stuck
def SubA (X : Cx) (o i : Expr) (p : Pos) : Prop := ∀ v, assign (.Subscript o i p) X.env v = (do
  let ov ← holding [v] (eval o X.env)
  let iv ← holding [v, ov] (eval i X.env)
  standAt p
  holding [v, ov, iv] (setItem ov iv v)
  release [v, ov, iv] [])
theorem bs_sto2 {e o i o2 i2 : Expr} {p1 p2 p3 pos : Pos} {kk : Nat} {f fo fi go gi : Rho → Cells → Res D} (hc : X.calm = true) (he : BE X W e f) (ho : BE X W o fo) (hi : BE X W i fi) (ho2 : BE X W o2 go) (hi2 : BE X W i2 gi)
    (a1 : SubA X o i p1 := by intro _; rfl) (a2 : SubA X o2 i2 p2 := by intro _; rfl)
    (hs : swapsWithSole [.Tuple [.Subscript o i p1, .Subscript o2 i2 p2] kk p3] e pos.line X.env = pure false := by rfl) (hw : swappedStores [.Tuple [.Subscript o i p1, .Subscript o2 i2 p2] kk p3] e X.env = pure none := by rfl)
    (h1 : (assignEach [.Tuple [.Subscript o i p1, .Subscript o2 i2 p2] kk p3] X.env).map (·.2) = [assign (.Tuple [.Subscript o i p1, .Subscript o2 i2 p2] kk p3) X.env] := by rfl) :
    BS X W (.Assign [.Tuple [.Subscript o i p1, .Subscript o2 i2 p2] kk p3] e pos) (sSto2 f fo fi go gi) := by
  refine psI (ps_asg he (pg_tup hc (pgs_cons (pg_sub ho hi set_list a1) (pgs_cons (pg_sub ho2 hi2 set_list a2) pgs_nil))) hs hw h1) ?_
  rintro D σ H ⟨ρ, C, μ, F, S, E, k⟩
  refine ⟨ρ, C, μ, F, S, E, sd_bind E k fun d C1 v μ1 F1 H1 x1 s1 r1 h1 => ?_⟩
  split at h1
  · rename_i v1 v2
    cases r1 with
    | tup q rs =>
      rename_i a vs
      cases rs with
      | cons ra rs =>
        cases rs with
        | cons rb rs =>
          cases rs
          refine ⟨a, _, rfl, sameT s1.sub q, rfl, _, _, rfl, ρ, C1, μ1, F1, s1, x1.env E, sd_bind (x1.env E) h1 fun d2 C2 w2 μ2 F2 H2 x2 s2 r2 h2 => ?_⟩
          refine ⟨ρ, C2, μ2, F2, s2, x2.env (x1.env E), sd_bind (x2.env (x1.env E)) h2 fun d3 C3 w3 μ3 F3 H3 x3 s3 r3 h3 => ?_⟩
          split at h3
          · rename_i C4 e4
            obtain ⟨p, xs, k', j, q1, q2, q3, q4, S4, X4⟩ := sto_rep s3 (x3.rep r2) r3 (x3.rep (x2.rep ra)) e4
            refine ⟨p, xs, k', j, q1, q2, q3, q4, _, _, rfl, ρ, C4, μ3, F3, S4, X4.env (x3.env (x2.env (x1.env E))), ?_⟩
            refine sd_bind (X4.env (x3.env (x2.env (x1.env E)))) (sd_mono X4 h3) fun d5 C5 w5 μ5 F5 H5 x5 s5 r5 h5 => ?_
            refine ⟨ρ, C5, μ5, F5, s5, x5.env (X4.env (x3.env (x2.env (x1.env E)))), sd_bind (x5.env (X4.env (x3.env (x2.env (x1.env E))))) h5 fun d6 C6 w6 μ6 F6 H6 x6 s6 r6 h6 => ?_⟩
            split at h6
            · rename_i C7 e7
              obtain ⟨p', xs', k2, j2, z1, z2, z3, z4, S7, X7⟩ := sto_rep s6 (x6.rep r5) r6 (x6.rep (x5.rep (X4.rep (x3.rep (x2.rep rb))))) e7
              refine ⟨p', xs', k2, j2, z1, z2, z3, z4, rfl, ?_⟩
              exact h6 σ μ6 F6 _ X7 S7 (X7.env (x6.env (x5.env (X4.env (x3.env (x2.env (x1.env E)))))))
            · exact h6.elim
          · exact h3.elim
  · exact h1.elim
end
end BV
namespace BV
open PySem PySem.Spec PyProof.Rows L2
/-! ### sorted(t), a tuple of pairs of whole numbers -/
section
variable {prog : Program} {w : World} {A : Around} {E : Value → Shared → Prop} {s : Shared}
theorem collT {l : Addr} {us : List Value} {Q : List Value → Shared → Prop} (ht : IsTup s.heap l us.toArray) (hz : us.length ≤ sizeLine)
    (h : Q us { s with heap := (s.heap.push (seqObj "list" #[] 0)).update s.heap.objs.size (Obj.mapSeq (· ++ us.toArray)) }) : wpAny (model prog w) A (collect (.ref l)) Q E s := by
  obtain ⟨o, g, gc, n, gd⟩ := ht
  unfold collect
  refine wpAny_bind (wpAny_runValue ?_)
  refine codeAny_builtin entry_proto_collect' ?_
  show wpAny _ _ (do again (.builtin "list.__iadd__" ⟨[← newList [], .ref l], []⟩)) _ _ s
  refine wpAny_bind (wpAny_newList ?_)
  refine wpAny_pure ⟨Code.quiet_builtin _ (by decide +kernel), ?_⟩
  refine codeAny_builtin entry_list_iadd' ?_
  show wpAny _ _ (Builtin.List.listExtendWith (.ref s.heap.objs.size) (.ref l) (.ref s.heap.objs.size)) _ _ { s with heap := s.heap.push (seqObj "list" #[] 0) }
  unfold Builtin.List.listExtendWith
  have g' : (s.heap.push (seqObj "list" #[] 0)).get? l = some o := Heap.get?_push_of_some _ g
  refine wpAny_bind (wpAny_typeOf (T := "tuple") ⟨o, g', gc⟩ ?_)
  have e1 : (Value.type "tuple" == Value.type "tuple") = true := by rfl
  rw [if_pos (by rw [e1]; simp)]
  refine wpAny_bind (listItems_at g' gd ?_)
  refine wpAny_bind (listItems_at (xs := #[]) (n := 0) (Heap.get?_push_size _ rfl) rfl ?_)
  rw [if_neg (by simp)]
  have hz2 : (#[] ++ us.toArray : Array Value).size ≤ sizeLine + 1 := by simp only [Array.size_append, List.size_toArray, List.length_nil]; omega
  refine wpAny_bind (listUpdate_at (xs := #[]) (n := 0) (Heap.get?_push_size _ rfl) rfl ?_ (Nat.zero_le _) hz2)
  refine wpAny_pure ?_
  show wpAny (model prog w) A (do
      let z ← load s.heap.objs.size
      match z.data with
      | .seq xs _ => pure xs.toList
      | _ => unsupported "internal:collect") Q E { s with heap := (s.heap.push (seqObj "list" #[] 0)).update s.heap.objs.size (Obj.mapSeq (· ++ us.toArray)) }
  refine wpAny_bind (wpAny_load (get?_update_seq (Heap.get?_push_size _ rfl) _) ?_)
  show wpAny _ _ (pure ((#[] : Array Value) ++ us.toArray).toList) Q E _
  have e2 : ((#[] : Array Value) ++ us.toArray).toList = us := by simp
  rw [e2]
  exact wpAny_pure h
theorem sortT {l : Addr} {us : List Value} {k : Value → Int × Int} {Q : Value → Shared → Prop} (ht : IsTup s.heap l us.toArray) (hz : us.length ≤ sizeLine) (hp : ∀ v ∈ us, Srt.IsPair s.heap v (k v).1 (k v).2)
    (h : ∀ (h' : Heap) (d : Addr) (out : List Value), SrtO.Srtd (fun v u => SrtO.lexB (k v) (k u)) out → out.Perm us → (∀ b o, s.heap.get? b = some o → h'.get? b = some o) → s.heap.objs.size ≤ d → (∃ n, h'.get? d = some (seqObj "list" out.toArray n)) → Q (.ref d) { s with heap := h' }) :
    wpAny (model prog w) A (call (.builtin "sorted") [.ref l]) Q E s := by
  apply Calls.call_function_entry kind_sorted plain_sorted entry_sorted (args_sorted1 _)
  unfold Builtin.«sorted»
  refine wpAny_bind (m := checkCount "sorted" 1 1 _) ?_
  refine wpAny_pure (wpAny_bind (collT ht hz ?_))
  refine wpAny_bind (wpAny_newList ?_ hz)
  have z1 : ((s.heap.push (seqObj "list" #[] 0)).update s.heap.objs.size (Obj.mapSeq (· ++ us.toArray))).objs.size = s.heap.objs.size + 1 := by rw [Heap.size_update, size_push']
  have z2 : (((s.heap.push (seqObj "list" #[] 0)).update s.heap.objs.size (Obj.mapSeq (· ++ us.toArray))).push (seqObj "list" us.toArray 0)).get? (s.heap.objs.size + 1) = some (seqObj "list" us.toArray 0) := by rw [← z1]; exact Heap.get?_push_size _ rfl
  have z3 : ∀ b o, s.heap.get? b = some o → b ≠ s.heap.objs.size + 1 ∧ (((s.heap.push (seqObj "list" #[] 0)).update s.heap.objs.size (Obj.mapSeq (· ++ us.toArray))).push (seqObj "list" us.toArray 0)).get? b = some o := fun b o q => by
    have y1 : b < s.heap.objs.size := Heap.lt_size q
    have y2 : b ≠ s.heap.objs.size := Nat.ne_of_lt y1
    refine ⟨Nat.ne_of_lt (Nat.lt_succ_of_lt y1), Heap.get?_push_of_some _ ?_⟩
    rw [Heap.get?_update_ne _ _ _ _ y2]
    exact Heap.get?_push_of_some _ q
  show wpAny _ _ _ _ _ { s with heap := ((s.heap.push (seqObj "list" #[] 0)).update s.heap.objs.size (Obj.mapSeq (· ++ us.toArray))).push (seqObj "list" us.toArray 0) }
  rw [z1]
  refine wpAny_bind (wpAny_holding (wpAny_call_entry slot_list_sort ⟨_, z2, rfl⟩ entry_list_sort (SrtO.list_sort_ord (SrtO.swo_lex k) z2 hz (fun h2 => ?_) fun out hs hb => ⟨_, rfl, ?_⟩) (args_list_sort _)))
  · refine SrtO.pairs_sortableO (by omega) (fun v hm => (hp v hm).keeps fun b o e _ => (z3 b o e).2) fun o e => ?_
    have e' : some o = some (seqObj "list" us.toArray 0) := e.symm.trans z2
    cases e'
    intro c
    exact absurd (Value.type.inj c) (by decide)
  · exact wpAny_pure ⟨_, rfl, h _ _ out hs hb.perm (fun b o e => sortedAll_old e) (Nat.le_succ _) (sortedAll_at s.heap us out.toArray)⟩
end
section
variable {X : Cx} {W : WX}
def PairAt (K : PySem.W.Frag) (H : Hp) (x : V) (z : Int × Int) : Prop := ∃ t, x = V.ref t ∧ SqT K H t [.int z.1, .int z.2]
def rSrtT (K : PySem.W.Frag) : List V → Hp → VK → Prop := fun vs H Q => ∃ (a : Addr) (xs : List V) (zs : List (Int × Int)), vs = [V.ref a] ∧ SqT K H a xs ∧ xs.length = zs.length ∧ (∀ p ∈ xs.zip zs, PairAt K H p.1 p.2) ∧
  ∀ (l : List (V × (Int × Int))) (p : Addr), l.Perm (xs.zip zs) → (l.map (·.2)).Pairwise (fun a b => SrtO.lexB b a = false) → H p = none → Q (.ref p) (upd H p (.lst (l.map (·.1))))
theorem zip_map {α β : Type} {f : α → β} : ∀ {xs : List α} {zs : List β}, xs.length = zs.length → (∀ p ∈ xs.zip zs, p.2 = f p.1) → zs = xs.map f
  | [], [], _, _ => rfl
  | [], z :: zs, h, _ => by simp at h
  | x :: xs, [], h, _ => by simp at h
  | x :: xs, z :: zs, h, q => by
    have h1 := q (x, z) (by simp)
    simp only at h1
    rw [List.map_cons, ← h1, ← zip_map (by simpa using h) fun p hp => q p (by simp [hp])]
theorem zip_self {α β : Type} (f : α → β) : ∀ xs : List α, xs.zip (xs.map f) = xs.map fun x => (x, f x)
  | [] => rfl
  | x :: xs => by simp [zip_self f xs]
theorem cr_srtT : CallR X (.builtin "sorted") (rSrtT X.K) := by
  intro pins s σ H vs us Q I r h
  obtain ⟨a, xs, zs, rfl, hs, hlen, hx, q⟩ := h
  obtain ⟨its, rv, ht, hz⟩ := I.tuple hs
  obtain ⟨u, rfl, ru⟩ := vals1 r
  obtain rfl : u = Value.ref a := ru
  have mem : ∀ x ∈ xs, ∃ z, PairAt X.K H x z := fun x m => by
    obtain ⟨j, hj, e⟩ := List.mem_iff_getElem.mp m
    have hj2 : j < zs.length := by omega
    exact ⟨zs[j], hx (x, zs[j]) (by rw [← e]; exact List.mem_iff_getElem.mpr ⟨j, by simp; omega, by simp⟩)⟩
  obtain ⟨e1, e2⟩ := refs_back rv fun x m => by
    obtain ⟨z, t, e, _⟩ := mem x m
    exact ⟨t, e⟩
  classical
  let kv : V → Int × Int := fun x => if h : ∃ z, PairAt X.K H x z then h.choose else (0, 0)
  have kvs : ∀ {x z}, PairAt X.K H x z → kv x = z := fun {x z} hp => by
    have hh : ∃ z, PairAt X.K H x z := ⟨z, hp⟩
    have h1 : kv x = hh.choose := dif_pos hh
    obtain ⟨t, et, ht⟩ := hp
    obtain ⟨t', et', ht'⟩ := hh.choose_spec
    rw [et] at et'
    cases et'
    have := I.tuple_inj ht' ht
    simp only [List.cons.injEq, V.int.injEq, and_true] at this
    rw [h1]
    exact Prod.ext this.1 this.2
  have ez : zs = xs.map kv := zip_map hlen fun p hp => (kvs (hx p hp)).symm
  refine sortT (k := fun u => kv (backV u)) ht (by rw [← rv.length]; exact hz) (fun v hv => ?_) fun h' d out h1 h2 kp hd hn => ?_
  · obtain ⟨t, rfl⟩ := e2 v hv
    have hm : V.ref t ∈ xs := by rw [e1]; exact List.mem_map.mpr ⟨_, hv, rfl⟩
    obtain ⟨z, hp⟩ := mem _ hm
    have hk : kv (backV (.ref t)) = z := kvs hp
    rw [hk]
    obtain ⟨t', e, hq⟩ := hp
    cases e
    obtain ⟨its2, r2, ⟨o, ho, hc, n, hdd⟩, _⟩ := I.tuple hq
    obtain ⟨u1, u2, rfl, ri, rj⟩ := vals2 r2
    obtain ⟨t1, rfl⟩ := ri
    obtain ⟨t2, rfl⟩ := rj
    exact ⟨t, o, t1, t2, n, rfl, ho, hc, hdd⟩
  · have h3 : ∀ u ∈ out, ∃ a, u = Value.ref a := fun u hu => e2 u (h2.mem_iff.mp hu)
    obtain ⟨n, hn⟩ := hn
    have hq := q ((out.map backV).map fun x => (x, kv x)) d (by
      rw [ez, zip_self, e1]
      exact (h2.map backV).map _) (by
      rw [List.map_map, List.map_map]
      exact List.pairwise_map.mpr h1) (I.hok.fresh hd)
    have em : ((out.map backV).map fun x => (x, kv x)).map (·.1) = out.map backV := by
      rw [List.map_map]
      exact (List.map_congr_left fun _ _ => rfl).trans (List.map_id _)
    rw [em] at hq
    refine ⟨.ref d, upd H d (.lst (out.map backV)), I.laid (t' := s.toks) kp hd ⟨?_, out, n, vals_back h3, hn⟩, rfl, hq⟩
    rw [List.length_map, h2.length_eq, ← rv.length]
    exact hz
/-! pairs sorted by insertion -/
def insP (x : Int × Int) : List (Int × Int) → List (Int × Int)
  | [] => [x]
  | y :: ys => if SrtO.lexB y x = false then x :: y :: ys else y :: insP x ys
def srtP : List (Int × Int) → List (Int × Int)
  | [] => []
  | x :: xs => insP x (srtP xs)
theorem insP_perm (x : Int × Int) : ∀ ys, (insP x ys).Perm (x :: ys)
  | [] => .refl _
  | y :: ys => by
    unfold insP
    split
    · exact .refl _
    · exact ((insP_perm x ys).cons y).trans (.swap x y ys)
theorem srtP_perm : ∀ xs, (srtP xs).Perm xs
  | [] => .refl _
  | x :: xs => (insP_perm x _).trans ((srtP_perm xs).cons x)
def leP (a b : Int × Int) : Prop := a.1 < b.1 ∨ (a.1 = b.1 ∧ a.2 ≤ b.2)
theorem leP_iff {a b : Int × Int} : SrtO.lexB b a = false ↔ leP a b := by
  rw [SrtO.lexB_no]
  unfold leP
  omega
theorem insP_up (x : Int × Int) : ∀ {ys : List (Int × Int)}, ys.Pairwise leP → (insP x ys).Pairwise leP
  | [], _ => by simp [insP]
  | y :: ys, h => by
    obtain ⟨h1, h2⟩ := List.pairwise_cons.mp h
    unfold insP
    split
    · rename_i hxy
      have hxy := leP_iff.mp hxy
      refine List.pairwise_cons.mpr ⟨fun z hz => ?_, h⟩
      rcases List.mem_cons.mp hz with e | hz
      · rw [e]; exact hxy
      · have := h1 z hz
        unfold leP at *
        omega
    · rename_i hxy
      have hyx : leP y x := by
        have : ¬ leP x y := fun z => hxy (leP_iff.mpr z)
        unfold leP at *
        omega
      refine List.pairwise_cons.mpr ⟨fun z hz => ?_, insP_up x h2⟩
      rcases List.mem_cons.mp ((insP_perm x ys).mem_iff.mp hz) with e | hz
      · rw [e]; exact hyx
      · exact h1 z hz
theorem srtP_up : ∀ xs : List (Int × Int), (srtP xs).Pairwise leP
  | [] => .nil
  | x :: xs => insP_up x (srtP_up xs)
theorem upP_one : ∀ {xs ys : List (Int × Int)}, xs.Perm ys → xs.Pairwise leP → ys.Pairwise leP → xs = ys
  | [], ys, p, _, _ => (List.nil_perm.mp p).symm
  | x :: xs, [], p, _, _ => by have := p.length_eq; simp at this
  | x :: xs, y :: ys, p, h1, h2 => by
    obtain ⟨a1, a2⟩ := List.pairwise_cons.mp h1
    obtain ⟨b1, b2⟩ := List.pairwise_cons.mp h2
    have e : x = y := by
      have m1 : x ∈ y :: ys := p.mem_iff.mp (List.mem_cons_self ..)
      have m2 : y ∈ x :: xs := p.mem_iff.mpr (List.mem_cons_self ..)
      rcases List.mem_cons.mp m1 with e | m1
      · exact e
      · rcases List.mem_cons.mp m2 with e | m2
        · exact e.symm
        · have q1 := b1 x m1
          have q2 := a1 y m2
          unfold leP at q1 q2
          exact Prod.ext (by omega) (by omega)
    subst e
    rw [upP_one (List.Perm.cons_inv p) a2 b2]
def pairsD : List D → Option (List (Int × Int))
  | [] => some []
  | .tup [.int a, .int b] :: ds => (pairsD ds).map ((a, b) :: ·)
  | _ :: _ => none
def pD (z : Int × Int) : D := .tup [.int z.1, .int z.2]
theorem pairsD_map : ∀ {ds : List D} {zs : List (Int × Int)}, pairsD ds = some zs → ds = zs.map pD := by
  intro ds
  induction ds with
  | nil => intro zs h; cases h; rfl
  | cons d ds ih =>
    intro zs h
    unfold pairsD at h
    split at h
    · rename_i e0
      cases e0
    · rename_i e0
      cases e0
      cases e : pairsD ds with
      | none => rw [e] at h; cases h
      | some ms =>
        rw [e] at h
        cases h
        rw [ih e]
        rfl
    · cases h
/-- sorted(x): a list of numbers, or a tuple of pairs -/
def oSrt2 (m : Bool) (xs : List D) (C : Cells) : Res D := match xs with
  | [.tup ds] => match pairsD ds with
    | some zs => mkL m ((srtP zs).map pD) C
    | none => .stuck
  | _ => oSrt m xs C
theorem reps_len {K : PySem.W.Frag} {μ : List Addr} {F : Hp} {vs : List V} {ds : List D} (r : Reps K μ F vs ds) : vs.length = ds.length := r.length
theorem reps_pair {K : PySem.W.Frag} {μ : List Addr} {F : Hp} : ∀ {vs : List V} {zs : List (Int × Int)}, Reps K μ F vs (zs.map pD) → ∀ p ∈ vs.zip zs, Rep K μ F p.1 (pD p.2)
  | [], zs, _, p, hp => by simp at hp
  | v :: vs, [], _, p, hp => by simp at hp
  | v :: vs, z :: zs, r, p, hp => by
    cases r with
    | cons a b =>
      simp only [List.zip_cons_cons, List.mem_cons] at hp
      rcases hp with e | hp
      · rw [e]; exact a
      · exact reps_pair b p hp
theorem reps_of_zip {K : PySem.W.Frag} {μ : List Addr} {F : Hp} : ∀ {l : List (V × (Int × Int))}, (∀ p ∈ l, Rep K μ F p.1 (pD p.2)) → Reps K μ F (l.map (·.1)) ((l.map (·.2)).map pD)
  | [], _ => .nil
  | p :: l, h => .cons (h p (by simp)) (reps_of_zip fun q hq => h q (List.mem_cons_of_mem _ hq))
theorem cb_srt2 (m : Bool) : CallB X W (.builtin "sorted") (oSrt2 m) := by
  obtain ⟨r, hr, hk⟩ := cb_srt (X := X) (W := W) m
  refine ⟨fun xs H Q => rSrtT X.K xs H Q ∨ r xs H Q, ?_, fun xs C vs μ F H σ Q S rs k => ?_⟩
  · intro pins s σ H xs us Q I rv h
    rcases h with h | h
    · exact cr_srtT pins s σ H xs us Q I rv h
    · exact hr pins s σ H xs us Q I rv h
  · unfold oSrt2 at k
    split at k
    · rename_i ds
      obtain ⟨v, rfl, r1⟩ := reps1 rs
      split at k
      · rename_i zs ez
        have ed := pairsD_map ez
        subst ed
        cases r1 with
        | tup q rr =>
          rename_i a ws
          have hp := reps_pair rr
          refine .inl ⟨a, ws, zs, rfl, sameT S.sub q, by rw [rr.length, List.length_map], fun p m => ?_, fun l p hperm hup hnew => ?_⟩
          · have h1 := hp p m
            unfold pD at h1
            obtain ⟨v0, z1, z2⟩ := p
            cases h1 with
            | tup b bs =>
              cases bs with
              | cons b1 bs =>
                cases bs with
                | cons b2 bs =>
                  cases bs
                  cases b1
                  cases b2
                  exact ⟨_, rfl, sameT S.sub b⟩
          · have e2 : l.map (·.2) = srtP zs := by
              have h1 : (l.map (·.2)).Perm zs := by
                have := hperm.map (·.2)
                rwa [show (ws.zip zs).map (·.2) = zs from List.map_snd_zip (by rw [rr.length, List.length_map]; exact Nat.le_refl _)] at this
              refine upP_one (h1.trans (srtP_perm zs).symm) (hup.imp fun h => leP_iff.mp h) (srtP_up zs)
            rw [← e2] at k
            exact kd_mkL S hnew (reps_of_zip fun q hq => hp q (hperm.mem_iff.mp hq)) k
      · exact k.elim
    · exact .inr (hk _ C vs μ F H σ Q S rs k)
/-! ### xs[::0 - 1] -/
theorem pe_revB {e st : Expr} {te : TE} {p3 pos : Pos} (he : PE X e te) (hst : ∀ (σ : L2.St) (H : Hp), ∃ t : TO, PO X (some st) t ∧ t σ H fun o H4 => o = some (-1) ∧ H4 = H) (hpl : ∃ g : Value → Value → List Value, ∀ u v : Value, subscripted (.Slice none none (some st) p3) false u v = operate (g u v) (getItem u v)) :
    PE X (.Subscript e (.Slice none none (some st) p3) pos) (tRevL X.K te) := by
  refine ⟨fun pn s σ H Q I q0 => ?_⟩
  refine Subscript_ (thn (he.run pn s σ H _ I q0) fun v s1 ⟨x, H1, I1, r1, q1⟩ => ?_)
  obtain ⟨a, xs, ex, hx, q⟩ := q1
  subst ex
  cases r1
  refine wpAny_Slice (thn (po_none.run pn s1 σ H1 (fun o H2 => o = none ∧ H2 = H1) I1 ⟨rfl, rfl⟩) fun v1 s2 ⟨l1, H2, I2, g1, y1, y2⟩ => ?_)
  subst y1 y2
  refine thn (po_none.run pn s2 σ H2 (fun o H3 => o = none ∧ H3 = H2) I2 ⟨rfl, rfl⟩) fun v2 s3 ⟨l2, H3, I3, g2, y3, y4⟩ => ?_
  subst y3 y4
  obtain ⟨t, ht, ht2⟩ := hst σ H3
  refine thn (ht.run pn s3 σ H3 _ I3 ht2) fun v3 s4 ⟨l3, H4, I4, g3, y5, y6⟩ => ?_
  subst y5 y6
  have I5 : Inv X pn σ H4 { s4 with heap := s4.heap.push { cls := .type "slice", data := .fields #[v1, v2, v3] } } := I4.kept (t' := s4.toks) fun b ob z => Heap.get?_push_of_some _ z
  obtain ⟨its, r, hl, hz⟩ := I5.list hx
  show wpAny (model X.prog X.w) X.A (subscriptTail e (.Slice none none (some st) p3) (.ref a) (.ref s4.heap.objs.size)) (EP X pn σ Q) X.xe { s4 with heap := s4.heap.push { cls := .type "slice", data := .fields #[v1, v2, v3] } }
  obtain ⟨gg, hgg⟩ := hpl
  have z1 : its.toArray.size ≤ sizeLine := by rw [List.size_toArray, ← r.length]; exact hz
  refine tail_any hl.isList.typeIs (PySem.slot_list_getitem.lookup) ?_ (hgg _ _)
  refine wpAny_getItem_list_slice hl.isList (Heap.IsSliceOf.new _ v1 v2 v3) g1 g2 g3 (by decide) ?_ (by have := r.length; rw [List.size_toArray]; omega)
  rw [PySem.W.krv_pick]
  refine ⟨.ref _, _, I5.laid (t' := s4.toks) (o := .lst xs.reverse) (fun b ob z => Heap.get?_push_of_some _ z) (Nat.le_refl _) ?_, rfl, q _ (I5.hok.fresh (Nat.le_refl _))⟩
  exact ⟨by rw [List.length_reverse]; exact hz, _, 0, r.reverse, Heap.get?_push_size _ rfl⟩
def fRev (m : Bool) (f : Rho → Cells → Res D) : Rho → Cells → Res D := fun ρ C => (f ρ C).bind fun x C1 => match asL x C1 with
  | some ds => mkL m ds.reverse C1
  | none => .stuck
theorem Reps.reverse {K : PySem.W.Frag} {μ : List Addr} {F : Hp} : ∀ {vs : List V} {ds : List D}, Reps K μ F vs ds → Reps K μ F vs.reverse ds.reverse
  | _, _, .nil => .nil
  | _, _, .cons a b => by
    rw [List.reverse_cons, List.reverse_cons]
    exact (Reps.reverse b).append (.cons a .nil)
/-- xs[::0 - 1] -/
theorem be_rev (m : Bool) {e : Expr} {f : Rho → Cells → Res D} {j k : Nat} {p1 p2 p3 p4 pos : Pos} (he : BE X W e f) : BE X W (.Subscript e (.Slice none none (some (.BinOp (.Constant (.int 0) j p1) .Sub (.Constant (.int 1) k p2) p4)) p3) pos) (fRev m f) := by
  refine peI (pe_revB he (fun σ H => ⟨_, po_some (pe_op op_sub pe_int pe_int), ?_⟩) ⟨fun u v => [u, v], fun u v => by with_unfolding_all rfl⟩) ?_
  · exact ⟨0, 1, rfl, rfl, -1, rfl, rfl, rfl⟩
  · rintro σ H Q ⟨ρ, C, μ, F, S, E, k0⟩
    refine ⟨ρ, C, μ, F, S, E, kd_bind k0 fun d C1 v μ1 F1 H1 x1 s1 r1 h1 => ?_⟩
    split at h1
    · rename_i ds e1
      obtain ⟨a, vs, rfl, g, rs⟩ := asL_rep s1 r1 e1
      exact ⟨a, vs, rfl, SqL.of g, fun p hp => kd_mkL s1 hp (Reps.reverse rs) h1⟩
    · exact h1.elim
end
end BV
namespace BV
open PySem PySem.Spec PyProof.Rows L2
theorem bb_sorted : bootBuiltins "sorted" = some (.builtin "sorted") := by decide +kernel
section
variable {X : Cx} {W : WX}
/-! ### t.index(y) -/
def rTIdx (K : PySem.W.Frag) : V → List V → Hp → VK → Prop := fun x xs H Q => ∃ (a : Addr) (y : V) (d : PyData) (ds : List PyData) (j : Nat) (z : PyData), x = V.ref a ∧ xs = [y] ∧ Dp K H (V.ref a) (.tuple ds) ∧ Dp K H y d ∧
  SeqAt.shaped (.tuple ds) = true ∧ SeqAt.shaped d = true ∧ ds[j]? = some z ∧ PyData.eqv z d = true ∧ (∀ (m : Nat) (z' : PyData), m < j → ds[m]? = some z' → PyData.eqv z' d = false) ∧ Q (.int (j : Nat)) H
theorem mt_tidx (hu : X.A.units + 65 < cLine) : MtR X "tuple.index" (rTIdx X.K) := by
  intro pn s σ H x xs v us Q I rx rxs h
  obtain ⟨a, y, d, ds, j, z, rfl, rfl, hl, hy, g1, g2, hz, hzj, hno, q⟩ := h
  cases rx
  obtain ⟨uy, rfl, ry⟩ := vals1 rxs
  obtain ⟨bs, r1⟩ := Dp.reads I d y uy hy ry
  have c1 : PyData.canLayAll0 ds = true := SeqAt.canLay_of_shaped g1
  have c2 : X.A.units + 1 + min (PyData.depthAll ds) d.depth < cLine := room_in_shaped g2 hu
  cases hl with
  | tup hs ha =>
    obtain ⟨its, rv, ⟨⟨cls, dd, data, sls⟩, ho, hc, n, hdt⟩, hlen⟩ := I.tuple hs
    simp only at hc hdt
    subst hc hdt
    obtain ⟨as, h4⟩ := Dp.readsAll I ds _ its ha rv
    have n1 : its.length = ds.length := SeqAt.ReadsAll.length ds its as h4
    have n2 : its.map (SeqAt.readOf s.heap) = ds := SeqAt.readsAll_map ds its as c1 h4
    have n3 : j < its.length := by have := (List.getElem?_eq_some_iff.mp hz).1; omega
    have at_ : ∀ (m : Nat) (hm : m < its.toArray.size) (z' : PyData), ds[m]? = some z' → SeqAt.readOf s.heap its.toArray[m] = z' := by
      intro m hm z' hz'
      have k1 : m < its.length := by simpa using hm
      rw [← n2, List.getElem?_map, List.getElem?_eq_getElem k1] at hz'
      have e1 : SeqAt.readOf s.heap its[m] = z' := Option.some.inj hz'
      simpa using e1
    have n4 : j < its.toArray.size := by simpa using n3
    refine call_meets PySem.F.slot_tuple_index ⟨_, ho, rfl⟩ PySem.F.entry_tuple_index (PySem.F.args_tuple_index_2 _ _)
      (TI.tuple_indexAt a its.toArray n dd sls uy (fun u => PyData.eqv (SeqAt.readOf s.heap u) d) j n4 ?_ ?_) ⟨ho, SeqAt.items_eqAt (vs := its.toArray) (show ReadsAll s.heap its.toArray.toList ds as from h4) r1 c1 (SeqAt.canLay_of_shaped g2) c2, ?_⟩
    · show PyData.eqv (SeqAt.readOf s.heap its.toArray[j]) d = true
      rw [at_ j n4 z hz]
      exact hzj
    · intro m hm hmj
      have k2 : m < ds.length := by simp at hm; omega
      show PyData.eqv (SeqAt.readOf s.heap its.toArray[m]) d = false
      rw [at_ m hm ds[m] (List.getElem?_eq_getElem k2)]
      exact hno m _ hmj (List.getElem?_eq_getElem k2)
    · exact ⟨.int (j : Nat), H, I.tok _, ⟨_, rfl⟩, q⟩
/-! ### tuple(x) of a list, its object known -/
theorem call_tupF : CallR X (.type "tuple") (fun xs H Q => ∃ p ys, xs = [.ref p] ∧ SqL X.K H p ys ∧ ∀ (l : Addr) (o : Obj), H l = none → o.dict = none → o.cls = .type "tuple" → Q (.ref l) (upd H l (.frz o (.tup ys)))) := by
  intro pn s σ H xs us Q I r h
  obtain ⟨p, ys, rfl, hq, q⟩ := h
  obtain ⟨u, rfl, rx⟩ := vals1 r
  obtain rfl : u = Value.ref p := rx
  obtain ⟨its, r', pl, hz⟩ := I.list hq
  have hlen := r'.length
  refine call_tuple_list pl.isList (fun h' kp => ?_) (by simp only [List.size_toArray] <;> omega)
  have I1 : Inv X pn σ H { s with heap := h' } := I.kept (t' := s.toks) kp
  let ob : Obj := { cls := .type "tuple", data := .seq its.toArray }
  have g : (h'.push ob).get? h'.objs.size = some ob := Heap.get?_push_size _ rfl
  have okk : ObjOk X.prog X.w (upd H h'.objs.size (.frz ob (.tup ys))) (h'.push ob) h'.objs.size (.frz ob (.tup ys)) := ⟨g, hz, its, r', IsTup.new _ _⟩
  exact ⟨.ref h'.objs.size, _, I1.laid (t' := s.toks) (fun b o e => Heap.get?_push_of_some _ e) (Nat.le_refl _) okk, rfl, q _ ob (I1.hok.fresh (Nat.le_refl _)) rfl rfl⟩
def oTupF (xs : List D) (C : Cells) : Res D := match xs with
  | [x] => match asL x C with
    | some ds => .ok (.ftp ds) C
    | none => .stuck
  | _ => .stuck
theorem cb_tupF : CallB X W (.type "tuple") oTupF := by
  refine ⟨_, call_tupF, fun xs C vs μ F H σ Q S r k => ?_⟩
  unfold oTupF at k
  split at k
  · obtain ⟨v, rfl, r1⟩ := reps1 r
    split at k
    · rename_i ds e
      obtain ⟨a, vs, rfl, g, rs⟩ := asL_rep S r1 e
      refine ⟨a, vs, rfl, SqL.of g, fun l o hl h1 h2 => ?_⟩
      obtain ⟨S1, X1⟩ := S.alloc (o := .frz o (.tup vs)) hl
      exact k _ _ _ _ X1 S1 (.ftp upd_same h1 h2 (X1.reps rs))
    · exact k.elim
  · exact k.elim
/-! ### x.index(y), of a list, or of such a tuple -/
def FtpV (x : V) (H : Hp) : Prop := ∃ (p : Addr) (ob : Obj) (vs : List V), x = .ref p ∧ H p = some (.frz ob (.tup vs)) ∧ ob.dict = none ∧ ob.cls = .type "tuple"
def tIdx (K : PySem.W.Frag) (to : TE) (t : TA) : TE := fun σ H Q => to σ H fun x H1 => (tyV K "list" x H1 ∧ t σ H1 fun xs H2 => rIndexD K x xs H2 Q) ∨ (FtpV x H1 ∧ t σ H1 fun xs H2 => rTIdx K x xs H2 Q)
theorem pe_idx2 {o e : Expr} {to : TE} {t : TA} {apos cpos : Pos} (hu : X.A.units + 65 < cLine) (ho : PE X o to) (ha : PA X [e] t) (hbase : attributeBase o "index" X.env (eval o X.env) = eval o X.env := by rfl)
    (hfew : ((backTo cpos (starEach [e] X.env)).all (fun x => !x.1) && (backToKw cpos (keywordEach [] X.env)).all (fun x => x.1.isSome)
      && decide ([e].length + ([] : List Keyword).length + (if ([] : List Keyword).isEmpty then 0 else 1) < 30)) = true := by rfl)
    (hline : (apos.endLine == cpos.line) = true := by rfl) (hs : starEach [e] X.env = (false, eval e X.env) :: starEach [] X.env := by rfl) (hpl : (backTo cpos (starEach [] X.env)).any (·.1) = false := by rfl) :
    PE X (.Call (.Attribute o "index" apos) [e] [] cpos) (tIdx X.K to t) := by
  refine ⟨fun pn s σ H Q I h => ?_⟩
  refine wpAny_Call_method_late hbase hfew hline rfl (thn (ho.run pn s σ H _ I h) fun v s1 ⟨x, H1, I1, r1, q0⟩ => ?_)
  have fl : (false || (backTo cpos (starEach [] X.env)).any (·.1)) = false := by rw [hpl]; rfl
  rcases q0 with ⟨ty, q1⟩ | ⟨⟨p, ob, ws, ex, hp, hd, hc⟩, q1⟩
  · obtain ⟨h1, h2⟩ := tyV_is I1 r1 ty
    refine ⟨"list", "list.index", PySem.F.plainAttrs_list, PySem.F.slot_list_index, PySem.F.type_list_index, h1, h2, ?_⟩
    have hA := ha.run cpos pn s1 σ H1 _ I1 q1
    rw [hs] at hA ⊢
    refine Calls.callWith_builtin fl (Calls.evalArgs_plain ?_)
    exact thn hA fun us s2 ⟨vs, H2, I2, r2, q2⟩ => mt_indexD hu pn s2 σ H2 x vs v us Q I2 r1 r2 q2
  · subst ex
    obtain rfl : v = Value.ref p := r1
    have g : s1.heap.get? p = some ob := (I1.hok p _ hp).1
    refine ⟨"tuple", "tuple.index", PySem.F.plainAttrs_tuple, PySem.F.slot_tuple_index, PySem.F.type_tuple_index, ⟨ob, g, hc⟩, fun b eb => ?_, ?_⟩
    · cases eb
      exact ⟨ob, g, hd⟩
    have hA := ha.run cpos pn s1 σ H1 _ I1 q1
    rw [hs] at hA ⊢
    refine Calls.callWith_builtin fl (Calls.evalArgs_plain ?_)
    exact thn hA fun us s2 ⟨vs, H2, I2, r2, q2⟩ => mt_tidx hu pn s2 σ H2 (.ref p) vs (.ref p) us Q I2 rfl r2 q2
def tidxD (ds : List D) (y : D) (C : Cells) : Res D := match toPys ds, toPyC y C with
  | some ps, some d => if SeqAt.shaped (.tuple ps) = true ∧ SeqAt.shaped d = true then match ps.findIdx? fun z => PyData.eqv z d with
    | some j => .ok (.int (j : Nat)) C
    | none => .stuck
    else .stuck
  | _, _ => .stuck
def fIdx (f g : Rho → Cells → Res D) : Rho → Cells → Res D := fun ρ C => (f ρ C).bind fun x C1 => match x with
  | .ftp ds => (g ρ C1).bind fun v C2 => tidxD ds v C2
  | x => match asL x C1 with
    | some _ => (g ρ C1).bind fun v C2 => idxD x v C2
    | none => .stuck
theorem be_idx2 {a b : Expr} {fa fb : Rho → Cells → Res D} {apos pos : Pos} (ha : BE X W a fa) (hb : BE X W b fb) (h : ∀ {ta tb : TE}, PE X a ta → PE X b tb → PE X (.Call (.Attribute a "index" apos) [b] [] pos) (tIdx X.K ta (tCons tb tNil))) :
    BE X W (.Call (.Attribute a "index" apos) [b] [] pos) (fIdx fa fb) := by
  refine peI (h ha hb) ?_
  rintro σ H Q ⟨ρ, C, μ, F, S, E, k⟩
  refine ⟨ρ, C, μ, F, S, E, kd_bind k fun d C1 v μ1 F1 H1 x1 s1 r1 h1 => ?_⟩
  split at h1
  · rename_i ds
    cases r1 with
    | ftp q1 q2 q3 q4 =>
      rename_i a0 o0 vs0
      refine .inr ⟨⟨a0, o0, vs0, rfl, s1.sub _ _ q1, q2, q3⟩, ρ, C1, μ1, F1, s1, x1.env E, kd_bind h1 fun d2 C2 v2 μ2 F2 H2 x2 s2 r2 h2 => ?_⟩
      unfold tidxD at h2
      have r3 := x2.rep (.ftp q1 q2 q3 q4 : Rep X.K μ1 F1 (.ref a0) (.ftp ds))
      split at h2
      · rename_i ps p e3 e4
        split at h2
        · rename_i z
          split at h2
          · rename_i j ej
            obtain ⟨hj, hp, hno⟩ := List.findIdx?_eq_some_iff_getElem.mp ej
            have e5 : toPyC (.ftp ds) C2 = some (.tuple ps) := by simp [toPyC, toPy, e3]
            exact ⟨a0, v2, p, ps, j, ps[j], rfl, rfl, toPyC_dp s2 e5 r3, toPyC_dp s2 e4 r2, z.1, z.2, by simp [hj], hp, fun m z' hm hz => by
              obtain ⟨hm2, rfl⟩ := List.getElem?_eq_some_iff.mp hz
              have := hno m hm
              simpa using this, kd_ret s2 (.int _) h2⟩
          · exact h2.elim
        · exact h2.elim
      · exact h2.elim
  · split at h1
    · rename_i ds0 e1
      refine .inl ⟨tyL s1 r1 e1, ρ, C1, μ1, F1, s1, x1.env E, kd_bind h1 fun d2 C2 v2 μ2 F2 H2 x2 s2 r2 h2 => ?_⟩
      unfold idxD at h2
      have r3 := x2.rep r1
      split at h2
      · rename_i ds' e2
        split at h2
        · rename_i ps p e3 e4
          split at h2
          · rename_i z
            split at h2
            · rename_i j ej
              obtain ⟨hj, hp, hno⟩ := List.findIdx?_eq_some_iff_getElem.mp ej
              have q3 := toPyC_dp s2 e3 r3
              obtain ⟨a0, vs0, ev, _, _⟩ := asL_rep s2 r3 e2
              subst ev
              exact ⟨a0, v2, p, ps, j, ps[j], rfl, rfl, q3, toPyC_dp s2 e4 r2, z.1, z.2, by simp [hj], hp, fun m z' hm hz => by
                obtain ⟨hm2, rfl⟩ := List.getElem?_eq_some_iff.mp hz
                have := hno m hm
                simpa using this, kd_ret s2 (.int _) h2⟩
            · exact h2.elim
          · exact h2.elim
        · exact h2.elim
      · exact h2.elim
    · exact h1.elim
end
end BV
namespace K29
open PySem PySem.Spec PyProof.Rows L2 BV
def top (i : Nat) : Stmt := PySem.Challenge.pw_wrecktold_k29_whole_what_is_needed_and_w.main.body.getD i (.Pass ⟨0, 0, 0, 0⟩)
abbrev s_law_box : Stmt := top 24
abbrev N_law_box : List Str := ["_law_script", "_law_k", "_law_cell", "_law_great"]
abbrev P_law_box : List Str := ["_law_script", "_law_k"]
def b_law_box : Rho → Cells → Out :=
  (sSeq (sSet 2 (f2 (addD false) (f2 (mulD false) (fC (.int 11597)) (fVar 1)) (fC (.int 4673))))
    (sSeq (sIf (f2 ltD (fVar 1) (fA oLen (aCons (fVar 0) aNil))) (sSet 2 (fA oAbs (aCons (fA oInt (aCons (f2 ixD (fVar 0) (fVar 1)) aNil)) aNil))) (sIf (f2 gtD (fA oLen (aCons (fVar 0) aNil)) (fC (.int 0))) (sSet 2 (f2 (addD false) (fVar 2) (f2 (mulD false) (f2 modD (fA oInt (aCons (fA oAbs (aCons (fA oInt (aCons (f2 ixD (fVar 0) (f2 modD (fA oInt (aCons (fVar 1) aNil)) (fA oLen (aCons (fVar 0) aNil)))) aNil)) aNil)) aNil)) (fC (.int 2147483563))) (fC (.int 50893))))) sNil))
    (sSeq (sSet 3 (ifD (f2 geD (fVar 2) (f2 powD (fC (.int 10)) (fC (.int 18)))) (fVar 2) (fC (.int 0))))
    (sRet (fA (oLst true) (aCons (fVar 3) (aCons (f2 (addD false) (f2 modD (fA oInt (aCons (f2 (addD false) (f2 (mulD false) (f2 modD (fA oInt (aCons (fVar 2) aNil)) (fC (.int 2147483563))) (fC (.int 40014))) (f2 (mulD false) (fC (.int 4673)) (fVar 1))) aNil)) (fC (.int 2147483563))) (fC (.int 1))) aNil)))))))
def d_law_box : List D → Cells → Res D := denF true 2 4 b_law_box
abbrev s_law_take : Stmt := top 25
abbrev N_law_take : List Str := ["_law_box_here", "_law_many", "_law_digit", "_law_raw"]
abbrev P_law_take : List Str := ["_law_box_here", "_law_many"]
def b_law_take : Rho → Cells → Out :=
  (sSeq (sIf (f2 gtD (f2 ixD (fVar 0) (fC (.int 0))) (fC (.int 0))) (sSeq (sSet 2 (f2 modD (fA oInt (aCons (f2 ixD (fVar 0) (fC (.int 0))) aNil)) (fVar 1)))
    (sSeq (sSto (f2 fdivD (f2 ixD (fVar 0) (fC (.int 0))) (fVar 1)) (fVar 0) (fC (.int 0)))
    (sRet (fVar 2)))) sNil)
    (sSeq (sSet 3 (f2 modD (fA oInt (aCons (f2 (addD false) (f2 (mulD false) (f2 ixD (fVar 0) (fC (.int 1))) (fC (.int 39373))) (fC (.int 57))) aNil)) (fC (.int 2147483647))))
    (sSeq (sSto (f2 (addD false) (f2 modD (fA oInt (aCons (f2 (addD false) (f2 (mulD false) (fVar 3) (fC (.int 40692))) (fC (.int 50))) aNil)) (fC (.int 2147483399))) (fC (.int 1))) (fVar 0) (fC (.int 1)))
    (sRet (f2 modD (fA oInt (aCons (f2 fdivD (f2 (addD false) (f2 (mulD false) (fVar 3) (fC (.int 2147483629))) (f2 ixD (fVar 0) (fC (.int 1)))) (fC (.int 8209))) aNil)) (fVar 1))))))
def d_law_take : List D → Cells → Res D := denF false 2 4 b_law_take
abbrev s_law_stretches : Stmt := top 27
abbrev N_law_stretches : List Str := ["_law_box_here", "_law_number", "_law_found", "_law_turn", "_law_first"]
abbrev P_law_stretches : List Str := ["_law_box_here", "_law_number"]
def b_law_stretches : Rho → Cells → Out :=
  (sSeq (sSet 2 (fA (oLst true) aNil))
    (sSeq (sFor (iRg (rg1 (fA (oCall 2 d_law_take) (aCons (fVar 0) (aCons (fC (.int 4)) aNil))))) (tgN 3)
    (sSeq (sSet 4 (fA oMax (aCons (fC (.int 0)) (aCons (f2 (addD false) (f2 subD (fVar 1) (fC (.int 5))) (fA (oCall 2 d_law_take) (aCons (fVar 0) (aCons (fC (.int 9)) aNil)))) aNil))))
    (sExpr (fMt1 appD (fVar 2) (fA oTup (aCons (fVar 4) (aCons (f2 (addD false) (fVar 4) (fA (oCall 2 d_law_take) (aCons (fVar 0) (aCons (fC (.int 4)) aNil)))) aNil)))))))
    (sRet (fVar 2))))
def d_law_stretches : List D → Cells → Res D := denF false 2 5 b_law_stretches
abbrev s_law_needed : Stmt := top 28
abbrev N_law_needed : List Str := ["_law_number", "_law_last", "_law_stretches_here", "_law_found", "_law_one", "_law_first", "_law_end"]
abbrev P_law_needed : List Str := ["_law_number", "_law_last", "_law_stretches_here"]
def b_law_needed : Rho → Cells → Out :=
  (sSeq (sSet 3 (fA (oLst true) aNil))
    (sSeq (sFor (iRg (rg1 (fVar 0))) (tgN 4)
    (sIf (orD (f2 geD (fVar 4) (f2 subD (fVar 0) (fVar 1))) (f2 (eqD true) (fLc false [5, 6] (iSeq (fVar 2)) (tgT 2 (tgCons (tgN 5) (tgCons (tgN 6) tgNil))) (andD (f2 leD (fVar 5) (fVar 4)) (f2 leD (fVar 4) (fVar 6))) (fVar 5)) (fA (oLst false) aNil))) (sExpr (fMt1 appD (fVar 3) (fVar 4))) sNil))
    (sRet (fVar 3))))
def d_law_needed : List D → Cells → Res D := denF false 3 7 b_law_needed
abbrev s_is_sequence : Stmt := top 7
abbrev N_is_sequence : List Str := ["value"]
abbrev P_is_sequence : List Str := ["value"]
def b_is_sequence : Rho → Cells → Out :=
  (sRet (f1 (isiD ["list", "tuple"]) (fVar 0)))
def d_is_sequence : List D → Cells → Res D := denF false 1 1 b_is_sequence
abbrev s_is_integer : Stmt := top 4
abbrev N_is_integer : List Str := ["value"]
abbrev P_is_integer : List Str := ["value"]
def b_is_integer : Rho → Cells → Out :=
  (sRet (andD (f1 (isiD ["int"]) (fVar 0)) (notD (f1 (isiD ["bool"]) (fVar 0)))))
def d_is_integer : List D → Cells → Res D := denF false 1 1 b_is_integer
abbrev s_is_number : Stmt := top 5
abbrev N_is_number : List Str := ["value"]
abbrev P_is_number : List Str := ["value"]
def b_is_number : Rho → Cells → Out :=
  (sRet (andD (fA (oCall 1 d_is_integer) (aCons (fVar 0) aNil)) (f2 geD (fVar 0) (fC (.int 0)))))
def d_is_number : List D → Cells → Res D := denF false 1 1 b_is_number
abbrev s_is_stretch : Stmt := top 16
abbrev N_is_stretch : List Str := ["value", "one"]
abbrev P_is_stretch : List Str := ["value"]
def b_is_stretch : Rho → Cells → Out :=
  (sRet (andD (fA (oCall 1 d_is_sequence) (aCons (fVar 0) aNil)) (andD (f2 (eqD false) (fA oLen (aCons (fVar 0) aNil)) (fC (.int 2))) (andD (fA oAll (aCons (fLc false [1] (iSeq (fVar 0)) (tgN 1) fYes (fA (oCall 1 d_is_number) (aCons (fVar 1) aNil))) aNil)) (f2 leD (f2 ixD (fVar 0) (fC (.int 0))) (f2 ixD (fVar 0) (fC (.int 1))))))))
def d_is_stretch : List D → Cells → Res D := denF false 1 2 b_is_stretch
abbrev s_check_stretches : Stmt := top 17
abbrev N_check_stretches : List Str := ["value", "one"]
abbrev P_check_stretches : List Str := ["value"]
def b_check_stretches : Rho → Cells → Out :=
  (sSeq (sIf (orD (notD (fA (oCall 1 d_is_sequence) (aCons (fVar 0) aNil))) (notD (fA oAll (aCons (fLc false [1] (iSeq (fVar 0)) (tgN 1) fYes (fA (oCall 1 d_is_stretch) (aCons (fVar 1) aNil))) aNil)))) sNever sNil)
    (sRet (fA oTuple (aCons (fLc false [1] (iSeq (fVar 0)) (tgN 1) fYes (fA oTuple (aCons (fVar 1) aNil))) aNil))))
def d_check_stretches : List D → Cells → Res D := denF false 1 2 b_check_stretches
abbrev s_need_count : Stmt := top 12
abbrev N_need_count : List Str := ["value"]
abbrev P_need_count : List Str := ["value"]
def b_need_count : Rho → Cells → Out :=
  (sSeq (sIf (notD (fA (oCall 1 d_is_number) (aCons (fVar 0) aNil))) sNever sNil)
    (sRet (fVar 0)))
def d_need_count : List D → Cells → Res D := denF false 1 1 b_need_count
abbrev s_needed : Stmt := top 18
abbrev N_needed : List Str := ["number", "last", "stretches", "told", "found", "first", "end", "one"]
abbrev P_needed : List Str := ["number", "last", "stretches"]
def b_needed : Rho → Cells → Out :=
  (sSeq (sSet 3 (fA (oCall 1 d_check_stretches) (aCons (fVar 2) aNil)))
    (sSeq (sSet 4 (fDc [7] (iRg (rg2 (fA oMax (aCons (fC (.int 0)) (aCons (f2 subD (fA (oCall 1 d_need_count) (aCons (fVar 0) aNil)) (fVar 1)) aNil))) (fVar 0))) (tgN 7) fYes (fVar 7) (fC (.bl true))))
    (sSeq (sFor (iSeq (fVar 3)) (tgT 2 (tgCons (tgN 5) (tgCons (tgN 6) tgNil)))
    (sExpr (fMtK updD (fVar 4) (fDc [7] (iRg (rg2 (fVar 5) (fA oMin (aCons (f2 (addD false) (fVar 6) (fC (.int 1))) (aCons (fVar 0) aNil))))) (tgN 7) fYes (fVar 7) (fC (.bl true))))))
    (sRet (fA oTuple (aCons (fA (oSrt2 false) (aCons (fA (oListD false) (aCons (fVar 4) aNil)) aNil)) aNil))))))
def d_needed : List D → Cells → Res D := denF false 3 8 b_needed
abbrev s_need_at : Stmt := top 19
abbrev N_need_at : List Str := ["number", "last", "stretches"]
abbrev P_need_at : List Str := ["number", "last", "stretches"]
def b_need_at : Rho → Cells → Out :=
  (sRet (f2 (addD false) (fA oLen (aCons (fA (oCall 3 d_needed) (aCons (fVar 0) (aCons (fVar 1) (aCons (fVar 2) aNil)))) aNil)) (fC (.int 1))))
def d_need_at : List D → Cells → Res D := denF false 3 3 b_need_at
abbrev s_in_all : Stmt := top 20
abbrev N_in_all : List Str := ["stretches", "told", "found", "reach", "first", "end"]
abbrev P_in_all : List Str := ["stretches"]
def b_in_all : Rho → Cells → Out :=
  (sSeq (sSet 1 (fA (oSrt2 false) (aCons (fA (oCall 1 d_check_stretches) (aCons (fVar 0) aNil)) aNil)))
    (sSeq (sAsg (fA oTup (aCons (fC (.int 0)) (aCons (f1 negD (fC (.int 1))) aNil))) (tgT 2 (tgCons (tgN 2) (tgCons (tgN 3) tgNil))))
    (sSeq (sFor (iSeq (fVar 1)) (tgT 2 (tgCons (tgN 4) (tgCons (tgN 5) tgNil)))
    (sSeq (sAug 2 (fun a b => a + b) (fA oMax (aCons (fC (.int 0)) (aCons (f2 (addD false) (f2 subD (fVar 5) (fA oMax (aCons (fVar 4) (aCons (f2 (addD false) (fVar 3) (fC (.int 1))) aNil)))) (fC (.int 1))) aNil))))
    (sSet 3 (fA oMax (aCons (fVar 3) (aCons (fVar 5) aNil))))))
    (sRet (fVar 2)))))
def d_in_all : List D → Cells → Res D := denF false 1 6 b_in_all
abbrev s_need_last : Stmt := top 15
abbrev N_need_last : List Str := ["slots", "value"]
abbrev P_need_last : List Str := ["slots", "value"]
def b_need_last : Rho → Cells → Out :=
  (sSeq (sIf (orD (notD (fA (oCall 1 d_is_number) (aCons (fVar 1) aNil))) (notD (chainD leD ltD (fC (.int 1)) (fVar 1) (fVar 0)))) sNever sNil)
    (sRet (fVar 1)))
def d_need_last : List D → Cells → Res D := denF false 2 2 b_need_last
abbrev s_is_below : Stmt := top 6
abbrev N_is_below : List Str := ["value", "most"]
abbrev P_is_below : List Str := ["value", "most"]
def b_is_below : Rho → Cells → Out :=
  (sRet (andD (fA (oCall 1 d_is_number) (aCons (fVar 0) aNil)) (f2 ltD (fVar 0) (fVar 1))))
def d_is_below : List D → Cells → Res D := denF false 2 2 b_is_below
abbrev s_need_slots : Stmt := top 11
abbrev N_need_slots : List Str := ["value"]
abbrev P_need_slots : List Str := ["value"]
def b_need_slots : Rho → Cells → Out :=
  (sSeq (sIf (orD (notD (fA (oCall 2 d_is_below) (aCons (fVar 0) (aCons (f2 (addD false) (fC (.int (64))) (fC (.int 1))) aNil)))) (f2 ltD (fVar 0) (fC (.int 2)))) sNever sNil)
    (sRet (fVar 0)))
def d_need_slots : List D → Cells → Res D := denF false 1 1 b_need_slots
abbrev s_first_full : Stmt := top 21
abbrev N_first_full : List Str := ["slots", "last", "number", "stretches", "told", "here", "first", "end"]
abbrev P_first_full : List Str := ["slots", "last", "number", "stretches"]
def b_first_full : Rho → Cells → Out :=
  (sSeq (sExpr (fA (oCall 2 d_need_last) (aCons (fA (oCall 1 d_need_slots) (aCons (fVar 0) aNil)) (aCons (fVar 1) aNil))))
    (sSeq (sSet 4 (fA (oCall 1 d_check_stretches) (aCons (fVar 3) aNil)))
    (sSeq (sExpr (fA (oCall 1 d_need_count) (aCons (fVar 2) aNil)))
    (sSeq (sIf (f2 leD (f2 (addD false) (f2 (addD false) (fA (oCall 1 d_in_all) (aCons (fVar 4) aNil)) (fVar 1)) (fC (.int 1))) (fVar 0)) (sRet (fC .non)) sNil)
    (sSeq (sFor (iRg (rg2 (fVar 2) (f2 (addD false) (f2 (addD false) (fA oMax (aCons (f2 (addD false) (fA (oLst false) (aCons (fVar 2) aNil)) (fLc false [6, 7] (iSeq (fVar 4)) (tgT 2 (tgCons (tgN 6) (tgCons (tgN 7) tgNil))) fYes (fVar 7))) aNil)) (fVar 1)) (fC (.int 2))))) (tgN 5)
    (sIf (f2 gtD (fA (oCall 3 d_need_at) (aCons (fVar 5) (aCons (fVar 1) (aCons (fVar 4) aNil)))) (fVar 0)) (sRet (fVar 5)) sNil))
    (sRet (fC .non)))))))
def d_first_full : List D → Cells → Res D := denF false 4 8 b_first_full
abbrev s_is_row_form : Stmt := top 13
abbrev N_is_row_form : List Str := ["value", "one"]
abbrev P_is_row_form : List Str := ["value"]
def b_is_row_form : Rho → Cells → Out :=
  (sSeq (sIf (orD (notD (fA (oCall 1 d_is_sequence) (aCons (fVar 0) aNil))) (notD (chainD leD leD (fC (.int 2)) (fA oLen (aCons (fVar 0) aNil)) (fC (.int (64)))))) (sRet (fC (.bl false))) sNil)
    (sRet (fA oAll (aCons (fLc false [1] (iSeq (fVar 0)) (tgN 1) fYes (orD (f2 (isD false) (fVar 1) (fC .non)) (orD (fA (oCall 1 d_is_number) (aCons (fVar 1) aNil)) (andD (f1 (isiD ["str"]) (fVar 1)) (f2 (eqD false) (fVar 1) (fC (.str "torn"))))))) aNil))))
def d_is_row_form : List D → Cells → Res D := denF false 1 2 b_is_row_form
abbrev s_place_in : Stmt := top 22
abbrev N_place_in : List Str := ["row", "number", "last", "stretches", "kept", "free", "one"]
abbrev P_place_in : List Str := ["row", "number", "last", "stretches"]
def b_place_in : Rho → Cells → Out :=
  (sSeq (sIf (notD (fA (oCall 1 d_is_row_form) (aCons (fVar 0) aNil))) sNever sNil)
    (sSeq (sSet 4 (fDc [6] (iSeq (fA (oCall 3 d_needed) (aCons (fVar 1) (aCons (fVar 2) (aCons (fVar 3) aNil))))) (tgN 6) fYes (fVar 6) (fC (.bl true))))
    (sSeq (sIf (f2 (in2D false) (fC (.str "torn")) (fVar 0)) (sRet (fIdx (fVar 0) (fC (.str "torn")))) sNil)
    (sSeq (sIf (f2 (in2D false) (fC .non) (fVar 0)) (sRet (fIdx (fVar 0) (fC .non))) sNil)
    (sSeq (sSet 5 (fLc false [6] (iSeq (fVar 0)) (tgN 6) (f2 (in2D true) (fVar 6) (fVar 4)) (fVar 6)))
    (sSeq (sIf (f2 (eqD false) (fA oLen (aCons (fVar 5) aNil)) (fC (.int 0))) sNever sNil)
    (sRet (fIdx (fVar 0) (fA oMin (aCons (fVar 5) aNil))))))))))
def d_place_in : List D → Cells → Res D := denF false 4 7 b_place_in
abbrev s_law : Stmt := top 29
abbrev N_law : List Str := ["_law_script", "_law_k", "_law_box_here", "_law_slots", "_law_last", "_law_number", "_law_stretches_here", "_law_due", "_law_some", "_law_full", "_law_told", "_law_others", "_law_row", "_law_turn", "_law_at", "_law_other", "_law_free", "_law_here", "_law_one", "_law_first", "_law_end"]
abbrev P_law : List Str := ["_law_script"]
def b_law : Rho → Cells → Out :=
  (sSeq (sFor (iRg (rg1 (fA oMax (aCons (fC (.int 6)) (aCons (fA oMin (aCons (fA oLen (aCons (fVar 0) aNil)) (aCons (fC (.int 15)) aNil))) aNil))))) (tgN 1)
    (sSeq (sSet 2 (fA (oCall 2 d_law_box) (aCons (fVar 0) (aCons (fVar 1) aNil))))
    (sSeq (sSet 3 (f2 (addD false) (fC (.int 2)) (fA (oCall 2 d_law_take) (aCons (fVar 2) (aCons (fC (.int 9)) aNil)))))
    (sSeq (sAsg (fA oTup (aCons (f2 (addD false) (fC (.int 1)) (fA (oCall 2 d_law_take) (aCons (fVar 2) (aCons (f2 subD (fVar 3) (fC (.int 1))) aNil)))) (aCons (fA (oCall 2 d_law_take) (aCons (fVar 2) (aCons (fC (.int 14)) aNil))) aNil))) (tgT 2 (tgCons (tgN 4) (tgCons (tgN 5) tgNil))))
    (sSeq (sSet 6 (fA (oCall 2 d_law_stretches) (aCons (fVar 2) (aCons (fVar 5) aNil))))
    (sSeq (sSet 7 (fA (oCall 3 d_law_needed) (aCons (fVar 5) (aCons (fVar 4) (aCons (fVar 6) aNil)))))
    (sSeq (sIf (f2 (eqD true) (fA oRepr (aCons (fK0 (oCallK0 3 3 [2, 1, 0] d_needed) (aCons (fVar 6) (aCons (fVar 4) (aCons (fVar 5) aNil)))) aNil)) (fA oRepr (aCons (fA oTuple (aCons (fVar 7) aNil)) aNil))) (sRet (fC (.bl false))) sNil)
    (sSeq (sIf (orD (f2 (eqD true) (fA oRepr (aCons (fA (oCall 3 d_need_at) (aCons (fVar 5) (aCons (fVar 4) (aCons (fA oTuple (aCons (fVar 6) aNil)) aNil)))) aNil)) (fA oRepr (aCons (f2 (addD false) (fA oLen (aCons (fVar 7) aNil)) (fC (.int 1))) aNil))) (f2 (eqD true) (fA (oCall 1 d_check_stretches) (aCons (fLc false [18] (iSeq (fVar 6)) (tgN 18) fYes (fA (oListD false) (aCons (fVar 18) aNil))) aNil)) (fA oTuple (aCons (fVar 6) aNil)))) (sRet (fC (.bl false))) sNil)
    (sSeq (sSet 8 (fLc false [18] (iRg (rg1 (fC (.int 40)))) (tgN 18) (f2 (eqD true) (fLc false [19, 20] (iSeq (fVar 6)) (tgT 2 (tgCons (tgN 19) (tgCons (tgN 20) tgNil))) (andD (f2 leD (fVar 19) (fVar 18)) (f2 leD (fVar 18) (fVar 20))) (fVar 19)) (fA (oLst false) aNil)) (fVar 18)))
    (sSeq (sIf (f2 (eqD true) (fA oRepr (aCons (fA (oCall 1 d_in_all) (aCons (fVar 6) aNil)) aNil)) (fA oRepr (aCons (fA oLen (aCons (fVar 8) aNil)) aNil))) (sRet (fC (.bl false))) sNil)
    (sSeq (sIf (f2 (eqD true) (fA oRepr (aCons (fA (oLst false) (aCons (fA (oCall 3 d_needed) (aCons (fVar 5) (aCons (fC (.int 0)) (aCons (fVar 6) aNil)))) (aCons (fA (oCall 3 d_need_at) (aCons (fVar 5) (aCons (fC (.int 0)) (aCons (fVar 6) aNil)))) aNil))) aNil)) (fA oRepr (aCons (fA (oLst false) (aCons (fA oTuple (aCons (fLc false [18] (iSeq (fVar 8)) (tgN 18) (f2 ltD (fVar 18) (fVar 5)) (fVar 18)) aNil)) (aCons (f2 (addD false) (fC (.int 1)) (fA oLen (aCons (fLc false [18] (iSeq (fVar 8)) (tgN 18) (f2 ltD (fVar 18) (fVar 5)) (fVar 18)) aNil))) aNil))) aNil))) (sRet (fC (.bl false))) sNil)
    (sSeq (sSet 9 (fLc false [17] (iRg (rg2 (fVar 5) (f2 (addD false) (fVar 5) (fC (.int 40))))) (tgN 17) (f2 gtD (f2 (addD false) (fA oLen (aCons (fA (oCall 3 d_law_needed) (aCons (fVar 17) (aCons (fVar 4) (aCons (fVar 6) aNil)))) aNil)) (fC (.int 1))) (fVar 3)) (fVar 17)))
    (sSeq (sSet 10 (fA (oCall 4 d_first_full) (aCons (fVar 3) (aCons (fVar 4) (aCons (fVar 5) (aCons (fVar 6) aNil))))))
    (sSeq (sIf (orD (f2 (eqD true) (fA oRepr (aCons (fVar 10) aNil)) (fA oRepr (aCons (ifD (f2 (eqD true) (fVar 9) (fA (oLst false) aNil)) (f2 ixD (fVar 9) (fC (.int 0))) (fC .non)) aNil))) (f2 (eqD true) (f2 (isD false) (fVar 10) (fC .non)) (f2 leD (f2 (addD false) (f2 (addD false) (fA oLen (aCons (fVar 8) aNil)) (fVar 4)) (fC (.int 1))) (fVar 3)))) (sRet (fC (.bl false))) sNil)
    (sSeq (sIf (f2 (eqD true) (fA oRepr (aCons (fK0 (oCallK0 4 4 [3, 2, 1, 0] d_first_full) (aCons (fVar 6) (aCons (fVar 5) (aCons (fVar 4) (aCons (fVar 3) aNil))))) aNil)) (fA oRepr (aCons (fVar 10) aNil))) (sRet (fC (.bl false))) sNil)
    (sSeq (sIf (f2 gtD (f2 (addD false) (fA oLen (aCons (fVar 7) aNil)) (fC (.int 1))) (fVar 3)) sCt sNil)
    (sSeq (sSet 11 (fRev false (fLc false [18] (iRg (rg1 (fVar 5))) (tgN 18) (f2 (in2D true) (fVar 18) (fVar 7)) (fVar 18))))
    (sSeq (sSet 12 (f2 (addD true) (fVar 7) (fSl false (fVar 11) pNo (pSo (f2 subD (fVar 3) (fA oLen (aCons (fVar 7) aNil)))))))
    (sSeq (sSet 12 (f2 (addD true) (fVar 12) (f2 (mulD false) (fA (oLst false) (aCons (fC .non) aNil)) (f2 subD (fVar 3) (fA oLen (aCons (fVar 12) aNil))))))
    (sSeq (sFor (iRg (rg1 (fVar 3))) (tgN 13)
    (sSeq (sPar 14 15 (aCons (fA (oCall 2 d_law_take) (aCons (fVar 2) (aCons (fVar 3) aNil))) (aCons (fA (oCall 2 d_law_take) (aCons (fVar 2) (aCons (fVar 3) aNil))) aNil)))
    (sSto2 (fA oTup (aCons (f2 ixD (fVar 12) (fVar 15)) (aCons (f2 ixD (fVar 12) (fVar 14)) aNil))) (fVar 12) (fVar 14) (fVar 12) (fVar 15))))
    (sSeq (sSet 16 (fLc false [18] (iSeq (fVar 12)) (tgN 18) (andD (f2 (isD true) (fVar 18) (fC .non)) (f2 (in2D true) (fVar 18) (fVar 7))) (fVar 18)))
    (sSeq (sSet 17 (ifD (f2 (in2D false) (fC .non) (fVar 12)) (fIdx (fVar 12) (fC .non)) (fIdx (fVar 12) (fA oMin (aCons (fVar 16) aNil)))))
    (sSeq (sIf (f2 (eqD true) (fA oRepr (aCons (fA (oCall 4 d_place_in) (aCons (fA oTupF (aCons (fVar 12) aNil)) (aCons (fVar 5) (aCons (fVar 4) (aCons (fVar 6) aNil))))) aNil)) (fA oRepr (aCons (fVar 17) aNil))) (sRet (fC (.bl false))) sNil)
    (sSeq (sSet 14 (fA (oCall 2 d_law_take) (aCons (fVar 2) (aCons (fVar 3) aNil))))
    (sIf (f2 (in2D true) (f2 ixD (fVar 12) (fVar 14)) (fVar 7)) (sSeq (sSto (fC (.str "torn")) (fVar 12) (fVar 14))
    (sIf (f2 (eqD true) (fA oRepr (aCons (fK0 (oCallK0 4 4 [3, 2, 1, 0] d_place_in) (aCons (fVar 6) (aCons (fVar 4) (aCons (fVar 5) (aCons (fVar 12) aNil))))) aNil)) (fA oRepr (aCons (fVar 14) aNil))) (sRet (fC (.bl false))) sNil)) sNil)))))))))))))))))))))))))
    (sRet (fC (.bl true))))
def d_law : List D → Cells → Res D := denF false 1 21 b_law
end K29
namespace K29
open PySem PySem.Spec PyProof.Rows L2 BV
structure Txt (K : PySem.W.Frag) (mg : Str → Option Value) (fA : Nat → Addr) (fD : Nat → FuncData) : Prop where
  d_law_box : DefAt K mg "_law_box" s_law_box P_law_box (fA 0) (fD 0)
  d_law_take : DefAt K mg "_law_take" s_law_take P_law_take (fA 1) (fD 1)
  d_law_stretches : DefAt K mg "_law_stretches" s_law_stretches P_law_stretches (fA 2) (fD 2)
  d_law_needed : DefAt K mg "_law_needed" s_law_needed P_law_needed (fA 3) (fD 3)
  d_is_sequence : DefAt K mg "is_sequence" s_is_sequence P_is_sequence (fA 4) (fD 4)
  d_is_integer : DefAt K mg "is_integer" s_is_integer P_is_integer (fA 5) (fD 5)
  d_is_number : DefAt K mg "is_number" s_is_number P_is_number (fA 6) (fD 6)
  d_is_stretch : DefAt K mg "is_stretch" s_is_stretch P_is_stretch (fA 7) (fD 7)
  d_check_stretches : DefAt K mg "check_stretches" s_check_stretches P_check_stretches (fA 8) (fD 8)
  d_need_count : DefAt K mg "need_count" s_need_count P_need_count (fA 9) (fD 9)
  d_needed : DefAt K mg "needed" s_needed P_needed (fA 10) (fD 10)
  d_need_at : DefAt K mg "need_at" s_need_at P_need_at (fA 11) (fD 11)
  d_in_all : DefAt K mg "in_all" s_in_all P_in_all (fA 12) (fD 12)
  d_need_last : DefAt K mg "need_last" s_need_last P_need_last (fA 13) (fD 13)
  d_is_below : DefAt K mg "is_below" s_is_below P_is_below (fA 14) (fD 14)
  d_need_slots : DefAt K mg "need_slots" s_need_slots P_need_slots (fA 15) (fD 15)
  d_first_full : DefAt K mg "first_full" s_first_full P_first_full (fA 16) (fD 16)
  d_is_row_form : DefAt K mg "is_row_form" s_is_row_form P_is_row_form (fA 17) (fD 17)
  d_place_in : DefAt K mg "place_in" s_place_in P_place_in (fA 18) (fD 18)
  d_law : DefAt K mg "law" s_law P_law (fA 19) (fD 19)
  n_abs : mg "abs" = none
  n_all : mg "all" = none
  n_bool : mg "bool" = none
  n_int : mg "int" = none
  n_isinstance : mg "isinstance" = none
  n_len : mg "len" = none
  n_list : mg "list" = none
  n_max : mg "max" = none
  n_min : mg "min" = none
  n_range : mg "range" = none
  n_repr : mg "repr" = none
  n_sorted : mg "sorted" = none
  n_str : mg "str" = none
  n_tuple : mg "tuple" = none
  c_MOST_SLOTS : ∃ t, mg "MOST_SLOTS" = some (.int (64) t)
  c_TORN : ∃ t, mg "TORN" = some (.str "torn" t)
  kw_needed_0_stretches_last_number : KOk K (fD 10) P_needed ["stretches", "last", "number"] [2, 1, 0] 0
  kw_first_full_0_stretches_number_last_slots : KOk K (fD 16) P_first_full ["stretches", "number", "last", "slots"] [3, 2, 1, 0] 0
  kw_place_in_0_stretches_last_number_row : KOk K (fD 18) P_place_in ["stretches", "last", "number", "row"] [3, 2, 1, 0] 0
section
variable {P : Program} {w : World} {K : PySem.W.Frag} {mg : Str → Option Value} {base : Heap} {fA : Nat → Addr} {fD : Nat → FuncData}
theorem sc_law_box : FnScope N_law_box P_law_box (defScope s_law_box) := ⟨rfl, rfl, rfl, by decide +kernel, rfl, by decide +kernel, by decide +kernel⟩
theorem ok_law_box (T : Txt K mg fA fD) : FnG P w K mg base 1 (fA 0) (fD 0) P_law_box (spD K mg 2 d_law_box) := by
  refine fnG_den (k := 0) true T.d_law_box.F sc_law_box (by decide) fun cd A outer s H E gd hr => ?_
  exact (bss_cons (bs_set (i := 2) sc_law_box.nd rfl (.inl rfl) (be_op (ob_add false) (be_op (ob_mul false) be_int (be_var 1 (pv 1))) be_int))
      (bss_cons (bs_if (bt_cmp ob_lt (be_var 1 (pv 1)) (be_callB cb_len rfl T.n_len bb_len (ba_cons (be_var 0 (pv 0)) ba_nil)) (nomark _)) (bss_one (bs_set (i := 2) sc_law_box.nd rfl (.inl rfl) (be_callB cb_abs rfl T.n_abs bb_abs (ba_cons (be_callTy cb_int rfl T.n_int bb_int (ba_cons (be_ix (be_var 0 (pv 0)) (be_var 1 (pv 1)) (fun _ _ => rfl)) ba_nil)) ba_nil)))) (bss_one (bs_if (bt_cmp ob_gt (be_callB cb_len rfl T.n_len bb_len (ba_cons (be_var 0 (pv 0)) ba_nil)) be_int (nomark _)) (bss_one (bs_set (i := 2) sc_law_box.nd rfl (.inl rfl) (be_op (ob_add false) (be_var 2 (pv 2)) (be_op (ob_mul false) (be_op ob_mod (be_callTy cb_int rfl T.n_int bb_int (ba_cons (be_callB cb_abs rfl T.n_abs bb_abs (ba_cons (be_callTy cb_int rfl T.n_int bb_int (ba_cons (be_ix (be_var 0 (pv 0)) (be_op ob_mod (be_callTy cb_int rfl T.n_int bb_int (ba_cons (be_var 1 (pv 1)) ba_nil)) (be_callB cb_len rfl T.n_len bb_len (ba_cons (be_var 0 (pv 0)) ba_nil))) (fun _ _ => rfl)) ba_nil)) ba_nil)) ba_nil)) be_int) be_int)))) bss_nil)))
      (bss_cons (bs_set (i := 3) sc_law_box.nd rfl (.inl rfl) (be_if (bt_cmp ob_ge (be_var 2 (pv 2)) (be_op ob_pow be_int be_int) (nomark _)) (be_var 2 (pv 2)) be_int))
      (bss_one (bs_ret (be_lst true (ba_cons (be_var 3 (pv 3)) (ba_cons (be_op (ob_add false) (be_op ob_mod (be_callTy cb_int rfl T.n_int bb_int (ba_cons (be_op (ob_add false) (be_op (ob_mul false) (be_op ob_mod (be_callTy cb_int rfl T.n_int bb_int (ba_cons (be_var 2 (pv 2)) ba_nil)) be_int) be_int) (be_op (ob_mul false) be_int (be_var 1 (pv 1)))) ba_nil)) be_int) be_int) ba_nil))))))))
theorem sc_law_take : FnScope N_law_take P_law_take (defScope s_law_take) := ⟨rfl, rfl, rfl, by decide +kernel, rfl, by decide +kernel, by decide +kernel⟩
theorem ok_law_take (T : Txt K mg fA fD) : FnG P w K mg base 1 (fA 1) (fD 1) P_law_take (spD K mg 2 d_law_take) := by
  refine fnG_den (k := 0) false T.d_law_take.F sc_law_take (by decide) fun cd A outer s H E gd hr => ?_
  exact (bss_cons (bs_if (bt_cmp ob_gt (be_ix (be_var 0 (pv 0)) be_int (fun _ _ => rfl)) be_int (nomark _)) (bss_cons (bs_set (i := 2) sc_law_take.nd rfl (.inl rfl) (be_op ob_mod (be_callTy cb_int rfl T.n_int bb_int (ba_cons (be_ix (be_var 0 (pv 0)) be_int (fun _ _ => rfl)) ba_nil)) (be_var 1 (pv 1))))
      (bss_cons (bs_sto (be_op ob_fdiv (be_ix (be_var 0 (pv 0)) be_int (fun _ _ => rfl)) (be_var 1 (pv 1))) (be_var 0 (pv 0)) be_int)
      (bss_one (bs_ret (be_var 2 (pv 2)))))) bss_nil)
      (bss_cons (bs_set (i := 3) sc_law_take.nd rfl (.inl rfl) (be_op ob_mod (be_callTy cb_int rfl T.n_int bb_int (ba_cons (be_op (ob_add false) (be_op (ob_mul false) (be_ix (be_var 0 (pv 0)) be_int (fun _ _ => rfl)) be_int) be_int) ba_nil)) be_int))
      (bss_cons (bs_sto (be_op (ob_add false) (be_op ob_mod (be_callTy cb_int rfl T.n_int bb_int (ba_cons (be_op (ob_add false) (be_op (ob_mul false) (be_var 3 (pv 3)) be_int) be_int) ba_nil)) be_int) be_int) (be_var 0 (pv 0)) be_int)
      (bss_one (bs_ret (be_op ob_mod (be_callTy cb_int rfl T.n_int bb_int (ba_cons (be_op ob_fdiv (be_op (ob_add false) (be_op (ob_mul false) (be_var 3 (pv 3)) be_int) (be_ix (be_var 0 (pv 0)) be_int (fun _ _ => rfl))) be_int) ba_nil)) (be_var 1 (pv 1))))))))
theorem sc_law_stretches : FnScope N_law_stretches P_law_stretches (defScope s_law_stretches) := ⟨rfl, rfl, rfl, by decide +kernel, rfl, by decide +kernel, by decide +kernel⟩
theorem ok_law_stretches (T : Txt K mg fA fD) : FnG P w K mg base 2 (fA 2) (fD 2) P_law_stretches (spD K mg 2 d_law_stretches) := by
  refine fnG_den (k := 1) false T.d_law_stretches.F sc_law_stretches (by decide) fun cd A outer s H E gd hr => ?_
  exact (bss_cons (bs_set (i := 2) sc_law_stretches.nd rfl (.inl rfl) (be_lst true ba_nil))
      (bss_cons (bs_for (passes_of rfl) rfl (bi_range1 rfl T.n_range (be_call (ok_law_take T) (hr.mono (by decide)) gd (takes_of rfl rfl rfl rfl) rfl T.d_law_take.m T.d_law_take.F.kp T.d_law_take.b (ba_cons (be_var 0 (pv 0)) (ba_cons be_int ba_nil)))) (bg_name (pg_name (i := 3) sc_law_stretches.nd rfl (.inl rfl)))
      (bss_cons (bs_set (i := 4) sc_law_stretches.nd rfl (.inl rfl) (be_callB (cb_max rfl) rfl T.n_max bb_max (ba_cons be_int (ba_cons (be_op (ob_add false) (be_op ob_sub (be_var 1 (pv 1)) be_int) (be_call (ok_law_take T) (hr.mono (by decide)) gd (takes_of rfl rfl rfl rfl) rfl T.d_law_take.m T.d_law_take.F.kp T.d_law_take.b (ba_cons (be_var 0 (pv 0)) (ba_cons be_int ba_nil)))) ba_nil))))
      (bss_one (bs_expr (be_app (be_var 2 (pv 2)) (be_tup (ba_cons (be_var 4 (pv 4)) (ba_cons (be_op (ob_add false) (be_var 4 (pv 4)) (be_call (ok_law_take T) (hr.mono (by decide)) gd (takes_of rfl rfl rfl rfl) rfl T.d_law_take.m T.d_law_take.F.kp T.d_law_take.b (ba_cons (be_var 0 (pv 0)) (ba_cons be_int ba_nil)))) ba_nil))) (fun h1 h2 => pe_bm PySem.F.plainAttrs_list PySem.F.slot_list_append PySem.F.type_list_append mt_append h1 (pa_cons h2 pa_nil)))))))
      (bss_one (bs_ret (be_var 2 (pv 2))))))
theorem sc_law_needed : FnScope N_law_needed P_law_needed (defScope s_law_needed) := ⟨rfl, rfl, rfl, by decide +kernel, rfl, by decide +kernel, by decide +kernel⟩
theorem ok_law_needed (T : Txt K mg fA fD) : FnG P w K mg base 1 (fA 3) (fD 3) P_law_needed (spD K mg 3 d_law_needed) := by
  refine fnG_den (k := 0) false T.d_law_needed.F sc_law_needed (by decide) fun cd A outer s H E gd hr => ?_
  exact (bss_cons (bs_set (i := 3) sc_law_needed.nd rfl (.inl rfl) (be_lst true ba_nil))
      (bss_cons (bs_for (passes_of rfl) rfl (bi_range1 rfl T.n_range (be_var 0 (pv 0))) (bg_name (pg_name (i := 4) sc_law_needed.nd rfl (.inr rfl)))
      (bss_one (bs_if (bt_w (bw_or (bt_cmp ob_ge (be_var 4 (pv 4)) (be_op ob_sub (be_var 0 (pv 0)) (be_var 1 (pv 1))) (nomark _)) (bw_or1 (bt_cmp (ob_ne (hu64 hr)) (be_lc (own := [("_law_first", 5), ("_law_end", 6)]) false rfl sc_law_needed.nd (blkOk_by (N := N_law_needed) (sc := defScope s_law_needed) (by decide +kernel)) (by decide) (bi_seq (be_var 2 (pv 2))) (fun _ _ _ _ _ => (bg_tup rfl (bgs_cons (bg_name (pg_name (i := 5) sc_law_needed.nd rfl (by first | exact .inl rfl | exact .inr rfl))) (bgs_cons (bg_name (pg_name (i := 6) sc_law_needed.nd rfl (by first | exact .inl rfl | exact .inr rfl))) bgs_nil)))) (fun _ _ _ _ _ => (bts_one (bt_w (bw_and (bt_cmp ob_le (be_var 5 (pv 5)) (be_var 4 (pv 4)) (nomark _)) (bw_and1 (bt_cmp ob_le (be_var 4 (pv 4)) (be_var 6 (pv 6)) (nomark _))))))) (fun _ _ _ _ _ => (be_var 5 (pv 5)))) (be_lst false ba_nil) (nomark _))))) (bss_one (bs_expr (be_app (be_var 3 (pv 3)) (be_var 4 (pv 4)) (fun h1 h2 => pe_bm PySem.F.plainAttrs_list PySem.F.slot_list_append PySem.F.type_list_append mt_append h1 (pa_cons h2 pa_nil))))) bss_nil)))
      (bss_one (bs_ret (be_var 3 (pv 3))))))
theorem sc_is_sequence : FnScope N_is_sequence P_is_sequence (defScope s_is_sequence) := ⟨rfl, rfl, rfl, by decide +kernel, rfl, by decide +kernel, by decide +kernel⟩
theorem ok_is_sequence (T : Txt K mg fA fD) : FnG P w K mg base 1 (fA 4) (fD 4) P_is_sequence (spD K mg 1 d_is_sequence) := by
  refine fnG_den (k := 0) false T.d_is_sequence.F sc_is_sequence (by decide) fun cd A outer s H E gd hr => ?_
  exact (bss_one (bs_ret (be_isi2 (by decide) (by decide) rfl T.n_isinstance (be_var 0 (pv 0)) (pe_bltn rfl T.n_list bb_list rfl) (pe_bltn rfl T.n_tuple bb_tuple rfl))))
theorem sc_is_integer : FnScope N_is_integer P_is_integer (defScope s_is_integer) := ⟨rfl, rfl, rfl, by decide +kernel, rfl, by decide +kernel, by decide +kernel⟩
theorem ok_is_integer (T : Txt K mg fA fD) : FnG P w K mg base 1 (fA 5) (fD 5) P_is_integer (spD K mg 1 d_is_integer) := by
  refine fnG_den (k := 0) false T.d_is_integer.F sc_is_integer (by decide) fun cd A outer s H E gd hr => ?_
  exact (bss_one (bs_ret (be_and (be_isi1 (by decide) rfl T.n_isinstance (be_var 0 (pv 0)) (pe_bltn rfl T.n_int bb_int rfl)) (be_one (be_not (be_isi1 (by decide) rfl T.n_isinstance (be_var 0 (pv 0)) (pe_bltn rfl T.n_bool bb_bool rfl)))))))
theorem sc_is_number : FnScope N_is_number P_is_number (defScope s_is_number) := ⟨rfl, rfl, rfl, by decide +kernel, rfl, by decide +kernel, by decide +kernel⟩
theorem ok_is_number (T : Txt K mg fA fD) : FnG P w K mg base 2 (fA 6) (fD 6) P_is_number (spD K mg 1 d_is_number) := by
  refine fnG_den (k := 1) false T.d_is_number.F sc_is_number (by decide) fun cd A outer s H E gd hr => ?_
  exact (bss_one (bs_ret (be_and (be_call (ok_is_integer T) (hr.mono (by decide)) gd (takes_of rfl rfl rfl rfl) rfl T.d_is_integer.m T.d_is_integer.F.kp T.d_is_integer.b (ba_cons (be_var 0 (pv 0)) ba_nil)) (be_one (be_cmp ob_ge (be_var 0 (pv 0)) be_int (nomark _))))))
theorem sc_is_stretch : FnScope N_is_stretch P_is_stretch (defScope s_is_stretch) := ⟨rfl, rfl, rfl, by decide +kernel, rfl, by decide +kernel, by decide +kernel⟩
theorem ok_is_stretch (T : Txt K mg fA fD) : FnG P w K mg base 3 (fA 7) (fD 7) P_is_stretch (spD K mg 1 d_is_stretch) := by
  refine fnG_den (k := 2) false T.d_is_stretch.F sc_is_stretch (by decide) fun cd A outer s H E gd hr => ?_
  exact (bss_one (bs_ret (be_and (be_call (ok_is_sequence T) (hr.mono (by decide)) gd (takes_of rfl rfl rfl rfl) rfl T.d_is_sequence.m T.d_is_sequence.F.kp T.d_is_sequence.b (ba_cons (be_var 0 (pv 0)) ba_nil)) (be_and (be_cmp (ob_eq (hu64 hr)) (be_callB cb_len rfl T.n_len bb_len (ba_cons (be_var 0 (pv 0)) ba_nil)) be_int (nomark _)) (be_and (be_callB (cb_all rfl) rfl T.n_all bb_all (ba_cons (be_lc (own := [("one", 1)]) false rfl sc_is_stretch.nd (blkOk_by (N := N_is_stretch) (sc := defScope s_is_stretch) (by decide +kernel)) (by decide) (bi_seq (be_var 0 (pv 0))) (fun _ _ _ _ _ => (bg_name (pg_name (i := 1) sc_is_stretch.nd rfl (by first | exact .inl rfl | exact .inr rfl)))) (fun _ _ _ _ _ => bts_nil) (fun _ _ _ _ _ => (be_call (ok_is_number T) (hr.mono (by decide)) gd takes0 rfl T.d_is_number.m T.d_is_number.F.kp T.d_is_number.b (ba_cons (be_var 1 (pv 1)) ba_nil)))) ba_nil)) (be_one (be_cmp ob_le (be_ix (be_var 0 (pv 0)) be_int (fun _ _ => rfl)) (be_ix (be_var 0 (pv 0)) be_int (fun _ _ => rfl)) (nomark _))))))))
theorem sc_check_stretches : FnScope N_check_stretches P_check_stretches (defScope s_check_stretches) := ⟨rfl, rfl, rfl, by decide +kernel, rfl, by decide +kernel, by decide +kernel⟩
theorem ok_check_stretches (T : Txt K mg fA fD) : FnG P w K mg base 4 (fA 8) (fD 8) P_check_stretches (spD K mg 1 d_check_stretches) := by
  refine fnG_den (k := 3) false T.d_check_stretches.F sc_check_stretches (by decide) fun cd A outer s H E gd hr => ?_
  exact (bss_cons (bs_if (bt_w (bw_or (bt_not (bt_val (be_call (ok_is_sequence T) (hr.mono (by decide)) gd (takes_of rfl rfl rfl rfl) rfl T.d_is_sequence.m T.d_is_sequence.F.kp T.d_is_sequence.b (ba_cons (be_var 0 (pv 0)) ba_nil)))) (bw_or1 (bt_not (bt_val (be_callB (cb_all rfl) rfl T.n_all bb_all (ba_cons (be_lc (own := [("one", 1)]) false rfl sc_check_stretches.nd (blkOk_by (N := N_check_stretches) (sc := defScope s_check_stretches) (by decide +kernel)) (by decide) (bi_seq (be_var 0 (pv 0))) (fun _ _ _ _ _ => (bg_name (pg_name (i := 1) sc_check_stretches.nd rfl (by first | exact .inl rfl | exact .inr rfl)))) (fun _ _ _ _ _ => bts_nil) (fun _ _ _ _ _ => (be_call (ok_is_stretch T) (hr.mono (by decide)) gd takes0 rfl T.d_is_stretch.m T.d_is_stretch.F.kp T.d_is_stretch.b (ba_cons (be_var 1 (pv 1)) ba_nil)))) ba_nil))))))) (bss_one bs_never) bss_nil)
      (bss_one (bs_ret (be_callTy cb_tuple rfl T.n_tuple bb_tuple (ba_cons (be_lc (own := [("one", 1)]) false rfl sc_check_stretches.nd (blkOk_by (N := N_check_stretches) (sc := defScope s_check_stretches) (by decide +kernel)) (by decide) (bi_seq (be_var 0 (pv 0))) (fun _ _ _ _ _ => (bg_name (pg_name (i := 1) sc_check_stretches.nd rfl (by first | exact .inl rfl | exact .inr rfl)))) (fun _ _ _ _ _ => bts_nil) (fun _ _ _ _ _ => (be_callTy cb_tuple rfl T.n_tuple bb_tuple (ba_cons (be_var 1 (pv 1)) ba_nil)))) ba_nil)))))
theorem sc_need_count : FnScope N_need_count P_need_count (defScope s_need_count) := ⟨rfl, rfl, rfl, by decide +kernel, rfl, by decide +kernel, by decide +kernel⟩
theorem ok_need_count (T : Txt K mg fA fD) : FnG P w K mg base 3 (fA 9) (fD 9) P_need_count (spD K mg 1 d_need_count) := by
  refine fnG_den (k := 2) false T.d_need_count.F sc_need_count (by decide) fun cd A outer s H E gd hr => ?_
  exact (bss_cons (bs_if (bt_not (bt_val (be_call (ok_is_number T) (hr.mono (by decide)) gd (takes_of rfl rfl rfl rfl) rfl T.d_is_number.m T.d_is_number.F.kp T.d_is_number.b (ba_cons (be_var 0 (pv 0)) ba_nil)))) (bss_one bs_never) bss_nil)
      (bss_one (bs_ret (be_var 0 (pv 0)))))
theorem sc_needed : FnScope N_needed P_needed (defScope s_needed) := ⟨rfl, rfl, rfl, by decide +kernel, rfl, by decide +kernel, by decide +kernel⟩
theorem ok_needed (T : Txt K mg fA fD) : FnG P w K mg base 5 (fA 10) (fD 10) P_needed (spD K mg 3 d_needed) := by
  refine fnG_den (k := 4) false T.d_needed.F sc_needed (by decide) fun cd A outer s H E gd hr => ?_
  exact (bss_cons (bs_set (i := 3) sc_needed.nd rfl (.inl rfl) (be_call (ok_check_stretches T) (hr.mono (by decide)) gd (takes_of rfl rfl rfl rfl) rfl T.d_check_stretches.m T.d_check_stretches.F.kp T.d_check_stretches.b (ba_cons (be_var 2 (pv 2)) ba_nil)))
      (bss_cons (bs_setDc (own := [("one", 7)]) (i := 4) rfl sc_needed.nd (blkOk_by (N := N_needed) (sc := defScope s_needed) (by decide +kernel)) (by decide) rfl rfl (sw_dict rfl rfl rfl (by decide +kernel)) (bi_range2 rfl T.n_range (be_callB (cb_max rfl) rfl T.n_max bb_max (ba_cons be_int (ba_cons (be_op ob_sub (be_call (ok_need_count T) (hr.mono (by decide)) gd (takes_of rfl rfl rfl rfl) rfl T.d_need_count.m T.d_need_count.F.kp T.d_need_count.b (ba_cons (be_var 0 (pv 0)) ba_nil)) (be_var 1 (pv 1))) ba_nil))) (be_var 0 (pv 0))) (fun _ _ _ _ _ => (bg_name (pg_name (i := 7) sc_needed.nd rfl (by first | exact .inl rfl | exact .inr rfl)))) (fun _ _ _ _ _ => bts_nil) (fun _ _ _ _ _ => (be_var 7 (pv 7))) (fun _ _ _ _ _ => be_bl))
      (bss_cons (bs_for (passes_of rfl) rfl (bi_seq (be_var 3 (pv 3))) (bg_tup rfl (bgs_cons (bg_name (pg_name (i := 5) sc_needed.nd rfl (.inl rfl))) (bgs_cons (bg_name (pg_name (i := 6) sc_needed.nd rfl (.inl rfl))) bgs_nil)))
      (bss_one (bs_expr (be_upd (be_var 4 (pv 4)) (be_dc (own := [("one", 7)]) rfl sc_needed.nd (blkOk_by (N := N_needed) (sc := defScope s_needed) (by decide +kernel)) (by decide) (bi_range2 rfl T.n_range (be_var 5 (pv 5)) (be_callB (cb_min rfl) rfl T.n_min bb_min (ba_cons (be_op (ob_add false) (be_var 6 (pv 6)) be_int) (ba_cons (be_var 0 (pv 0)) ba_nil)))) (fun _ _ _ _ _ => (bg_name (pg_name (i := 7) sc_needed.nd rfl (by first | exact .inl rfl | exact .inr rfl)))) (fun _ _ _ _ _ => bts_nil) (fun _ _ _ _ _ => (be_var 7 (pv 7))) (fun _ _ _ _ _ => be_bl)) (fun h1 h2 => pe_bm PySem.F.plainAttrs_dict PySem.F.slot_dict_update PySem.F.type_dict_update mt_dupd h1 (pa_cons h2 pa_nil))))))
      (bss_one (bs_ret (be_callTy cb_tuple rfl T.n_tuple bb_tuple (ba_cons (be_callB (cb_srt2 false) rfl T.n_sorted bb_sorted (ba_cons (be_callTy (cb_listD false rfl) rfl T.n_list bb_list (ba_cons (be_var 4 (pv 4)) ba_nil)) ba_nil)) ba_nil)))))))
theorem sc_need_at : FnScope N_need_at P_need_at (defScope s_need_at) := ⟨rfl, rfl, rfl, by decide +kernel, rfl, by decide +kernel, by decide +kernel⟩
theorem ok_need_at (T : Txt K mg fA fD) : FnG P w K mg base 6 (fA 11) (fD 11) P_need_at (spD K mg 3 d_need_at) := by
  refine fnG_den (k := 5) false T.d_need_at.F sc_need_at (by decide) fun cd A outer s H E gd hr => ?_
  exact (bss_one (bs_ret (be_op (ob_add false) (be_callB cb_len rfl T.n_len bb_len (ba_cons (be_call (ok_needed T) (hr.mono (by decide)) gd (takes_of rfl rfl rfl rfl) rfl T.d_needed.m T.d_needed.F.kp T.d_needed.b (ba_cons (be_var 0 (pv 0)) (ba_cons (be_var 1 (pv 1)) (ba_cons (be_var 2 (pv 2)) ba_nil)))) ba_nil)) be_int)))
theorem sc_in_all : FnScope N_in_all P_in_all (defScope s_in_all) := ⟨rfl, rfl, rfl, by decide +kernel, rfl, by decide +kernel, by decide +kernel⟩
theorem ok_in_all (T : Txt K mg fA fD) : FnG P w K mg base 5 (fA 12) (fD 12) P_in_all (spD K mg 1 d_in_all) := by
  refine fnG_den (k := 4) false T.d_in_all.F sc_in_all (by decide) fun cd A outer s H E gd hr => ?_
  exact (bss_cons (bs_set (i := 1) sc_in_all.nd rfl (.inl rfl) (be_callB (cb_srt2 false) rfl T.n_sorted bb_sorted (ba_cons (be_call (ok_check_stretches T) (hr.mono (by decide)) gd (takes_of rfl rfl rfl rfl) rfl T.d_check_stretches.m T.d_check_stretches.F.kp T.d_check_stretches.b (ba_cons (be_var 0 (pv 0)) ba_nil)) ba_nil)))
      (bss_cons (bs_asg (be_tup (ba_cons be_int (ba_cons (be_neg be_int) ba_nil))) (bg_tup rfl (bgs_cons (bg_name (pg_name (i := 2) sc_in_all.nd rfl (.inl rfl))) (bgs_cons (bg_name (pg_name (i := 3) sc_in_all.nd rfl (.inl rfl))) bgs_nil))))
      (bss_cons (bs_for (passes_of rfl) rfl (bi_seq (be_var 1 (pv 1))) (bg_tup rfl (bgs_cons (bg_name (pg_name (i := 4) sc_in_all.nd rfl (.inl rfl))) (bgs_cons (bg_name (pg_name (i := 5) sc_in_all.nd rfl (.inl rfl))) bgs_nil)))
      (bss_cons (bs_aug (i := 2) sc_in_all.nd rfl (.inl rfl) (be_callB (cb_max rfl) rfl T.n_max bb_max (ba_cons be_int (ba_cons (be_op (ob_add false) (be_op ob_sub (be_var 5 (pv 5)) (be_callB (cb_max rfl) rfl T.n_max bb_max (ba_cons (be_var 4 (pv 4)) (ba_cons (be_op (ob_add false) (be_var 3 (pv 3)) be_int) ba_nil)))) be_int) ba_nil))) ip_add)
      (bss_one (bs_set (i := 3) sc_in_all.nd rfl (.inl rfl) (be_callB (cb_max rfl) rfl T.n_max bb_max (ba_cons (be_var 3 (pv 3)) (ba_cons (be_var 5 (pv 5)) ba_nil)))))))
      (bss_one (bs_ret (be_var 2 (pv 2)))))))
theorem sc_need_last : FnScope N_need_last P_need_last (defScope s_need_last) := ⟨rfl, rfl, rfl, by decide +kernel, rfl, by decide +kernel, by decide +kernel⟩
theorem ok_need_last (T : Txt K mg fA fD) : FnG P w K mg base 3 (fA 13) (fD 13) P_need_last (spD K mg 2 d_need_last) := by
  refine fnG_den (k := 2) false T.d_need_last.F sc_need_last (by decide) fun cd A outer s H E gd hr => ?_
  exact (bss_cons (bs_if (bt_w (bw_or (bt_not (bt_val (be_call (ok_is_number T) (hr.mono (by decide)) gd (takes_of rfl rfl rfl rfl) rfl T.d_is_number.m T.d_is_number.F.kp T.d_is_number.b (ba_cons (be_var 1 (pv 1)) ba_nil)))) (bw_or1 (bt_not (bt_chain ob_le ob_lt be_int (be_var 1 (pv 1)) (be_var 0 (pv 0))))))) (bss_one bs_never) bss_nil)
      (bss_one (bs_ret (be_var 1 (pv 1)))))
theorem sc_is_below : FnScope N_is_below P_is_below (defScope s_is_below) := ⟨rfl, rfl, rfl, by decide +kernel, rfl, by decide +kernel, by decide +kernel⟩
theorem ok_is_below (T : Txt K mg fA fD) : FnG P w K mg base 3 (fA 14) (fD 14) P_is_below (spD K mg 2 d_is_below) := by
  refine fnG_den (k := 2) false T.d_is_below.F sc_is_below (by decide) fun cd A outer s H E gd hr => ?_
  exact (bss_one (bs_ret (be_and (be_call (ok_is_number T) (hr.mono (by decide)) gd (takes_of rfl rfl rfl rfl) rfl T.d_is_number.m T.d_is_number.F.kp T.d_is_number.b (ba_cons (be_var 0 (pv 0)) ba_nil)) (be_one (be_cmp ob_lt (be_var 0 (pv 0)) (be_var 1 (pv 1)) (nomark _))))))
theorem sc_need_slots : FnScope N_need_slots P_need_slots (defScope s_need_slots) := ⟨rfl, rfl, rfl, by decide +kernel, rfl, by decide +kernel, by decide +kernel⟩
theorem ok_need_slots (T : Txt K mg fA fD) : FnG P w K mg base 4 (fA 15) (fD 15) P_need_slots (spD K mg 1 d_need_slots) := by
  refine fnG_den (k := 3) false T.d_need_slots.F sc_need_slots (by decide) fun cd A outer s H E gd hr => ?_
  exact (bss_cons (bs_if (bt_w (bw_or (bt_not (bt_val (be_call (ok_is_below T) (hr.mono (by decide)) gd (takes_of rfl rfl rfl rfl) rfl T.d_is_below.m T.d_is_below.F.kp T.d_is_below.b (ba_cons (be_var 0 (pv 0)) (ba_cons (be_op (ob_add false) (be_gint rfl T.c_MOST_SLOTS) be_int) ba_nil))))) (bw_or1 (bt_cmp ob_lt (be_var 0 (pv 0)) be_int (nomark _))))) (bss_one bs_never) bss_nil)
      (bss_one (bs_ret (be_var 0 (pv 0)))))
theorem sc_first_full : FnScope N_first_full P_first_full (defScope s_first_full) := ⟨rfl, rfl, rfl, by decide +kernel, rfl, by decide +kernel, by decide +kernel⟩
theorem ok_first_full (T : Txt K mg fA fD) : FnG P w K mg base 7 (fA 16) (fD 16) P_first_full (spD K mg 4 d_first_full) := by
  refine fnG_den (k := 6) false T.d_first_full.F sc_first_full (by decide) fun cd A outer s H E gd hr => ?_
  exact (bss_cons (bs_expr (be_call (ok_need_last T) (hr.mono (by decide)) gd (takes_of rfl rfl rfl rfl) rfl T.d_need_last.m T.d_need_last.F.kp T.d_need_last.b (ba_cons (be_call (ok_need_slots T) (hr.mono (by decide)) gd (takes_of rfl rfl rfl rfl) rfl T.d_need_slots.m T.d_need_slots.F.kp T.d_need_slots.b (ba_cons (be_var 0 (pv 0)) ba_nil)) (ba_cons (be_var 1 (pv 1)) ba_nil))))
      (bss_cons (bs_set (i := 4) sc_first_full.nd rfl (.inl rfl) (be_call (ok_check_stretches T) (hr.mono (by decide)) gd (takes_of rfl rfl rfl rfl) rfl T.d_check_stretches.m T.d_check_stretches.F.kp T.d_check_stretches.b (ba_cons (be_var 3 (pv 3)) ba_nil)))
      (bss_cons (bs_expr (be_call (ok_need_count T) (hr.mono (by decide)) gd (takes_of rfl rfl rfl rfl) rfl T.d_need_count.m T.d_need_count.F.kp T.d_need_count.b (ba_cons (be_var 2 (pv 2)) ba_nil)))
      (bss_cons (bs_if (bt_cmp ob_le (be_op (ob_add false) (be_op (ob_add false) (be_call (ok_in_all T) (hr.mono (by decide)) gd (takes_of rfl rfl rfl rfl) rfl T.d_in_all.m T.d_in_all.F.kp T.d_in_all.b (ba_cons (be_var 4 (pv 4)) ba_nil)) (be_var 1 (pv 1))) be_int) (be_var 0 (pv 0)) (nomark _)) (bss_one (bs_ret be_non)) bss_nil)
      (bss_cons (bs_for (passes_of rfl) rfl (bi_range2 rfl T.n_range (be_var 2 (pv 2)) (be_op (ob_add false) (be_op (ob_add false) (be_callB (cb_max rfl) rfl T.n_max bb_max (ba_cons (be_op (ob_add false) (be_lst false (ba_cons (be_var 2 (pv 2)) ba_nil)) (be_lc (own := [("first", 6), ("end", 7)]) false rfl sc_first_full.nd (blkOk_by (N := N_first_full) (sc := defScope s_first_full) (by decide +kernel)) (by decide) (bi_seq (be_var 4 (pv 4))) (fun _ _ _ _ _ => (bg_tup rfl (bgs_cons (bg_name (pg_name (i := 6) sc_first_full.nd rfl (by first | exact .inl rfl | exact .inr rfl))) (bgs_cons (bg_name (pg_name (i := 7) sc_first_full.nd rfl (by first | exact .inl rfl | exact .inr rfl))) bgs_nil)))) (fun _ _ _ _ _ => bts_nil) (fun _ _ _ _ _ => (be_var 7 (pv 7))))) ba_nil)) (be_var 1 (pv 1))) be_int)) (bg_name (pg_name (i := 5) sc_first_full.nd rfl (.inl rfl)))
      (bss_one (bs_if (bt_cmp ob_gt (be_call (ok_need_at T) (hr.mono (by decide)) gd (takes_of rfl rfl rfl rfl) rfl T.d_need_at.m T.d_need_at.F.kp T.d_need_at.b (ba_cons (be_var 5 (pv 5)) (ba_cons (be_var 1 (pv 1)) (ba_cons (be_var 4 (pv 4)) ba_nil)))) (be_var 0 (pv 0)) (nomark _)) (bss_one (bs_ret (be_var 5 (pv 5)))) bss_nil)))
      (bss_one (bs_ret be_non)))))))
theorem sc_is_row_form : FnScope N_is_row_form P_is_row_form (defScope s_is_row_form) := ⟨rfl, rfl, rfl, by decide +kernel, rfl, by decide +kernel, by decide +kernel⟩
theorem ok_is_row_form (T : Txt K mg fA fD) : FnG P w K mg base 3 (fA 17) (fD 17) P_is_row_form (spD K mg 1 d_is_row_form) := by
  refine fnG_den (k := 2) false T.d_is_row_form.F sc_is_row_form (by decide) fun cd A outer s H E gd hr => ?_
  exact (bss_cons (bs_if (bt_w (bw_or (bt_not (bt_val (be_call (ok_is_sequence T) (hr.mono (by decide)) gd (takes_of rfl rfl rfl rfl) rfl T.d_is_sequence.m T.d_is_sequence.F.kp T.d_is_sequence.b (ba_cons (be_var 0 (pv 0)) ba_nil)))) (bw_or1 (bt_not (bt_chain ob_le ob_le be_int (be_callB cb_len rfl T.n_len bb_len (ba_cons (be_var 0 (pv 0)) ba_nil)) (be_gint rfl T.c_MOST_SLOTS)))))) (bss_one (bs_ret be_bl)) bss_nil)
      (bss_one (bs_ret (be_callB (cb_all rfl) rfl T.n_all bb_all (ba_cons (be_lc (own := [("one", 1)]) false rfl sc_is_row_form.nd (blkOk_by (N := N_is_row_form) (sc := defScope s_is_row_form) (by decide +kernel)) (by decide) (bi_seq (be_var 0 (pv 0))) (fun _ _ _ _ _ => (bg_name (pg_name (i := 1) sc_is_row_form.nd rfl (by first | exact .inl rfl | exact .inr rfl)))) (fun _ _ _ _ _ => bts_nil) (fun _ _ _ _ _ => (be_or (be_cmp ob_is (be_var 1 (pv 1)) be_non (nomark _)) (be_or (be_call (ok_is_number T) (hr.mono (by decide)) gd takes0 rfl T.d_is_number.m T.d_is_number.F.kp T.d_is_number.b (ba_cons (be_var 1 (pv 1)) ba_nil)) (be_one (be_and (be_isi1 (by decide) rfl T.n_isinstance (be_var 1 (pv 1)) (pe_bltn rfl T.n_str bb_str rfl)) (be_one (be_cmp (ob_eq (hu64 hr)) (be_var 1 (pv 1)) (be_gstr rfl T.c_TORN) (nomark _))))))))) ba_nil)))))
theorem sc_place_in : FnScope N_place_in P_place_in (defScope s_place_in) := ⟨rfl, rfl, rfl, by decide +kernel, rfl, by decide +kernel, by decide +kernel⟩
theorem ok_place_in (T : Txt K mg fA fD) : FnG P w K mg base 6 (fA 18) (fD 18) P_place_in (spD K mg 4 d_place_in) := by
  refine fnG_den (k := 5) false T.d_place_in.F sc_place_in (by decide) fun cd A outer s H E gd hr => ?_
  exact (bss_cons (bs_if (bt_not (bt_val (be_call (ok_is_row_form T) (hr.mono (by decide)) gd (takes_of rfl rfl rfl rfl) rfl T.d_is_row_form.m T.d_is_row_form.F.kp T.d_is_row_form.b (ba_cons (be_var 0 (pv 0)) ba_nil)))) (bss_one bs_never) bss_nil)
      (bss_cons (bs_set (i := 4) sc_place_in.nd rfl (.inr rfl) (be_dc (own := [("one", 6)]) rfl sc_place_in.nd (blkOk_by (N := N_place_in) (sc := defScope s_place_in) (by decide +kernel)) (by decide) (bi_seq (be_call (ok_needed T) (hr.mono (by decide)) gd (takes_of rfl rfl rfl rfl) rfl T.d_needed.m T.d_needed.F.kp T.d_needed.b (ba_cons (be_var 1 (pv 1)) (ba_cons (be_var 2 (pv 2)) (ba_cons (be_var 3 (pv 3)) ba_nil))))) (fun _ _ _ _ _ => (bg_name (pg_name (i := 6) sc_place_in.nd rfl (by first | exact .inl rfl | exact .inr rfl)))) (fun _ _ _ _ _ => bts_nil) (fun _ _ _ _ _ => (be_var 6 (pv 6))) (fun _ _ _ _ _ => be_bl)))
      (bss_cons (bs_if (bt_cmp (ob_in2 (hu65 hr)) (be_gstr rfl T.c_TORN) (be_var 0 (pv 0)) rfl) (bss_one (bs_ret (be_idx2 (be_var 0 (pv 0)) (be_gstr rfl T.c_TORN) (fun h1 h2 => pe_idx2 (hu65 hr) h1 (pa_cons h2 pa_nil))))) bss_nil)
      (bss_cons (bs_if (bt_cmp (ob_in2 (hu65 hr)) be_non (be_var 0 (pv 0)) rfl) (bss_one (bs_ret (be_idx2 (be_var 0 (pv 0)) be_non (fun h1 h2 => pe_idx2 (hu65 hr) h1 (pa_cons h2 pa_nil))))) bss_nil)
      (bss_cons (bs_setLc (own := [("one", 6)]) (i := 5) false rfl sc_place_in.nd (blkOk_by (N := N_place_in) (sc := defScope s_place_in) (by decide +kernel)) (by decide) rfl rfl (sw_true rfl rfl rfl (by decide +kernel)) (bi_seq (be_var 0 (pv 0))) (fun _ _ _ _ _ => (bg_name (pg_name (i := 6) sc_place_in.nd rfl (by first | exact .inl rfl | exact .inr rfl)))) (fun _ _ _ _ _ => (bts_one (bt_cmp (ob_nin2 (hu65 hr)) (be_var 6 (pv 6)) (be_var 4 (pv 4)) rfl))) (fun _ _ _ _ _ => (be_var 6 (pv 6))))
      (bss_cons (bs_if (bt_cmp (ob_eq (hu64 hr)) (be_callB cb_len rfl T.n_len bb_len (ba_cons (be_var 5 (pv 5)) ba_nil)) be_int (nomark _)) (bss_one bs_never) bss_nil)
      (bss_one (bs_ret (be_idx2 (be_var 0 (pv 0)) (be_callB (cb_min rfl) rfl T.n_min bb_min (ba_cons (be_var 5 (pv 5)) ba_nil)) (fun h1 h2 => pe_idx2 (hu65 hr) h1 (pa_cons h2 pa_nil)))))))))))
theorem sc_law : FnScope N_law P_law (defScope s_law) := ⟨rfl, rfl, rfl, by decide +kernel, rfl, by decide +kernel, by decide +kernel⟩
theorem ok_law (T : Txt K mg fA fD) : FnG P w K mg base 8 (fA 19) (fD 19) P_law (spD K mg 1 d_law) := by
  refine fnG_den (k := 7) false T.d_law.F sc_law (by decide) fun cd A outer s H E gd hr => ?_
  exact (bss_cons (bs_for (passes_of rfl) rfl (bi_range1 rfl T.n_range (be_callB (cb_max rfl) rfl T.n_max bb_max (ba_cons be_int (ba_cons (be_callB (cb_min rfl) rfl T.n_min bb_min (ba_cons (be_callB cb_len rfl T.n_len bb_len (ba_cons (be_var 0 (pv 0)) ba_nil)) (ba_cons be_int ba_nil))) ba_nil)))) (bg_name (pg_name (i := 1) sc_law.nd rfl (.inl rfl)))
      (bss_cons (bs_set (i := 2) sc_law.nd rfl (.inl rfl) (be_call (ok_law_box T) (hr.mono (by decide)) gd (takes_of rfl rfl rfl rfl) rfl T.d_law_box.m T.d_law_box.F.kp T.d_law_box.b (ba_cons (be_var 0 (pv 0)) (ba_cons (be_var 1 (pv 1)) ba_nil))))
      (bss_cons (bs_set (i := 3) sc_law.nd rfl (.inr rfl) (be_op (ob_add false) be_int (be_call (ok_law_take T) (hr.mono (by decide)) gd (takes_of rfl rfl rfl rfl) rfl T.d_law_take.m T.d_law_take.F.kp T.d_law_take.b (ba_cons (be_var 2 (pv 2)) (ba_cons be_int ba_nil)))))
      (bss_cons (bs_asg (be_tup (ba_cons (be_op (ob_add false) be_int (be_call (ok_law_take T) (hr.mono (by decide)) gd (takes_of rfl rfl rfl rfl) rfl T.d_law_take.m T.d_law_take.F.kp T.d_law_take.b (ba_cons (be_var 2 (pv 2)) (ba_cons (be_op ob_sub (be_var 3 (pv 3)) be_int) ba_nil)))) (ba_cons (be_call (ok_law_take T) (hr.mono (by decide)) gd (takes_of rfl rfl rfl rfl) rfl T.d_law_take.m T.d_law_take.F.kp T.d_law_take.b (ba_cons (be_var 2 (pv 2)) (ba_cons be_int ba_nil))) ba_nil))) (bg_tup rfl (bgs_cons (bg_name (pg_name (i := 4) sc_law.nd rfl (.inr rfl))) (bgs_cons (bg_name (pg_name (i := 5) sc_law.nd rfl (.inr rfl))) bgs_nil))))
      (bss_cons (bs_set (i := 6) sc_law.nd rfl (.inr rfl) (be_call (ok_law_stretches T) (hr.mono (by decide)) gd (takes_of rfl rfl rfl rfl) rfl T.d_law_stretches.m T.d_law_stretches.F.kp T.d_law_stretches.b (ba_cons (be_var 2 (pv 2)) (ba_cons (be_var 5 (pv 5)) ba_nil))))
      (bss_cons (bs_set (i := 7) sc_law.nd rfl (.inr rfl) (be_call (ok_law_needed T) (hr.mono (by decide)) gd (takes_of rfl rfl rfl rfl) rfl T.d_law_needed.m T.d_law_needed.F.kp T.d_law_needed.b (ba_cons (be_var 5 (pv 5)) (ba_cons (be_var 4 (pv 4)) (ba_cons (be_var 6 (pv 6)) ba_nil)))))
      (bss_cons (bs_if (bt_cmp (ob_ne (hu64 hr)) (be_callB (cb_repr gd (hu65 hr)) rfl T.n_repr bb_repr (ba_cons (be_callK0 (π := [2, 1, 0]) (ks := ["stretches", "last", "number"]) (ok_needed T) (hr.mono (by decide)) gd (takes_of rfl rfl rfl rfl) rfl T.d_needed.m T.d_needed.F.kp T.kw_needed_0_stretches_last_number (bk_cons (be_var 6 (pv 6)) (bk_cons (be_var 4 (pv 4)) (bk_cons (be_var 5 (pv 5)) bk_nil)))) ba_nil)) (be_callB (cb_repr gd (hu65 hr)) rfl T.n_repr bb_repr (ba_cons (be_callTy cb_tuple rfl T.n_tuple bb_tuple (ba_cons (be_var 7 (pv 7)) ba_nil)) ba_nil)) (nomark _)) (bss_one (bs_ret be_bl)) bss_nil)
      (bss_cons (bs_if (bt_w (bw_or (bt_cmp (ob_ne (hu64 hr)) (be_callB (cb_repr gd (hu65 hr)) rfl T.n_repr bb_repr (ba_cons (be_call (ok_need_at T) (hr.mono (by decide)) gd (takes_of rfl rfl rfl rfl) rfl T.d_need_at.m T.d_need_at.F.kp T.d_need_at.b (ba_cons (be_var 5 (pv 5)) (ba_cons (be_var 4 (pv 4)) (ba_cons (be_callTy cb_tuple rfl T.n_tuple bb_tuple (ba_cons (be_var 6 (pv 6)) ba_nil)) ba_nil)))) ba_nil)) (be_callB (cb_repr gd (hu65 hr)) rfl T.n_repr bb_repr (ba_cons (be_op (ob_add false) (be_callB cb_len rfl T.n_len bb_len (ba_cons (be_var 7 (pv 7)) ba_nil)) be_int) ba_nil)) (nomark _)) (bw_or1 (bt_cmp (ob_ne (hu64 hr)) (be_call (ok_check_stretches T) (hr.mono (by decide)) gd (takes_of rfl rfl rfl rfl) rfl T.d_check_stretches.m T.d_check_stretches.F.kp T.d_check_stretches.b (ba_cons (be_lc (own := [("_law_one", 18)]) false rfl sc_law.nd (blkOk_by (N := N_law) (sc := defScope s_law) (by decide +kernel)) (by decide) (bi_seq (be_var 6 (pv 6))) (fun _ _ _ _ _ => (bg_name (pg_name (i := 18) sc_law.nd rfl (by first | exact .inl rfl | exact .inr rfl)))) (fun _ _ _ _ _ => bts_nil) (fun _ _ _ _ _ => (be_callTy (cb_listD false rfl) rfl T.n_list bb_list (ba_cons (be_var 18 (pv 18)) ba_nil)))) ba_nil)) (be_callTy cb_tuple rfl T.n_tuple bb_tuple (ba_cons (be_var 6 (pv 6)) ba_nil)) (nomark _))))) (bss_one (bs_ret be_bl)) bss_nil)
      (bss_cons (bs_setLc (own := [("_law_one", 18)]) (i := 8) false rfl sc_law.nd (blkOk_by (N := N_law) (sc := defScope s_law) (by decide +kernel)) (by decide) rfl rfl (sw_true rfl rfl rfl (by decide +kernel)) (bi_range1 rfl T.n_range be_int) (fun _ _ _ _ _ => (bg_name (pg_name (i := 18) sc_law.nd rfl (by first | exact .inl rfl | exact .inr rfl)))) (fun _ _ _ _ _ => (bts_one (bt_cmp (ob_ne (hu64 hr)) (be_lc (own := [("_law_first", 19), ("_law_end", 20)]) false rfl sc_law.nd (blkOk_by (N := N_law) (sc := { kind := .function, names := [(".0", .local), ("_law_one", .cell), ("_law_stretches_here", .cell)], isGenerator := false, isCoroutine := false }) (by decide +kernel)) (by decide) (bi_seq (be_var 6 (pv 6))) (fun _ _ _ _ _ => (bg_tup rfl (bgs_cons (bg_name (pg_name (i := 19) sc_law.nd rfl (by first | exact .inl rfl | exact .inr rfl))) (bgs_cons (bg_name (pg_name (i := 20) sc_law.nd rfl (by first | exact .inl rfl | exact .inr rfl))) bgs_nil)))) (fun _ _ _ _ _ => (bts_one (bt_w (bw_and (bt_cmp ob_le (be_var 19 (pv 19)) (be_var 18 (pv 18)) (nomark _)) (bw_and1 (bt_cmp ob_le (be_var 18 (pv 18)) (be_var 20 (pv 20)) (nomark _))))))) (fun _ _ _ _ _ => (be_var 19 (pv 19)))) (be_lst false ba_nil) (nomark _)))) (fun _ _ _ _ _ => (be_var 18 (pv 18))))
      (bss_cons (bs_if (bt_cmp (ob_ne (hu64 hr)) (be_callB (cb_repr gd (hu65 hr)) rfl T.n_repr bb_repr (ba_cons (be_call (ok_in_all T) (hr.mono (by decide)) gd (takes_of rfl rfl rfl rfl) rfl T.d_in_all.m T.d_in_all.F.kp T.d_in_all.b (ba_cons (be_var 6 (pv 6)) ba_nil)) ba_nil)) (be_callB (cb_repr gd (hu65 hr)) rfl T.n_repr bb_repr (ba_cons (be_callB cb_len rfl T.n_len bb_len (ba_cons (be_var 8 (pv 8)) ba_nil)) ba_nil)) (nomark _)) (bss_one (bs_ret be_bl)) bss_nil)
      (bss_cons (bs_if (bt_cmp (ob_ne (hu64 hr)) (be_callB (cb_repr gd (hu65 hr)) rfl T.n_repr bb_repr (ba_cons (be_lst false (ba_cons (be_call (ok_needed T) (hr.mono (by decide)) gd (takes_of rfl rfl rfl rfl) rfl T.d_needed.m T.d_needed.F.kp T.d_needed.b (ba_cons (be_var 5 (pv 5)) (ba_cons be_int (ba_cons (be_var 6 (pv 6)) ba_nil)))) (ba_cons (be_call (ok_need_at T) (hr.mono (by decide)) gd (takes_of rfl rfl rfl rfl) rfl T.d_need_at.m T.d_need_at.F.kp T.d_need_at.b (ba_cons (be_var 5 (pv 5)) (ba_cons be_int (ba_cons (be_var 6 (pv 6)) ba_nil)))) ba_nil))) ba_nil)) (be_callB (cb_repr gd (hu65 hr)) rfl T.n_repr bb_repr (ba_cons (be_lst false (ba_cons (be_callTy cb_tuple rfl T.n_tuple bb_tuple (ba_cons (be_lc (own := [("_law_one", 18)]) false rfl sc_law.nd (blkOk_by (N := N_law) (sc := defScope s_law) (by decide +kernel)) (by decide) (bi_seq (be_var 8 (pv 8))) (fun _ _ _ _ _ => (bg_name (pg_name (i := 18) sc_law.nd rfl (by first | exact .inl rfl | exact .inr rfl)))) (fun _ _ _ _ _ => (bts_one (bt_cmp ob_lt (be_var 18 (pv 18)) (be_var 5 (pv 5)) (nomark _)))) (fun _ _ _ _ _ => (be_var 18 (pv 18)))) ba_nil)) (ba_cons (be_op (ob_add false) be_int (be_callB cb_len rfl T.n_len bb_len (ba_cons (be_lc (own := [("_law_one", 18)]) false rfl sc_law.nd (blkOk_by (N := N_law) (sc := defScope s_law) (by decide +kernel)) (by decide) (bi_seq (be_var 8 (pv 8))) (fun _ _ _ _ _ => (bg_name (pg_name (i := 18) sc_law.nd rfl (by first | exact .inl rfl | exact .inr rfl)))) (fun _ _ _ _ _ => (bts_one (bt_cmp ob_lt (be_var 18 (pv 18)) (be_var 5 (pv 5)) (nomark _)))) (fun _ _ _ _ _ => (be_var 18 (pv 18)))) ba_nil))) ba_nil))) ba_nil)) (nomark _)) (bss_one (bs_ret be_bl)) bss_nil)
      (bss_cons (bs_setLc (own := [("_law_here", 17)]) (i := 9) false rfl sc_law.nd (blkOk_by (N := N_law) (sc := defScope s_law) (by decide +kernel)) (by decide) rfl rfl (sw_true rfl rfl rfl (by decide +kernel)) (bi_range2 rfl T.n_range (be_var 5 (pv 5)) (be_op (ob_add false) (be_var 5 (pv 5)) be_int)) (fun _ _ _ _ _ => (bg_name (pg_name (i := 17) sc_law.nd rfl (by first | exact .inl rfl | exact .inr rfl)))) (fun _ _ _ _ _ => (bts_one (bt_cmp ob_gt (be_op (ob_add false) (be_callB cb_len rfl T.n_len bb_len (ba_cons (be_call (ok_law_needed T) (hr.mono (by decide)) gd takes0 rfl T.d_law_needed.m T.d_law_needed.F.kp T.d_law_needed.b (ba_cons (be_var 17 (pv 17)) (ba_cons (be_var 4 (pv 4)) (ba_cons (be_var 6 (pv 6)) ba_nil)))) ba_nil)) be_int) (be_var 3 (pv 3)) (nomark _)))) (fun _ _ _ _ _ => (be_var 17 (pv 17))))
      (bss_cons (bs_set (i := 10) sc_law.nd rfl (.inl rfl) (be_call (ok_first_full T) (hr.mono (by decide)) gd (takes_of rfl rfl rfl rfl) rfl T.d_first_full.m T.d_first_full.F.kp T.d_first_full.b (ba_cons (be_var 3 (pv 3)) (ba_cons (be_var 4 (pv 4)) (ba_cons (be_var 5 (pv 5)) (ba_cons (be_var 6 (pv 6)) ba_nil))))))
      (bss_cons (bs_if (bt_w (bw_or (bt_cmp (ob_ne (hu64 hr)) (be_callB (cb_repr gd (hu65 hr)) rfl T.n_repr bb_repr (ba_cons (be_var 10 (pv 10)) ba_nil)) (be_callB (cb_repr gd (hu65 hr)) rfl T.n_repr bb_repr (ba_cons (be_if (bt_cmp (ob_ne (hu64 hr)) (be_var 9 (pv 9)) (be_lst false ba_nil) (nomark _)) (be_ix (be_var 9 (pv 9)) be_int (fun _ _ => rfl)) be_non) ba_nil)) (nomark _)) (bw_or1 (bt_cmp (ob_ne (hu64 hr)) (be_cmp ob_is (be_var 10 (pv 10)) be_non (nomark _)) (be_cmp ob_le (be_op (ob_add false) (be_op (ob_add false) (be_callB cb_len rfl T.n_len bb_len (ba_cons (be_var 8 (pv 8)) ba_nil)) (be_var 4 (pv 4))) be_int) (be_var 3 (pv 3)) (nomark _)) (nomark _))))) (bss_one (bs_ret be_bl)) bss_nil)
      (bss_cons (bs_if (bt_cmp (ob_ne (hu64 hr)) (be_callB (cb_repr gd (hu65 hr)) rfl T.n_repr bb_repr (ba_cons (be_callK0 (π := [3, 2, 1, 0]) (ks := ["stretches", "number", "last", "slots"]) (ok_first_full T) (hr.mono (by decide)) gd (takes_of rfl rfl rfl rfl) rfl T.d_first_full.m T.d_first_full.F.kp T.kw_first_full_0_stretches_number_last_slots (bk_cons (be_var 6 (pv 6)) (bk_cons (be_var 5 (pv 5)) (bk_cons (be_var 4 (pv 4)) (bk_cons (be_var 3 (pv 3)) bk_nil))))) ba_nil)) (be_callB (cb_repr gd (hu65 hr)) rfl T.n_repr bb_repr (ba_cons (be_var 10 (pv 10)) ba_nil)) (nomark _)) (bss_one (bs_ret be_bl)) bss_nil)
      (bss_cons (bs_if (bt_cmp ob_gt (be_op (ob_add false) (be_callB cb_len rfl T.n_len bb_len (ba_cons (be_var 7 (pv 7)) ba_nil)) be_int) (be_var 3 (pv 3)) (nomark _)) (bss_one bs_continue) bss_nil)
      (bss_cons (bs_set (i := 11) sc_law.nd rfl (.inl rfl) (be_rev false (be_lc (own := [("_law_one", 18)]) false rfl sc_law.nd (blkOk_by (N := N_law) (sc := defScope s_law) (by decide +kernel)) (by decide) (bi_range1 rfl T.n_range (be_var 5 (pv 5))) (fun _ _ _ _ _ => (bg_name (pg_name (i := 18) sc_law.nd rfl (by first | exact .inl rfl | exact .inr rfl)))) (fun _ _ _ _ _ => (bts_one (bt_cmp (ob_nin2 (hu65 hr)) (be_var 18 (pv 18)) (be_var 7 (pv 7)) rfl))) (fun _ _ _ _ _ => (be_var 18 (pv 18))))))
      (bss_cons (bs_set (i := 12) sc_law.nd rfl (.inl rfl) (be_op (ob_add true) (be_var 7 (pv 7)) (be_sl false (be_var 11 (pv 11)) bo_none (bo_some (be_op ob_sub (be_var 3 (pv 3)) (be_callB cb_len rfl T.n_len bb_len (ba_cons (be_var 7 (pv 7)) ba_nil)))))))
      (bss_cons (bs_set (i := 12) sc_law.nd rfl (.inl rfl) (be_op (ob_add true) (be_var 12 (pv 12)) (be_op (ob_mul false) (be_lst false (ba_cons be_non ba_nil)) (be_op ob_sub (be_var 3 (pv 3)) (be_callB cb_len rfl T.n_len bb_len (ba_cons (be_var 12 (pv 12)) ba_nil))))))
      (bss_cons (bs_for (passes_of rfl) rfl (bi_range1 rfl T.n_range (be_var 3 (pv 3))) (bg_name (pg_name (i := 13) sc_law.nd rfl (.inl rfl)))
      (bss_cons (bs_par (i := 14) (j := 15) rfl sc_law.nd rfl rfl (by decide) rfl rfl (ba_cons (be_call (ok_law_take T) (hr.mono (by decide)) gd (takes_of rfl rfl rfl rfl) rfl T.d_law_take.m T.d_law_take.F.kp T.d_law_take.b (ba_cons (be_var 2 (pv 2)) (ba_cons (be_var 3 (pv 3)) ba_nil))) (ba_cons (be_call (ok_law_take T) (hr.mono (by decide)) gd (takes_of rfl rfl rfl rfl) rfl T.d_law_take.m T.d_law_take.F.kp T.d_law_take.b (ba_cons (be_var 2 (pv 2)) (ba_cons (be_var 3 (pv 3)) ba_nil))) ba_nil)) rfl)
      (bss_one (bs_sto2 rfl (be_tup (ba_cons (be_ix (be_var 12 (pv 12)) (be_var 15 (pv 15)) (fun _ _ => rfl)) (ba_cons (be_ix (be_var 12 (pv 12)) (be_var 14 (pv 14)) (fun _ _ => rfl)) ba_nil))) (be_var 12 (pv 12)) (be_var 14 (pv 14)) (be_var 12 (pv 12)) (be_var 15 (pv 15))))))
      (bss_cons (bs_setLc (own := [("_law_one", 18)]) (i := 16) false rfl sc_law.nd (blkOk_by (N := N_law) (sc := defScope s_law) (by decide +kernel)) (by decide) rfl rfl (sw_true rfl rfl rfl (by decide +kernel)) (bi_seq (be_var 12 (pv 12))) (fun _ _ _ _ _ => (bg_name (pg_name (i := 18) sc_law.nd rfl (by first | exact .inl rfl | exact .inr rfl)))) (fun _ _ _ _ _ => (bts_one (bt_w (bw_and (bt_cmp ob_isnot (be_var 18 (pv 18)) be_non (nomark _)) (bw_and1 (bt_cmp (ob_nin2 (hu65 hr)) (be_var 18 (pv 18)) (be_var 7 (pv 7)) rfl)))))) (fun _ _ _ _ _ => (be_var 18 (pv 18))))
      (bss_cons (bs_set (i := 17) sc_law.nd rfl (.inl rfl) (be_if (bt_cmp (ob_in2 (hu65 hr)) be_non (be_var 12 (pv 12)) rfl) (be_idx2 (be_var 12 (pv 12)) be_non (fun h1 h2 => pe_idx2 (hu65 hr) h1 (pa_cons h2 pa_nil))) (be_idx2 (be_var 12 (pv 12)) (be_callB (cb_min rfl) rfl T.n_min bb_min (ba_cons (be_var 16 (pv 16)) ba_nil)) (fun h1 h2 => pe_idx2 (hu65 hr) h1 (pa_cons h2 pa_nil)))))
      (bss_cons (bs_if (bt_cmp (ob_ne (hu64 hr)) (be_callB (cb_repr gd (hu65 hr)) rfl T.n_repr bb_repr (ba_cons (be_call (ok_place_in T) (hr.mono (by decide)) gd (takes_of rfl rfl rfl rfl) rfl T.d_place_in.m T.d_place_in.F.kp T.d_place_in.b (ba_cons (be_callTy cb_tupF rfl T.n_tuple bb_tuple (ba_cons (be_var 12 (pv 12)) ba_nil)) (ba_cons (be_var 5 (pv 5)) (ba_cons (be_var 4 (pv 4)) (ba_cons (be_var 6 (pv 6)) ba_nil))))) ba_nil)) (be_callB (cb_repr gd (hu65 hr)) rfl T.n_repr bb_repr (ba_cons (be_var 17 (pv 17)) ba_nil)) (nomark _)) (bss_one (bs_ret be_bl)) bss_nil)
      (bss_cons (bs_set (i := 14) sc_law.nd rfl (.inl rfl) (be_call (ok_law_take T) (hr.mono (by decide)) gd (takes_of rfl rfl rfl rfl) rfl T.d_law_take.m T.d_law_take.F.kp T.d_law_take.b (ba_cons (be_var 2 (pv 2)) (ba_cons (be_var 3 (pv 3)) ba_nil))))
      (bss_one (bs_if (bt_cmp (ob_nin2 (hu65 hr)) (be_ix (be_var 12 (pv 12)) (be_var 14 (pv 14)) (fun _ _ => rfl)) (be_var 7 (pv 7)) rfl) (bss_cons (bs_sto be_str (be_var 12 (pv 12)) (be_var 14 (pv 14)))
      (bss_one (bs_if (bt_cmp (ob_ne (hu64 hr)) (be_callB (cb_repr gd (hu65 hr)) rfl T.n_repr bb_repr (ba_cons (be_callK0 (π := [3, 2, 1, 0]) (ks := ["stretches", "last", "number", "row"]) (ok_place_in T) (hr.mono (by decide)) gd (takes_of rfl rfl rfl rfl) rfl T.d_place_in.m T.d_place_in.F.kp T.kw_place_in_0_stretches_last_number_row (bk_cons (be_var 6 (pv 6)) (bk_cons (be_var 4 (pv 4)) (bk_cons (be_var 5 (pv 5)) (bk_cons (be_var 12 (pv 12)) bk_nil))))) ba_nil)) (be_callB (cb_repr gd (hu65 hr)) rfl T.n_repr bb_repr (ba_cons (be_var 14 (pv 14)) ba_nil)) (nomark _)) (bss_one (bs_ret be_bl)) bss_nil))) bss_nil))))))))))))))))))))))))))
      (bss_one (bs_ret be_bl)))
end
end K29
namespace K29
open PySem L2 BV
/-! ### the box: draws -/
structure Box (C : Cells) (k : Nat) : Prop where
  ex : ∃ g s : Int, C[k]? = some (.lst [.int g, .int s]) ∧ 0 ≤ g ∧ 0 ≤ s ∧ s < 2 ^ 32
theorem take_spec {C : Cells} {k : Nat} {m : Int} (hC : Flat C) (hb : Box C k) (h0 : 0 < m) (h1 : m < 2 ^ 28) :
    ∃ (r : Int) (bx : List D), d_law_take [.cel k, .int m] C = .ok (.int r) (C.set k (.lst bx)) ∧ 0 ≤ r ∧ r < m ∧ Flat (C.set k (.lst bx)) ∧ Box (C.set k (.lst bx)) k := by
  obtain ⟨g, s, hk, hg, hs, hs2⟩ := hb.ex
  have hkl := (List.getElem?_eq_some_iff.mp hk).1
  have i0 : ixD (.cel k) (.int 0) C = .ok (.int g) C := ix_cel hk (by decide) rfl
  have i1 : ixD (.cel k) (.int 1) C = .ok (.int s) C := ix_cel hk (by decide) rfl
  by_cases hp : g > 0
  · refine ⟨g % m, [.int (g / m), .int s], ?_, Int.emod_nonneg _ (by omega), Int.emod_lt_of_pos _ h0, hC.set k rfl, ⟨g / m, s, by simp [hkl], Int.ediv_nonneg hg (by omega), hs, hs2⟩⟩
    refine den_mut [] (hC.set k rfl) rfl (by simp) ?_ rfl
    have hd : CDiv g m := ⟨h0, by omega⟩
    have st : stoD (.cel k) (.int 0) (.int (g / m)) C = some (C.set k (.lst [.int (g / m), .int s])) := sto_of hk (by decide) (by simp)
    simp [b_law_take, i0, hp, h0, hd, st]
  · have hm : ∀ i j : Int, -(2 ^ 64) < j → j < 2 ^ 64 → CMul i j := fun i j a b => .inr ⟨a, b⟩
    refine ⟨((s * 39373 + 57) % 2147483647 * 2147483629 + ((((s * 39373 + 57) % 2147483647) * 40692 + 50) % 2147483399 + 1)) / 8209 % m, [.int g, .int ((((s * 39373 + 57) % 2147483647) * 40692 + 50) % 2147483399 + 1)], ?_, Int.emod_nonneg _ (by omega), Int.emod_lt_of_pos _ h0, hC.set k rfl,
      ⟨g, (((s * 39373 + 57) % 2147483647) * 40692 + 50) % 2147483399 + 1, by simp [hkl], hg, by omega, by omega⟩⟩
    refine den_mut [] (hC.set k rfl) rfl (by simp) ?_ rfl
    have st : ∀ v, stoD (.cel k) (.int 1) v C = some (C.set k (.lst [.int g, v])) := fun v => sto_of hk (by decide) (by simp)
    have i1' : ∀ v, ixD (.cel k) (.int 1) (C.set k (.lst [.int g, v])) = .ok v (C.set k (.lst [.int g, v])) := fun v => ix_cel (set_get hk) (by decide) rfl
    have c1 : CDiv ((s * 39373 + 57) % 2147483647 * 2147483629 + ((((s * 39373 + 57) % 2147483647) * 40692 + 50) % 2147483399 + 1)) 8209 := ⟨by decide, by decide⟩
    simp [b_law_take, i0, hp, h0, st, i1, i1', hm, c1]
end K29
namespace K29
open PySem L2 BV
theorem scr_at {ns : List Int} {C : Cells} {i : Int} (h0 : 0 ≤ i) (h1 : i < ns.length) : ∃ v, ixD (.scr ns) (.int i) C = .ok (.int v) C := by
  refine ⟨ns[i.toNat]'(by omega), ix_of (asS_scr _ _) h0 ?_⟩
  have : i.toNat < ns.length := by omega
  simp [this]
theorem box_spec {ns : List Int} {C : Cells} {k : Int} (hC : Flat C) (h0 : 0 ≤ k) (h1 : k < 1000) :
    ∃ bx, d_law_box [.scr ns, .int k] C = .ok (.cel C.length) (C ++ [.lst bx]) ∧ Flat (C ++ [.lst bx]) ∧ Box (C ++ [.lst bx]) C.length := by
  have hm : ∀ i j : Int, -(2 ^ 64) < j → j < 2 ^ 64 → CMul i j := fun i j a b => .inr ⟨a, b⟩
  have hm' : ∀ i j : Int, -(2 ^ 64) < i → i < 2 ^ 64 → CMul i j := fun i j a b => .inl ⟨a, b⟩
  have hp : CPow 10 18 := by decide
  -- the state behind the ifs: some number in slot 2
  have mid : ∃ c : Int, 0 ≤ c ∧ (sIf (f2 ltD (fVar 1) (fA oLen (aCons (fVar 0) aNil))) (sSet 2 (fA oAbs (aCons (fA oInt (aCons (f2 ixD (fVar 0) (fVar 1)) aNil)) aNil)))
      (sIf (f2 gtD (fA oLen (aCons (fVar 0) aNil)) (fC (.int 0))) (sSet 2 (f2 (addD false) (fVar 2) (f2 (mulD false) (f2 modD (fA oInt (aCons (fA oAbs (aCons (fA oInt (aCons (f2 ixD (fVar 0) (f2 modD (fA oInt (aCons (fVar 1) aNil)) (fA oLen (aCons (fVar 0) aNil)))) aNil)) aNil)) aNil)) (fC (.int 2147483563))) (fC (.int 50893))))) sNil))
      [some (.scr ns), some (.int k), some (.int (11597 * k + 4673)), none] C = .nx [some (.scr ns), some (.int k), some (.int c), none] C := by
    by_cases a : k < ns.length
    · obtain ⟨v, hv⟩ := scr_at (C := C) h0 a
      exact ⟨if v < 0 then -v else v, by split <;> omega, by simp [a, hv]⟩
    · by_cases b : (0 : Int) < ns.length
      · obtain ⟨v, hv⟩ := scr_at (C := C) (i := k % ns.length) (Int.emod_nonneg _ (by omega)) (Int.emod_lt_of_pos _ b)
        have b' : 0 < ns.length := by omega
        refine ⟨11597 * k + 4673 + (if v < 0 then -v else v) % 2147483563 * 50893, by split <;> omega, ?_⟩
        simp [a, b, b', hv, hm]
      · exact ⟨11597 * k + 4673, by omega, by simp [a, b]; omega⟩
  obtain ⟨c, hc0, hmid⟩ := mid
  refine ⟨[.int (if c ≥ 10 ^ 18 then c else 0), .int ((c % 2147483563 * 40014 + 4673 * k) % 2147483563 + 1)], ?_, hC.append (.one rfl), ⟨if c ≥ 10 ^ 18 then c else 0, (c % 2147483563 * 40014 + 4673 * k) % 2147483563 + 1, by simp, ?_, by omega, by omega⟩⟩
  · have e : b_law_box ([D.scr ns, .int k].map some ++ List.replicate (4 - 2) none) C = .rt (.cel C.length) (C ++ [.lst [.int (if c ≥ 10 ^ 18 then c else 0), .int ((c % 2147483563 * 40014 + 4673 * k) % 2147483563 + 1)]]) := by
      unfold b_law_box
      rw [e_sSeq]
      simp only [List.map_cons, List.map_nil, List.cons_append, List.nil_append, List.replicate, Nat.reduceSub, e_sSet, e_f2, e_c, e_var, List.getElem?_cons_zero, List.getElem?_cons_succ, Res.bind_ok, e_mul_ii, e_add_ii, if_pos (hm' 11597 k (by decide) (by decide)), Res.out_ok, List.set_cons_succ, List.set_cons_zero, Out.then_nx]
      rw [e_sSeq, hmid]
      by_cases g : (1000000000000000000 : Int) ≤ c
      · simp [hp, g, hm, hm']
      · simp [hp, g, hm, hm']
    refine (den_rt (m := true) (np := 2) (N := 4) rfl e).trans ?_
    have := fin_cel (ds := [.int (if c ≥ 10 ^ 18 then c else 0), .int ((c % 2147483563 * 40014 + 4673 * k) % 2147483563 + 1)]) (C := C) (C' := C ++ [.lst [.int (if c ≥ 10 ^ 18 then c else 0), .int ((c % 2147483563 * 40014 + 4673 * k) % 2147483563 + 1)]]) (k := C.length) (by simpa using hC) (Nat.le_refl _) (by simp) rfl
    rw [this, take_app]
  · split <;> omega
end K29
namespace K29
open PySem L2 BV
/-! ### small checks -/
theorem sequence_spec {x : D} {ds : List D} {C : Cells} (hC : Flat C) (h : SeqOf C x ds) : d_is_sequence [x] C = .ok (.bl true) C :=
  den_val0 hC rfl (by simp [b_is_sequence, h.isi]) rfl
def isI : D → Bool
  | .int _ => true
  | _ => false
theorem integer_int {i : Int} {C : Cells} (hC : Flat C) : d_is_integer [.int i] C = .ok (.bl true) C :=
  den_val0 hC rfl (by simp [b_is_integer, isiD, tyD, isTy]) rfl
theorem number_spec {i : Int} {C : Cells} (hC : Flat C) (h : 0 ≤ i) : d_is_number [.int i] C = .ok (.bl true) C :=
  den_val0 hC rfl (by simp [b_is_number, integer_int hC, h]) rfl
theorem below_spec {i m : Int} {C : Cells} (hC : Flat C) (h : 0 ≤ i) : d_is_below [.int i, .int m] C = .ok (.bl (decide (i < m))) C :=
  den_val0 hC rfl (by simp [b_is_below, number_spec hC h]) rfl
theorem need_slots_spec {m : Int} {C : Cells} (hC : Flat C) (h0 : 2 ≤ m) (h1 : m ≤ 64) : d_need_slots [.int m] C = .ok (.int m) C := by
  have h := below_spec (i := m) (m := 65) hC (by omega)
  have a : m < 65 := by omega
  have b : ¬ m < 2 := by omega
  exact den_val0 hC rfl (by simp [b_need_slots, h, a, b]) rfl
theorem need_count_spec {m : Int} {C : Cells} (hC : Flat C) (h0 : 0 ≤ m) : d_need_count [.int m] C = .ok (.int m) C :=
  den_val0 hC rfl (by simp [b_need_count, number_spec hC h0]) rfl
theorem all_true {α : Type} (ds : List α) (C : Cells) : oAll [.lst (ds.map fun _ => .bl true)] C = .ok (.bl true) C := by
  have e : (ds.map fun _ => D.bl true) = (ds.map fun _ => true).map D.bl := by simp [List.map_map, Function.comp_def]
  have e2 : blsC (.lst (ds.map fun _ => .bl true)) C = some (ds.map fun _ => true) := by
    show bls? _ = _
    rw [e, bls?_map]
  simp [oAll, e2]
/-- the stretches: pairs of numbers, the first at most the second -/
def Str1 (z : Int × Int) : Prop := 0 ≤ z.1 ∧ z.1 ≤ z.2
/-- a pair as a tuple or a list -/
def PrOf (d : D) (z : Int × Int) : Prop := d = pD z ∨ d = .lst [.int z.1, .int z.2]
theorem stretch_spec {d : D} {z : Int × Int} {C : Cells} (hC : Flat C) (h : PrOf d z) (hz : Str1 z) : d_is_stretch [d] C = .ok (.bl true) C := by
  obtain ⟨z0, z1⟩ := hz
  have hs : SeqOf C d [.int z.1, .int z.2] := by
    rcases h with rfl | rfl
    · exact .tup _
    · exact .lst _
  have s1 := sequence_spec hC hs
  have n1 := number_spec (i := z.1) hC z0
  have n2 := number_spec (i := z.2) hC (by omega)
  have i0 := hs.ix (i := 0) (by decide) rfl
  have i1 := hs.ix (i := 1) (by decide) rfl
  have hl := hs.len
  have hlc := lc_seq (m := false) (vs := [1]) (i := 0) (j := 1) (ρ := [some d, none]) (ft := fYes) (fe := fA (oCall 1 d_is_number) (aCons (fVar 1) aNil)) hs rfl (fun _ => true) (fun _ => .bl true) (fun _ _ => rfl) (fun x hx _ => by
    simp only [List.mem_cons, List.not_mem_nil, or_false] at hx
    rcases hx with rfl | rfl
    · simp [n1]
    · simp [n2]) (by simp)
  have ha : oAll [.lst [.bl true, .bl true]] C = .ok (.bl true) C := all_true [z.1, z.2] C
  refine den_val0 hC rfl ?_ rfl
  simp [b_is_stretch, ha, s1, hl, hlc, i0, i1, z1, mkL, eq_int]
/-- a row of stretches: what is handed in, what it tells -/
def StrsOf (ds : List D) (zs : List (Int × Int)) : Prop := ds.length = zs.length ∧ ∀ p ∈ ds.zip zs, PrOf p.1 p.2 ∧ Str1 p.2
theorem StrsOf.mem {ds : List D} {zs : List (Int × Int)} (h : StrsOf ds zs) {d : D} (hd : d ∈ ds) : ∃ z, PrOf d z ∧ Str1 z := by
  obtain ⟨j, hj, e⟩ := List.mem_iff_getElem.mp hd
  have hj2 : j < zs.length := by rw [← h.1]; exact hj
  exact ⟨zs[j], h.2 (d, zs[j]) (by rw [← e]; exact List.mem_iff_getElem.mpr ⟨j, by simp; omega, by simp⟩)⟩
def asP (d : D) : D := match d with
  | .lst ds => .tup ds
  | d => d
theorem asP_of {d : D} {z : Int × Int} (h : PrOf d z) : asP d = pD z := by
  rcases h with rfl | rfl <;> rfl
theorem StrsOf.map : ∀ {ds : List D} {zs : List (Int × Int)}, StrsOf ds zs → ds.map asP = zs.map pD
  | [], [], _ => rfl
  | [], z :: zs, h => by have := h.1; simp at this
  | d :: ds, [], h => by have := h.1; simp at this
  | d :: ds, z :: zs, h => by
    have h1 := (h.2 (d, z) (by simp)).1
    have h2 : StrsOf ds zs := ⟨by simpa using h.1, fun p hp => h.2 p (by simp [hp])⟩
    rw [List.map_cons, List.map_cons, asP_of h1, h2.map]
theorem pD_ok (z : Int × Int) (n : Nat) : celOk n (pD z) = true := rfl
theorem pDs_ok (n : Nat) : ∀ zs : List (Int × Int), celsOk n (zs.map pD) = true
  | [] => rfl
  | z :: zs => by simp [celsOk, pD_ok, pDs_ok n zs]
theorem check_spec {x : D} {ds : List D} {zs : List (Int × Int)} {C : Cells} (hC : Flat C) (hx : SeqOf C x ds) (h : StrsOf ds zs) (hl : ds.length ≤ 1000) : d_check_stretches [x] C = .ok (.tup (zs.map pD)) C := by
  have s1 := sequence_spec hC hx
  have l1 := lc_seq (m := false) (vs := [1]) (i := 0) (j := 1) (ρ := [some x, none]) (ft := fYes) (fe := fA (oCall 1 d_is_stretch) (aCons (fVar 1) aNil)) hx rfl (fun _ => true) (fun _ => .bl true) (fun _ _ => rfl) (fun d hd _ => by
    obtain ⟨z, p1, p2⟩ := h.mem hd
    simp [stretch_spec hC p1 p2]) (by omega)
  have l2 := lc_seq (m := false) (vs := [1]) (i := 0) (j := 1) (ρ := [some x, none]) (ft := fYes) (fe := fA oTuple (aCons (fVar 1) aNil)) hx rfl (fun _ => true) asP (fun _ _ => rfl) (fun d hd _ => by
    obtain ⟨z, p1, p2⟩ := h.mem hd
    rcases p1 with rfl | rfl <;> simp [pD, asP]) (by omega)
  rw [List.filter_eq_self.mpr fun _ _ => rfl] at l1 l2
  rw [h.map] at l2
  have ha := all_true ds C
  refine den_val0 hC rfl ?_ (by simp only [celOk]; exact pDs_ok _ _)
  exact seq_nx (C1 := C) (if_f (C1 := C) (by simp [s1, l1, ha, mkL]) rfl) (ret_rt (by simp [l2, mkL]))
end K29
namespace K29
open PySem L2 BV
/-! ### dicts as sets of numbers -/
def dk (ks : List Int) : List (Key × D) := ks.map fun i => (Sum.inl i, D.bl true)
def add1 (ks : List Int) (i : Int) : List Int := if i ∈ ks then ks else ks ++ [i]
def addL (ks L : List Int) : List Int := L.foldl add1 ks
theorem put_dk (ks : List Int) (i : Int) : putD (dk ks) (.inl i) (.bl true) = dk (add1 ks i) := by
  unfold putD add1 dk
  have e : ((ks.map fun j => ((Sum.inl j : Key), D.bl true)).any fun p => decide (p.1 = Sum.inl i)) = decide (i ∈ ks) := by
    rw [List.any_map]
    induction ks with
    | nil => rfl
    | cons j ks ih =>
      rw [List.any_cons, ih]
      by_cases z : j = i
      · subst z; simp
      · have z2 : ¬ i = j := fun q => z q.symm
        simp [z, z2]
  rw [e]
  by_cases h : i ∈ ks
  · simp only [h, decide_true, if_true]
    rw [List.map_map]
    refine List.map_congr_left fun j _ => ?_
    simp only [Function.comp]
    split
    · rename_i z; rw [z]
    · rfl
  · simp [h]
theorem merge_dk : ∀ (ls ks : List Int), mergeD (dk ks) (dk ls) = dk (addL ks ls)
  | [], ks => rfl
  | i :: ls, ks => by
    have e : mergeD (dk ks) (dk (i :: ls)) = mergeD (putD (dk ks) (.inl i) (.bl true)) (dk ls) := rfl
    rw [e, put_dk, merge_dk ls (add1 ks i)]
    rfl
theorem mem_add1 {ks : List Int} {i x : Int} : x ∈ add1 ks i ↔ x ∈ ks ∨ x = i := by
  unfold add1
  split
  · rename_i h
    constructor
    · exact .inl
    · rintro (z | z)
      · exact z
      · rw [z]; exact h
  · simp
theorem mem_addL {x : Int} : ∀ {L ks : List Int}, x ∈ addL ks L ↔ x ∈ ks ∨ x ∈ L
  | [], ks => by simp [addL]
  | i :: L, ks => by
    have e : addL ks (i :: L) = addL (add1 ks i) L := rfl
    rw [e, mem_addL, mem_add1, List.mem_cons, or_assoc]
theorem nd_add1 {ks : List Int} {i : Int} (h : ks.Nodup) : (add1 ks i).Nodup := by
  unfold add1
  split
  · exact h
  · rename_i z
    refine List.nodup_append.mpr ⟨h, by simp, fun a ha b hb e => ?_⟩
    simp at hb
    subst hb
    subst e
    exact z ha
theorem nd_addL : ∀ {L ks : List Int}, ks.Nodup → (addL ks L).Nodup
  | [], ks, h => h
  | i :: L, ks, h => nd_addL (L := L) (nd_add1 h)
theorem len_add1 (ks : List Int) (i : Int) : (add1 ks i).length ≤ ks.length + 1 := by
  unfold add1
  split <;> simp
theorem len_addL : ∀ (L ks : List Int), (addL ks L).length ≤ ks.length + L.length
  | [], ks => by simp [addL]
  | i :: L, ks => by
    have h1 := len_addL L (add1 ks i)
    have h2 := len_add1 ks i
    have e : addL ks (i :: L) = addL (add1 ks i) L := rfl
    rw [e, List.length_cons]
    omega
theorem len_dk (ks : List Int) : (dk ks).length = ks.length := by simp [dk]
theorem keys_dk (ks : List Int) : ((dk ks).map fun p => kD p.1) = ks.map D.int := by
  unfold dk
  rw [List.map_map]
  rfl
theorem dk_ok (n : Nat) : ∀ ks : List Int, celsOk n ((dk ks).map (·.2)) = true
  | [] => rfl
  | i :: ks => by
    have := dk_ok n ks
    simp only [dk, List.map_cons, celsOk, celOk, Bool.true_and] at this ⊢
    exact this
/-- {one: True for one in numbers}, the name in slot j -/
theorem dc_ints {j : Nat} {ρ : Rho} {C : Cells} (hj : j < ρ.length) : ∀ (L ks : List Int), ks.length + L.length ≤ 1000 → dcL (tgN j) fYes (fVar j) (fC (.bl true)) ρ (dk ks) (L.map D.int) C = .ok (dk (addL ks L)) C
  | [], ks, _ => rfl
  | i :: L, ks, h => by
    have e : addL ks (i :: L) = addL (add1 ks i) L := rfl
    have h2 := len_add1 ks i
    simp only [List.length_cons] at h
    rw [e, ← dc_ints hj L (add1 ks i) (by omega), ← put_dk, List.map_cons]
    conv => lhs; unfold dcL
    have hz : (dk ks).length < sizeLine := by
      rw [len_dk]
      have : 1000 < sizeLine := by decide
      omega
    simp [noX, kOf, fYes, fVar, hj, hz, toB]
/-- strictly rising lists with the same members are one -/
theorem rise_one : ∀ {xs ys : List Int}, xs.Pairwise (· < ·) → ys.Pairwise (· < ·) → (∀ x, x ∈ xs ↔ x ∈ ys) → xs = ys
  | [], [], _, _, _ => rfl
  | [], y :: ys, _, _, h => by have := (h y).mpr (by simp); cases this
  | x :: xs, [], _, _, h => by have := (h x).mp (by simp); cases this
  | x :: xs, y :: ys, h1, h2, h => by
    obtain ⟨a1, a2⟩ := List.pairwise_cons.mp h1
    obtain ⟨b1, b2⟩ := List.pairwise_cons.mp h2
    have e : x = y := by
      rcases List.mem_cons.mp ((h x).mp (by simp)) with e | m1
      · exact e
      · rcases List.mem_cons.mp ((h y).mpr (by simp)) with e | m2
        · exact e.symm
        · have q1 := b1 x m1
          have q2 := a1 y m2
          omega
    subst e
    rw [rise_one a2 b2 fun z => ?_]
    constructor
    · intro hz
      rcases List.mem_cons.mp ((h z).mp (List.mem_cons_of_mem _ hz)) with e | m
      · have := a1 z hz
        omega
      · exact m
    · intro hz
      rcases List.mem_cons.mp ((h z).mpr (List.mem_cons_of_mem _ hz)) with e | m
      · have := b1 z hz
        omega
      · exact m
theorem srt_rise {ks : List Int} (h : ks.Nodup) : (srtI ks).Pairwise (· < ·) := by
  have h1 := srtI_up ks
  have h2 : (srtI ks).Nodup := (srtI_perm ks).nodup_iff.mpr h
  refine (h1.and h2).imp fun ⟨a, b⟩ => ?_
  omega
end K29
namespace K29
open PySem L2 BV
def rgI (a b : Int) : List Int := (List.range (b - a).toNat).map fun (i : Nat) => a + (i : Nat)
theorem rg_I (a b : Int) : rg a b = (rgI a b).map D.int := by simp [rg, rgI, List.map_map, Function.comp_def]
theorem mem_rgI {a b x : Int} : x ∈ rgI a b ↔ a ≤ x ∧ x < b := by
  simp only [rgI, List.mem_map, List.mem_range]
  constructor
  · rintro ⟨i, h1, h2⟩
    omega
  · rintro ⟨h1, h2⟩
    exact ⟨(x - a).toNat, by omega, by omega⟩
theorem len_rgI (a b : Int) : (rgI a b).length = (b - a).toNat := by simp [rgI]
/-- {one: True for one in range(a, b)} -/
abbrev dcF (fa fb : Rho → Cells → Res D) : Rho → Cells → Res D := fDc [7] (iRg (rg2 fa fb)) (tgN 7) fYes (fVar 7) (fC (.bl true))
theorem dcF_spec {fa fb : Rho → Cells → Res D} {ρ : Rho} {C : Cells} {a b : Int} (ha : fa ρ C = .ok (.int a) C) (hb : fb ρ C = .ok (.int b) C) (h0 : 0 ≤ a) (h1 : b ≤ 100) (hl : ρ.length = 8) (hr : iRg (rg2 fa fb) ρ C = .ok (.fix (rg a b)) C) :
    dcF fa fb ρ C = .ok (.cel C.length) (C ++ [.dic (dk (addL [] (rgI a b)))]) := by
  unfold dcF fDc
  rw [hr]
  simp only [Res.bind_ok]
  have hw : (wipeD ρ [7]).length = 8 := by simp [wipeD, hl]
  have := dc_ints (j := 7) (ρ := wipeD ρ [7]) (C := C) (by omega) (rgI a b) [] (by rw [len_rgI]; simp; omega)
  rw [rg_I]
  have e0 : dk [] = [] := rfl
  rw [e0] at this
  rw [this]
  rfl
/-- what is to be kept -/
def keepL (n : Int) : List (Int × Int) → List Int → List Int
  | [], acc => acc
  | z :: zs, acc => keepL n zs (addL acc (addL [] (rgI z.1 (min (z.2 + 1) n))))
theorem mem_keepL {n x : Int} : ∀ {zs : List (Int × Int)} {acc : List Int}, x ∈ keepL n zs acc ↔ x ∈ acc ∨ (x < n ∧ ∃ z ∈ zs, z.1 ≤ x ∧ x ≤ z.2)
  | [], acc => by simp [keepL]
  | z :: zs, acc => by
    unfold keepL
    rw [mem_keepL, mem_addL, mem_addL, mem_rgI]
    simp only [List.not_mem_nil, false_or, List.mem_cons, exists_eq_or_imp]
    constructor
    · rintro ((h | ⟨h1, h2⟩) | ⟨h1, h2⟩)
      · exact .inl h
      · exact .inr ⟨by omega, .inl ⟨h1, by omega⟩⟩
      · exact .inr ⟨h1, .inr h2⟩
    · rintro (h | ⟨h1, h2 | h2⟩)
      · exact .inl (.inl h)
      · exact .inl (.inr ⟨h2.1, by omega⟩)
      · exact .inr ⟨h1, h2⟩
theorem nd_keepL {n : Int} : ∀ {zs : List (Int × Int)} {acc : List Int}, acc.Nodup → (keepL n zs acc).Nodup
  | [], acc, h => h
  | z :: zs, acc, h => nd_keepL (zs := zs) (nd_addL h)
end K29
namespace K29
open PySem L2 BV
abbrev bodyN : Rho → Cells → Out := sExpr (fMtK updD (fVar 4) (dcF (fVar 5) (fA oMin (aCons (f2 (addD false) (fVar 6) (fC (.int 1))) (aCons (fVar 0) aNil)))))
theorem min_eq (a n : Int) : (if n < a then n else a) = min a n := by omega
theorem turnN {n l : Int} {x told : D} {o7 : Option D} {z : Int × Int} {acc : List Int} {C T : Cells} (hz : Str1 z) (hn : 0 ≤ n) (hn2 : n ≤ 100) (h1 : z.1 ≤ 100000) (ha : acc.length ≤ 10000) :
    ∃ T', bodyN [some (.int n), some (.int l), some x, some told, some (.cel C.length), some (.int z.1), some (.int z.2), o7] (C ++ .dic (dk acc) :: T) =
      .nx [some (.int n), some (.int l), some x, some told, some (.cel C.length), some (.int z.1), some (.int z.2), o7] (C ++ .dic (dk (addL acc (addL [] (rgI z.1 (min (z.2 + 1) n))))) :: T') := by
  obtain ⟨z0, z1⟩ := hz
  let ρ : Rho := [some (.int n), some (.int l), some x, some told, some (.cel C.length), some (.int z.1), some (.int z.2), o7]
  let E : Cells := C ++ .dic (dk acc) :: T
  have hmin : fA oMin (aCons (f2 (addD false) (fVar 6) (fC (.int 1))) (aCons (fVar 0) aNil)) ρ E = .ok (.int (min (z.2 + 1) n)) E := by
    simp [ρ, min_eq]
  have h5 : fVar 5 ρ E = .ok (.int z.1) E := rfl
  have hr := iRg2_of h5 hmin z0 h1 (by omega) (by omega)
  have hd := dcF_spec h5 hmin z0 (by omega) rfl hr
  have g1 : (E ++ [Cell.dic (dk (addL [] (rgI z.1 (min (z.2 + 1) n))))])[C.length]? = some (.dic (dk acc)) := by simp [E]
  have g2 : (E ++ [Cell.dic (dk (addL [] (rgI z.1 (min (z.2 + 1) n))))])[E.length]? = some (.dic (dk (addL [] (rgI z.1 (min (z.2 + 1) n))))) := by simp
  have hlt : C.length < E.length := by simp [E]
  have hb := len_addL (rgI z.1 (min (z.2 + 1) n)) []
  rw [len_rgI] at hb
  have hsz : (dk acc).length + (dk (addL [] (rgI z.1 (min (z.2 + 1) n)))).length ≤ sizeLine := by
    rw [len_dk, len_dk]
    have : 10100 ≤ sizeLine := by decide
    simp only [List.length_nil] at hb
    omega
  have hu : updD (.cel C.length) (.cel E.length) (E ++ [Cell.dic (dk (addL [] (rgI z.1 (min (z.2 + 1) n))))]) = .ok .non ((E ++ [Cell.dic (dk (addL [] (rgI z.1 (min (z.2 + 1) n))))]).set C.length (.dic (dk (addL acc (addL [] (rgI z.1 (min (z.2 + 1) n))))))) := by
    have hne : C.length ≠ E.length := by omega
    simp only [updD, if_neg hne, g1, g2, if_pos hsz, merge_dk]
  have hdic : dicD (.cel C.length) E = some (dk acc) := by simp [dicD, E]
  refine ⟨T ++ [.dic (dk (addL [] (rgI z.1 (min (z.2 + 1) n))))], expr_nx (d := .non) ?_⟩
  have hs : (E ++ [Cell.dic (dk (addL [] (rgI z.1 (min (z.2 + 1) n))))]).set C.length (.dic (dk (addL acc (addL [] (rgI z.1 (min (z.2 + 1) n)))))) = C ++ .dic (dk (addL acc (addL [] (rgI z.1 (min (z.2 + 1) n))))) :: (T ++ [.dic (dk (addL [] (rgI z.1 (min (z.2 + 1) n))))]) := by
    simp [E]
  rw [← hs]
  have h4 : fVar 4 ρ E = .ok (.cel C.length) E := rfl
  show fMtK updD (fVar 4) _ ρ E = _
  unfold fMtK
  rw [h4]
  simp only [Res.bind_ok, hdic]
  rw [hd]
  exact hu
theorem loopN {n l : Int} {x told : D} {o7 : Option D} {C : Cells} (hn : 0 ≤ n) (hn2 : n ≤ 100) : ∀ (zs : List (Int × Int)) (acc : List Int) (T : Cells) (o5 o6 : Option D), (∀ z ∈ zs, Str1 z ∧ z.1 ≤ 100000) → acc.length + 100 * zs.length ≤ 10000 →
    ∃ T' p5 p6, forL (tgT 2 (tgCons (tgN 5) (tgCons (tgN 6) tgNil))) bodyN (zs.map pD) [some (.int n), some (.int l), some x, some told, some (.cel C.length), o5, o6, o7] (C ++ .dic (dk acc) :: T) =
      .nx [some (.int n), some (.int l), some x, some told, some (.cel C.length), p5, p6, o7] (C ++ .dic (dk (keepL n zs acc)) :: T')
  | [], acc, T, o5, o6, _, _ => ⟨T, o5, o6, rfl⟩
  | z :: zs, acc, T, o5, o6, h, hb => by
    have hz := h z (by simp)
    simp only [List.length_cons] at hb
    obtain ⟨T1, h1⟩ := turnN (l := l) (x := x) (told := told) (o7 := o7) (acc := acc) (C := C) (T := T) hz.1 hn hn2 hz.2 (by omega)
    have l1 := len_addL (addL [] (rgI z.1 (min (z.2 + 1) n))) acc
    have l2 := len_addL (rgI z.1 (min (z.2 + 1) n)) []
    rw [len_rgI] at l2
    simp only [List.length_nil] at l2
    have := hz.1.1
    obtain ⟨T2, p5, p6, h2⟩ := loopN (l := l) (x := x) (told := told) (o7 := o7) (C := C) hn hn2 zs (addL acc (addL [] (rgI z.1 (min (z.2 + 1) n)))) T1 (some (.int z.1)) (some (.int z.2)) (fun y hy => h y (List.mem_cons_of_mem _ hy)) (by omega)
    refine ⟨T2, p5, p6, ?_⟩
    rw [List.map_cons]
    unfold forL
    have ht : tgT 2 (tgCons (tgN 5) (tgCons (tgN 6) tgNil)) (pD z) [some (.int n), some (.int l), some x, some told, some (.cel C.length), o5, o6, o7] = some [some (.int n), some (.int l), some x, some told, some (.cel C.length), some (.int z.1), some (.int z.2), o7] := by
      simp [tgT, tgCons, tgNil, pD]
    rw [ht]
    simp only
    rw [h1]
    exact h2
end K29
namespace K29
open PySem L2 BV
def inZ (zs : List (Int × Int)) (i : Int) : Bool := zs.any fun z => decide (z.1 ≤ i) && decide (i ≤ z.2)
theorem inZ_iff {zs : List (Int × Int)} {i : Int} : inZ zs i = true ↔ ∃ z ∈ zs, z.1 ≤ i ∧ i ≤ z.2 := by
  simp [inZ]
/-- what is to be kept, in order -/
def needL (n l : Int) (zs : List (Int × Int)) : List Int := (rgI 0 n).filter fun i => decide (n - l ≤ i) || inZ zs i
theorem rgI_rise (a b : Int) : (rgI a b).Pairwise (· < ·) := by
  unfold rgI
  refine List.pairwise_map.mpr ((List.pairwise_lt_range (n := (b - a).toNat)).imp fun h => ?_)
  omega
theorem needL_rise (n l : Int) (zs : List (Int × Int)) : (needL n l zs).Pairwise (· < ·) := (rgI_rise 0 n).filter _
theorem rgI_nd (a b : Int) : (rgI a b).Nodup := (rgI_rise a b).imp fun h => by omega
theorem need_srt {n l : Int} {zs : List (Int × Int)} (hz : ∀ z ∈ zs, Str1 z) : srtI (keepL n zs (addL [] (rgI (max 0 (n - l)) n))) = needL n l zs := by
  refine rise_one (srt_rise (nd_keepL (nd_addL .nil))) (needL_rise n l zs) fun x => ?_
  rw [(srtI_perm _).mem_iff, mem_keepL, mem_addL, mem_rgI]
  simp only [needL, List.mem_filter, mem_rgI, Bool.or_eq_true, decide_eq_true_eq, inZ_iff, List.not_mem_nil, false_or]
  constructor
  · rintro (h | ⟨h1, z, h2, h3, h4⟩)
    · exact ⟨by omega, .inl (by omega)⟩
    · have := (hz z h2).1
      exact ⟨by omega, .inr ⟨z, h2, h3, h4⟩⟩
  · rintro ⟨h1, h2 | ⟨z, h2, h3, h4⟩⟩
    · exact .inl (by omega)
    · exact .inr ⟨by omega, z, h2, h3, h4⟩
theorem ints_ok (n : Nat) : ∀ L : List Int, celsOk n (L.map D.int) = true
  | [] => rfl
  | i :: L => by simp [celsOk, celOk, ints_ok n L]
theorem needed_spec {x : D} {ds : List D} {zs : List (Int × Int)} {n l : Int} {C : Cells} (hC : Flat C) (hx : SeqOf C x ds) (h : StrsOf ds zs) (hn : 0 ≤ n) (hn2 : n ≤ 100) (hl : 0 ≤ l) (hl2 : l ≤ 100) (hz : ∀ z ∈ zs, Str1 z ∧ z.1 ≤ 100000) (hlen : zs.length ≤ 10) :
    d_needed [.int n, .int l, x] C = .ok (.tup ((needL n l zs).map D.int)) C := by
  have hck := check_spec hC hx h (by rw [h.1]; omega)
  have hnc := need_count_spec (m := n) hC hn
  let ρ : Rho := [some (.int n), some (.int l), some x, some (.tup (zs.map pD)), none, none, none, none]
  have hmax : fA oMax (aCons (fC (.int 0)) (aCons (f2 subD (fA (oCall 1 d_need_count) (aCons (fVar 0) aNil)) (fVar 1)) aNil)) ρ C = .ok (.int (max 0 (n - l))) C := by
    have e : (if n - l > 0 then n - l else 0) = max 0 (n - l) := by omega
    simp only [ρ, e_fA, e_aCons, e_aNil, e_c, e_f2, e_var, List.getElem?_cons_zero, List.getElem?_cons_succ, Res.bind_ok, e_oCall, List.length_cons, List.length_nil, Nat.zero_add, if_true, hnc, e_sub_ii, e_max_ii, e]
  have h0 : fVar 0 ρ C = .ok (.int n) C := rfl
  have hr := iRg2_of hmax h0 (by omega) (by omega) (by omega) (by omega)
  have hd := dcF_spec hmax h0 (by omega) hn2 rfl hr
  have la := len_addL (rgI (max 0 (n - l)) n) []
  rw [len_rgI] at la
  simp only [List.length_nil] at la
  obtain ⟨T, p5, p6, q⟩ := loopN (l := l) (x := x) (told := .tup (zs.map pD)) (o7 := none) (C := C) hn hn2 zs (addL [] (rgI (max 0 (n - l)) n)) [] none none hz (by omega)
  have hs := need_srt (n := n) (l := l) fun z hm => (hz z hm).1
  have hdic : dicD (.cel C.length) (C ++ .dic (dk (keepL n zs (addL [] (rgI (max 0 (n - l)) n)))) :: T) = some (dk (keepL n zs (addL [] (rgI (max 0 (n - l)) n)))) := by simp [dicD]
  refine den_val (.dic (dk (keepL n zs (addL [] (rgI (max 0 (n - l)) n)))) :: T) hC rfl ?_ (by simp only [celOk]; exact ints_ok _ _)
  refine seq_nx (C1 := C) (ρ1 := ρ) (set_nx (C1 := C) (d := .tup (zs.map pD)) (by simp [hck]) rfl) ?_
  refine seq_nx (C1 := C ++ [.dic (dk (addL [] (rgI (max 0 (n - l)) n)))]) (ρ1 := [some (.int n), some (.int l), some x, some (.tup (zs.map pD)), some (.cel C.length), none, none, none]) (set_nx hd rfl) ?_
  refine seq_nx (C1 := C ++ .dic (dk (keepL n zs (addL [] (rgI (max 0 (n - l)) n)))) :: T) (ρ1 := [some (.int n), some (.int l), some x, some (.tup (zs.map pD)), some (.cel C.length), p5, p6, none]) ?_ (ret_rt ?_)
  · rw [e_sFor]
    have hi : iSeq (fVar 3) [some (.int n), some (.int l), some x, some (.tup (zs.map pD)), some (.cel C.length), none, none, none] (C ++ [.dic (dk (addL [] (rgI (max 0 (n - l)) n)))]) = .ok (.fix (zs.map pD)) (C ++ [.dic (dk (addL [] (rgI (max 0 (n - l)) n)))]) := rfl
    rw [hi]
    simp only [Res.out_ok, e_forS_fix]
    exact q
  · have h4 : aCons (fVar 4) aNil [some (.int n), some (.int l), some x, some (.tup (zs.map pD)), some (.cel C.length), p5, p6, none] (C ++ .dic (dk (keepL n zs (addL [] (rgI (max 0 (n - l)) n)))) :: T) = .ok [.cel C.length] (C ++ .dic (dk (keepL n zs (addL [] (rgI (max 0 (n - l)) n)))) :: T) := rfl
    have hls : oListD false [.cel C.length] (C ++ .dic (dk (keepL n zs (addL [] (rgI (max 0 (n - l)) n)))) :: T) = .ok (.lst ((keepL n zs (addL [] (rgI (max 0 (n - l)) n))).map D.int)) (C ++ .dic (dk (keepL n zs (addL [] (rgI (max 0 (n - l)) n)))) :: T) := by
      simp only [oListD, hdic, keys_dk]
      rfl
    simp only [e_fA] at *
    simp only [e_fA, e_aCons, e_aNil, e_var, List.getElem?_cons_zero, List.getElem?_cons_succ, Res.bind_ok, hls, oSrt2, oSrt, asL, intsD_of, hs, mkL, e_tuple_l, Bool.false_eq_true, if_false]
end K29
namespace K29
open PySem L2 BV
theorem needL_len (n l : Int) (zs : List (Int × Int)) (hn : n ≤ 100) : (needL n l zs).length ≤ 100 := by
  have := List.length_filter_le (fun i => decide (n - l ≤ i) || inZ zs i) (rgI 0 n)
  rw [len_rgI] at this
  unfold needL
  omega
theorem need_at_spec {x : D} {ds : List D} {zs : List (Int × Int)} {n l : Int} {C : Cells} (hC : Flat C) (hx : SeqOf C x ds) (h : StrsOf ds zs) (hn : 0 ≤ n) (hn2 : n ≤ 100) (hl : 0 ≤ l) (hl2 : l ≤ 100) (hz : ∀ z ∈ zs, Str1 z ∧ z.1 ≤ 100000) (hlen : zs.length ≤ 10) :
    d_need_at [.int n, .int l, x] C = .ok (.int ((needL n l zs).length + 1)) C := by
  have hd := needed_spec hC hx h hn hn2 hl hl2 hz hlen
  exact den_val0 hC rfl (by simp [b_need_at, hd]) rfl
/-! ### all stretches together -/
def sumZ : List (Int × Int) → Int → Int → Int
  | [], f, _ => f
  | z :: zs, f, r => sumZ zs (f + max 0 (z.2 - max z.1 (r + 1) + 1)) (max r z.2)
def cov (zs : List (Int × Int)) : Int := ((rgI 0 40).filter (inZ zs)).length
theorem count_mid {a b : Int} (h0 : 0 ≤ a) (h1 : b < 40) : ((rgI 0 40).countP fun i => decide (a ≤ i) && decide (i ≤ b) : Nat) = (b + 1 - a).toNat := by
  have e : (rgI 0 40).filter (fun i => decide (a ≤ i) && decide (i ≤ b)) = rgI a (b + 1) := by
    refine rise_one ((rgI_rise 0 40).filter _) (rgI_rise _ _) fun x => ?_
    rw [List.mem_filter, mem_rgI, mem_rgI]
    simp only [Bool.and_eq_true, decide_eq_true_eq]
    omega
  rw [List.countP_eq_length_filter, e, len_rgI]
theorem countP_or {p q : Int → Bool} : ∀ {L : List Int}, (∀ x ∈ L, ¬ (p x = true ∧ q x = true)) → L.countP (fun x => p x || q x) = L.countP p + L.countP q
  | [], _ => rfl
  | x :: L, h => by
    have ih := countP_or (p := p) (q := q) (L := L) fun y hy => h y (List.mem_cons_of_mem _ hy)
    have hx := h x (by simp)
    simp only [List.countP_cons, ih]
    cases hp : p x <;> cases hq : q x <;> simp_all <;> omega
theorem cov_count (zs : List (Int × Int)) : cov zs = ((rgI 0 40).countP (inZ zs) : Nat) := by
  unfold cov
  rw [List.countP_eq_length_filter]
/-- what holds of the stretches that were gone through -/
structure Gone (pre : List (Int × Int)) (r : Int) : Prop where
  le : ∀ p ∈ pre, p.2 ≤ r
  at' : (pre = [] ∧ r = -1) ∨ ∃ p ∈ pre, p.2 = r
theorem cov_step {pre : List (Int × Int)} {z : Int × Int} {r : Int} (g : Gone pre r) (hp : ∀ p ∈ pre, p.1 ≤ z.1) (hz : Str1 z) (h1 : z.2 < 40) : cov (pre ++ [z]) = cov pre + max 0 (z.2 - max z.1 (r + 1) + 1) := by
  have hz0 := hz.1
  have e : (rgI 0 40).countP (inZ (pre ++ [z])) = (rgI 0 40).countP (fun i => inZ pre i || (decide (max z.1 (r + 1) ≤ i) && decide (i ≤ z.2))) := by
    refine List.countP_congr fun i hi => ?_
    rw [mem_rgI] at hi
    rw [Bool.or_eq_true, inZ_iff, inZ_iff, Bool.and_eq_true, decide_eq_true_eq, decide_eq_true_eq]
    constructor
    · rintro ⟨y, hy, h2, h3⟩
      rcases List.mem_append.mp hy with hy | hy
      · exact .inl ⟨y, hy, h2, h3⟩
      · simp only [List.mem_singleton] at hy
        subst hy
        by_cases hr : i ≤ r
        · rcases g.at' with ⟨_, q⟩ | ⟨p, hp1, hp2⟩
          · omega
          · exact .inl ⟨p, hp1, by have := hp p hp1; omega, by omega⟩
        · exact .inr ⟨by omega, h3⟩
    · rintro (⟨y, hy, h2, h3⟩ | ⟨h2, h3⟩)
      · exact ⟨y, List.mem_append_left _ hy, h2, h3⟩
      · exact ⟨z, by simp, by omega, h3⟩
  rw [cov_count, cov_count, e, countP_or, count_mid]
  · omega
  · omega
  · exact h1
  · rintro x hx ⟨q1, q2⟩
    rw [inZ_iff] at q1
    obtain ⟨p, hp1, h2, h3⟩ := q1
    rw [Bool.and_eq_true, decide_eq_true_eq, decide_eq_true_eq] at q2
    have := g.le p hp1
    omega
theorem sum_cov : ∀ (zs pre : List (Int × Int)) (r : Int), Gone pre r → zs.Pairwise leP → (∀ p ∈ pre, ∀ z ∈ zs, p.1 ≤ z.1) → (∀ z ∈ zs, Str1 z ∧ z.2 < 40) → sumZ zs (cov pre) r = cov (pre ++ zs)
  | [], pre, r, _, _, _, _ => by simp [sumZ]
  | z :: zs, pre, r, g, hs, hp, hz => by
    obtain ⟨s1, s2⟩ := List.pairwise_cons.mp hs
    have hz1 := hz z (by simp)
    unfold sumZ
    rw [← cov_step g (fun p m => hp p m z (by simp)) hz1.1 hz1.2]
    have e : pre ++ z :: zs = (pre ++ [z]) ++ zs := by simp
    rw [e]
    refine sum_cov zs (pre ++ [z]) (max r z.2) ⟨fun p m => ?_, ?_⟩ s2 (fun p m y hy => ?_) fun y hy => hz y (List.mem_cons_of_mem _ hy)
    · rcases List.mem_append.mp m with m | m
      · have := g.le p m
        omega
      · simp only [List.mem_singleton] at m
        subst m
        omega
    · by_cases q : r ≤ z.2
      · exact .inr ⟨z, by simp, by omega⟩
      · rcases g.at' with ⟨_, w⟩ | ⟨p, p1, p2⟩
        · have := hz1.1
          unfold Str1 at this
          omega
        · exact .inr ⟨p, List.mem_append_left _ p1, by omega⟩
    · rcases List.mem_append.mp m with m | m
      · exact hp p m y (List.mem_cons_of_mem _ hy)
      · simp only [List.mem_singleton] at m
        subst m
        have := s1 y hy
        unfold leP at this
        omega
end K29
namespace K29
open PySem L2 BV
theorem cov_perm {zs ys : List (Int × Int)} (h : zs.Perm ys) : cov zs = cov ys := by
  unfold cov
  have e : inZ zs = inZ ys := by
    funext i
    rw [Bool.eq_iff_iff, inZ_iff, inZ_iff]
    exact ⟨fun ⟨z, a, b⟩ => ⟨z, h.mem_iff.mp a, b⟩, fun ⟨z, a, b⟩ => ⟨z, h.mem_iff.mpr a, b⟩⟩
  rw [e]
theorem loopA {x told : D} {C : Cells} : ∀ (zs : List (Int × Int)) (f r : Int) (o4 o5 : Option D), ∃ r' p4 p5, forL (tgT 2 (tgCons (tgN 4) (tgCons (tgN 5) tgNil)))
    (sSeq (sAug 2 (fun a b => a + b) (fA oMax (aCons (fC (.int 0)) (aCons (f2 (addD false) (f2 subD (fVar 5) (fA oMax (aCons (fVar 4) (aCons (f2 (addD false) (fVar 3) (fC (.int 1))) aNil)))) (fC (.int 1))) aNil))))
    (sSet 3 (fA oMax (aCons (fVar 3) (aCons (fVar 5) aNil))))) (zs.map pD) [some x, some told, some (.int f), some (.int r), o4, o5] C =
      .nx [some x, some told, some (.int (sumZ zs f r)), some r', p4, p5] C
  | [], f, r, o4, o5 => ⟨_, o4, o5, rfl⟩
  | z :: zs, f, r, o4, o5 => by
    obtain ⟨r', p4, p5, q⟩ := loopA (x := x) (told := told) (C := C) zs (f + max 0 (z.2 - max z.1 (r + 1) + 1)) (max r z.2) (some (.int z.1)) (some (.int z.2))
    refine ⟨r', p4, p5, ?_⟩
    rw [List.map_cons]
    unfold forL
    have ht : tgT 2 (tgCons (tgN 4) (tgCons (tgN 5) tgNil)) (pD z) [some x, some told, some (.int f), some (.int r), o4, o5] = some [some x, some told, some (.int f), some (.int r), some (.int z.1), some (.int z.2)] := by
      simp [tgT, tgCons, tgNil, pD]
    have e1 : (if r + 1 > z.1 then r + 1 else z.1) = max z.1 (r + 1) := by omega
    have e2 : (if z.2 > r then z.2 else r) = max r z.2 := by omega
    have e3 : ∀ a : Int, (if a > 0 then a else 0) = max 0 a := fun a => by omega
    have hb : sSeq (sAug 2 (fun a b => a + b) (fA oMax (aCons (fC (.int 0)) (aCons (f2 (addD false) (f2 subD (fVar 5) (fA oMax (aCons (fVar 4) (aCons (f2 (addD false) (fVar 3) (fC (.int 1))) aNil)))) (fC (.int 1))) aNil))))
        (sSet 3 (fA oMax (aCons (fVar 3) (aCons (fVar 5) aNil)))) [some x, some told, some (.int f), some (.int r), some (.int z.1), some (.int z.2)] C = .nx [some x, some told, some (.int (f + max 0 (z.2 - max z.1 (r + 1) + 1))), some (.int (max r z.2)), some (.int z.1), some (.int z.2)] C := by
      simp only [e_sSeq, sAug, List.getElem?_cons_zero, List.getElem?_cons_succ, e_fA, e_aCons, e_aNil, e_c, e_f2, e_var, Res.bind_ok, e_add_ii, e_sub_ii, e_max_ii, e1, e3, Res.out_ok, Out.then_nx, e_sSet, List.set_cons_succ, List.set_cons_zero, e2]
    rw [ht]
    simp only
    rw [hb]
    exact q
theorem in_all_spec {x : D} {ds : List D} {zs : List (Int × Int)} {C : Cells} (hC : Flat C) (hx : SeqOf C x ds) (h : StrsOf ds zs) (hz : ∀ z ∈ zs, Str1 z ∧ z.2 < 40) (hlen : zs.length ≤ 10) : d_in_all [x] C = .ok (.int (cov zs)) C := by
  have hck := check_spec hC hx h (by rw [h.1]; omega)
  have hpr : pairsD (zs.map pD) = some zs := by
    clear hck hlen hz h hx
    induction zs with
    | nil => rfl
    | cons z zs ih =>
      rw [List.map_cons]
      show (pairsD (zs.map pD)).map _ = _
      rw [ih]
      rfl
  obtain ⟨r', p4, p5, q⟩ := loopA (x := x) (told := .lst ((srtP zs).map pD)) (C := C) (srtP zs) 0 (-1) none none
  have e0 : cov [] = 0 := rfl
  have hs := sum_cov (srtP zs) [] (-1) ⟨(fun _ m => nomatch m), .inl ⟨rfl, rfl⟩⟩ (srtP_up zs) (fun _ m => nomatch m) fun z m => hz z ((srtP_perm zs).mem_iff.mp m)
  rw [e0, List.nil_append, cov_perm (srtP_perm zs)] at hs
  rw [hs] at q
  refine den_val0 hC rfl ?_ rfl
  refine seq_nx (C1 := C) (ρ1 := [some x, some (.lst ((srtP zs).map pD)), none, none, none, none]) (set_nx (C1 := C) (d := .lst ((srtP zs).map pD)) (by simp [hck, oSrt2, hpr, mkL]) rfl) ?_
  refine seq_nx (C1 := C) (ρ1 := [some x, some (.lst ((srtP zs).map pD)), some (.int 0), some (.int (-1)), none, none]) (by simp [tgT, tgCons, tgNil]) ?_
  refine seq_nx (C1 := C) (ρ1 := [some x, some (.lst ((srtP zs).map pD)), some (.int (cov zs)), some r', p4, p5]) ?_ (ret_rt (by simp))
  rw [e_sFor]
  have hi : iSeq (fVar 1) [some x, some (.lst ((srtP zs).map pD)), some (.int 0), some (.int (-1)), none, none] C = .ok (.fix ((srtP zs).map pD)) C := rfl
  rw [hi]
  simp only [Res.out_ok, e_forS_fix]
  exact q
end K29
namespace K29
open PySem L2 BV
theorem need_last_spec {s v : Int} {C : Cells} (hC : Flat C) (h0 : 1 ≤ v) (h1 : v < s) : d_need_last [.int s, .int v] C = .ok (.int v) C := by
  have h := number_spec (i := v) hC (by omega)
  exact den_val0 hC rfl (by simp [b_need_last, h, h0, h1]) rfl
/-- the first number of a row that asks for more than s slots -/
def firstF (s l : Int) (zs : List (Int × Int)) : List Int → Option Int
  | [] => none
  | h :: L => if ((needL h l zs).length : Int) + 1 > s then some h else firstF s l zs L
theorem first_filter (s l : Int) (zs : List (Int × Int)) : ∀ L : List Int, (L.filter fun h => decide (((needL h l zs).length : Int) + 1 > s)).head? = firstF s l zs L
  | [] => rfl
  | h :: L => by
    unfold firstF
    rw [List.filter_cons]
    by_cases q : ((needL h l zs).length : Int) + 1 > s
    · simp [q]
    · simp only [q, decide_false, Bool.false_eq_true, if_false]
      exact first_filter s l zs L
theorem first_some {s l : Int} {zs : List (Int × Int)} : ∀ {L : List Int} {h : Int}, firstF s l zs L = some h → h ∈ L
  | x :: L, h, e => by
    unfold firstF at e
    split at e
    · cases e; simp
    · exact List.mem_cons_of_mem _ (first_some e)
theorem first_none {s l : Int} {zs : List (Int × Int)} : ∀ {L : List Int}, firstF s l zs L = none ↔ ∀ h ∈ L, ((needL h l zs).length : Int) + 1 ≤ s
  | [] => by simp [firstF]
  | x :: L => by
    unfold firstF
    split
    · rename_i q
      simp only [reduceCtorEq, List.mem_cons, forall_eq_or_imp, false_iff]
      omega
    · rename_i q
      rw [first_none]
      simp only [List.mem_cons, forall_eq_or_imp]
      constructor
      · exact fun h => ⟨by omega, h⟩
      · exact fun h => h.2
/-- a longer row tells the same, if the shorter tells something -/
theorem first_app {s l : Int} {zs : List (Int × Int)} : ∀ {L M : List Int} {h : Int}, firstF s l zs L = some h → firstF s l zs (L ++ M) = some h
  | x :: L, M, h, e => by
    unfold firstF at e
    rw [List.cons_append]
    unfold firstF
    split at e
    · rename_i q
      rw [if_pos q]
      exact e
    · rename_i q
      rw [if_neg q]
      exact first_app e
theorem rgI_app {a b c : Int} (h1 : a ≤ b) (h2 : b ≤ c) : rgI a c = rgI a b ++ rgI b c := by
  refine rise_one (rgI_rise _ _) (List.pairwise_append.mpr ⟨rgI_rise _ _, rgI_rise _ _, fun x hx y hy => ?_⟩) fun x => ?_
  · rw [mem_rgI] at hx hy
    omega
  · rw [List.mem_append, mem_rgI, mem_rgI, mem_rgI]
    omega
/-- what is needed at most -/
theorem needL_le {n l : Int} {zs : List (Int × Int)} (hl : 0 ≤ l) (hz : ∀ z ∈ zs, z.2 < 40) : ((needL n l zs).length : Int) ≤ l + cov zs := by
  have e : needL n l zs = (rgI 0 n).filter fun i => decide (n - l ≤ i) || inZ zs i := rfl
  have h1 : ∀ L : List Int, (L.filter fun i => decide (n - l ≤ i) || inZ zs i).length ≤ L.countP (fun i => decide (n - l ≤ i)) + L.countP (inZ zs) := by
    intro L
    induction L with
    | nil => simp
    | cons x L ih =>
      rw [List.filter_cons, List.countP_cons, List.countP_cons]
      cases q1 : decide (n - l ≤ x) <;> cases q2 : inZ zs x <;> simp_all <;> omega
  have h2 := h1 (rgI 0 n)
  have h3 : ((rgI 0 n).countP fun i => decide (n - l ≤ i)) ≤ l.toNat := by
    have e2 : (rgI 0 n).filter (fun i => decide (n - l ≤ i)) = rgI (max 0 (n - l)) n := by
      refine rise_one ((rgI_rise 0 n).filter _) (rgI_rise _ _) fun x => ?_
      rw [List.mem_filter, mem_rgI, mem_rgI]
      simp only [decide_eq_true_eq]
      omega
    rw [List.countP_eq_length_filter, e2, len_rgI]
    omega
  have h4 : ((rgI 0 n).countP (inZ zs) : Int) ≤ cov zs := by
    rw [cov_count]
    by_cases q : 0 ≤ n
    · by_cases hn : n ≤ 40
      · rw [rgI_app q hn, List.countP_append]
        omega
      · rw [rgI_app (b := 40) (by omega) (show 40 ≤ n by omega), List.countP_append]
        have : (rgI 40 n).countP (inZ zs) = 0 := by
          refine List.countP_eq_zero.mpr fun x hx q2 => ?_
          rw [mem_rgI] at hx
          obtain ⟨z, h5, h6, h7⟩ := inZ_iff.mp q2
          have := hz z h5
          omega
        omega
    · have : rgI 0 n = [] := by
        apply List.eq_nil_of_length_eq_zero
        rw [len_rgI]
        omega
      rw [this]
      simp
  rw [e]
  omega
/-- behind all stretches as much is needed as can be -/
theorem needL_at {n l : Int} {zs : List (Int × Int)} (hl : 0 ≤ l) (h0 : l ≤ n) (hz : ∀ z ∈ zs, Str1 z ∧ z.2 < 40 ∧ z.2 < n - l) : l + cov zs ≤ ((needL n l zs).length : Int) := by
  have h1 : ∀ L : List Int, L.countP (fun i => decide (n - l ≤ i)) + L.countP (fun i => inZ zs i && decide (i < n - l)) ≤ (L.filter fun i => decide (n - l ≤ i) || inZ zs i).length := by
    intro L
    induction L with
    | nil => simp
    | cons x L ih =>
      rw [List.filter_cons, List.countP_cons, List.countP_cons]
      by_cases q1 : n - l ≤ x
      · have q3 : ¬ x < n - l := by omega
        simp only [q1, q3, decide_true, decide_false, Bool.true_or, Bool.and_false, if_true, Bool.false_eq_true, if_false, List.length_cons]
        omega
      · have q3 : x < n - l := by omega
        cases q2 : inZ zs x
        · simp only [q1, q3, decide_true, decide_false, Bool.false_or, Bool.false_and, Bool.false_eq_true, if_false]
          omega
        · simp only [q1, q3, decide_true, decide_false, Bool.false_or, Bool.true_and, Bool.false_eq_true, if_false, if_true, List.length_cons]
          omega
  have h2 := h1 (rgI 0 n)
  have h3 : ((rgI 0 n).countP fun i => decide (n - l ≤ i)) = l.toNat := by
    have e2 : (rgI 0 n).filter (fun i => decide (n - l ≤ i)) = rgI (n - l) n := by
      refine rise_one ((rgI_rise 0 n).filter _) (rgI_rise _ _) fun x => ?_
      rw [List.mem_filter, mem_rgI, mem_rgI]
      simp only [decide_eq_true_eq]
      omega
    rw [List.countP_eq_length_filter, e2, len_rgI]
    omega
  have h4 : cov zs ≤ ((rgI 0 n).countP (fun i => inZ zs i && decide (i < n - l)) : Nat) := by
    have e3 : (rgI 0 40).filter (inZ zs) = (rgI 0 n).filter (fun i => inZ zs i && decide (i < n - l)) := by
      refine rise_one ((rgI_rise 0 40).filter _) ((rgI_rise 0 n).filter _) fun x => ?_
      rw [List.mem_filter, List.mem_filter, mem_rgI, mem_rgI, Bool.and_eq_true, decide_eq_true_eq]
      constructor
      · rintro ⟨h5, h6⟩
        obtain ⟨z, h7, h8, h9⟩ := inZ_iff.mp h6
        have := hz z h7
        exact ⟨by omega, h6, by omega⟩
      · rintro ⟨h5, h6, h7⟩
        obtain ⟨z, h8, h9, h10⟩ := inZ_iff.mp h6
        have := hz z h8
        exact ⟨by omega, h6⟩
    unfold cov
    rw [e3, List.countP_eq_length_filter]
    exact Int.le_refl _
  have e : needL n l zs = (rgI 0 n).filter fun i => decide (n - l ≤ i) || inZ zs i := rfl
  rw [e]
  omega
end K29
namespace K29
open PySem L2 BV
/-- where too much is needed, both rows find the same place -/
theorem first_eq {s l n M : Int} {zs : List (Int × Int)} (hl : 0 ≤ l) (hn : 0 ≤ n) (hM : n ≤ M) (hz : ∀ z ∈ zs, Str1 z ∧ z.2 < 40 ∧ z.2 ≤ M) (hb : M + l + 2 ≤ n + 40) (hc : s < cov zs + l + 1) :
    ∃ h, firstF s l zs (rgI n (M + l + 2)) = some h ∧ firstF s l zs (rgI n (n + 40)) = some h := by
  have h1 := needL_at (n := M + l + 1) (l := l) (zs := zs) hl (by omega) fun z m => ⟨(hz z m).1, (hz z m).2.1, by have := (hz z m).2.2; omega⟩
  cases e : firstF s l zs (rgI n (M + l + 2)) with
  | none =>
    have := first_none.mp e (M + l + 1) (mem_rgI.mpr (by omega))
    omega
  | some h =>
    refine ⟨h, rfl, ?_⟩
    rw [rgI_app (b := M + l + 2) (by omega) hb]
    exact first_app e
/-- where there is room, none is found -/
theorem first_room {s l a b : Int} {zs : List (Int × Int)} (hl : 0 ≤ l) (hz : ∀ z ∈ zs, z.2 < 40) (hc : cov zs + l + 1 ≤ s) : firstF s l zs (rgI a b) = none :=
  first_none.mpr fun h _ => by
    have := needL_le (n := h) hl hz
    omega
end K29
namespace K29
open PySem L2 BV
def optD : Option Int → D
  | some h => .int h
  | none => .non
theorem strs_self {zs : List (Int × Int)} (h : ∀ z ∈ zs, Str1 z) : StrsOf (zs.map pD) zs := by
  refine ⟨by simp, fun p hp => ?_⟩
  obtain ⟨j, hj, e⟩ := List.mem_iff_getElem.mp hp
  simp only [List.getElem_zip, List.getElem_map] at e
  rw [← e]
  exact ⟨.inl rfl, h _ (List.getElem_mem _)⟩
abbrev bodyF : Rho → Cells → Out := sIf (f2 gtD (fA (oCall 3 d_need_at) (aCons (fVar 5) (aCons (fVar 1) (aCons (fVar 4) aNil)))) (fVar 0)) (sRet (fVar 5)) sNil
theorem loopF {s l : Int} {n x : D} {o6 o7 : Option D} {zs : List (Int × Int)} {C : Cells} (hC : Flat C) (hl : 0 ≤ l) (hl2 : l ≤ 100) (hz : ∀ z ∈ zs, Str1 z ∧ z.1 ≤ 100000) (hlen : zs.length ≤ 10) : ∀ (L : List Int) (o : Option D), (∀ h ∈ L, 0 ≤ h ∧ h ≤ 100) →
    (∃ h, firstF s l zs L = some h ∧ forL (tgN 5) bodyF (L.map D.int) [some (.int s), some (.int l), some n, some x, some (.tup (zs.map pD)), o, o6, o7] C = .rt (.int h) C) ∨
    (firstF s l zs L = none ∧ ∃ o', forL (tgN 5) bodyF (L.map D.int) [some (.int s), some (.int l), some n, some x, some (.tup (zs.map pD)), o, o6, o7] C = .nx [some (.int s), some (.int l), some n, some x, some (.tup (zs.map pD)), o', o6, o7] C)
  | [], o, _ => .inr ⟨rfl, o, rfl⟩
  | h :: L, o, hL => by
    obtain ⟨h0, h1⟩ := hL h (by simp)
    have hn := need_at_spec (x := .tup (zs.map pD)) (ds := zs.map pD) (n := h) (l := l) hC (.tup _) (strs_self fun z m => (hz z m).1) h0 h1 hl hl2 hz hlen
    rw [List.map_cons, e_forL_N]
    have e0 : ([some (.int s), some (.int l), some n, some x, some (.tup (zs.map pD)), o, o6, o7] : Rho).set 5 (some (.int h)) = [some (.int s), some (.int l), some n, some x, some (.tup (zs.map pD)), some (.int h), o6, o7] := rfl
    rw [e0]
    unfold firstF
    have ht : f2 gtD (fA (oCall 3 d_need_at) (aCons (fVar 5) (aCons (fVar 1) (aCons (fVar 4) aNil)))) (fVar 0) [some (.int s), some (.int l), some n, some x, some (.tup (zs.map pD)), some (.int h), o6, o7] C = .ok (.bl (decide (((needL h l zs).length : Int) + 1 > s))) C := by
      simp [hn]
    by_cases q : ((needL h l zs).length : Int) + 1 > s
    · rw [if_pos q]
      refine .inl ⟨h, rfl, ?_⟩
      have hb : bodyF [some (.int s), some (.int l), some n, some x, some (.tup (zs.map pD)), some (.int h), o6, o7] C = .rt (.int h) C := if_t (C1 := C) (by rw [ht]; simp [q]) (ret_rt (by simp))
      rw [hb]
      rfl
    · rw [if_neg q]
      have hb : bodyF [some (.int s), some (.int l), some n, some x, some (.tup (zs.map pD)), some (.int h), o6, o7] C = .nx [some (.int s), some (.int l), some n, some x, some (.tup (zs.map pD)), some (.int h), o6, o7] C := if_f (C1 := C) (by rw [ht]; simp [q]) rfl
      rw [hb]
      exact loopF hC hl hl2 hz hlen L (some (.int h)) fun y hy => hL y (List.mem_cons_of_mem _ hy)
end K29
namespace K29
open PySem L2 BV
/-- [end for first, end in told] -/
theorem lc_ends {ρ : Rho} {C : Cells} {i j : Nat} (hi : i < ρ.length) (hj : j < ρ.length) (hij : i ≠ j) : ∀ zs : List (Int × Int), lcL (tgT 2 (tgCons (tgN i) (tgCons (tgN j) tgNil))) fYes (fVar j) ρ (zs.map pD) C = .ok (zs.map fun z => .int z.2) C
  | [] => rfl
  | z :: zs => by
    rw [List.map_cons, List.map_cons]
    unfold lcL lcStep
    have ht : tgT 2 (tgCons (tgN i) (tgCons (tgN j) tgNil)) (pD z) ρ = some ((ρ.set i (some (.int z.1))).set j (some (.int z.2))) := by simp [tgT, tgCons, tgNil, pD]
    rw [ht]
    have hv : fVar j ((ρ.set i (some (.int z.1))).set j (some (.int z.2))) C = .ok (.int z.2) C := by simp [fVar, hj]
    simp only [fYes, e_toB_t, noX, Res.bind_ok, if_true, hv, lc_ends hi hj hij zs]
theorem first_full_spec {x : D} {ds : List D} {zs : List (Int × Int)} {s l n : Int} {C : Cells} (hC : Flat C) (hx : SeqOf C x ds) (h : StrsOf ds zs) (s0 : 2 ≤ s) (s1 : s ≤ 64) (l0 : 1 ≤ l) (l1 : l < s) (l2 : l ≤ 10) (n0 : 0 ≤ n) (n1 : n ≤ 20) (hz : ∀ z ∈ zs, Str1 z ∧ z.2 ≤ 20) (hlen : zs.length ≤ 10) :
    d_first_full [.int s, .int l, .int n, x] C = .ok (optD (firstF s l zs (rgI n (n + 40)))) C := by
  have hz1 : ∀ z ∈ zs, Str1 z ∧ z.1 ≤ 100000 := fun z m => ⟨(hz z m).1, by have := hz z m; have := this.1.2; omega⟩
  have hz2 : ∀ z ∈ zs, Str1 z ∧ z.2 < 40 := fun z m => ⟨(hz z m).1, by have := (hz z m).2; omega⟩
  have hck := check_spec hC hx h (by rw [h.1]; omega)
  have hns := need_slots_spec (m := s) hC s0 s1
  have hnl := need_last_spec (s := s) (v := l) hC l0 l1
  have hnc := need_count_spec (m := n) hC n0
  have hin := in_all_spec (x := .tup (zs.map pD)) (ds := zs.map pD) hC (.tup _) (strs_self fun z m => (hz z m).1) hz2 hlen
  have hok : celOk C.length (optD (firstF s l zs (rgI n (n + 40)))) = true := by cases firstF s l zs (rgI n (n + 40)) <;> rfl
  refine den_val0 hC rfl ?_ hok
  refine seq_nx (C1 := C) (ρ1 := [some (.int s), some (.int l), some (.int n), some x, none, none, none, none]) (expr_nx (d := .int l) (by simp [hns, hnl])) ?_
  refine seq_nx (C1 := C) (ρ1 := [some (.int s), some (.int l), some (.int n), some x, some (.tup (zs.map pD)), none, none, none]) (set_nx (C1 := C) (d := .tup (zs.map pD)) (by simp [hck]) rfl) ?_
  refine seq_nx (C1 := C) (ρ1 := [some (.int s), some (.int l), some (.int n), some x, some (.tup (zs.map pD)), none, none, none]) (expr_nx (d := .int n) (by simp [hnc])) ?_
  by_cases q : cov zs + l + 1 ≤ s
  · rw [first_room (by omega) (fun z m => (hz2 z m).2) q]
    exact seq_rt (if_t (C1 := C) (by simp [hin, q]) (ret_rt (by simp [optD])))
  · refine seq_nx (C1 := C) (if_f (C1 := C) (by simp [hin, q]) rfl) ?_
    cases hm : maxI (n :: zs.map fun z => z.2) with
    | none => cases hm
    | some M =>
      obtain ⟨m1, m2⟩ := maxI_spec hm
      have hnM := m2 n (by simp)
      have hzM : ∀ z ∈ zs, z.2 ≤ M := fun z hh => m2 z.2 (List.mem_cons_of_mem _ (List.mem_map.mpr ⟨z, hh, rfl⟩))
      have hM : M ≤ 20 := by
        rcases List.mem_cons.mp m1 with e | m1
        · omega
        · obtain ⟨z, a, b⟩ := List.mem_map.mp m1
          have := (hz z a).2
          omega
      let ρ : Rho := [some (.int s), some (.int l), some (.int n), some x, some (.tup (zs.map pD)), none, none, none]
      have hls : lcL (tgT 2 (tgCons (tgN 6) (tgCons (tgN 7) tgNil))) fYes (fVar 7) (wipeD ρ [6, 7]) (zs.map pD) C = .ok (zs.map fun z => D.int z.2) C := lc_ends (show 6 < 8 by omega) (show 7 < 8 by omega) (by omega) zs
      have hlc : fLc false [6, 7] (iSeq (fVar 4)) (tgT 2 (tgCons (tgN 6) (tgCons (tgN 7) tgNil))) fYes (fVar 7) ρ C = .ok (.lst (zs.map fun z => D.int z.2)) C :=
        have hi : iSeq (fVar 4) ρ C = .ok (.fix (zs.map pD)) C := rfl
        have hls2 : lcS (tgT 2 (tgCons (tgN 6) (tgCons (tgN 7) tgNil))) fYes (fVar 7) (wipeD ρ [6, 7]) (.fix (zs.map pD)) C = .ok (zs.map fun z => D.int z.2) C := hls
        fLc_of hi hls2 (by rw [List.length_map]; omega)
      have hmx : fA oMax (aCons (f2 (addD false) (fA (oLst false) (aCons (fVar 2) aNil)) (fLc false [6, 7] (iSeq (fVar 4)) (tgT 2 (tgCons (tgN 6) (tgCons (tgN 7) tgNil))) fYes (fVar 7))) aNil) ρ C = .ok (.int M) C := by
        have h1 : fA (oLst false) (aCons (fVar 2) aNil) ρ C = .ok (.lst [.int n]) C := by simp [ρ, mkL]
        have hsz : [D.int n].length + (zs.map fun z => D.int z.2).length ≤ sizeLine := by
          have : 100 ≤ sizeLine := by decide
          simp only [List.length_cons, List.length_nil, List.length_map]
          omega
        have h2 : addD false (.lst [.int n]) (.lst (zs.map fun z => D.int z.2)) C = .ok (.lst ([.int n] ++ zs.map fun z => D.int z.2)) C := by
          simp only [addD, asL, if_pos hsz]
          rfl
        have h3 : ([D.int n] ++ zs.map fun z => D.int z.2) = (n :: zs.map fun z => z.2).map D.int := by simp
        have h4 : oMax [.lst ([.int n] ++ zs.map fun z => D.int z.2)] C = .ok (.int M) C := by
          rw [h3]
          simp only [oMax, intsC, asL, Option.bind_some, ints?_map, hm]
        rw [e_fA, e_aCons, e_f2, h1, Res.bind_ok, hlc, Res.bind_ok, h2]
        simp only [Res.bind_ok, e_aNil, h4]
      have hhi : f2 (addD false) (f2 (addD false) (fA oMax (aCons (f2 (addD false) (fA (oLst false) (aCons (fVar 2) aNil)) (fLc false [6, 7] (iSeq (fVar 4)) (tgT 2 (tgCons (tgN 6) (tgCons (tgN 7) tgNil))) fYes (fVar 7))) aNil)) (fVar 1)) (fC (.int 2)) ρ C = .ok (.int (M + l + 2)) C := by
        rw [e_f2, e_f2, hmx]
        rfl
      have hr := iRg2_of (f := fVar 2) (ρ := ρ) (C := C) (C1 := C) (i := n) rfl hhi (by omega) (by omega) (by omega) (by omega)
      obtain ⟨hh, f1, f2'⟩ := first_eq (s := s) (l := l) (n := n) (M := M) (zs := zs) (by omega) n0 hnM (fun z m => ⟨(hz2 z m).1, (hz2 z m).2, hzM z m⟩) (by omega) (by omega)
      rw [f2']
      have lp := loopF (s := s) (l := l) (n := .int n) (x := x) (o6 := none) (o7 := none) (zs := zs) (C := C) hC (by omega) (by omega) hz1 hlen (rgI n (M + l + 2)) none (fun y hy => by rw [mem_rgI] at hy; omega)
      rcases lp with ⟨h', g1, g2⟩ | ⟨g1, _⟩
      · rw [f1] at g1
        cases g1
        refine seq_rt ?_
        rw [e_sFor, hr, rg_I]
        simp only [Res.out_ok, e_forS_fix]
        exact g2
      · rw [f1] at g1
        cases g1
end K29
namespace K29
open PySem L2 BV
def hitZ (one : Int) (zs : List (Int × Int)) : List (Int × Int) := zs.filter fun z => decide (z.1 ≤ one) && decide (one ≤ z.2)
theorem hit_in (one : Int) (zs : List (Int × Int)) : (hitZ one zs).isEmpty = !inZ zs one := by
  rw [Bool.eq_iff_iff, Bool.not_eq_true', List.isEmpty_iff]
  unfold hitZ
  rw [List.filter_eq_nil_iff, Bool.eq_false_iff]
  constructor
  · intro h q
    obtain ⟨z, a, b, c⟩ := inZ_iff.mp q
    exact h z a (by simp [b, c])
  · intro h z hz q
    simp only [Bool.and_eq_true, decide_eq_true_eq] at q
    exact h (inZ_iff.mpr ⟨z, hz, q.1, q.2⟩)
/-- [first for first, end in stretches if first <= one and one <= end] -/
theorem lc_hits {ρ : Rho} {C : Cells} {i j o : Nat} {one : Int} (hi : i < ρ.length) (hj : j < ρ.length) (hij : i ≠ j) (hoi : o ≠ i) (hoj : o ≠ j) (ho : ρ[o]? = some (some (.int one))) : ∀ zs : List (Int × Int),
    lcL (tgT 2 (tgCons (tgN i) (tgCons (tgN j) tgNil))) (andD (f2 leD (fVar i) (fVar o)) (f2 leD (fVar o) (fVar j))) (fVar i) ρ (zs.map pD) C = .ok ((hitZ one zs).map fun z => D.int z.1) C
  | [] => rfl
  | z :: zs => by
    rw [List.map_cons]
    unfold lcL lcStep
    let ρ2 : Rho := (ρ.set i (some (.int z.1))).set j (some (.int z.2))
    have ht : tgT 2 (tgCons (tgN i) (tgCons (tgN j) tgNil)) (pD z) ρ = some ρ2 := by simp [tgT, tgCons, tgNil, pD, ρ2]
    have gi : ρ2[i]? = some (some (.int z.1)) := by
      show ((ρ.set i (some (.int z.1))).set j (some (.int z.2)))[i]? = _
      rw [List.getElem?_set_ne (Ne.symm hij), List.getElem?_set_self hi]
    have gj : ρ2[j]? = some (some (.int z.2)) := by
      show ((ρ.set i (some (.int z.1))).set j (some (.int z.2)))[j]? = _
      rw [List.getElem?_set_self (by rw [List.length_set]; exact hj)]
    have go : ρ2[o]? = some (some (.int one)) := by
      show ((ρ.set i (some (.int z.1))).set j (some (.int z.2)))[o]? = _
      rw [List.getElem?_set_ne (Ne.symm hoj), List.getElem?_set_ne (Ne.symm hoi), ho]
    have vi : fVar i ρ2 C = .ok (.int z.1) C := by unfold fVar; rw [gi]
    have vj : fVar j ρ2 C = .ok (.int z.2) C := by unfold fVar; rw [gj]
    have vo : fVar o ρ2 C = .ok (.int one) C := by unfold fVar; rw [go]
    have hft : (andD (f2 leD (fVar i) (fVar o)) (f2 leD (fVar o) (fVar j))) ρ2 C = .ok (.bl (decide (z.1 ≤ one) && decide (one ≤ z.2))) C := by
      have hle : ∀ (p q : Int), leD (.int p) (.int q) C = .ok (.bl (decide (p ≤ q))) C := fun _ _ => rfl
      rw [e_and, e_f2, vi, Res.bind_ok, vo, Res.bind_ok, hle]
      by_cases a : z.1 ≤ one
      · simp only [a, decide_true, Res.bind_ok, bl3_bl, if_true, e_f2, vo, vj, Bool.true_and, hle]
      · simp only [a, decide_false, Res.bind_ok, bl3_bl, Bool.false_eq_true, if_false, Bool.false_and]
    rw [ht]
    have ih := lc_hits (C := C) hi hj hij hoi hoj ho zs
    unfold hitZ at ih ⊢
    rw [List.filter_cons]
    simp only [hft, e_toB_t, noX, Res.bind_ok]
    cases q : (decide (z.1 ≤ one) && decide (one ≤ z.2))
    · simp only [Bool.false_eq_true, if_false, ih]
    · simp only [if_true, vi, Res.bind_ok, ih, List.map_cons]
end K29
namespace K29
open PySem L2 BV
theorem toPys_ints : ∀ L : List Int, toPys (L.map D.int) = some (L.map PyData.int)
  | [] => rfl
  | i :: L => by simp [toPys, toPy, toPys_ints L]
theorem lay_ints : ∀ L : List Int, PyData.canLayAll0 (L.map PyData.int) = true ∧ PyData.depthAll (L.map PyData.int) = 0
  | [] => ⟨rfl, rfl⟩
  | i :: L => ⟨by simp [PyData.canLayAll0, PyData.canLay0, (lay_ints L).1], by simp [PyData.depthAll, PyData.depth, (lay_ints L).2]⟩
/-- numbers != [] -/
theorem ne_nil (L : List Int) (C : Cells) : eqD true (.lst (L.map D.int)) (.lst []) C = .ok (.bl (!L.isEmpty)) C := by
  unfold eqD
  simp only [toPyC, toPy, toPys_ints, Option.map_some, toPys]
  rw [if_pos ⟨by simp [SeqAt.shaped, PyData.canLay0, (lay_ints L).1, PyData.depth, (lay_ints L).2], rfl⟩]
  cases L <;> rfl
end K29
namespace K29
open PySem L2 BV
structure Dr (k : Nat) (E : Cells) : Prop where
  fl : Flat E
  bx : Box E k
theorem Box.lt {k : Nat} {E : Cells} (h : Box E k) : k < E.length := by
  obtain ⟨g, s, e, _⟩ := h.ex
  exact (List.getElem?_eq_some_iff.mp e).1
theorem Box.of {k : Nat} {E E' : Cells} (h : Box E k) (e : E'[k]? = E[k]?) : Box E' k := ⟨by rw [e]; exact h.ex⟩
theorem take_k {E : Cells} {k : Nat} {m : Int} (h : Dr k E) (h0 : 0 < m) (h1 : m < 2 ^ 28) : ∃ (r : Int) (E' : Cells), d_law_take [.cel k, .int m] E = .ok (.int r) E' ∧ 0 ≤ r ∧ r < m ∧ Dr k E' ∧ E'.length = E.length ∧ ∀ j, j ≠ k → E'[j]? = E[j]? := by
  obtain ⟨r, bx, e, r0, r1, hF, hB⟩ := take_spec h.fl h.bx h0 h1
  exact ⟨r, _, e, r0, r1, ⟨hF, hB⟩, by simp, fun j hj => by rw [List.getElem?_set_ne (Ne.symm hj)]⟩
theorem box_d {ns : List Int} {C : Cells} {i : Int} (hC : Flat C) (h0 : 0 ≤ i) (h1 : i < 1000) : ∃ E, d_law_box [.scr ns, .int i] C = .ok (.cel C.length) E ∧ Dr C.length E := by
  obtain ⟨bx, e, hF, hB⟩ := box_spec (ns := ns) hC h0 h1
  exact ⟨_, e, hF, hB⟩
theorem flat_set {E : Cells} {q : Nat} {ds : List D} (h : Flat E) (g : celsOk 0 ds = true) : Flat (E.set q (.lst ds)) := h.set q g
/-! ### the law's own stretches -/
abbrev bodyS : Rho → Cells → Out := sSeq (sSet 4 (fA oMax (aCons (fC (.int 0)) (aCons (f2 (addD false) (f2 subD (fVar 1) (fC (.int 5))) (fA (oCall 2 d_law_take) (aCons (fVar 0) (aCons (fC (.int 9)) aNil)))) aNil))))
    (sExpr (fMt1 appD (fVar 2) (fA oTup (aCons (fVar 4) (aCons (f2 (addD false) (fVar 4) (fA (oCall 2 d_law_take) (aCons (fVar 0) (aCons (fC (.int 4)) aNil)))) aNil)))))
structure StS (k q : Nat) (E : Cells) (zs : List (Int × Int)) : Prop where
  d : Dr k E
  lt : k < q
  len : E.length = q + 1
  at' : E[q]? = some (.lst (zs.map pD))
  up : ∀ z ∈ zs, Str1 z ∧ z.2 ≤ 19
theorem turnS {k q : Nat} {E : Cells} {zs : List (Int × Int)} {n : Int} {o3 o4 : Option D} (h : StS k q E zs) (n0 : 0 ≤ n) (n1 : n ≤ 13) (hl : zs.length ≤ 100) :
    ∃ E' z v, bodyS [some (.cel k), some (.int n), some (.cel q), o3, o4] E = .nx [some (.cel k), some (.int n), some (.cel q), o3, some v] E' ∧ StS k q E' (zs ++ [z]) := by
  obtain ⟨r1, E1, e1, a1, b1, d1, l1, k1⟩ := take_k (m := 9) h.d (by decide) (by decide)
  obtain ⟨r2, E2, e2, a2, b2, d2, l2, k2⟩ := take_k (m := 4) d1 (by decide) (by decide)
  have hne : q ≠ k := by have := h.lt; omega
  have g1 : E1[q]? = some (.lst (zs.map pD)) := by rw [k1 q hne]; exact h.at'
  have g2 : E2[q]? = some (.lst (zs.map pD)) := by rw [k2 q hne]; exact g1
  let f : Int := max 0 (n - 5 + r1)
  have hf : (if n - 5 + r1 > 0 then n - 5 + r1 else 0) = f := by omega
  have fin : celsOk 0 ((zs ++ [(f, f + r2)]).map pD) = true := pDs_ok _ _
  refine ⟨E2.set q (.lst ((zs ++ [(f, f + r2)]).map pD)), (f, f + r2), .int f, ?_, ⟨flat_set d2.fl fin, d2.bx.of ?_⟩, h.lt, ?_, ?_, fun z hz => ?_⟩
  · refine seq_nx (C1 := E1) (ρ1 := [some (.cel k), some (.int n), some (.cel q), o3, some (.int f)]) (set_nx (d := .int f) ?_ rfl) (expr_nx (d := .non) ?_)
    · have hs : fA (oCall 2 d_law_take) (aCons (fVar 0) (aCons (fC (.int 9)) aNil)) [some (.cel k), some (.int n), some (.cel q), o3, o4] E = .ok (.int r1) E1 := by simp [e1]
      rw [e_fA]
      simp only [e_aCons, e_aNil, e_c, e_f2, hs, e_var, List.getElem?_cons_zero, List.getElem?_cons_succ, Res.bind_ok, e_sub_ii, e_add_ii, e_max_ii, hf]
    · have hs : fA (oCall 2 d_law_take) (aCons (fVar 0) (aCons (fC (.int 4)) aNil)) [some (.cel k), some (.int n), some (.cel q), o3, some (.int f)] E1 = .ok (.int r2) E2 := by simp [e2]
      have ht : fA oTup (aCons (fVar 4) (aCons (f2 (addD false) (fVar 4) (fA (oCall 2 d_law_take) (aCons (fVar 0) (aCons (fC (.int 4)) aNil)))) aNil)) [some (.cel k), some (.int n), some (.cel q), o3, some (.int f)] E1 = .ok (pD (f, f + r2)) E2 := by
        rw [e_fA]
        simp only [e_aCons, e_aNil, e_c, e_f2, hs, e_var, List.getElem?_cons_zero, List.getElem?_cons_succ, Res.bind_ok, e_add_ii, e_oTup]
        rfl
      have ha := app_of (v := pD (f, f + r2)) g2 (by rw [List.length_map]; omega)
      rw [e_fMt1, e_var]
      simp only [List.getElem?_cons_zero, List.getElem?_cons_succ, Res.bind_ok, asL_celE g1, ht, ha, List.map_append, List.map_cons, List.map_nil]
  · rw [List.getElem?_set_ne hne]
  · rw [List.length_set, l2, l1, h.len]
  · rw [List.getElem?_set_self (by rw [l2, l1, h.len]; omega)]
  · rcases List.mem_append.mp hz with hz | hz
    · exact h.up z hz
    · simp only [List.mem_singleton] at hz
      subst hz
      exact ⟨⟨by omega, by omega⟩, by omega⟩
theorem loopS {k q : Nat} {n : Int} (n0 : 0 ≤ n) (n1 : n ≤ 13) : ∀ (L : List Int) (E : Cells) (zs : List (Int × Int)) (o3 o4 : Option D), StS k q E zs → zs.length + L.length ≤ 10 →
    ∃ E' zs' p3 p4, forL (tgN 3) bodyS (L.map D.int) [some (.cel k), some (.int n), some (.cel q), o3, o4] E = .nx [some (.cel k), some (.int n), some (.cel q), p3, p4] E' ∧ StS k q E' zs' ∧ zs'.length ≤ 10
  | [], E, zs, o3, o4, h, hl => ⟨E, zs, o3, o4, rfl, h, by simpa using hl⟩
  | i :: L, E, zs, o3, o4, h, hl => by
    simp only [List.length_cons] at hl
    obtain ⟨E1, z, v, q1, h1⟩ := turnS (o3 := some (.int i)) (o4 := o4) h n0 n1 (by omega)
    obtain ⟨E2, zs2, p3, p4, q2, h2, l2⟩ := loopS n0 n1 L E1 (zs ++ [z]) (some (.int i)) (some v) h1 (by simp; omega)
    refine ⟨E2, zs2, p3, p4, ?_, h2, l2⟩
    rw [List.map_cons, e_forL_N]
    have e0 : ([some (.cel k), some (.int n), some (.cel q), o3, o4] : Rho).set 3 (some (.int i)) = [some (.cel k), some (.int n), some (.cel q), some (.int i), o4] := rfl
    rw [e0, q1]
    exact q2
theorem stretches_spec {k : Nat} {E : Cells} {n : Int} (h : Dr k E) (n0 : 0 ≤ n) (n1 : n ≤ 13) : ∃ (zs : List (Int × Int)) (E' : Cells), d_law_stretches [.cel k, .int n] E = .ok (.lst (zs.map pD)) E' ∧ Dr k E' ∧ zs.length ≤ 10 ∧ ∀ z ∈ zs, Str1 z ∧ z.2 ≤ 19 := by
  have hk := h.bx.lt
  have d0 : Dr k (E ++ [.lst []]) := ⟨h.fl.append (.one rfl), h.bx.of (by rw [List.getElem?_append_left hk])⟩
  obtain ⟨r, E1, e1, a1, b1, d1, l1, k1⟩ := take_k (m := 4) d0 (by decide) (by decide)
  have s0 : StS k E.length E1 [] := ⟨d1, hk, by rw [l1]; simp, by rw [k1 _ (by omega)]; simp, fun _ m => nomatch m⟩
  obtain ⟨E2, zs, p3, p4, q, s2, l2⟩ := loopS n0 n1 (rgI 0 r) E1 [] none none s0 (by rw [len_rgI]; simp; omega)
  have hF : Flat (E2.take E.length) := fun c hc => s2.d.fl c (List.mem_of_mem_take hc)
  refine ⟨zs, E2.take E.length, ?_, ⟨hF, s2.d.bx.of ?_⟩, l2, s2.up⟩
  · refine (den_rt (C' := E2) (d := .cel E.length) rfl ?_).trans (fin_frz hF (Nat.le_refl _) s2.at' (pDs_ok _ _))
    refine seq_nx (C1 := E ++ [.lst []]) (ρ1 := [some (.cel k), some (.int n), some (.cel E.length), none, none]) (set_nx (d := .cel E.length) (by simp) rfl) ?_
    refine seq_nx (C1 := E2) (ρ1 := [some (.cel k), some (.int n), some (.cel E.length), p3, p4]) ?_ (ret_rt rfl)
    have hr := iRg1_of (f := fA (oCall 2 d_law_take) (aCons (fVar 0) (aCons (fC (.int 4)) aNil))) (ρ := [some (.cel k), some (.int n), some (.cel E.length), none, none]) (C := E ++ [.lst []]) (C1 := E1) (j := r) (by simp [e1]) a1 (by omega)
    rw [e_sFor, hr, rg_I]
    simp only [Res.out_ok, e_forS_fix]
    exact q
  · rw [List.getElem?_take]
    simp [hk]
end K29
namespace K29
open PySem L2 BV
/-! ### the law's own reckoning of what is needed -/
/-- [first for first, end in stretches if ..] != [] -/
theorem hit_test {zs : List (Int × Int)} {ρ : Rho} {C : Cells} {s i j o : Nat} {one : Int} (hs : ρ[s]? = some (some (.lst (zs.map pD)))) (hi : i < ρ.length) (hj : j < ρ.length) (hij : i ≠ j) (hoi : o ≠ i) (hoj : o ≠ j) (ho : ρ[o]? = some (some (.int one))) (hl : zs.length ≤ 1000) :
    f2 (eqD true) (fLc false [i, j] (iSeq (fVar s)) (tgT 2 (tgCons (tgN i) (tgCons (tgN j) tgNil))) (andD (f2 leD (fVar i) (fVar o)) (f2 leD (fVar o) (fVar j))) (fVar i)) (fA (oLst false) aNil) ρ C = .ok (.bl (inZ zs one)) C := by
  have hsrc : iSeq (fVar s) ρ C = .ok (.fix (zs.map pD)) C := by simp [hs]
  have hw : (wipeD ρ [i, j]).length = ρ.length := by simp [wipeD]
  have ho2 : (wipeD ρ [i, j])[o]? = some (some (.int one)) := by
    simp only [e_wipe_cons, e_wipe_nil]
    rw [List.getElem?_set_ne (Ne.symm hoi), List.getElem?_set_ne (Ne.symm hoj), ho]
  have hls := lc_hits (C := C) (ρ := wipeD ρ [i, j]) (by rw [hw]; exact hi) (by rw [hw]; exact hj) hij hoi hoj ho2 zs
  have hle : ((hitZ one zs).map fun z => D.int z.1).length ≤ 100000 := by
    rw [List.length_map]
    have := List.length_filter_le (fun z : Int × Int => decide (z.1 ≤ one) && decide (one ≤ z.2)) zs
    unfold hitZ
    omega
  have hlc := fLc_of (m := false) (vs := [i, j]) hsrc (show lcS _ _ _ (wipeD ρ [i, j]) (.fix (zs.map pD)) C = _ from hls) hle
  have hn := ne_nil ((hitZ one zs).map (·.1)) C
  rw [List.map_map] at hn
  have hn2 : eqD true (.lst ((hitZ one zs).map fun z => D.int z.1)) (.lst []) C = .ok (.bl (inZ zs one)) C := by
    refine hn.trans ?_
    have := hit_in one zs
    rw [List.isEmpty_map, this, Bool.not_not]
  have e0 : fA (oLst false) aNil ρ C = .ok (.lst []) C := by simp
  rw [e_f2, hlc]
  simp only [e_mkL_f, Res.bind_ok, e0, hn2]
abbrev bodyD : Rho → Cells → Out := sIf (orD (f2 geD (fVar 4) (f2 subD (fVar 0) (fVar 1))) (f2 (eqD true) (fLc false [5, 6] (iSeq (fVar 2)) (tgT 2 (tgCons (tgN 5) (tgCons (tgN 6) tgNil))) (andD (f2 leD (fVar 5) (fVar 4)) (f2 leD (fVar 4) (fVar 6))) (fVar 5)) (fA (oLst false) aNil))) (sExpr (fMt1 appD (fVar 3) (fVar 4))) sNil
theorem turnD {n l one : Int} {zs : List (Int × Int)} {acc : List Int} {C : Cells} (hl : zs.length ≤ 10) (ha : acc.length ≤ 10000) :
    bodyD [some (.int n), some (.int l), some (.lst (zs.map pD)), some (.cel C.length), some (.int one), none, none] (C ++ [.lst (acc.map .int)]) =
      .nx [some (.int n), some (.int l), some (.lst (zs.map pD)), some (.cel C.length), some (.int one), none, none] (C ++ [.lst ((if (decide (n - l ≤ one) || inZ zs one) then acc ++ [one] else acc).map .int)]) := by
  let ρ : Rho := [some (.int n), some (.int l), some (.lst (zs.map pD)), some (.cel C.length), some (.int one), none, none]
  let E : Cells := C ++ [.lst (acc.map .int)]
  have ht := hit_test (ρ := ρ) (C := E) (s := 2) (i := 5) (j := 6) (o := 4) (one := one) (zs := zs) rfl (show 5 < 7 by decide) (show 6 < 7 by decide) (by decide) (by decide) (by decide) rfl (by omega)
  have h1 : f2 geD (fVar 4) (f2 subD (fVar 0) (fVar 1)) ρ E = .ok (.bl (decide (n - l ≤ one))) E := rfl
  have hor : orD (f2 geD (fVar 4) (f2 subD (fVar 0) (fVar 1))) (f2 (eqD true) (fLc false [5, 6] (iSeq (fVar 2)) (tgT 2 (tgCons (tgN 5) (tgCons (tgN 6) tgNil))) (andD (f2 leD (fVar 5) (fVar 4)) (f2 leD (fVar 4) (fVar 6))) (fVar 5)) (fA (oLst false) aNil)) ρ E = .ok (.bl (decide (n - l ≤ one) || inZ zs one)) E := by
    rw [e_or, h1]
    by_cases q : n - l ≤ one
    · simp only [Res.bind_ok, q, decide_true, bl3_bl, if_true, Bool.true_or]
    · simp only [Res.bind_ok, q, decide_false, bl3_bl, Bool.false_eq_true, if_false, Bool.false_or, ht]
  have gE : E[C.length]? = some (.lst (acc.map .int)) := by simp [E]
  have happ := app_of (v := .int one) gE (by rw [List.length_map]; omega)
  have hset : E.set C.length (.lst (acc.map D.int ++ [.int one])) = C ++ [.lst ((acc ++ [one]).map .int)] := by simp [E]
  rw [hset] at happ
  cases q : (decide (n - l ≤ one) || inZ zs one)
  · rw [q] at hor
    exact if_f hor rfl
  · rw [q] at hor
    refine if_t hor (expr_nx (d := .non) ?_)
    have h3 : fVar 3 ρ E = .ok (.cel C.length) E := rfl
    have h4 : fVar 4 ρ E = .ok (.int one) E := rfl
    show fMt1 appD (fVar 3) (fVar 4) ρ E = _
    rw [e_fMt1, h3]
    simp only [Res.bind_ok, asL_celE gE, h4, happ, if_true]
theorem loopD {n l : Int} {zs : List (Int × Int)} {C : Cells} (hl : zs.length ≤ 10) : ∀ (L acc : List Int) (o : Option D), acc.length + L.length ≤ 1000 →
    ∃ o', forL (tgN 4) bodyD (L.map D.int) [some (.int n), some (.int l), some (.lst (zs.map pD)), some (.cel C.length), o, none, none] (C ++ [.lst (acc.map .int)]) =
      .nx [some (.int n), some (.int l), some (.lst (zs.map pD)), some (.cel C.length), o', none, none] (C ++ [.lst ((acc ++ L.filter fun i => decide (n - l ≤ i) || inZ zs i).map .int)])
  | [], acc, o, _ => ⟨o, by simp⟩
  | i :: L, acc, o, h => by
    simp only [List.length_cons] at h
    have ht := turnD (n := n) (l := l) (one := i) (zs := zs) (acc := acc) (C := C) hl (by omega)
    obtain ⟨o', q⟩ := loopD (n := n) (l := l) (C := C) hl L (if (decide (n - l ≤ i) || inZ zs i) then acc ++ [i] else acc) (some (.int i)) (by split <;> (try simp only [List.length_append, List.length_cons, List.length_nil]) <;> omega)
    refine ⟨o', ?_⟩
    rw [List.map_cons, e_forL_N]
    have e0 : ([some (.int n), some (.int l), some (.lst (zs.map pD)), some (.cel C.length), o, none, none] : Rho).set 4 (some (.int i)) = [some (.int n), some (.int l), some (.lst (zs.map pD)), some (.cel C.length), some (.int i), none, none] := rfl
    rw [e0, ht, e_loop_nx, q, List.filter_cons]
    cases (decide (n - l ≤ i) || inZ zs i) <;> simp
theorem law_needed_spec {n l : Int} {zs : List (Int × Int)} {C : Cells} (hC : Flat C) (n0 : 0 ≤ n) (n1 : n ≤ 100) (hl : zs.length ≤ 10) : d_law_needed [.int n, .int l, .lst (zs.map pD)] C = .ok (.lst ((needL n l zs).map .int)) C := by
  obtain ⟨o', q⟩ := loopD (n := n) (l := l) (zs := zs) (C := C) hl (rgI 0 n) [] none (by rw [len_rgI]; simp; omega)
  rw [List.nil_append] at q
  have hF : Flat ((C ++ [Cell.lst ((needL n l zs).map D.int)]).take C.length) := by rw [take_app]; exact hC
  refine ((den_rt (C' := C ++ [Cell.lst ((needL n l zs).map D.int)]) (d := .cel C.length) rfl ?_).trans (fin_frz (ds := (needL n l zs).map D.int) hF (Nat.le_refl _) (by simp) (ints_ok _ _))).trans (by rw [take_app])
  refine seq_nx (C1 := C ++ [.lst []]) (ρ1 := [some (.int n), some (.int l), some (.lst (zs.map pD)), some (.cel C.length), none, none, none]) (set_nx (d := .cel C.length) (by simp) rfl) ?_
  refine seq_nx (C1 := C ++ [.lst ((needL n l zs).map .int)]) (ρ1 := [some (.int n), some (.int l), some (.lst (zs.map pD)), some (.cel C.length), o', none, none]) ?_ (ret_rt rfl)
  have hr := iRg1_of (f := fVar 0) (ρ := [some (.int n), some (.int l), some (.lst (zs.map pD)), some (.cel C.length), none, none, none]) (C := C ++ [.lst []]) (C1 := C ++ [.lst []]) (j := n) rfl n0 (by omega)
  rw [e_sFor, hr, rg_I]
  simp only [Res.out_ok, e_forS_fix]
  exact q
end K29
namespace K29
open PySem L2 BV
/-! ### rows of what lies in slots -/
inductive It where
  | n | t | i (k : Int)
  deriving DecidableEq
def dI : It → D
  | .n => .non
  | .t => .str "torn"
  | .i k => .int k
def pI : It → PyData
  | .n => .none
  | .t => .str "torn"
  | .i k => .int k
theorem toPy_I (a : It) : toPy (dI a) = some (pI a) := by cases a <;> rfl
theorem toPys_I : ∀ its : List It, toPys (its.map dI) = some (its.map pI)
  | [] => rfl
  | a :: its => by simp [toPys, toPy_I, toPys_I its]
theorem lay_I (a : It) : (pI a).canLay0 = true ∧ (pI a).depth = 0 := by
  cases a with
  | n => exact ⟨rfl, rfl⟩
  | t => exact ⟨by decide +kernel, rfl⟩
  | i k => exact ⟨rfl, rfl⟩
theorem lays_I : ∀ its : List It, PyData.canLayAll0 (its.map pI) = true ∧ PyData.depthAll (its.map pI) = 0
  | [] => ⟨rfl, rfl⟩
  | a :: its => ⟨by simp [PyData.canLayAll0, (lay_I a).1, (lays_I its).1], by simp [PyData.depthAll, (lay_I a).2, (lays_I its).2]⟩
theorem shaped_I (a : It) : SeqAt.shaped (pI a) = true := by simp [SeqAt.shaped, (lay_I a).1, (lay_I a).2]
theorem shaped_L (its : List It) : SeqAt.shaped (.list (its.map pI)) = true := by simp [SeqAt.shaped, PyData.canLay0, (lays_I its).1, PyData.depth, (lays_I its).2]
theorem shaped_T (its : List It) : SeqAt.shaped (.tuple (its.map pI)) = true := by simp [SeqAt.shaped, PyData.canLay0, (lays_I its).1, PyData.depth, (lays_I its).2]
theorem eqv_I (a b : It) : PyData.eqv (pI a) (pI b) = decide (a = b) := by
  cases a <;> cases b <;> simp [pI, PyData.eqv]
  all_goals rfl
/-- how a row is handed in -/
inductive RowOf (C : Cells) : D → List It → Prop
  | ftp (its : List It) : RowOf C (.ftp (its.map dI)) its
  | lst (its : List It) : RowOf C (.lst (its.map dI)) its
  | cel {k : Nat} {its : List It} : C[k]? = some (.lst (its.map dI)) → RowOf C (.cel k) its
theorem any_I (a : It) : ∀ its : List It, (its.map pI).any (fun z => PyData.eqv z (pI a)) = decide (a ∈ its)
  | [] => rfl
  | b :: its => by
    rw [List.map_cons, List.any_cons, any_I a its, eqv_I]
    by_cases h : b = a
    · subst h; simp
    · have h2 : ¬ a = b := fun e => h e.symm
      simp [h, h2]
theorem RowOf.in2 {C : Cells} {x : D} {its : List It} {a : It} {neg : Bool} (h : RowOf C x its) : in2D neg (dI a) x C = .ok (.bl (if neg then !decide (a ∈ its) else decide (a ∈ its))) C := by
  have hd : dicD x C = none := by
    cases h with
    | ftp => rfl
    | lst => rfl
    | cel e => simp [dicD, e]
  have ha : toPyC (dI a) C = some (pI a) := by cases a <;> rfl
  unfold in2D
  simp only [hd]
  unfold inD
  cases h with
  | ftp =>
    have e : toPyC (.ftp (its.map dI)) C = some (.tuple (its.map pI)) := by simp [toPyC, toPy, toPys_I]
    simp only [ha, e]
    rw [if_pos ⟨shaped_I a, shaped_T its⟩]
    simp only [any_I]
  | lst =>
    have e : toPyC (.lst (its.map dI)) C = some (.list (its.map pI)) := by simp [toPyC, toPy, toPys_I]
    simp only [ha, e]
    rw [if_pos ⟨shaped_I a, shaped_L its⟩]
    simp only [any_I]
  | cel h =>
    rename_i k
    have e : toPyC (.cel k) C = some (.list (its.map pI)) := by simp [toPyC, h, toPys_I]
    simp only [ha, e]
    rw [if_pos ⟨shaped_I a, shaped_L its⟩]
    simp only [any_I]
/-- the first place of an item -/
def place (a : It) (its : List It) : Nat := its.findIdx fun b => decide (b = a)
theorem find_I {a : It} : ∀ {its : List It}, a ∈ its → (its.map pI).findIdx? (fun z => PyData.eqv z (pI a)) = some (place a its)
  | b :: its, h => by
    rw [List.map_cons, List.findIdx?_cons, eqv_I]
    unfold place
    rw [List.findIdx_cons]
    by_cases q : b = a
    · simp [q]
    · have h2 : a ∈ its := by
        rcases List.mem_cons.mp h with e | h
        · exact absurd e.symm q
        · exact h
      have ih := find_I h2
      simp only [q, decide_false, Bool.false_eq_true, if_false, ih]
      rfl
theorem RowOf.idx {ρ : Rho} {C : Cells} {x : D} {its : List It} {a : It} {f g : Rho → Cells → Res D} (h : RowOf C x its) (ha : a ∈ its) (hf : f ρ C = .ok x C) (hg : g ρ C = .ok (dI a) C) : fIdx f g ρ C = .ok (.int (place a its)) C := by
  have hp : toPyC (dI a) C = some (pI a) := by cases a <;> rfl
  unfold fIdx
  rw [hf, Res.bind_ok]
  cases h with
  | ftp =>
    simp only [hg, Res.bind_ok, tidxD, toPys_I, hp]
    rw [if_pos ⟨shaped_T its, shaped_I a⟩, find_I ha]
  | lst =>
    have e : toPyC (.lst (its.map dI)) C = some (.list (its.map pI)) := by simp [toPyC, toPy, toPys_I]
    simp only [asL, hg, Res.bind_ok, idxD, e, hp]
    rw [if_pos ⟨shaped_L its, shaped_I a⟩, find_I ha]
  | cel h =>
    rename_i k
    have e : toPyC (.cel k) C = some (.list (its.map pI)) := by simp [toPyC, h, toPys_I]
    simp only [asL_celE h, hg, Res.bind_ok, idxD, e, hp]
    rw [if_pos ⟨shaped_L its, shaped_I a⟩, find_I ha]
theorem RowOf.isi {C : Cells} {x : D} {its : List It} (h : RowOf C x its) : isiD ["list", "tuple"] x C = .ok (.bl true) C := by
  cases h with
  | ftp => rfl
  | lst => rfl
  | cel h => simp [isiD, tyD, h, isTy]
theorem RowOf.len {C : Cells} {x : D} {its : List It} (h : RowOf C x its) : oLen [x] C = .ok (.int its.length) C := by
  cases h with
  | ftp => simp [oLen, asS]
  | lst => simp [oLen, asS]
  | cel h => rw [oLen_cel h, List.length_map]
theorem RowOf.lc {m : Bool} {vs : List Nat} {i j : Nat} {ft fe : Rho → Cells → Res D} {ρ : Rho} {C : Cells} {x : D} {its : List It} (h : RowOf C x its) (hv : ρ[i]? = some (some x)) (p : D → Bool) (g : D → D)
    (h1 : ∀ d ∈ its.map dI, ft ((wipeD ρ vs).set j (some d)) C = .ok (.bl (p d)) C) (h2 : ∀ d ∈ its.map dI, p d = true → fe ((wipeD ρ vs).set j (some d)) C = .ok (g d) C) (h3 : its.length ≤ 100000) :
    fLc m vs (iSeq (fVar i)) (tgN j) ft fe ρ C = mkL m (((its.map dI).filter p).map g) C := by
  have hl : (((its.map dI).filter p).map g).length ≤ 100000 := by
    rw [List.length_map]
    refine Nat.le_trans (List.length_filter_le _ _) ?_
    rw [List.length_map]
    exact h3
  cases h with
  | ftp => exact fLc_of (C1 := C) (src := .fix (its.map dI)) (by simp [hv]) (lc_map j p g (its.map dI) h1 h2) hl
  | lst => exact fLc_of (C1 := C) (src := .fix (its.map dI)) (by simp [hv]) (lc_map j p g (its.map dI) h1 h2) hl
  | cel h => exact fLc_of (C1 := C) (iSeq_cel (by simp [hv]) h) (lcC_map j h p g h1 h2) hl
end K29
namespace K29
open PySem L2 BV
def okI : It → Prop
  | .i k => 0 ≤ k
  | _ => True
theorem integer_no {C : Cells} (hC : Flat C) {a : It} (h : a = .n ∨ a = .t) : d_is_integer [dI a] C = .ok (.bl false) C := by
  rcases h with rfl | rfl
  · exact den_val0 hC rfl (by simp [b_is_integer, isiD, tyD, isTy, dI]) rfl
  · exact den_val0 hC rfl (by simp [b_is_integer, isiD, tyD, isTy, dI]) rfl
theorem number_no {C : Cells} (hC : Flat C) {a : It} (h : a = .n ∨ a = .t) : d_is_number [dI a] C = .ok (.bl false) C :=
  den_val0 hC rfl (by simp [b_is_number, integer_no hC h]) rfl
theorem form_spec {x : D} {its : List It} {C : Cells} (hC : Flat C) (h : RowOf C x its) (h0 : 2 ≤ its.length) (h1 : its.length ≤ 64) (ho : ∀ a ∈ its, okI a) : d_is_row_form [x] C = .ok (.bl true) C := by
  refine den_val0 hC rfl (show b_is_row_form [some x, none] C = _ from ?_) rfl
  have s1 : d_is_sequence [x] C = .ok (.bl true) C := den_val0 hC rfl (by simp [b_is_sequence, h.isi]) rfl
  have hl := h.lc (m := false) (vs := [1]) (i := 0) (j := 1) (ρ := [some x, none]) (ft := fYes) (fe := (orD (f2 (isD false) (fVar 1) (fC .non)) (orD (fA (oCall 1 d_is_number) (aCons (fVar 1) aNil)) (andD (f1 (isiD ["str"]) (fVar 1)) (f2 (eqD false) (fVar 1) (fC (.str "torn")))))))
    rfl (fun _ => true) (fun _ => .bl true) (fun _ _ => rfl) (fun d hd _ => by
      obtain ⟨a, ha, rfl⟩ := List.mem_map.mp hd
      have hk := ho a ha
      cases a with
      | n => simp [dI, BV.isNon]
      | t =>
        have := number_no (a := .t) hC (.inr rfl)
        simp only [dI] at this
        simp [dI, BV.isNon, this, isiD, tyD, isTy]
      | i k => simp [dI, BV.isNon, number_spec hC hk]) (by omega)
  rw [List.filter_eq_self.mpr fun _ _ => rfl] at hl
  have ha := all_true (its.map dI) C
  have l1 : (2 : Int) ≤ its.length := by omega
  have l2 : (its.length : Int) ≤ 64 := by omega
  exact seq_nx (C1 := C) (if_f (C1 := C) (by simp [s1, h.len, l1, l2]) rfl) (ret_rt (by simp only [e_fA, e_aCons, e_aNil, hl, e_mkL_f, Res.bind_ok, ha]))
/-! ### the place of the next block -/
/-- {one: True for one in needed} -/
theorem dcK {ρ : Rho} {C : Cells} {L : List Int} {f : Rho → Cells → Res D} (hf : f ρ C = .ok (.tup (L.map D.int)) C) (hl : ρ.length = 7) (h : L.length ≤ 1000) :
    fDc [6] (iSeq f) (tgN 6) fYes (fVar 6) (fC (.bl true)) ρ C = .ok (.cel C.length) (C ++ [.dic (dk (addL [] L))]) := by
  unfold fDc
  rw [e_iSeq, hf]
  simp only [Res.bind_ok]
  have := dc_ints (j := 6) (ρ := wipeD ρ [6]) (C := C) (by simp [wipeD, hl]) L [] (by simpa using h)
  have e0 : dk [] = [] := rfl
  rw [e0] at this
  rw [this]
  rfl
/-- what may go of a row of numbers -/
def freeL (keep : List Int) : List It → List Int
  | [] => []
  | .i k :: its => if k ∈ keep then freeL keep its else k :: freeL keep its
  | _ :: its => freeL keep its
theorem mem_freeL {keep : List Int} {x : Int} : ∀ {its : List It}, x ∈ freeL keep its ↔ It.i x ∈ its ∧ x ∉ keep
  | [] => by simp [freeL]
  | .n :: its => by simp [freeL, mem_freeL (its := its)]
  | .t :: its => by simp [freeL, mem_freeL (its := its)]
  | .i k :: its => by
    unfold freeL
    split
    · rename_i h
      rw [mem_freeL]
      constructor
      · exact fun ⟨a, b⟩ => ⟨List.mem_cons_of_mem _ a, b⟩
      · rintro ⟨a, b⟩
        rcases List.mem_cons.mp a with e | a
        · cases e; exact absurd h b
        · exact ⟨a, b⟩
    · rename_i h
      rw [List.mem_cons, mem_freeL]
      constructor
      · rintro (e | ⟨a, b⟩)
        · subst e; exact ⟨by simp, h⟩
        · exact ⟨List.mem_cons_of_mem _ a, b⟩
      · rintro ⟨a, b⟩
        rcases List.mem_cons.mp a with e | a
        · cases e; exact .inl rfl
        · exact .inr ⟨a, b⟩
def isFree (keep : List Int) : D → Bool
  | .int k => !decide (k ∈ keep)
  | _ => false
theorem free_eq (keep : List Int) : ∀ its : List It, ((its.map dI).filter (isFree keep)).map (fun d => d) = (freeL keep its).map D.int
  | [] => rfl
  | .n :: its => by have := free_eq keep its; simpa [freeL, dI, isFree] using this
  | .t :: its => by have := free_eq keep its; simpa [freeL, dI, isFree] using this
  | .i k :: its => by
    have := free_eq keep its
    simp only [List.map_id'] at this ⊢
    by_cases h : k ∈ keep <;> simp [freeL, dI, isFree, h, this]
theorem freeL_len (keep : List Int) : ∀ its : List It, (freeL keep its).length ≤ its.length
  | [] => Nat.le_refl _
  | .n :: its => Nat.le_succ_of_le (freeL_len keep its)
  | .t :: its => Nat.le_succ_of_le (freeL_len keep its)
  | .i k :: its => by
    have := freeL_len keep its
    unfold freeL
    split <;> simp only [List.length_cons] <;> omega
/-- the least -/
def leastI (L : List Int) : Int := (minI L).getD 0
theorem leastI_mem {L : List Int} (h : L ≠ []) : minI L = some (leastI L) ∧ leastI L ∈ L := by
  cases L with
  | nil => exact absurd rfl h
  | cons a L =>
    have e : minI (a :: L) = some (leastI (a :: L)) := rfl
    exact ⟨e, (minI_spec e).1⟩
def placeI (keep : List Int) (its : List It) : Nat := if It.t ∈ its then place .t its else if It.n ∈ its then place .n its else place (.i (leastI (freeL keep its))) its
theorem get_dk {k : Int} : ∀ {ks : List Int}, (getD' (dk ks) (.inl k)).isSome = decide (k ∈ ks)
  | [] => rfl
  | j :: ks => by
    have ih := get_dk (k := k) (ks := ks)
    unfold getD' dk at ih ⊢
    rw [List.map_cons, List.find?_cons]
    by_cases h : j = k
    · subst h; simp
    · have h2 : ¬ k = j := fun e => h e.symm
      simp only [Sum.inl.injEq, h, decide_false, List.mem_cons, h2, false_or]
      exact ih
theorem place_in_spec {x y : D} {its : List It} {ds : List D} {zs : List (Int × Int)} {n l : Int} {C : Cells} (hC : Flat C) (h : RowOf C x its) (h0 : 2 ≤ its.length) (h1 : its.length ≤ 64) (ho : ∀ a ∈ its, okI a)
    (hy : SeqOf C y ds) (hs : StrsOf ds zs) (hn : 0 ≤ n) (hn2 : n ≤ 100) (hl : 0 ≤ l) (hl2 : l ≤ 100) (hz : ∀ z ∈ zs, Str1 z ∧ z.1 ≤ 100000) (hlen : zs.length ≤ 10) (hf : It.t ∉ its → It.n ∉ its → freeL (needL n l zs) its ≠ []) :
    d_place_in [x, .int n, .int l, y] C = .ok (.int (placeI (needL n l zs) its)) C := by
  have hfm := form_spec hC h h0 h1 ho
  have hnd := needed_spec hC hy hs hn hn2 hl hl2 hz hlen
  have hnl := needL_len n l zs hn2
  let E : Cells := C ++ [.dic (dk (addL [] (needL n l zs)))]
  have hE : RowOf E x its := by
    cases h with
    | ftp => exact .ftp _
    | lst => exact .lst _
    | cel e => exact .cel (by rw [List.getElem?_append_left (List.getElem?_eq_some_iff.mp e).1]; exact e)
  let ρ0 : Rho := [some x, some (.int n), some (.int l), some y, none, none, none]
  let ρ1 : Rho := [some x, some (.int n), some (.int l), some y, some (.cel C.length), none, none]
  have hdc := dcK (ρ := ρ0) (C := C) (L := needL n l zs) (f := fA (oCall 3 d_needed) (aCons (fVar 1) (aCons (fVar 2) (aCons (fVar 3) aNil)))) (by simp [ρ0, hnd]) rfl (by omega)
  refine den_val (T := [.dic (dk (addL [] (needL n l zs)))]) hC rfl (show b_place_in ρ0 C = .rt _ E from ?_) rfl
  refine seq_nx (C1 := C) (ρ1 := ρ0) (if_f (C1 := C) (by simp [ρ0, hfm]) rfl) ?_
  refine seq_nx (C1 := E) (ρ1 := ρ1) (set_nx hdc rfl) ?_
  have ht : f2 (in2D false) (fC (.str "torn")) (fVar 0) ρ1 E = .ok (.bl (decide (It.t ∈ its))) E := hE.in2 (a := .t) (neg := false)
  have hnn : f2 (in2D false) (fC .non) (fVar 0) ρ1 E = .ok (.bl (decide (It.n ∈ its))) E := hE.in2 (a := .n) (neg := false)
  have h0v : fVar 0 ρ1 E = .ok x E := rfl
  unfold placeI
  by_cases q1 : It.t ∈ its
  · rw [if_pos q1]
    refine seq_rt (if_t (C1 := E) (by rw [ht, decide_eq_true q1]) (ret_rt ?_))
    exact hE.idx (a := .t) q1 h0v rfl
  · rw [if_neg q1]
    refine seq_nx (C1 := E) (ρ1 := ρ1) (if_f (C1 := E) (by rw [ht, decide_eq_false q1]) rfl) ?_
    by_cases q2 : It.n ∈ its
    · rw [if_pos q2]
      refine seq_rt (if_t (C1 := E) (by rw [hnn, decide_eq_true q2]) (ret_rt ?_))
      exact hE.idx (a := .n) q2 h0v rfl
    · rw [if_neg q2]
      refine seq_nx (C1 := E) (ρ1 := ρ1) (if_f (C1 := E) (by rw [hnn, decide_eq_false q2]) rfl) ?_
      have hfr := hf q1 q2
      obtain ⟨m1, m2⟩ := leastI_mem hfr
      have gE : E[C.length]? = some (.dic (dk (addL [] (needL n l zs)))) := by simp [E]
      have hlc := hE.lc (m := false) (vs := [6]) (i := 0) (j := 6) (ρ := ρ1) (ft := f2 (in2D true) (fVar 6) (fVar 4)) (fe := fVar 6) rfl (isFree (needL n l zs)) (fun d => d) (fun d hd => by
        obtain ⟨a, ha, rfl⟩ := List.mem_map.mp hd
        cases a with
        | n => exact absurd ha q2
        | t => exact absurd ha q1
        | i k =>
          have hd : dicD (.cel C.length) E = some (dk (addL [] (needL n l zs))) := by simp [dicD, gE]
          have hi : in2D true (.int k) (.cel C.length) E = .ok (.bl (isFree (needL n l zs) (.int k))) E := by
            unfold in2D
            simp only [hd, kOf, get_dk, isFree, mem_addL, List.not_mem_nil, false_or, if_true]
          exact hi) (fun d _ _ => rfl) (by omega)
      rw [free_eq] at hlc
      have hln := freeL_len (needL n l zs) its
      refine seq_nx (C1 := E) (ρ1 := [some x, some (.int n), some (.int l), some y, some (.cel C.length), some (.lst ((freeL (needL n l zs) its).map .int)), none]) (set_nx hlc rfl) ?_
      have hne : (freeL (needL n l zs) its).length ≠ 0 := fun e => hfr (List.eq_nil_of_length_eq_zero e)
      have hne2 : (((freeL (needL n l zs) its).length : Int) == 0) = false := by
        rw [beq_eq_false_iff_ne]
        omega
      refine seq_nx (C1 := E) (if_f (C1 := E) (by simp only [e_f2, e_fA, e_aCons, e_aNil, e_var, List.getElem?_cons_zero, List.getElem?_cons_succ, Res.bind_ok, oLen_lst, List.length_map, e_c, eq_int, hne2]) rfl) (ret_rt ?_)
      refine hE.idx (a := .i (leastI (freeL (needL n l zs) its))) (mem_freeL.mp m2).1 rfl ?_
      simp only [e_fA, e_aCons, e_aNil, e_var, List.getElem?_cons_zero, List.getElem?_cons_succ, Res.bind_ok, oMin, intsC, asL, Option.bind_some, ints?_map, m1, dI]
end K29
namespace K29
open PySem L2 BV
abbrev S1 : Rho → Cells → Out := sSet 2 (fA (oCall 2 d_law_box) (aCons (fVar 0) (aCons (fVar 1) aNil)))
abbrev S2 : Rho → Cells → Out := sSet 3 (f2 (addD false) (fC (.int 2)) (fA (oCall 2 d_law_take) (aCons (fVar 2) (aCons (fC (.int 9)) aNil))))
abbrev S3 : Rho → Cells → Out := sAsg (fA oTup (aCons (f2 (addD false) (fC (.int 1)) (fA (oCall 2 d_law_take) (aCons (fVar 2) (aCons (f2 subD (fVar 3) (fC (.int 1))) aNil)))) (aCons (fA (oCall 2 d_law_take) (aCons (fVar 2) (aCons (fC (.int 14)) aNil))) aNil))) (tgT 2 (tgCons (tgN 4) (tgCons (tgN 5) tgNil)))
abbrev S4 : Rho → Cells → Out := sSet 6 (fA (oCall 2 d_law_stretches) (aCons (fVar 2) (aCons (fVar 5) aNil)))
abbrev S5 : Rho → Cells → Out := sSet 7 (fA (oCall 3 d_law_needed) (aCons (fVar 5) (aCons (fVar 4) (aCons (fVar 6) aNil))))
abbrev S6 : Rho → Cells → Out := sIf (f2 (eqD true) (fA oRepr (aCons (fK0 (oCallK0 3 3 [2, 1, 0] d_needed) (aCons (fVar 6) (aCons (fVar 4) (aCons (fVar 5) aNil)))) aNil)) (fA oRepr (aCons (fA oTuple (aCons (fVar 7) aNil)) aNil))) (sRet (fC (.bl false))) sNil
abbrev S7 : Rho → Cells → Out := sIf (orD (f2 (eqD true) (fA oRepr (aCons (fA (oCall 3 d_need_at) (aCons (fVar 5) (aCons (fVar 4) (aCons (fA oTuple (aCons (fVar 6) aNil)) aNil)))) aNil)) (fA oRepr (aCons (f2 (addD false) (fA oLen (aCons (fVar 7) aNil)) (fC (.int 1))) aNil))) (f2 (eqD true) (fA (oCall 1 d_check_stretches) (aCons (fLc false [18] (iSeq (fVar 6)) (tgN 18) fYes (fA (oListD false) (aCons (fVar 18) aNil))) aNil)) (fA oTuple (aCons (fVar 6) aNil)))) (sRet (fC (.bl false))) sNil
abbrev S8 : Rho → Cells → Out := sSet 8 (fLc false [18] (iRg (rg1 (fC (.int 40)))) (tgN 18) (f2 (eqD true) (fLc false [19, 20] (iSeq (fVar 6)) (tgT 2 (tgCons (tgN 19) (tgCons (tgN 20) tgNil))) (andD (f2 leD (fVar 19) (fVar 18)) (f2 leD (fVar 18) (fVar 20))) (fVar 19)) (fA (oLst false) aNil)) (fVar 18))
abbrev S9 : Rho → Cells → Out := sIf (f2 (eqD true) (fA oRepr (aCons (fA (oCall 1 d_in_all) (aCons (fVar 6) aNil)) aNil)) (fA oRepr (aCons (fA oLen (aCons (fVar 8) aNil)) aNil))) (sRet (fC (.bl false))) sNil
abbrev S10 : Rho → Cells → Out := sIf (f2 (eqD true) (fA oRepr (aCons (fA (oLst false) (aCons (fA (oCall 3 d_needed) (aCons (fVar 5) (aCons (fC (.int 0)) (aCons (fVar 6) aNil)))) (aCons (fA (oCall 3 d_need_at) (aCons (fVar 5) (aCons (fC (.int 0)) (aCons (fVar 6) aNil)))) aNil))) aNil)) (fA oRepr (aCons (fA (oLst false) (aCons (fA oTuple (aCons (fLc false [18] (iSeq (fVar 8)) (tgN 18) (f2 ltD (fVar 18) (fVar 5)) (fVar 18)) aNil)) (aCons (f2 (addD false) (fC (.int 1)) (fA oLen (aCons (fLc false [18] (iSeq (fVar 8)) (tgN 18) (f2 ltD (fVar 18) (fVar 5)) (fVar 18)) aNil))) aNil))) aNil))) (sRet (fC (.bl false))) sNil
abbrev S11 : Rho → Cells → Out := sSet 9 (fLc false [17] (iRg (rg2 (fVar 5) (f2 (addD false) (fVar 5) (fC (.int 40))))) (tgN 17) (f2 gtD (f2 (addD false) (fA oLen (aCons (fA (oCall 3 d_law_needed) (aCons (fVar 17) (aCons (fVar 4) (aCons (fVar 6) aNil)))) aNil)) (fC (.int 1))) (fVar 3)) (fVar 17))
abbrev S12 : Rho → Cells → Out := sSet 10 (fA (oCall 4 d_first_full) (aCons (fVar 3) (aCons (fVar 4) (aCons (fVar 5) (aCons (fVar 6) aNil)))))
abbrev S13 : Rho → Cells → Out := sIf (orD (f2 (eqD true) (fA oRepr (aCons (fVar 10) aNil)) (fA oRepr (aCons (ifD (f2 (eqD true) (fVar 9) (fA (oLst false) aNil)) (f2 ixD (fVar 9) (fC (.int 0))) (fC .non)) aNil))) (f2 (eqD true) (f2 (isD false) (fVar 10) (fC .non)) (f2 leD (f2 (addD false) (f2 (addD false) (fA oLen (aCons (fVar 8) aNil)) (fVar 4)) (fC (.int 1))) (fVar 3)))) (sRet (fC (.bl false))) sNil
abbrev S14 : Rho → Cells → Out := sIf (f2 (eqD true) (fA oRepr (aCons (fK0 (oCallK0 4 4 [3, 2, 1, 0] d_first_full) (aCons (fVar 6) (aCons (fVar 5) (aCons (fVar 4) (aCons (fVar 3) aNil))))) aNil)) (fA oRepr (aCons (fVar 10) aNil))) (sRet (fC (.bl false))) sNil
abbrev S15 : Rho → Cells → Out := sIf (f2 gtD (f2 (addD false) (fA oLen (aCons (fVar 7) aNil)) (fC (.int 1))) (fVar 3)) sCt sNil
abbrev S16 : Rho → Cells → Out := sSet 11 (fRev false (fLc false [18] (iRg (rg1 (fVar 5))) (tgN 18) (f2 (in2D true) (fVar 18) (fVar 7)) (fVar 18)))
abbrev S17 : Rho → Cells → Out := sSet 12 (f2 (addD true) (fVar 7) (fSl false (fVar 11) pNo (pSo (f2 subD (fVar 3) (fA oLen (aCons (fVar 7) aNil))))))
abbrev S18 : Rho → Cells → Out := sSet 12 (f2 (addD true) (fVar 12) (f2 (mulD false) (fA (oLst false) (aCons (fC .non) aNil)) (f2 subD (fVar 3) (fA oLen (aCons (fVar 12) aNil)))))
abbrev S19 : Rho → Cells → Out := sFor (iRg (rg1 (fVar 3))) (tgN 13) (sSeq (sPar 14 15 (aCons (fA (oCall 2 d_law_take) (aCons (fVar 2) (aCons (fVar 3) aNil))) (aCons (fA (oCall 2 d_law_take) (aCons (fVar 2) (aCons (fVar 3) aNil))) aNil))) (sSto2 (fA oTup (aCons (f2 ixD (fVar 12) (fVar 15)) (aCons (f2 ixD (fVar 12) (fVar 14)) aNil))) (fVar 12) (fVar 14) (fVar 12) (fVar 15)))
abbrev S20 : Rho → Cells → Out := sSet 16 (fLc false [18] (iSeq (fVar 12)) (tgN 18) (andD (f2 (isD true) (fVar 18) (fC .non)) (f2 (in2D true) (fVar 18) (fVar 7))) (fVar 18))
abbrev S21 : Rho → Cells → Out := sSet 17 (ifD (f2 (in2D false) (fC .non) (fVar 12)) (fIdx (fVar 12) (fC .non)) (fIdx (fVar 12) (fA oMin (aCons (fVar 16) aNil))))
abbrev S22 : Rho → Cells → Out := sIf (f2 (eqD true) (fA oRepr (aCons (fA (oCall 4 d_place_in) (aCons (fA oTupF (aCons (fVar 12) aNil)) (aCons (fVar 5) (aCons (fVar 4) (aCons (fVar 6) aNil))))) aNil)) (fA oRepr (aCons (fVar 17) aNil))) (sRet (fC (.bl false))) sNil
abbrev S23 : Rho → Cells → Out := sSet 14 (fA (oCall 2 d_law_take) (aCons (fVar 2) (aCons (fVar 3) aNil)))
abbrev S24 : Rho → Cells → Out := sIf (f2 (in2D true) (f2 ixD (fVar 12) (fVar 14)) (fVar 7)) (sSeq (sSto (fC (.str "torn")) (fVar 12) (fVar 14)) (sIf (f2 (eqD true) (fA oRepr (aCons (fK0 (oCallK0 4 4 [3, 2, 1, 0] d_place_in) (aCons (fVar 6) (aCons (fVar 4) (aCons (fVar 5) (aCons (fVar 12) aNil))))) aNil)) (fA oRepr (aCons (fVar 14) aNil))) (sRet (fC (.bl false))) sNil)) sNil
abbrev bodyL : Rho → Cells → Out := sSeq S1 (sSeq S2 (sSeq S3 (sSeq S4 (sSeq S5 (sSeq S6 (sSeq S7 (sSeq S8 (sSeq S9 (sSeq S10 (sSeq S11 (sSeq S12 (sSeq S13 (sSeq S14 (sSeq S15 (sSeq S16 (sSeq S17 (sSeq S18 (sSeq S19 (sSeq S20 (sSeq S21 (sSeq S22 (sSeq S23 S24))))))))))))))))))))))
theorem law_eq : b_law = sSeq (sFor (iRg (rg1 (fA oMax (aCons (fC (.int 6)) (aCons (fA oMin (aCons (fA oLen (aCons (fVar 0) aNil)) (aCons (fC (.int 15)) aNil))) aNil))))) (tgN 1) bodyL) (sRet (fC (.bl true))) := rfl
structure Qd (s l n : Int) (zs : List (Int × Int)) : Prop where
  s0 : 2 ≤ s
  s1 : s ≤ 10
  l0 : 1 ≤ l
  l1 : l < s
  n0 : 0 ≤ n
  n1 : n ≤ 13
  len : zs.length ≤ 10
  up : ∀ z ∈ zs, Str1 z ∧ z.2 ≤ 19
variable {s l n : Int} {zs : List (Int × Int)} {E : Cells} {a0 a1 a2 a8 a9 a10 a11 a12 a13 a14 a15 a16 a17 : Option D}
abbrev rr (s l n : Int) (zs : List (Int × Int)) (a0 a1 a2 a8 a9 a10 a11 a12 a13 a14 a15 a16 a17 : Option D) : Rho :=
  [a0, a1, a2, some (.int s), some (.int l), some (.int n), some (.lst (zs.map pD)), some (.lst ((needL n l zs).map .int)), a8, a9, a10, a11, a12, a13, a14, a15, a16, a17, none, none, none]
theorem Qd.z1 (q : Qd s l n zs) : ∀ z ∈ zs, Str1 z ∧ z.1 ≤ 100000 := fun z m => ⟨(q.up z m).1, by have := q.up z m; have := this.1.2; omega⟩
theorem Qd.z2 (q : Qd s l n zs) : ∀ z ∈ zs, Str1 z := fun z m => (q.up z m).1
theorem Qd.strs (q : Qd s l n zs) : StrsOf (zs.map pD) zs := strs_self q.z2
theorem call3 (f : List D → Cells → Res D) (x y z : D) (C : Cells) : oCallK0 3 3 [2, 1, 0] f [x, y, z] C = f [z, y, x] C := rfl
theorem call4 (f : List D → Cells → Res D) (x y z w : D) (C : Cells) : oCallK0 4 4 [3, 2, 1, 0] f [x, y, z, w] C = f [w, z, y, x] C := rfl
theorem int_ga {c : Int} (h : c.natAbs < 10 ^ 12) : GA 0 41 (.int c) := ⟨_, .int h⟩
theorem ints_ga {L : List Int} (h : ∀ x ∈ L, 0 ≤ x ∧ x ≤ 1000) : ∀ d ∈ L.map D.int, GA 0 41 d := fun d hd => by
  obtain ⟨x, hx, rfl⟩ := List.mem_map.mp hd
  have := h x hx
  exact int_ga (by omega)
theorem mem_needL {x : Int} (h : x ∈ needL n l zs) : 0 ≤ x ∧ x < n := by
  have := (List.mem_filter.mp h).1
  exact mem_rgI.mp this
theorem needT_ga {m : Int} (hn : n ≤ 100) : GA 1 4200 (.tup ((needL n m zs).map .int)) := by
  refine (GA.tup (ints_ga fun x hx => by have := mem_needL hx; omega)).mono (Nat.le_refl _) ?_
  rw [List.length_map]
  have := needL_len n m zs hn
  omega
/-- repr(x) != repr(x) is False -/
theorem repr_ne {f g : Rho → Cells → Res D} {ρ : Rho} {C : Cells} {d : D} {a b : Nat} (hf : f ρ C = .ok d C) (hg : g ρ C = .ok d C) (ga : GA a b d) (ha : a ≤ 64) (hb : b ≤ 2 ^ 20) : f2 (eqD true) (fA oRepr (aCons f aNil)) (fA oRepr (aCons g aNil)) ρ C = .ok (.bl false) C := by
  have g := repr_of (C := C) ga ha hb
  simp only [e_f2, e_fA, e_aCons, e_aNil, hf, hg, Res.bind_ok, g, eqD_ss, if_true, decide_true, Bool.not_true]
theorem r6 (q : Qd s l n zs) (hE : Flat E) : S6 (rr s l n zs a0 a1 a2 a8 a9 a10 a11 a12 a13 a14 a15 a16 a17) E = .nx (rr s l n zs a0 a1 a2 a8 a9 a10 a11 a12 a13 a14 a15 a16 a17) E := by
  have h1 := needed_spec (x := .lst (zs.map pD)) (ds := zs.map pD) (zs := zs) (n := n) (l := l) (C := E) hE (.lst _) q.strs q.n0 (by have := q.n1; omega) (by have := q.l0; omega) (by have := q.l1; have := q.s1; omega) q.z1 q.len
  refine if_f (C1 := E) (repr_ne (d := .tup ((needL n l zs).map .int)) ?_ rfl (needT_ga (by have := q.n1; omega)) (by decide) (by decide)) rfl
  exact h1
theorem r7 (q : Qd s l n zs) (hE : Flat E) : S7 (rr s l n zs a0 a1 a2 a8 a9 a10 a11 a12 a13 a14 a15 a16 a17) E = .nx (rr s l n zs a0 a1 a2 a8 a9 a10 a11 a12 a13 a14 a15 a16 a17) E := by
  have h1 := need_at_spec (x := .tup (zs.map pD)) (ds := zs.map pD) (zs := zs) (n := n) (l := l) (C := E) hE (.tup _) q.strs q.n0 (by have := q.n1; omega) (by have := q.l0; omega) (by have := q.l1; have := q.s1; omega) q.z1 q.len
  have hl := needL_len n l zs (by have := q.n1; omega)
  have e1 : f2 (eqD true) (fA oRepr (aCons (fA (oCall 3 d_need_at) (aCons (fVar 5) (aCons (fVar 4) (aCons (fA oTuple (aCons (fVar 6) aNil)) aNil)))) aNil)) (fA oRepr (aCons (f2 (addD false) (fA oLen (aCons (fVar 7) aNil)) (fC (.int 1))) aNil)) (rr s l n zs a0 a1 a2 a8 a9 a10 a11 a12 a13 a14 a15 a16 a17) E = .ok (.bl false) E :=
    repr_ne (d := .int ((needL n l zs).length + 1)) h1 (by simp only [e_f2, e_fA, e_aCons, e_aNil, e_var, rr, List.getElem?_cons_zero, List.getElem?_cons_succ, Res.bind_ok, oLen_lst, List.length_map, e_c, e_add_ii]) (int_ga (by omega)) (by decide) (by decide)
  have h2 : fLc false [18] (iSeq (fVar 6)) (tgN 18) fYes (fA (oListD false) (aCons (fVar 18) aNil)) (rr s l n zs a0 a1 a2 a8 a9 a10 a11 a12 a13 a14 a15 a16 a17) E = .ok (.lst (zs.map fun z => D.lst [.int z.1, .int z.2])) E := by
    have hsrc : iSeq (fVar 6) (rr s l n zs a0 a1 a2 a8 a9 a10 a11 a12 a13 a14 a15 a16 a17) E = .ok (.fix (zs.map pD)) E := rfl
    have hm := lc_mapY (C := E) 18 (fe := fA (oListD false) (aCons (fVar 18) aNil)) (ρ := rr s l n zs a0 a1 a2 a8 a9 a10 a11 a12 a13 a14 a15 a16 a17) (fun d => match d with | .tup ds => .lst ds | d => d) (zs.map pD) (fun d hd => by
      obtain ⟨z, hz, rfl⟩ := List.mem_map.mp hd
      rfl)
    rw [List.map_map] at hm
    exact fLc_of hsrc hm (by rw [List.length_map]; have := q.len; omega)
  have hs2 : StrsOf (zs.map fun z => D.lst [.int z.1, .int z.2]) zs := by
    refine ⟨by simp, fun p hp => ?_⟩
    obtain ⟨j, hj, e⟩ := List.mem_iff_getElem.mp hp
    simp only [List.getElem_zip, List.getElem_map] at e
    rw [← e]
    exact ⟨.inr rfl, q.z2 _ (List.getElem_mem _)⟩
  have h3 := check_spec (x := .lst (zs.map fun z => D.lst [.int z.1, .int z.2])) (C := E) hE (.lst _) hs2 (by rw [List.length_map]; have := q.len; omega)
  have gz : GA 2 1000 (.tup (zs.map pD)) := by
    refine (GA.tup (n := 1) (w := 84) fun d hd => ?_).mono (Nat.le_refl _) (by rw [List.length_map]; have := q.len; omega)
    obtain ⟨z, hz, rfl⟩ := List.mem_map.mp hd
    have := q.up z hz
    unfold Str1 at this
    refine (GA.tup (n := 0) (w := 41) fun d hd => ?_).mono (Nat.le_refl _) (by simp)
    simp only [List.mem_cons, List.not_mem_nil, or_false] at hd
    rcases hd with rfl | rfl <;> exact int_ga (by omega)
  obtain ⟨p, gp⟩ := gz
  have h4 := eq_of (neg := true) (C := E) gp gp (by decide) (fun a b => by rintro ⟨h, _⟩; cases h)
  rw [eqv_refl p gp.g.lay] at h4
  refine if_f (C1 := E) ?_ rfl
  rw [e_or, e1]
  simp only [Res.bind_ok, bl3_bl, Bool.false_eq_true, if_false, e_f2, e_fA, e_aCons, h2, e_aNil, e_oCall, List.length_cons, List.length_nil, Nat.zero_add, if_true, h3, e_var, rr, List.getElem?_cons_zero, List.getElem?_cons_succ, e_tuple_l, h4, Bool.not_true]
end K29
namespace K29
open PySem L2 BV
variable {s l n : Int} {zs : List (Int × Int)} {E : Cells} {a0 a1 a2 a8 a9 a10 a11 a12 a13 a14 a15 a16 a17 : Option D}
def onI (f : Int → Bool) : D → Bool
  | .int i => f i
  | _ => false
theorem filt_ints (f : Int → Bool) : ∀ L : List Int, ((L.map D.int).filter (onI f)).map (fun d => d) = (L.filter f).map D.int
  | [] => rfl
  | i :: L => by
    have ih := filt_ints f L
    simp only [List.map_id'] at ih ⊢
    rw [List.map_cons, List.filter_cons, List.filter_cons, ih]
    cases h : f i <;> simp [onI, h]
theorem lc_ints {m : Bool} {vs : List Nat} {j : Nat} {fi : Rho → Cells → Res Src} {ft fe : Rho → Cells → Res D} {ρ : Rho} {C : Cells} {L : List Int} (h : fi ρ C = .ok (.fix (L.map D.int)) C) (f : Int → Bool)
    (h1 : ∀ i ∈ L, ft ((wipeD ρ vs).set j (some (.int i))) C = .ok (.bl (f i)) C) (h2 : ∀ i ∈ L, f i = true → fe ((wipeD ρ vs).set j (some (.int i))) C = .ok (.int i) C) (h3 : L.length ≤ 100000) :
    fLc m vs fi (tgN j) ft fe ρ C = mkL m ((L.filter f).map D.int) C := by
  have hm := lc_map (C := C) (ft := ft) (fe := fe) (ρ := wipeD ρ vs) j (onI f) (fun d => d) (L.map D.int) (fun d hd => by
    obtain ⟨i, hi, rfl⟩ := List.mem_map.mp hd
    exact h1 i hi) (fun d hd hp => by
    obtain ⟨i, hi, rfl⟩ := List.mem_map.mp hd
    exact h2 i hi hp)
  rw [filt_ints] at hm
  refine fLc_of h hm ?_
  rw [List.length_map]
  exact Nat.le_trans (List.length_filter_le _ _) h3
abbrev someL (zs : List (Int × Int)) : List Int := (rgI 0 40).filter (inZ zs)
theorem r8 (q : Qd s l n zs) : S8 (rr s l n zs a0 a1 a2 a8 a9 a10 a11 a12 a13 a14 a15 a16 a17) E = .nx (rr s l n zs a0 a1 a2 (some (.lst ((someL zs).map .int))) a9 a10 a11 a12 a13 a14 a15 a16 a17) E := by
  refine set_nx (d := .lst ((someL zs).map .int)) ?_ rfl
  have hr := iRg1_of (f := fC (.int 40)) (ρ := rr s l n zs a0 a1 a2 a8 a9 a10 a11 a12 a13 a14 a15 a16 a17) (C := E) (C1 := E) (j := 40) rfl (by decide) (by decide)
  rw [rg_I] at hr
  refine (lc_ints hr (inZ zs) (fun i hi => ?_) (fun i hi _ => rfl) (by rw [len_rgI]; decide)).trans rfl
  exact hit_test (s := 6) (i := 19) (j := 20) (o := 18) (one := i) (zs := zs) rfl (show 19 < 21 by decide) (show 20 < 21 by decide) (by decide) (by decide) (by decide) rfl (by have := q.len; omega)
theorem r9 (q : Qd s l n zs) (hE : Flat E) : S9 (rr s l n zs a0 a1 a2 (some (.lst ((someL zs).map .int))) a9 a10 a11 a12 a13 a14 a15 a16 a17) E = .nx (rr s l n zs a0 a1 a2 (some (.lst ((someL zs).map .int))) a9 a10 a11 a12 a13 a14 a15 a16 a17) E := by
  have h1 := in_all_spec (x := .lst (zs.map pD)) (ds := zs.map pD) (zs := zs) (C := E) hE (.lst _) q.strs (fun z m => ⟨(q.up z m).1, by have := (q.up z m).2; omega⟩) q.len
  have hle : (someL zs).length ≤ 40 := by
    have := List.length_filter_le (inZ zs) (rgI 0 40)
    rw [len_rgI] at this
    exact this
  refine if_f (C1 := E) (repr_ne (d := .int (cov zs)) h1 ?_ (int_ga (by have e : cov zs = ((someL zs).length : Int) := rfl; omega)) (by decide) (by decide)) rfl
  simp only [e_fA, e_aCons, e_aNil, e_var, rr, List.getElem?_cons_zero, List.getElem?_cons_succ, Res.bind_ok, oLen_lst, List.length_map]
  rfl
theorem need0 (q : Qd s l n zs) : (someL zs).filter (fun i => decide (i < n)) = needL n 0 zs := by
  have hn := q.n1
  refine rise_one (((rgI_rise 0 40).filter _).filter _) (needL_rise n 0 zs) fun x => ?_
  simp only [needL, List.mem_filter, mem_rgI, Bool.or_eq_true, decide_eq_true_eq]
  constructor
  · rintro ⟨⟨⟨h1, h2⟩, h3⟩, h4⟩
    exact ⟨⟨h1, h4⟩, .inr h3⟩
  · rintro ⟨⟨h1, h2⟩, h3⟩
    refine ⟨⟨⟨h1, by omega⟩, ?_⟩, h2⟩
    rcases h3 with h3 | h3
    · omega
    · exact h3
theorem r10 (q : Qd s l n zs) (hE : Flat E) : S10 (rr s l n zs a0 a1 a2 (some (.lst ((someL zs).map .int))) a9 a10 a11 a12 a13 a14 a15 a16 a17) E = .nx (rr s l n zs a0 a1 a2 (some (.lst ((someL zs).map .int))) a9 a10 a11 a12 a13 a14 a15 a16 a17) E := by
  have h1 := needed_spec (x := .lst (zs.map pD)) (ds := zs.map pD) (zs := zs) (n := n) (l := 0) (C := E) hE (.lst _) q.strs q.n0 (by have := q.n1; omega) (by decide) (by decide) q.z1 q.len
  have h2 := need_at_spec (x := .lst (zs.map pD)) (ds := zs.map pD) (zs := zs) (n := n) (l := 0) (C := E) hE (.lst _) q.strs q.n0 (by have := q.n1; omega) (by decide) (by decide) q.z1 q.len
  have hl := needL_len n 0 zs (by have := q.n1; omega)
  have h3 : fLc false [18] (iSeq (fVar 8)) (tgN 18) (f2 ltD (fVar 18) (fVar 5)) (fVar 18) (rr s l n zs a0 a1 a2 (some (.lst ((someL zs).map .int))) a9 a10 a11 a12 a13 a14 a15 a16 a17) E = .ok (.lst ((needL n 0 zs).map .int)) E := by
    have hle : (someL zs).length ≤ 40 := by
      have := List.length_filter_le (inZ zs) (rgI 0 40)
      rw [len_rgI] at this
      exact this
    rw [← need0 q]
    exact (lc_ints (L := someL zs) rfl (fun i => decide (i < n)) (fun i hi => rfl) (fun i hi _ => rfl) (by omega)).trans rfl
  have gg : GA 2 10000 (.lst [.tup ((needL n 0 zs).map .int), .int ((needL n 0 zs).length + 1)]) := by
    refine (GA.lst (n := 1) (w := 4200) fun d hd => ?_).mono (Nat.le_refl _) (by simp)
    simp only [List.mem_cons, List.not_mem_nil, or_false] at hd
    rcases hd with rfl | rfl
    · exact needT_ga (by have := q.n1; omega)
    · exact (int_ga (by omega)).mono (by decide) (by decide)
  refine if_f (C1 := E) (repr_ne (d := .lst [.tup ((needL n 0 zs).map .int), .int ((needL n 0 zs).length + 1)]) ?_ ?_ gg (by decide) (by decide)) rfl
  · rw [e_fA]
    have e1 : fA (oCall 3 d_needed) (aCons (fVar 5) (aCons (fC (.int 0)) (aCons (fVar 6) aNil))) (rr s l n zs a0 a1 a2 (some (.lst ((someL zs).map .int))) a9 a10 a11 a12 a13 a14 a15 a16 a17) E = .ok (.tup ((needL n 0 zs).map .int)) E := h1
    have e2 : fA (oCall 3 d_need_at) (aCons (fVar 5) (aCons (fC (.int 0)) (aCons (fVar 6) aNil))) (rr s l n zs a0 a1 a2 (some (.lst ((someL zs).map .int))) a9 a10 a11 a12 a13 a14 a15 a16 a17) E = .ok (.int ((needL n 0 zs).length + 1)) E := h2
    simp only [e_aCons, e_aNil, e1, e2, Res.bind_ok, e_oLst, List.length_cons, List.length_nil, Nat.zero_add, Nat.reduceAdd, Nat.reduceLeDiff, if_true, e_mkL_f]
  · rw [e_fA]
    have hc : (1 : Int) + (needL n 0 zs).length = (needL n 0 zs).length + 1 := by omega
    simp only [e_aCons, e_aNil, e_fA, e_f2, e_c, h3, Res.bind_ok, e_tuple_l, oLen_lst, List.length_map, e_add_ii, hc, e_oLst, List.length_cons, List.length_nil, Nat.zero_add, Nat.reduceAdd, Nat.reduceLeDiff, if_true, e_mkL_f]
abbrev fullL (s l n : Int) (zs : List (Int × Int)) : List Int := (rgI n (n + 40)).filter fun h => decide (((needL h l zs).length : Int) + 1 > s)
abbrev toldO (s l n : Int) (zs : List (Int × Int)) : Option Int := firstF s l zs (rgI n (n + 40))
theorem r11 (q : Qd s l n zs) (hE : Flat E) : S11 (rr s l n zs a0 a1 a2 a8 a9 a10 a11 a12 a13 a14 a15 a16 a17) E = .nx (rr s l n zs a0 a1 a2 a8 (some (.lst ((fullL s l n zs).map .int))) a10 a11 a12 a13 a14 a15 a16 a17) E := by
  have hn := q.n1
  have hn0 := q.n0
  refine set_nx (d := .lst ((fullL s l n zs).map .int)) ?_ rfl
  have hr := iRg2_of (f := fVar 5) (g := f2 (addD false) (fVar 5) (fC (.int 40))) (ρ := rr s l n zs a0 a1 a2 a8 a9 a10 a11 a12 a13 a14 a15 a16 a17) (C := E) (C1 := E) (C2 := E) (i := n) (j := n + 40) rfl rfl hn0 (by omega) (by omega) (by omega)
  rw [rg_I] at hr
  refine (lc_ints hr (fun h => decide (((needL h l zs).length : Int) + 1 > s)) (fun i hi => ?_) (fun i hi _ => rfl) (by rw [len_rgI]; omega)).trans rfl
  have hi2 := mem_rgI.mp hi
  have h1 := law_needed_spec (n := i) (l := l) (zs := zs) (C := E) hE (by omega) (by omega) q.len
  have e1 : fA (oCall 3 d_law_needed) (aCons (fVar 17) (aCons (fVar 4) (aCons (fVar 6) aNil))) ((wipeD (rr s l n zs a0 a1 a2 a8 a9 a10 a11 a12 a13 a14 a15 a16 a17) [17]).set 17 (some (.int i))) E = .ok (.lst ((needL i l zs).map .int)) E := h1
  have e2 : fVar 3 ((wipeD (rr s l n zs a0 a1 a2 a8 a9 a10 a11 a12 a13 a14 a15 a16 a17) [17]).set 17 (some (.int i))) E = .ok (.int s) E := rfl
  have e3 : ∀ x y : Int, gtD (.int x) (.int y) E = .ok (.bl (decide (x > y))) E := fun _ _ => rfl
  rw [e_f2, e_f2, e_fA]
  simp only [e_aCons, e_aNil, e1, Res.bind_ok, oLen_lst, List.length_map, e_c, e_add_ii, e2, e3]
theorem r12 (q : Qd s l n zs) (hE : Flat E) : S12 (rr s l n zs a0 a1 a2 a8 a9 a10 a11 a12 a13 a14 a15 a16 a17) E = .nx (rr s l n zs a0 a1 a2 a8 a9 (some (optD (toldO s l n zs))) a11 a12 a13 a14 a15 a16 a17) E := by
  have h1 := first_full_spec (x := .lst (zs.map pD)) (ds := zs.map pD) (zs := zs) (s := s) (l := l) (n := n) (C := E) hE (.lst _) q.strs q.s0 (by have := q.s1; omega) q.l0 q.l1 (by have := q.l1; have := q.s1; omega) q.n0 (by have := q.n1; omega) (fun z m => ⟨(q.up z m).1, by have := (q.up z m).2; omega⟩) q.len
  exact set_nx (d := optD (toldO s l n zs)) h1 rfl
theorem told_none (q : Qd s l n zs) : toldO s l n zs = none ↔ cov zs + l + 1 ≤ s := by
  have l0 := q.l0
  constructor
  · intro h
    by_cases c : cov zs + l + 1 ≤ s
    · exact c
    · cases hm : maxI (n :: zs.map fun z => z.2) with
      | none => cases hm
      | some M =>
        obtain ⟨m1, m2⟩ := maxI_spec hm
        have hnM := m2 n (by simp)
        have hzM : ∀ z ∈ zs, z.2 ≤ M := fun z hh => m2 z.2 (List.mem_cons_of_mem _ (List.mem_map.mpr ⟨z, hh, rfl⟩))
        have hM : M ≤ 20 := by
          rcases List.mem_cons.mp m1 with e | m1
          · have := q.n1; omega
          · obtain ⟨z, a, b⟩ := List.mem_map.mp m1
            have := (q.up z a).2
            omega
        obtain ⟨hh, _, f2'⟩ := first_eq (s := s) (l := l) (n := n) (M := M) (zs := zs) (by omega) q.n0 hnM (fun z m => ⟨(q.up z m).1, by have := (q.up z m).2; omega, hzM z m⟩) (by have := q.l1; have := q.s1; have := q.n0; omega) (by omega)
        rw [show toldO s l n zs = some hh from f2'] at h
        cases h
  · exact fun c => first_room (by omega) (fun z m => by have := (q.up z m).2; omega) c
theorem eq_bl (neg a b : Bool) (C : Cells) : eqD neg (.bl a) (.bl b) C = .ok (.bl (if neg then !(a == b) else (a == b))) C := by
  cases neg <;> cases a <;> cases b <;> rfl
theorem told_ga (q : Qd s l n zs) : GA 0 41 (optD (toldO s l n zs)) := by
  cases h : toldO s l n zs with
  | none => exact ⟨_, GD.non.mono (Nat.le_refl _) (Nat.zero_le _)⟩
  | some m =>
    have := mem_rgI.mp (first_some h)
    have := q.n0
    have := q.n1
    exact int_ga (by omega)
theorem r13 (q : Qd s l n zs) : S13 (rr s l n zs a0 a1 a2 (some (.lst ((someL zs).map .int))) (some (.lst ((fullL s l n zs).map .int))) (some (optD (toldO s l n zs))) a11 a12 a13 a14 a15 a16 a17) E = .nx (rr s l n zs a0 a1 a2 (some (.lst ((someL zs).map .int))) (some (.lst ((fullL s l n zs).map .int))) (some (optD (toldO s l n zs))) a11 a12 a13 a14 a15 a16 a17) E := by
  have hf := first_filter s l zs (rgI n (n + 40))
  have e1 := repr_ne (C := E) (f := fVar 10) (g := ifD (f2 (eqD true) (fVar 9) (fA (oLst false) aNil)) (f2 ixD (fVar 9) (fC (.int 0))) (fC .non)) (ρ := rr s l n zs a0 a1 a2 (some (.lst ((someL zs).map .int))) (some (.lst ((fullL s l n zs).map .int))) (some (optD (toldO s l n zs))) a11 a12 a13 a14 a15 a16 a17) (d := optD (toldO s l n zs)) rfl (by
    have hn := ne_nil (fullL s l n zs) E
    have e0 : f2 (eqD true) (fVar 9) (fA (oLst false) aNil) (rr s l n zs a0 a1 a2 (some (.lst ((someL zs).map .int))) (some (.lst ((fullL s l n zs).map .int))) (some (optD (toldO s l n zs))) a11 a12 a13 a14 a15 a16 a17) E = .ok (.bl (!(fullL s l n zs).isEmpty)) E := by
      simp only [e_f2, e_var, rr, List.getElem?_cons_zero, List.getElem?_cons_succ, Res.bind_ok, e_fA, e_aNil, e_oLst, List.length_nil, Nat.zero_le, if_true, e_mkL_f, hn]
    rw [e_if, e0]
    unfold toldO
    rw [← hf]
    show (Res.ok (D.bl (!(fullL s l n zs).isEmpty)) E).bind _ = .ok (optD (fullL s l n zs).head?) E
    cases h : fullL s l n zs with
    | nil => simp only [List.isEmpty_nil, Bool.not_true, Res.bind_ok, bl3_bl, Bool.false_eq_true, if_false, e_c, List.head?_nil]; rfl
    | cons a L => simp only [List.isEmpty_cons, Bool.not_false, Res.bind_ok, bl3_bl, if_true, e_f2, e_var, rr, List.getElem?_cons_zero, List.getElem?_cons_succ, e_c, List.map_cons, h, ix_lst0, List.head?_cons]; rfl) (told_ga q) (by decide) (by decide)
  refine if_f (C1 := E) ?_ rfl
  rw [e_or, e1]
  have e2 : f2 (isD false) (fVar 10) (fC .non) (rr s l n zs a0 a1 a2 (some (.lst ((someL zs).map .int))) (some (.lst ((fullL s l n zs).map .int))) (some (optD (toldO s l n zs))) a11 a12 a13 a14 a15 a16 a17) E = .ok (.bl (decide (toldO s l n zs = none))) E := by
    simp only [e_f2, e_var, rr, List.getElem?_cons_zero, List.getElem?_cons_succ, Res.bind_ok, e_c, e_isN]
    cases h : toldO s l n zs <;> simp [optD, BV.isNon]
  have e3 : f2 leD (f2 (addD false) (f2 (addD false) (fA oLen (aCons (fVar 8) aNil)) (fVar 4)) (fC (.int 1))) (fVar 3) (rr s l n zs a0 a1 a2 (some (.lst ((someL zs).map .int))) (some (.lst ((fullL s l n zs).map .int))) (some (optD (toldO s l n zs))) a11 a12 a13 a14 a15 a16 a17) E = .ok (.bl (decide (cov zs + l + 1 ≤ s))) E := by
    have e4 : ∀ x y : Int, leD (.int x) (.int y) E = .ok (.bl (decide (x ≤ y))) E := fun _ _ => rfl
    simp only [e_f2, e_fA, e_aCons, e_aNil, e_var, rr, List.getElem?_cons_zero, List.getElem?_cons_succ, Res.bind_ok, oLen_lst, List.length_map, e_add_ii, e_c, e4]
    rfl
  have e5 : decide (toldO s l n zs = none) = decide (cov zs + l + 1 ≤ s) := by
    rw [decide_eq_decide]
    exact told_none q
  rw [e5] at e2
  simp only [Res.bind_ok, bl3_bl, Bool.false_eq_true, if_false]
  rw [e_f2, e2, Res.bind_ok, e3, Res.bind_ok, eq_bl]
  simp
theorem r14 (q : Qd s l n zs) (hE : Flat E) : S14 (rr s l n zs a0 a1 a2 a8 a9 (some (optD (toldO s l n zs))) a11 a12 a13 a14 a15 a16 a17) E = .nx (rr s l n zs a0 a1 a2 a8 a9 (some (optD (toldO s l n zs))) a11 a12 a13 a14 a15 a16 a17) E := by
  have h1 := first_full_spec (x := .lst (zs.map pD)) (ds := zs.map pD) (zs := zs) (s := s) (l := l) (n := n) (C := E) hE (.lst _) q.strs q.s0 (by have := q.s1; omega) q.l0 q.l1 (by have := q.l1; have := q.s1; omega) q.n0 (by have := q.n1; omega) (fun z m => ⟨(q.up z m).1, by have := (q.up z m).2; omega⟩) q.len
  exact if_f (C1 := E) (repr_ne (d := optD (toldO s l n zs)) h1 rfl (told_ga q) (by decide) (by decide)) rfl
theorem r15 : S15 (rr s l n zs a0 a1 a2 a8 a9 a10 a11 a12 a13 a14 a15 a16 a17) E = if ((needL n l zs).length : Int) + 1 > s then .ct (rr s l n zs a0 a1 a2 a8 a9 a10 a11 a12 a13 a14 a15 a16 a17) E else .nx (rr s l n zs a0 a1 a2 a8 a9 a10 a11 a12 a13 a14 a15 a16 a17) E := by
  have e1 : f2 gtD (f2 (addD false) (fA oLen (aCons (fVar 7) aNil)) (fC (.int 1))) (fVar 3) (rr s l n zs a0 a1 a2 a8 a9 a10 a11 a12 a13 a14 a15 a16 a17) E = .ok (.bl (decide (((needL n l zs).length : Int) + 1 > s))) E := by
    have e4 : ∀ x y : Int, gtD (.int x) (.int y) E = .ok (.bl (decide (x > y))) E := fun _ _ => rfl
    simp only [e_f2, e_fA, e_aCons, e_aNil, e_var, rr, List.getElem?_cons_zero, List.getElem?_cons_succ, Res.bind_ok, oLen_lst, List.length_map, e_add_ii, e_c, e4]
  by_cases h : ((needL n l zs).length : Int) + 1 > s
  · rw [if_pos h]
    exact if_t (C1 := E) (by rw [e1, decide_eq_true h]) rfl
  · rw [if_neg h]
    exact if_f (C1 := E) (by rw [e1, decide_eq_false h]) rfl
end K29
namespace K29
open PySem L2 BV
variable {s l n : Int} {zs : List (Int × Int)} {E : Cells} {a0 a1 a2 a8 a9 a10 a11 a12 a13 a14 a15 a16 a17 : Option D}
theorem f2_of {o : D → D → Cells → Res D} {f g : Rho → Cells → Res D} {ρ : Rho} {C C1 C2 : Cells} {x y : D} (h1 : f ρ C = .ok x C1) (h2 : g ρ C1 = .ok y C2) : f2 o f g ρ C = o x y C2 := by
  rw [e_f2, h1, Res.bind_ok, h2, Res.bind_ok]
theorem map_It (L : List Int) : (L.map It.i).map dI = L.map D.int := by rw [List.map_map]; rfl
theorem mem_It {x : Int} {L : List Int} : It.i x ∈ L.map It.i ↔ x ∈ L := by
  rw [List.mem_map]
  constructor
  · rintro ⟨y, hy, e⟩
    cases e
    exact hy
  · exact fun h => ⟨x, h, rfl⟩
theorem not_in {L : List Int} {x : Int} : in2D true (.int x) (.lst (L.map D.int)) E = .ok (.bl (!decide (x ∈ L))) E := by
  have h := (RowOf.lst (C := E) (L.map It.i)).in2 (a := .i x) (neg := true)
  rw [map_It] at h
  refine h.trans ?_
  have : decide (It.i x ∈ L.map It.i) = decide (x ∈ L) := by
    rw [decide_eq_decide]
    exact mem_It
  rw [this]
  rfl
abbrev othL (n l : Int) (zs : List (Int × Int)) : List Int := ((rgI 0 n).filter fun i => !decide (i ∈ needL n l zs)).reverse
theorem r16 (q : Qd s l n zs) : S16 (rr s l n zs a0 a1 a2 a8 a9 a10 a11 a12 a13 a14 a15 a16 a17) E = .nx (rr s l n zs a0 a1 a2 a8 a9 a10 (some (.lst ((othL n l zs).map .int))) a12 a13 a14 a15 a16 a17) E := by
  refine set_nx (d := .lst ((othL n l zs).map .int)) ?_ rfl
  have hn := q.n1
  have hr := iRg1_of (f := fVar 5) (ρ := rr s l n zs a0 a1 a2 a8 a9 a10 a11 a12 a13 a14 a15 a16 a17) (C := E) (C1 := E) (j := n) rfl q.n0 (by omega)
  rw [rg_I] at hr
  have h1 := lc_ints (m := false) (vs := [18]) (j := 18) (ft := f2 (in2D true) (fVar 18) (fVar 7)) (fe := fVar 18) hr (fun i => !decide (i ∈ needL n l zs)) (fun i hi => not_in) (fun i hi _ => rfl) (by rw [len_rgI]; omega)
  unfold fRev
  rw [h1]
  simp only [e_mkL_f, Res.bind_ok, asL_lst, ← List.map_reverse]
/-- the row as it is laid out first -/
abbrev row1 (s l n : Int) (zs : List (Int × Int)) : List Int := needL n l zs ++ (othL n l zs).take (s - (needL n l zs).length).toNat
abbrev row2 (s l n : Int) (zs : List (Int × Int)) : List It := (row1 s l n zs).map It.i ++ List.replicate (s.toNat - (row1 s l n zs).length) It.n
theorem oth_len (q : Qd s l n zs) : (othL n l zs).length ≤ 13 := by
  have := List.length_filter_le (fun i => !decide (i ∈ needL n l zs)) (rgI 0 n)
  rw [len_rgI] at this
  have := q.n1
  rw [List.length_reverse]
  omega
theorem r17 (q : Qd s l n zs) (h : ((needL n l zs).length : Int) + 1 ≤ s) : S17 (rr s l n zs a0 a1 a2 a8 a9 a10 (some (.lst ((othL n l zs).map .int))) a12 a13 a14 a15 a16 a17) E = .nx (rr s l n zs a0 a1 a2 a8 a9 a10 (some (.lst ((othL n l zs).map .int))) (some (.cel E.length)) a13 a14 a15 a16 a17) (E ++ [.lst ((row1 s l n zs).map .int)]) := by
  have ho := oth_len q
  have hl := needL_len n l zs (by have := q.n1; omega)
  refine set_nx (d := .cel E.length) ?_ rfl
  have e1 : fSl false (fVar 11) pNo (pSo (f2 subD (fVar 3) (fA oLen (aCons (fVar 7) aNil)))) (rr s l n zs a0 a1 a2 a8 a9 a10 (some (.lst ((othL n l zs).map .int))) a12 a13 a14 a15 a16 a17) E = .ok (.lst (((othL n l zs).take (s - (needL n l zs).length).toNat).map .int)) E := by
    rw [e_fSl]
    simp only [e_pNo, e_pSo, e_f2, e_fA, e_aCons, e_aNil, e_var, rr, List.getElem?_cons_zero, List.getElem?_cons_succ, Res.bind_ok, oLen_lst, List.length_map, e_sub_ii, e_sl_l, e_mkL_f]
    rw [cut_take _ (by omega), List.map_take]
  have hsz : ((needL n l zs).map D.int).length + (((othL n l zs).take (s - (needL n l zs).length).toNat).map D.int).length ≤ 16777216 := by
    rw [List.length_map, List.length_map, List.length_take]
    omega
  refine (f2_of (C1 := E) (x := .lst ((needL n l zs).map .int)) rfl e1).trans ?_
  simp only [e_add_ll, if_pos hsz, e_mkL_t, row1, List.map_append]
theorem rep_one (k : Int) : repN k [D.non] = List.replicate k.toNat D.non := by
  unfold repN
  induction k.toNat with
  | zero => rfl
  | succ m ih => rw [List.replicate_succ, List.flatten_cons, ih]; rfl
theorem row1_len (q : Qd s l n zs) (h : ((needL n l zs).length : Int) + 1 ≤ s) : ((row1 s l n zs).length : Int) ≤ s := by
  rw [List.length_append, List.length_take]
  omega
theorem r18 (q : Qd s l n zs) (h : ((needL n l zs).length : Int) + 1 ≤ s) : S18 (rr s l n zs a0 a1 a2 a8 a9 a10 a11 (some (.cel E.length)) a13 a14 a15 a16 a17) (E ++ [.lst ((row1 s l n zs).map .int)]) = .nx (rr s l n zs a0 a1 a2 a8 a9 a10 a11 (some (.cel (E.length + 1))) a13 a14 a15 a16 a17) (E ++ [.lst ((row1 s l n zs).map .int)] ++ [.lst ((row2 s l n zs).map dI)]) := by
  have hs := q.s1
  have hl := row1_len q h
  let G : Cells := E ++ [.lst ((row1 s l n zs).map .int)]
  have g : G[E.length]? = some (.lst ((row1 s l n zs).map .int)) := by simp [G]
  refine set_nx (d := .cel (E.length + 1)) ?_ rfl
  let ρ : Rho := rr s l n zs a0 a1 a2 a8 a9 a10 a11 (some (.cel E.length)) a13 a14 a15 a16 a17
  have e1 : f2 (mulD false) (fA (oLst false) (aCons (fC .non) aNil)) (f2 subD (fVar 3) (fA oLen (aCons (fVar 12) aNil))) ρ G = .ok (.lst (List.replicate (s.toNat - (row1 s l n zs).length) D.non)) G := by
    have e2 : fA oLen (aCons (fVar 12) aNil) ρ G = .ok (.int (row1 s l n zs).length) G := by
      have := oLen_cel g
      rw [List.length_map] at this
      exact this
    have e3 : fA (oLst false) (aCons (fC .non) aNil) ρ G = .ok (.lst [.non]) G := by simp
    have e4 : f2 subD (fVar 3) (fA oLen (aCons (fVar 12) aNil)) ρ G = .ok (.int (s - (row1 s l n zs).length)) G := by
      exact f2_of (C1 := G) (x := .int s) rfl e2
    refine (f2_of e3 e4).trans ?_
    have hb : -(2 ^ 63) ≤ s - ((row1 s l n zs).length : Int) ∧ s - ((row1 s l n zs).length : Int) < 2 ^ 63 ∧ [D.non].length * (s - ((row1 s l n zs).length : Int)).toNat ≤ sizeLine := by
      have := q.s0
      refine ⟨by omega, by omega, ?_⟩
      have : 100 ≤ sizeLine := by decide
      simp only [List.length_cons, List.length_nil]
      omega
    have hk : (s - ((row1 s l n zs).length : Int)).toNat = s.toNat - (row1 s l n zs).length := by omega
    simp only [mulD, asL, if_pos hb, rep_one, mkL, Bool.false_eq_true, if_false, hk]
    rw [← hk, if_pos hb]
  have e12 : fVar 12 ρ G = .ok (.cel E.length) G := rfl
  have hsz : ((row1 s l n zs).map D.int).length + (List.replicate (s.toNat - (row1 s l n zs).length) D.non).length ≤ sizeLine := by
    have : 100 ≤ sizeLine := by decide
    rw [List.length_map, List.length_replicate]
    omega
  have e5 : addD true (.cel E.length) (.lst (List.replicate (s.toNat - (row1 s l n zs).length) D.non)) G = mkL true ((row1 s l n zs).map D.int ++ List.replicate (s.toNat - (row1 s l n zs).length) D.non) G := by
    simp only [addD, asL_celE g, asL_lst, if_pos hsz]
  have e6 : (row2 s l n zs).map dI = (row1 s l n zs).map D.int ++ List.replicate (s.toNat - (row1 s l n zs).length) D.non := by
    rw [List.map_append, map_It, List.map_replicate]
    rfl
  show f2 (addD true) (fVar 12) _ ρ G = .ok _ (G ++ _)
  rw [e_f2, e12, Res.bind_ok, e1, Res.bind_ok, e5, e6]
  simp [G]
/-- what holds of a row, however its items are turned about -/
structure RowP (s : Int) (keep : List Int) (its : List It) : Prop where
  len : (its.length : Int) = s
  ok : ∀ a ∈ its, a ≠ .t ∧ okI a
  ex : It.n ∈ its ∨ ∃ x, It.i x ∈ its ∧ x ∉ keep
theorem row2_P (q : Qd s l n zs) (h : ((needL n l zs).length : Int) + 1 ≤ s) : RowP s (needL n l zs) (row2 s l n zs) := by
  have hl := row1_len q h
  have hs := q.s0
  refine ⟨?_, fun a ha => ?_, ?_⟩
  · rw [List.length_append, List.length_map, List.length_replicate]
    omega
  · rcases List.mem_append.mp ha with ha | ha
    · obtain ⟨x, hx, rfl⟩ := List.mem_map.mp ha
      refine ⟨by simp, ?_⟩
      show 0 ≤ x
      rcases List.mem_append.mp hx with hx | hx
      · exact (mem_needL hx).1
      · have := List.mem_of_mem_take hx
        rw [List.mem_reverse, List.mem_filter] at this
        exact (mem_rgI.mp this.1).1
    · rw [(List.mem_replicate.mp ha).2]
      exact ⟨by simp, trivial⟩
  · by_cases c : (row1 s l n zs).length < s.toNat
    · refine .inl (List.mem_append_right _ (List.mem_replicate.mpr ⟨by omega, rfl⟩))
    · refine .inr ?_
      have hne : 0 < ((othL n l zs).take (s - (needL n l zs).length).toNat).length := by
        have : (row1 s l n zs).length = (needL n l zs).length + ((othL n l zs).take (s - (needL n l zs).length).toNat).length := List.length_append
        omega
      obtain ⟨x, hx⟩ := List.exists_mem_of_length_pos hne
      refine ⟨x, List.mem_append_left _ (mem_It.mpr (List.mem_append_right _ hx)), ?_⟩
      have := List.mem_of_mem_take hx
      rw [List.mem_reverse, List.mem_filter] at this
      simpa using this.2
end K29
namespace K29
open PySem L2 BV
variable {s l n : Int} {zs : List (Int × Int)} {E : Cells} {a0 a1 a2 a8 a9 a10 a11 a12 a13 a14 a15 a16 a17 : Option D}
theorem items_ok (m : Nat) : ∀ its : List It, celsOk m (its.map dI) = true
  | [] => rfl
  | a :: its => by
    simp only [List.map_cons, celsOk, items_ok m its, Bool.and_true]
    cases a <;> rfl
/-- two items are changed for one another -/
def swp (i j : Nat) (its : List It) : List It := (its.set i (its.getD j .n)).set j (its.getD i .n)
theorem getD_at {its : List It} {j : Nat} (h : j < its.length) : its.getD j .n = its[j] := by simp [h]
theorem swp_len (i j : Nat) (its : List It) : (swp i j its).length = its.length := by simp [swp]
theorem swp_sub {i j : Nat} {its : List It} (hi : i < its.length) (hj : j < its.length) {a : It} (h : a ∈ swp i j its) : a ∈ its := by
  rcases List.mem_or_eq_of_mem_set h with h | h
  · rcases List.mem_or_eq_of_mem_set h with h | h
    · exact h
    · rw [h, getD_at hj]
      exact List.getElem_mem hj
  · rw [h, getD_at hi]
    exact List.getElem_mem hi
theorem swp_sup {i j : Nat} {its : List It} (hi : i < its.length) (hj : j < its.length) {a : It} (h : a ∈ its) : a ∈ swp i j its := by
  obtain ⟨m, hm, e⟩ := List.mem_iff_getElem.mp h
  unfold swp
  rw [getD_at hj, getD_at hi]
  by_cases q1 : m = j
  · subst q1
    by_cases q2 : i = m
    · subst q2
      exact List.mem_iff_getElem.mpr ⟨i, by simpa using hi, by simp [e]⟩
    · exact List.mem_iff_getElem.mpr ⟨i, by simpa using hi, by simp [e, List.getElem_set, Ne.symm q2]⟩
  · by_cases q2 : m = i
    · subst q2
      exact List.mem_iff_getElem.mpr ⟨j, by simpa using hj, by simp [e]⟩
    · exact List.mem_iff_getElem.mpr ⟨m, by simpa using hm, by simp [e, List.getElem_set, Ne.symm q1, Ne.symm q2]⟩
theorem swp_P {keep : List Int} {its : List It} {i j : Nat} (h : RowP s keep its) (hi : i < its.length) (hj : j < its.length) : RowP s keep (swp i j its) := by
  refine ⟨by rw [swp_len]; exact h.len, fun a ha => h.ok a (swp_sub hi hj ha), ?_⟩
  rcases h.ex with q | ⟨x, q1, q2⟩
  · exact .inl (swp_sup hi hj q)
  · exact .inr ⟨x, swp_sup hi hj q1, q2⟩
structure StR (s : Int) (keep : List Int) (k r : Nat) (E : Cells) (its : List It) : Prop where
  d : Dr k E
  ne : r ≠ k
  at' : E[r]? = some (.lst (its.map dI))
  row : RowP s keep its
abbrev bodyW : Rho → Cells → Out := sSeq (sPar 14 15 (aCons (fA (oCall 2 d_law_take) (aCons (fVar 2) (aCons (fVar 3) aNil))) (aCons (fA (oCall 2 d_law_take) (aCons (fVar 2) (aCons (fVar 3) aNil))) aNil))) (sSto2 (fA oTup (aCons (f2 ixD (fVar 12) (fVar 15)) (aCons (f2 ixD (fVar 12) (fVar 14)) aNil))) (fVar 12) (fVar 14) (fVar 12) (fVar 15))
theorem StR.put {keep : List Int} {k r : Nat} {its its' : List It} {E : Cells} (h : StR s keep k r E its) (g : RowP s keep its') : StR s keep k r (E.set r (.lst (its'.map dI))) its' := by
  have hr := (List.getElem?_eq_some_iff.mp h.at').1
  exact ⟨⟨flat_set h.d.fl (items_ok _ _), h.d.bx.of (by rw [List.getElem?_set_ne h.ne])⟩, h.ne, by rw [List.getElem?_set_self hr], g⟩
theorem turnW {k r : Nat} {its : List It} (q : Qd s l n zs) (h : StR s (needL n l zs) k r E its) : ∃ E' its' b14 b15, bodyW (rr s l n zs a0 a1 (some (.cel k)) a8 a9 a10 a11 (some (.cel r)) a13 a14 a15 a16 a17) E = .nx (rr s l n zs a0 a1 (some (.cel k)) a8 a9 a10 a11 (some (.cel r)) a13 b14 b15 a16 a17) E' ∧ StR s (needL n l zs) k r E' its' := by
  obtain ⟨i, E1, e1, i0, i1, d1, _, k1⟩ := take_k (m := s) h.d (by have := q.s0; omega) (by have := q.s1; omega)
  obtain ⟨j, E2, e2, j0, j1, d2, _, k2⟩ := take_k (m := s) d1 (by have := q.s0; omega) (by have := q.s1; omega)
  have g2 : E2[r]? = some (.lst (its.map dI)) := by rw [k2 r h.ne, k1 r h.ne]; exact h.at'
  have hlen := h.row.len
  have hi : i.toNat < its.length := by omega
  have hj : j.toNat < its.length := by omega
  have h2 : StR s (needL n l zs) k r E2 its := ⟨d2, h.ne, g2, h.row⟩
  refine ⟨E2.set r (.lst ((swp i.toNat j.toNat its).map dI)), swp i.toNat j.toNat its, some (.int i), some (.int j), ?_, h2.put (swp_P h.row hi hj)⟩
  let ρ : Rho := rr s l n zs a0 a1 (some (.cel k)) a8 a9 a10 a11 (some (.cel r)) a13 (some (.int i)) (some (.int j)) a16 a17
  refine seq_nx (C1 := E2) (ρ1 := ρ) (par_nx (x := .int i) (y := .int j) ?_ rfl) ?_
  · have t1 : fA (oCall 2 d_law_take) (aCons (fVar 2) (aCons (fVar 3) aNil)) (rr s l n zs a0 a1 (some (.cel k)) a8 a9 a10 a11 (some (.cel r)) a13 a14 a15 a16 a17) E = .ok (.int i) E1 := e1
    have t2 : fA (oCall 2 d_law_take) (aCons (fVar 2) (aCons (fVar 3) aNil)) (rr s l n zs a0 a1 (some (.cel k)) a8 a9 a10 a11 (some (.cel r)) a13 a14 a15 a16 a17) E1 = .ok (.int j) E2 := e2
    simp only [e_aCons, t1, t2, e_aNil, Res.bind_ok]
  · have x1 : ixD (.cel r) (.int j) E2 = .ok (dI (its.getD j.toNat .n)) E2 := ix_cel g2 j0 (by simp [hj])
    have x2 : ixD (.cel r) (.int i) E2 = .ok (dI (its.getD i.toNat .n)) E2 := ix_cel g2 i0 (by simp [hi])
    have v12 : ∀ C, fVar 12 ρ C = .ok (.cel r) C := fun _ => rfl
    have v14 : ∀ C, fVar 14 ρ C = .ok (.int i) C := fun _ => rfl
    have v15 : ∀ C, fVar 15 ρ C = .ok (.int j) C := fun _ => rfl
    have tt : fA oTup (aCons (f2 ixD (fVar 12) (fVar 15)) (aCons (f2 ixD (fVar 12) (fVar 14)) aNil)) ρ E2 = .ok (.tup [dI (its.getD j.toNat .n), dI (its.getD i.toNat .n)]) E2 := by
      rw [e_fA]
      simp only [e_aCons, e_aNil, e_f2, v12, v14, v15, Res.bind_ok, x1, x2, e_oTup, List.length_cons, List.length_nil, Nat.zero_add, Nat.reduceAdd, Nat.reduceLeDiff, if_true]
    have st1 : stoD (.cel r) (.int i) (dI (its.getD j.toNat .n)) E2 = some (E2.set r (.lst ((its.map dI).set i.toNat (dI (its.getD j.toNat .n))))) := sto_of g2 i0 (by rw [List.length_map]; omega)
    have g3 : (E2.set r (.lst ((its.map dI).set i.toNat (dI (its.getD j.toNat .n)))))[r]? = some (.lst ((its.map dI).set i.toNat (dI (its.getD j.toNat .n)))) := set_get g2
    have st2 : stoD (.cel r) (.int j) (dI (its.getD i.toNat .n)) (E2.set r (.lst ((its.map dI).set i.toNat (dI (its.getD j.toNat .n))))) = some (E2.set r (.lst ((swp i.toNat j.toNat its).map dI))) := by
      rw [sto_of g3 j0 (by rw [List.length_set, List.length_map]; omega), List.set_set]
      simp [swp, List.map_set]
    show sSto2 _ _ _ _ _ ρ E2 = _
    unfold sSto2
    rw [tt]
    simp only [Res.out_ok, v12, v14, v15, st1, st2]
    rfl
theorem loopW {k r : Nat} (q : Qd s l n zs) : ∀ (L : List Int) (E : Cells) (its : List It) (a13 a14 a15 : Option D), StR s (needL n l zs) k r E its → ∃ E' its' b13 b14 b15, forL (tgN 13) bodyW (L.map D.int) (rr s l n zs a0 a1 (some (.cel k)) a8 a9 a10 a11 (some (.cel r)) a13 a14 a15 a16 a17) E = .nx (rr s l n zs a0 a1 (some (.cel k)) a8 a9 a10 a11 (some (.cel r)) b13 b14 b15 a16 a17) E' ∧ StR s (needL n l zs) k r E' its'
  | [], E, its, a13, a14, a15, h => ⟨E, its, a13, a14, a15, rfl, h⟩
  | i :: L, E, its, a13, a14, a15, h => by
    obtain ⟨E1, its1, b14, b15, q1, h1⟩ := turnW (a0 := a0) (a1 := a1) (a8 := a8) (a9 := a9) (a10 := a10) (a11 := a11) (a13 := some (.int i)) (a14 := a14) (a15 := a15) (a16 := a16) (a17 := a17) q h
    obtain ⟨E2, its2, c13, c14, c15, q2, h2⟩ := loopW q L E1 its1 (some (.int i)) b14 b15 h1
    refine ⟨E2, its2, c13, c14, c15, ?_, h2⟩
    rw [List.map_cons, e_forL_N]
    have e0 : (rr s l n zs a0 a1 (some (.cel k)) a8 a9 a10 a11 (some (.cel r)) a13 a14 a15 a16 a17).set 13 (some (.int i)) = rr s l n zs a0 a1 (some (.cel k)) a8 a9 a10 a11 (some (.cel r)) (some (.int i)) a14 a15 a16 a17 := rfl
    rw [e0, q1]
    exact q2
theorem r19 {k r : Nat} {its : List It} (q : Qd s l n zs) (h : StR s (needL n l zs) k r E its) : ∃ E' its' b13 b14 b15, S19 (rr s l n zs a0 a1 (some (.cel k)) a8 a9 a10 a11 (some (.cel r)) a13 a14 a15 a16 a17) E = .nx (rr s l n zs a0 a1 (some (.cel k)) a8 a9 a10 a11 (some (.cel r)) b13 b14 b15 a16 a17) E' ∧ StR s (needL n l zs) k r E' its' := by
  obtain ⟨E', its', b13, b14, b15, q1, h1⟩ := loopW (a0 := a0) (a1 := a1) (a8 := a8) (a9 := a9) (a10 := a10) (a11 := a11) (a16 := a16) (a17 := a17) q (rgI 0 s) E its a13 a14 a15 h
  refine ⟨E', its', b13, b14, b15, ?_, h1⟩
  have hr := iRg1_of (f := fVar 3) (ρ := rr s l n zs a0 a1 (some (.cel k)) a8 a9 a10 a11 (some (.cel r)) a13 a14 a15 a16 a17) (C := E) (C1 := E) (j := s) rfl (by have := q.s0; omega) (by have := q.s1; omega)
  show sFor _ _ _ _ _ = _
  rw [e_sFor, hr, rg_I]
  simp only [Res.out_ok, e_forS_fix]
  exact q1
end K29
namespace K29
open PySem L2 BV
variable {s l n : Int} {zs : List (Int × Int)} {E : Cells} {k r : Nat} {its : List It} {a0 a1 a2 a8 a9 a10 a11 a12 a13 a14 a15 a16 a17 : Option D}
theorem RowP.not_t {keep : List Int} (h : RowP s keep its) : It.t ∉ its := fun m => (h.ok _ m).1 rfl
theorem RowP.free {keep : List Int} (h : RowP s keep its) : It.t ∉ its → It.n ∉ its → freeL keep its ≠ [] := fun _ h2 e => by
  rcases h.ex with q | ⟨x, q1, q2⟩
  · exact h2 q
  · have := mem_freeL.mpr ⟨q1, q2⟩
    rw [e] at this
    cases this
theorem r20 (q : Qd s l n zs) (h : StR s (needL n l zs) k r E its) : S20 (rr s l n zs a0 a1 a2 a8 a9 a10 a11 (some (.cel r)) a13 a14 a15 a16 a17) E = .nx (rr s l n zs a0 a1 a2 a8 a9 a10 a11 (some (.cel r)) a13 a14 a15 (some (.lst ((freeL (needL n l zs) its).map .int))) a17) E := by
  refine set_nx (d := .lst ((freeL (needL n l zs) its).map .int)) ?_ rfl
  have hs := h.row.len
  have := (RowOf.cel h.at').lc (m := false) (vs := [18]) (i := 12) (j := 18) (ρ := rr s l n zs a0 a1 a2 a8 a9 a10 a11 (some (.cel r)) a13 a14 a15 a16 a17) (ft := andD (f2 (isD true) (fVar 18) (fC .non)) (f2 (in2D true) (fVar 18) (fVar 7))) (fe := fVar 18) rfl (isFree (needL n l zs)) (fun d => d) (fun d hd => by
    obtain ⟨a, ha, rfl⟩ := List.mem_map.mp hd
    cases a with
    | n => rfl
    | t => exact absurd rfl (h.row.ok _ ha).1
    | i x =>
      have h1 : f2 (isD true) (fVar 18) (fC .non) ((wipeD (rr s l n zs a0 a1 a2 a8 a9 a10 a11 (some (.cel r)) a13 a14 a15 a16 a17) [18]).set 18 (some (.int x))) E = .ok (.bl true) E := rfl
      have h2 : f2 (in2D true) (fVar 18) (fVar 7) ((wipeD (rr s l n zs a0 a1 a2 a8 a9 a10 a11 (some (.cel r)) a13 a14 a15 a16 a17) [18]).set 18 (some (.int x))) E = .ok (.bl (isFree (needL n l zs) (.int x))) E := not_in
      show andD _ _ ((wipeD (rr s l n zs a0 a1 a2 a8 a9 a10 a11 (some (.cel r)) a13 a14 a15 a16 a17) [18]).set 18 (some (.int x))) E = .ok (.bl (isFree (needL n l zs) (.int x))) E
      rw [e_and, h1, Res.bind_ok, bl3_bl, if_pos rfl]
      exact h2) (fun d _ _ => rfl) (by have := q.s1; omega)
  rw [free_eq] at this
  exact this
theorem r21 (h : StR s (needL n l zs) k r E its) : S21 (rr s l n zs a0 a1 a2 a8 a9 a10 a11 (some (.cel r)) a13 a14 a15 (some (.lst ((freeL (needL n l zs) its).map .int))) a17) E = .nx (rr s l n zs a0 a1 a2 a8 a9 a10 a11 (some (.cel r)) a13 a14 a15 (some (.lst ((freeL (needL n l zs) its).map .int))) (some (.int (placeI (needL n l zs) its)))) E := by
  refine set_nx (d := .int (placeI (needL n l zs) its)) ?_ rfl
  let ρ : Rho := rr s l n zs a0 a1 a2 a8 a9 a10 a11 (some (.cel r)) a13 a14 a15 (some (.lst ((freeL (needL n l zs) its).map .int))) a17
  have hR : RowOf E (.cel r) its := .cel h.at'
  have h1 : f2 (in2D false) (fC .non) (fVar 12) ρ E = .ok (.bl (decide (It.n ∈ its))) E := hR.in2 (a := .n) (neg := false)
  have h2 : fVar 12 ρ E = .ok (.cel r) E := rfl
  show ifD _ _ _ ρ E = _
  rw [e_if, h1, Res.bind_ok, bl3_bl]
  unfold placeI
  rw [if_neg h.row.not_t]
  by_cases q2 : It.n ∈ its
  · rw [if_pos (decide_eq_true q2), if_pos q2]
    exact hR.idx (a := .n) q2 h2 rfl
  · rw [if_neg (by simp [q2]), if_neg q2]
    obtain ⟨m1, m2⟩ := leastI_mem (h.row.free h.row.not_t q2)
    refine hR.idx (a := .i (leastI (freeL (needL n l zs) its))) (mem_freeL.mp m2).1 h2 ?_
    have h3 : fVar 16 ρ E = .ok (.lst ((freeL (needL n l zs) its).map .int)) E := rfl
    rw [e_fA]
    simp only [e_aCons, e_aNil, h3, Res.bind_ok, oMin, intsC, asL, Option.bind_some, ints?_map, m1, dI]
theorem place_le (a : It) : ∀ its : List It, place a its ≤ its.length := fun its => List.findIdx_le_length
theorem placeI_le (keep : List Int) (its : List It) : placeI keep its ≤ its.length := by
  unfold placeI
  split
  · exact place_le _ _
  · split <;> exact place_le _ _
theorem r22 (q : Qd s l n zs) (h : StR s (needL n l zs) k r E its) : S22 (rr s l n zs a0 a1 a2 a8 a9 a10 a11 (some (.cel r)) a13 a14 a15 a16 (some (.int (placeI (needL n l zs) its)))) E = .nx (rr s l n zs a0 a1 a2 a8 a9 a10 a11 (some (.cel r)) a13 a14 a15 a16 (some (.int (placeI (needL n l zs) its)))) E := by
  have hl := h.row.len
  have s0 := q.s0
  have s1 := q.s1
  have hp := place_in_spec (x := .ftp (its.map dI)) (y := .lst (zs.map pD)) (ds := zs.map pD) (zs := zs) (n := n) (l := l) h.d.fl (.ftp its) (by omega) (by omega) (fun a ha => (h.row.ok a ha).2) (.lst _) q.strs q.n0 (by have := q.n1; omega) (by have := q.l0; omega) (by have := q.l1; omega) q.z1 q.len h.row.free
  have hle := placeI_le (needL n l zs) its
  refine if_f (C1 := E) (repr_ne (d := .int (placeI (needL n l zs) its)) ?_ rfl (int_ga (by omega)) (by decide) (by decide)) rfl
  let ρ : Rho := rr s l n zs a0 a1 a2 a8 a9 a10 a11 (some (.cel r)) a13 a14 a15 a16 (some (.int (placeI (needL n l zs) its)))
  have e1 : fA oTupF (aCons (fVar 12) aNil) ρ E = .ok (.ftp (its.map dI)) E := by
    have h2 : fVar 12 ρ E = .ok (.cel r) E := rfl
    rw [e_fA]
    simp only [e_aCons, e_aNil, h2, Res.bind_ok, oTupF, asL_celE h.at']
  have e2 : aCons (fVar 5) (aCons (fVar 4) (aCons (fVar 6) aNil)) ρ E = .ok [.int n, .int l, .lst (zs.map pD)] E := rfl
  show fA _ (aCons (fA oTupF (aCons (fVar 12) aNil)) (aCons (fVar 5) (aCons (fVar 4) (aCons (fVar 6) aNil)))) ρ E = _
  rw [e_fA, show aCons (fA oTupF (aCons (fVar 12) aNil)) (aCons (fVar 5) (aCons (fVar 4) (aCons (fVar 6) aNil))) ρ E = .ok [.ftp (its.map dI), .int n, .int l, .lst (zs.map pD)] E by rw [e_aCons, e1, Res.bind_ok, e2, Res.bind_ok], Res.bind_ok]
  exact hp
theorem r23 (q : Qd s l n zs) (h : StR s (needL n l zs) k r E its) : ∃ (i : Int) (E' : Cells), S23 (rr s l n zs a0 a1 (some (.cel k)) a8 a9 a10 a11 a12 a13 a14 a15 a16 a17) E = .nx (rr s l n zs a0 a1 (some (.cel k)) a8 a9 a10 a11 a12 a13 (some (.int i)) a15 a16 a17) E' ∧ 0 ≤ i ∧ i < s ∧ StR s (needL n l zs) k r E' its := by
  obtain ⟨i, E1, e1, i0, i1, d1, _, k1⟩ := take_k (m := s) h.d (by have := q.s0; omega) (by have := q.s1; omega)
  exact ⟨i, E1, set_nx (d := .int i) e1 rfl, i0, i1, d1, h.ne, by rw [k1 r h.ne]; exact h.at', h.row⟩
theorem place_set {j : Nat} (hj : j < its.length) (ht : It.t ∉ its) : place .t (its.set j .t) = j := by
  unfold place
  refine (List.findIdx_eq (by rw [List.length_set]; exact hj)).mpr ⟨by simp, fun m hm => ?_⟩
  rw [List.getElem_set_ne (by omega)]
  refine decide_eq_false fun e => ht ?_
  rw [← e]
  exact List.getElem_mem _
theorem r24 {i : Int} (q : Qd s l n zs) (h : StR s (needL n l zs) k r E its) (i0 : 0 ≤ i) (i1 : i < s) : ∃ E' : Cells, S24 (rr s l n zs a0 a1 a2 a8 a9 a10 a11 (some (.cel r)) a13 (some (.int i)) a15 a16 a17) E = .nx (rr s l n zs a0 a1 a2 a8 a9 a10 a11 (some (.cel r)) a13 (some (.int i)) a15 a16 a17) E' ∧ Flat E' := by
  have hl := h.row.len
  have s0 := q.s0
  have s1 := q.s1
  have hi : i.toNat < its.length := by omega
  let ρ : Rho := rr s l n zs a0 a1 a2 a8 a9 a10 a11 (some (.cel r)) a13 (some (.int i)) a15 a16 a17
  have x1 : f2 ixD (fVar 12) (fVar 14) ρ E = .ok (dI its[i.toNat]) E := (f2_of (C1 := E) (x := .cel r) (y := .int i) rfl rfl).trans (ix_cel h.at' i0 (by simp [hi]))
  have x2 : f2 (in2D true) (f2 ixD (fVar 12) (fVar 14)) (fVar 7) ρ E = .ok (.bl (!decide (its[i.toNat] ∈ (needL n l zs).map It.i))) E := by
    refine (f2_of (C1 := E) (y := .lst ((needL n l zs).map .int)) x1 rfl).trans ?_
    have h := (RowOf.lst (C := E) ((needL n l zs).map It.i)).in2 (a := its[i.toNat]) (neg := true)
    rw [map_It] at h
    exact h
  cases c : decide (its[i.toNat] ∈ (needL n l zs).map It.i)
  · rw [c] at x2
    have fl : Flat (E.set r (.lst ((its.set i.toNat .t).map dI))) := flat_set h.d.fl (items_ok _ _)
    refine ⟨E.set r (.lst ((its.set i.toNat .t).map dI)), if_t (C1 := E) x2 ?_, fl⟩
    have st : stoD (.cel r) (.int i) (.str "torn") E = some (E.set r (.lst ((its.set i.toNat .t).map dI))) := by
      rw [sto_of h.at' i0 (by rw [List.length_map]; omega), List.map_set]
      rfl
    refine seq_nx (C1 := E.set r (.lst ((its.set i.toNat .t).map dI))) (ρ1 := ρ) ?_ ?_
    · have v12 : fVar 12 ρ E = .ok (.cel r) E := rfl
      have v14 : fVar 14 ρ E = .ok (.int i) E := rfl
      show sSto _ _ _ ρ E = _
      rw [e_sSto]
      simp only [e_c, Res.out_ok, v12, v14, st]
    · have g := set_get (c := .lst ((its.set i.toNat .t).map dI)) h.at'
      have hp := place_in_spec (x := .cel r) (y := .lst (zs.map pD)) (ds := zs.map pD) (zs := zs) (n := n) (l := l) fl (.cel g) (by rw [List.length_set]; omega) (by rw [List.length_set]; omega) (fun a ha => by
        rcases List.mem_or_eq_of_mem_set ha with ha | ha
        · exact (h.row.ok a ha).2
        · rw [ha]; trivial) (.lst _) q.strs q.n0 (by have := q.n1; omega) (by have := q.l0; omega) (by have := q.l1; omega) q.z1 q.len (fun ht => absurd (List.mem_iff_getElem.mpr ⟨i.toNat, by rw [List.length_set]; exact hi, by simp⟩) ht)
      have hpl : placeI (needL n l zs) (its.set i.toNat .t) = i.toNat := by
        unfold placeI
        rw [if_pos (List.mem_iff_getElem.mpr ⟨i.toNat, by rw [List.length_set]; exact hi, by simp⟩), place_set hi h.row.not_t]
      rw [hpl, show ((i.toNat : Nat) : Int) = i by omega] at hp
      exact if_f (repr_ne (d := .int i) hp rfl (int_ga (by omega)) (by decide) (by decide)) rfl
  · rw [c] at x2
    exact ⟨E, if_f (C1 := E) x2 rfl, h.d.fl⟩
end K29
namespace K29
open PySem L2 BV
variable {ns : List Int} {i : Int} {C E : Cells} {k : Nat}
def Sh (ns : List Int) (ρ : Rho) : Prop := ∃ b1 b2 b3 b4 b5 b6 b7 b8 b9 b10 b11 b12 b13 b14 b15 b16 b17 : Option D, ρ = [some (.scr ns), b1, b2, b3, b4, b5, b6, b7, b8, b9, b10, b11, b12, b13, b14, b15, b16, b17, none, none, none]
theorem t1 (hC : Flat C) (h0 : 0 ≤ i) (h1 : i < 1000) {b1 b2 b3 b4 b5 b6 b7 b8 b9 b10 b11 b12 b13 b14 b15 b16 b17 : Option D} : ∃ E, S1 [some (.scr ns), some (.int i), b2, b3, b4, b5, b6, b7, b8, b9, b10, b11, b12, b13, b14, b15, b16, b17, none, none, none] C = .nx [some (.scr ns), some (.int i), some (.cel C.length), b3, b4, b5, b6, b7, b8, b9, b10, b11, b12, b13, b14, b15, b16, b17, none, none, none] E ∧ Dr C.length E := by
  obtain ⟨E, e, h⟩ := box_d (ns := ns) hC h0 h1
  exact ⟨E, set_nx (d := .cel C.length) e rfl, h⟩
theorem t2 (h : Dr k E) {b1 b2 b3 b4 b5 b6 b7 b8 b9 b10 b11 b12 b13 b14 b15 b16 b17 : Option D} : ∃ (s : Int) (E' : Cells), S2 [some (.scr ns), some (.int i), some (.cel k), b3, b4, b5, b6, b7, b8, b9, b10, b11, b12, b13, b14, b15, b16, b17, none, none, none] E = .nx [some (.scr ns), some (.int i), some (.cel k), some (.int s), b4, b5, b6, b7, b8, b9, b10, b11, b12, b13, b14, b15, b16, b17, none, none, none] E' ∧ Dr k E' ∧ 2 ≤ s ∧ s ≤ 10 := by
  obtain ⟨r1, E1, e1, a1, b1', d1, _, _⟩ := take_k (m := 9) h (by decide) (by decide)
  refine ⟨2 + r1, E1, set_nx (d := .int (2 + r1)) ?_ rfl, d1, by omega, by omega⟩
  have t : fA (oCall 2 d_law_take) (aCons (fVar 2) (aCons (fC (.int 9)) aNil)) [some (.scr ns), some (.int i), some (.cel k), b3, b4, b5, b6, b7, b8, b9, b10, b11, b12, b13, b14, b15, b16, b17, none, none, none] E = .ok (.int r1) E1 := e1
  exact f2_of (C1 := E) (x := .int 2) rfl t
theorem t3 {s : Int} (h : Dr k E) (s0 : 2 ≤ s) (s1 : s ≤ 10) {b1 b2 b3 b4 b5 b6 b7 b8 b9 b10 b11 b12 b13 b14 b15 b16 b17 : Option D} : ∃ (l n : Int) (E' : Cells), S3 [some (.scr ns), some (.int i), some (.cel k), some (.int s), b4, b5, b6, b7, b8, b9, b10, b11, b12, b13, b14, b15, b16, b17, none, none, none] E = .nx [some (.scr ns), some (.int i), some (.cel k), some (.int s), some (.int l), some (.int n), b6, b7, b8, b9, b10, b11, b12, b13, b14, b15, b16, b17, none, none, none] E' ∧ Dr k E' ∧ 1 ≤ l ∧ l < s ∧ 0 ≤ n ∧ n ≤ 13 := by
  obtain ⟨r1, E1, e1, a1, b1', d1, _, _⟩ := take_k (m := s - 1) h (by omega) (by omega)
  obtain ⟨r2, E2, e2, a2, b2', d2, _, _⟩ := take_k (m := 14) d1 (by decide) (by decide)
  refine ⟨1 + r1, r2, E2, ?_, d2, by omega, by omega, by omega, by omega⟩
  let ρ : Rho := [some (.scr ns), some (.int i), some (.cel k), some (.int s), b4, b5, b6, b7, b8, b9, b10, b11, b12, b13, b14, b15, b16, b17, none, none, none]
  have t : fA (oCall 2 d_law_take) (aCons (fVar 2) (aCons (f2 subD (fVar 3) (fC (.int 1))) aNil)) ρ E = .ok (.int r1) E1 := e1
  have t1 : f2 (addD false) (fC (.int 1)) (fA (oCall 2 d_law_take) (aCons (fVar 2) (aCons (f2 subD (fVar 3) (fC (.int 1))) aNil))) ρ E = .ok (.int (1 + r1)) E1 := f2_of (C1 := E) (x := .int 1) rfl t
  have t2 : fA (oCall 2 d_law_take) (aCons (fVar 2) (aCons (fC (.int 14)) aNil)) ρ E1 = .ok (.int r2) E2 := e2
  have t3 : fA oTup (aCons (f2 (addD false) (fC (.int 1)) (fA (oCall 2 d_law_take) (aCons (fVar 2) (aCons (f2 subD (fVar 3) (fC (.int 1))) aNil)))) (aCons (fA (oCall 2 d_law_take) (aCons (fVar 2) (aCons (fC (.int 14)) aNil))) aNil)) ρ E = .ok (.tup [.int (1 + r1), .int r2]) E2 := by
    rw [e_fA, show aCons (f2 (addD false) (fC (.int 1)) (fA (oCall 2 d_law_take) (aCons (fVar 2) (aCons (f2 subD (fVar 3) (fC (.int 1))) aNil)))) (aCons (fA (oCall 2 d_law_take) (aCons (fVar 2) (aCons (fC (.int 14)) aNil))) aNil) ρ E = .ok [.int (1 + r1), .int r2] E2 by rw [e_aCons, t1, Res.bind_ok, e_aCons, t2]; rfl, Res.bind_ok, e_oTup]
    rfl
  show sAsg _ _ ρ E = _
  rw [e_sAsg, t3]
  rfl
theorem t4 {s l n : Int} (h : Dr k E) (n0 : 0 ≤ n) (n1 : n ≤ 13) {b1 b2 b3 b4 b5 b6 b7 b8 b9 b10 b11 b12 b13 b14 b15 b16 b17 : Option D} : ∃ (zs : List (Int × Int)) (E' : Cells), S4 [some (.scr ns), some (.int i), some (.cel k), some (.int s), some (.int l), some (.int n), b6, b7, b8, b9, b10, b11, b12, b13, b14, b15, b16, b17, none, none, none] E = .nx [some (.scr ns), some (.int i), some (.cel k), some (.int s), some (.int l), some (.int n), some (.lst (zs.map pD)), b7, b8, b9, b10, b11, b12, b13, b14, b15, b16, b17, none, none, none] E' ∧ Dr k E' ∧ zs.length ≤ 10 ∧ ∀ z ∈ zs, Str1 z ∧ z.2 ≤ 19 := by
  obtain ⟨zs, E1, e1, d1, hl, hz⟩ := stretches_spec h n0 n1
  exact ⟨zs, E1, set_nx (d := .lst (zs.map pD)) e1 rfl, d1, hl, hz⟩
theorem t5 {s l n : Int} {zs : List (Int × Int)} (q : Qd s l n zs) (h : Dr k E) {b1 b2 b3 b4 b5 b6 b7 b8 b9 b10 b11 b12 b13 b14 b15 b16 b17 : Option D} : S5 [some (.scr ns), some (.int i), some (.cel k), some (.int s), some (.int l), some (.int n), some (.lst (zs.map pD)), b7, b8, b9, b10, b11, b12, b13, b14, b15, b16, b17, none, none, none] E = .nx (rr s l n zs (some (.scr ns)) (some (.int i)) (some (.cel k)) b8 b9 b10 b11 b12 b13 b14 b15 b16 b17) E := by
  have h1 := law_needed_spec (n := n) (l := l) (zs := zs) h.fl q.n0 (by have := q.n1; omega) q.len
  exact set_nx (d := .lst ((needL n l zs).map .int)) h1 rfl
theorem turn5 (hC : Flat C) (h0 : 0 ≤ i) (h1 : i < 1000) {b1 b2 b3 b4 b5 b6 b7 b8 b9 b10 b11 b12 b13 b14 b15 b16 b17 : Option D} : ∃ (s l n : Int) (zs : List (Int × Int)) (k : Nat) (E : Cells), (∀ f : Rho → Cells → Out, sSeq S1 (sSeq S2 (sSeq S3 (sSeq S4 (sSeq S5 f)))) [some (.scr ns), some (.int i), b2, b3, b4, b5, b6, b7, b8, b9, b10, b11, b12, b13, b14, b15, b16, b17, none, none, none] C = f (rr s l n zs (some (.scr ns)) (some (.int i)) (some (.cel k)) b8 b9 b10 b11 b12 b13 b14 b15 b16 b17) E) ∧ Qd s l n zs ∧ Dr k E := by
  obtain ⟨E1, q1, d1⟩ := t1 (ns := ns) hC h0 h1 (b1 := b1) (b2 := b2) (b3 := b3) (b4 := b4) (b5 := b5) (b6 := b6) (b7 := b7) (b8 := b8) (b9 := b9) (b10 := b10) (b11 := b11) (b12 := b12) (b13 := b13) (b14 := b14) (b15 := b15) (b16 := b16) (b17 := b17)
  obtain ⟨s, E2, q2, d2, s0, s1⟩ := t2 (ns := ns) (i := i) d1 (b1 := b1) (b2 := b2) (b3 := b3) (b4 := b4) (b5 := b5) (b6 := b6) (b7 := b7) (b8 := b8) (b9 := b9) (b10 := b10) (b11 := b11) (b12 := b12) (b13 := b13) (b14 := b14) (b15 := b15) (b16 := b16) (b17 := b17)
  obtain ⟨l, n, E3, q3, d3, l0, l1, n0, n1⟩ := t3 (ns := ns) (i := i) d2 s0 s1 (b1 := b1) (b2 := b2) (b3 := b3) (b4 := b4) (b5 := b5) (b6 := b6) (b7 := b7) (b8 := b8) (b9 := b9) (b10 := b10) (b11 := b11) (b12 := b12) (b13 := b13) (b14 := b14) (b15 := b15) (b16 := b16) (b17 := b17)
  obtain ⟨zs, E4, q4, d4, hl, hz⟩ := t4 (ns := ns) (i := i) (s := s) (l := l) d3 n0 n1 (b1 := b1) (b2 := b2) (b3 := b3) (b4 := b4) (b5 := b5) (b6 := b6) (b7 := b7) (b8 := b8) (b9 := b9) (b10 := b10) (b11 := b11) (b12 := b12) (b13 := b13) (b14 := b14) (b15 := b15) (b16 := b16) (b17 := b17)
  have q : Qd s l n zs := ⟨s0, s1, l0, l1, n0, n1, hl, hz⟩
  have q5 := t5 (ns := ns) (i := i) q d4 (b1 := b1) (b2 := b2) (b3 := b3) (b4 := b4) (b5 := b5) (b6 := b6) (b7 := b7) (b8 := b8) (b9 := b9) (b10 := b10) (b11 := b11) (b12 := b12) (b13 := b13) (b14 := b14) (b15 := b15) (b16 := b16) (b17 := b17)
  exact ⟨s, l, n, zs, C.length, E4, fun f => seq_nx q1 (seq_nx q2 (seq_nx q3 (seq_nx q4 (seq_nx q5 rfl)))), q, d4⟩
theorem seq_ct {f g : Rho → Cells → Out} {ρ ρ1 : Rho} {C C1 : Cells} (h1 : f ρ C = .ct ρ1 C1) : sSeq f g ρ C = .ct ρ1 C1 := by
  unfold sSeq
  rw [h1]
  rfl
theorem turnL (hC : Flat C) (h0 : 0 ≤ i) (h1 : i < 1000) {b1 b2 b3 b4 b5 b6 b7 b8 b9 b10 b11 b12 b13 b14 b15 b16 b17 : Option D} : ∃ (ρ' : Rho) (E : Cells), (bodyL [some (.scr ns), some (.int i), b2, b3, b4, b5, b6, b7, b8, b9, b10, b11, b12, b13, b14, b15, b16, b17, none, none, none] C = .nx ρ' E ∨ bodyL [some (.scr ns), some (.int i), b2, b3, b4, b5, b6, b7, b8, b9, b10, b11, b12, b13, b14, b15, b16, b17, none, none, none] C = .ct ρ' E) ∧ Sh ns ρ' ∧ Flat E := by
  obtain ⟨s, l, n, zs, k, E, f5, q, d⟩ := turn5 (ns := ns) hC h0 h1 (b1 := b1) (b2 := b2) (b3 := b3) (b4 := b4) (b5 := b5) (b6 := b6) (b7 := b7) (b8 := b8) (b9 := b9) (b10 := b10) (b11 := b11) (b12 := b12) (b13 := b13) (b14 := b14) (b15 := b15) (b16 := b16) (b17 := b17)
  unfold bodyL
  rw [f5]
  have hE := d.fl
  by_cases c : ((needL n l zs).length : Int) + 1 > s
  · refine ⟨_, E, .inr (seq_nx (r6 q hE) (seq_nx (r7 q hE) (seq_nx (r8 q) (seq_nx (r9 q hE) (seq_nx (r10 q hE) (seq_nx (r11 q hE) (seq_nx (r12 q hE) (seq_nx (r13 q) (seq_nx (r14 q hE) (seq_ct (r15.trans (if_pos c)))))))))))), ⟨_, _, _, _, _, _, _, _, _, _, _, _, _, _, _, _, _, rfl⟩, hE⟩
  · have c2 : ((needL n l zs).length : Int) + 1 ≤ s := by omega
    have hk := d.bx.lt
    have st0 : StR s (needL n l zs) k (E.length + 1) (E ++ [.lst ((row1 s l n zs).map .int)] ++ [.lst ((row2 s l n zs).map dI)]) (row2 s l n zs) :=
      ⟨⟨(hE.append (.one (ints_ok _ _))).append (.one (items_ok _ _)), d.bx.of (by rw [List.append_assoc, List.getElem?_append_left hk])⟩, by omega, by simp, row2_P q c2⟩
    obtain ⟨E1, its, c13, c14, c15, q19, st1⟩ := r19 (a0 := some (.scr ns)) (a1 := some (.int i)) (a8 := some (.lst ((someL zs).map .int))) (a9 := some (.lst ((fullL s l n zs).map .int))) (a10 := some (optD (toldO s l n zs))) (a11 := some (.lst ((othL n l zs).map .int))) (a13 := b13) (a14 := b14) (a15 := b15) (a16 := b16) (a17 := b17) q st0
    obtain ⟨j, E2, q23, j0, j1, st2⟩ := r23 (a0 := some (.scr ns)) (a1 := some (.int i)) (a8 := some (.lst ((someL zs).map .int))) (a9 := some (.lst ((fullL s l n zs).map .int))) (a10 := some (optD (toldO s l n zs))) (a11 := some (.lst ((othL n l zs).map .int))) (a12 := some (.cel (E.length + 1))) (a13 := c13) (a14 := c14) (a15 := c15) (a16 := some (.lst ((freeL (needL n l zs) its).map .int))) (a17 := some (.int (placeI (needL n l zs) its))) q st1
    obtain ⟨E3, q24, f3⟩ := r24 (a0 := some (.scr ns)) (a1 := some (.int i)) (a2 := some (.cel k)) (a8 := some (.lst ((someL zs).map .int))) (a9 := some (.lst ((fullL s l n zs).map .int))) (a10 := some (optD (toldO s l n zs))) (a11 := some (.lst ((othL n l zs).map .int))) (a13 := c13) (a15 := c15) (a16 := some (.lst ((freeL (needL n l zs) its).map .int))) (a17 := some (.int (placeI (needL n l zs) its))) q st2 j0 j1
    refine ⟨_, E3, .inl (seq_nx (r6 q hE) (seq_nx (r7 q hE) (seq_nx (r8 q) (seq_nx (r9 q hE) (seq_nx (r10 q hE) (seq_nx (r11 q hE) (seq_nx (r12 q hE) (seq_nx (r13 q) (seq_nx (r14 q hE) (seq_nx (r15.trans (if_neg c)) (seq_nx (r16 q) (seq_nx (r17 q c2) (seq_nx (r18 q c2) (seq_nx q19 (seq_nx (r20 q st1) (seq_nx (r21 st1) (seq_nx (r22 q st1) (seq_nx q23 q24)))))))))))))))))), ⟨_, _, _, _, _, _, _, _, _, _, _, _, _, _, _, _, _, rfl⟩, f3⟩
theorem loopLaw : ∀ (q i : Nat) (C : Cells) (ρ : Rho), i + q ≤ 1000 → Sh ns ρ → Flat C → ∃ ρ' E, forL (tgN 1) bodyL ((List.range' i q).map fun (s : Nat) => D.int (s : Nat)) ρ C = .nx ρ' E ∧ Sh ns ρ' ∧ Flat E := by
  intro q
  induction q with
  | zero => intro i C ρ _ hS hC; exact ⟨ρ, C, rfl, hS, hC⟩
  | succ q ih =>
    intro i C ρ hq hS hC
    obtain ⟨b1, b2, b3, b4, b5, b6, b7, b8, b9, b10, b11, b12, b13, b14, b15, b16, b17, rfl⟩ := hS
    obtain ⟨ρ1, E1, h1, s1, f1⟩ := turnL (ns := ns) (i := (i : Nat)) hC (by omega) (by omega) (b1 := b1) (b2 := b2) (b3 := b3) (b4 := b4) (b5 := b5) (b6 := b6) (b7 := b7) (b8 := b8) (b9 := b9) (b10 := b10) (b11 := b11) (b12 := b12) (b13 := b13) (b14 := b14) (b15 := b15) (b16 := b16) (b17 := b17)
    obtain ⟨ρ2, E2, h2, s2, f2⟩ := ih (i + 1) E1 ρ1 (by omega) s1 f1
    refine ⟨ρ2, E2, ?_, s2, f2⟩
    rw [List.range'_succ, List.map_cons, e_forL_N]
    have e0 : ([some (.scr ns), b1, b2, b3, b4, b5, b6, b7, b8, b9, b10, b11, b12, b13, b14, b15, b16, b17, none, none, none] : Rho).set 1 (some (.int (i : Nat))) = [some (.scr ns), some (.int (i : Nat)), b2, b3, b4, b5, b6, b7, b8, b9, b10, b11, b12, b13, b14, b15, b16, b17, none, none, none] := rfl
    rw [e0]
    rcases h1 with h1 | h1 <;> rw [h1] <;> exact h2
theorem rg_r' (c : Nat) : rg 0 (c : Int) = (List.range' 0 c).map fun (s : Nat) => D.int (s : Nat) := by
  simp [rg, List.range_eq_range']
end K29
namespace K29
open PySem L2 BV
theorem law_good : ∀ ns : List Int, ns.length ≤ 63 → ∃ C1, d_law [.scr ns] [] = .ok (.bl true) C1 := by
  intro ns hn
  obtain ⟨q, hq, hq0⟩ : ∃ q : Nat, (if (if (15 : Int) < ns.length then (15 : Int) else ns.length) > 6 then (if (15 : Int) < ns.length then (15 : Int) else ns.length) else 6) = (q : Nat) ∧ q ≤ 20 := by
    refine ⟨(if (if (15 : Int) < ns.length then (15 : Int) else ns.length) > 6 then (if (15 : Int) < ns.length then (15 : Int) else ns.length) else 6).toNat, ?_, ?_⟩ <;> split <;> (try split) <;> omega
  let ρ : Rho := [some (.scr ns), none, none, none, none, none, none, none, none, none, none, none, none, none, none, none, none, none, none, none, none]
  obtain ⟨ρ', E, h, hS, hF⟩ := loopLaw (ns := ns) q 0 [] ρ (by omega) ⟨none, none, none, none, none, none, none, none, none, none, none, none, none, none, none, none, none, rfl⟩ Flat.nil
  have hr := iRg1_of (f := fA oMax (aCons (fC (.int 6)) (aCons (fA oMin (aCons (fA oLen (aCons (fVar 0) aNil)) (aCons (fC (.int 15)) aNil))) aNil))) (ρ := ρ) (C := []) (C1 := []) (j := (q : Nat)) (by
    have e1 : oLen [.scr ns] [] = .ok (.int ns.length) [] := by simp
    have e2 : aCons (fA oLen (aCons (fVar 0) aNil)) (aCons (fC (.int 15)) aNil) ρ [] = .ok [.int ns.length, .int 15] [] := by simp [e1, ρ]
    rw [e_fA]
    simp only [e_aCons, e_aNil, e_c, e_fA, Res.bind_ok] at e2 ⊢
    rw [e2]
    simp only [Res.bind_ok, e_min_ii, e_max_ii, hq]) (by omega) (by omega)
  have hb : b_law ρ [] = .rt (.bl true) E := by
    rw [law_eq]
    refine seq_nx (ρ1 := ρ') (C1 := E) ?_ (ret_rt rfl)
    rw [e_sFor, hr, rg_r']
    simp only [Res.out_ok, e_forS_fix]
    exact h
  have := den_rt (m := false) (np := 1) (N := 21) (ds := [.scr ns]) rfl hb
  exact ⟨_, this.trans (fin_val (C := []) (by simpa using Flat.nil) rfl)⟩
end K29
namespace K29
open PySem PySem.Spec PyProof.Rows L2 BV
theorem all_mk {l : PySem.W.OpenLaw} {w : World} {K : PySem.W.Frag} {h : Heap} {mg : Str → Option Value} {fa : Addr} (X : K.In h) (G : h.Ns mainGlobals mg) (hfa : mg "law" = some (.ref fa))
    {f0 : Addr} {oc0 kV0 dc0 pm0 cd0 ct0 : Value} {od0 an0 : Option Addr} {sl0 : Array (Option Value)}
    (a0 : PySem.W.nsIn K mainGlobals "_law_box" = some (some (.ref f0))) (l0 : K.lookup f0 = some ⟨oc0, od0, .func (PySem.W.fnOf "_law_box" "_law_box" (defArgs s_law_box) (defBody s_law_box) (defScope s_law_box) .none kV0 dc0 pm0 an0 cd0 ct0), sl0⟩) (c0 : PySem.W.codeIn K cd0 "_law_box" = true) (k0 : PySem.W.keepIn K (.ref f0) = true)
    {f1 : Addr} {oc1 kV1 dc1 pm1 cd1 ct1 : Value} {od1 an1 : Option Addr} {sl1 : Array (Option Value)}
    (a1 : PySem.W.nsIn K mainGlobals "_law_take" = some (some (.ref f1))) (l1 : K.lookup f1 = some ⟨oc1, od1, .func (PySem.W.fnOf "_law_take" "_law_take" (defArgs s_law_take) (defBody s_law_take) (defScope s_law_take) .none kV1 dc1 pm1 an1 cd1 ct1), sl1⟩) (c1 : PySem.W.codeIn K cd1 "_law_take" = true) (k1 : PySem.W.keepIn K (.ref f1) = true)
    {f2 : Addr} {oc2 kV2 dc2 pm2 cd2 ct2 : Value} {od2 an2 : Option Addr} {sl2 : Array (Option Value)}
    (a2 : PySem.W.nsIn K mainGlobals "_law_stretches" = some (some (.ref f2))) (l2 : K.lookup f2 = some ⟨oc2, od2, .func (PySem.W.fnOf "_law_stretches" "_law_stretches" (defArgs s_law_stretches) (defBody s_law_stretches) (defScope s_law_stretches) .none kV2 dc2 pm2 an2 cd2 ct2), sl2⟩) (c2 : PySem.W.codeIn K cd2 "_law_stretches" = true) (k2 : PySem.W.keepIn K (.ref f2) = true)
    {f3 : Addr} {oc3 kV3 dc3 pm3 cd3 ct3 : Value} {od3 an3 : Option Addr} {sl3 : Array (Option Value)}
    (a3 : PySem.W.nsIn K mainGlobals "_law_needed" = some (some (.ref f3))) (l3 : K.lookup f3 = some ⟨oc3, od3, .func (PySem.W.fnOf "_law_needed" "_law_needed" (defArgs s_law_needed) (defBody s_law_needed) (defScope s_law_needed) .none kV3 dc3 pm3 an3 cd3 ct3), sl3⟩) (c3 : PySem.W.codeIn K cd3 "_law_needed" = true) (k3 : PySem.W.keepIn K (.ref f3) = true)
    {f4 : Addr} {oc4 kV4 dc4 pm4 cd4 ct4 : Value} {od4 an4 : Option Addr} {sl4 : Array (Option Value)}
    (a4 : PySem.W.nsIn K mainGlobals "is_sequence" = some (some (.ref f4))) (l4 : K.lookup f4 = some ⟨oc4, od4, .func (PySem.W.fnOf "is_sequence" "is_sequence" (defArgs s_is_sequence) (defBody s_is_sequence) (defScope s_is_sequence) .none kV4 dc4 pm4 an4 cd4 ct4), sl4⟩) (c4 : PySem.W.codeIn K cd4 "is_sequence" = true) (k4 : PySem.W.keepIn K (.ref f4) = true)
    {f5 : Addr} {oc5 kV5 dc5 pm5 cd5 ct5 : Value} {od5 an5 : Option Addr} {sl5 : Array (Option Value)}
    (a5 : PySem.W.nsIn K mainGlobals "is_integer" = some (some (.ref f5))) (l5 : K.lookup f5 = some ⟨oc5, od5, .func (PySem.W.fnOf "is_integer" "is_integer" (defArgs s_is_integer) (defBody s_is_integer) (defScope s_is_integer) .none kV5 dc5 pm5 an5 cd5 ct5), sl5⟩) (c5 : PySem.W.codeIn K cd5 "is_integer" = true) (k5 : PySem.W.keepIn K (.ref f5) = true)
    {f6 : Addr} {oc6 kV6 dc6 pm6 cd6 ct6 : Value} {od6 an6 : Option Addr} {sl6 : Array (Option Value)}
    (a6 : PySem.W.nsIn K mainGlobals "is_number" = some (some (.ref f6))) (l6 : K.lookup f6 = some ⟨oc6, od6, .func (PySem.W.fnOf "is_number" "is_number" (defArgs s_is_number) (defBody s_is_number) (defScope s_is_number) .none kV6 dc6 pm6 an6 cd6 ct6), sl6⟩) (c6 : PySem.W.codeIn K cd6 "is_number" = true) (k6 : PySem.W.keepIn K (.ref f6) = true)
    {f7 : Addr} {oc7 kV7 dc7 pm7 cd7 ct7 : Value} {od7 an7 : Option Addr} {sl7 : Array (Option Value)}
    (a7 : PySem.W.nsIn K mainGlobals "is_stretch" = some (some (.ref f7))) (l7 : K.lookup f7 = some ⟨oc7, od7, .func (PySem.W.fnOf "is_stretch" "is_stretch" (defArgs s_is_stretch) (defBody s_is_stretch) (defScope s_is_stretch) .none kV7 dc7 pm7 an7 cd7 ct7), sl7⟩) (c7 : PySem.W.codeIn K cd7 "is_stretch" = true) (k7 : PySem.W.keepIn K (.ref f7) = true)
    {f8 : Addr} {oc8 kV8 dc8 pm8 cd8 ct8 : Value} {od8 an8 : Option Addr} {sl8 : Array (Option Value)}
    (a8 : PySem.W.nsIn K mainGlobals "check_stretches" = some (some (.ref f8))) (l8 : K.lookup f8 = some ⟨oc8, od8, .func (PySem.W.fnOf "check_stretches" "check_stretches" (defArgs s_check_stretches) (defBody s_check_stretches) (defScope s_check_stretches) .none kV8 dc8 pm8 an8 cd8 ct8), sl8⟩) (c8 : PySem.W.codeIn K cd8 "check_stretches" = true) (k8 : PySem.W.keepIn K (.ref f8) = true)
    {f9 : Addr} {oc9 kV9 dc9 pm9 cd9 ct9 : Value} {od9 an9 : Option Addr} {sl9 : Array (Option Value)}
    (a9 : PySem.W.nsIn K mainGlobals "need_count" = some (some (.ref f9))) (l9 : K.lookup f9 = some ⟨oc9, od9, .func (PySem.W.fnOf "need_count" "need_count" (defArgs s_need_count) (defBody s_need_count) (defScope s_need_count) .none kV9 dc9 pm9 an9 cd9 ct9), sl9⟩) (c9 : PySem.W.codeIn K cd9 "need_count" = true) (k9 : PySem.W.keepIn K (.ref f9) = true)
    {f10 : Addr} {oc10 kV10 dc10 pm10 cd10 ct10 : Value} {od10 an10 : Option Addr} {sl10 : Array (Option Value)}
    (a10 : PySem.W.nsIn K mainGlobals "needed" = some (some (.ref f10))) (l10 : K.lookup f10 = some ⟨oc10, od10, .func (PySem.W.fnOf "needed" "needed" (defArgs s_needed) (defBody s_needed) (defScope s_needed) .none kV10 dc10 pm10 an10 cd10 ct10), sl10⟩) (c10 : PySem.W.codeIn K cd10 "needed" = true) (k10 : PySem.W.keepIn K (.ref f10) = true)
    {f11 : Addr} {oc11 kV11 dc11 pm11 cd11 ct11 : Value} {od11 an11 : Option Addr} {sl11 : Array (Option Value)}
    (a11 : PySem.W.nsIn K mainGlobals "need_at" = some (some (.ref f11))) (l11 : K.lookup f11 = some ⟨oc11, od11, .func (PySem.W.fnOf "need_at" "need_at" (defArgs s_need_at) (defBody s_need_at) (defScope s_need_at) .none kV11 dc11 pm11 an11 cd11 ct11), sl11⟩) (c11 : PySem.W.codeIn K cd11 "need_at" = true) (k11 : PySem.W.keepIn K (.ref f11) = true)
    {f12 : Addr} {oc12 kV12 dc12 pm12 cd12 ct12 : Value} {od12 an12 : Option Addr} {sl12 : Array (Option Value)}
    (a12 : PySem.W.nsIn K mainGlobals "in_all" = some (some (.ref f12))) (l12 : K.lookup f12 = some ⟨oc12, od12, .func (PySem.W.fnOf "in_all" "in_all" (defArgs s_in_all) (defBody s_in_all) (defScope s_in_all) .none kV12 dc12 pm12 an12 cd12 ct12), sl12⟩) (c12 : PySem.W.codeIn K cd12 "in_all" = true) (k12 : PySem.W.keepIn K (.ref f12) = true)
    {f13 : Addr} {oc13 kV13 dc13 pm13 cd13 ct13 : Value} {od13 an13 : Option Addr} {sl13 : Array (Option Value)}
    (a13 : PySem.W.nsIn K mainGlobals "need_last" = some (some (.ref f13))) (l13 : K.lookup f13 = some ⟨oc13, od13, .func (PySem.W.fnOf "need_last" "need_last" (defArgs s_need_last) (defBody s_need_last) (defScope s_need_last) .none kV13 dc13 pm13 an13 cd13 ct13), sl13⟩) (c13 : PySem.W.codeIn K cd13 "need_last" = true) (k13 : PySem.W.keepIn K (.ref f13) = true)
    {f14 : Addr} {oc14 kV14 dc14 pm14 cd14 ct14 : Value} {od14 an14 : Option Addr} {sl14 : Array (Option Value)}
    (a14 : PySem.W.nsIn K mainGlobals "is_below" = some (some (.ref f14))) (l14 : K.lookup f14 = some ⟨oc14, od14, .func (PySem.W.fnOf "is_below" "is_below" (defArgs s_is_below) (defBody s_is_below) (defScope s_is_below) .none kV14 dc14 pm14 an14 cd14 ct14), sl14⟩) (c14 : PySem.W.codeIn K cd14 "is_below" = true) (k14 : PySem.W.keepIn K (.ref f14) = true)
    {f15 : Addr} {oc15 kV15 dc15 pm15 cd15 ct15 : Value} {od15 an15 : Option Addr} {sl15 : Array (Option Value)}
    (a15 : PySem.W.nsIn K mainGlobals "need_slots" = some (some (.ref f15))) (l15 : K.lookup f15 = some ⟨oc15, od15, .func (PySem.W.fnOf "need_slots" "need_slots" (defArgs s_need_slots) (defBody s_need_slots) (defScope s_need_slots) .none kV15 dc15 pm15 an15 cd15 ct15), sl15⟩) (c15 : PySem.W.codeIn K cd15 "need_slots" = true) (k15 : PySem.W.keepIn K (.ref f15) = true)
    {f16 : Addr} {oc16 kV16 dc16 pm16 cd16 ct16 : Value} {od16 an16 : Option Addr} {sl16 : Array (Option Value)}
    (a16 : PySem.W.nsIn K mainGlobals "first_full" = some (some (.ref f16))) (l16 : K.lookup f16 = some ⟨oc16, od16, .func (PySem.W.fnOf "first_full" "first_full" (defArgs s_first_full) (defBody s_first_full) (defScope s_first_full) .none kV16 dc16 pm16 an16 cd16 ct16), sl16⟩) (c16 : PySem.W.codeIn K cd16 "first_full" = true) (k16 : PySem.W.keepIn K (.ref f16) = true)
    {f17 : Addr} {oc17 kV17 dc17 pm17 cd17 ct17 : Value} {od17 an17 : Option Addr} {sl17 : Array (Option Value)}
    (a17 : PySem.W.nsIn K mainGlobals "is_row_form" = some (some (.ref f17))) (l17 : K.lookup f17 = some ⟨oc17, od17, .func (PySem.W.fnOf "is_row_form" "is_row_form" (defArgs s_is_row_form) (defBody s_is_row_form) (defScope s_is_row_form) .none kV17 dc17 pm17 an17 cd17 ct17), sl17⟩) (c17 : PySem.W.codeIn K cd17 "is_row_form" = true) (k17 : PySem.W.keepIn K (.ref f17) = true)
    {f18 : Addr} {oc18 kV18 dc18 pm18 cd18 ct18 : Value} {od18 an18 : Option Addr} {sl18 : Array (Option Value)}
    (a18 : PySem.W.nsIn K mainGlobals "place_in" = some (some (.ref f18))) (l18 : K.lookup f18 = some ⟨oc18, od18, .func (PySem.W.fnOf "place_in" "place_in" (defArgs s_place_in) (defBody s_place_in) (defScope s_place_in) .none kV18 dc18 pm18 an18 cd18 ct18), sl18⟩) (c18 : PySem.W.codeIn K cd18 "place_in" = true) (k18 : PySem.W.keepIn K (.ref f18) = true)
    {f19 : Addr} {oc19 kV19 dc19 pm19 cd19 ct19 : Value} {od19 an19 : Option Addr} {sl19 : Array (Option Value)}
    (a19 : PySem.W.nsIn K mainGlobals "law" = some (some (.ref f19))) (l19 : K.lookup f19 = some ⟨oc19, od19, .func (PySem.W.fnOf "law" "law" (defArgs s_law) (defBody s_law) (defScope s_law) .none kV19 dc19 pm19 an19 cd19 ct19), sl19⟩) (c19 : PySem.W.codeIn K cd19 "law" = true) (k19 : PySem.W.keepIn K (.ref f19) = true)
    (z_abs : PySem.W.nsIn K mainGlobals "abs" = some none)
    (z_all : PySem.W.nsIn K mainGlobals "all" = some none)
    (z_bool : PySem.W.nsIn K mainGlobals "bool" = some none)
    (z_int : PySem.W.nsIn K mainGlobals "int" = some none)
    (z_isinstance : PySem.W.nsIn K mainGlobals "isinstance" = some none)
    (z_len : PySem.W.nsIn K mainGlobals "len" = some none)
    (z_list : PySem.W.nsIn K mainGlobals "list" = some none)
    (z_max : PySem.W.nsIn K mainGlobals "max" = some none)
    (z_min : PySem.W.nsIn K mainGlobals "min" = some none)
    (z_range : PySem.W.nsIn K mainGlobals "range" = some none)
    (z_repr : PySem.W.nsIn K mainGlobals "repr" = some none)
    (z_sorted : PySem.W.nsIn K mainGlobals "sorted" = some none)
    (z_str : PySem.W.nsIn K mainGlobals "str" = some none)
    (z_tuple : PySem.W.nsIn K mainGlobals "tuple" = some none)
    {t_MOST_SLOTS : Tok} (y_MOST_SLOTS : PySem.W.nsIn K mainGlobals "MOST_SLOTS" = some (some (.int (64) t_MOST_SLOTS)))
    {t_TORN : Tok} (y_TORN : PySem.W.nsIn K mainGlobals "TORN" = some (some (.str "torn" t_TORN)))
    : ∃ fd : FuncData, (∀ (s : Shared) (v : Value), BindsTo s fd ⟨[v], []⟩ [("_law_script", v)]) ∧ ∀ base : Heap, K.In base → base.Ns mainGlobals mg → FnG l.prog w K mg base 8 fa fd ["_law_script"] (spD K mg 1 d_law) := by
  have e := hfa.symm.trans (PySem.W.mg_of X G a19)
  cases e
  have D0 := defAt_mk (ps := P_law_box) X G a0 l0 c0 k0 fun _ _ _ _ _ _ us hl => match us, hl with | [_, _], _ => rfl
  have D1 := defAt_mk (ps := P_law_take) X G a1 l1 c1 k1 fun _ _ _ _ _ _ us hl => match us, hl with | [_, _], _ => rfl
  have D2 := defAt_mk (ps := P_law_stretches) X G a2 l2 c2 k2 fun _ _ _ _ _ _ us hl => match us, hl with | [_, _], _ => rfl
  have D3 := defAt_mk (ps := P_law_needed) X G a3 l3 c3 k3 fun _ _ _ _ _ _ us hl => match us, hl with | [_, _, _], _ => rfl
  have D4 := defAt_mk (ps := P_is_sequence) X G a4 l4 c4 k4 fun _ _ _ _ _ _ us hl => match us, hl with | [_], _ => rfl
  have D5 := defAt_mk (ps := P_is_integer) X G a5 l5 c5 k5 fun _ _ _ _ _ _ us hl => match us, hl with | [_], _ => rfl
  have D6 := defAt_mk (ps := P_is_number) X G a6 l6 c6 k6 fun _ _ _ _ _ _ us hl => match us, hl with | [_], _ => rfl
  have D7 := defAt_mk (ps := P_is_stretch) X G a7 l7 c7 k7 fun _ _ _ _ _ _ us hl => match us, hl with | [_], _ => rfl
  have D8 := defAt_mk (ps := P_check_stretches) X G a8 l8 c8 k8 fun _ _ _ _ _ _ us hl => match us, hl with | [_], _ => rfl
  have D9 := defAt_mk (ps := P_need_count) X G a9 l9 c9 k9 fun _ _ _ _ _ _ us hl => match us, hl with | [_], _ => rfl
  have D10 := defAt_mk (ps := P_needed) X G a10 l10 c10 k10 fun _ _ _ _ _ _ us hl => match us, hl with | [_, _, _], _ => rfl
  have D11 := defAt_mk (ps := P_need_at) X G a11 l11 c11 k11 fun _ _ _ _ _ _ us hl => match us, hl with | [_, _, _], _ => rfl
  have D12 := defAt_mk (ps := P_in_all) X G a12 l12 c12 k12 fun _ _ _ _ _ _ us hl => match us, hl with | [_], _ => rfl
  have D13 := defAt_mk (ps := P_need_last) X G a13 l13 c13 k13 fun _ _ _ _ _ _ us hl => match us, hl with | [_, _], _ => rfl
  have D14 := defAt_mk (ps := P_is_below) X G a14 l14 c14 k14 fun _ _ _ _ _ _ us hl => match us, hl with | [_, _], _ => rfl
  have D15 := defAt_mk (ps := P_need_slots) X G a15 l15 c15 k15 fun _ _ _ _ _ _ us hl => match us, hl with | [_], _ => rfl
  have D16 := defAt_mk (ps := P_first_full) X G a16 l16 c16 k16 fun _ _ _ _ _ _ us hl => match us, hl with | [_, _, _, _], _ => rfl
  have D17 := defAt_mk (ps := P_is_row_form) X G a17 l17 c17 k17 fun _ _ _ _ _ _ us hl => match us, hl with | [_], _ => rfl
  have D18 := defAt_mk (ps := P_place_in) X G a18 l18 c18 k18 fun _ _ _ _ _ _ us hl => match us, hl with | [_, _, _, _], _ => rfl
  have D19 := defAt_mk (ps := P_law) X G a19 l19 c19 k19 fun _ _ _ _ _ _ us hl => match us, hl with | [_], _ => rfl
  have T : Txt K mg (fun i => [f0, f1, f2, f3, f4, f5, f6, f7, f8, f9, f10, f11, f12, f13, f14, f15, f16, f17, f18, fa].getD i 0) (fun i => [PySem.W.fnOf "_law_box" "_law_box" (defArgs s_law_box) (defBody s_law_box) (defScope s_law_box) .none kV0 dc0 pm0 an0 cd0 ct0, PySem.W.fnOf "_law_take" "_law_take" (defArgs s_law_take) (defBody s_law_take) (defScope s_law_take) .none kV1 dc1 pm1 an1 cd1 ct1, PySem.W.fnOf "_law_stretches" "_law_stretches" (defArgs s_law_stretches) (defBody s_law_stretches) (defScope s_law_stretches) .none kV2 dc2 pm2 an2 cd2 ct2, PySem.W.fnOf "_law_needed" "_law_needed" (defArgs s_law_needed) (defBody s_law_needed) (defScope s_law_needed) .none kV3 dc3 pm3 an3 cd3 ct3, PySem.W.fnOf "is_sequence" "is_sequence" (defArgs s_is_sequence) (defBody s_is_sequence) (defScope s_is_sequence) .none kV4 dc4 pm4 an4 cd4 ct4, PySem.W.fnOf "is_integer" "is_integer" (defArgs s_is_integer) (defBody s_is_integer) (defScope s_is_integer) .none kV5 dc5 pm5 an5 cd5 ct5, PySem.W.fnOf "is_number" "is_number" (defArgs s_is_number) (defBody s_is_number) (defScope s_is_number) .none kV6 dc6 pm6 an6 cd6 ct6, PySem.W.fnOf "is_stretch" "is_stretch" (defArgs s_is_stretch) (defBody s_is_stretch) (defScope s_is_stretch) .none kV7 dc7 pm7 an7 cd7 ct7, PySem.W.fnOf "check_stretches" "check_stretches" (defArgs s_check_stretches) (defBody s_check_stretches) (defScope s_check_stretches) .none kV8 dc8 pm8 an8 cd8 ct8, PySem.W.fnOf "need_count" "need_count" (defArgs s_need_count) (defBody s_need_count) (defScope s_need_count) .none kV9 dc9 pm9 an9 cd9 ct9, PySem.W.fnOf "needed" "needed" (defArgs s_needed) (defBody s_needed) (defScope s_needed) .none kV10 dc10 pm10 an10 cd10 ct10, PySem.W.fnOf "need_at" "need_at" (defArgs s_need_at) (defBody s_need_at) (defScope s_need_at) .none kV11 dc11 pm11 an11 cd11 ct11, PySem.W.fnOf "in_all" "in_all" (defArgs s_in_all) (defBody s_in_all) (defScope s_in_all) .none kV12 dc12 pm12 an12 cd12 ct12, PySem.W.fnOf "need_last" "need_last" (defArgs s_need_last) (defBody s_need_last) (defScope s_need_last) .none kV13 dc13 pm13 an13 cd13 ct13, PySem.W.fnOf "is_below" "is_below" (defArgs s_is_below) (defBody s_is_below) (defScope s_is_below) .none kV14 dc14 pm14 an14 cd14 ct14, PySem.W.fnOf "need_slots" "need_slots" (defArgs s_need_slots) (defBody s_need_slots) (defScope s_need_slots) .none kV15 dc15 pm15 an15 cd15 ct15, PySem.W.fnOf "first_full" "first_full" (defArgs s_first_full) (defBody s_first_full) (defScope s_first_full) .none kV16 dc16 pm16 an16 cd16 ct16, PySem.W.fnOf "is_row_form" "is_row_form" (defArgs s_is_row_form) (defBody s_is_row_form) (defScope s_is_row_form) .none kV17 dc17 pm17 an17 cd17 ct17, PySem.W.fnOf "place_in" "place_in" (defArgs s_place_in) (defBody s_place_in) (defScope s_place_in) .none kV18 dc18 pm18 an18 cd18 ct18, PySem.W.fnOf "law" "law" (defArgs s_law) (defBody s_law) (defScope s_law) .none kV19 dc19 pm19 an19 cd19 ct19].getD i (PySem.W.fnOf "law" "law" (defArgs s_law) (defBody s_law) (defScope s_law) .none kV19 dc19 pm19 an19 cd19 ct19)) :=
    { d_law_box := D0
      d_law_take := D1
      d_law_stretches := D2
      d_law_needed := D3
      d_is_sequence := D4
      d_is_integer := D5
      d_is_number := D6
      d_is_stretch := D7
      d_check_stretches := D8
      d_need_count := D9
      d_needed := D10
      d_need_at := D11
      d_in_all := D12
      d_need_last := D13
      d_is_below := D14
      d_need_slots := D15
      d_first_full := D16
      d_is_row_form := D17
      d_place_in := D18
      d_law := D19
      n_abs := PySem.W.mg_none_of X G z_abs
      n_all := PySem.W.mg_none_of X G z_all
      n_bool := PySem.W.mg_none_of X G z_bool
      n_int := PySem.W.mg_none_of X G z_int
      n_isinstance := PySem.W.mg_none_of X G z_isinstance
      n_len := PySem.W.mg_none_of X G z_len
      n_list := PySem.W.mg_none_of X G z_list
      n_max := PySem.W.mg_none_of X G z_max
      n_min := PySem.W.mg_none_of X G z_min
      n_range := PySem.W.mg_none_of X G z_range
      n_repr := PySem.W.mg_none_of X G z_repr
      n_sorted := PySem.W.mg_none_of X G z_sorted
      n_str := PySem.W.mg_none_of X G z_str
      n_tuple := PySem.W.mg_none_of X G z_tuple
      c_MOST_SLOTS := ⟨_, PySem.W.mg_of X G y_MOST_SLOTS⟩
      c_TORN := ⟨_, PySem.W.mg_of X G y_TORN⟩
      kw_needed_0_stretches_last_number := kOk_mk D10 fun _ _ _ _ _ _ us ws h1 h2 => match us, ws, h1, h2 with | [], [_, _, _], _, _ => rfl
      kw_first_full_0_stretches_number_last_slots := kOk_mk D16 fun _ _ _ _ _ _ us ws h1 h2 => match us, ws, h1, h2 with | [], [_, _, _, _], _, _ => rfl
      kw_place_in_0_stretches_last_number_row := kOk_mk D18 fun _ _ _ _ _ _ us ws h1 h2 => match us, ws, h1, h2 with | [], [_, _, _, _], _, _ => rfl }
  exact ⟨_, fun s v => .of_eq rfl, fun base _ _ => ok_law (fA := fun i => [f0, f1, f2, f3, f4, f5, f6, f7, f8, f9, f10, f11, f12, f13, f14, f15, f16, f17, f18, fa].getD i 0) T⟩
end K29

open PySem PySem.W PyProof.Rows in
theorem PySem.Challenge.cw_wrecktold_k29_whole_what_is_needed_and_w_holds : PySem.Challenge.rw_wrecktold_k29_whole_what_is_needed_and_w.Holds := by
  w_on; o_law; k_head; (case hw => w_witness2)
  k_fill
  refine BV.walkG (l := PySem.Challenge.rw_wrecktold_k29_whole_what_is_needed_and_w) (k := 8) (x := "_law_script") rfl rfl ⟨rfl, by decide, by decide⟩ (fun w h Y => PySem.W.kIn_of Y) ?F K29.law_good
  case F =>
    intro w mg fa h KX G hmg
    refine' K29.all_mk KX G hmg ?a0 ?l0 ?c0 ?k0 ?a1 ?l1 ?c1 ?k1 ?a2 ?l2 ?c2 ?k2 ?a3 ?l3 ?c3 ?k3 ?a4 ?l4 ?c4 ?k4 ?a5 ?l5 ?c5 ?k5 ?a6 ?l6 ?c6 ?k6 ?a7 ?l7 ?c7 ?k7 ?a8 ?l8 ?c8 ?k8 ?a9 ?l9 ?c9 ?k9 ?a10 ?l10 ?c10 ?k10 ?a11 ?l11 ?c11 ?k11 ?a12 ?l12 ?c12 ?k12 ?a13 ?l13 ?c13 ?k13 ?a14 ?l14 ?c14 ?k14 ?a15 ?l15 ?c15 ?k15 ?a16 ?l16 ?c16 ?k16 ?a17 ?l17 ?c17 ?k17 ?a18 ?l18 ?c18 ?k18 ?a19 ?l19 ?c19 ?k19 ?z_abs ?z_all ?z_bool ?z_int ?z_isinstance ?z_len ?z_list ?z_max ?z_min ?z_range ?z_repr ?z_sorted ?z_str ?z_tuple ?y_MOST_SLOTS ?y_TORN
    (case a0 => k_is)
    (case l0 => k_is)
    (case c0 => k_is)
    (case k0 => k_is)
    (case a1 => k_is)
    (case l1 => k_is)
    (case c1 => k_is)
    (case k1 => k_is)
    (case a2 => k_is)
    (case l2 => k_is)
    (case c2 => k_is)
    (case k2 => k_is)
    (case a3 => k_is)
    (case l3 => k_is)
    (case c3 => k_is)
    (case k3 => k_is)
    (case a4 => k_is)
    (case l4 => k_is)
    (case c4 => k_is)
    (case k4 => k_is)
    (case a5 => k_is)
    (case l5 => k_is)
    (case c5 => k_is)
    (case k5 => k_is)
    (case a6 => k_is)
    (case l6 => k_is)
    (case c6 => k_is)
    (case k6 => k_is)
    (case a7 => k_is)
    (case l7 => k_is)
    (case c7 => k_is)
    (case k7 => k_is)
    (case a8 => k_is)
    (case l8 => k_is)
    (case c8 => k_is)
    (case k8 => k_is)
    (case a9 => k_is)
    (case l9 => k_is)
    (case c9 => k_is)
    (case k9 => k_is)
    (case a10 => k_is)
    (case l10 => k_is)
    (case c10 => k_is)
    (case k10 => k_is)
    (case a11 => k_is)
    (case l11 => k_is)
    (case c11 => k_is)
    (case k11 => k_is)
    (case a12 => k_is)
    (case l12 => k_is)
    (case c12 => k_is)
    (case k12 => k_is)
    (case a13 => k_is)
    (case l13 => k_is)
    (case c13 => k_is)
    (case k13 => k_is)
    (case a14 => k_is)
    (case l14 => k_is)
    (case c14 => k_is)
    (case k14 => k_is)
    (case a15 => k_is)
    (case l15 => k_is)
    (case c15 => k_is)
    (case k15 => k_is)
    (case a16 => k_is)
    (case l16 => k_is)
    (case c16 => k_is)
    (case k16 => k_is)
    (case a17 => k_is)
    (case l17 => k_is)
    (case c17 => k_is)
    (case k17 => k_is)
    (case a18 => k_is)
    (case l18 => k_is)
    (case c18 => k_is)
    (case k18 => k_is)
    (case a19 => k_is)
    (case l19 => k_is)
    (case c19 => k_is)
    (case k19 => k_is)
    (case z_abs => k_is)
    (case z_all => k_is)
    (case z_bool => k_is)
    (case z_int => k_is)
    (case z_isinstance => k_is)
    (case z_len => k_is)
    (case z_list => k_is)
    (case z_max => k_is)
    (case z_min => k_is)
    (case z_range => k_is)
    (case z_repr => k_is)
    (case z_sorted => k_is)
    (case z_str => k_is)
    (case z_tuple => k_is)
    (case y_MOST_SLOTS => k_is)
    (case y_TORN => k_is)
