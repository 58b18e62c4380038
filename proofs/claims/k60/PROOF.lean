import PyProof.Rows.All
import Wide.All
import OpenK.AllK
import Wide.FinOn
import HandS.ForMost
import HandS.ForExc
import HandS.CallSlots
import HandS.TupAny
import HandS.TupMul
import HandS.Deep
import HandS.Style
import HandS.Walk
import HandS.Conv
import HandS.IsInst
import HandS.RaiseMore
import HandS.Lambda
import HandS.TryOnly
import HandS.Dict
import HandS.DictComp
import HandS.More
import HandS.SortInts
import HandS.SortOrd
import HandS.SortRule
import HandS.Strs
import HandS.ExcInit
import HandS.ExcField
import KE.KExcSuper
import HandS.EndTab
import KE.KNestM
import KE.KExcIs
import PyProof.Rows.ReprOcc
import HandS.Zip
import HandS.Text
import HandS.SetFor
import HandS.WordsDict
import PySem.Challenge.RW_wrecktold_k60_whole_how_many_rows_can_co
set_option Elab.async false
set_option linter.all false
set_option maxRecDepth 100000
set_option maxHeartbeats 4000000
/-! BV: a by-value layer over HandS. Data D without addresses (mutable lists as numbered cells), plain functions for
what constructs of Python compute on them, one lemma a construct. -/
namespace BV
open PySem PySem.Spec PyProof.Rows L2

/-- data: tuples and lists by value; cel k: the k-th mutable list; scr: the script -/
inductive D where
  | non | bl (b : Bool) | int (i : Int) | str (x : Str) | tup (xs : List D) | lst (xs : List D) | cel (k : Nat) | scr (ns : List Int) | ftp (xs : List D)
instance : Inhabited D := ⟨.non⟩
inductive Cell where
  | lst (xs : List D) | dic (ks : List (Key × D)) | tab (q : Str) (P : Addr) | dead
abbrev Cells := List Cell
abbrev Rho := List (Option D)
inductive Res (α : Type) where
  | ok (a : α) (C : Cells) | ex (c : Str) (p : D) (C : Cells) | stuck
def Res.bind {α β : Type} (r : Res α) (g : α → Cells → Res β) : Res β := match r with
  | .ok a C => g a C
  | .ex c p C => .ex c p C
  | .stuck => .stuck
@[simp] theorem Res.bind_ok {α β : Type} (a : α) (C : Cells) (g : α → Cells → Res β) : (Res.ok a C).bind g = g a C := rfl
@[simp] theorem Res.bind_ex {α β : Type} (c : Str) (p : D) (C : Cells) (g : α → Cells → Res β) : (Res.ex c p C : Res α).bind g = .ex c p C := rfl
@[simp] theorem Res.bind_stuck {α β : Type} (g : α → Cells → Res β) : (Res.stuck : Res α).bind g = .stuck := rfl

/-! ### how data lie in the abstract heap: μ the cells' addresses, F the frozen part -/
mutual
inductive Rep (K : PySem.W.Frag) (μ : List Addr) (F : Hp) : V → D → Prop
  | non : Rep K μ F .non .non
  | bl (b : Bool) : Rep K μ F (.bl b) (.bl b)
  | int (i : Int) : Rep K μ F (.int i) (.int i)
  | str (x : Str) : Rep K μ F (.str x) (.str x)
  | tup {a : Addr} {vs : List V} {ds : List D} : SqT K F a vs → Reps K μ F vs ds → Rep K μ F (.ref a) (.tup ds)
  | lst {a : Addr} {vs : List V} {ds : List D} : F a = some (.lst vs) → Reps K μ F vs ds → Rep K μ F (.ref a) (.lst ds)
  | cel {a : Addr} {k : Nat} : μ[k]? = some a → Rep K μ F (.ref a) (.cel k)
  | scr {a : Addr} {ns : List Int} : SqL K F a (ns.map V.int) → Rep K μ F (.ref a) (.scr ns)
  | ftp {a : Addr} {o : Obj} {vs : List V} {ds : List D} : F a = some (.frz o (.tup vs)) → o.dict = none → o.cls = .type "tuple" → Reps K μ F vs ds → Rep K μ F (.ref a) (.ftp ds)
inductive Reps (K : PySem.W.Frag) (μ : List Addr) (F : Hp) : List V → List D → Prop
  | nil : Reps K μ F [] []
  | cons {v : V} {vs : List V} {d : D} {ds : List D} : Rep K μ F v d → Reps K μ F vs ds → Reps K μ F (v :: vs) (d :: ds)
end
section
variable {K : PySem.W.Frag} {μ μ' : List Addr} {F F' : Hp}
theorem sameT {H H' : Hp} {a : Addr} {xs : List V} (e : Same H H') (h : SqT K H a xs) : SqT K H' a xs := by
  rcases h with (q | ⟨o, q⟩) | q
  · exact .inl (.inl (e _ _ q))
  · exact .inl (.inr ⟨o, e _ _ q⟩)
  · exact .inr q
theorem pre_get {τ : List Addr} {k : Nat} {a : Addr} (e : μ' = μ ++ τ) (h : μ[k]? = some a) : μ'[k]? = some a := by
  rw [e, List.getElem?_append_left (List.getElem?_eq_some_iff.mp h).1]
  exact h
mutual
theorem Rep.mono (hp : ∃ τ, μ' = μ ++ τ) (hf : Same F F') : ∀ (d : D) (v : V), Rep K μ F v d → Rep K μ' F' v d
  | .non, _, h => by cases h; exact .non
  | .bl b, _, h => by cases h; exact .bl b
  | .int i, _, h => by cases h; exact .int i
  | .str x, _, h => by cases h; exact .str x
  | .tup ds, _, h => by
    cases h with
    | tup a b => exact .tup (sameT hf a) (Reps.mono hp hf ds _ b)
  | .ftp ds, _, h => by
    cases h with
    | ftp a b c d => exact .ftp (hf _ _ a) b c (Reps.mono hp hf ds _ d)
  | .lst ds, _, h => by
    cases h with
    | lst a b => exact .lst (hf _ _ a) (Reps.mono hp hf ds _ b)
  | .cel k, _, h => by
    cases h with
    | cel a =>
      obtain ⟨τ, e⟩ := hp
      exact .cel (pre_get e a)
  | .scr ns, _, h => by
    cases h with
    | scr a => exact .scr (hf.seq a)
theorem Reps.mono (hp : ∃ τ, μ' = μ ++ τ) (hf : Same F F') : ∀ (ds : List D) (vs : List V), Reps K μ F vs ds → Reps K μ' F' vs ds
  | [], _, h => by cases h; exact .nil
  | d :: ds, _, h => by
    cases h with
    | cons a b => exact .cons (Rep.mono hp hf d _ a) (Reps.mono hp hf ds _ b)
end
theorem Reps.length : ∀ {vs : List V} {ds : List D}, Reps K μ F vs ds → vs.length = ds.length
  | _, _, .nil => rfl
  | _, _, .cons _ t => congrArg (· + 1) (Reps.length t)
theorem Reps.get : ∀ {vs : List V} {ds : List D} {i : Nat} {d : D}, Reps K μ F vs ds → ds[i]? = some d → ∃ v, vs[i]? = some v ∧ Rep K μ F v d
  | _, _, i, d, .nil, e => by simp at e
  | _, _, 0, d, .cons r t, e => by
    simp at e
    subst e
    exact ⟨_, rfl, r⟩
  | _, _, i + 1, d, .cons r t, e => by
    obtain ⟨v, h1, h2⟩ := Reps.get (i := i) t (by simpa using e)
    exact ⟨v, by simpa using h1, h2⟩
theorem Reps.getV : ∀ {vs : List V} {ds : List D} {i : Nat} {v : V}, Reps K μ F vs ds → vs[i]? = some v → ∃ d, ds[i]? = some d ∧ Rep K μ F v d
  | _, _, i, d, .nil, e => by simp at e
  | _, _, 0, d, .cons r t, e => by
    simp at e
    subst e
    exact ⟨_, rfl, r⟩
  | _, _, i + 1, d, .cons r t, e => by
    obtain ⟨v, h1, h2⟩ := Reps.getV (i := i) t (by simpa using e)
    exact ⟨v, by simpa using h1, h2⟩
theorem Reps.append : ∀ {vs ws : List V} {ds es : List D}, Reps K μ F vs ds → Reps K μ F ws es → Reps K μ F (vs ++ ws) (ds ++ es)
  | _, _, _, _, .nil, s => s
  | _, _, _, _, .cons r t, s => .cons r (Reps.append t s)
theorem Reps.set {v : V} {d : D} (r : Rep K μ F v d) : ∀ {vs : List V} {ds : List D} (i : Nat), Reps K μ F vs ds → Reps K μ F (vs.set i v) (ds.set i d)
  | _, _, _, .nil => .nil
  | _, _, 0, .cons _ t => .cons r t
  | _, _, i + 1, .cons q t => .cons q (Reps.set r i t)
theorem Reps.take : ∀ {vs : List V} {ds : List D} (n : Nat), Reps K μ F vs ds → Reps K μ F (vs.take n) (ds.take n)
  | _, _, 0, _ => .nil
  | _, _, _ + 1, .nil => .nil
  | _, _, n + 1, .cons r t => .cons r (Reps.take n t)
theorem Reps.drop : ∀ {vs : List V} {ds : List D} (n : Nat), Reps K μ F vs ds → Reps K μ F (vs.drop n) (ds.drop n)
  | _, _, 0, r => r
  | _, _, _ + 1, .nil => .nil
  | _, _, n + 1, .cons _ t => Reps.drop n t
theorem Reps.rep {vs : List V} {ds : List D} (r : Reps K μ F vs ds) : ∀ n : Nat, Reps K μ F (List.replicate n vs).flatten (List.replicate n ds).flatten
  | 0 => .nil
  | n + 1 => by
    simp only [List.replicate_succ, List.flatten_cons]
    exact r.append (Reps.rep r n)
theorem Reps.ints : ∀ (ns : List Int), Reps K μ F (ns.map V.int) (ns.map D.int)
  | [] => .nil
  | n :: ns => .cons (.int n) (Reps.ints ns)
theorem Reps.of_ints : ∀ {vs : List V} {ns : List Int}, Reps K μ F vs (ns.map D.int) → vs = ns.map V.int
  | _, [], h => by cases h; rfl
  | _, n :: ns, h => by
    cases h with
    | cons a b =>
      cases a
      rw [Reps.of_ints b]
      rfl
theorem Reps.of_bls : ∀ {vs : List V} {bs : List Bool}, Reps K μ F vs (bs.map D.bl) → vs = bs.map V.bl
  | _, [], h => by cases h; rfl
  | _, n :: ns, h => by
    cases h with
    | cons a b =>
      cases a
      rw [Reps.of_bls b]
      rfl
end

/-- the entries of a dict -/
def KReps (K : PySem.W.Frag) (μ : List Addr) (F : Hp) (ws : List (Key × V)) (ks : List (Key × D)) : Prop := ws.map (·.1) = ks.map (·.1) ∧ Reps K μ F (ws.map (·.2)) (ks.map (·.2))
theorem KReps.mono {K : PySem.W.Frag} {μ μ' : List Addr} {F F' : Hp} (h1 : ∃ τ, μ' = μ ++ τ) (h2 : Same F F') (ks : List (Key × D)) (ws : List (Key × V)) (r : KReps K μ F ws ks) : KReps K μ' F' ws ks := ⟨r.1, Reps.mono h1 h2 _ _ r.2⟩
/-- the table of code objects at P: each that it tells bears the name q -/
def TabF (F : Hp) (ps : Array Value) (q : Str) (P a : Addr) : Prop := a = P ∧ TriplesOk ps.toList ∧ ∀ (pos : Pos) (cv : Value), codeAmong pos ps.toList = some cv → ∃ c, cv = .ref c ∧ F c = some (LamX.CodeO c q)
theorem TabF.mono {F F' : Hp} {ps : Array Value} {q : Str} {P a : Addr} (h : Same F F') (t : TabF F ps q P a) : TabF F' ps q P a := ⟨t.1, t.2.1, fun pos cv e => by
  obtain ⟨c, e1, e2⟩ := t.2.2 pos cv e
  exact ⟨c, e1, h _ _ e2⟩⟩
/-! ### the relation of states -/
def CellRep (K : PySem.W.Frag) (μ : List Addr) (F H : Hp) (a : Addr) : Cell → Prop
  | .lst ds => F a = none ∧ ∃ vs, H a = some (.lst vs) ∧ Reps K μ F vs ds
  | .dic ks => F a = none ∧ ∃ ws, H a = some (.dK ws) ∧ KReps K μ F ws ks
  | .tab q P => F a = none ∧ ∃ ps, H a = some (.tbl ps) ∧ TabF F ps q P a
  | .dead => True
structure Sim (K : PySem.W.Frag) (μ : List Addr) (F : Hp) (C : Cells) (H : Hp) : Prop where
  sub : Same F H
  len : μ.length = C.length
  nd : μ.Nodup
  trk : ∀ a, a ∈ μ → H a ≠ none
  cel : ∀ (k : Nat) (c : Cell) (a : Addr), C[k]? = some c → μ[k]? = some a → CellRep K μ F H a c
structure Ext (μ : List Addr) (F H : Hp) (μ' : List Addr) (F' H' : Hp) : Prop where
  pre : ∃ τ, μ' = μ ++ τ ∧ ∀ a, a ∈ τ → H a = none
  fr : Same F F'
  thr : ∀ a, H' a = none → H a = none
  new : ∀ a o, F' a = some o → F a = none → H a = none ∨ a ∈ μ
  keep : ∀ a o, H a = some o → a ∉ μ → H' a = some o
def ERel (K : PySem.W.Frag) (μ : List Addr) (F : Hp) (ρ : Rho) (σ : L2.St) : Prop :=
  ρ.length = σ.length ∧ ∀ (i : Nat) (d : D), ρ[i]? = some (some d) → ∃ v, σ[i]? = some (some v) ∧ Rep K μ F v d
section
variable {K : PySem.W.Frag} {μ μ' μ'' : List Addr} {F F' F'' H H' H'' : Hp} {C C' : Cells} {ρ : Rho} {σ : L2.St}
theorem Ext.refl : Ext μ F H μ F H := ⟨⟨[], by simp, fun a h => nomatch h⟩, Same.refl F, fun _ h => h, fun a o h1 h2 => (by rw [h1] at h2; cases h2), fun _ _ h _ => h⟩
theorem Ext.trans (x : Ext μ F H μ' F' H') (y : Ext μ' F' H' μ'' F'' H'') : Ext μ F H μ'' F'' H'' := by
  obtain ⟨τ, e, n⟩ := x.pre
  obtain ⟨τ', e', n'⟩ := y.pre
  refine ⟨⟨τ ++ τ', by rw [e', e, List.append_assoc], fun a h => ?_⟩, x.fr.trans y.fr, fun a h => x.thr a (y.thr a h), fun a o h1 h2 => ?_, fun a o h1 h2 => ?_⟩
  · rcases List.mem_append.mp h with h | h
    · exact n a h
    · exact x.thr a (n' a h)
  · cases q : F' a with
    | some o' => exact x.new a o' q h2
    | none =>
      rcases y.new a o h1 q with z | z
      · exact .inl (x.thr a z)
      · rw [e] at z
        rcases List.mem_append.mp z with z | z
        · exact .inr z
        · exact .inl (n a z)
  · refine y.keep a o (x.keep a o h1 h2) fun z => ?_
    rw [e] at z
    rcases List.mem_append.mp z with z | z
    · exact h2 z
    · rw [n a z] at h1
      cases h1
theorem Ext.rep (x : Ext μ F H μ' F' H') {v : V} {d : D} (r : Rep K μ F v d) : Rep K μ' F' v d := Rep.mono ⟨_, x.pre.choose_spec.1⟩ x.fr d v r
theorem Ext.reps (x : Ext μ F H μ' F' H') {v : List V} {d : List D} (r : Reps K μ F v d) : Reps K μ' F' v d := Reps.mono ⟨_, x.pre.choose_spec.1⟩ x.fr d v r
theorem Ext.env (x : Ext μ F H μ' F' H') (e : ERel K μ F ρ σ) : ERel K μ' F' ρ σ := ⟨e.1, fun i d h => by
  obtain ⟨v, a, b⟩ := e.2 i d h
  exact ⟨v, a, x.rep b⟩⟩
theorem Sim.free (S : Sim K μ F C H) {p : Addr} (h : H p = none) : F p = none := S.sub.free h
theorem Sim.notin (S : Sim K μ F C H) {p : Addr} (h : H p = none) : p ∉ μ := fun z => S.trk p z h
/-- a new frozen object -/
theorem Sim.alloc (S : Sim K μ F C H) {p : Addr} {o : HO} (hp : H p = none) : Sim K μ (upd F p o) C (upd H p o) ∧ Ext μ F H μ (upd F p o) (upd H p o) := by
  have fF : Same F (upd F p o) := fun b u e => by
    rw [upd_ne (ne_of_none e (S.free hp))]
    exact e
  refine ⟨⟨fun b u e => ?_, S.len, S.nd, fun a h z => ?_, fun k c a h1 h2 => ?_⟩, ⟨⟨[], by simp, fun a h => nomatch h⟩, fF, fun a h => ?_, fun a u h1 h2 => ?_, fun a u h1 h2 => ?_⟩⟩
  · by_cases hb : b = p
    · subst hb
      rw [upd_same] at e ⊢
      exact e
    · rw [upd_ne hb] at e ⊢
      exact S.sub b u e
  · by_cases hb : a = p
    · subst hb
      rw [upd_same] at z
      cases z
    · rw [upd_ne hb] at z
      exact S.trk a h z
  · have q := S.cel k c a h1 h2
    cases c with
    | dead => trivial
    | lst ds =>
      obtain ⟨f, vs, g, r⟩ := q
      have hne : a ≠ p := ne_of_none g hp
      exact ⟨by rw [upd_ne hne]; exact f, vs, by rw [upd_ne hne]; exact g, Reps.mono ⟨[], by simp⟩ fF _ _ r⟩
    | dic ds =>
      obtain ⟨f, vs, g, r⟩ := q
      have hne : a ≠ p := ne_of_none g hp
      exact ⟨by rw [upd_ne hne]; exact f, vs, by rw [upd_ne hne]; exact g, KReps.mono ⟨[], by simp⟩ fF _ _ r⟩
    | tab q0 P0 =>
      obtain ⟨f, vs, g, r⟩ := q
      have hne : a ≠ p := ne_of_none g hp
      exact ⟨by rw [upd_ne hne]; exact f, vs, by rw [upd_ne hne]; exact g, TabF.mono fF r⟩
  · by_cases hb : a = p
    · subst hb
      exact hp
    · rw [upd_ne hb] at h
      exact h
  · by_cases hb : a = p
    · subst hb
      exact .inl hp
    · rw [upd_ne hb, h2] at h1
      cases h1
  · rw [upd_ne (ne_of_none h1 hp)]
    exact h1
/-- a new cell -/
theorem Sim.cell (S : Sim K μ F C H) {p : Addr} {vs : List V} {ds : List D} (hp : H p = none) (r : Reps K μ F vs ds) :
    Sim K (μ ++ [p]) F (C ++ [.lst ds]) (upd H p (.lst vs)) ∧ Ext μ F H (μ ++ [p]) F (upd H p (.lst vs)) := by
  refine ⟨⟨fun b u e => ?_, by simp [S.len], ?_, fun a h z => ?_, fun k c a h1 h2 => ?_⟩, ⟨⟨[p], rfl, fun a h => by simp at h; subst h; exact hp⟩, Same.refl F, fun a h => ?_, fun a u h1 h2 => (by rw [h1] at h2; cases h2), fun a u h1 h2 => ?_⟩⟩
  · rw [upd_ne (ne_of_none (S.sub b u e) hp)]
    exact S.sub b u e
  · refine List.nodup_append.mpr ⟨S.nd, by simp, fun a h b hb e => ?_⟩
    simp at hb
    subst hb
    subst e
    exact S.notin hp h
  · by_cases hb : a = p
    · subst hb
      rw [upd_same] at z
      cases z
    · rw [upd_ne hb] at z
      rcases List.mem_append.mp h with h | h
      · exact S.trk a h z
      · simp at h
        exact hb h
  · by_cases hk : k < C.length
    · rw [List.getElem?_append_left hk] at h1
      rw [List.getElem?_append_left (by rw [S.len]; exact hk)] at h2
      have q := S.cel k c a h1 h2
      cases c with
      | dead => trivial
      | lst ds' =>
        obtain ⟨f, vs', g, r'⟩ := q
        exact ⟨f, vs', by rw [upd_ne (ne_of_none g hp)]; exact g, Reps.mono ⟨[p], rfl⟩ (Same.refl F) _ _ r'⟩
      | dic ds' =>
        obtain ⟨f, vs', g, r'⟩ := q
        exact ⟨f, vs', by rw [upd_ne (ne_of_none g hp)]; exact g, KReps.mono ⟨[p], rfl⟩ (Same.refl F) _ _ r'⟩
      | tab q0 P0 =>
        obtain ⟨f, vs', g, r'⟩ := q
        exact ⟨f, vs', by rw [upd_ne (ne_of_none g hp)]; exact g, r'⟩
    · have h3 : k - C.length = 0 := by
        rw [List.getElem?_append_right (by omega)] at h1
        have := (List.getElem?_eq_some_iff.mp h1).1
        simp at this
        omega
      rw [List.getElem?_append_right (by omega), h3] at h1
      rw [List.getElem?_append_right (by rw [S.len]; omega), S.len, h3] at h2
      simp at h1 h2
      subst h1 h2
      exact ⟨S.free hp, vs, upd_same, Reps.mono ⟨[p], rfl⟩ (Same.refl F) _ _ r⟩
  · by_cases hb : a = p
    · subst hb
      exact hp
    · rw [upd_ne hb] at h
      exact h
  · rw [upd_ne (ne_of_none h1 hp)]
    exact h1
/-- a cell is written -/
theorem Sim.write (S : Sim K μ F C H) {k : Nat} {a : Addr} {ds ds' : List D} {vs' : List V} (hk : C[k]? = some (.lst ds)) (ha : μ[k]? = some a) (r : Reps K μ F vs' ds') :
    Sim K μ F (C.set k (.lst ds')) (upd H a (.lst vs')) ∧ Ext μ F H μ F (upd H a (.lst vs')) := by
  obtain ⟨f, vs, g, r0⟩ := S.cel k _ a hk ha
  refine ⟨⟨fun b u e => ?_, by simp [S.len], S.nd, fun b h z => ?_, fun j c b h1 h2 => ?_⟩, ⟨⟨[], by simp, fun a h => nomatch h⟩, Same.refl F, fun b h => ?_, fun a u h1 h2 => (by rw [h1] at h2; cases h2), fun b u h1 h2 => ?_⟩⟩
  · have hne : b ≠ a := fun z => by rw [z, f] at e; cases e
    rw [upd_ne hne]
    exact S.sub b u e
  · by_cases hb : b = a
    · subst hb
      rw [upd_same] at z
      cases z
    · rw [upd_ne hb] at z
      exact S.trk b h z
  · by_cases hj : j = k
    · subst hj
      rw [ha] at h2
      cases h2
      rw [List.getElem?_set_self (List.getElem?_eq_some_iff.mp hk).1] at h1
      cases h1
      exact ⟨f, vs', upd_same, r⟩
    · rw [List.getElem?_set_ne (Ne.symm hj)] at h1
      have q := S.cel j c b h1 h2
      have hne : b ≠ a := fun z => by
        subst z
        obtain ⟨l1, e1⟩ := List.getElem?_eq_some_iff.mp h2
        obtain ⟨l2, e2⟩ := List.getElem?_eq_some_iff.mp ha
        exact hj ((List.getElem_inj S.nd).mp (e1.trans e2.symm))
      cases c with
      | dead => trivial
      | lst ds2 =>
        obtain ⟨f2, vs2, g2, r2⟩ := q
        exact ⟨f2, vs2, by rw [upd_ne hne]; exact g2, r2⟩
      | dic ds2 =>
        obtain ⟨f2, vs2, g2, r2⟩ := q
        exact ⟨f2, vs2, by rw [upd_ne hne]; exact g2, r2⟩
      | tab q0 P0 =>
        obtain ⟨f2, vs2, g2, r2⟩ := q
        exact ⟨f2, vs2, by rw [upd_ne hne]; exact g2, r2⟩
  · by_cases hb : b = a
    · subst hb
      rw [upd_same] at h
      cases h
    · rw [upd_ne hb] at h
      exact h
  · have hne : b ≠ a := fun z => h2 (z ▸ List.mem_of_getElem? ha)
    rw [upd_ne hne]
    exact h1
/-- a cell is frozen: it is written no more -/
theorem Sim.freeze (S : Sim K μ F C H) {k : Nat} {a : Addr} {ds : List D} (hk : C[k]? = some (.lst ds)) (ha : μ[k]? = some a) :
    ∃ vs F', F' = upd F a (.lst vs) ∧ Reps K μ F' vs ds ∧ Sim K μ F' (C.set k .dead) H ∧ Ext μ F H μ F' H := by
  obtain ⟨f, vs, g, r⟩ := S.cel k _ a hk ha
  have fF : Same F (upd F a (.lst vs)) := fun b u e => by
    rw [upd_ne (ne_of_none e f)]
    exact e
  refine ⟨vs, _, rfl, Reps.mono ⟨[], by simp⟩ fF _ _ r, ⟨fun b u e => ?_, by simp [S.len], S.nd, S.trk, fun j c b h1 h2 => ?_⟩, ⟨⟨[], by simp, fun a h => nomatch h⟩, fF, fun _ h => h, fun b u h1 h2 => ?_, fun _ _ h _ => h⟩⟩
  · by_cases hb : b = a
    · subst hb
      rw [upd_same] at e
      cases e
      exact g
    · rw [upd_ne hb] at e
      exact S.sub b u e
  · by_cases hj : j = k
    · subst hj
      rw [List.getElem?_set_self (List.getElem?_eq_some_iff.mp hk).1] at h1
      cases h1
      trivial
    · rw [List.getElem?_set_ne (Ne.symm hj)] at h1
      have q := S.cel j c b h1 h2
      have hne : b ≠ a := fun z => by
        subst z
        obtain ⟨l1, e1⟩ := List.getElem?_eq_some_iff.mp h2
        obtain ⟨l2, e2⟩ := List.getElem?_eq_some_iff.mp ha
        exact hj ((List.getElem_inj S.nd).mp (e1.trans e2.symm))
      cases c with
      | dead => trivial
      | lst ds2 =>
        obtain ⟨f2, vs2, g2, r2⟩ := q
        exact ⟨by rw [upd_ne hne]; exact f2, vs2, g2, Reps.mono ⟨[], by simp⟩ fF _ _ r2⟩
      | dic ds2 =>
        obtain ⟨f2, vs2, g2, r2⟩ := q
        exact ⟨by rw [upd_ne hne]; exact f2, vs2, g2, KReps.mono ⟨[], by simp⟩ fF _ _ r2⟩
      | tab q0 P0 =>
        obtain ⟨f2, vs2, g2, r2⟩ := q
        exact ⟨by rw [upd_ne hne]; exact f2, vs2, g2, TabF.mono fF r2⟩
  · by_cases hb : b = a
    · exact .inr (hb ▸ List.mem_of_getElem? ha)
    · rw [upd_ne hb, h2] at h1
      cases h1
theorem ERel.set (e : ERel K μ F ρ σ) {i : Nat} {v : V} {d : D} (r : Rep K μ F v d) : ERel K μ F (ρ.set i (some d)) (σ.set i (some v)) := by
  refine ⟨by simp [e.1], fun j d' h => ?_⟩
  by_cases hj : j = i
  · subst hj
    have hl : j < ρ.length := by
      have := (List.getElem?_eq_some_iff.mp h).1
      simpa using this
    rw [List.getElem?_set_self hl] at h
    cases h
    exact ⟨v, by rw [List.getElem?_set_self (by rw [← e.1]; exact hl)], r⟩
  · rw [List.getElem?_set_ne (Ne.symm hj)] at h ⊢
    exact e.2 j d' h
end

/-! ### what is wanted behind -/
def exF (c : Str) : Str := if c = "TooGreat" then "most" else if c = "Quarrel" then "paper" else if c = "NoHappening" ∨ c = "NoChannel" ∨ c = "NoBlock" then "value" else "at"
/-- an exception of the package: its class by name, what it was given -/
def XRep (K : PySem.W.Frag) (mg : Str → Option Value) (μ : List Addr) (F H : Hp) (c : Str) (p : D) (cls : Value) (dx : Option Addr) : Prop :=
  mg c = some cls ∧ ∃ d v, dx = some d ∧ H d = some (.xd [(exF c, v)]) ∧ Rep K μ F v p ∧ d ∉ μ
abbrev RR (α β : Type) := List Addr → Hp → β → α → Prop
def kd {α β : Type} (R : RR α β) (K : PySem.W.Frag) (mg : Str → Option Value) (W : WX) (r : Res α) (μ : List Addr) (F : Hp) (σ : L2.St) (H : Hp) (Q : β → Hp → Prop) : Prop :=
  match r with
  | .ok d C' => ∀ v μ' F' H', Ext μ F H μ' F' H' → Sim K μ' F' C' H' → R μ' F' v d → Q v H'
  | .ex c p C' => ∀ cls dx μ' F' H', Ext μ F H μ' F' H' → Sim K μ' F' C' H' → XRep K mg μ' F' H' c p cls dx → W cls dx σ H'
  | .stuck => False
section
variable {α β γ δ : Type} {R : RR α β} {R' : RR γ δ} {K : PySem.W.Frag} {mg : Str → Option Value} {W : WX} {μ μ' : List Addr} {F F' H H' : Hp} {C C' : Cells} {ρ : Rho} {σ : L2.St}
theorem kd_mono {r : Res α} {Q : β → Hp → Prop} (x : Ext μ F H μ' F' H') (h : kd R K mg W r μ F σ H Q) : kd R K mg W r μ' F' σ H' Q := by
  cases r with
  | ok d C1 => exact fun v μ2 F2 H2 x2 s2 r2 => h v μ2 F2 H2 (x.trans x2) s2 r2
  | ex c p C1 => exact fun cls dx μ2 F2 H2 x2 s2 r2 => h cls dx μ2 F2 H2 (x.trans x2) s2 r2
  | stuck => exact h
theorem kd_bind {r : Res α} {g : α → Cells → Res γ} {Q : δ → Hp → Prop} {k : β → Hp → Prop} (h : kd R' K mg W (r.bind g) μ F σ H Q)
    (hk : ∀ d C1 v μ1 F1 H1, Ext μ F H μ1 F1 H1 → Sim K μ1 F1 C1 H1 → R μ1 F1 v d → kd R' K mg W (g d C1) μ1 F1 σ H1 Q → k v H1) : kd R K mg W r μ F σ H k := by
  cases r with
  | ok d C1 => exact fun v μ1 F1 H1 x1 s1 r1 => hk d C1 v μ1 F1 H1 x1 s1 r1 (kd_mono x1 h)
  | ex c p C1 => exact h
  | stuck => exact h
theorem kd_ret {d : α} {v : β} {Q : β → Hp → Prop} (S : Sim K μ F C H) (r : R μ F v d) (h : kd R K mg W (.ok d C) μ F σ H Q) : Q v H := h v μ F H .refl S r
end
abbrev RD (K : PySem.W.Frag) : RR D V := fun μ F v d => Rep K μ F v d
abbrev RL (K : PySem.W.Frag) : RR (List D) (List V) := fun μ F v d => Reps K μ F v d
abbrev RB : RR Bool Bool := fun _ _ b d => b = d
/-- what a test wants: a bool -/
def toB (r : Res D) : Res Bool := match r with
  | .ok (.bl b) C => .ok b C
  | .ex c p C => .ex c p C
  | _ => .stuck
/-- readings -/
def rE (K : PySem.W.Frag) (mg : Str → Option Value) (W : WX) (f : Rho → Cells → Res D) : TE := fun σ H Q => ∃ ρ C μ F, Sim K μ F C H ∧ ERel K μ F ρ σ ∧ kd (RD K) K mg W (f ρ C) μ F σ H Q
def rT (K : PySem.W.Frag) (mg : Str → Option Value) (W : WX) (f : Rho → Cells → Res D) : TT := fun σ H Q => ∃ ρ C μ F, Sim K μ F C H ∧ ERel K μ F ρ σ ∧ kd RB K mg W (toB (f ρ C)) μ F σ H Q
def rA (K : PySem.W.Frag) (mg : Str → Option Value) (W : WX) (f : Rho → Cells → Res (List D)) : TA := fun σ H Q => ∃ ρ C μ F, Sim K μ F C H ∧ ERel K μ F ρ σ ∧ kd (RL K) K mg W (f ρ C) μ F σ H Q
abbrev BE (X : Cx) (W : WX) (e : Expr) (f : Rho → Cells → Res D) : Prop := PE X e (rE X.K X.mg W f)
abbrev BT (X : Cx) (W : WX) (e : Expr) (f : Rho → Cells → Res D) : Prop := PT X e (rT X.K X.mg W f)
abbrev BW (X : Cx) (W : WX) (e : Expr) (f : Rho → Cells → Res D) : Prop := PW X e (rT X.K X.mg W f)
abbrev BA (X : Cx) (W : WX) (es : List Expr) (f : Rho → Cells → Res (List D)) : Prop := PA X es (rA X.K X.mg W f)
theorem peI {X : Cx} {e : Expr} {t t' : TE} (h : PE X e t) (k : ∀ σ H Q, t' σ H Q → t σ H Q) : PE X e t' := ⟨fun pins s σ H Q I q => h.run pins s σ H Q I (k σ H Q q)⟩
theorem ptI {X : Cx} {e : Expr} {t t' : TT} (h : PT X e t) (k : ∀ σ H Q, t' σ H Q → t σ H Q) : PT X e t' := ⟨fun pins s σ H Q I q => h.run pins s σ H Q I (k σ H Q q)⟩
theorem pwI {X : Cx} {e : Expr} {t t' : TT} (h : PW X e t) (k : ∀ σ H Q, t' σ H Q → t σ H Q) : PW X e t' := ⟨fun wh pins s σ H Q I q => h.run wh pins s σ H Q I (k σ H Q q)⟩
theorem paI {X : Cx} {e : List Expr} {t t' : TA} (h : PA X e t) (k : ∀ σ H Q, t' σ H Q → t σ H Q) : PA X e t' := ⟨fun pos pins s σ H Q I q => h.run pos pins s σ H Q I (k σ H Q q)⟩
end BV
namespace BV
open PySem PySem.Spec PyProof.Rows L2

/-! ### reading cells -/
def asL (d : D) (C : Cells) : Option (List D) := match d with
  | .lst ds => some ds
  | .cel k => match C[k]? with
    | some (.lst ds) => some ds
    | _ => none
  | _ => none
theorem ftp_sq {K : PySem.W.Frag} {F : Hp} {a : Addr} {o : Obj} {vs : List V} (h : F a = some (.frz o (.tup vs))) : SqT K F a vs := .inl (.inr ⟨o, h⟩)
/-- a list or a tuple -/
def asS (d : D) (C : Cells) : Option (List D) := match d with
  | .lst ds => some ds
  | .tup ds => some ds
  | .ftp ds => some ds
  | .scr ns => some (ns.map .int)
  | .cel k => match C[k]? with
    | some (.lst ds) => some ds
    | _ => none
  | _ => none
section
variable {K : PySem.W.Frag} {μ : List Addr} {F H : Hp} {C : Cells} {v : V} {d : D} {ds : List D}
theorem mu_of (S : Sim K μ F C H) {k : Nat} {c : Cell} (h : C[k]? = some c) : ∃ a, μ[k]? = some a := by
  have := (List.getElem?_eq_some_iff.mp h).1
  exact ⟨μ[k]'(by rw [S.len]; exact this), by simp [S.len, this]⟩
theorem asL_rep (S : Sim K μ F C H) (r : Rep K μ F v d) (h : asL d C = some ds) : ∃ a vs, v = .ref a ∧ H a = some (.lst vs) ∧ Reps K μ F vs ds := by
  cases r with
  | lst a b =>
    simp only [asL, Option.some.injEq] at h
    subst h
    exact ⟨_, _, rfl, S.sub _ _ a, b⟩
  | cel a =>
    rename_i a' k
    simp only [asL] at h
    split at h
    · rename_i ds' e
      cases h
      obtain ⟨_, vs, g, r⟩ := S.cel k _ _ e a
      exact ⟨_, vs, rfl, g, r⟩
    · cases h
  | _ => cases h
theorem asS_rep (S : Sim K μ F C H) (r : Rep K μ F v d) (h : asS d C = some ds) : ∃ a vs, v = .ref a ∧ (SqL K H a vs ∨ SqT K H a vs) ∧ Reps K μ F vs ds := by
  cases r with
  | lst a b =>
    simp only [asS, Option.some.injEq] at h
    subst h
    exact ⟨_, _, rfl, .inl (SqL.of (S.sub _ _ a)), b⟩
  | tup a b =>
    simp only [asS, Option.some.injEq] at h
    subst h
    exact ⟨_, _, rfl, .inr (sameT S.sub a), b⟩
  | ftp a b c d =>
    simp only [asS, Option.some.injEq] at h
    subst h
    exact ⟨_, _, rfl, .inr (sameT S.sub (ftp_sq a)), d⟩
  | scr a =>
    simp only [asS, Option.some.injEq] at h
    subst h
    exact ⟨_, _, rfl, .inl (S.sub.seq a), Reps.ints _⟩
  | cel a =>
    rename_i a' k
    simp only [asS] at h
    split at h
    · rename_i ds' e
      cases h
      obtain ⟨_, vs, g, r⟩ := S.cel k _ _ e a
      exact ⟨_, vs, rfl, .inl (SqL.of g), r⟩
    · cases h
  | _ => cases h
end

/-! ### making lists, tuples -/
/-- a new list: a cell (true), or frozen -/
def mkL (m : Bool) (ds : List D) (C : Cells) : Res D := if m then .ok (.cel C.length) (C ++ [.lst ds]) else .ok (.lst ds) C
section
variable {K : PySem.W.Frag} {mg : Str → Option Value} {W : WX} {μ : List Addr} {F H : Hp} {C : Cells} {σ : L2.St} {Q : V → Hp → Prop}
theorem kd_mkL {m : Bool} {ds : List D} {vs : List V} {p : Addr} (S : Sim K μ F C H) (hp : H p = none) (r : Reps K μ F vs ds) (h : kd (RD K) K mg W (mkL m ds C) μ F σ H Q) : Q (.ref p) (upd H p (.lst vs)) := by
  cases m with
  | true =>
    obtain ⟨S1, X1⟩ := S.cell hp r
    refine h _ _ _ _ X1 S1 (.cel ?_)
    rw [List.getElem?_append_right (by rw [S.len]; exact Nat.le_refl _), S.len, Nat.sub_self]
    rfl
  | false =>
    obtain ⟨S1, X1⟩ := S.alloc (o := .lst vs) hp
    exact h _ _ _ _ X1 S1 (.lst upd_same (X1.reps r))
theorem kd_mkT {ds : List D} {vs : List V} {p : Addr} (S : Sim K μ F C H) (hp : H p = none) (r : Reps K μ F vs ds) (h : kd (RD K) K mg W (.ok (.tup ds) C) μ F σ H Q) : Q (.ref p) (upd H p (.tup vs)) := by
  obtain ⟨S1, X1⟩ := S.alloc (o := .tup vs) hp
  exact h _ _ _ _ X1 S1 (.tup (SqT.of upd_same) (X1.reps r))
end

/-! ### names, constants -/
def fVar (i : Nat) : Rho → Cells → Res D := fun ρ C => match ρ[i]? with
  | some (some d) => .ok d C
  | _ => .stuck
def fC (d : D) : Rho → Cells → Res D := fun _ C => .ok d C
section
variable {X : Cx} {W : WX} {a b e : Expr} {es : List Expr} {f g : Rho → Cells → Res D} {pos : Pos}
theorem be_var (i : Nat) {x : Str} (h : PE X (.Name x pos) (tVar i)) : BE X W (.Name x pos) (fVar i) := by
  refine peI h ?_
  rintro σ H Q ⟨ρ, C, μ, F, S, E, k⟩
  unfold fVar at k
  split at k
  · rename_i d e
    obtain ⟨v, h1, h2⟩ := E.2 _ _ e
    exact ⟨v, h1, kd_ret S h2 k⟩
  · exact k.elim
theorem be_c {e : Expr} {d : D} {v : V} (h : PE X e (tC v)) (r : ∀ μ F, Rep X.K μ F v d) : BE X W e (fC d) := by
  refine peI h ?_
  rintro σ H Q ⟨ρ, C, μ, F, S, E, k⟩
  exact kd_ret S (r _ _) k
theorem be_int {i : Int} {j} : BE X W (.Constant (.int i) j pos) (fC (.int i)) := be_c pe_int fun _ _ => .int i
theorem be_bl {i : Bool} {j} : BE X W (.Constant (.bool i) j pos) (fC (.bl i)) := be_c pe_bl fun _ _ => .bl i
theorem be_str {i : Str} {j} : BE X W (.Constant (.str i) j pos) (fC (.str i)) := be_c pe_str fun _ _ => .str i
theorem be_non {j} : BE X W (.Constant .none j pos) (fC .non) := be_c pe_non fun _ _ => .non

/-! ### operators -/
def OpB (X : Cx) (W : WX) (F : Value → Value → Sem Value) (o : D → D → Cells → Res D) : Prop :=
  ∃ r : R2, OpR X F r ∧ ∀ (x y : D) (C : Cells) (v w : V) (μ : List Addr) (Fh H : Hp) (σ : L2.St) (Q : VK), Sim X.K μ Fh C H → Rep X.K μ Fh v x → Rep X.K μ Fh w y → kd (RD X.K) X.K X.mg W (o x y C) μ Fh σ H Q → r v w H Q
def f2 (o : D → D → Cells → Res D) (f g : Rho → Cells → Res D) : Rho → Cells → Res D := fun ρ C => (f ρ C).bind fun x C1 => (g ρ C1).bind fun y C2 => o x y C2
def f1 (o : D → Cells → Res D) (f : Rho → Cells → Res D) : Rho → Cells → Res D := fun ρ C => (f ρ C).bind fun x C1 => o x C1
theorem tOp_of {r : R2} {o : D → D → Cells → Res D} (hr : ∀ (x y : D) (C : Cells) (v w : V) (μ : List Addr) (Fh H : Hp) (σ : L2.St) (Q : VK), Sim X.K μ Fh C H → Rep X.K μ Fh v x → Rep X.K μ Fh w y → kd (RD X.K) X.K X.mg W (o x y C) μ Fh σ H Q → r v w H Q)
    (σ : L2.St) (H : Hp) (Q : VK) (h : rE X.K X.mg W (f2 o f g) σ H Q) : tOp r (rE X.K X.mg W f) (rE X.K X.mg W g) σ H Q := by
  obtain ⟨ρ, C, μ, F, S, E, k⟩ := h
  refine ⟨ρ, C, μ, F, S, E, kd_bind k fun d C1 v μ1 F1 H1 x1 s1 r1 h1 => ?_⟩
  refine ⟨ρ, C1, μ1, F1, s1, x1.env E, kd_bind h1 fun d2 C2 v2 μ2 F2 H2 x2 s2 r2 h2 => ?_⟩
  exact hr d d2 C2 v v2 μ2 F2 H2 σ Q s2 (x2.rep r1) r2 h2
theorem be_op {op : Operator} {o : D → D → Cells → Res D} (ho : OpB X W (binaryOp op) o) (ha : BE X W a f) (hb : BE X W b g) : BE X W (.BinOp a op b pos) (f2 o f g) := by
  obtain ⟨r, hr, hk⟩ := ho
  exact peI (pe_op hr ha hb) (tOp_of hk)
theorem be_cmp {op : CmpOp} {o : D → D → Cells → Res D} (ho : OpB X W (compareOp op) o) (ha : BE X W a f) (hb : BE X W b g) (hm : behindInMarks op b = false) : BE X W (.Compare a [op] [b] pos) (f2 o f g) := by
  obtain ⟨r, hr, hk⟩ := ho
  exact peI (pe_cmpR hr ha hb hm) (tOp_of hk)
theorem kd_toB {r : Res D} {K : PySem.W.Frag} {mg : Str → Option Value} {μ : List Addr} {F H : Hp} {σ : L2.St} {Q : Bool → Hp → Prop} (h : kd RB K mg W (toB r) μ F σ H Q) : kd (RD K) K mg W r μ F σ H (fun v H' => ∃ b, v = .bl b ∧ Q b H') := by
  cases r with
  | stuck => exact h
  | ex c p C => exact h
  | ok d C =>
    intro v μ' F' H' x s r
    cases d with
    | bl b =>
      cases r
      exact ⟨b, rfl, h b μ' F' H' x s rfl⟩
    | _ => exact False.elim h
theorem rT_val (h : BE X W e f) : ∀ σ H Q, rT X.K X.mg W f σ H Q → rE X.K X.mg W f σ H (fun v H' => ∃ b, v = .bl b ∧ Q b H') := by
  rintro σ H Q ⟨ρ, C, μ, F, S, E, k⟩
  exact ⟨ρ, C, μ, F, S, E, kd_toB k⟩
/-- tests: a name, a call, a constant -/
theorem bt_val (h : BE X W e f) (he : ∀ whole, isTrue e X.env whole = (do let v ← whole; standAt e.pos; holding [v] (truthy v)) := by intro _; rfl) : BT X W e f := ptI (pt_val h he) (rT_val h)
theorem bt_cmp {op : CmpOp} {o : D → D → Cells → Res D} (ho : OpB X W (compareOp op) o) (ha : BE X W a f) (hb : BE X W b g) (hm : behindInMarks op b = false) : BT X W (.Compare a [op] [b] pos) (f2 o f g) := by
  have hv := be_cmp (pos := pos) ho ha hb hm
  obtain ⟨r, hr, hk⟩ := ho
  refine ptI (pt_cmpR hr ha hb hm) fun σ H Q q => ?_
  exact tOp_of hk _ _ _ (rT_val hv σ H Q q)
/-- chains a < b < c -/
def chainD (o o' : D → D → Cells → Res D) (f g h : Rho → Cells → Res D) : Rho → Cells → Res D := fun ρ C => (f ρ C).bind fun x C1 => (g ρ C1).bind fun y C2 => (o x y C2).bind fun z C3 => match z with
  | .bl true => (h ρ C3).bind fun w C4 => o' y w C4
  | .bl false => .ok (.bl false) C3
  | _ => .stuck
variable {c : Expr} {h : Rho → Cells → Res D}
theorem chain_of {r r' : R2} {o o' : D → D → Cells → Res D}
    (hr : ∀ (x y : D) (C : Cells) (v w : V) (μ : List Addr) (Fh H : Hp) (σ : L2.St) (Q : VK), Sim X.K μ Fh C H → Rep X.K μ Fh v x → Rep X.K μ Fh w y → kd (RD X.K) X.K X.mg W (o x y C) μ Fh σ H Q → r v w H Q)
    (hr' : ∀ (x y : D) (C : Cells) (v w : V) (μ : List Addr) (Fh H : Hp) (σ : L2.St) (Q : VK), Sim X.K μ Fh C H → Rep X.K μ Fh v x → Rep X.K μ Fh w y → kd (RD X.K) X.K X.mg W (o' x y C) μ Fh σ H Q → r' v w H Q)
    (σ : L2.St) (H : Hp) (Q : VK) (q : rE X.K X.mg W (chainD o o' f g h) σ H Q) : tChain r r' (rE X.K X.mg W f) (rE X.K X.mg W g) (rE X.K X.mg W h) σ H Q := by
  obtain ⟨ρ, C, μ, F, S, E, k⟩ := q
  refine ⟨ρ, C, μ, F, S, E, kd_bind k fun d C1 v μ1 F1 H1 x1 s1 r1 h1 => ?_⟩
  refine ⟨ρ, C1, μ1, F1, s1, x1.env E, kd_bind h1 fun d2 C2 v2 μ2 F2 H2 x2 s2 r2 h2 => ?_⟩
  refine hr d d2 C2 v v2 μ2 F2 H2 σ _ s2 (x2.rep r1) r2 (kd_bind h2 fun d3 C3 v3 μ3 F3 H3 x3 s3 r3 h3 => ?_)
  cases d3 with
  | bl z =>
    cases r3
    refine ⟨z, rfl, ?_⟩
    cases z with
    | true =>
      rw [if_pos rfl]
      refine ⟨ρ, C3, μ3, F3, s3, x3.env (x2.env (x1.env E)), kd_bind h3 fun d4 C4 v4 μ4 F4 H4 x4 s4 r4 h4 => ?_⟩
      exact hr' d2 d4 C4 v2 v4 μ4 F4 H4 σ Q s4 (x4.rep (x3.rep r2)) r4 h4
    | false =>
      rw [if_neg Bool.false_ne_true]
      exact kd_ret s3 (.bl false) h3
  | _ => exact False.elim h3
theorem be_chain {op op' : CmpOp} {o o' : D → D → Cells → Res D} (ho : OpB X W (compareOp op) o) (ho' : OpB X W (compareOp op') o') (ha : BE X W a f) (hb : BE X W b g) (hc : BE X W c h)
    (hm : lastMarks [op, op'] [b, c] = false := by with_unfolding_all rfl) : BE X W (.Compare a [op, op'] [b, c] pos) (chainD o o' f g h) := by
  obtain ⟨r, hr, hk⟩ := ho
  obtain ⟨r', hr', hk'⟩ := ho'
  exact peI (pe_chain hr hr' ha hb hc hm) (chain_of hk hk')
theorem bt_chain {op op' : CmpOp} {o o' : D → D → Cells → Res D} (ho : OpB X W (compareOp op) o) (ho' : OpB X W (compareOp op') o') (ha : BE X W a f) (hb : BE X W b g) (hc : BE X W c h)
    (hm : lastMarks [op, op'] [b, c] = false := by with_unfolding_all rfl) : BT X W (.Compare a [op, op'] [b, c] pos) (chainD o o' f g h) := by
  have hv := be_chain (pos := pos) ho ho' ha hb hc hm
  obtain ⟨r, hr, hk⟩ := ho
  obtain ⟨r', hr', hk'⟩ := ho'
  refine ptI (pt_chain hr hr' ha hb hc hm) fun σ H Q q => ?_
  exact chain_of hk hk' _ _ _ (rT_val hv σ H Q q)

/-! ### and, or, not, if -/
def andD (f g : Rho → Cells → Res D) : Rho → Cells → Res D := fun ρ C => (f ρ C).bind fun x C1 => match x with
  | .bl true => g ρ C1
  | .bl false => .ok (.bl false) C1
  | _ => .stuck
def orD (f g : Rho → Cells → Res D) : Rho → Cells → Res D := fun ρ C => (f ρ C).bind fun x C1 => match x with
  | .bl true => .ok (.bl true) C1
  | .bl false => g ρ C1
  | _ => .stuck
def notD (f : Rho → Cells → Res D) : Rho → Cells → Res D := fun ρ C => (f ρ C).bind fun x C1 => match x with
  | .bl b => .ok (.bl !b) C1
  | _ => .stuck
def ifD (t f g : Rho → Cells → Res D) : Rho → Cells → Res D := fun ρ C => (t ρ C).bind fun x C1 => match x with
  | .bl true => f ρ C1
  | .bl false => g ρ C1
  | _ => .stuck
variable {rest : List Expr}
theorem toB_bind {r : Res D} {g : D → Cells → Res D} : toB (r.bind g) = r.bind fun x C => toB (g x C) := by cases r <;> rfl
/-- a test first, then what hangs on it -/
theorem kd_test {α β : Type} {R : RR α β} {K : PySem.W.Frag} {mg : Str → Option Value} {W : WX} {r : Res D} {μ : List Addr} {F H : Hp} {σ : L2.St} {g : D → Cells → Res α} {Q : β → Hp → Prop} {k : Bool → Hp → Prop} (h : kd R K mg W (r.bind g) μ F σ H Q)
    (h0 : ∀ d C, (∀ b, d ≠ .bl b) → g d C = .stuck)
    (hk : ∀ b C1 μ1 F1 H1, Ext μ F H μ1 F1 H1 → Sim K μ1 F1 C1 H1 → kd R K mg W (g (.bl b) C1) μ1 F1 σ H1 Q → k b H1) : kd RB K mg W (toB r) μ F σ H k := by
  cases r with
  | stuck => exact h
  | ex c p C => exact h
  | ok d C =>
    by_cases hd : ∃ b, d = .bl b
    · obtain ⟨b, rfl⟩ := hd
      intro b' μ1 F1 H1 x1 s1 e
      cases e
      exact hk b C μ1 F1 H1 x1 s1 (kd_mono x1 h)
    · have e : (Res.ok d C).bind g = .stuck := h0 d C fun b z => hd ⟨b, z⟩
      rw [e] at h
      exact h.elim
theorem bw_and1 (ha : BT X W a f) : BW X W (.BoolOp .And [a] pos) f := pw_and1 ha
theorem bw_or1 (ha : BT X W a f) : BW X W (.BoolOp .Or [a] pos) f := pw_or1 ha
theorem bw_and (ha : BT X W a f) (hb : BW X W (.BoolOp .And (b :: rest) pos) g) : BW X W (.BoolOp .And (a :: b :: rest) pos) (andD f g) := by
  refine pwI (pw_and ha hb) ?_
  rintro σ H Q ⟨ρ, C, μ, F, S, E, k⟩
  unfold andD at k
  rw [toB_bind] at k
  refine ⟨ρ, C, μ, F, S, E, kd_test k (fun d C h0 => ?_) fun b C1 μ1 F1 H1 x1 s1 h1 => ?_⟩
  · cases d with
    | bl b => exact absurd rfl (h0 b)
    | _ => rfl
  · cases b with
    | true => exact iteT ⟨ρ, C1, μ1, F1, s1, x1.env E, h1⟩
    | false => exact iteF (kd_ret s1 rfl h1)
theorem bw_or (ha : BT X W a f) (hb : BW X W (.BoolOp .Or (b :: rest) pos) g) : BW X W (.BoolOp .Or (a :: b :: rest) pos) (orD f g) := by
  refine pwI (pw_or ha hb) ?_
  rintro σ H Q ⟨ρ, C, μ, F, S, E, k⟩
  unfold orD at k
  rw [toB_bind] at k
  refine ⟨ρ, C, μ, F, S, E, kd_test k (fun d C h0 => ?_) fun b C1 μ1 F1 H1 x1 s1 h1 => ?_⟩
  · cases d with
    | bl b => exact absurd rfl (h0 b)
    | _ => rfl
  · cases b with
    | true => exact iteT (kd_ret s1 rfl h1)
    | false => exact iteF ⟨ρ, C1, μ1, F1, s1, x1.env E, h1⟩
theorem bt_w (h : BW X W e f) : BT X W e f := PW.pt h
theorem bt_not (ha : BT X W a f) : BT X W (.UnaryOp .Not a pos) (notD f) := by
  refine ptI (pt_not ha) ?_
  rintro σ H Q ⟨ρ, C, μ, F, S, E, k⟩
  unfold notD at k
  rw [toB_bind] at k
  refine ⟨ρ, C, μ, F, S, E, kd_test k (fun d C h0 => ?_) fun b C1 μ1 F1 H1 x1 s1 h1 => kd_ret s1 rfl h1⟩
  cases d with
  | bl b => exact absurd rfl (h0 b)
  | _ => rfl
theorem be_one {op} (ha : BE X W a f) : BE X W (.BoolOp op [a] pos) f := pe_one ha
theorem be_and (ha : BE X W a f) (hb : BE X W (.BoolOp .And (b :: rest) pos) g) : BE X W (.BoolOp .And (a :: b :: rest) pos) (andD f g) := by
  refine peI (pe_and ha hb) ?_
  rintro σ H Q ⟨ρ, C, μ, F, S, E, k⟩
  refine ⟨ρ, C, μ, F, S, E, kd_bind k fun d C1 v μ1 F1 H1 x1 s1 r1 h1 => ?_⟩
  cases d with
  | bl b =>
    cases r1
    refine ⟨b, rfl, ?_⟩
    cases b with
    | true => exact iteT ⟨ρ, C1, μ1, F1, s1, x1.env E, h1⟩
    | false => exact iteF (kd_ret s1 (.bl _) h1)
  | _ => exact False.elim h1
theorem be_or (ha : BE X W a f) (hb : BE X W (.BoolOp .Or (b :: rest) pos) g) : BE X W (.BoolOp .Or (a :: b :: rest) pos) (orD f g) := by
  refine peI (pe_or ha hb) ?_
  rintro σ H Q ⟨ρ, C, μ, F, S, E, k⟩
  refine ⟨ρ, C, μ, F, S, E, kd_bind k fun d C1 v μ1 F1 H1 x1 s1 r1 h1 => ?_⟩
  cases d with
  | bl b =>
    cases r1
    refine ⟨b, rfl, ?_⟩
    cases b with
    | true => exact iteT (kd_ret s1 (.bl _) h1)
    | false => exact iteF ⟨ρ, C1, μ1, F1, s1, x1.env E, h1⟩
  | _ => exact False.elim h1
theorem be_not (ha : BE X W a f) : BE X W (.UnaryOp .Not a pos) (notD f) := by
  refine peI (pe_not ha) ?_
  rintro σ H Q ⟨ρ, C, μ, F, S, E, k⟩
  refine ⟨ρ, C, μ, F, S, E, kd_bind k fun d C1 v μ1 F1 H1 x1 s1 r1 h1 => ?_⟩
  cases d with
  | bl b =>
    cases r1
    exact ⟨b, rfl, kd_ret s1 (.bl _) h1⟩
  | _ => exact False.elim h1
theorem be_if (hc : BT X W c h) (ha : BE X W a f) (hb : BE X W b g) : BE X W (.IfExp c a b pos) (ifD h f g) := by
  refine peI (pe_ifExp hc ha hb) ?_
  rintro σ H Q ⟨ρ, C, μ, F, S, E, k⟩
  refine ⟨ρ, C, μ, F, S, E, kd_test k (fun d C h0 => ?_) fun b C1 μ1 F1 H1 x1 s1 h1 => ?_⟩
  · cases d with
    | bl b => exact absurd rfl (h0 b)
    | _ => rfl
  · cases b with
    | true => exact iteT ⟨ρ, C1, μ1, F1, s1, x1.env E, h1⟩
    | false => exact iteF ⟨ρ, C1, μ1, F1, s1, x1.env E, h1⟩

/-! ### argument lists, displays, calls of built-ins -/
def aNil : Rho → Cells → Res (List D) := fun _ C => .ok [] C
def aCons (f : Rho → Cells → Res D) (fs : Rho → Cells → Res (List D)) : Rho → Cells → Res (List D) := fun ρ C => (f ρ C).bind fun x C1 => (fs ρ C1).bind fun xs C2 => .ok (x :: xs) C2
def fA (o : List D → Cells → Res D) (fs : Rho → Cells → Res (List D)) : Rho → Cells → Res D := fun ρ C => (fs ρ C).bind fun xs C1 => o xs C1
variable {fs : Rho → Cells → Res (List D)}
theorem ba_nil : BA X W [] aNil := by
  refine paI pa_nil ?_
  rintro σ H Q ⟨ρ, C, μ, F, S, E, k⟩
  exact kd_ret S .nil k
theorem ba_cons (ha : BE X W e f) (hr : BA X W es fs) (hs : starEach (e :: es) X.env = (false, eval e X.env) :: starEach es X.env := by rfl) : BA X W (e :: es) (aCons f fs) := by
  refine paI (pa_cons ha hr hs) ?_
  rintro σ H Q ⟨ρ, C, μ, F, S, E, k⟩
  refine ⟨ρ, C, μ, F, S, E, kd_bind k fun d C1 v μ1 F1 H1 x1 s1 r1 h1 => ?_⟩
  refine ⟨ρ, C1, μ1, F1, s1, x1.env E, kd_bind h1 fun d2 C2 v2 μ2 F2 H2 x2 s2 r2 h2 => ?_⟩
  exact kd_ret s2 (.cons (x2.rep r1) r2) h2
def oTup : List D → Cells → Res D := fun xs C => if xs.length ≤ sizeLine then .ok (.tup xs) C else .stuck
def oLst (m : Bool) : List D → Cells → Res D := fun xs C => if xs.length ≤ sizeLine then mkL m xs C else .stuck
theorem be_tup {j} (h : BA X W es fs) : BE X W (.Tuple es j pos) (fA oTup fs) := by
  refine peI (pe_tup h) ?_
  rintro σ H Q ⟨ρ, C, μ, F, S, E, k⟩
  refine ⟨ρ, C, μ, F, S, E, kd_bind k fun d C1 v μ1 F1 H1 x1 s1 r1 h1 => ?_⟩
  unfold oTup at h1
  split at h1
  · rename_i z
    exact ⟨by rw [r1.length]; exact z, fun p hp => kd_mkT s1 hp r1 h1⟩
  · exact h1.elim
theorem be_lst (m : Bool) (h : BA X W es fs) : BE X W (.List es pos) (fA (oLst m) fs) := by
  refine peI (pe_lst h) ?_
  rintro σ H Q ⟨ρ, C, μ, F, S, E, k⟩
  refine ⟨ρ, C, μ, F, S, E, kd_bind k fun d C1 v μ1 F1 H1 x1 s1 r1 h1 => ?_⟩
  unfold oLst at h1
  split at h1
  · rename_i z
    exact ⟨by rw [r1.length]; exact z, fun p hp => kd_mkL s1 hp r1 h1⟩
  · exact h1.elim
/-- a call by values -/
def CallB (X : Cx) (W : WX) (F : Value) (o : List D → Cells → Res D) : Prop :=
  ∃ r : List V → Hp → VK → Prop, CallR X F r ∧ ∀ (xs : List D) (C : Cells) (vs : List V) (μ : List Addr) (Fh H : Hp) (σ : L2.St) (Q : VK), Sim X.K μ Fh C H → Reps X.K μ Fh vs xs → kd (RD X.K) X.K X.mg W (o xs C) μ Fh σ H Q → r vs H Q
theorem be_callB {id : String} {x : Str} {p : Pos} {o : List D → Cells → Res D} (hc : CallB X W (.builtin id) o) (hg : Gl X x) (hm : X.mg x = none) (hv : bootBuiltins x = some (.builtin id)) (ha : BA X W (e :: es) fs) (hn : x ≠ "__name__" := by decide) (hdb : (x == ("__debug__" : Str)) = false := by decide)
    (he : starEach (e :: es) X.env = (false, eval e X.env) :: starEach es X.env := by rfl) (hpl : (backTo pos (starEach es X.env)).any (·.1) = false := by rfl) : BE X W (.Call (.Name x p) (e :: es) [] pos) (fA o fs) := by
  obtain ⟨r, hr, hk⟩ := hc
  refine peI (pe_callB hr hg hm hv ha hn hdb he hpl) ?_
  rintro σ H Q ⟨ρ, C, μ, F, S, E, k⟩
  exact ⟨ρ, C, μ, F, S, E, kd_bind k fun d C1 v μ1 F1 H1 x1 s1 r1 h1 => hk d C1 v μ1 F1 H1 σ Q s1 r1 h1⟩
theorem be_callTy {T : String} {x : Str} {p : Pos} {o : List D → Cells → Res D} (hc : CallB X W (.type T) o) (hg : Gl X x) (hm : X.mg x = none) (hv : bootBuiltins x = some (.type T)) (ha : BA X W (e :: es) fs) (hn : x ≠ "__name__" := by decide) (hdb : (x == ("__debug__" : Str)) = false := by decide)
    (he : starEach (e :: es) X.env = (false, eval e X.env) :: starEach es X.env := by rfl) (hpl : (backTo pos (starEach es X.env)).any (·.1) = false := by rfl) : BE X W (.Call (.Name x p) (e :: es) [] pos) (fA o fs) := by
  obtain ⟨r, hr, hk⟩ := hc
  refine peI (pe_callTy hr hg hm hv ha hn hdb he hpl) ?_
  rintro σ H Q ⟨ρ, C, μ, F, S, E, k⟩
  exact ⟨ρ, C, μ, F, S, E, kd_bind k fun d C1 v μ1 F1 H1 x1 s1 r1 h1 => hk d C1 v μ1 F1 H1 σ Q s1 r1 h1⟩

/-! ### subscripts -/
def IxB (X : Cx) (W : WX) (o : D → D → Cells → Res D) : Prop :=
  ∃ r : R2, IxR X r ∧ ∀ (x y : D) (C : Cells) (v w : V) (μ : List Addr) (Fh H : Hp) (σ : L2.St) (Q : VK), Sim X.K μ Fh C H → Rep X.K μ Fh v x → Rep X.K μ Fh w y → kd (RD X.K) X.K X.mg W (o x y C) μ Fh σ H Q → r v w H Q
theorem be_ixB {o : D → D → Cells → Res D} (ho : IxB X W o) (ha : BE X W a f) (hb : BE X W b g) (hs : PlainIx b) : BE X W (.Subscript a b pos) (f2 o f g) := by
  obtain ⟨r, hr, hk⟩ := ho
  exact peI (pe_ix hr ha hb hs) (tOp_of hk)
def ixD (x y : D) (C : Cells) : Res D := match asS x C, y with
  | some ds, .int i => match atI ds i with
    | some d => .ok d C
    | none => .stuck
  | _, _ => .stuck
theorem Reps.atI {K : PySem.W.Frag} {μ : List Addr} {F : Hp} {vs : List V} {ds : List D} {i : Int} {d : D} (r : Reps K μ F vs ds) (h : L2.atI ds i = some d) : ∃ v, L2.atI vs i = some v ∧ Rep K μ F v d := by
  unfold L2.atI at h ⊢
  rw [r.length]
  cases q : ixN ds.length i with
  | none => rw [q] at h; cases h
  | some j =>
    rw [q] at h
    exact r.get h
theorem ixB_seq : IxB X W ixD := by
  refine ⟨_, ix_seq, fun x y C v w μ F H σ Q S r1 r2 k => ?_⟩
  unfold ixD at k
  split at k
  · rename_i ds i e
    split at k
    · rename_i d e2
      obtain ⟨a, vs, rfl, q, rs⟩ := asS_rep S r1 e
      obtain ⟨u, e3, r3⟩ := rs.atI e2
      cases r2
      rcases q with q | q
      · exact .inl ⟨a, vs, i, u, rfl, rfl, q, e3, kd_ret S r3 k⟩
      · exact .inr (.inl ⟨a, vs, i, u, rfl, rfl, q, e3, kd_ret S r3 k⟩)
    · exact k.elim
  · exact k.elim
theorem be_ix (ha : BE X W a f) (hb : BE X W b g) (hs : PlainIx b) : BE X W (.Subscript a b pos) (f2 ixD f g) := be_ixB ixB_seq ha hb hs
end
end BV
namespace BV
open PySem PySem.Spec PyProof.Rows L2

section
variable {X : Cx} {W : WX}
theorem OpB.mk {F : Value → Value → Sem Value} {r : R2} {o : D → D → Cells → Res D} (h : OpR X F r)
    (k : ∀ (x y : D) (C : Cells) (v w : V) (μ : List Addr) (Fh H : Hp) (σ : L2.St) (Q : VK), Sim X.K μ Fh C H → Rep X.K μ Fh v x → Rep X.K μ Fh w y → kd (RD X.K) X.K X.mg W (o x y C) μ Fh σ H Q → r v w H Q) : OpB X W F o := ⟨r, h, k⟩

/-! ### arithmetic -/
def addD (m : Bool) (x y : D) (C : Cells) : Res D := match x, y with
  | .int i, .int j => .ok (.int (i + j)) C
  | .str a, .str b => if a.length + b.length ≤ sizeLine then .ok (.str (a ++ b)) C else .stuck
  | .tup xs, .tup ys => if xs.length + ys.length ≤ sizeLine then .ok (.tup (xs ++ ys)) C else .stuck
  | x, y => match asL x C, asL y C with
    | some xs, some ys => if xs.length + ys.length ≤ sizeLine then mkL m (xs ++ ys) C else .stuck
    | _, _ => .stuck
theorem ob_add (m : Bool) : OpB X W (binaryOp .Add) (addD m) := by
  refine .mk (op_add.or (op_add_str.or (op_catA.or op_cat))) fun x y C v w μ F H σ Q S r1 r2 k => ?_
  unfold addD at k
  split at k
  · cases r1
    cases r2
    exact .inl ⟨_, _, rfl, rfl, kd_ret S (.int _) k⟩
  · cases r1
    cases r2
    split at k
    · rename_i z
      exact .inr (.inl ⟨_, _, rfl, rfl, z, kd_ret S (.str _) k⟩)
    · exact k.elim
  · cases r1 with
    | tup a1 b1 =>
      cases r2 with
      | tup a2 b2 =>
        split at k
        · rename_i z
          rw [← b1.length, ← b2.length] at z
          refine .inr (.inr (.inl ⟨_, _, _, _, rfl, rfl, sameT S.sub a1, sameT S.sub a2, z, fun e => ?_, fun _ e => ?_, fun _ _ p hp => kd_mkT S hp (b1.append b2) k⟩))
          · subst e
            cases b1
            exact kd_ret S (.tup a2 b2) k
          · subst e
            cases b2
            rw [List.append_nil] at k
            exact kd_ret S (.tup a1 b1) k
        · exact k.elim
  · split at k
    · rename_i xs ys e1 e2
      split at k
      · rename_i z
        obtain ⟨a, vs, rfl, h1, q1⟩ := asL_rep S r1 e1
        obtain ⟨b, ws, rfl, h2, q2⟩ := asL_rep S r2 e2
        rw [← q1.length, ← q2.length] at z
        exact .inr (.inr (.inr ⟨a, b, vs, ws, rfl, rfl, h1, h2, z, fun p hp => kd_mkL S hp (q1.append q2) k⟩))
      · exact k.elim
    · exact k.elim
def subD (x y : D) (C : Cells) : Res D := match x, y with
  | .int i, .int j => .ok (.int (i - j)) C
  | _, _ => .stuck
theorem ob_sub : OpB X W (binaryOp .Sub) subD := by
  refine .mk op_sub fun x y C v w μ F H σ Q S r1 r2 k => ?_
  unfold subD at k
  split at k
  · cases r1
    cases r2
    exact ⟨_, _, rfl, rfl, kd_ret S (.int _) k⟩
  · exact k.elim
instance (i j : Int) : Decidable (CMul i j) := by unfold CMul; infer_instance
instance (i j : Int) : Decidable (CDiv i j) := by unfold CDiv; infer_instance
instance (i j : Int) : Decidable (CPow i j) := by unfold CPow; infer_instance
def repN {α : Type} (k : Int) (xs : List α) : List α := (List.replicate k.toNat xs).flatten
def mulD (m : Bool) (x y : D) (C : Cells) : Res D := match x, y with
  | .int i, .int j => if CMul i j then .ok (.int (i * j)) C else .stuck
  | .tup xs, .int k => if xs ≠ [] ∧ 2 ≤ k ∧ k ≤ 1000 ∧ xs.length ≤ 1000 then .ok (.tup (repN k xs)) C else .stuck
  | x, .int k => match asL x C with
    | some xs => if -(2 ^ 63) ≤ k ∧ k < 2 ^ 63 ∧ xs.length * k.toNat ≤ sizeLine then mkL m (repN k xs) C else .stuck
    | none => .stuck
  | _, _ => .stuck
theorem ob_mul (m : Bool) : OpB X W (binaryOp .Mult) (mulD m) := by
  refine .mk (op_mul.or (op_repT.or op_rep)) fun x y C v w μ F H σ Q S r1 r2 k => ?_
  unfold mulD at k
  split at k
  · cases r1
    cases r2
    split at k
    · rename_i z
      exact .inl ⟨_, _, rfl, rfl, z, kd_ret S (.int _) k⟩
    · exact k.elim
  · cases r2
    cases r1 with
    | tup a1 b1 =>
      split at k
      · rename_i z
        obtain ⟨z1, z2, z3, z4⟩ := z
        rw [← b1.length] at z4
        refine .inr (.inl ⟨_, _, _, rfl, rfl, sameT S.sub a1, fun e => ?_, z2, z3, z4, fun p hp => kd_mkT S hp (b1.rep _) k⟩)
        subst e
        cases b1
        exact z1 rfl
      · exact k.elim
  · cases r2
    split at k
    · rename_i xs e
      split at k
      · rename_i z
        obtain ⟨z1, z2, z3⟩ := z
        obtain ⟨a, vs, rfl, h1, q1⟩ := asL_rep S r1 e
        rw [← q1.length] at z3
        exact .inr (.inr ⟨a, _, vs, rfl, rfl, h1, z1, z2, z3, fun p hp => kd_mkL S hp (q1.rep _) k⟩)
      · exact k.elim
    · exact k.elim
  · exact k.elim
def fdivD (x y : D) (C : Cells) : Res D := match x, y with
  | .int i, .int j => if CDiv i j then .ok (.int (i / j)) C else .stuck
  | _, _ => .stuck
theorem ob_fdiv : OpB X W (binaryOp .FloorDiv) fdivD := by
  refine .mk op_fdiv fun x y C v w μ F H σ Q S r1 r2 k => ?_
  unfold fdivD at k
  split at k
  · cases r1
    cases r2
    split at k
    · rename_i z
      exact ⟨_, _, rfl, rfl, z, kd_ret S (.int _) k⟩
    · exact k.elim
  · exact k.elim
def modD (x y : D) (C : Cells) : Res D := match x, y with
  | .int i, .int j => if 0 < j then .ok (.int (i % j)) C else .stuck
  | _, _ => .stuck
theorem ob_mod : OpB X W (binaryOp .Mod) modD := by
  refine .mk op_mod fun x y C v w μ F H σ Q S r1 r2 k => ?_
  unfold modD at k
  split at k
  · cases r1
    cases r2
    split at k
    · rename_i z
      exact ⟨_, _, rfl, rfl, z, kd_ret S (.int _) k⟩
    · exact k.elim
  · exact k.elim
def powD (x y : D) (C : Cells) : Res D := match x, y with
  | .int i, .int j => if CPow i j then .ok (.int (i ^ j.toNat)) C else .stuck
  | _, _ => .stuck
theorem ob_pow : OpB X W (binaryOp .Pow) powD := by
  refine .mk op_pow fun x y C v w μ F H σ Q S r1 r2 k => ?_
  unfold powD at k
  split at k
  · cases r1
    cases r2
    split at k
    · rename_i z
      exact ⟨_, _, rfl, rfl, z, kd_ret S (.int _) k⟩
    · exact k.elim
  · exact k.elim
def negD (x : D) (C : Cells) : Res D := match x with
  | .int i => .ok (.int (-i)) C
  | _ => .stuck
theorem be_neg {a : Expr} {f : Rho → Cells → Res D} {pos : Pos} (ha : BE X W a f) : BE X W (.UnaryOp .USub a pos) (f1 negD f) := by
  refine peI (pe_un un_neg ha) ?_
  rintro σ H Q ⟨ρ, C, μ, F, S, E, k⟩
  refine ⟨ρ, C, μ, F, S, E, kd_bind k fun d C1 v μ1 F1 H1 x1 s1 r1 h1 => ?_⟩
  unfold negD at h1
  split at h1
  · cases r1
    exact ⟨_, rfl, kd_ret s1 (.int _) h1⟩
  · exact h1.elim

/-! ### comparisons -/
def cmpI (p : Int → Int → Bool) (x y : D) (C : Cells) : Res D := match x, y with
  | .int i, .int j => .ok (.bl (p i j)) C
  | _, _ => .stuck
abbrev ltD := cmpI fun i j => decide (i < j)
abbrev leD := cmpI fun i j => decide (i ≤ j)
abbrev gtD := cmpI fun i j => decide (j < i)
abbrev geD := cmpI fun i j => decide (j ≤ i)
theorem ob_cmpI {F : Value → Value → Sem Value} {p : Int → Int → Bool} (h : OpR X F (rI0 fun i j => .bl (p i j))) : OpB X W F (cmpI p) := by
  refine .mk h fun x y C v w μ F H σ Q S r1 r2 k => ?_
  unfold cmpI at k
  split at k
  · cases r1
    cases r2
    exact ⟨_, _, rfl, rfl, kd_ret S (.bl _) k⟩
  · exact k.elim
theorem ob_lt : OpB X W (compareOp .Lt) ltD := ob_cmpI op_lt
theorem ob_le : OpB X W (compareOp .LtE) leD := ob_cmpI op_le
theorem ob_gt : OpB X W (compareOp .Gt) gtD := ob_cmpI op_gt
theorem ob_ge : OpB X W (compareOp .GtE) geD := ob_cmpI op_ge
def isNon : D → Bool
  | .non => true
  | _ => false
def isD (neg : Bool) (x y : D) (C : Cells) : Res D := match y with
  | .non => .ok (.bl (if neg then !isNon x else isNon x)) C
  | .bl b => match x with
    | .bl a => .ok (.bl (if neg then !decide (a = b) else decide (a = b))) C
    | _ => .stuck
  | _ => .stuck
theorem isN_dec {K : PySem.W.Frag} {μ : List Addr} {F : Hp} {v : V} {x : D} (r : Rep K μ F v x) : decide (v = V.non) = isNon x := by
  cases r <;> simp [isNon]
theorem ob_is : OpB X W (compareOp .Is) (isD false) := by
  refine .mk (op_isN.or op_isBl) fun x y C v w μ F H σ Q S r1 r2 k => ?_
  unfold isD at k
  split at k
  · cases r2
    refine .inl ⟨rfl, ?_⟩
    rw [isN_dec r1]
    exact kd_ret S (.bl _) k
  · cases r2
    split at k
    · cases r1
      exact .inr ⟨_, _, rfl, rfl, kd_ret S (.bl _) k⟩
    · exact k.elim
  · exact k.elim
theorem ob_isnot : OpB X W (compareOp .IsNot) (isD true) := by
  refine .mk (op_notN.or op_notBl) fun x y C v w μ F H σ Q S r1 r2 k => ?_
  unfold isD at k
  split at k
  · cases r2
    refine .inl ⟨rfl, ?_⟩
    rw [isN_dec r1]
    exact kd_ret S (.bl _) k
  · cases r2
    split at k
    · cases r1
      exact .inr ⟨_, _, rfl, rfl, kd_ret S (.bl _) k⟩
    · exact k.elim
  · exact k.elim
end

/-! ### data without cells as the library's data -/
mutual
def toPy : D → Option PyData
  | .non => some .none
  | .bl b => some (.bool b)
  | .int i => some (.int i)
  | .str x => some (.str x)
  | .tup ds => (toPys ds).map .tuple
  | .ftp ds => (toPys ds).map .tuple
  | .lst ds => (toPys ds).map .list
  | .cel _ => none
  | .scr _ => none
def toPys : List D → Option (List PyData)
  | [] => some []
  | d :: ds => match toPy d, toPys ds with
    | some p, some ps => some (p :: ps)
    | _, _ => none
end
/-- .. a cell's content at the top -/
def toPyC (d : D) (C : Cells) : Option PyData := match d with
  | .cel k => match C[k]? with
    | some (.lst ds) => (toPys ds).map .list
    | _ => none
  | d => toPy d
section
variable {K : PySem.W.Frag} {μ : List Addr} {F H : Hp}
mutual
theorem toPy_dp (hs : Same F H) : ∀ (d : D) (p : PyData) (v : V), toPy d = some p → Rep K μ F v d → Dp K H v p
  | .non, p, v, e, r => by
    simp only [toPy, Option.some.injEq] at e
    subst e
    cases r
    exact .non
  | .bl b, p, v, e, r => by
    simp only [toPy, Option.some.injEq] at e
    subst e
    cases r
    exact .bl b
  | .int i, p, v, e, r => by
    simp only [toPy, Option.some.injEq] at e
    subst e
    cases r
    exact .int i
  | .str x, p, v, e, r => by
    simp only [toPy, Option.some.injEq] at e
    subst e
    cases r
    exact .str x
  | .tup ds, p, v, e, r => by
    simp only [toPy, Option.map_eq_some_iff] at e
    obtain ⟨ps, e1, e2⟩ := e
    subst e2
    cases r with
    | tup a b => exact .tup (sameT hs a) (toPys_dp hs ds ps _ e1 b)
  | .ftp ds, p, v, e, r => by
    simp only [toPy, Option.map_eq_some_iff] at e
    obtain ⟨ps, e1, e2⟩ := e
    subst e2
    cases r with
    | ftp a b c d => exact .tup (sameT hs (ftp_sq a)) (toPys_dp hs ds ps _ e1 d)
  | .lst ds, p, v, e, r => by
    simp only [toPy, Option.map_eq_some_iff] at e
    obtain ⟨ps, e1, e2⟩ := e
    subst e2
    cases r with
    | lst a b => exact .lst (SqL.of (hs _ _ a)) (toPys_dp hs ds ps _ e1 b)
  | .cel _, p, v, e, r => by simp only [toPy] at e; cases e
  | .scr _, p, v, e, r => by simp only [toPy] at e; cases e
theorem toPys_dp (hs : Same F H) : ∀ (ds : List D) (ps : List PyData) (vs : List V), toPys ds = some ps → Reps K μ F vs ds → DpAll K H vs ps
  | [], ps, vs, e, r => by
    simp only [toPys, Option.some.injEq] at e
    subst e
    cases r
    exact .nil
  | d :: ds, ps, vs, e, r => by
    simp only [toPys] at e
    split at e
    · rename_i p ps' e1 e2
      cases e
      cases r with
      | cons a b => exact .cons (toPy_dp hs d p _ e1 a) (toPys_dp hs ds ps' _ e2 b)
    · cases e
end
theorem toPyC_dp {C : Cells} {d : D} {p : PyData} {v : V} (S : Sim K μ F C H) (e : toPyC d C = some p) (r : Rep K μ F v d) : Dp K H v p := by
  unfold toPyC at e
  split at e
  · rename_i k
    split at e
    · rename_i ds hk
      simp only [Option.map_eq_some_iff] at e
      obtain ⟨ps, e1, e2⟩ := e
      subst e2
      cases r with
      | cel a =>
        obtain ⟨_, vs, g, q⟩ := S.cel k _ _ hk a
        exact .lst (SqL.of g) (toPys_dp S.sub ds ps vs e1 q)
    · cases e
  · exact toPy_dp S.sub _ _ _ e r
end

/-! ### ==, in, repr -/
def eqD (neg : Bool) (x y : D) (C : Cells) : Res D := match x, y with
  | .str a, .str b => .ok (.bl (if neg then !decide (a = b) else decide (a = b))) C
  | x, y => match toPyC x C, toPyC y C with
  | some a, some b => if SeqAt.shaped a = true ∧ SeqAt.shaped b = true then .ok (.bl (if neg then !PyData.eqv a b else PyData.eqv a b)) C else .stuck
  | _, _ => .stuck
def inD (neg : Bool) (x y : D) (C : Cells) : Res D := match toPyC x C, toPyC y C with
  | some a, some (.list bs) => if SeqAt.shaped a = true ∧ SeqAt.shaped (.list bs) = true then .ok (.bl (if neg then !bs.any fun z => PyData.eqv z a else bs.any fun z => PyData.eqv z a)) C else .stuck
  | some a, some (.tuple bs) => if SeqAt.shaped a = true ∧ SeqAt.shaped (.tuple bs) = true then .ok (.bl (if neg then !bs.any fun z => PyData.eqv z a else bs.any fun z => PyData.eqv z a)) C else .stuck
  | _, _ => .stuck
section
variable {X : Cx} {W : WX}
theorem ob_eq (hu : X.A.units + 64 < cLine) : OpB X W (compareOp .Eq) (eqD false) := by
  refine .mk (op_eq.or (op_eqD hu)) fun x y C v w μ F H σ Q S r1 r2 k => ?_
  unfold eqD at k
  split at k
  · rename_i a b
    cases r1
    cases r2
    refine .inl ⟨rfl, ?_⟩
    have e : decide (V.str a = V.str b) = decide (a = b) := by simp
    rw [e]
    exact kd_ret S (.bl _) k
  · split at k
    · rename_i a b e1 e2
      split at k
      · rename_i z
        exact .inr ⟨a, b, toPyC_dp S e1 r1, toPyC_dp S e2 r2, z.1, z.2, kd_ret S (.bl _) k⟩
      · exact k.elim
    · exact k.elim
theorem ob_ne (hu : X.A.units + 64 < cLine) : OpB X W (compareOp .NotEq) (eqD true) := by
  refine .mk (op_ne.or (op_neD hu)) fun x y C v w μ F H σ Q S r1 r2 k => ?_
  unfold eqD at k
  split at k
  · rename_i a b
    cases r1
    cases r2
    refine .inl ⟨rfl, ?_⟩
    have e : decide (V.str a = V.str b) = decide (a = b) := by simp
    rw [e]
    exact kd_ret S (.bl _) k
  · split at k
    · rename_i a b e1 e2
      split at k
      · rename_i z
        exact .inr ⟨a, b, toPyC_dp S e1 r1, toPyC_dp S e2 r2, z.1, z.2, kd_ret S (.bl _) k⟩
      · exact k.elim
    · exact k.elim
def rInT (K : PySem.W.Frag) (neg : Bool) : R2 := fun x y H Q => ∃ d ds, Dp K H x d ∧ Dp K H y (.tuple ds) ∧ SeqAt.shaped d = true ∧ SeqAt.shaped (.tuple ds) = true ∧ Q (.bl (if neg then !ds.any fun z => PyData.eqv z d else ds.any fun z => PyData.eqv z d)) H
theorem op_inT (hu : X.A.units + 65 < cLine) : OpR X (compareOp .In) (rInT X.K false) := by
  intro pins s σ H x y v u Q I rx ry h
  obtain ⟨d, ds, h1, h2, s1, s2, q⟩ := h
  obtain ⟨as, q1⟩ := Dp.reads I d x v h1 rx
  obtain ⟨bs, q2⟩ := Dp.reads I (.tuple ds) y u h2 ry
  exact SeqAt.in_tuple_reads q2 q1 (SeqAt.canLay_of_shaped s2) (SeqAt.canLay_of_shaped s1) (room_in_shaped s1 hu) ⟨.bl _, H, I, rfl, q⟩
theorem op_notInT (hu : X.A.units + 65 < cLine) : OpR X (compareOp .NotIn) (rInT X.K true) := by
  intro pins s σ H x y v u Q I rx ry h
  obtain ⟨d, ds, h1, h2, s1, s2, q⟩ := h
  obtain ⟨as, q1⟩ := Dp.reads I d x v h1 rx
  obtain ⟨bs, q2⟩ := Dp.reads I (.tuple ds) y u h2 ry
  exact SeqAt.notIn_tuple_reads q2 q1 (SeqAt.canLay_of_shaped s2) (SeqAt.canLay_of_shaped s1) (room_in_shaped s1 hu) ⟨.bl _, H, I, rfl, q⟩
theorem ob_in (hu : X.A.units + 65 < cLine) : OpB X W (compareOp .In) (inD false) := by
  refine .mk ((op_inD hu).or (op_inT hu)) fun x y C v w μ F H σ Q S r1 r2 k => ?_
  unfold inD at k
  split at k
  · rename_i a b e1 e2
    split at k
    · rename_i z
      exact .inl ⟨a, b, toPyC_dp S e1 r1, toPyC_dp S e2 r2, z.1, z.2, kd_ret S (.bl _) k⟩
    · exact k.elim
  · rename_i a b e1 e2
    split at k
    · rename_i z
      exact .inr ⟨a, b, toPyC_dp S e1 r1, toPyC_dp S e2 r2, z.1, z.2, kd_ret S (.bl _) k⟩
    · exact k.elim
  · exact k.elim
theorem ob_notin (hu : X.A.units + 65 < cLine) : OpB X W (compareOp .NotIn) (inD true) := by
  refine .mk ((op_notInD hu).or (op_notInT hu)) fun x y C v w μ F H σ Q S r1 r2 k => ?_
  unfold inD at k
  split at k
  · rename_i a b e1 e2
    split at k
    · rename_i z
      exact .inl ⟨a, b, toPyC_dp S e1 r1, toPyC_dp S e2 r2, z.1, z.2, kd_ret S (.bl _) k⟩
    · exact k.elim
  · rename_i a b e1 e2
    split at k
    · rename_i z
      exact .inr ⟨a, b, toPyC_dp S e1 r1, toPyC_dp S e2 r2, z.1, z.2, kd_ret S (.bl _) k⟩
    · exact k.elim
  · exact k.elim
/-- repr(x) -/
def oRepr (xs : List D) (C : Cells) : Res D := match xs with
  | [x] => match toPyC x C with
    | some p => if SeqAt.shaped p = true ∧ p.showable = true ∧ p.shown.length ≤ sizeLine then .ok (.str p.shown) C else .stuck
    | none => .stuck
  | _ => .stuck
theorem call_reprD (hg : X.A.guards = some []) (hu : X.A.units + 65 < cLine) : CallR X (.builtin "repr") (fun xs H Q => ∃ x p, xs = [x] ∧ Dp X.K H x p ∧ SeqAt.shaped p = true ∧ p.showable = true ∧ p.shown.length ≤ sizeLine ∧ Q (.str p.shown) H) := by
  intro pins s σ H xs us Q I r h
  obtain ⟨x, p, rfl, hd, sh, hs, hz, q⟩ := h
  obtain ⟨u, rfl, r1⟩ := vals1 r
  have kept : ∀ (h' : Heap) (t : Nat), (∀ b o, s.heap.get? b = some o → h'.get? b = some o) → Inv X pins σ H { s with heap := h', toks := t } := fun h' t hk => I.kept (t' := t) hk
  have big : ∀ d : PyData, Dp X.K H x d → SeqAt.shaped d = true → d.showable = true → d.shown.length ≤ sizeLine → Q (.str d.shown) H → (∃ a, x = .ref a) → wpAny (model X.prog X.w) X.A (call (.builtin "repr") [u]) (EP X pins σ Q) X.xe s := by
    intro d hd sh hs hz q hx
    obtain ⟨a, rfl⟩ := hx
    cases r1
    obtain ⟨as, rd⟩ := Dp.reads I d (.ref a) _ hd rfl
    have h1 := SeqAt.depth_of_shaped sh
    exact repr_of_reads' rd hs (PyData.noDict_hsm (PyData.hasDict_of_canLay d (SeqAt.canLay_of_shaped sh))) hg (by omega) (fun _ _ e => e) (fun h' t tk hk => ⟨.str _, H, kept h' tk hk, ⟨t, rfl⟩, q⟩) hz
  cases hd with
  | non =>
    cases r1
    simp only [PyData.shown] at q
    exact PySem.P.repr_of_none ⟨.str _, H, I.tok _, ⟨_, rfl⟩, q⟩
  | bl b =>
    cases r1
    simp only [PyData.shown] at q
    exact PySem.P.repr_of_bool ⟨.str _, H, I.tok _, ⟨_, rfl⟩, q⟩
  | int i =>
    obtain ⟨t, rfl⟩ := r1
    simp only [PyData.shown] at q
    simp only [PyData.showable, decide_eq_true_eq] at hs
    exact PySem.P.repr_of_int hs ⟨.str _, H, I.tok _, ⟨_, rfl⟩, q⟩
  | str z =>
    obtain ⟨t, rfl⟩ := r1
    simp only [PyData.shown] at q hz
    exact PySem.P.repr_of_str ⟨.str _, H, I.tok _, ⟨_, rfl⟩, q⟩ hz
  | lst a b => exact big _ (.lst a b) sh hs hz q ⟨_, rfl⟩
  | tup a b => exact big _ (.tup a b) sh hs hz q ⟨_, rfl⟩
theorem cb_repr (hg : X.A.guards = some []) (hu : X.A.units + 65 < cLine) : CallB X W (.builtin "repr") oRepr := by
  refine ⟨_, call_reprD hg hu, fun xs C vs μ F H σ Q S r k => ?_⟩
  unfold oRepr at k
  split at k
  · split at k
    · rename_i p e
      split at k
      · rename_i z
        cases r with
        | cons r1 r2 =>
          cases r2
          exact ⟨_, p, rfl, toPyC_dp S e r1, z.1, z.2.1, z.2.2, kd_ret S (.str _) k⟩
      · exact k.elim
    · exact k.elim
  · exact k.elim
end
end BV
namespace BV
open PySem PySem.Spec PyProof.Rows L2

def ints? : List D → Option (List Int)
  | [] => some []
  | .int i :: r => (ints? r).map (i :: ·)
  | _ => none
def bls? : List D → Option (List Bool)
  | [] => some []
  | .bl i :: r => (bls? r).map (i :: ·)
  | _ => none
theorem ints?_eq : ∀ {ds : List D} {ns : List Int}, ints? ds = some ns → ds = ns.map .int
  | [], ns, e => by
    simp only [ints?, Option.some.injEq] at e
    subst e
    rfl
  | d :: r, ns, e => by
    cases d with
    | int i =>
      simp only [ints?, Option.map_eq_some_iff] at e
      obtain ⟨ms, e1, e2⟩ := e
      subst e2
      rw [ints?_eq e1]
      rfl
    | _ => simp only [ints?] at e; cases e
theorem bls?_eq : ∀ {ds : List D} {ns : List Bool}, bls? ds = some ns → ds = ns.map .bl
  | [], ns, e => by
    simp only [bls?, Option.some.injEq] at e
    subst e
    rfl
  | d :: r, ns, e => by
    cases d with
    | bl i =>
      simp only [bls?, Option.map_eq_some_iff] at e
      obtain ⟨ms, e1, e2⟩ := e
      subst e2
      rw [bls?_eq e1]
      rfl
    | _ => simp only [bls?] at e; cases e
@[simp] theorem ints?_map (ns : List Int) : ints? (ns.map D.int) = some ns := by
  induction ns with
  | nil => rfl
  | cons n ns ih => simp [ints?, ih]
@[simp] theorem bls?_map (ns : List Bool) : bls? (ns.map D.bl) = some ns := by
  induction ns with
  | nil => rfl
  | cons n ns ih => simp [bls?, ih]

section
variable {X : Cx} {W : WX}
/-! ### len, int, abs -/
def oLen (xs : List D) (C : Cells) : Res D := match xs with
  | [.str x] => if x.length ≤ sizeLine then .ok (.int x.length) C else .stuck
  | [d] => match asS d C with
    | some ds => .ok (.int ds.length) C
    | none => .stuck
  | _ => .stuck
theorem reps1 {K : PySem.W.Frag} {μ : List Addr} {F : Hp} {vs : List V} {d : D} (r : Reps K μ F vs [d]) : ∃ v, vs = [v] ∧ Rep K μ F v d := by
  cases r with
  | cons a b =>
    cases b
    exact ⟨_, rfl, a⟩
theorem reps2 {K : PySem.W.Frag} {μ : List Addr} {F : Hp} {vs : List V} {d e : D} (r : Reps K μ F vs [d, e]) : ∃ v w, vs = [v, w] ∧ Rep K μ F v d ∧ Rep K μ F w e := by
  cases r with
  | cons a b =>
    obtain ⟨w, rfl, c⟩ := reps1 b
    exact ⟨_, w, rfl, a, c⟩
theorem cb_len : CallB X W (.builtin "len") oLen := by
  refine ⟨_, call_len, fun xs C vs μ F H σ Q S r k => ?_⟩
  unfold oLen at k
  split at k
  · obtain ⟨v, rfl, r1⟩ := reps1 r
    cases r1
    split at k
    · rename_i z
      exact ⟨_, _, rfl, ⟨z, rfl⟩, kd_ret S (.int _) k⟩
    · exact k.elim
  · obtain ⟨v, rfl, r1⟩ := reps1 r
    split at k
    · rename_i ds e
      obtain ⟨a, vs, rfl, q, rs⟩ := asS_rep S r1 e
      rw [← rs.length] at k
      refine ⟨_, _, rfl, ?_, kd_ret S (.int _) k⟩
      rcases q with q | q
      · exact .inl ⟨vs, q, rfl⟩
      · exact .inr ⟨vs, q, rfl⟩
    · exact k.elim
  · exact k.elim
def oInt (xs : List D) (C : Cells) : Res D := match xs with
  | [.int i] => .ok (.int i) C
  | [.bl b] => .ok (.int (if b then 1 else 0)) C
  | _ => .stuck
theorem cb_int : CallB X W (.type "int") oInt := by
  refine ⟨_, call_int1, fun xs C vs μ F H σ Q S r k => ?_⟩
  unfold oInt at k
  split at k
  · obtain ⟨v, rfl, r1⟩ := reps1 r
    cases r1
    exact .inl ⟨_, rfl, kd_ret S (.int _) k⟩
  · obtain ⟨v, rfl, r1⟩ := reps1 r
    cases r1
    exact .inr ⟨_, rfl, kd_ret S (.int _) k⟩
  · exact k.elim
def oAbs (xs : List D) (C : Cells) : Res D := match xs with
  | [.int i] => .ok (.int (if i < 0 then -i else i)) C
  | _ => .stuck
theorem cb_abs : CallB X W (.builtin "abs") oAbs := by
  refine ⟨_, call_abs, fun xs C vs μ F H σ Q S r k => ?_⟩
  unfold oAbs at k
  split at k
  · obtain ⟨v, rfl, r1⟩ := reps1 r
    cases r1
    exact ⟨_, rfl, kd_ret S (.int _) k⟩
  · exact k.elim
/-! ### max, min, sum, all, any -/
def maxI : List Int → Option Int
  | [] => none
  | n :: ns => some (ns.foldl (fun a b => if b > a then b else a) n)
def minI : List Int → Option Int
  | [] => none
  | n :: ns => some (ns.foldl (fun a b => if b < a then b else a) n)
theorem foldl_max (ns : List Int) : ∀ n : Int, (ns.foldl (fun a b => if b > a then b else a) n = n ∨ ns.foldl (fun a b => if b > a then b else a) n ∈ ns) ∧ n ≤ ns.foldl (fun a b => if b > a then b else a) n ∧ ∀ y ∈ ns, y ≤ ns.foldl (fun a b => if b > a then b else a) n := by
  induction ns with
  | nil => intro n; simp
  | cons m ns ih =>
    intro n
    simp only [List.foldl_cons]
    obtain ⟨h1, h2, h3⟩ := ih (if m > n then m else n)
    refine ⟨?_, ?_, ?_⟩
    · rcases h1 with h1 | h1
      · by_cases c : m > n
        · rw [if_pos c] at h1 ⊢
          exact .inr (by rw [h1]; simp)
        · rw [if_neg c] at h1 ⊢
          exact .inl h1
      · exact .inr (List.mem_cons_of_mem _ h1)
    · by_cases c : m > n
      · rw [if_pos c] at h2 ⊢
        omega
      · rw [if_neg c] at h2 ⊢
        exact h2
    · intro y hy
      rcases List.mem_cons.mp hy with e | hy
      · subst e
        by_cases c : y > n
        · rw [if_pos c] at h2 ⊢
          exact h2
        · rw [if_neg c] at h2 ⊢
          omega
      · exact h3 y hy
theorem foldl_min (ns : List Int) : ∀ n : Int, (ns.foldl (fun a b => if b < a then b else a) n = n ∨ ns.foldl (fun a b => if b < a then b else a) n ∈ ns) ∧ ns.foldl (fun a b => if b < a then b else a) n ≤ n ∧ ∀ y ∈ ns, ns.foldl (fun a b => if b < a then b else a) n ≤ y := by
  induction ns with
  | nil => intro n; simp
  | cons m ns ih =>
    intro n
    simp only [List.foldl_cons]
    obtain ⟨h1, h2, h3⟩ := ih (if m < n then m else n)
    refine ⟨?_, ?_, ?_⟩
    · rcases h1 with h1 | h1
      · by_cases c : m < n
        · rw [if_pos c] at h1 ⊢
          exact .inr (by rw [h1]; simp)
        · rw [if_neg c] at h1 ⊢
          exact .inl h1
      · exact .inr (List.mem_cons_of_mem _ h1)
    · by_cases c : m < n
      · rw [if_pos c] at h2 ⊢
        omega
      · rw [if_neg c] at h2 ⊢
        exact h2
    · intro y hy
      rcases List.mem_cons.mp hy with e | hy
      · subst e
        by_cases c : y < n
        · rw [if_pos c] at h2 ⊢
          exact h2
        · rw [if_neg c] at h2 ⊢
          omega
      · exact h3 y hy
theorem maxI_spec {ns : List Int} {m : Int} (h : maxI ns = some m) : m ∈ ns ∧ ∀ y ∈ ns, y ≤ m := by
  cases ns with
  | nil => cases h
  | cons n ns =>
    simp only [maxI, Option.some.injEq] at h
    subst h
    obtain ⟨h1, h2, h3⟩ := foldl_max ns n
    refine ⟨?_, fun y hy => ?_⟩
    · rcases h1 with h1 | h1
      · rw [h1]
        simp
      · exact List.mem_cons_of_mem _ h1
    · rcases List.mem_cons.mp hy with e | hy
      · rw [e]
        exact h2
      · exact h3 y hy
theorem minI_spec {ns : List Int} {m : Int} (h : minI ns = some m) : m ∈ ns ∧ ∀ y ∈ ns, m ≤ y := by
  cases ns with
  | nil => cases h
  | cons n ns =>
    simp only [minI, Option.some.injEq] at h
    subst h
    obtain ⟨h1, h2, h3⟩ := foldl_min ns n
    refine ⟨?_, fun y hy => ?_⟩
    · rcases h1 with h1 | h1
      · rw [h1]
        simp
      · exact List.mem_cons_of_mem _ h1
    · rcases List.mem_cons.mp hy with e | hy
      · rw [e]
        exact h2
      · exact h3 y hy
def intsC (d : D) (C : Cells) : Option (List Int) := (asL d C).bind ints?
theorem intsC_rep {K : PySem.W.Frag} {μ : List Addr} {F H : Hp} {C : Cells} {v : V} {d : D} {ns : List Int} (S : Sim K μ F C H) (r : Rep K μ F v d) (h : intsC d C = some ns) : ∃ a, v = .ref a ∧ H a = some (.lst (ns.map V.int)) := by
  unfold intsC at h
  simp only [Option.bind_eq_some_iff] at h
  obtain ⟨ds, e1, e2⟩ := h
  obtain ⟨a, vs, rfl, g, rs⟩ := asL_rep S r e1
  rw [ints?_eq e2] at rs
  rw [rs.of_ints] at g
  exact ⟨a, rfl, g⟩
def oMax (xs : List D) (C : Cells) : Res D := match xs with
  | [.int i, .int j] => .ok (.int (if j > i then j else i)) C
  | [d] => match (intsC d C).bind maxI with
    | some m => .ok (.int m) C
    | none => .stuck
  | _ => .stuck
def oMin (xs : List D) (C : Cells) : Res D := match xs with
  | [.int i, .int j] => .ok (.int (if j < i then j else i)) C
  | [d] => match (intsC d C).bind minI with
    | some m => .ok (.int m) C
    | none => .stuck
  | _ => .stuck
theorem cb_max (hc : X.calm = true) : CallB X W (.builtin "max") oMax := by
  refine ⟨_, (call_max2 hc).or (cr_max hc), fun xs C vs μ F H σ Q S r k => ?_⟩
  unfold oMax at k
  split at k
  · obtain ⟨v, w, rfl, r1, r2⟩ := reps2 r
    cases r1
    cases r2
    exact .inl ⟨_, _, rfl, kd_ret S (.int _) k⟩
  · obtain ⟨v, rfl, r1⟩ := reps1 r
    split at k
    · rename_i m e
      simp only [Option.bind_eq_some_iff] at e
      obtain ⟨ns, e1, e2⟩ := e
      obtain ⟨a, rfl, g⟩ := intsC_rep S r1 e1
      obtain ⟨h1, h2⟩ := maxI_spec e2
      refine .inr ⟨a, ns, rfl, SqL.of g, List.length_pos_of_mem h1, fun m' h3 h4 => ?_⟩
      have e : m' = m := Int.le_antisymm (h2 _ h3) (h4 _ h1)
      rw [e]
      exact kd_ret S (.int _) k
    · exact k.elim
  · exact k.elim
theorem cb_min (hc : X.calm = true) : CallB X W (.builtin "min") oMin := by
  refine ⟨_, (call_min2 hc).or (cr_min hc), fun xs C vs μ F H σ Q S r k => ?_⟩
  unfold oMin at k
  split at k
  · obtain ⟨v, w, rfl, r1, r2⟩ := reps2 r
    cases r1
    cases r2
    exact .inl ⟨_, _, rfl, kd_ret S (.int _) k⟩
  · obtain ⟨v, rfl, r1⟩ := reps1 r
    split at k
    · rename_i m e
      simp only [Option.bind_eq_some_iff] at e
      obtain ⟨ns, e1, e2⟩ := e
      obtain ⟨a, rfl, g⟩ := intsC_rep S r1 e1
      obtain ⟨h1, h2⟩ := minI_spec e2
      refine .inr ⟨a, ns, rfl, SqL.of g, List.length_pos_of_mem h1, fun m' h3 h4 => ?_⟩
      have e : m' = m := Int.le_antisymm (h4 _ h1) (h2 _ h3)
      rw [e]
      exact kd_ret S (.int _) k
    · exact k.elim
  · exact k.elim
def oSum (xs : List D) (C : Cells) : Res D := match xs with
  | [d] => match intsC d C with
    | some ns => .ok (.int ns.sum) C
    | none => .stuck
  | _ => .stuck
theorem cb_sum (hc : X.calm = true) : CallB X W (.builtin "sum") oSum := by
  refine ⟨_, cr_sum hc, fun xs C vs μ F H σ Q S r k => ?_⟩
  unfold oSum at k
  split at k
  · obtain ⟨v, rfl, r1⟩ := reps1 r
    split at k
    · rename_i ns e
      obtain ⟨a, rfl, g⟩ := intsC_rep S r1 e
      exact ⟨a, ns, rfl, SqL.of g, kd_ret S (.int _) k⟩
    · exact k.elim
  · exact k.elim
def blsC (d : D) (C : Cells) : Option (List Bool) := (asL d C).bind bls?
theorem blsC_rep {K : PySem.W.Frag} {μ : List Addr} {F H : Hp} {C : Cells} {v : V} {d : D} {ns : List Bool} (S : Sim K μ F C H) (r : Rep K μ F v d) (h : blsC d C = some ns) : ∃ a, v = .ref a ∧ H a = some (.lst (ns.map V.bl)) := by
  unfold blsC at h
  simp only [Option.bind_eq_some_iff] at h
  obtain ⟨ds, e1, e2⟩ := h
  obtain ⟨a, vs, rfl, g, rs⟩ := asL_rep S r e1
  rw [bls?_eq e2] at rs
  rw [rs.of_bls] at g
  exact ⟨a, rfl, g⟩
def oAll (xs : List D) (C : Cells) : Res D := match xs with
  | [d] => match blsC d C with
    | some bs => .ok (.bl (bs.all id)) C
    | none => .stuck
  | _ => .stuck
def oAny (xs : List D) (C : Cells) : Res D := match xs with
  | [d] => match blsC d C with
    | some bs => .ok (.bl (bs.any id)) C
    | none => .stuck
  | _ => .stuck
theorem cb_all (hc : X.calm = true) : CallB X W (.builtin "all") oAll := by
  refine ⟨_, cr_all hc, fun xs C vs μ F H σ Q S r k => ?_⟩
  unfold oAll at k
  split at k
  · obtain ⟨v, rfl, r1⟩ := reps1 r
    split at k
    · rename_i ns e
      obtain ⟨a, rfl, g⟩ := blsC_rep S r1 e
      exact ⟨a, ns, rfl, SqL.of g, kd_ret S (.bl _) k⟩
    · exact k.elim
  · exact k.elim
theorem cb_any (hc : X.calm = true) : CallB X W (.builtin "any") oAny := by
  refine ⟨_, cr_any hc, fun xs C vs μ F H σ Q S r k => ?_⟩
  unfold oAny at k
  split at k
  · obtain ⟨v, rfl, r1⟩ := reps1 r
    split at k
    · rename_i ns e
      obtain ⟨a, rfl, g⟩ := blsC_rep S r1 e
      exact ⟨a, ns, rfl, SqL.of g, kd_ret S (.bl _) k⟩
    · exact k.elim
  · exact k.elim
/-! ### list, tuple -/
def oList (m : Bool) (xs : List D) (C : Cells) : Res D := match xs with
  | [d] => match asS d C with
    | some ds => mkL m ds C
    | none => .stuck
  | _ => .stuck
theorem cb_list (m : Bool) : CallB X W (.type "list") (oList m) := by
  refine ⟨_, call_list_of, fun xs C vs μ F H σ Q S r k => ?_⟩
  unfold oList at k
  split at k
  · obtain ⟨v, rfl, r1⟩ := reps1 r
    split at k
    · rename_i ds e
      obtain ⟨a, vs, rfl, g, rs⟩ := asS_rep S r1 e
      exact ⟨a, vs, rfl, g, fun p hp => kd_mkL S hp rs k⟩
    · exact k.elim
  · exact k.elim
def oTuple (xs : List D) (C : Cells) : Res D := match xs with
  | [d] => match asS d C with
    | some ds => .ok (.tup ds) C
    | none => .stuck
  | _ => .stuck
theorem asT_rep {K : PySem.W.Frag} {μ : List Addr} {F H : Hp} {C : Cells} {v : V} {d : D} {ds : List D} (S : Sim K μ F C H) (r : Rep K μ F v d) (h : asS d C = some ds) :
    ∃ a vs, v = .ref a ∧ Reps K μ F vs ds ∧ (SqL K H a vs ∨ (SqT K H a vs ∧ SqT K F a vs)) := by
  cases r with
  | tup a b =>
    simp only [asS, Option.some.injEq] at h
    subst h
    exact ⟨_, _, rfl, b, .inr ⟨sameT S.sub a, a⟩⟩
  | ftp a b c d =>
    simp only [asS, Option.some.injEq] at h
    subst h
    exact ⟨_, _, rfl, d, .inr ⟨sameT S.sub (ftp_sq a), ftp_sq a⟩⟩
  | lst a b =>
    simp only [asS, Option.some.injEq] at h
    subst h
    exact ⟨_, _, rfl, b, .inl (SqL.of (S.sub _ _ a))⟩
  | scr a =>
    simp only [asS, Option.some.injEq] at h
    subst h
    exact ⟨_, _, rfl, Reps.ints _, .inl (S.sub.seq a)⟩
  | cel a =>
    rename_i a' k
    simp only [asS] at h
    split at h
    · rename_i ds' e
      cases h
      obtain ⟨_, vs, g, r⟩ := S.cel k _ _ e a
      exact ⟨_, vs, rfl, r, .inl (SqL.of g)⟩
    · cases h
  | _ => cases h
theorem cb_tuple : CallB X W (.type "tuple") oTuple := by
  refine ⟨_, call_tuple_of, fun xs C vs μ F H σ Q S r k => ?_⟩
  unfold oTuple at k
  split at k
  · obtain ⟨v, rfl, r1⟩ := reps1 r
    split at k
    · rename_i ds e
      obtain ⟨a, vs, rfl, rs, g⟩ := asT_rep S r1 e
      rcases g with g | ⟨g, g2⟩
      · exact ⟨a, vs, rfl, .inl ⟨g, fun p hp => kd_mkT S hp rs k⟩⟩
      · exact ⟨a, vs, rfl, .inr ⟨g, kd_ret S (.tup g2 rs) k⟩⟩
    · exact k.elim
  · exact k.elim

/-! ### ranges as lists, as tuples -/
def rg (a b : Int) : List D := (List.range (b - a).toNat).map fun (i : Nat) => D.int (a + (i : Nat))
theorem reps_rg {K : PySem.W.Frag} {μ : List Addr} {F : Hp} (a b : Int) : Reps K μ F (rgV a b) (rg a b) := by
  unfold rgV rg
  induction List.range (b - a).toNat with
  | nil => exact .nil
  | cons n ns ih => exact .cons (.int _) ih
instance (a b : Int) : Decidable (RgOk a b) := by unfold RgOk; infer_instance
def RG (K : PySem.W.Frag) (mg : Str → Option Value) (W : WX) (f : Rho → Cells → Res (Int × Int)) : L2.St → Hp → (Int → Int → Hp → Prop) → Prop := fun σ H Q => ∃ ρ C μ F, Sim K μ F C H ∧ ERel K μ F ρ σ ∧ kd (fun _ _ (v : Int × Int) d => v = d) K mg W (f ρ C) μ F σ H (fun p H' => Q p.1 p.2 H')
abbrev BRg (X : Cx) (W : WX) (e : Expr) (f : Rho → Cells → Res (Int × Int)) : Prop := PRg X e (RG X.K X.mg W f)
def rg1 (f : Rho → Cells → Res D) : Rho → Cells → Res (Int × Int) := fun ρ C => (f ρ C).bind fun x C1 => match x with
  | .int j => .ok (0, j) C1
  | _ => .stuck
def rg2 (f g : Rho → Cells → Res D) : Rho → Cells → Res (Int × Int) := fun ρ C => (f ρ C).bind fun x C1 => (g ρ C1).bind fun y C2 => match x, y with
  | .int i, .int j => .ok (i, j) C2
  | _, _ => .stuck
variable {a b e : Expr} {f g : Rho → Cells → Res D} {fr : Rho → Cells → Res (Int × Int)} {p pos : Pos}
theorem prgI {t t' : L2.St → Hp → (Int → Int → Hp → Prop) → Prop} (h : PRg X e t) (k : ∀ σ H Q, t' σ H Q → t σ H Q) : PRg X e t' := fun pins s σ H R I q => h pins s σ H R I (k σ H R q)
theorem brg1 (hg : Gl X "range") (hm : X.mg "range" = none) (ha : BE X W a f) (na : starEach [a] X.env = (false, eval a X.env) :: starEach [] X.env := by rfl) : BRg X W (.Call (.Name "range" p) [a] [] pos) (rg1 f) := by
  refine prgI (prg_1 hg hm ha na) ?_
  rintro σ H Q ⟨ρ, C, μ, F, S, E, k⟩
  refine ⟨ρ, C, μ, F, S, E, kd_bind k fun d C1 v μ1 F1 H1 x1 s1 r1 h1 => ?_⟩
  cases d with
  | int j =>
    cases r1
    exact ⟨j, rfl, kd_ret (v := ((0 : Int), j)) s1 rfl h1⟩
  | _ => exact False.elim h1
theorem brg2 (hg : Gl X "range") (hm : X.mg "range" = none) (ha : BE X W a f) (hb : BE X W b g) (na : starEach [a, b] X.env = (false, eval a X.env) :: starEach [b] X.env := by rfl)
    (nb : starEach [b] X.env = (false, eval b X.env) :: starEach [] X.env := by rfl) (hp : (backTo pos (starEach [b] X.env)).any (·.1) = false := by rfl) : BRg X W (.Call (.Name "range" p) [a, b] [] pos) (rg2 f g) := by
  refine prgI (prg_2 hg hm ha hb na nb hp) ?_
  rintro σ H Q ⟨ρ, C, μ, F, S, E, k⟩
  refine ⟨ρ, C, μ, F, S, E, kd_bind k fun d C1 v μ1 F1 H1 x1 s1 r1 h1 => ?_⟩
  refine ⟨ρ, C1, μ1, F1, s1, x1.env E, kd_bind h1 fun d2 C2 v2 μ2 F2 H2 x2 s2 r2 h2 => ?_⟩
  cases d with
  | int i =>
    cases r1
    cases d2 with
    | int j =>
      cases r2
      exact ⟨i, j, rfl, rfl, kd_ret (v := (i, j)) s2 rfl h2⟩
    | _ => exact False.elim h2
  | _ => exact False.elim h2
def lstRg (m : Bool) (fr : Rho → Cells → Res (Int × Int)) : Rho → Cells → Res D := fun ρ C => (fr ρ C).bind fun p C1 => if RgOk p.1 p.2 then mkL m (rg p.1 p.2) C1 else .stuck
def tupRg (fr : Rho → Cells → Res (Int × Int)) : Rho → Cells → Res D := fun ρ C => (fr ρ C).bind fun p C1 => if RgOk p.1 p.2 then .ok (.tup (rg p.1 p.2)) C1 else .stuck
theorem be_lstRg (m : Bool) (hc : X.calm = true) (hg : Gl X "list") (hm : X.mg "list" = none) (he : BRg X W e fr) (na : starEach [e] X.env = (false, eval e X.env) :: starEach [] X.env := by rfl) : BE X W (.Call (.Name "list" p) [e] [] pos) (lstRg m fr) := by
  refine peI (pe_listRg hc hg hm he na) ?_
  rintro σ H Q ⟨ρ, C, μ, F, S, E, k⟩
  refine ⟨ρ, C, μ, F, S, E, kd_bind k fun d C1 v μ1 F1 H1 x1 s1 r1 h1 => ?_⟩
  cases r1
  split at h1
  · rename_i z
    exact ⟨z, fun q hq => kd_mkL s1 hq (reps_rg _ _) h1⟩
  · exact h1.elim
theorem be_tupRg (hc : X.calm = true) (hg : Gl X "tuple") (hm : X.mg "tuple" = none) (he : BRg X W e fr) (na : starEach [e] X.env = (false, eval e X.env) :: starEach [] X.env := by rfl) : BE X W (.Call (.Name "tuple" p) [e] [] pos) (tupRg fr) := by
  refine peI (pe_tupRg hc hg hm he na) ?_
  rintro σ H Q ⟨ρ, C, μ, F, S, E, k⟩
  refine ⟨ρ, C, μ, F, S, E, kd_bind k fun d C1 v μ1 F1 H1 x1 s1 r1 h1 => ?_⟩
  cases r1
  split at h1
  · rename_i z
    exact ⟨z, fun q hq => kd_mkT s1 hq (reps_rg _ _) h1⟩
  · exact h1.elim

/-! ### slices -/
def cut {α : Type} (xs : List α) (lo hi : Option Int) : List α := (xs.drop (HT.sIx xs.length 0 lo)).take (HT.sIx xs.length xs.length hi - HT.sIx xs.length 0 lo)
theorem Reps.cut {K : PySem.W.Frag} {μ : List Addr} {F : Hp} {vs : List V} {ds : List D} (r : Reps K μ F vs ds) (lo hi : Option Int) : Reps K μ F (cutV vs lo hi) (BV.cut ds lo hi) := by
  unfold cutV BV.cut
  rw [r.length]
  exact (r.drop _).take _
def RO (K : PySem.W.Frag) (mg : Str → Option Value) (W : WX) (f : Rho → Cells → Res (Option Int)) : TO := fun σ H Q => ∃ ρ C μ F, Sim K μ F C H ∧ ERel K μ F ρ σ ∧ kd (fun _ _ (v : Option Int) d => v = d) K mg W (f ρ C) μ F σ H Q
abbrev BO (X : Cx) (W : WX) (e : Option Expr) (f : Rho → Cells → Res (Option Int)) : Prop := PO X e (RO X.K X.mg W f)
theorem poI {e : Option Expr} {t t' : TO} (h : PO X e t) (k : ∀ σ H Q, t' σ H Q → t σ H Q) : PO X e t' := ⟨fun pins s σ H Q I q => h.run pins s σ H Q I (k σ H Q q)⟩
def pNo : Rho → Cells → Res (Option Int) := fun _ C => .ok none C
def pSo (f : Rho → Cells → Res D) : Rho → Cells → Res (Option Int) := fun ρ C => (f ρ C).bind fun x C1 => match x with
  | .int i => .ok (some i) C1
  | _ => .stuck
theorem bo_none : BO X W none pNo := by
  refine poI po_none ?_
  rintro σ H Q ⟨ρ, C, μ, F, S, E, k⟩
  exact kd_ret S rfl k
theorem bo_some (h : BE X W e f) : BO X W (some e) (pSo f) := by
  refine poI (po_some h) ?_
  rintro σ H Q ⟨ρ, C, μ, F, S, E, k⟩
  refine ⟨ρ, C, μ, F, S, E, kd_bind k fun d C1 v μ1 F1 H1 x1 s1 r1 h1 => ?_⟩
  cases d with
  | int i =>
    cases r1
    exact ⟨i, rfl, kd_ret (v := some i) s1 rfl h1⟩
  | _ => exact False.elim h1
def slD (m : Bool) (x : D) (lo hi : Option Int) (C : Cells) : Res D := match x with
  | .tup ds => .ok (.tup (cut ds lo hi)) C
  | x => match asL x C with
    | some ds => mkL m (cut ds lo hi) C
    | none => .stuck
def fSl (m : Bool) (f : Rho → Cells → Res D) (l h : Rho → Cells → Res (Option Int)) : Rho → Cells → Res D := fun ρ C => (f ρ C).bind fun x C1 => (l ρ C1).bind fun lo C2 => (h ρ C2).bind fun hi C3 => slD m x lo hi C3
theorem cut_whole {ds : List D} {lo hi : Option Int} (h : HT.sIx ds.length 0 lo = 0 ∧ HT.sIx ds.length ds.length hi = ds.length) : cut ds lo hi = ds := by
  unfold cut
  rw [h.1, h.2]
  simp
variable {lo hi : Option Expr} {fl fh : Rho → Cells → Res (Option Int)} {p2 : Pos}
theorem be_sl (m : Bool) (he : BE X W e f) (hl : BO X W lo fl) (hh : BO X W hi fh) : BE X W (.Subscript e (.Slice lo hi none p2) pos) (fSl m f fl fh) := by
  refine peI (pe_slice (sl_tupA.or sl_list) he hl hh) ?_
  rintro σ H Q ⟨ρ, C, μ, F, S, E, k⟩
  refine ⟨ρ, C, μ, F, S, E, kd_bind k fun d C1 v μ1 F1 H1 x1 s1 r1 h1 => ?_⟩
  refine ⟨ρ, C1, μ1, F1, s1, x1.env E, kd_bind h1 fun l C2 v2 μ2 F2 H2 x2 s2 r2 h2 => ?_⟩
  refine ⟨ρ, C2, μ2, F2, s2, x2.env (x1.env E), kd_bind h2 fun h C3 v3 μ3 F3 H3 x3 s3 r3 h3 => ?_⟩
  cases r2
  cases r3
  have r := x3.rep (x2.rep r1)
  unfold slD at h3
  split at h3
  · cases r with
    | tup a b =>
      refine .inl ⟨_, _, rfl, sameT s3.sub a, fun z => ?_, fun _ p hp => kd_mkT s3 hp (b.cut _ _) h3⟩
      rw [b.length] at z
      rw [cut_whole z] at h3
      exact kd_ret s3 (.tup a b) h3
  · split at h3
    · rename_i ds e
      obtain ⟨a, vs, rfl, g, rs⟩ := asL_rep s3 r e
      exact .inr ⟨a, vs, rfl, SqL.of g, fun p hp => kd_mkL s3 hp (rs.cut _ _) h3⟩
    · exact h3.elim

/-! ### isinstance with built-in types -/
def tyD (d : D) (C : Cells) : Option String := match d with
  | .non => some "NoneType"
  | .bl _ => some "bool"
  | .int _ => some "int"
  | .str _ => some "str"
  | .tup _ => some "tuple"
  | .ftp _ => some "tuple"
  | .lst _ => some "list"
  | .scr _ => some "list"
  | .cel k => match C[k]? with
    | some (.lst _) => some "list"
    | _ => none
def isTy (t c : String) : Bool := t == c || (t == "bool" && c == "int")
def isiD (cs : List String) (d : D) (C : Cells) : Res D := match tyD d C with
  | some t => .ok (.bl (cs.any fun c => isTy t c)) C
  | none => .stuck
def tyNames : List String := ["NoneType", "bool", "int", "str", "tuple", "list"]
def clNames : List String := ["bool", "int", "str", "tuple", "list"]
theorem kit_ty (K : PySem.W.Frag) : ∀ t ∈ tyNames, ∀ c ∈ clNames, PySem.W.kitOne K (.type t) (.type c) = some (isTy t c) := by
  intro t ht c hc
  simp only [tyNames, clNames, List.mem_cons, List.not_mem_nil, or_false] at ht hc
  rcases ht with rfl | rfl | rfl | rfl | rfl | rfl <;> rcases hc with rfl | rfl | rfl | rfl | rfl <;> rfl
theorem tyD_rep {K : PySem.W.Frag} {μ : List Addr} {F H : Hp} {C : Cells} {v : V} {d : D} {t : String} (S : Sim K μ F C H) (r : Rep K μ F v d) (h : tyD d C = some t) : TyX K H v (.type t) ∧ t ∈ tyNames := by
  cases r with
  | non => cases h; exact ⟨.base .non, by decide⟩
  | bl b => cases h; exact ⟨.base (.bl b), by decide⟩
  | int b => cases h; exact ⟨.base (.int b), by decide⟩
  | str b => cases h; exact ⟨.base (.str b), by decide⟩
  | lst a b => cases h; exact ⟨.base (.lst (S.sub _ _ a)), by decide⟩
  | tup a b =>
    cases h
    refine ⟨?_, by decide⟩
    rcases sameT S.sub a with (q | ⟨o, q⟩) | ⟨o, its, n, q1, q2, _⟩
    · exact .base (.tup q)
    · exact .fTuple q
    · exact .kTuple q1 q2
  | ftp a b c d =>
    cases h
    exact ⟨.fTuple (S.sub _ _ a), by decide⟩
  | scr a =>
    cases h
    refine ⟨?_, by decide⟩
    rcases S.sub.seq a with (q | ⟨o, q⟩) | ⟨o, its, n, q1, q2, _⟩
    · exact .base (.lst q)
    · exact .base (.frz q)
    · exact .kList q1 q2
  | cel a =>
    rename_i a' k
    simp only [tyD] at h
    split at h
    · rename_i ds' e
      cases h
      obtain ⟨_, vs, g, r⟩ := S.cel k _ _ e a
      exact ⟨.base (.lst g), by decide⟩
    · cases h
variable {c c2 : String} {tx : Expr} {x : Str}
theorem be_isi1 (hc : c ∈ clNames) (hg : Gl X "isinstance") (hm : X.mg "isinstance" = none) (he : BE X W e f) (hx : PE X tx (tC (.ty c)))
    (n1 : starEach [e, tx] X.env = (false, eval e X.env) :: starEach [tx] X.env := by rfl) (n2 : starEach [tx] X.env = (false, eval tx X.env) :: starEach [] X.env := by rfl) (hpl : (backTo pos (starEach [tx] X.env)).any (·.1) = false := by rfl) :
    BE X W (.Call (.Name "isinstance" p) [e, tx] [] pos) (f1 (isiD [c]) f) := by
  refine peI (pe_callB call_isi hg hm (by decide +kernel) (pa_cons he (pa_cons hx pa_nil n2) n1) (he := n1) (hpl := hpl)) ?_
  rintro σ H Q ⟨ρ, C, μ, F, S, E, k⟩
  refine ⟨ρ, C, μ, F, S, E, kd_bind k fun d C1 v μ1 F1 H1 x1 s1 r1 h1 => ?_⟩
  unfold isiD at h1
  split at h1
  · rename_i t e1
    obtain ⟨q1, q2⟩ := tyD_rep s1 r1 e1
    refine ⟨v, .ty c, .type t, .type c, _, rfl, .ty c, q1, kit_ty _ t q2 c hc, ?_⟩
    simp only [List.any_cons, List.any_nil, Bool.or_false] at h1
    exact kd_ret s1 (.bl _) h1
  · exact h1.elim
end
end BV
namespace BV
open PySem PySem.Spec PyProof.Rows L2

/-! ### what a statement ends in -/
inductive Out where
  | nx (ρ : Rho) (C : Cells) | rt (d : D) (C : Cells) | bk (ρ : Rho) (C : Cells) | ct (ρ : Rho) (C : Cells) | ex (c : Str) (p : D) (ρ : Rho) (C : Cells) | stuck
def Res.out {α : Type} (r : Res α) (ρ : Rho) (g : α → Cells → Out) : Out := match r with
  | .ok a C => g a C
  | .ex c p C => .ex c p ρ C
  | .stuck => .stuck
@[simp] theorem Res.out_ok {α : Type} (a : α) (C : Cells) (ρ : Rho) (g : α → Cells → Out) : (Res.ok a C).out ρ g = g a C := rfl
@[simp] theorem Res.out_ex {α : Type} (c : Str) (p : D) (C : Cells) (ρ : Rho) (g : α → Cells → Out) : (Res.ex c p C : Res α).out ρ g = .ex c p ρ C := rfl
@[simp] theorem Res.out_stuck {α : Type} (ρ : Rho) (g : α → Cells → Out) : (Res.stuck : Res α).out ρ g = .stuck := rfl
def sd (K : PySem.W.Frag) (mg : Str → Option Value) (W : WX) (o : Out) (D : Ends) (μ : List Addr) (F H : Hp) : Prop := match o with
  | .nx ρ C => ∀ σ μ' F' H', Ext μ F H μ' F' H' → Sim K μ' F' C H' → ERel K μ' F' ρ σ → D.nx σ H'
  | .rt d C => ∀ v μ' F' H', Ext μ F H μ' F' H' → Sim K μ' F' C H' → Rep K μ' F' v d → D.rt v H'
  | .bk ρ C => ∀ σ μ' F' H', Ext μ F H μ' F' H' → Sim K μ' F' C H' → ERel K μ' F' ρ σ → D.bk σ H'
  | .ct ρ C => ∀ σ μ' F' H', Ext μ F H μ' F' H' → Sim K μ' F' C H' → ERel K μ' F' ρ σ → D.ct σ H'
  | .ex c p ρ C => ∀ cls dx σ μ' F' H', Ext μ F H μ' F' H' → Sim K μ' F' C H' → ERel K μ' F' ρ σ → XRep K mg μ' F' H' c p cls dx → W cls dx σ H'
  | .stuck => False
def rS (K : PySem.W.Frag) (mg : Str → Option Value) (W : WX) (f : Rho → Cells → Out) : TS := fun D σ H => ∃ ρ C μ F, Sim K μ F C H ∧ ERel K μ F ρ σ ∧ sd K mg W (f ρ C) D μ F H
abbrev BS (X : Cx) (W : WX) (st : Stmt) (f : Rho → Cells → Out) : Prop := PS X st (rS X.K X.mg W f)
abbrev BSs (X : Cx) (W : WX) (st : List Stmt) (f : Rho → Cells → Out) : Prop := PSs X st (rS X.K X.mg W f)
theorem psI {X : Cx} {e : Stmt} {t t' : TS} (h : PS X e t) (k : ∀ D σ H, t' D σ H → t D σ H) : PS X e t' := ⟨fun pins s σ H D I q => h.run pins s σ H D I (k D σ H q)⟩
theorem pssI {X : Cx} {e : List Stmt} {t t' : TS} (h : PSs X e t) (k : ∀ D σ H, t' D σ H → t D σ H) : PSs X e t' := ⟨fun pins s σ H D I q => h.run pins s σ H D I (k D σ H q)⟩
section
variable {α β : Type} {R : RR α β} {K : PySem.W.Frag} {mg : Str → Option Value} {W : WX} {μ μ' : List Addr} {F F' H H' : Hp} {C C' : Cells} {ρ : Rho} {σ : L2.St} {D : Ends} {o : Out}
theorem sd_mono (x : Ext μ F H μ' F' H') (h : sd K mg W o D μ F H) : sd K mg W o D μ' F' H' := by
  cases o with
  | nx ρ C => exact fun σ μ2 F2 H2 x2 => h σ μ2 F2 H2 (x.trans x2)
  | rt d C => exact fun σ μ2 F2 H2 x2 => h σ μ2 F2 H2 (x.trans x2)
  | bk ρ C => exact fun σ μ2 F2 H2 x2 => h σ μ2 F2 H2 (x.trans x2)
  | ct ρ C => exact fun σ μ2 F2 H2 x2 => h σ μ2 F2 H2 (x.trans x2)
  | ex c p ρ C => exact fun cls dx σ μ2 F2 H2 x2 => h cls dx σ μ2 F2 H2 (x.trans x2)
  | stuck => exact h
theorem sd_bind {r : Res α} {g : α → Cells → Out} {k : β → Hp → Prop} (E : ERel K μ F ρ σ) (h : sd K mg W (r.out ρ g) D μ F H)
    (hk : ∀ d C1 v μ1 F1 H1, Ext μ F H μ1 F1 H1 → Sim K μ1 F1 C1 H1 → R μ1 F1 v d → sd K mg W (g d C1) D μ1 F1 H1 → k v H1) : kd R K mg W r μ F σ H k := by
  cases r with
  | ok d C1 => exact fun v μ1 F1 H1 x1 s1 r1 => hk d C1 v μ1 F1 H1 x1 s1 r1 (sd_mono x1 h)
  | ex c p C1 => exact fun cls dx μ1 F1 H1 x1 s1 r1 => h cls dx σ μ1 F1 H1 x1 s1 (x1.env E) r1
  | stuck => exact h
theorem sd_nx (S : Sim K μ F C H) (E : ERel K μ F ρ σ) (h : sd K mg W (.nx ρ C) D μ F H) : D.nx σ H := h σ μ F H .refl S E
/-- one out behind another -/
def Out.then_ (o : Out) (k : Rho → Cells → Out) : Out := match o with
  | .nx ρ C => k ρ C
  | o => o
@[simp] theorem Out.then_nx (ρ : Rho) (C : Cells) (k : Rho → Cells → Out) : (Out.nx ρ C).then_ k = k ρ C := rfl
@[simp] theorem Out.then_rt (d : BV.D) (C : Cells) (k : Rho → Cells → Out) : (Out.rt d C).then_ k = .rt d C := rfl
@[simp] theorem Out.then_bk (ρ : Rho) (C : Cells) (k : Rho → Cells → Out) : (Out.bk ρ C).then_ k = .bk ρ C := rfl
@[simp] theorem Out.then_ct (ρ : Rho) (C : Cells) (k : Rho → Cells → Out) : (Out.ct ρ C).then_ k = .ct ρ C := rfl
@[simp] theorem Out.then_ex (c : Str) (p : BV.D) (ρ : Rho) (C : Cells) (k : Rho → Cells → Out) : (Out.ex c p ρ C).then_ k = .ex c p ρ C := rfl
@[simp] theorem Out.then_stuck (k : Rho → Cells → Out) : Out.stuck.then_ k = .stuck := rfl
theorem sd_then {k : Rho → Cells → Out} (h : sd K mg W (o.then_ k) D μ F H) : sd K mg W o { D with nx := rS K mg W k D } μ F H := by
  cases o with
  | nx ρ C => exact fun σ μ2 F2 H2 x2 s2 e2 => ⟨ρ, C, μ2, F2, s2, e2, sd_mono x2 h⟩
  | rt d C => exact h
  | bk ρ C => exact h
  | ct ρ C => exact h
  | ex c p ρ C => exact h
  | stuck => exact h
end

/-! ### statements -/
def sSeq (f g : Rho → Cells → Out) : Rho → Cells → Out := fun ρ C => (f ρ C).then_ g
def sNil : Rho → Cells → Out := fun ρ C => .nx ρ C
def sBk : Rho → Cells → Out := fun ρ C => .bk ρ C
def sCt : Rho → Cells → Out := fun ρ C => .ct ρ C
def sExpr (f : Rho → Cells → Res D) : Rho → Cells → Out := fun ρ C => (f ρ C).out ρ fun _ C1 => .nx ρ C1
def sRet (f : Rho → Cells → Res D) : Rho → Cells → Out := fun ρ C => (f ρ C).out ρ fun d C1 => .rt d C1
def sRetN : Rho → Cells → Out := fun _ C => .rt .non C
def sIf (t : Rho → Cells → Res D) (f g : Rho → Cells → Out) : Rho → Cells → Out := fun ρ C => (toB (t ρ C)).out ρ fun b C1 => if b then f ρ C1 else g ρ C1
def sNever : Rho → Cells → Out := fun _ _ => .stuck
def sSet (i : Nat) (f : Rho → Cells → Res D) : Rho → Cells → Out := fun ρ C => (f ρ C).out ρ fun d C1 => .nx (ρ.set i (some d)) C1
section
variable {X : Cx} {W : WX} {st : Stmt} {rest ss ss' : List Stmt} {e : Expr} {f g : Rho → Cells → Out} {fe ft : Rho → Cells → Res D} {pos : Pos}
theorem bss_nil : BSs X W [] sNil := by
  refine pssI pss_nil ?_
  rintro D σ H ⟨ρ, C, μ, F, S, E, k⟩
  exact sd_nx S E k
theorem bss_cons (h1 : BS X W st f) (h2 : BSs X W rest g) : BSs X W (st :: rest) (sSeq f g) := by
  refine pssI (pss_cons h1 h2) ?_
  rintro D σ H ⟨ρ, C, μ, F, S, E, k⟩
  exact ⟨ρ, C, μ, F, S, E, sd_then k⟩
theorem bss_one (h1 : BS X W st f) : BSs X W [st] f := pss_one h1
theorem bs_never : BS X W st sNever := by
  refine psI ps_never ?_
  rintro D σ H ⟨ρ, C, μ, F, S, E, k⟩
  exact k
theorem bs_pass : BS X W (.Pass pos) sNil := by
  refine psI ps_pass ?_
  rintro D σ H ⟨ρ, C, μ, F, S, E, k⟩
  exact sd_nx S E k
theorem bs_break : BS X W (.Break pos) sBk := by
  refine psI ps_break ?_
  rintro D σ H ⟨ρ, C, μ, F, S, E, k⟩
  exact k σ μ F H .refl S E
theorem bs_continue : BS X W (.Continue pos) sCt := by
  refine psI ps_continue ?_
  rintro D σ H ⟨ρ, C, μ, F, S, E, k⟩
  exact k σ μ F H .refl S E
theorem bs_expr (he : BE X W e fe) (hs : swapsWith e none pos.line X.env = pure false := by rfl) : BS X W (.Expr e pos) (sExpr fe) := by
  refine psI (ps_expr he hs) ?_
  rintro D σ H ⟨ρ, C, μ, F, S, E, k⟩
  exact ⟨ρ, C, μ, F, S, E, sd_bind E k fun d C1 v μ1 F1 H1 x1 s1 r1 h1 => sd_nx s1 (x1.env E) h1⟩
theorem bs_ret (he : BE X W e fe) : BS X W (.Return (some e) pos) (sRet fe) := by
  refine psI (ps_ret he) ?_
  rintro D σ H ⟨ρ, C, μ, F, S, E, k⟩
  exact ⟨ρ, C, μ, F, S, E, sd_bind E k fun d C1 v μ1 F1 H1 x1 s1 r1 h1 => h1 v μ1 F1 H1 .refl s1 r1⟩
theorem bs_retN : BS X W (.Return none pos) sRetN := by
  refine psI ps_retN ?_
  rintro D σ H ⟨ρ, C, μ, F, S, E, k⟩
  exact k _ μ F H .refl S .non
theorem bs_if (hc : BT X W e ft) (ha : BSs X W ss f) (hb : BSs X W ss' g) : BS X W (.If e ss ss' pos) (sIf ft f g) := by
  refine psI (ps_if hc ha hb) ?_
  rintro D σ H ⟨ρ, C, μ, F, S, E, k⟩
  refine ⟨ρ, C, μ, F, S, E, sd_bind (R := RB) E k fun b C1 v μ1 F1 H1 x1 s1 r1 h1 => ?_⟩
  subst r1
  cases v with
  | true => exact iteT ⟨ρ, C1, μ1, F1, s1, x1.env E, h1⟩
  | false => exact iteF ⟨ρ, C1, μ1, F1, s1, x1.env E, h1⟩
theorem bs_set {i : Nat} {x : Str} {pos' : Pos} (hN : X.N.Nodup) (hi : X.N[i]? = some x) (hx : Loc X.env.scope x) (he : BE X W e fe) (hs : swapsWith e (some (.Name x pos')) pos.line X.env = pure false := by rfl)
    (hf : X.fn x = true ∨ X.env.scope.names.lookup x = some .local := by first | exact .inl rfl | exact .inr rfl | assumption) : BS X W (.Assign [.Name x pos'] e pos) (sSet i fe) := by
  refine psI (ps_set hN hi hx he hs hf) ?_
  rintro D σ H ⟨ρ, C, μ, F, S, E, k⟩
  exact ⟨ρ, C, μ, F, S, E, sd_bind E k fun d C1 v μ1 F1 H1 x1 s1 r1 h1 => sd_nx s1 ((x1.env E).set r1) h1⟩

/-! ### targets -/
/-- what a target does with a datum: t the new slots; ns: the slots that it stores -/
def rG (K : PySem.W.Frag) (t : D → Rho → Option Rho) (ns : List Nat) : TG := fun v σ H Q => ∃ ρ C μ F d ρ', Sim K μ F C H ∧ ERel K μ F ρ σ ∧ Rep K μ F v d ∧ t d ρ = some ρ' ∧
  ∀ σ', ERel K μ F ρ' σ' → (∀ vs, (∀ i ∈ ns, i ∈ vs) → wipe σ' vs = wipe σ vs) → Q σ' H
def rGs (K : PySem.W.Frag) (t : List D → Rho → Option Rho) (ns : List Nat) : TGs := fun v σ H Q => ∃ ρ C μ F d ρ', Sim K μ F C H ∧ ERel K μ F ρ σ ∧ Reps K μ F v d ∧ t d ρ = some ρ' ∧
  ∀ σ', ERel K μ F ρ' σ' → (∀ vs, (∀ i ∈ ns, i ∈ vs) → wipe σ' vs = wipe σ vs) → Q σ' H
abbrev BG (X : Cx) (tg : Expr) (t : D → Rho → Option Rho) (ns : List Nat) : Prop := PG X tg (rG X.K t ns)
abbrev BGs (X : Cx) (tg : List Expr) (t : List D → Rho → Option Rho) (ns : List Nat) : Prop := PGs X tg (rGs X.K t ns)
theorem pgI {tg : Expr} {t t' : TG} (h : PG X tg t) (k : ∀ v σ H Q, t' v σ H Q → t v σ H Q) : PG X tg t' := ⟨fun pins s σ H v u Q I r q => h.run pins s σ H v u Q I r (k v σ H Q q)⟩
theorem pgsI {tg : List Expr} {t t' : TGs} (h : PGs X tg t) (k : ∀ v σ H Q, t' v σ H Q → t v σ H Q) : PGs X tg t' := ⟨fun pins s σ H v u Q I r q => h.run pins s σ H v u Q I r (k v σ H Q q)⟩
def tgN (i : Nat) (d : D) (ρ : Rho) : Option Rho := some (ρ.set i (some d))
theorem wipe_none {σ : L2.St} {i : Nat} : ∀ {vs : List Nat}, i ∈ vs → (wipe σ vs).set i none = wipe σ vs
  | [], h => nomatch h
  | v :: vs, h => by
    unfold wipe
    rcases List.mem_cons.mp h with e | h
    · subst e
      rw [List.set_set]
    · by_cases e : i = v
      · subst e
        rw [List.set_set]
      · rw [List.set_comm _ _ (Ne.symm e), wipe_none h]
theorem wipe_set {σ : L2.St} {i : Nat} {o : Option V} : ∀ {vs : List Nat}, i ∈ vs → wipe (σ.set i o) vs = wipe σ vs
  | [], h => nomatch h
  | v :: vs, h => by
    have key : ∀ ws : List Nat, (wipe (σ.set i o) ws).set i none = (wipe σ ws).set i none := by
      intro ws
      induction ws with
      | nil => simp [wipe, List.set_set]
      | cons w ws ih =>
        simp only [wipe]
        by_cases e : w = i
        · subst e
          rw [List.set_set, List.set_set]
          exact ih
        · rw [List.set_comm _ _ e, ih, List.set_comm _ _ (Ne.symm e)]
    unfold wipe
    rcases List.mem_cons.mp h with e | h
    · subst e
      exact key vs
    · rw [wipe_set h]
theorem bg_name {i : Nat} {x : Str} {p : Pos} (h : PG X (.Name x p) (gName i)) : BG X (.Name x p) (tgN i) [i] := by
  refine pgI h ?_
  rintro v σ H Q ⟨ρ, C, μ, F, d, ρ', S, E, r, e, k⟩
  cases e
  exact k _ (E.set r) fun vs hv => wipe_set (hv i (by simp))
def tgNil (ds : List D) (ρ : Rho) : Option Rho := match ds with
  | [] => some ρ
  | _ => none
def tgCons (t : D → Rho → Option Rho) (ts : List D → Rho → Option Rho) (ds : List D) (ρ : Rho) : Option Rho := match ds with
  | d :: r => (t d ρ).bind fun ρ1 => ts r ρ1
  | [] => none
def tgT (n : Nat) (ts : List D → Rho → Option Rho) (d : D) (ρ : Rho) : Option Rho := match d with
  | .tup ds => if ds.length = n then ts ds ρ else none
  | .lst ds => if ds.length = n then ts ds ρ else none
  | _ => none
theorem bgs_nil : BGs X [] tgNil [] := by
  refine pgsI pgs_nil ?_
  rintro v σ H Q ⟨ρ, C, μ, F, d, ρ', S, E, r, e, k⟩
  unfold tgNil at e
  split at e
  · cases e
    cases r
    exact ⟨rfl, k σ E fun _ _ => rfl⟩
  · cases e
theorem bgs_cons {x : Expr} {xs : List Expr} {t : D → Rho → Option Rho} {ts : List D → Rho → Option Rho} {n1 n2 : List Nat} (h1 : BG X x t n1) (h2 : BGs X xs ts n2)
    (hs : (assignEach (x :: xs) X.env).map (·.2) = assign x X.env :: (assignEach xs X.env).map (·.2) := by rfl) : BGs X (x :: xs) (tgCons t ts) (n1 ++ n2) := by
  refine pgsI (pgs_cons h1 h2 hs) ?_
  rintro v σ H Q ⟨ρ, C, μ, F, d, ρ', S, E, r, e, k⟩
  unfold tgCons at e
  split at e
  · simp only [Option.bind_eq_some_iff] at e
    obtain ⟨ρ1, e1, e2⟩ := e
    cases r with
    | cons a b =>
      refine ⟨_, _, rfl, ρ, C, μ, F, _, ρ1, S, E, a, e1, fun σ1 E1 w1 => ⟨ρ1, C, μ, F, _, ρ', S, E1, b, e2, fun σ2 E2 w2 => k σ2 E2 fun vs hv => ?_⟩⟩
      rw [w2 vs fun i hi => hv i (List.mem_append_right _ hi), w1 vs fun i hi => hv i (List.mem_append_left _ hi)]
  · cases e
theorem bg_tup {es : List Expr} {j : Nat} {p : Pos} {ts : List D → Rho → Option Rho} {n : Nat} {ns : List Nat} (hc : X.calm = true) (h : BGs X es ts ns) (hn : (assignEach es X.env).length = n := by rfl) (hst : (assignEach es X.env).findIdx? (·.1) = none := by rfl) :
    BG X (.Tuple es j p) (tgT n ts) ns := by
  have one : PG X (.Tuple es j p) (fun v σ H Q => gTup X.K n (rGs X.K ts ns) v σ H Q ∨ gLst X.K n (rGs X.K ts ns) v σ H Q) :=
    ⟨fun pins s σ H v u Q I r q => q.elim ((pg_tup hc h hn hst).run pins s σ H v u Q I r) ((pg_lst hc h hn hst).run pins s σ H v u Q I r)⟩
  refine pgI one ?_
  rintro v σ H Q ⟨ρ, C, μ, F, d, ρ', S, E, r, e, k⟩
  unfold tgT at e
  split at e
  · split at e
    · rename_i z
      cases r with
      | tup a b =>
        rw [← b.length] at z
        exact .inl ⟨_, _, rfl, sameT S.sub a, z, ρ, C, μ, F, _, ρ', S, E, b, e, k⟩
    · cases e
  · split at e
    · rename_i z
      cases r with
      | lst a b =>
        rw [← b.length] at z
        exact .inr ⟨_, _, rfl, SqL.of (S.sub _ _ a), z, ρ, C, μ, F, _, ρ', S, E, b, e, k⟩
    · cases e
  · cases e
def sAsg (f : Rho → Cells → Res D) (t : D → Rho → Option Rho) : Rho → Cells → Out := fun ρ C => (f ρ C).out ρ fun d C1 => match t d ρ with
  | some ρ' => .nx ρ' C1
  | none => .stuck
theorem bs_asg {tg : Expr} {t : D → Rho → Option Rho} {ns : List Nat} (he : BE X W e fe) (hg : BG X tg t ns) (hs : swapsWithSole [tg] e pos.line X.env = pure false := by rfl) (hw : swappedStores [tg] e X.env = pure none := by rfl)
    (h1 : (assignEach [tg] X.env).map (·.2) = [assign tg X.env] := by rfl) : BS X W (.Assign [tg] e pos) (sAsg fe t) := by
  refine psI (ps_asg he hg hs hw h1) ?_
  rintro D σ H ⟨ρ, C, μ, F, S, E, k⟩
  refine ⟨ρ, C, μ, F, S, E, sd_bind E k fun d C1 v μ1 F1 H1 x1 s1 r1 h1 => ?_⟩
  split at h1
  · rename_i ρ' e1
    exact ⟨ρ, C1, μ1, F1, d, ρ', s1, x1.env E, r1, e1, fun σ' E' _ => sd_nx s1 E' h1⟩
  · exact h1.elim
def sPar (i j : Nat) (fs : Rho → Cells → Res (List BV.D)) : Rho → Cells → Out := fun ρ C => (fs ρ C).out ρ fun ds C1 => match ds with
  | [x, y] => .nx ((ρ.set i (some x)).set j (some y)) C1
  | _ => .stuck
theorem bs_par {i j : Nat} {x y : Str} {a b : Expr} {fs : Rho → Cells → Res (List D)} {px py pt : Pos} {kt k2 pt2} (hc : X.calm = true) (hN : X.N.Nodup) (hi : X.N[i]? = some x) (hj : X.N[j]? = some y) (hij : i ≠ j)
    (hx : X.env.scope.names.lookup x = some .local) (hy : X.env.scope.names.lookup y = some .local) (ha : BA X W [a, b] fs)
    (hw : swappedStores [.Tuple [.Name x px, .Name y py] kt pt] (.Tuple [a, b] k2 pt2) X.env = pure (some [x, y]))
    (hs : swapsWithSole [.Tuple [.Name x px, .Name y py] kt pt] (.Tuple [a, b] k2 pt2) pos.line X.env = pure false := by rfl) : BS X W (.Assign [.Tuple [.Name x px, .Name y py] kt pt] (.Tuple [a, b] k2 pt2) pos) (sPar i j fs) := by
  refine psI (ps_par hc hN hi hj hij hx hy ha hw hs) ?_
  rintro D σ H ⟨ρ, C, μ, F, S, E, k⟩
  refine ⟨ρ, C, μ, F, S, E, sd_bind E k fun d C1 v μ1 F1 H1 x1 s1 r1 h1 => ?_⟩
  split at h1
  · obtain ⟨v1, v2, rfl, q1, q2⟩ := reps2 r1
    exact ⟨v1, v2, rfl, sd_nx s1 (((x1.env E).set q1).set q2) h1⟩
  · exact h1.elim
def sPar3 (i j l : Nat) (fs : Rho → Cells → Res (List BV.D)) : Rho → Cells → Out := fun ρ C => (fs ρ C).out ρ fun ds C1 => match ds with
  | [x, y, z] => .nx (((ρ.set i (some x)).set j (some y)).set l (some z)) C1
  | _ => .stuck
theorem bs_par3 {i j l : Nat} {x y z : Str} {a b c : Expr} {fs : Rho → Cells → Res (List D)} {px py pz pt : Pos} {kt k2 pt2} (h : PS X (.Assign [.Tuple [.Name x px, .Name y py, .Name z pz] kt pt] (.Tuple [a, b, c] k2 pt2) pos) (tPar3 i j l (rA X.K X.mg W fs))) :
    BS X W (.Assign [.Tuple [.Name x px, .Name y py, .Name z pz] kt pt] (.Tuple [a, b, c] k2 pt2) pos) (sPar3 i j l fs) := by
  refine psI h ?_
  rintro D σ H ⟨ρ, C, μ, F, S, E, k⟩
  refine ⟨ρ, C, μ, F, S, E, sd_bind E k fun d C1 v μ1 F1 H1 x1 s1 r1 h1 => ?_⟩
  split at h1
  · cases r1 with
    | cons q1 r1 =>
      obtain ⟨v2, v3, rfl, q2, q3⟩ := reps2 r1
      exact ⟨_, v2, v3, rfl, sd_nx s1 ((((x1.env E).set q1).set q2).set q3) h1⟩
  · exact h1.elim
/-- xs[i] = v -/
def stoD (x i v : BV.D) (C : Cells) : Option Cells := match x, i with
  | .cel k, .int n => match C[k]? with
    | some (.lst ds) => match ixN ds.length n with
      | some j => some (C.set k (.lst (ds.set j v)))
      | none => none
    | _ => none
  | _, _ => none
def sSto (f fo fi : Rho → Cells → Res BV.D) : Rho → Cells → Out := fun ρ C => (f ρ C).out ρ fun v C1 => (fo ρ C1).out ρ fun x C2 => (fi ρ C2).out ρ fun i C3 => match stoD x i v C3 with
  | some C4 => .nx ρ C4
  | none => .stuck
theorem sto_rep {K : PySem.W.Frag} {μ : List Addr} {F H : Hp} {C C' : Cells} {x i v : D} {vx vi vv : V} (S : Sim K μ F C H) (rx : Rep K μ F vx x) (ri : Rep K μ F vi i) (rv : Rep K μ F vv v) (e : stoD x i v C = some C') :
    ∃ p xs k j, vx = .ref p ∧ vi = .int k ∧ H p = some (.lst xs) ∧ ixN xs.length k = some j ∧ Sim K μ F C' (upd H p (.lst (xs.set j vv))) ∧ Ext μ F H μ F (upd H p (.lst (xs.set j vv))) := by
  unfold stoD at e
  split at e
  · split at e
    · rename_i ds hk
      split at e
      · rename_i j hj
        cases e
        cases rx with
        | cel a =>
          cases ri
          obtain ⟨f, vs, g, r⟩ := S.cel _ _ _ hk a
          rw [← r.length] at hj
          obtain ⟨S1, X1⟩ := S.write hk a (r.set rv j)
          exact ⟨_, vs, _, j, rfl, rfl, g, hj, S1, X1⟩
      · cases e
    · cases e
  · cases e
theorem bs_sto {o i : Expr} {p2 : Pos} {fo fi : Rho → Cells → Res D} (hv : BE X W e fe) (ho : BE X W o fo) (hi : BE X W i fi)
    (ha : ∀ v, assign (.Subscript o i p2) X.env v = (do
      let ov ← holding [v] (eval o X.env)
      let iv ← holding [v, ov] (eval i X.env)
      standAt p2
      holding [v, ov, iv] (setItem ov iv v)
      release [v, ov, iv] []) := by intro _; rfl)
    (hs : swapsWithSole [.Subscript o i p2] e pos.line X.env = pure false := by rfl) (hw : swappedStores [.Subscript o i p2] e X.env = pure none := by rfl)
    (h1 : (assignEach [.Subscript o i p2] X.env).map (·.2) = [assign (.Subscript o i p2) X.env] := by rfl) : BS X W (.Assign [.Subscript o i p2] e pos) (sSto fe fo fi) := by
  refine psI (ps_asg hv (pg_sub ho hi set_list ha) hs hw h1) ?_
  rintro D σ H ⟨ρ, C, μ, F, S, E, k⟩
  refine ⟨ρ, C, μ, F, S, E, sd_bind E k fun d C1 v μ1 F1 H1 x1 s1 r1 h1 => ?_⟩
  refine ⟨ρ, C1, μ1, F1, s1, x1.env E, sd_bind (x1.env E) h1 fun d2 C2 v2 μ2 F2 H2 x2 s2 r2 h2 => ?_⟩
  refine ⟨ρ, C2, μ2, F2, s2, x2.env (x1.env E), sd_bind (x2.env (x1.env E)) h2 fun d3 C3 v3 μ3 F3 H3 x3 s3 r3 h3 => ?_⟩
  split at h3
  · rename_i C4 e4
    obtain ⟨p, xs, k', j, q1, q2, q3, q4, S4, X4⟩ := sto_rep s3 (x3.rep r2) r3 (x3.rep (x2.rep r1)) e4
    exact ⟨p, xs, k', j, q1, q2, q3, q4, h3 σ μ3 F3 _ X4 S4 (X4.env (x3.env (x2.env (x1.env E))))⟩
  · exact h3.elim

/-! ### methods of lists -/
def fMt1 (o : BV.D → BV.D → Cells → Res BV.D) (f g : Rho → Cells → Res BV.D) : Rho → Cells → Res BV.D := fun ρ C => (f ρ C).bind fun x C1 => match asL x C1 with
  | some _ => (g ρ C1).bind fun v C2 => o x v C2
  | none => .stuck
theorem tyL {K : PySem.W.Frag} {μ : List Addr} {F H : Hp} {C : Cells} {x : BV.D} {v : V} {ds : List BV.D} (S : Sim K μ F C H) (r : Rep K μ F v x) (e : asL x C = some ds) : tyV K "list" v H := by
  obtain ⟨a, vs, rfl, g, _⟩ := asL_rep S r e
  exact .inl ⟨rfl, vs, SqL.of g⟩
def appD (x v : BV.D) (C : Cells) : Res BV.D := match x with
  | .cel k => match C[k]? with
    | some (.lst ds) => if ds.length < sizeLine then .ok .non (C.set k (.lst (ds ++ [v]))) else .stuck
    | _ => .stuck
  | _ => .stuck
def extD (x v : BV.D) (C : Cells) : Res BV.D := match x, asL v C with
  | .cel k, some es => match C[k]? with
    | some (.lst ds) => if ds.length + es.length ≤ sizeLine then .ok .non (C.set k (.lst (ds ++ es))) else .stuck
    | _ => .stuck
  | _, _ => .stuck
variable {a b : Expr} {fa fb : Rho → Cells → Res BV.D} {apos : Pos}
theorem be_app (ha : BE X W a fa) (hb : BE X W b fb) (h : ∀ {ta tb : TE}, PE X a ta → PE X b tb → PE X (.Call (.Attribute a "append" apos) [b] [] pos) (tBM X.K "list" rAppend ta (tCons tb tNil))) :
    BE X W (.Call (.Attribute a "append" apos) [b] [] pos) (fMt1 appD fa fb) := by
  refine peI (h ha hb) ?_
  rintro σ H Q ⟨ρ, C, μ, F, S, E, k⟩
  refine ⟨ρ, C, μ, F, S, E, kd_bind k fun d C1 v μ1 F1 H1 x1 s1 r1 h1 => ?_⟩
  split at h1
  · rename_i ds e1
    refine ⟨tyL s1 r1 e1, ρ, C1, μ1, F1, s1, x1.env E, kd_bind h1 fun d2 C2 v2 μ2 F2 H2 x2 s2 r2 h2 => ?_⟩
    unfold appD at h2
    split at h2
    · split at h2
      · rename_i ds' hk
        split at h2
        · rename_i z
          have r3 := x2.rep r1
          cases r3 with
          | cel a' =>
            obtain ⟨f', vs, g, r⟩ := s2.cel _ _ _ hk a'
            obtain ⟨S3, X3⟩ := s2.write hk a' (r.append (.cons r2 .nil))
            rw [← r.length] at z
            exact ⟨_, vs, v2, rfl, rfl, g, z, h2 _ _ _ _ X3 S3 .non⟩
        · exact h2.elim
      · exact h2.elim
    · exact h2.elim
  · exact h1.elim
theorem be_ext (ha : BE X W a fa) (hb : BE X W b fb) (h : ∀ {ta tb : TE}, PE X a ta → PE X b tb → PE X (.Call (.Attribute a "extend" apos) [b] [] pos) (tBM X.K "list" rExtend ta (tCons tb tNil))) :
    BE X W (.Call (.Attribute a "extend" apos) [b] [] pos) (fMt1 extD fa fb) := by
  refine peI (h ha hb) ?_
  rintro σ H Q ⟨ρ, C, μ, F, S, E, k⟩
  refine ⟨ρ, C, μ, F, S, E, kd_bind k fun d C1 v μ1 F1 H1 x1 s1 r1 h1 => ?_⟩
  split at h1
  · rename_i ds e1
    refine ⟨tyL s1 r1 e1, ρ, C1, μ1, F1, s1, x1.env E, kd_bind h1 fun d2 C2 v2 μ2 F2 H2 x2 s2 r2 h2 => ?_⟩
    unfold extD at h2
    split at h2
    · rename_i k' es e2
      split at h2
      · rename_i ds' hk
        split at h2
        · rename_i z
          have r3 := x2.rep r1
          obtain ⟨b', ws, rfl, g2, rs2⟩ := asL_rep s2 r2 e2
          cases r3 with
          | cel a' =>
            obtain ⟨f', vs, g, r⟩ := s2.cel _ _ _ hk a'
            obtain ⟨S3, X3⟩ := s2.write hk a' (r.append rs2)
            rw [← r.length, ← rs2.length] at z
            exact ⟨_, b', vs, ws, rfl, rfl, g, g2, z, h2 _ _ _ _ X3 S3 .non⟩
        · exact h2.elim
      · exact h2.elim
    · exact h2.elim
  · exact h1.elim
end
end BV
namespace BV
open PySem PySem.Spec PyProof.Rows L2

/-! ### what is walked -/
/-- the iterator J yields the data ds, one a turn, whatever else happens -/
structure WkD (K : PySem.W.Frag) (J : It) (μ : List Addr) (F : Hp) (ds : List D) : Prop where
  go : ∀ i μ2 F2 C2 H2, i < ds.length → (∃ τ, μ2 = μ ++ τ) → Same F F2 → Sim K μ2 F2 C2 H2 → J.go i H2 ∧ ∀ x H3, J.yld i H2 x H3 → ∃ F3 d, Ext μ2 F2 H2 μ2 F3 H3 ∧ Sim K μ2 F3 C2 H3 ∧ ds[i]? = some d ∧ Rep K μ2 F3 x d
  stop : ∀ μ2 F2 C2 H2, (∃ τ, μ2 = μ ++ τ) → Same F F2 → Sim K μ2 F2 C2 H2 → J.stop ds.length H2
/-- .. the k-th cell's content, as it stands at each turn; its length stays n -/
structure WkC (K : PySem.W.Frag) (J : It) (μ : List Addr) (F : Hp) (k n : Nat) : Prop where
  go : ∀ i μ2 F2 C2 H2 ds, i < n → (∃ τ, μ2 = μ ++ τ) → Same F F2 → Sim K μ2 F2 C2 H2 → C2[k]? = some (.lst ds) → ds.length = n → J.go i H2 ∧ ∀ x H3, J.yld i H2 x H3 → H3 = H2 ∧ ∃ d, ds[i]? = some d ∧ Rep K μ2 F2 x d
  stop : ∀ μ2 F2 C2 H2 ds, (∃ τ, μ2 = μ ++ τ) → Same F F2 → Sim K μ2 F2 C2 H2 → C2[k]? = some (.lst ds) → ds.length = n → J.stop n H2
inductive Src where
  | fix (ds : List D) | cel (k n : Nat)
def WkS (K : PySem.W.Frag) (J : It) (μ : List Addr) (F : Hp) : Src → Prop
  | .fix ds => WkD K J μ F ds
  | .cel k n => WkC K J μ F k n
abbrev RI (K : PySem.W.Frag) : RR Src It := fun μ F J ds => WkS K J μ F ds
def rI (K : PySem.W.Frag) (mg : Str → Option Value) (W : WX) (f : Rho → Cells → Res Src) : TI := fun σ H R => ∃ ρ C μ F, Sim K μ F C H ∧ ERel K μ F ρ σ ∧ kd (RI K) K mg W (f ρ C) μ F σ H R
abbrev BI (X : Cx) (W : WX) (tg it : Expr) (f : Rho → Cells → Res Src) : Prop := PI X tg it (rI X.K X.mg W f)
theorem piI {X : Cx} {tg it : Expr} {t t' : TI} (h : PI X tg it t) (k : ∀ σ H R, t' σ H R → t σ H R) : PI X tg it t' := ⟨fun pins s σ H R I q => h.run pins s σ H R I (k σ H R q)⟩
/-- a frozen sequence -/
def asF (d : D) : Option (List D) := match d with
  | .lst ds => some ds
  | .tup ds => some ds
  | .ftp ds => some ds
  | .scr ns => some (ns.map .int)
  | _ => none
def cLen (k : Nat) (C : Cells) : Option Nat := match C[k]? with
  | some (.lst ds) => some ds.length
  | _ => none
def iSeq (f : Rho → Cells → Res D) : Rho → Cells → Res Src := fun ρ C => (f ρ C).bind fun d C1 => match d with
  | .lst ds => .ok (.fix ds) C1
  | .tup ds => .ok (.fix ds) C1
  | .ftp ds => .ok (.fix ds) C1
  | .scr ns => .ok (.fix (ns.map .int)) C1
  | .cel k => match cLen k C1 with
    | some n => .ok (.cel k n) C1
    | none => .stuck
  | _ => .stuck
section
variable {K : PySem.W.Frag} {μ : List Addr} {F : Hp} {a : Addr} {vs : List V} {ds : List D}
theorem wk_list (h : SqL K F a vs) (r : Reps K μ F vs ds) : WkD K (Itl K a) μ F ds := by
  refine ⟨fun i μ2 F2 C2 H2 hi hp hs S => ?_, fun μ2 F2 C2 H2 hp hs S => ?_⟩
  · have q : SqL K H2 a vs := S.sub.seq (hs.seq h)
    have hv : i < vs.length := by rw [r.length]; exact hi
    refine ⟨⟨vs, vs[i], q, by simp [hv]⟩, fun x H3 y => ?_⟩
    obtain ⟨e, y⟩ := y
    subst e
    obtain ⟨d, e1, r1⟩ := r.getV (y vs q)
    exact ⟨F2, d, .refl, S, e1, Rep.mono hp hs _ _ r1⟩
  · exact ⟨vs, S.sub.seq (hs.seq h), by rw [r.length]; exact Nat.le_refl _⟩
theorem wk_tup (h : SqT K F a vs) (r : Reps K μ F vs ds) : WkD K (Itt K a) μ F ds := by
  refine ⟨fun i μ2 F2 C2 H2 hi hp hs S => ?_, fun μ2 F2 C2 H2 hp hs S => ?_⟩
  · have q : SqT K H2 a vs := sameT S.sub (sameT hs h)
    have hv : i < vs.length := by rw [r.length]; exact hi
    refine ⟨⟨vs, vs[i], q, by simp [hv]⟩, fun x H3 y => ?_⟩
    obtain ⟨e, y⟩ := y
    subst e
    obtain ⟨d, e1, r1⟩ := r.getV (y vs q)
    exact ⟨F2, d, .refl, S, e1, Rep.mono hp hs _ _ r1⟩
  · exact ⟨vs, sameT S.sub (sameT hs h), by rw [r.length]; exact Nat.le_refl _⟩
theorem wk_cel {k n : Nat} (h : μ[k]? = some a) : WkC K (Itl K a) μ F k n := by
  refine ⟨fun i μ2 F2 C2 H2 ds hi hp hs S hk hn => ?_, fun μ2 F2 C2 H2 ds hp hs S hk hn => ?_⟩
  · obtain ⟨τ, e⟩ := hp
    obtain ⟨_, vs, g, r⟩ := S.cel k _ _ hk (pre_get e h)
    have q : SqL K H2 a vs := SqL.of g
    have hv : i < vs.length := by rw [r.length, hn]; exact hi
    refine ⟨⟨vs, vs[i], q, by simp [hv]⟩, fun x H3 y => ?_⟩
    obtain ⟨e, y⟩ := y
    obtain ⟨d, e1, r1⟩ := r.getV (y vs q)
    exact ⟨e, d, e1, r1⟩
  · obtain ⟨τ, e⟩ := hp
    obtain ⟨_, vs, g, r⟩ := S.cel k _ _ hk (pre_get e h)
    exact ⟨vs, SqL.of g, by rw [r.length, hn]; exact Nat.le_refl _⟩
theorem wk_range (lo : Int) (n : Nat) : WkD K (Itr lo n) μ F ((List.range n).map fun (i : Nat) => D.int (lo + (i : Nat))) := by
  refine ⟨fun i μ2 F2 C2 H2 hi hp hs S => ⟨(by show i < n; simpa using hi), fun x H3 y => ?_⟩, fun μ2 F2 C2 H2 hp hs S => ?_⟩
  · obtain ⟨e, y⟩ := y
    subst e y
    have hi' : i < n := by simpa using hi
    exact ⟨F2, .int (lo + (i : Nat)), .refl, S, by simp [hi'], .int _⟩
  · show n ≤ _
    simp
end
section
variable {X : Cx} {W : WX} {tg e a b : Expr} {f g : Rho → Cells → Res D} {p pos : Pos}
theorem bi_seq (he : BE X W e f) : BI X W tg e (iSeq f) := by
  have key : PI X tg e (fun σ H R => ∃ ρ C μ F, Sim X.K μ F C H ∧ ERel X.K μ F ρ σ ∧ kd (RI X.K) X.K X.mg W (iSeq f ρ C) μ F σ H R) := by
    refine ⟨fun pins s σ H R I h => ?_⟩
    have hl : ∀ (xs : List V) (a : Addr) (s1 : Shared) (H1 : Hp), Inv X pins σ H1 s1 → SqL X.K H1 a xs → R (Itl X.K a) H1 → wpAny (model X.prog X.w) X.A (pyIter (.ref a)) (PIE X pins σ tg R) X.xe s1 := fun xs a s1 H1 I1 q r1 => by
      obtain ⟨its, _, pl, _⟩ := I1.list q
      refine wpAny_pyIter_list pl.isList ⟨_, [s1.heap.objs.size], _, _, H1, rfl, I1.kept (t' := s1.toks) (fun b o z => Heap.get?_push_of_some _ z), turn_list a _, ⟨_, Heap.get?_push_size _ rfl, rfl, rfl⟩, fun b hb => ?_, r1⟩
      rw [show b = s1.heap.objs.size from by simpa using hb]
      exact I1.fpOk (Nat.le_refl _) (I1.hok.fresh (Nat.le_refl _))
    have ht : ∀ (xs : List V) (a : Addr) (s1 : Shared) (H1 : Hp), Inv X pins σ H1 s1 → SqT X.K H1 a xs → R (Itt X.K a) H1 → wpAny (model X.prog X.w) X.A (pyIter (.ref a)) (PIE X pins σ tg R) X.xe s1 := fun xs a s1 H1 I1 q r1 => by
      obtain ⟨its, _, pl, _⟩ := I1.tuple q
      refine wpAny_pyIter_tuple (show s1.heap.IsTuple a its.toArray from pl) ⟨_, [s1.heap.objs.size], _, _, H1, rfl, I1.kept (t' := s1.toks) (fun b o z => Heap.get?_push_of_some _ z), turn_tuple a _, ⟨_, Heap.get?_push_size _ rfl, rfl, rfl⟩, fun b hb => ?_, r1⟩
      rw [show b = s1.heap.objs.size from by simpa using hb]
      exact I1.fpOk (Nat.le_refl _) (I1.hok.fresh (Nat.le_refl _))
    obtain ⟨ρ, C, μ, F, S, E, k⟩ := h
    have k2 : rE X.K X.mg W f σ H (fun v H1 => ∃ a xs, v = .ref a ∧ ((SqL X.K H1 a xs ∧ R (Itl X.K a) H1) ∨ (SqT X.K H1 a xs ∧ R (Itt X.K a) H1))) := by
      refine ⟨ρ, C, μ, F, S, E, kd_bind k fun d C1 v μ1 F1 H1 x1 s1 r1 h1 => ?_⟩
      cases d with
      | lst ds =>
        cases r1 with
        | lst q1 q2 => exact ⟨_, _, rfl, .inl ⟨SqL.of (s1.sub _ _ q1), kd_ret s1 (wk_list (SqL.of q1) q2) h1⟩⟩
      | tup ds =>
        cases r1 with
        | tup q1 q2 => exact ⟨_, _, rfl, .inr ⟨sameT s1.sub q1, kd_ret s1 (wk_tup q1 q2) h1⟩⟩
      | ftp ds =>
        cases r1 with
        | ftp q1 b c q2 => exact ⟨_, _, rfl, .inr ⟨sameT s1.sub (ftp_sq q1), kd_ret s1 (wk_tup (ftp_sq q1) q2) h1⟩⟩
      | scr ns =>
        cases r1 with
        | scr q1 => exact ⟨_, _, rfl, .inl ⟨s1.sub.seq q1, kd_ret s1 (wk_list q1 (Reps.ints _)) h1⟩⟩
      | cel k =>
        cases r1 with
        | cel q1 =>
          simp only at h1
          split at h1
          · rename_i n en
            unfold cLen at en
            split at en
            · rename_i ds hk
              obtain ⟨_, vs, g, r⟩ := s1.cel k _ _ hk q1
              exact ⟨_, vs, rfl, .inl ⟨SqL.of g, kd_ret s1 (wk_cel q1) h1⟩⟩
            · cases en
          · exact h1.elim
      | _ => exact h1.elim
    refine thn (he.run pins s σ H _ I k2) fun v s1 ⟨x, H1, I1, r1, a, xs, ex, q⟩ => ?_
    subst ex
    cases r1
    rcases q with ⟨q, r⟩ | ⟨q, r⟩
    · exact hl xs a s1 H1 I1 q r
    · exact ht xs a s1 H1 I1 q r
  exact key
def iRg (fr : Rho → Cells → Res (Int × Int)) : Rho → Cells → Res Src := fun ρ C => (fr ρ C).bind fun p C1 => if RgOk p.1 p.2 then .ok (.fix (rg p.1 p.2)) C1 else .stuck
theorem bi_range1 (hg : Gl X "range") (hm : X.mg "range" = none) (ha : BE X W a f) (na : starEach [a] X.env = [(false, eval a X.env)] := by rfl) : BI X W tg (.Call (.Name "range" p) [a] [] pos) (iRg (rg1 f)) := by
  refine piI (pi_range1 hg hm (pa_cons ha pa_nil na) na) ?_
  rintro σ H R ⟨ρ, C, μ, F, S, E, k⟩
  unfold iRg rg1 at k
  have k' : kd (RI X.K) X.K X.mg W ((f ρ C).bind fun d C1 => match d with | .int j => if RgOk 0 j then .ok (.fix (rg 0 j)) C1 else .stuck | _ => .stuck) μ F σ H R := by
    cases hf : f ρ C with
    | ok d C1 =>
      rw [hf] at k
      cases d <;> exact k
    | ex c p C1 =>
      rw [hf] at k
      exact k
    | stuck =>
      rw [hf] at k
      exact k
  refine ⟨ρ, C, μ, F, S, E, kd_bind k' fun d C1 v μ1 F1 H1 x1 s1 r1 h1 => ?_⟩
  cases d with
  | int j =>
    cases r1
    simp only at h1
    split at h1
    · rename_i z
      refine ⟨j, rfl, z.2.2.1, z.2.2.2.1, kd_ret s1 ?_ h1⟩
      have := wk_range (K := X.K) (μ := μ1) (F := F1) 0 j.toNat
      show WkD _ _ _ _ (rg 0 j)
      unfold rg
      rw [show (j - 0).toNat = j.toNat from by omega]
      exact this
    · exact h1.elim
  | _ => exact False.elim h1
theorem bi_range2 (hg : Gl X "range") (hm : X.mg "range" = none) (ha : BE X W a f) (hb : BE X W b g) (na : starEach [a, b] X.env = [(false, eval a X.env), (false, eval b X.env)] := by rfl) (nb : starEach [b] X.env = [(false, eval b X.env)] := by rfl) :
    BI X W tg (.Call (.Name "range" p) [a, b] [] pos) (iRg (rg2 f g)) := by
  refine piI (pi_range2 hg hm (pa_cons ha (pa_cons hb pa_nil nb) (by rw [na, nb])) na nb) ?_
  rintro σ H R ⟨ρ, C, μ, F, S, E, k⟩
  unfold iRg rg2 at k
  have k' : kd (RI X.K) X.K X.mg W ((f ρ C).bind fun d C1 => (g ρ C1).bind fun d2 C2 => match d, d2 with | .int i, .int j => if RgOk i j then .ok (.fix (rg i j)) C2 else .stuck | _, _ => .stuck) μ F σ H R := by
    cases hf : f ρ C with
    | ok d C1 =>
      rw [hf] at k
      simp only [Res.bind_ok] at k ⊢
      cases hg' : g ρ C1 with
      | ok d2 C2 =>
        rw [hg'] at k
        cases d <;> cases d2 <;> exact k
      | ex c p C1 =>
        rw [hg'] at k
        exact k
      | stuck =>
        rw [hg'] at k
        exact k
    | ex c p C1 =>
      rw [hf] at k
      exact k
    | stuck =>
      rw [hf] at k
      exact k
  refine ⟨ρ, C, μ, F, S, E, kd_bind k' fun d C1 v μ1 F1 H1 x1 s1 r1 h1 => ?_⟩
  refine ⟨ρ, C1, μ1, F1, s1, x1.env E, kd_bind h1 fun d2 C2 v2 μ2 F2 H2 x2 s2 r2 h2 => ?_⟩
  cases d with
  | int i =>
    cases r1
    cases d2 with
    | int j =>
      cases r2
      simp only at h2
      split at h2
      · rename_i z
        refine ⟨i, j, rfl, ⟨z.1, z.2.1, z.2.2.1, z.2.2.2.1⟩, kd_ret s2 ?_ h2⟩
        exact wk_range (K := X.K) (μ := μ2) (F := F2) i (j - i).toNat
      · exact h2.elim
    | _ => exact False.elim h2
  | _ => cases d2 <;> exact False.elim h2
end

/-! ### for, while -/
def Out.loop (o : Out) (k : Rho → Cells → Out) : Out := match o with
  | .nx ρ C => k ρ C
  | .ct ρ C => k ρ C
  | .bk ρ C => .nx ρ C
  | o => o
def forL (t : D → Rho → Option Rho) (b : Rho → Cells → Out) : List D → Rho → Cells → Out
  | [], ρ, C => .nx ρ C
  | d :: ds, ρ, C => match t d ρ with
    | some ρ1 => (b ρ1 C).loop (forL t b ds)
    | none => .stuck
/-- .. over the k-th cell's content, whose length stays n; m turns are left -/
def forC (t : D → Rho → Option Rho) (b : Rho → Cells → Out) (k n : Nat) : Nat → Rho → Cells → Out
  | 0, ρ, C => if cLen k C = some n then .nx ρ C else .stuck
  | m + 1, ρ, C => match asL (.cel k) C with
    | some ds => if ds.length = n then match ds[n - (m + 1)]? with
      | some d => match t d ρ with
        | some ρ1 => (b ρ1 C).loop (forC t b k n m)
        | none => .stuck
      | none => .stuck
      else .stuck
    | none => .stuck
def forS (t : D → Rho → Option Rho) (b : Rho → Cells → Out) : Src → Rho → Cells → Out
  | .fix ds => forL t b ds
  | .cel k n => forC t b k n n
def sFor (fi : Rho → Cells → Res Src) (t : D → Rho → Option Rho) (b : Rho → Cells → Out) : Rho → Cells → Out := fun ρ C => (fi ρ C).out ρ fun ds C1 => forS t b ds ρ C1
theorem cLen_some {k n : Nat} {C : Cells} (h : cLen k C = some n) : ∃ ds, C[k]? = some (.lst ds) ∧ ds.length = n := by
  unfold cLen at h
  split at h
  · rename_i ds e
    exact ⟨ds, e, Option.some.inj h⟩
  · cases h
theorem asL_cel {k : Nat} {C : Cells} {ds : List D} (h : asL (.cel k) C = some ds) : C[k]? = some (.lst ds) := by
  simp only [asL] at h
  split at h
  · rename_i ds' e
    cases h
    exact e
  · cases h
def whileL (c : Rho → Cells → Res D) (b : Rho → Cells → Out) : Nat → Rho → Cells → Out
  | 0, _, _ => .stuck
  | n + 1, ρ, C => (toB (c ρ C)).out ρ fun x C1 => if x then (b ρ C1).loop (whileL c b n) else .nx ρ C1
def sWhile (n : Nat) (c : Rho → Cells → Res D) (b : Rho → Cells → Out) : Rho → Cells → Out := whileL c b n
section
variable {X : Cx} {W : WX} {it tg c : Expr} {body : List Stmt} {fi : Rho → Cells → Res Src} {t : D → Rho → Option Rho} {ns : List Nat} {fb : Rho → Cells → Out} {fc : Rho → Cells → Res D} {pos : Pos}
theorem sd_loop {K : PySem.W.Frag} {mg : Str → Option Value} {μ : List Addr} {F H : Hp} {D : Ends} {o : Out} {k : Rho → Cells → Out} {N : L2.St → Hp → Prop} (h : sd K mg W (o.loop k) D μ F H)
    (hN : ∀ ρ C σ μ' F' H', Ext μ F H μ' F' H' → Sim K μ' F' C H' → ERel K μ' F' ρ σ → sd K mg W (k ρ C) D μ' F' H' → N σ H') : sd K mg W o { D with nx := N, ct := N, bk := D.nx } μ F H := by
  cases o with
  | nx ρ C => exact fun σ μ2 F2 H2 x2 s2 e2 => hN ρ C σ μ2 F2 H2 x2 s2 e2 (sd_mono x2 h)
  | ct ρ C => exact fun σ μ2 F2 H2 x2 s2 e2 => hN ρ C σ μ2 F2 H2 x2 s2 e2 (sd_mono x2 h)
  | bk ρ C => exact h
  | rt d C => exact h
  | ex c p ρ C => exact h
  | stuck => exact h
theorem bs_for (hp : PassesOwn (model X.prog X.w) X.A X.env X.xe) (hc : X.calm = true) (hi : BI X W tg it fi) (hg : BG X tg t ns) (hb : BSs X W body fb) (hs : ∀ x, foldedSetIterable it X.env x = pure x := by intro _; rfl) :
    BS X W (.For tg it body [] pos) (sFor fi t fb) := by
  refine psI (ps_for hp hc hi hg hb hs) ?_
  rintro D σ H ⟨ρ, C, μ, F, S, E, k⟩
  refine ⟨ρ, C, μ, F, S, E, sd_bind E k fun src C1 J μ1 F1 H1 x1 s1 r1 h1 => ?_⟩
  cases src with
  | cel kk n =>
    refine ⟨fun i m σ H => m = n - i ∧ i ≤ n ∧ ∃ ρ C μ2 F2, (∃ τ, μ2 = μ1 ++ τ) ∧ Same F1 F2 ∧ Sim X.K μ2 F2 C H ∧ ERel X.K μ2 F2 ρ σ ∧ sd X.K X.mg W (forC t fb kk n (n - i) ρ C) D μ2 F2 H,
      ⟨n, by simp, Nat.zero_le _, ρ, C1, μ1, F1, ⟨[], by simp⟩, Same.refl _, s1, x1.env E, h1⟩, ?_⟩
    rintro i m σ2 H2 ⟨rfl, hi, ρ2, C2, μ2, F2, hp, hs, S2, E2, k2⟩
    by_cases hlt : i < n
    · have em : n - i = (n - (i + 1)) + 1 := by omega
      rw [em] at k2
      unfold forC at k2
      split at k2
      · rename_i ds2 e2
        split at k2
        · rename_i hn
          have hk := asL_cel e2
          obtain ⟨hgo, hy⟩ := r1.go i μ2 F2 C2 H2 ds2 hlt hp hs S2 hk hn
          refine .inr ⟨hgo, _, fun σ' H' p' => ⟨n - (i + 1), by omega, p'⟩, fun x H3 y => ?_⟩
          obtain ⟨e3, d, ed, rd⟩ := hy x H3 y
          subst e3
          have ei : n - (n - (i + 1) + 1) = i := by omega
          rw [ei, ed] at k2
          simp only at k2
          split at k2
          · rename_i ρ3 e3
            refine ⟨ρ2, C2, μ2, F2, d, ρ3, S2, E2, rd, e3, fun σ4 E4 _ => ⟨ρ3, C2, μ2, F2, S2, E4, sd_loop k2 fun ρ5 C5 σ5 μ5 F5 H5 x5 s5 e5 k5 => ?_⟩⟩
            refine ⟨rfl, hlt, ρ5, C5, μ5, F5, ?_, hs.trans x5.fr, s5, e5, k5⟩
            obtain ⟨τ1, q1⟩ := hp
            obtain ⟨τ2, q2, _⟩ := x5.pre
            exact ⟨τ1 ++ τ2, by rw [q2, q1, List.append_assoc]⟩
          · exact k2.elim
        · exact k2.elim
      · exact k2.elim
    · have e : i = n := by omega
      subst e
      rw [Nat.sub_self] at k2
      unfold forC at k2
      split at k2
      · rename_i z
        obtain ⟨ds2, hk, hn⟩ := cLen_some z
        exact .inl ⟨r1.stop μ2 F2 C2 H2 ds2 hp hs S2 hk hn, sd_nx S2 E2 k2⟩
      · exact k2.elim
  | fix ds =>
  refine ⟨fun i m σ H => m = ds.length - i ∧ i ≤ ds.length ∧ ∃ ρ C μ2 F2, (∃ τ, μ2 = μ1 ++ τ) ∧ Same F1 F2 ∧ Sim X.K μ2 F2 C H ∧ ERel X.K μ2 F2 ρ σ ∧ sd X.K X.mg W (forL t fb (ds.drop i) ρ C) D μ2 F2 H,
    ⟨ds.length, by simp, Nat.zero_le _, ρ, C1, μ1, F1, ⟨[], by simp⟩, Same.refl _, s1, x1.env E, h1⟩, ?_⟩
  rintro i m σ2 H2 ⟨rfl, hi, ρ2, C2, μ2, F2, hp, hs, S2, E2, k2⟩
  by_cases hlt : i < ds.length
  · obtain ⟨hgo, hy⟩ := r1.go i μ2 F2 C2 H2 hlt hp hs S2
    refine .inr ⟨hgo, _, fun σ' H' p' => ⟨ds.length - (i + 1), by omega, p'⟩, fun x H3 y => ?_⟩
    obtain ⟨F3, d, X3, S3, ed, rd⟩ := hy x H3 y
    rw [List.drop_eq_getElem_cons hlt] at k2
    have ed' : ds[i] = d := by
      rw [List.getElem?_eq_getElem hlt] at ed
      exact Option.some.inj ed
    rw [ed'] at k2
    unfold forL at k2
    split at k2
    · rename_i ρ3 e3
      refine ⟨ρ2, C2, μ2, F3, d, ρ3, S3, X3.env E2, rd, e3, fun σ4 E4 _ => ⟨ρ3, C2, μ2, F3, S3, E4, sd_loop (sd_mono X3 k2) fun ρ5 C5 σ5 μ5 F5 H5 x5 s5 e5 k5 => ?_⟩⟩
      refine ⟨rfl, hlt, ρ5, C5, μ5, F5, ?_, hs.trans (X3.fr.trans x5.fr), s5, e5, k5⟩
      obtain ⟨τ1, q1⟩ := hp
      obtain ⟨τ2, q2, _⟩ := x5.pre
      exact ⟨τ1 ++ τ2, by rw [q2, q1, List.append_assoc]⟩
    · exact k2.elim
  · have e : i = ds.length := by omega
    subst e
    rw [List.drop_length] at k2
    exact .inl ⟨r1.stop μ2 F2 C2 H2 hp hs S2, sd_nx S2 E2 k2⟩
theorem bs_while (n : Nat) (hp : PassesOwn (model X.prog X.w) X.A X.env X.xe) (hc : BT X W c fc) (hb : BSs X W body fb) : BS X W (.While c body [] pos) (sWhile n fc fb) := by
  refine psI (ps_while hp hc hb) ?_
  rintro D σ H ⟨ρ, C, μ, F, S, E, k⟩
  refine ⟨fun m σ H => ∃ ρ C μ F, Sim X.K μ F C H ∧ ERel X.K μ F ρ σ ∧ sd X.K X.mg W (whileL fc fb m ρ C) D μ F H, ⟨n, ρ, C, μ, F, S, E, k⟩, ?_⟩
  rintro m σ2 H2 ⟨ρ2, C2, μ2, F2, S2, E2, k2⟩
  cases m with
  | zero => exact k2.elim
  | succ m =>
    unfold whileL at k2
    refine ⟨ρ2, C2, μ2, F2, S2, E2, sd_bind (R := RB) E2 k2 fun b C3 v μ3 F3 H3 x3 s3 r3 h3 => ?_⟩
    subst r3
    cases v with
    | true =>
      refine iteT ⟨_, fun σ' H' p' => ⟨m, Nat.lt_succ_self _, p'⟩, ρ2, C3, μ3, F3, s3, x3.env E2, sd_loop h3 fun ρ5 C5 σ5 μ5 F5 H5 x5 s5 e5 k5 => ⟨ρ5, C5, μ5, F5, s5, e5, k5⟩⟩
    | false => exact iteF (sd_nx s3 (x3.env E2) h3)
end

/-! ### list comprehensions -/
def wipeD (ρ : Rho) : List Nat → Rho
  | [] => ρ
  | v :: vs => (wipeD ρ vs).set v none
def noX {α : Type} (r : Res α) : Res α := match r with
  | .ex _ _ _ => .stuck
  | r => r
/-- one turn: k goes on -/
def lcStep (t : D → Rho → Option Rho) (ft fe : Rho → Cells → Res D) (ρ : Rho) (d : D) (C : Cells) (k : Cells → Res (List D)) : Res (List D) := match t d ρ with
  | some ρ1 => (noX (toB (ft ρ1 C))).bind fun b C1 => if b then (noX (fe ρ1 C1)).bind fun y C2 => (k C2).bind fun ys C3 => .ok (y :: ys) C3 else k C1
  | none => .stuck
def lcL (t : D → Rho → Option Rho) (ft fe : Rho → Cells → Res D) (ρ : Rho) : List D → Cells → Res (List D)
  | [], C => .ok [] C
  | d :: ds, C => lcStep t ft fe ρ d C (lcL t ft fe ρ ds)
def lcC (t : D → Rho → Option Rho) (ft fe : Rho → Cells → Res D) (ρ : Rho) (k n : Nat) : Nat → Cells → Res (List D)
  | 0, C => if cLen k C = some n then .ok [] C else .stuck
  | m + 1, C => match asL (.cel k) C with
    | some ds => if ds.length = n then match ds[n - (m + 1)]? with
      | some d => lcStep t ft fe ρ d C (lcC t ft fe ρ k n m)
      | none => .stuck
      else .stuck
    | none => .stuck
def lcS (t : D → Rho → Option Rho) (ft fe : Rho → Cells → Res D) (ρ : Rho) : Src → Cells → Res (List D)
  | .fix ds => lcL t ft fe ρ ds
  | .cel k n => lcC t ft fe ρ k n n
theorem noX_ne {α : Type} (r : Res α) (c : Str) (p : D) (C : Cells) : noX r ≠ .ex c p C := by
  cases r <;> simp [noX]
def NoEx (k : Cells → Res (List D)) : Prop := ∀ (C : Cells) (c : Str) (p : D) (C' : Cells), k C ≠ .ex c p C'
theorem noex_step {t : D → Rho → Option Rho} {ft fe : Rho → Cells → Res D} {ρ : Rho} {d : D} {k : Cells → Res (List D)} (hk : NoEx k) : NoEx fun C => lcStep t ft fe ρ d C k := by
  intro C c p C' h
  simp only [lcStep] at h
  split at h
  · cases h1 : noX (toB (ft _ C)) with
    | stuck => rw [h1] at h; cases h
    | ex c1 p1 C1 => exact noX_ne _ _ _ _ h1
    | ok b C1 =>
      rw [h1] at h
      simp only [Res.bind_ok] at h
      split at h
      · cases h2 : noX (fe _ C1) with
        | stuck => rw [h2] at h; cases h
        | ex c1 p1 C1 => exact noX_ne _ _ _ _ h2
        | ok y C2 =>
          rw [h2] at h
          simp only [Res.bind_ok] at h
          cases h3 : k C2 with
          | stuck => rw [h3] at h; cases h
          | ex c1 p1 C1 => exact hk _ _ _ _ h3
          | ok ys C3 =>
            rw [h3] at h
            cases h
      · exact hk _ _ _ _ h
  · cases h
theorem noex_lcL (t : D → Rho → Option Rho) (ft fe : Rho → Cells → Res D) (ρ : Rho) : ∀ ds : List D, NoEx (lcL t ft fe ρ ds)
  | [] => fun C c p C' h => by simp [lcL] at h
  | d :: ds => fun C c p C' h => noex_step (noex_lcL t ft fe ρ ds) C c p C' h
theorem noex_lcC (t : D → Rho → Option Rho) (ft fe : Rho → Cells → Res D) (ρ : Rho) (k n : Nat) : ∀ m : Nat, NoEx (lcC t ft fe ρ k n m)
  | 0 => fun C c p C' h => by
    unfold lcC at h
    split at h <;> cases h
  | m + 1 => fun C c p C' h => by
    unfold lcC at h
    split at h
    · split at h
      · split at h
        · exact noex_step (noex_lcC t ft fe ρ k n m) C c p C' h
        · cases h
      · cases h
    · cases h
def fYes : Rho → Cells → Res D := fun _ C => .ok (.bl true) C
def fLc (m : Bool) (vs : List Nat) (fi : Rho → Cells → Res Src) (t : D → Rho → Option Rho) (ft fe : Rho → Cells → Res D) : Rho → Cells → Res D := fun ρ C => (fi ρ C).bind fun ds C1 => (lcS t ft fe (wipeD ρ vs) ds C1).bind fun ys C2 => if ys.length < sizeLine then mkL m ys C2 else .stuck
abbrev W0 : WX := fun _ _ _ _ => False
section
variable {K : PySem.W.Frag} {mg : Str → Option Value} {W : WX} {μ μ' : List Addr} {F F' H H' : Hp} {C C' : Cells} {ρ : Rho} {σ : L2.St}
theorem ERel.wipe (E : ERel K μ F ρ σ) : ∀ vs : List Nat, ERel K μ F (wipeD ρ vs) (L2.wipe σ vs)
  | [] => E
  | v :: vs => by
    have ih := ERel.wipe E vs
    unfold wipeD L2.wipe
    refine ⟨by simp [ih.1], fun i d h => ?_⟩
    by_cases hi : v = i
    · subst hi
      by_cases hv : v < (wipeD ρ vs).length
      · rw [List.getElem?_set_self hv] at h
        cases h
      · rw [List.getElem?_eq_none (by simpa using hv)] at h
        cases h
    · rw [List.getElem?_set_ne hi] at h ⊢
      exact ih.2 i d h
theorem wipe_wipe (σ : L2.St) (vs : List Nat) : wipe (wipe σ vs) vs = wipe σ vs := by
  have : ∀ us : List Nat, (∀ i ∈ us, i ∈ vs) → wipe (wipe σ vs) us = wipe σ vs := by
    intro us
    induction us with
    | nil => intro _; rfl
    | cons u us ih =>
      intro h
      show (wipe (wipe σ vs) us).set u none = _
      rw [ih fun i hi => h i (List.mem_cons_of_mem _ hi), wipe_none (h u (by simp))]
  exact this vs fun _ h => h
/-- an object beside the cells and the frozen part changes -/
theorem Sim.other {D : Addr} {o : HO} (S : Sim K μ F C H) (h1 : D ∉ μ) (h2 : F D = none) : Sim K μ F C (upd H D o) := by
  refine ⟨fun b u e => ?_, S.len, S.nd, fun a h z => ?_, fun k c a e1 e2 => ?_⟩
  · have hne : b ≠ D := fun z => by rw [z, h2] at e; cases e
    rw [upd_ne hne]
    exact S.sub b u e
  · by_cases hb : a = D
    · subst hb
      exact h1 h
    · rw [upd_ne hb] at z
      exact S.trk a h z
  · have q := S.cel k c a e1 e2
    cases c with
    | dead => trivial
    | lst ds =>
      obtain ⟨f, vs, g, r⟩ := q
      have hne : a ≠ D := fun z => h1 (z ▸ List.mem_of_getElem? e2)
      exact ⟨f, vs, by rw [upd_ne hne]; exact g, r⟩
    | dic ds =>
      obtain ⟨f, vs, g, r⟩ := q
      have hne : a ≠ D := fun z => h1 (z ▸ List.mem_of_getElem? e2)
      exact ⟨f, vs, by rw [upd_ne hne]; exact g, r⟩
    | tab q0 P0 =>
      obtain ⟨f, vs, g, r⟩ := q
      have hne : a ≠ D := fun z => h1 (z ▸ List.mem_of_getElem? e2)
      exact ⟨f, vs, by rw [upd_ne hne]; exact g, r⟩
/-- a list beside them becomes one of ours -/
theorem kd_adopt {μ0 : List Addr} {F0 H0 : Hp} {D : Addr} {m : Bool} {ds : List BV.D} {vs : List V} {Q : V → Hp → Prop} (S : Sim K μ F C H) (X : Ext μ0 F0 H0 μ F H) (h0 : H0 D = none) (h1 : D ∉ μ) (h2 : F D = none) (h3 : H D = some (.lst vs)) (r : Reps K μ F vs ds)
    (h : kd (RD K) K mg W (mkL m ds C) μ0 F0 σ H0 Q) : Q (.ref D) H := by
  cases m with
  | true =>
    obtain ⟨τ, e, n⟩ := X.pre
    refine h _ (μ ++ [D]) F H ⟨⟨τ ++ [D], by rw [e, List.append_assoc], fun a ha => ?_⟩, X.fr, X.thr, X.new, X.keep⟩ ⟨S.sub, by simp [S.len], ?_, fun a ha => ?_, fun k c a e1 e2 => ?_⟩ (.cel ?_)
    · rcases List.mem_append.mp ha with ha | ha
      · exact n a ha
      · simp at ha
        subst ha
        exact h0
    · refine List.nodup_append.mpr ⟨S.nd, by simp, fun a ha b hb e => ?_⟩
      simp at hb
      subst hb
      subst e
      exact h1 ha
    · rcases List.mem_append.mp ha with ha | ha
      · exact S.trk a ha
      · simp at ha
        subst ha
        rw [h3]
        simp
    · by_cases hk : k < C.length
      · rw [List.getElem?_append_left hk] at e1
        rw [List.getElem?_append_left (by rw [S.len]; exact hk)] at e2
        have q := S.cel k c a e1 e2
        cases c with
        | dead => trivial
        | lst ds2 =>
          obtain ⟨f, vs2, g, r2⟩ := q
          exact ⟨f, vs2, g, Reps.mono ⟨[D], rfl⟩ (Same.refl F) _ _ r2⟩
        | dic ds2 =>
          obtain ⟨f, vs2, g, r2⟩ := q
          exact ⟨f, vs2, g, KReps.mono ⟨[D], rfl⟩ (Same.refl F) _ _ r2⟩
        | tab q0 P0 =>
          obtain ⟨f, vs2, g, r2⟩ := q
          exact ⟨f, vs2, g, TabF.mono (Same.refl F) r2⟩
      · have hk0 : k - C.length = 0 := by
          rw [List.getElem?_append_right (by omega)] at e1
          have := (List.getElem?_eq_some_iff.mp e1).1
          simp at this
          omega
        rw [List.getElem?_append_right (by omega), hk0] at e1
        rw [List.getElem?_append_right (by rw [S.len]; omega), S.len, hk0] at e2
        simp at e1 e2
        subst e1 e2
        exact ⟨h2, vs, h3, Reps.mono ⟨[D], rfl⟩ (Same.refl F) _ _ r⟩
    · rw [List.getElem?_append_right (by rw [S.len]; exact Nat.le_refl _), S.len, Nat.sub_self]
      rfl
  | false =>
    have fF : Same F (upd F D (.lst vs)) := fun b u e => by
      rw [upd_ne (ne_of_none e h2)]
      exact e
    refine h _ μ (upd F D (.lst vs)) H ⟨X.pre, X.fr.trans fF, X.thr, fun a o e1 e2 => ?_, X.keep⟩ ⟨fun b u e => ?_, S.len, S.nd, S.trk, fun k c a e1 e2 => ?_⟩ (.lst upd_same (Reps.mono ⟨[], by simp⟩ fF _ _ r))
    · by_cases hb : a = D
      · subst hb
        exact .inl h0
      · rw [upd_ne hb] at e1
        exact X.new a o e1 e2
    · by_cases hb : b = D
      · subst hb
        rw [upd_same] at e
        cases e
        exact h3
      · rw [upd_ne hb] at e
        exact S.sub b u e
    · have q := S.cel k c a e1 e2
      cases c with
      | dead => trivial
      | lst ds2 =>
        obtain ⟨f, vs2, g, r2⟩ := q
        have hne : a ≠ D := fun z => h1 (z ▸ List.mem_of_getElem? e2)
        exact ⟨by rw [upd_ne hne]; exact f, vs2, g, Reps.mono ⟨[], by simp⟩ fF _ _ r2⟩
      | dic ds2 =>
        obtain ⟨f, vs2, g, r2⟩ := q
        have hne : a ≠ D := fun z => h1 (z ▸ List.mem_of_getElem? e2)
        exact ⟨by rw [upd_ne hne]; exact f, vs2, g, KReps.mono ⟨[], by simp⟩ fF _ _ r2⟩
      | tab q0 P0 =>
        obtain ⟨f, vs2, g, r2⟩ := q
        have hne : a ≠ D := fun z => h1 (z ▸ List.mem_of_getElem? e2)
        exact ⟨by rw [upd_ne hne]; exact f, vs2, g, TabF.mono fF r2⟩
end
/-- tests of a comprehension -/
abbrev BTs (X : Cx) (W : WX) (es : List Expr) (f : Rho → Cells → Res D) : Prop := PTs X es (rT X.K X.mg W f)
section
variable {X : Cx} {W : WX}
theorem bts_nil : BTs X W [] fYes := by
  refine ⟨fun pins s σ H Q I h => pts_nil.run pins s σ H Q I ?_⟩
  obtain ⟨ρ, C, μ, F, S, E, k⟩ := h
  exact kd_ret (v := true) S rfl k
theorem bts_one {c : Expr} {f : Rho → Cells → Res D} (h : BT X W c f) : BTs X W [c] f := pts_one h
/-- what holds between the turns: the new list stands at D, beside cells and frozen part -/
structure LcInv (K : PySem.W.Frag) (μ1 : List Addr) (F1 H1 : Hp) (D : Addr) (C2 : Cells) (μ2 : List Addr) (F2 H2 : Hp) (acc : List BV.D) (va : List V) : Prop where
  x2 : Ext μ1 F1 H1 μ2 F2 H2
  s2 : Sim K μ2 F2 C2 H2
  d1 : D ∉ μ2
  d2 : F2 D = none
  d3 : H2 D = some (.lst va)
  ra : Reps K μ2 F2 va acc
def lcK (m : Bool) (acc : List D) (r : Res (List D)) : Res D := r.bind fun ys C3 => if (acc ++ ys).length < sizeLine then mkL m (acc ++ ys) C3 else .stuck
theorem lc_step {t : D → Rho → Option Rho} {ns : List Nat} {ft fe : Rho → Cells → Res D} {m : Bool} {vs : List Nat} {ρw : Rho} {σ : L2.St} {Q : VK} {μ1 μ2 : List Addr} {F1 F2 F3 H1 H2 H3 : Hp} {D : Addr} {C2 : Cells} {acc : List BV.D} {va : List V} {x : V} {d : BV.D} {kk : Cells → Res (List BV.D)} {N : Hp → Prop}
    (hv : ∀ i ∈ ns, i ∈ vs) (hD : H1 D = none) (L : LcInv X.K μ1 F1 H1 D C2 μ2 F2 H2 acc va) (X3 : Ext μ2 F2 H2 μ2 F3 H3) (S3 : Sim X.K μ2 F3 C2 H3) (rd : Rep X.K μ2 F3 x d) (E1 : ERel X.K μ1 F1 ρw (wipe σ vs)) (nx : NoEx kk)
    (k2 : kd (RD X.K) X.K X.mg W (lcK m acc (lcStep t ft fe ρw d C2 kk)) μ1 F1 σ H1 Q)
    (hN : ∀ C' μ' F' H' acc' va', LcInv X.K μ1 F1 H1 D C' μ' F' H' acc' va' → kd (RD X.K) X.K X.mg W (lcK m acc' (kk C')) μ1 F1 σ H1 Q → N H') :
    rG X.K t ns x (wipe σ vs) H3 fun σ2 H2 => wipe σ2 vs = wipe σ vs ∧ rT X.K X.mg W0 ft σ2 H2 fun b H3 =>
      if b = true then rE X.K X.mg W0 fe σ2 H3 fun y H4 => ∃ acc, H4 D = some (.lst acc) ∧ acc.length < sizeLine ∧ N (upd H4 D (.lst (acc ++ [y]))) else N H3 := by
  obtain ⟨x2, s2, d1, d2, d3, ra⟩ := L
  have dn : ∀ {μa : List Addr} {Fa Ha : Hp}, Ext μ2 F2 H2 μa Fa Ha → D ∉ μa ∧ Fa D = none ∧ Ha D = some (.lst va) := fun {μa Fa Ha} xa => by
    refine ⟨fun z => ?_, ?_, xa.keep D _ d3 d1⟩
    · obtain ⟨τ, e, nn⟩ := xa.pre
      rw [e] at z
      rcases List.mem_append.mp z with z | z
      · exact d1 z
      · rw [nn D z] at d3
        cases d3
    · cases q : Fa D with
      | none => rfl
      | some o =>
        rcases xa.new D o q d2 with z | z
        · rw [z] at d3
          cases d3
        · exact absurd z d1
  unfold lcK lcStep at k2
  split at k2
  · rename_i ρ3 e3
    refine ⟨ρw, C2, μ2, F3, d, ρ3, S3, X3.env (x2.env E1), rd, e3, fun σ4 E4 w4 => ⟨?_, ρ3, C2, μ2, F3, S3, E4, ?_⟩⟩
    · rw [w4 vs hv]
      exact wipe_wipe σ vs
    · cases hft : toB (ft ρ3 C2) with
      | stuck =>
        rw [hft] at k2
        exact k2.elim
      | ex c p C3 =>
        rw [hft] at k2
        exact k2.elim
      | ok b C3 =>
        rw [hft] at k2
        intro b' μ4 F4 H4 x4 s4 eb
        have eb' : b' = b := eb
        subst eb'
        simp only [noX, Res.bind_ok] at k2
        cases b' with
        | true =>
          refine iteT ⟨ρ3, C3, μ4, F4, s4, x4.env E4, ?_⟩
          simp only [if_true] at k2
          cases hfe : fe ρ3 C3 with
          | stuck =>
            rw [hfe] at k2
            exact k2.elim
          | ex c p C4 =>
            rw [hfe] at k2
            exact k2.elim
          | ok yv C4 =>
            rw [hfe] at k2
            simp only [noX, Res.bind_ok] at k2
            intro w5 μ5 F5 H5 x5 s5 r5
            have xa := X3.trans (x4.trans x5)
            obtain ⟨g1, g2, g3⟩ := dn xa
            have kk2 : kd (RD X.K) X.K X.mg W (lcK m (acc ++ [yv]) (kk C4)) μ1 F1 σ H1 Q ∧ va.length < sizeLine := by
              unfold lcK
              cases hr : kk C4 with
              | stuck =>
                rw [hr] at k2
                exact k2.elim
              | ex c p C5 => exact (nx _ _ _ _ hr).elim
              | ok ys C5 =>
                rw [hr] at k2
                simp only [Res.bind_ok] at k2 ⊢
                rw [List.append_assoc]
                refine ⟨k2, ?_⟩
                split at k2
                · rename_i z
                  simp only [List.length_append, List.length_cons, List.length_nil] at z
                  rw [ra.length]
                  omega
                · exact k2.elim
            refine ⟨va, g3, kk2.2, hN C4 μ5 F5 _ (acc ++ [yv]) (va ++ [w5]) ⟨?_, s5.other g1 g2, g1, g2, upd_same, (xa.reps ra).append (.cons r5 .nil)⟩ kk2.1⟩
            have xb := x2.trans xa
            exact ⟨xb.pre, xb.fr, fun a z => by
              by_cases hb : a = D
              · subst hb; exact hD
              · rw [upd_ne hb] at z; exact xb.thr a z, xb.new, fun a o e z => by rw [upd_ne (ne_of_none e hD)]; exact xb.keep a o e z⟩
        | false =>
          simp only [if_neg Bool.false_ne_true] at k2
          have xa := X3.trans x4
          obtain ⟨g1, g2, g3⟩ := dn xa
          exact iteF (hN C3 μ4 F4 H4 acc va ⟨x2.trans xa, s4, g1, g2, g3, xa.reps ra⟩ k2)
  · exact k2.elim
theorem lc_reading {fi : Rho → Cells → Res Src} {t : D → Rho → Option Rho} {ns : List Nat} {ft fe : Rho → Cells → Res D} {m : Bool} {vs : List Nat} (hv : ∀ i ∈ ns, i ∈ vs) (σ : L2.St) (H : Hp) (Q : VK) (h : rE X.K X.mg W (fLc m vs fi t ft fe) σ H Q) :
    tLc (rI X.K X.mg W fi) (rG X.K t ns) (rT X.K X.mg W0 ft) (rE X.K X.mg W0 fe) vs σ H Q := by
  obtain ⟨ρ, C, μ, F, S, E, k⟩ := h
  refine ⟨ρ, C, μ, F, S, E, kd_bind k fun src C1 J μ1 F1 H1 x1 s1 r1 h1 => ?_⟩
  intro D hD
  have E1 := (x1.env E).wipe vs
  have L0 : LcInv X.K μ1 F1 H1 D C1 μ1 F1 (upd H1 D (.lst [])) [] [] := ⟨⟨⟨[], by simp, fun a z => nomatch z⟩, Same.refl _, fun a z => by
      by_cases hb : a = D
      · subst hb; exact hD
      · rw [upd_ne hb] at z; exact z, fun a o e1 e2 => (by rw [e1] at e2; cases e2), fun a o e _ => by rw [upd_ne (ne_of_none e hD)]; exact e⟩,
    s1.other (s1.notin hD) (s1.free hD), s1.notin hD, s1.free hD, upd_same, .nil⟩
  have pre : ∀ {C2 μ2 F2 H2 acc va}, LcInv X.K μ1 F1 H1 D C2 μ2 F2 H2 acc va → ∃ τ, μ2 = μ1 ++ τ := fun L => ⟨_, L.x2.pre.choose_spec.1⟩
  cases src with
  | fix ds =>
    refine ⟨fun i n H2 => n = ds.length - i ∧ i ≤ ds.length ∧ ∃ C2 μ2 F2 acc va, LcInv X.K μ1 F1 H1 D C2 μ2 F2 H2 acc va ∧ kd (RD X.K) X.K X.mg W (lcK m acc (lcL t ft fe (wipeD ρ vs) (ds.drop i) C2)) μ1 F1 σ H1 Q,
      ⟨ds.length, by simp, Nat.zero_le _, C1, μ1, F1, [], [], L0, h1⟩, ?_⟩
    rintro i n H2 ⟨rfl, hi, C2, μ2, F2, acc, va, L, k2⟩
    by_cases hlt : i < ds.length
    · obtain ⟨hgo, hy⟩ := r1.go i μ2 F2 C2 H2 hlt (pre L) L.x2.fr L.s2
      refine .inr ⟨hgo, _, fun H' p' => ⟨ds.length - (i + 1), by omega, p'⟩, fun x H3 y => ?_⟩
      obtain ⟨F3, d, X3, S3, ed, rd⟩ := hy x H3 y
      rw [List.drop_eq_getElem_cons hlt] at k2
      have ed' : ds[i] = d := by
        rw [List.getElem?_eq_getElem hlt] at ed
        exact Option.some.inj ed
      rw [ed'] at k2
      exact lc_step hv hD L X3 S3 rd E1 (noex_lcL _ _ _ _ _) k2 fun C' μ' F' H' acc' va' L' k' => ⟨rfl, hlt, C', μ', F', acc', va', L', k'⟩
    · have e : i = ds.length := by omega
      subst e
      rw [List.drop_length] at k2
      refine .inl ⟨r1.stop μ2 F2 C2 H2 (pre L) L.x2.fr L.s2, ?_⟩
      unfold lcK lcL at k2
      simp only [Res.bind_ok, List.append_nil] at k2
      split at k2
      · exact kd_adopt L.s2 L.x2 hD L.d1 L.d2 L.d3 L.ra k2
      · exact k2.elim
  | cel kk n =>
    refine ⟨fun i m' H2 => m' = n - i ∧ i ≤ n ∧ ∃ C2 μ2 F2 acc va, LcInv X.K μ1 F1 H1 D C2 μ2 F2 H2 acc va ∧ kd (RD X.K) X.K X.mg W (lcK m acc (lcC t ft fe (wipeD ρ vs) kk n (n - i) C2)) μ1 F1 σ H1 Q,
      ⟨n, by simp, Nat.zero_le _, C1, μ1, F1, [], [], L0, h1⟩, ?_⟩
    rintro i m' H2 ⟨rfl, hi, C2, μ2, F2, acc, va, L, k2⟩
    by_cases hlt : i < n
    · have em : n - i = (n - (i + 1)) + 1 := by omega
      rw [em] at k2
      unfold lcC at k2
      split at k2
      · rename_i ds2 e2
        split at k2
        · rename_i hn
          obtain ⟨hgo, hy⟩ := r1.go i μ2 F2 C2 H2 ds2 hlt (pre L) L.x2.fr L.s2 (asL_cel e2) hn
          refine .inr ⟨hgo, _, fun H' p' => ⟨n - (i + 1), by omega, p'⟩, fun x H3 y => ?_⟩
          obtain ⟨e3, d, ed, rd⟩ := hy x H3 y
          subst e3
          have ei : n - (n - (i + 1) + 1) = i := by omega
          rw [ei, ed] at k2
          exact lc_step hv hD L .refl L.s2 rd E1 (noex_lcC _ _ _ _ _ _ _) k2 fun C' μ' F' H' acc' va' L' k' => ⟨rfl, hlt, C', μ', F', acc', va', L', k'⟩
        · exact k2.elim
      · exact k2.elim
    · have e : i = n := by omega
      subst e
      rw [Nat.sub_self] at k2
      unfold lcC lcK at k2
      split at k2
      · rename_i z
        obtain ⟨ds2, hk, hn⟩ := cLen_some z
        refine .inl ⟨r1.stop μ2 F2 C2 H2 ds2 (pre L) L.x2.fr L.s2 hk hn, ?_⟩
        simp only [Res.bind_ok, List.append_nil] at k2
        split at k2
        · exact kd_adopt L.s2 L.x2 hD L.d1 L.d2 L.d3 L.ra k2
        · exact k2.elim
      · exact k2.elim
end
end BV
namespace BV
open PySem PySem.Spec PyProof.Rows L2

section
variable {X : Cx} {W : WX}
theorem be_lc (m : Bool) {elt tg it : Expr} {ifs : List Expr} {scope : Scope} {own : List (Str × Nat)} {pos : Pos} {fi : Rho → Cells → Res Src} {t : D → Rho → Option Rho} {ns : List Nat} {ft fe : Rho → Cells → Res D} (hc : X.calm = true) (hN : X.N.Nodup) (ok : BlkOk X.N X.env.scope scope own)
    (hv : ∀ i ∈ ns, i ∈ own.map (·.2)) (hi : BI X W tg it fi) (hg : ∀ (s : Shared) (H : Hp) (C : Addr) (cl : List (Str × Addr)) (fp : List Addr), BG (X.blk s H scope (compEnvC scope cl C X.env) fp) tg t ns)
    (ht : ∀ (s : Shared) (H : Hp) (C : Addr) (cl : List (Str × Addr)) (fp : List Addr), BTs (X.blk s H scope (compEnvC scope cl C X.env) fp) W0 ifs ft) (he : ∀ (s : Shared) (H : Hp) (C : Addr) (cl : List (Str × Addr)) (fp : List Addr), BE (X.blk s H scope (compEnvC scope cl C X.env) fp) W0 elt fe)
    (hs : ∀ x, foldedSetIterable it X.env x = pure x := by intro _; rfl) : BE X W (.ListComp elt [⟨tg, it, ifs, 0⟩] scope pos) (fLc m (own.map (·.2)) fi t ft fe) :=
  peI (pe_lc hc hN hi ok hg ht he hs) (lc_reading hv)
theorem bs_setLc (m : Bool) {i : Nat} {y : Str} {py : Pos} {elt tg it : Expr} {ifs : List Expr} {scope : Scope} {own : List (Str × Nat)} {pos spos : Pos} {fi : Rho → Cells → Res Src} {t : D → Rho → Option Rho} {ns : List Nat} {ft fe : Rho → Cells → Res D} (hc : X.calm = true) (hN : X.N.Nodup) (ok : BlkOk X.N X.env.scope scope own)
    (hv : ∀ i ∈ ns, i ∈ own.map (·.2)) (hy : X.N[i]? = some y) (hyl : X.env.scope.names.lookup y = some .local) (hsw : swapsWith (.ListComp elt [⟨tg, it, ifs, 0⟩] scope pos) (some (.Name y py)) spos.line X.env = pure true)
    (hi : BI X W tg it fi) (hg : ∀ (s : Shared) (H : Hp) (C : Addr) (cl : List (Str × Addr)) (fp : List Addr), BG (X.blk s H scope (compEnvC scope cl C X.env) fp) tg t ns)
    (ht : ∀ (s : Shared) (H : Hp) (C : Addr) (cl : List (Str × Addr)) (fp : List Addr), BTs (X.blk s H scope (compEnvC scope cl C X.env) fp) W0 ifs ft) (he : ∀ (s : Shared) (H : Hp) (C : Addr) (cl : List (Str × Addr)) (fp : List Addr), BE (X.blk s H scope (compEnvC scope cl C X.env) fp) W0 elt fe)
    (hs : ∀ x, foldedSetIterable it X.env x = pure x := by intro _; rfl) : BS X W (.Assign [.Name y py] (.ListComp elt [⟨tg, it, ifs, 0⟩] scope pos) spos) (sSet i (fLc m (own.map (·.2)) fi t ft fe)) := by
  refine psI (ps_setLc (g := rG X.K t ns) (tt := rT X.K X.mg W0 ft) (te := rE X.K X.mg W0 fe) hc hN hy hyl hsw hi ok hg ht he hs) ?_
  rintro D σ H ⟨ρ, C, μ, F, S, E, k⟩
  exact lc_reading (X := X) (W := W) hv _ _ _ ⟨ρ, C, μ, F, S, E, sd_bind E k fun d C1 v μ1 F1 H1 x1 s1 r1 h1 => sd_nx s1 ((x1.env E).set r1) h1⟩
/-- isinstance(x, (c1, c2)) -/
theorem be_isi2 {c c2 : String} {e tx ty : Expr} {f : Rho → Cells → Res D} {p pos pt : Pos} {j : Nat} (hc : c ∈ clNames) (hc2 : c2 ∈ clNames) (hg : Gl X "isinstance") (hm : X.mg "isinstance" = none) (he : BE X W e f) (hx : PE X tx (tC (.ty c))) (hy : PE X ty (tC (.ty c2)))
    (n1 : starEach [e, .Tuple [tx, ty] j pt] X.env = (false, eval e X.env) :: starEach [.Tuple [tx, ty] j pt] X.env := by rfl) (n2 : starEach [.Tuple [tx, ty] j pt] X.env = (false, eval (.Tuple [tx, ty] j pt) X.env) :: starEach [] X.env := by rfl)
    (n3 : starEach [tx, ty] X.env = (false, eval tx X.env) :: starEach [ty] X.env := by rfl) (n4 : starEach [ty] X.env = (false, eval ty X.env) :: starEach [] X.env := by rfl)
    (hpl : (backTo pos (starEach [.Tuple [tx, ty] j pt] X.env)).any (·.1) = false := by rfl) :
    BE X W (.Call (.Name "isinstance" p) [e, .Tuple [tx, ty] j pt] [] pos) (f1 (isiD [c, c2]) f) := by
  refine peI (pe_callB call_isiT hg hm (by decide +kernel) (pa_cons he (pa_cons (pe_tup (pa_cons hx (pa_cons hy pa_nil n4) n3)) pa_nil n2) n1) (he := n1) (hpl := hpl)) ?_
  rintro σ H Q ⟨ρ, C, μ, F, S, E, k⟩
  refine ⟨ρ, C, μ, F, S, E, kd_bind k fun d C1 v μ1 F1 H1 x1 s1 r1 h1 => ?_⟩
  unfold isiD at h1
  split at h1
  · rename_i t e1
    refine ⟨by show 2 ≤ sizeLine; rw [sizeLine_eq]; decide, fun p hp => ?_⟩
    obtain ⟨s2, x2⟩ := s1.alloc (o := .tup [.ty c, .ty c2]) hp
    obtain ⟨q1, q2⟩ := tyD_rep s2 (x2.rep r1) e1
    refine ⟨v, p, [.ty c, .ty c2], .type t, [.type c, .type c2], [c, c2].any fun z => isTy t z, rfl, upd_same, .cons (.ty c) (.cons (.ty c2) .nil), q1, ?_, ?_⟩
    · unfold PySem.W.kitAny PySem.W.kitAny PySem.W.kitAny
      rw [kit_ty _ t q2 c hc, kit_ty _ t q2 c2 hc2]
      simp only [List.any_cons, List.any_nil, Bool.or_false]
      cases isTy t c <;> cases isTy t c2 <;> rfl
    · exact h1 _ _ _ _ x2 s2 (.bl _)
  · exact h1.elim
end

/-! ### defs -/
/-! no cell from n on in it -/
mutual
def celOk (n : Nat) : D → Bool
  | .tup ds => celsOk n ds
  | .ftp ds => celsOk n ds
  | .lst ds => celsOk n ds
  | .cel k => decide (k < n)
  | _ => true
def celsOk (n : Nat) : List D → Bool
  | [] => true
  | d :: ds => celOk n d && celsOk n ds
end
def cellOk (n : Nat) : Cell → Bool
  | .lst ds => celsOk n ds
  | .dic ks => celsOk n (ks.map (·.2))
  | .tab _ _ => true
  | .dead => true
section
variable {K : PySem.W.Frag} {μ : List Addr} {F : Hp} {n : Nat}
mutual
theorem Rep.cutc : ∀ (d : D) (v : V), celOk n d = true → Rep K μ F v d → Rep K (μ.take n) F v d
  | .non, _, _, h => by cases h; exact .non
  | .bl b, _, _, h => by cases h; exact .bl b
  | .int i, _, _, h => by cases h; exact .int i
  | .str x, _, _, h => by cases h; exact .str x
  | .scr ns, _, _, h => by
    cases h with
    | scr a => exact .scr a
  | .tup ds, _, e, h => by
    cases h with
    | tup a b => exact .tup a (Reps.cutc ds _ (by simpa [celOk] using e) b)
  | .ftp ds, _, e, h => by
    cases h with
    | ftp a b c d => exact .ftp a b c (Reps.cutc ds _ (by simpa [celOk] using e) d)
  | .lst ds, _, e, h => by
    cases h with
    | lst a b => exact .lst a (Reps.cutc ds _ (by simpa [celOk] using e) b)
  | .cel k, _, e, h => by
    cases h with
    | cel a =>
      simp only [celOk, decide_eq_true_eq] at e
      refine .cel ?_
      rw [List.getElem?_take_of_lt e]
      exact a
theorem Reps.cutc : ∀ (ds : List D) (vs : List V), celsOk n ds = true → Reps K μ F vs ds → Reps K (μ.take n) F vs ds
  | [], _, _, h => by cases h; exact .nil
  | d :: ds, _, e, h => by
    simp only [celsOk, Bool.and_eq_true] at e
    cases h with
    | cons a b => exact .cons (Rep.cutc d _ e.1 a) (Reps.cutc ds _ e.2 b)
end
end
/-- what a def hands back: its own cells are forgotten; one that it returns is kept (m), or frozen -/
def okFin (m : Bool) (n : Nat) (d : D) (C : Cells) : Res D :=
  if (C.take n).all (cellOk n) then match d with
    | .cel k => if k < n then .ok d (C.take n) else match C[k]? with
      | some (.lst ds) => if celsOk n ds then (if m then .ok (.cel n) (C.take n ++ [.lst ds]) else .ok (.lst ds) (C.take n)) else .stuck
      | _ => .stuck
    | d => if celOk n d then .ok d (C.take n) else .stuck
  else .stuck
def exFin (n : Nat) (c : Str) (p : D) (C : Cells) : Res D := if (C.take n).all (cellOk n) && celOk n p then .ex c p (C.take n) else .stuck
def outFin (m : Bool) (n : Nat) (o : Out) : Res D := match o with
  | .nx _ C => okFin m n .non C
  | .rt d C => okFin m n d C
  | .ex c p _ C => exFin n c p C
  | _ => .stuck
def denF (m : Bool) (np N : Nat) (fb : Rho → Cells → Out) : List D → Cells → Res D := fun ds C => if ds.length = np then outFin m C.length (fb (ds.map some ++ List.replicate (N - np) none) C) else .stuck
section
variable {K : PySem.W.Frag} {mg : Str → Option Value} {W : WX} {μ μ' : List Addr} {F F' H H' : Hp} {C C' : Cells} {σ : L2.St}
theorem KReps.cutc {n : Nat} (ks : List (Key × D)) (ws : List (Key × V)) (h : celsOk n (ks.map (·.2)) = true) (r : KReps K μ F ws ks) : KReps K (μ.take n) F ws ks := ⟨r.1, Reps.cutc _ _ h r.2⟩
theorem Sim.cutc (S : Sim K μ' F' C' H') (n : Nat) (h : (C'.take n).all (cellOk n) = true) : Sim K (μ'.take n) F' (C'.take n) H' := by
  refine ⟨S.sub, by simp [S.len], S.nd.sublist (List.take_sublist _ _), fun a ha => S.trk a (List.mem_of_mem_take ha), fun k c a e1 e2 => ?_⟩
  have hk : k < n := by
    have := (List.getElem?_eq_some_iff.mp e1).1
    simp at this
    omega
  have hc : cellOk n c = true := List.all_eq_true.mp h c (List.mem_of_getElem? e1)
  rw [List.getElem?_take_of_lt hk] at e1 e2
  have q := S.cel k c a e1 e2
  cases c with
  | dead => trivial
  | lst ds =>
    obtain ⟨f, vs, g, r⟩ := q
    exact ⟨f, vs, g, Reps.cutc ds vs hc r⟩
  | dic ds =>
    obtain ⟨f, vs, g, r⟩ := q
    exact ⟨f, vs, g, KReps.cutc ds vs hc r⟩
  | tab q0 P0 =>
    obtain ⟨f, vs, g, r⟩ := q
    exact ⟨f, vs, g, r⟩
theorem Ext.cutc (x : Ext μ F H μ' F' H') : μ'.take μ.length = μ ∧ Ext μ F H μ F' H' := by
  obtain ⟨τ, e, n⟩ := x.pre
  exact ⟨by rw [e]; simp, ⟨[], by simp, fun a h => nomatch h⟩, x.fr, x.thr, x.new, x.keep⟩
theorem fin_ok {m : Bool} {d : D} {v : V} {Q : VK} (S0 : Sim K μ F C H) (x : Ext μ F H μ' F' H') (S : Sim K μ' F' C' H') (r : Rep K μ' F' v d) (h : kd (RD K) K mg W (okFin m C.length d C') μ F σ H Q) : Q v H' := by
  unfold okFin at h
  split at h
  · rename_i hall
    obtain ⟨e1, x1⟩ := x.cutc
    have S1 := S.cutc C.length hall
    rw [← S0.len, e1, S0.len] at S1
    split at h
    · rename_i k
      split at h
      · rename_i hk
        refine h v μ F' H' x1 S1 ?_
        have := Rep.cutc (n := C.length) (.cel k) v (by simp [celOk, hk]) r
        rw [← S0.len, e1] at this
        exact this
      · rename_i hk
        split at h
        · rename_i ds hd
          split at h
          · rename_i hcs
            cases r with
            | cel a =>
              rename_i a0
              obtain ⟨f, vs, g, rr⟩ := S.cel k _ _ hd a
              have rr' := Reps.cutc (n := C.length) ds vs hcs rr
              rw [← S0.len, e1] at rr'
              have ha : a0 ∈ μ' := List.mem_of_getElem? a
              obtain ⟨τ, eτ, nτ⟩ := x.pre
              have hτ : a0 ∈ τ := by
                rw [eτ, List.getElem?_append_right (by rw [S0.len]; omega)] at a
                exact List.mem_of_getElem? a
              have hn : a0 ∉ μ := fun z => by
                have := S.nd
                rw [eτ] at this
                exact (List.nodup_append.mp this).2.2 _ z _ hτ rfl
              have h' : kd (RD K) K mg W (mkL m ds (C'.take C.length)) μ F σ H Q := by
                have hlen : (C'.take C.length).length = C.length := by
                  rw [List.length_take]
                  have : C.length ≤ C'.length := by
                    rw [← S.len, ← S0.len, eτ]
                    simp
                  omega
                unfold mkL
                rw [hlen]
                exact h
              exact kd_adopt S1 x1 (nτ _ hτ) hn f g rr' h'
          · exact h.elim
        · exact h.elim
    · split at h
      · rename_i hok
        refine h v μ F' H' x1 S1 ?_
        have := Rep.cutc (n := C.length) d v hok r
        rw [← S0.len, e1] at this
        exact this
      · exact h.elim
  · exact h.elim
end

/-- a def's promise: it computes den -/
def spD (K : PySem.W.Frag) (mg : Str → Option Value) (np : Nat) (den : List D → Cells → Res D) : Sp := fun vs H Q E => vs.length = np ∧ ∃ μ F C ds, Sim K μ F C H ∧ Reps K μ F vs ds ∧ kd (RD K) K mg (fun cls d _ H' => E cls d H') (den ds C) μ F [] H Q
/-- as FnOk, where no guard is under way -/
structure FnG (P : Program) (w : World) (K : PySem.W.Frag) (mg : Str → Option Value) (base : Heap) (k : Nat) (f : Addr) (fd : FuncData) (ps : List Str) (sp : Sp) : Prop where
  len : ∀ vs H Q E, sp vs H Q E → vs.length = ps.length
  run : ∀ (A : Around) (outer : List Env) (s : Shared) (H : Hp) (args : Args) (us : List Value) (vs : List V) (Q : VK) (E : XK), A.guards = some [] → Room k A → Env0 P w K mg base A outer s H →
    BindsTo s fd args (ps.zip us) → Vals vs us → sp vs H Q E → codeAny (model P w) A (.call (.ref f) args) (CR (L2.CX P w) outer P w H s Q E) s
theorem FnG.mono {P : Program} {w : World} {K : PySem.W.Frag} {mg : Str → Option Value} {base : Heap} {j k : Nat} {f : Addr} {fd : FuncData} {ps : List Str} {sp : Sp} (G : FnG P w K mg base j f fd ps sp) (h : j ≤ k) : FnG P w K mg base k f fd ps sp :=
  ⟨G.len, fun A outer s H args us vs Q E g r => G.run A outer s H args us vs Q E g (r.mono h)⟩
section
variable {P : Program} {w : World} {K : PySem.W.Frag} {mg : Str → Option Value} {base : Heap}
/-- the context of a def's body -/
abbrev BX (P : Program) (w : World) (K : PySem.W.Frag) (mg : Str → Option Value) (base : Heap) (N : List Str) (qual : Str) (sc : Scope) (f : Addr) (cd : Value) (A : Around) (outer : List Env) (s : Shared) (H : Hp) (E : XK) : Cx :=
  cxOf (L2.CX P w) P w K mg base N qual sc f cd A outer s H E
abbrev WF (E : XK) : WX := fun cls d _ H => E cls d H
theorem fnG_of {x qual : Str} {st : Stmt} {f : Addr} {fd : FuncData} {N ps : List Str} {k : Nat} {sp : Sp} (G : Fun K x qual st f fd) (S : FnScope N ps (defScope st)) (len : ∀ vs H Q E, sp vs H Q E → vs.length = ps.length)
    (body : ∀ (cd : Value) (A : Around) (outer : List Env) (s : Shared) (H : Hp) (vs : List V) (Q : VK) (E : XK), A.guards = some [] → Room k (A.deeper (envOfC qual (defScope st) s.heap.objs.size f cd)) → sp vs H Q E →
      ∃ t, PSs (BX P w K mg base N qual (defScope st) f cd A outer s H E) (defBody st) t ∧ t { nx := fun _ H' => Q .non H', rt := Q } (L2.start N vs) H) : FnG P w K mg base (k + 1) f fd ps sp := by
  obtain ⟨oc, od, kV, doc, pm, an, cd, ct, osl, rfl, look, code⟩ := G.ex
  constructor
  · exact len
  intro A outer s H args us vs Q E gd room e0 bind rel want
  have inS : K.In s.heap := e0.mod.kin.keeps fun b o q => (e0.bs b o q).1
  have noLim : s.heap.NoLimit := e0.mod.nolimit.keeps fun b o q => (e0.bs b o q).1
  have kinds : ∀ y ∈ ps.zip us, (defScope st).names.lookup y.1 = some .local ∨ ((defScope st).names.lookup y.1 = some .cell ∧ ((cellsFrom (s.heap.objs.size + 1) (defScope st).names []).lookup y.1).isSome = true) := by
    rintro ⟨n, v⟩ hy
    have hn := (List.of_mem_zip hy).1
    cases S.par n hn with
    | inl q => exact .inl q
    | inr q => exact .inr ⟨q, PySem.W.cellsFrom_some _ _ _ (.inl q)⟩
  refine codeAny_call_function room.depth (inS _ _ look) rfl S.co S.gen rfl (PySem.W.codeRec_of inS code) (bind _ _ _ _ (wpAny_newFunctionEnv_cells S.kind kinds fun env henv s1 hs1 => ?_))
  subst henv
  refine ⟨noLim.keeps hs1.toInCall.keep, codeAny_func ?_⟩
  obtain ⟨t, ht, hq⟩ := body cd A outer s H vs Q E gd (room.deeper _) want
  have I := inv_start (CX := L2.CX P w) (N := N) (f := f) (E := E) S room.hd e0 (len _ _ _ _ want) rel hs1
  refine wpAny_mono (ht.run [] s1 (L2.start N vs) H _ I hq) (fun fl s' h' => ?_) fun e s' h' => h'
  cases fl with
  | brk => exact h'.elim fun _ z => z.elim fun _ z => z.2.elim
  | cont => exact h'.elim fun _ z => z.elim fun _ z => z.2.elim
  | next =>
    obtain ⟨σ', H', J, q⟩ := h'
    exact ⟨.non, H', J.os, J.bare, J.base, J.hok, rfl, q⟩
  | ret u =>
    obtain ⟨v, σ', H', J, r, q⟩ := h'
    exact ⟨v, H', J.os, J.bare, J.base, J.hok, r, q⟩
/-- at a def's entry -/
theorem den_enters {N ps : List Str} {m : Bool} {fb : Rho → Cells → Out} {vs : List V} {H : Hp} {Q : VK} {E : XK} (hps : ps.length ≤ N.length) (h : spD K mg ps.length (denF m ps.length N.length fb) vs H Q E) :
    rS K mg (WF E) fb { nx := fun _ H' => Q .non H', rt := Q } (L2.start N vs) H := by
  obtain ⟨hl, μ, F, C, ds, S0, r, k0⟩ := h
  have hd : ds.length = ps.length := by rw [← r.length]; exact hl
  unfold denF at k0
  rw [if_pos hd] at k0
  refine ⟨ds.map some ++ List.replicate (N.length - ps.length) none, C, μ, F, S0, ⟨?_, fun i d e => ?_⟩, ?_⟩
  · unfold L2.start
    simp [hl, hd]
  · have hi : i < ds.length := by
      by_cases z : i < ds.length
      · exact z
      · rw [List.getElem?_append_right (by simp; omega)] at e
        have := List.mem_of_getElem? e
        simp at this
    rw [List.getElem?_append_left (by simpa using hi)] at e
    simp only [List.getElem?_map, Option.map_eq_some_iff] at e
    obtain ⟨d', e1, e2⟩ := e
    cases e2
    obtain ⟨v, e3, rv⟩ := r.get e1
    refine ⟨v, ?_, rv⟩
    unfold L2.start
    rw [List.getElem?_append_left (by simp; rw [r.length]; exact hi), List.getElem?_map, e3]
    rfl
  · generalize fb (ds.map some ++ List.replicate (N.length - ps.length) none) C = o at k0
    cases o with
    | nx ρ' C' => exact fun σ μ' F' H' x S' E' => fin_ok (m := m) S0 x S' .non k0
    | rt d C' => exact fun v μ' F' H' x S' r' => fin_ok (m := m) S0 x S' r' k0
    | bk ρ' C' => exact k0.elim
    | ct ρ' C' => exact k0.elim
    | stuck => exact k0.elim
    | ex c p ρ' C' =>
      intro cls dx σ μ' F' H' x S' E' xr
      unfold outFin exFin at k0
      simp only at k0
      split at k0
      · rename_i z
        simp only [Bool.and_eq_true] at z
        obtain ⟨e1, x1⟩ := x.cutc
        have S1 := S'.cutc C.length z.1
        rw [← S0.len, e1, S0.len] at S1
        obtain ⟨h1, d, v, h2, h3, h4, hn⟩ := xr
        have h5 := Rep.cutc (n := C.length) p v z.2 h4
        rw [← S0.len, e1] at h5
        exact k0 cls dx μ F' H' x1 S1 ⟨h1, d, v, h2, h3, h5, fun z => hn (by rw [← e1] at z; exact List.mem_of_mem_take z)⟩
      · exact k0.elim
/-- a def's body computes: so the def does -/
theorem fnG_den {x qual : Str} {st : Stmt} {f : Addr} {fd : FuncData} {N ps : List Str} {k : Nat} (m : Bool) {fb : Rho → Cells → Out} (G : Fun K x qual st f fd) (S : FnScope N ps (defScope st)) (hps : ps.length ≤ N.length)
    (body : ∀ (cd : Value) (A : Around) (outer : List Env) (s : Shared) (H : Hp) (E : XK), A.guards = some [] → Room k (A.deeper (envOfC qual (defScope st) s.heap.objs.size f cd)) →
      BSs (BX P w K mg base N qual (defScope st) f cd A outer s H E) (WF E) (defBody st) fb) : FnG P w K mg base (k + 1) f fd ps (spD K mg ps.length (denF m ps.length N.length fb)) := by
  exact fnG_of G S (fun vs H Q E h => h.1) fun cd A outer s H vs Q E gd room h => ⟨_, body cd A outer s H E gd room, den_enters hps h⟩
end
section
variable {X : Cx} {W : WX} {k : Nat} {f : Addr} {fd : FuncData} {ps : List Str} {den : List D → Cells → Res D} {x : Str} {p pos : Pos} {e : Expr} {es : List Expr} {fs : Rho → Cells → Res (List D)}
theorem run_fnG {pins : List (Addr × Obj)} {σ : L2.St} {H : Hp} {s : Shared} {Q : VK} {args : Args} {us : List Value} {vs : List V} {ds : List D} {C : Cells} {μ : List Addr} {F : Hp} (G : FnG X.prog X.w X.K X.mg X.base k f fd ps (spD X.K X.mg ps.length den)) (hr : Room k X.A) (hgd : X.A.guards = some []) (tk : Takes X W)
    (I : Inv X pins σ H s) (hb : BindsTo s fd args (ps.zip us)) (r : Vals vs us) (S : Sim X.K μ F C H) (rs : Reps X.K μ F vs ds) (hl : vs.length = ps.length) (h : kd (RD X.K) X.K X.mg W (den ds C) μ F σ H Q) :
    codeAny (model X.prog X.w) X.A (.call (.ref f) args) (fun r s' => match r with | .ok (.ret u) => EP X pins σ Q u s' | .ok _ => False | .error e => X.xe e s') s := by
  refine codeAny_mono (G.run X.A X.stack s H args us vs Q (WE W σ) hgd hr I.env0 hb r ⟨hl, μ, F, C, ds, S, rs, ?_⟩) fun q s' hq => ?_
  · cases hd : den ds C with
    | ok d C1 =>
      rw [hd] at h
      exact h
    | ex c p C1 =>
      rw [hd] at h
      exact h
    | stuck =>
      rw [hd] at h
      exact h
  · cases q with
    | error e => exact passAt tk σ pins H s e s' I hq
    | ok fl =>
      cases fl with
      | ret u => exact I.after hq
      | next => exact False.elim hq
      | brk => exact False.elim hq
      | cont => exact False.elim hq
theorem call_fnG {pins : List (Addr × Obj)} {σ : L2.St} {H : Hp} {s : Shared} {Q : VK} {args : List Value} {kw : List (Str × Value)} {us : List Value} {vs : List V} {ds : List D} {C : Cells} {μ : List Addr} {F : Hp} (G : FnG X.prog X.w X.K X.mg X.base k f fd ps (spD X.K X.mg ps.length den)) (hr : Room k X.A) (hgd : X.A.guards = some []) (tk : Takes X W)
    (I : Inv X pins σ H s) (hb : BindsTo s fd ⟨args, kw⟩ (ps.zip us)) (r : Vals vs us) (S : Sim X.K μ F C H) (rs : Reps X.K μ F vs ds) (hl : vs.length = ps.length) (h : kd (RD X.K) X.K X.mg W (den ds C) μ F σ H Q) :
    wpAny (model X.prog X.w) X.A (call (.ref f) args kw) (EP X pins σ Q) X.xe s := by
  refine wpAny_call (codeAny_mono (run_fnG G hr hgd tk I hb r S rs hl h) fun q s' hq => ?_)
  cases q with
  | error e => exact hq
  | ok fl =>
    cases fl with
    | ret u => exact hq
    | next => exact False.elim hq
    | brk => exact False.elim hq
    | cont => exact False.elim hq
def oCall (np : Nat) (den : List D → Cells → Res D) (ds : List D) (C : Cells) : Res D := if ds.length = np then den ds C else .stuck
theorem be_call (G : FnG X.prog X.w X.K X.mg X.base k f fd ps (spD X.K X.mg ps.length den)) (hr : Room k X.A) (hgd : X.A.guards = some []) (tk : Takes X W) (hg : Gl X x) (hm : X.mg x = some (.ref f)) (hk : PySem.W.keepIn X.K (.ref f) = true) (hb : Binds X.K fd ps [])
    (ha : BA X W (e :: es) fs) (hdb : (x == ("__debug__" : Str)) = false := by decide) (he : starEach (e :: es) X.env = (false, eval e X.env) :: starEach es X.env := by rfl) (hpl : (backTo pos (starEach es X.env)).any (·.1) = false := by rfl) :
    BE X W (.Call (.Name x p) (e :: es) [] pos) (fA (oCall ps.length den) fs) := by
  refine ⟨fun pins s σ H Q I h => ?_⟩
  obtain ⟨ρ, C, μ, F, S, E, k0⟩ := h
  refine wpAny_Call_Name_kw (ld_glob I hg hm (PySem.W.callWith_K (h₀ := X.base) I.ok.mod.kin hk (thn (ha.run pos pins s σ H (fun vs H1 => ∃ ds C1 μ1 F1, Sim X.K μ1 F1 C1 H1 ∧ Reps X.K μ1 F1 vs ds ∧ kd (RD X.K) X.K X.mg W (oCall ps.length den ds C1) μ1 F1 σ H1 Q) I ?_) fun us s1 hu => ?_) he hpl) hdb)
  · exact ⟨ρ, C, μ, F, S, E, kd_bind k0 fun d C1 v μ1 F1 H1 x1 s1 r1 h1 => ⟨d, C1, μ1, F1, s1, r1, h1⟩⟩
  · obtain ⟨vs, H1, I1, r, ds, C1, μ1, F1, S1, rs, h1⟩ := hu
    unfold oCall at h1
    split at h1
    · rename_i hl
      have hlv : vs.length = ps.length := by rw [rs.length]; exact hl
      have hlu : us.length = ps.length := by rw [← r.length]; exact hlv
      have hbb := hb s1 us I1.kIn (by rw [List.append_nil]; exact hlu)
      rw [List.append_nil] at hbb
      exact ⟨I1.kIn, call_fnG G hr hgd tk I1 hbb r S1 rs hlv h1⟩
    · exact h1.elim
end
end BV
namespace BV
open PySem PySem.Spec PyProof.Rows L2

section
variable {X : Cx} {W : WX} {k : Nat} {f : Addr} {fd : FuncData} {ps ks : List Str} {den : List D → Cells → Res D} {x : Str} {p pos : Pos} {e : Expr} {es : List Expr} {kws : List Keyword} {fs fk : Rho → Cells → Res (List D)} {nm : Option Str} {kpos : Pos} {fe : Rho → Cells → Res D}
/-! ### calls with keywords -/
abbrev BK (X : Cx) (W : WX) (kws : List Keyword) (f : Rho → Cells → Res (List D)) : Prop := PK X kws (rA X.K X.mg W f)
theorem pkI {kws : List Keyword} {t t' : TA} (h : PK X kws t) (q : ∀ σ H Q, t' σ H Q → t σ H Q) : PK X kws t' := ⟨fun pos pins s σ H Q I z => h.run pos pins s σ H Q I (q σ H Q z)⟩
theorem bk_nil : BK X W [] aNil := by
  refine pkI pk_nil ?_
  rintro σ H Q ⟨ρ, C, μ, F, S, E, q⟩
  exact kd_ret S .nil q
theorem bk_cons (ha : BE X W e fe) (hr : BK X W kws fk) : BK X W (⟨nm, e, kpos⟩ :: kws) (aCons fe fk) := by
  refine pkI (pk_cons ha hr) ?_
  rintro σ H Q ⟨ρ, C, μ, F, S, E, q⟩
  refine ⟨ρ, C, μ, F, S, E, kd_bind q fun d C1 v μ1 F1 H1 x1 s1 r1 h1 => ?_⟩
  refine ⟨ρ, C1, μ1, F1, s1, x1.env E, kd_bind h1 fun d2 C2 v2 μ2 F2 H2 x2 s2 r2 h2 => ?_⟩
  exact kd_ret s2 (.cons (x2.rep r1) r2) h2
/-- how keywords come to the parameters: π tells by parameter its place among the handed values (the positional ones, then the keywords') -/
def permL {α : Type} (π : List Nat) (xs : List α) : List α := π.filterMap fun i => xs[i]?
structure KOk (K : PySem.W.Frag) (fd : FuncData) (ps ks : List Str) (π : List Nat) (n : Nat) : Prop where
  to : ∀ (s : Shared) (us ws : List Value), K.In s.heap → us.length = n → ws.length = ks.length → BindsTo s fd ⟨us, ks.zip ws⟩ (ps.zip (permL π (us ++ ws)))
theorem Reps.perm {K : PySem.W.Frag} {μ : List Addr} {F : Hp} {vs : List V} {ds : List D} (r : Reps K μ F vs ds) : ∀ π : List Nat, Reps K μ F (permL π vs) (permL π ds)
  | [] => .nil
  | i :: π => by
    unfold permL
    simp only [List.filterMap_cons]
    cases h : ds[i]? with
    | none =>
      have h2 : vs[i]? = none := by
        rw [List.getElem?_eq_none_iff] at h ⊢
        rw [r.length]
        exact h
      rw [h2]
      exact Reps.perm r π
    | some d =>
      obtain ⟨v, h2, rv⟩ := r.get h
      rw [h2]
      exact .cons rv (Reps.perm r π)
theorem vals_perm {vs : List V} {us : List Value} (r : Vals vs us) : ∀ π : List Nat, Vals (permL π vs) (permL π us)
  | [] => .nil
  | i :: π => by
    unfold permL
    simp only [List.filterMap_cons]
    cases h : vs[i]? with
    | none =>
      rw [r.none_of h]
      exact vals_perm r π
    | some d =>
      obtain ⟨v, h2, rv⟩ := r.get h
      rw [h2]
      exact .cons rv (vals_perm r π)
def oCallK (np n m : Nat) (π : List Nat) (den : List D → Cells → Res D) (ds es : List D) (C : Cells) : Res D := if ds.length = n ∧ es.length = m ∧ (permL π (ds ++ es)).length = np then den (permL π (ds ++ es)) C else .stuck
def fAK (o : List D → List D → Cells → Res D) (fs fk : Rho → Cells → Res (List D)) : Rho → Cells → Res D := fun ρ C => (fs ρ C).bind fun xs C1 => (fk ρ C1).bind fun ys C2 => o xs ys C2
theorem be_callK {n : Nat} {π : List Nat} (G : FnG X.prog X.w X.K X.mg X.base k f fd ps (spD X.K X.mg ps.length den)) (hr : Room k X.A) (hgd : X.A.guards = some []) (tk : Takes X W) (hg : Gl X x) (hm : X.mg x = some (.ref f)) (hk : PySem.W.keepIn X.K (.ref f) = true) (hb : KOk X.K fd ps ks π n)
    (ha : BA X W (e :: es) fs) (hkw : BK X W kws fk) (hall : (backToKw pos (keywordEach kws X.env)).all (·.1.isSome) = true := by rfl) (hks : (backToKw pos (keywordEach kws X.env)).filterMap (·.1) = ks := by rfl)
    (hdb : (x == ("__debug__" : Str)) = false := by decide) (he : starEach (e :: es) X.env = (false, eval e X.env) :: starEach es X.env := by rfl)
    (hpl : ((backTo pos (starEach (e :: es) X.env)).any (·.1) || (backToKw pos (keywordEach kws X.env)).any (·.1.isNone)) = false := by rfl) :
    BE X W (.Call (.Name x p) (e :: es) kws pos) (fAK (oCallK ps.length n ks.length π den) fs fk) := by
  refine ⟨fun pins s σ H Q I h => ?_⟩
  obtain ⟨ρ, C, μ, F, S, E, k0⟩ := h
  refine wpAny_Call_Name_kw (ld_glob I hg hm (PySem.W.callWith_KW (h₀ := X.base) I.ok.mod.kin hk hall (thn (ha.run pos pins s σ H (fun vs H1 => rA X.K X.mg W fk σ H1 (fun ws H2 => ∃ ds C1 μ1 F1, Sim X.K μ1 F1 C1 H2 ∧ Reps X.K μ1 F1 (permL π (vs ++ ws)) ds ∧ vs.length = n ∧ ws.length = ks.length ∧ (permL π (vs ++ ws)).length = ps.length ∧ kd (RD X.K) X.K X.mg W (den ds C1) μ1 F1 σ H2 Q)) I ?_) fun us s1 hu => ?_) hpl he) hdb)
  · refine ⟨ρ, C, μ, F, S, E, kd_bind k0 fun d C1 v μ1 F1 H1 x1 s1 r1 h1 => ⟨ρ, C1, μ1, F1, s1, x1.env E, kd_bind h1 fun d2 C2 v2 μ2 F2 H2 x2 s2 r2 h2 => ?_⟩⟩
    unfold oCallK at h2
    split at h2
    · rename_i z
      have rr := ((x2.reps r1).append r2).perm π
      exact ⟨_, C2, μ2, F2, s2, rr, by rw [r1.length]; exact z.1, by rw [r2.length]; exact z.2.1, by rw [rr.length]; exact z.2.2, h2⟩
    · exact h2.elim
  · obtain ⟨vs, H1, I1, r, q⟩ := hu
    refine thn (hkw.run pos pins s1 σ H1 _ I1 q) fun ws s2 hw => ?_
    obtain ⟨zs, H2, I2, rz, ds, C1, μ1, F1, S1, rs, l1, l2, l3, h1⟩ := hw
    refine ⟨I2.kIn, ?_⟩
    rw [hks]
    have rv := vals_perm (r.append rz) π
    exact call_fnG G hr hgd tk I2 (hb.to s2 us ws I2.kIn (by rw [← r.length]; exact l1) (by rw [← rz.length]; exact l2)) rv S1 rs l3 h1
end

/-! ### the end of a law -/
section
theorem lawG {P : Program} {w : World} {K : PySem.W.Frag} {mg mb : Str → Option Value} {k : Nat} {fa a : Addr} {fd : FuncData} {x : Str} {den : List D → Cells → Res D} {C1 : Cells} {s1 : Shared} {vs : List Value} {ns : List Int}
    (inK : K.In s1.heap) (gl : s1.heap.Ns mainGlobals mg) (bl : s1.heap.Ns builtinsNs mb) (bl2 : ∀ x : Str, x ≠ "__name__" → mb x = bootBuiltins x) (lim : s1.heap.NoLimit) (gens : s1.gens = #[])
    (scr : s1.heap.get? a = some { cls := .type "list", data := .seq vs.toArray }) (isI : IntsAre vs ns) (few : ns.length ≤ sizeLine) (room : Room k callerA)
    (G : ∀ base : Heap, K.In base → base.Ns mainGlobals mg → FnG P w K mg base k fa fd [x] (spD K mg 1 den)) (bind : ∀ (s : Shared) (u : Value), BindsTo s fd ⟨[u], []⟩ [(x, u)])
    (good : den [.scr ns] [] = .ok (.bl true) C1) :
    codeAny (model P w) callerA (.call (.ref fa) ⟨[.ref a], []⟩) (fun r s' => r = .ok (.ret (.bool true)) ∧ OldK s1.heap s'.heap ∧ s'.os = s1.os ∧ AllBare s'.gens) s1 := by
  have rel := vals_ints isI
  -- what is tracked: the script, locked, unless it is one of the module's own objects
  have go : ∀ H : Hp, (∀ b u, H b = some u → b = a ∧ u = .frz { cls := .type "list", data := .seq vs.toArray } (.lst (ns.map V.int)) ∧ K.lookup a = none) → SqL K H a (ns.map V.int) →
      codeAny (model P w) callerA (.call (.ref fa) ⟨[.ref a], []⟩) (fun r s' => r = .ok (.ret (.bool true)) ∧ OldK s1.heap s'.heap ∧ s'.os = s1.os ∧ AllBare s'.gens) s1 := by
    intro H only seq
    have ok : HOk P w H s1.heap := fun b u e => by
      obtain ⟨rfl, rfl, _⟩ := only b u e
      exact ⟨scr, by rw [List.length_map]; exact few, vs, _, rel, scr⟩
    have hide : ∀ {b : Addr} {o : Obj}, s1.heap.get? b = some o → H b = none → (hidT s1.heap H).get? b = some o := fun e n => hidT_get e n
    have nodict : ∀ {b : Addr} {o : Obj} {es : Array DictEntry} {ep : Nat}, s1.heap.get? b = some o → o.data = .dict es ep → H b = none := by
      intro b o es ep e d
      cases q : H b with
      | none => rfl
      | some u =>
        obtain ⟨rfl, _, _⟩ := only b u q
        rw [scr] at e
        cases e
        have d' : Data.seq vs.toArray _ = Data.dict es ep := d
        cases d'
    have nsOf : ∀ {b : Addr} {m : Str → Option Value}, s1.heap.Ns b m → (hidT s1.heap H).Ns b m := fun ⟨o, es, ep, e, d, r⟩ => ⟨o, es, ep, hide e (nodict e d), d, r⟩
    have inB : K.In (hidT s1.heap H) := fun b o e => hide (inK b o e) (by
      cases q : H b with
      | none => rfl
      | some u =>
        obtain ⟨rfl, _, z⟩ := only b u q
        rw [z] at e
        cases e)
    have md : Mod K mg (hidT s1.heap H) := ⟨inB, nsOf gl, ⟨mb, nsOf bl, bl2⟩, let ⟨mc, h1, h2⟩ := lim; ⟨mc, nsOf h1, h2⟩⟩
    have env0 : Env0 P w K mg (hidT s1.heap H) callerA [] s1 H := ⟨rfl, md, fun b o e => of_hidT e, Nat.le_of_eq (hidT_size _ _), trivial, fun b hb => absurd (show b ∈ ([] : List Addr) from hb) List.not_mem_nil, ok, .of_eq gens⟩
    refine codeAny_mono ((G _ inB (nsOf gl)).run callerA [] s1 H ⟨[.ref a], []⟩ [.ref a] [.ref a] (fun v _ => v = .bl true) (fun _ _ _ => False) rfl room env0 (bind s1 (.ref a)) (.cons rfl .nil) ⟨rfl, [], H, [], [.scr ns], ?_, .cons (.scr seq) .nil, ?_⟩) fun r s' h => ?_
    · exact ⟨Same.refl H, rfl, .nil, fun a h => (nomatch h), fun k c a e _ => by simp at e⟩
    · rw [good]
      intro v μ' F' H' _ _ r
      cases r
      rfl
    · cases r with
      | error e =>
        obtain ⟨_, _, _, _, _, _, _, _, _, _, _, _, z⟩ := h
        exact z.elim
      | ok fl =>
        cases fl with
        | next => exact False.elim h
        | brk => exact False.elim h
        | cont => exact False.elim h
        | ret u =>
          obtain ⟨v, H', os, bare, un, ok', r', q⟩ := h
          subst q
          obtain rfl : u = Value.bool true := r'
          refine ⟨rfl, OldK.of_keep fun b o e => ?_, os, bare⟩
          cases q : H b with
          | none => exact un.keep b o e q (fun z => nomatch (show b ∈ ([] : List Addr) from z)) (by simp)
          | some u =>
            obtain ⟨rfl, rfl, _⟩ := only b u q
            obtain ⟨e2, _⟩ := ok' b _ (un.frzs b _ _ q)
            rw [scr] at e
            cases e
            exact e2
  cases hk : K.lookup a with
  | some o =>
    have e := inK a o hk
    rw [scr] at e
    cases e
    exact go (fun _ => none) (fun b u z => nomatch z) (.inr ⟨_, vs.toArray, _, hk, rfl, rfl, rfl, by rw [List.size_toArray, isI.length]; exact few, by simpa using rel⟩)
  | none =>
    refine go (fun b => if b = a then some (.frz { cls := .type "list", data := .seq vs.toArray } (.lst (ns.map V.int))) else none) (fun b u z => ?_) (.inl (.inr ⟨_, if_pos rfl⟩))
    by_cases hb : b = a
    · subst hb
      have z' := (if_pos rfl).symm.trans z
      cases z'
      exact ⟨rfl, rfl, hk⟩
    · have z' := (if_neg hb).symm.trans z
      cases z'
/-- the goal that k_head leaves, from the denotation of the law -/
theorem walkG {l : PySem.W.OpenLaw} {k : Nat} {q : Program} {loose : List Str} {XP : (Str → Option Value) → Heap → Prop} {YP : World → Heap → Prop} {d : DefRec} {K : Params → PySem.W.Frag} {x : Str} {den : List D → Cells → Res D}
    (hn : l.most = some 63) (hdf : d.params.defaults = []) (room : Room k callerA) (hY : ∀ (w : World) (h : Heap), YP w h → (K w.params).In h)
    (G : ∀ (w : World) (mg : Str → Option Value) (fa : Addr) (h : Heap), (K w.params).In h → h.Ns mainGlobals mg → mg d.name = some (.ref fa) →
      ∃ fd : FuncData, (∀ (s : Shared) (u : Value), BindsTo s fd ⟨[u], []⟩ [(x, u)]) ∧ ∀ base : Heap, (K w.params).In base → base.Ns mainGlobals mg → FnG l.prog w (K w.params) mg base k fa fd [x] (spD (K w.params) mg 1 den))
    (good : ∀ ns : List Int, ns.length ≤ 63 → ∃ C1, den [.scr ns] [] = .ok (.bl true) C1) : PySem.W.WalkO q loose XP YP l.row.toRowW d [] (fun f vs => PySem.call f vs) := by
  refine Att.attach_call hn hdf fun w s0 s1 mg mb fa o pm cd doc a vs ns T Y ho hd hcd hmg hobj isI len gens => ?_
  obtain ⟨fd, hb, hG⟩ := G w mg fa _ (hY w _ Y) T.T.g hmg
  obtain ⟨C1, hC⟩ := good ns len
  exact lawG (hY w _ Y) T.T.g T.T.b T.T.builtins T.T.nolimit gens hobj isI (Nat.le_trans len (by rw [sizeLine_eq]; decide)) room hG hb hC
end
end BV
namespace BV
open PySem PySem.Spec PyProof.Rows L2
theorem bb_len : bootBuiltins "len" = some (.builtin "len") := by decide +kernel
theorem bb_abs : bootBuiltins "abs" = some (.builtin "abs") := by decide +kernel
theorem bb_max : bootBuiltins "max" = some (.builtin "max") := by decide +kernel
theorem bb_min : bootBuiltins "min" = some (.builtin "min") := by decide +kernel
theorem bb_sum : bootBuiltins "sum" = some (.builtin "sum") := by decide +kernel
theorem bb_all : bootBuiltins "all" = some (.builtin "all") := by decide +kernel
theorem bb_any : bootBuiltins "any" = some (.builtin "any") := by decide +kernel
theorem bb_repr : bootBuiltins "repr" = some (.builtin "repr") := by decide +kernel
theorem bb_int : bootBuiltins "int" = some (.type "int") := by decide +kernel
theorem bb_bool : bootBuiltins "bool" = some (.type "bool") := by decide +kernel
theorem bb_str : bootBuiltins "str" = some (.type "str") := by decide +kernel
theorem bb_list : bootBuiltins "list" = some (.type "list") := by decide +kernel
theorem bb_tuple : bootBuiltins "tuple" = some (.type "tuple") := by decide +kernel
theorem hu65 {k : Nat} {A : Around} (r : Room k A) : A.units + 65 < cLine := by have := r.un; omega
theorem hu64 {k : Nat} {A : Around} (r : Room k A) : A.units + 64 < cLine := by have := r.un; omega
section
variable {X : Cx} {W : WX} {x : Str} {p pos : Pos}
theorem be_gint {i : Int} (hg : Gl X x) (h : ∃ t, X.mg x = some (.int i t)) (hd : (x == ("__debug__" : Str)) = false := by decide) : BE X W (.Name x p) (fC (.int i)) := by
  obtain ⟨t, e⟩ := h
  exact be_c (v := .int i) (pe_glob hg e (show RelV (.int i) (.int i t) from ⟨t, rfl⟩) hd) fun _ _ => .int i
theorem be_gstr {i : Str} (hg : Gl X x) (h : ∃ t, X.mg x = some (.str i t)) (hd : (x == ("__debug__" : Str)) = false := by decide) : BE X W (.Name x p) (fC (.str i)) := by
  obtain ⟨t, e⟩ := h
  exact be_c (v := .str i) (pe_glob hg e (show RelV (.str i) (.str i t) from ⟨t, rfl⟩) hd) fun _ _ => .str i
variable {k : Nat} {f : Addr} {fd : FuncData} {ps ks : List Str} {den : List D → Cells → Res D} {kws : List Keyword} {fk : Rho → Cells → Res (List D)}
def fK0 (o : List D → Cells → Res D) (fk : Rho → Cells → Res (List D)) : Rho → Cells → Res D := fun ρ C => (fk ρ C).bind fun ys C2 => o ys C2
def oCallK0 (np m : Nat) (π : List Nat) (den : List D → Cells → Res D) (es : List D) (C : Cells) : Res D := if es.length = m ∧ (permL π es).length = np then den (permL π es) C else .stuck
theorem be_callK0 {π : List Nat} (G : FnG X.prog X.w X.K X.mg X.base k f fd ps (spD X.K X.mg ps.length den)) (hr : Room k X.A) (hgd : X.A.guards = some []) (tk : Takes X W) (hg : Gl X x) (hm : X.mg x = some (.ref f)) (hk : PySem.W.keepIn X.K (.ref f) = true) (hb : KOk X.K fd ps ks π 0)
    (hkw : BK X W kws fk) (hall : (backToKw pos (keywordEach kws X.env)).all (·.1.isSome) = true := by rfl) (hks : (backToKw pos (keywordEach kws X.env)).filterMap (·.1) = ks := by rfl)
    (hdb : (x == ("__debug__" : Str)) = false := by decide) (hpl : ((backTo pos (starEach [] X.env)).any (·.1) || (backToKw pos (keywordEach kws X.env)).any (·.1.isNone)) = false := by rfl) :
    BE X W (.Call (.Name x p) [] kws pos) (fK0 (oCallK0 ps.length ks.length π den) fk) := by
  refine ⟨fun pins s σ H Q I h => ?_⟩
  obtain ⟨ρ, C, μ, F, S, E, k0⟩ := h
  refine wpAny_Call_Name_kw (ld_glob I hg hm (PySem.W.callWith_KW0 (h₀ := X.base) I.ok.mod.kin hk hall (thn (hkw.run pos pins s σ H (fun ws H2 => ∃ ds C1 μ1 F1, Sim X.K μ1 F1 C1 H2 ∧ Reps X.K μ1 F1 (permL π ws) ds ∧ ws.length = ks.length ∧ (permL π ws).length = ps.length ∧ kd (RD X.K) X.K X.mg W (den ds C1) μ1 F1 σ H2 Q) I ?_) fun ws s2 hw => ?_) hpl) hdb)
  · refine ⟨ρ, C, μ, F, S, E, kd_bind k0 fun d2 C2 v2 μ2 F2 H2 x2 s2 r2 h2 => ?_⟩
    unfold oCallK0 at h2
    split at h2
    · rename_i z
      have rr := r2.perm π
      exact ⟨_, C2, μ2, F2, s2, rr, by rw [r2.length]; exact z.1, by rw [rr.length]; exact z.2, h2⟩
    · exact h2.elim
  · obtain ⟨zs, H2, I2, rz, ds, C1, μ1, F1, S1, rs, l2, l3, h1⟩ := hw
    refine ⟨I2.kIn, ?_⟩
    rw [hks]
    exact call_fnG G hr hgd tk I2 (hb.to s2 [] ws I2.kIn rfl (by rw [← rz.length]; exact l2)) (vals_perm rz π) S1 rs l3 h1
end
/-- a def of the module: where it stands, what its name is bound to -/
structure DefAt (K : PySem.W.Frag) (mg : Str → Option Value) (x : Str) (st : Stmt) (ps : List Str) (f : Addr) (fd : FuncData) : Prop where
  F : Fun K x x st f fd
  m : mg x = some (.ref f)
  b : Binds K fd ps []
  e : ∃ kV doc pm an cdv ct, fd = PySem.W.fnOf x x (defArgs st) (defBody st) (defScope st) .none kV doc pm an cdv ct
theorem defAt_mk {K : PySem.W.Frag} {mg : Str → Option Value} {h : Heap} {x : Str} {st : Stmt} {ps : List Str} {f : Addr} {oc : Value} {od an : Option Addr} {osl : Array (Option Value)} {kV doc pm cdv ct : Value} (X : K.In h) (G : h.Ns mainGlobals mg)
    (a : PySem.W.nsIn K mainGlobals x = some (some (.ref f))) (l : K.lookup f = some ⟨oc, od, .func (PySem.W.fnOf x x (defArgs st) (defBody st) (defScope st) .none kV doc pm an cdv ct), osl⟩) (c : PySem.W.codeIn K cdv x = true) (k : PySem.W.keepIn K (.ref f) = true)
    (hb : ∀ (kV doc pm : Value) (an : Option Addr) (cdv ct : Value) (us : List Value), us.length = ps.length → bindArgs (PySem.W.fnOf x x (defArgs st) (defBody st) (defScope st) .none kV doc pm an cdv ct) ⟨us, []⟩ = pure (ps.zip us)) :
    DefAt K mg x st ps f (PySem.W.fnOf x x (defArgs st) (defBody st) (defScope st) .none kV doc pm an cdv ct) :=
  ⟨fun_mk l c k, PySem.W.mg_of X G a, (fun_mk l c k).binds hb, ⟨kV, doc, pm, an, cdv, ct, rfl⟩⟩
theorem kOk_mk {K : PySem.W.Frag} {mg : Str → Option Value} {x : Str} {st : Stmt} {ps ks : List Str} {f : Addr} {fd : FuncData} {π : List Nat} {n : Nat} (Da : DefAt K mg x st ps f fd)
    (hb : ∀ (kV doc pm : Value) (an : Option Addr) (cdv ct : Value) (us ws : List Value), us.length = n → ws.length = ks.length → bindArgs (PySem.W.fnOf x x (defArgs st) (defBody st) (defScope st) .none kV doc pm an cdv ct) ⟨us, ks.zip ws⟩ = pure (ps.zip (permL π (us ++ ws)))) : KOk K fd ps ks π n := by
  obtain ⟨kV, doc, pm, an, cdv, ct, rfl⟩ := Da.e
  exact ⟨fun s us ws _ h1 h2 => .of_eq (hb kV doc pm an cdv ct us ws h1 h2)⟩
end BV
namespace BV
open PySem PySem.Spec PyProof.Rows L2

/-! ### reckoning with denotations -/
@[simp] theorem e_var (i : Nat) (ρ : Rho) (C : Cells) : fVar i ρ C = match ρ[i]? with | some (some d) => .ok d C | _ => .stuck := rfl
@[simp] theorem e_c (d : D) (ρ : Rho) (C : Cells) : fC d ρ C = .ok d C := rfl
@[simp] theorem e_f1 (o : D → Cells → Res D) (f : Rho → Cells → Res D) (ρ : Rho) (C : Cells) : f1 o f ρ C = (f ρ C).bind fun x C1 => o x C1 := rfl
@[simp] theorem e_f2 (o : D → D → Cells → Res D) (f g : Rho → Cells → Res D) (ρ : Rho) (C : Cells) : f2 o f g ρ C = (f ρ C).bind fun x C1 => (g ρ C1).bind fun y C2 => o x y C2 := rfl
@[simp] theorem e_fA (o : List D → Cells → Res D) (f : Rho → Cells → Res (List D)) (ρ : Rho) (C : Cells) : fA o f ρ C = (f ρ C).bind fun x C1 => o x C1 := rfl
@[simp] theorem e_aNil (ρ : Rho) (C : Cells) : aNil ρ C = .ok [] C := rfl
@[simp] theorem e_aCons (f : Rho → Cells → Res D) (fs : Rho → Cells → Res (List D)) (ρ : Rho) (C : Cells) : aCons f fs ρ C = (f ρ C).bind fun x C1 => (fs ρ C1).bind fun xs C2 => .ok (x :: xs) C2 := rfl
/-- by a datum that is to be a bool -/
def bl3 {α : Type} (d : D) (x y z : α) : α := match d with
  | .bl true => x
  | .bl false => y
  | _ => z
@[simp] theorem bl3_bl {α : Type} (b : Bool) (x y z : α) : bl3 (.bl b) x y z = if b = true then x else y := by cases b <;> rfl
@[simp] theorem bl3_non {α : Type} (x y z : α) : bl3 .non x y z = z := rfl
@[simp] theorem bl3_int {α : Type} (i : Int) (x y z : α) : bl3 (.int i) x y z = z := rfl
@[simp] theorem e_and (f g : Rho → Cells → Res D) (ρ : Rho) (C : Cells) : andD f g ρ C = (f ρ C).bind fun x C1 => bl3 x (g ρ C1) (.ok (.bl false) C1) .stuck := rfl
@[simp] theorem e_or (f g : Rho → Cells → Res D) (ρ : Rho) (C : Cells) : orD f g ρ C = (f ρ C).bind fun x C1 => bl3 x (.ok (.bl true) C1) (g ρ C1) .stuck := rfl
@[simp] theorem e_not (f : Rho → Cells → Res D) (ρ : Rho) (C : Cells) : notD f ρ C = (f ρ C).bind fun x C1 => match x with | .bl b => .ok (.bl !b) C1 | _ => .stuck := rfl
@[simp] theorem e_if (t f g : Rho → Cells → Res D) (ρ : Rho) (C : Cells) : ifD t f g ρ C = (t ρ C).bind fun x C1 => bl3 x (f ρ C1) (g ρ C1) .stuck := rfl
@[simp] theorem e_chain (o o' : D → D → Cells → Res D) (f g h : Rho → Cells → Res D) (ρ : Rho) (C : Cells) : chainD o o' f g h ρ C = (f ρ C).bind fun x C1 => (g ρ C1).bind fun y C2 => (o x y C2).bind fun z C3 => bl3 z ((h ρ C3).bind fun w C4 => o' y w C4) (.ok (.bl false) C3) .stuck := rfl
@[simp] theorem e_sSeq (f g : Rho → Cells → Out) (ρ : Rho) (C : Cells) : sSeq f g ρ C = (f ρ C).then_ g := rfl
@[simp] theorem e_sNil (ρ : Rho) (C : Cells) : sNil ρ C = .nx ρ C := rfl
@[simp] theorem e_sBk (ρ : Rho) (C : Cells) : sBk ρ C = .bk ρ C := rfl
@[simp] theorem e_sCt (ρ : Rho) (C : Cells) : sCt ρ C = .ct ρ C := rfl
@[simp] theorem e_sExpr (f : Rho → Cells → Res D) (ρ : Rho) (C : Cells) : sExpr f ρ C = (f ρ C).out ρ fun _ C1 => .nx ρ C1 := rfl
@[simp] theorem e_sRet (f : Rho → Cells → Res D) (ρ : Rho) (C : Cells) : sRet f ρ C = (f ρ C).out ρ fun d C1 => .rt d C1 := rfl
@[simp] theorem e_sRetN (ρ : Rho) (C : Cells) : sRetN ρ C = .rt .non C := rfl
@[simp] theorem e_sIf (t : Rho → Cells → Res D) (f g : Rho → Cells → Out) (ρ : Rho) (C : Cells) : sIf t f g ρ C = (toB (t ρ C)).out ρ fun b C1 => if b then f ρ C1 else g ρ C1 := rfl
@[simp] theorem e_sNever (ρ : Rho) (C : Cells) : sNever ρ C = .stuck := rfl
@[simp] theorem e_sSet (i : Nat) (f : Rho → Cells → Res D) (ρ : Rho) (C : Cells) : sSet i f ρ C = (f ρ C).out ρ fun d C1 => .nx (ρ.set i (some d)) C1 := rfl
@[simp] theorem e_sAsg (f : Rho → Cells → Res D) (t : D → Rho → Option Rho) (ρ : Rho) (C : Cells) : sAsg f t ρ C = (f ρ C).out ρ fun d C1 => match t d ρ with | some ρ' => .nx ρ' C1 | none => .stuck := rfl
@[simp] theorem e_sPar (i j : Nat) (fs : Rho → Cells → Res (List D)) (ρ : Rho) (C : Cells) : sPar i j fs ρ C = (fs ρ C).out ρ fun ds C1 => match ds with | [x, y] => .nx ((ρ.set i (some x)).set j (some y)) C1 | _ => .stuck := rfl
@[simp] theorem e_sPar3 (i j l : Nat) (fs : Rho → Cells → Res (List D)) (ρ : Rho) (C : Cells) : sPar3 i j l fs ρ C = (fs ρ C).out ρ fun ds C1 => match ds with | [x, y, z] => .nx (((ρ.set i (some x)).set j (some y)).set l (some z)) C1 | _ => .stuck := rfl
@[simp] theorem e_sSto (f fo fi : Rho → Cells → Res D) (ρ : Rho) (C : Cells) : sSto f fo fi ρ C = (f ρ C).out ρ fun v C1 => (fo ρ C1).out ρ fun x C2 => (fi ρ C2).out ρ fun i C3 => match stoD x i v C3 with | some C4 => .nx ρ C4 | none => .stuck := rfl
@[simp] theorem e_sFor (fi : Rho → Cells → Res Src) (t : D → Rho → Option Rho) (b : Rho → Cells → Out) (ρ : Rho) (C : Cells) : sFor fi t b ρ C = (fi ρ C).out ρ fun ds C1 => forS t b ds ρ C1 := rfl
@[simp] theorem e_sWhile (n : Nat) (c : Rho → Cells → Res D) (b : Rho → Cells → Out) (ρ : Rho) (C : Cells) : sWhile n c b ρ C = whileL c b n ρ C := rfl
@[simp] theorem e_tgN (i : Nat) (d : D) (ρ : Rho) : tgN i d ρ = some (ρ.set i (some d)) := rfl
@[simp] theorem e_toB_t (b : Bool) (C : Cells) : toB (.ok (.bl b) C) = .ok b C := rfl
@[simp] theorem e_toB_ex (c : Str) (p : D) (C : Cells) : toB (.ex c p C) = .ex c p C := rfl
@[simp] theorem e_iSeq (f : Rho → Cells → Res D) (ρ : Rho) (C : Cells) : iSeq f ρ C = (f ρ C).bind fun d C1 => match d with
  | .lst ds => .ok (.fix ds) C1
  | .tup ds => .ok (.fix ds) C1
  | .ftp ds => .ok (.fix ds) C1
  | .scr ns => .ok (.fix (ns.map .int)) C1
  | .cel k => match cLen k C1 with
    | some n => .ok (.cel k n) C1
    | none => .stuck
  | _ => .stuck := rfl
@[simp] theorem e_iRg (fr : Rho → Cells → Res (Int × Int)) (ρ : Rho) (C : Cells) : iRg fr ρ C = (fr ρ C).bind fun p C1 => if RgOk p.1 p.2 then .ok (.fix (rg p.1 p.2)) C1 else .stuck := rfl
@[simp] theorem e_rg1 (f : Rho → Cells → Res D) (ρ : Rho) (C : Cells) : rg1 f ρ C = (f ρ C).bind fun x C1 => match x with | .int j => .ok ((0 : Int), j) C1 | _ => .stuck := rfl
@[simp] theorem e_rg2 (f g : Rho → Cells → Res D) (ρ : Rho) (C : Cells) : rg2 f g ρ C = (f ρ C).bind fun x C1 => (g ρ C1).bind fun y C2 => match x, y with | .int i, .int j => .ok (i, j) C2 | _, _ => .stuck := rfl
@[simp] theorem e_fSl (m : Bool) (f : Rho → Cells → Res D) (l h : Rho → Cells → Res (Option Int)) (ρ : Rho) (C : Cells) : fSl m f l h ρ C = (f ρ C).bind fun x C1 => (l ρ C1).bind fun lo C2 => (h ρ C2).bind fun hi C3 => slD m x lo hi C3 := rfl
@[simp] theorem e_pNo (ρ : Rho) (C : Cells) : pNo ρ C = .ok none C := rfl
@[simp] theorem e_pSo (f : Rho → Cells → Res D) (ρ : Rho) (C : Cells) : pSo f ρ C = (f ρ C).bind fun x C1 => match x with | .int i => .ok (some i) C1 | _ => .stuck := rfl
theorem e_fLc (m : Bool) (vs : List Nat) (fi : Rho → Cells → Res Src) (t : D → Rho → Option Rho) (ft fe : Rho → Cells → Res D) (ρ : Rho) (C : Cells) : fLc m vs fi t ft fe ρ C = (fi ρ C).bind fun ds C1 => (lcS t ft fe (wipeD ρ vs) ds C1).bind fun ys C2 => if ys.length < 16777216 then mkL m ys C2 else .stuck := by
  unfold fLc
  rw [sizeLine_eq]
@[simp] theorem e_fYes (ρ : Rho) (C : Cells) : fYes ρ C = .ok (.bl true) C := rfl
@[simp] theorem e_fMt1 (o : D → D → Cells → Res D) (f g : Rho → Cells → Res D) (ρ : Rho) (C : Cells) : fMt1 o f g ρ C = (f ρ C).bind fun x C1 => match asL x C1 with | some _ => (g ρ C1).bind fun v C2 => o x v C2 | none => .stuck := rfl
@[simp] theorem e_oCall (np : Nat) (den : List D → Cells → Res D) (ds : List D) (C : Cells) : oCall np den ds C = if ds.length = np then den ds C else .stuck := rfl
@[simp] theorem e_fK0 (o : List D → Cells → Res D) (fk : Rho → Cells → Res (List D)) (ρ : Rho) (C : Cells) : fK0 o fk ρ C = (fk ρ C).bind fun ys C2 => o ys C2 := rfl
@[simp] theorem e_fAK (o : List D → List D → Cells → Res D) (fs fk : Rho → Cells → Res (List D)) (ρ : Rho) (C : Cells) : fAK o fs fk ρ C = (fs ρ C).bind fun xs C1 => (fk ρ C1).bind fun ys C2 => o xs ys C2 := rfl
@[simp] theorem e_wipe_nil (ρ : Rho) : wipeD ρ [] = ρ := rfl
@[simp] theorem e_wipe_cons (ρ : Rho) (v : Nat) (vs : List Nat) : wipeD ρ (v :: vs) = (wipeD ρ vs).set v none := rfl
@[simp] theorem e_loop_nx (ρ : Rho) (C : Cells) (k : Rho → Cells → Out) : (Out.nx ρ C).loop k = k ρ C := rfl
@[simp] theorem e_loop_ct (ρ : Rho) (C : Cells) (k : Rho → Cells → Out) : (Out.ct ρ C).loop k = k ρ C := rfl
@[simp] theorem e_loop_bk (ρ : Rho) (C : Cells) (k : Rho → Cells → Out) : (Out.bk ρ C).loop k = .nx ρ C := rfl
@[simp] theorem e_loop_rt (d : D) (C : Cells) (k : Rho → Cells → Out) : (Out.rt d C).loop k = .rt d C := rfl
@[simp] theorem e_loop_ex (c : Str) (p : D) (ρ : Rho) (C : Cells) (k : Rho → Cells → Out) : (Out.ex c p ρ C).loop k = .ex c p ρ C := rfl
@[simp] theorem e_loop_stuck (k : Rho → Cells → Out) : Out.stuck.loop k = .stuck := rfl
@[simp] theorem e_mkL_f (ds : List D) (C : Cells) : mkL false ds C = .ok (.lst ds) C := rfl
@[simp] theorem e_mkL_t (ds : List D) (C : Cells) : mkL true ds C = .ok (.cel C.length) (C ++ [.lst ds]) := rfl
@[simp] theorem e_forS_fix (t : D → Rho → Option Rho) (b : Rho → Cells → Out) (ds : List D) : forS t b (.fix ds) = forL t b ds := rfl
@[simp] theorem e_forS_cel (t : D → Rho → Option Rho) (b : Rho → Cells → Out) (k n : Nat) : forS t b (.cel k n) = forC t b k n n := rfl
@[simp] theorem e_lcS_fix (t : D → Rho → Option Rho) (ft fe : Rho → Cells → Res D) (ρ : Rho) (ds : List D) : lcS t ft fe ρ (.fix ds) = lcL t ft fe ρ ds := rfl
@[simp] theorem e_lcS_cel (t : D → Rho → Option Rho) (ft fe : Rho → Cells → Res D) (ρ : Rho) (k n : Nat) : lcS t ft fe ρ (.cel k n) = lcC t ft fe ρ k n n := rfl
/-- operators on ints -/
@[simp] theorem e_add_ii (m : Bool) (i j : Int) (C : Cells) : addD m (.int i) (.int j) C = .ok (.int (i + j)) C := rfl
@[simp] theorem e_sub_ii (i j : Int) (C : Cells) : subD (.int i) (.int j) C = .ok (.int (i - j)) C := rfl
@[simp] theorem e_mul_ii (m : Bool) (i j : Int) (C : Cells) : mulD m (.int i) (.int j) C = if CMul i j then .ok (.int (i * j)) C else .stuck := rfl
@[simp] theorem e_fdiv_ii (i j : Int) (C : Cells) : fdivD (.int i) (.int j) C = if CDiv i j then .ok (.int (i / j)) C else .stuck := rfl
@[simp] theorem e_mod_ii (i j : Int) (C : Cells) : modD (.int i) (.int j) C = if 0 < j then .ok (.int (i % j)) C else .stuck := rfl
@[simp] theorem e_pow_ii (i j : Int) (C : Cells) : powD (.int i) (.int j) C = if CPow i j then .ok (.int (i ^ j.toNat)) C else .stuck := rfl
@[simp] theorem e_neg_i (i : Int) (C : Cells) : negD (.int i) C = .ok (.int (-i)) C := rfl
@[simp] theorem e_cmp_ii (p : Int → Int → Bool) (i j : Int) (C : Cells) : cmpI p (.int i) (.int j) C = .ok (.bl (p i j)) C := rfl
@[simp] theorem e_isN (neg : Bool) (x : D) (C : Cells) : isD neg x .non C = .ok (.bl (if neg then !isNon x else isNon x)) C := rfl
@[simp] theorem e_isB (neg : Bool) (a b : Bool) (C : Cells) : isD neg (.bl a) (.bl b) C = .ok (.bl (if neg then !decide (a = b) else decide (a = b))) C := rfl
@[simp] theorem e_int_i (i : Int) (C : Cells) : oInt [.int i] C = .ok (.int i) C := rfl
@[simp] theorem e_abs_i (i : Int) (C : Cells) : oAbs [.int i] C = .ok (.int (if i < 0 then -i else i)) C := rfl
@[simp] theorem e_max_ii (i j : Int) (C : Cells) : oMax [.int i, .int j] C = .ok (.int (if j > i then j else i)) C := rfl
@[simp] theorem e_min_ii (i j : Int) (C : Cells) : oMin [.int i, .int j] C = .ok (.int (if j < i then j else i)) C := rfl

/-! ### leaving a def -/
mutual
theorem celOk_mono {n m : Nat} (h : n ≤ m) : ∀ d : D, celOk n d = true → celOk m d = true
  | .non, _ => rfl
  | .bl _, _ => rfl
  | .int _, _ => rfl
  | .str _, _ => rfl
  | .scr _, _ => rfl
  | .tup ds, e => by simp only [celOk] at e ⊢; exact celsOk_mono h ds e
  | .ftp ds, e => by simp only [celOk] at e ⊢; exact celsOk_mono h ds e
  | .lst ds, e => by simp only [celOk] at e ⊢; exact celsOk_mono h ds e
  | .cel k, e => by simp only [celOk, decide_eq_true_eq] at e ⊢; omega
theorem celsOk_mono {n m : Nat} (h : n ≤ m) : ∀ ds : List D, celsOk n ds = true → celsOk m ds = true
  | [], _ => rfl
  | d :: ds, e => by
    simp only [celsOk, Bool.and_eq_true] at e ⊢
    exact ⟨celOk_mono h d e.1, celsOk_mono h ds e.2⟩
end
/-- no cell holds a cell -/
def Flat (C : Cells) : Prop := ∀ c ∈ C, cellOk 0 c = true
theorem Flat.nil : Flat [] := fun _ h => nomatch h
theorem Flat.append {C T : Cells} (h : Flat C) (g : Flat T) : Flat (C ++ T) := fun c hc => (List.mem_append.mp hc).elim (h c) (g c)
theorem Flat.one {ds : List D} (h : celsOk 0 ds = true) : Flat [.lst ds] := fun c hc => by
  simp at hc
  subst hc
  exact h
theorem Flat.set {C : Cells} (h : Flat C) (k : Nat) {ds : List D} (g : celsOk 0 ds = true) : Flat (C.set k (.lst ds)) := fun c hc => by
  rcases List.mem_or_eq_of_mem_set hc with z | z
  · exact h c z
  · subst z
    exact g
theorem Flat.ok {C : Cells} (h : Flat C) (n : Nat) : C.all (cellOk n) = true := List.all_eq_true.mpr fun c hc => by
  have := h c hc
  cases c with
  | dead => rfl
  | tab _ _ => rfl
  | lst ds => exact celsOk_mono (Nat.zero_le _) ds this
  | dic ks => exact celsOk_mono (Nat.zero_le _) _ this
@[simp] theorem take_app (C T : Cells) : (C ++ T).take C.length = C := by simp
/-- a def that hands back a value, its own cells at the end -/
theorem fin_val {m : Bool} {d : D} {C C' : Cells} (hC : Flat (C'.take C.length)) (hd : celOk C.length d = true) : okFin m C.length d C' = .ok d (C'.take C.length) := by
  unfold okFin
  rw [if_pos (hC.ok _)]
  cases d with
  | cel k =>
    simp only [celOk, decide_eq_true_eq] at hd
    simp [hd]
  | _ => simp only [hd, if_true]
/-- .. its own cell, as a cell -/
theorem fin_cel {k : Nat} {C C' : Cells} {ds : List D} (hC : Flat (C'.take C.length)) (hk : C.length ≤ k) (h : C'[k]? = some (.lst ds)) (hd : celsOk C.length ds = true) : okFin true C.length (.cel k) C' = .ok (.cel C.length) (C'.take C.length ++ [.lst ds]) := by
  unfold okFin
  rw [if_pos (hC.ok _)]
  simp [Nat.not_lt.mpr hk, h, hd]
theorem fin_frz {k : Nat} {C C' : Cells} {ds : List D} (hC : Flat (C'.take C.length)) (hk : C.length ≤ k) (h : C'[k]? = some (.lst ds)) (hd : celsOk C.length ds = true) : okFin false C.length (.cel k) C' = .ok (.lst ds) (C'.take C.length) := by
  unfold okFin
  rw [if_pos (hC.ok _)]
  simp [Nat.not_lt.mpr hk, h, hd]
theorem den_rt {m : Bool} {np N : Nat} {fb : Rho → Cells → Out} {ds : List D} {C C' : Cells} {d : D} (hl : ds.length = np) (h : fb (ds.map some ++ List.replicate (N - np) none) C = .rt d C') : denF m np N fb ds C = okFin m C.length d C' := by
  unfold denF
  rw [if_pos hl, h]
  rfl
/-- a value handed back; whatever cells the def made are gone -/
theorem den_val {m : Bool} {np N : Nat} {fb : Rho → Cells → Out} {ds : List D} {C : Cells} {d : D} (T : Cells) (hC : Flat C) (hl : ds.length = np) (h : fb (ds.map some ++ List.replicate (N - np) none) C = .rt d (C ++ T)) (hd : celOk C.length d = true) : denF m np N fb ds C = .ok d C := by
  rw [den_rt hl h, fin_val (by simpa using hC) hd, take_app]
theorem den_val0 {m : Bool} {np N : Nat} {fb : Rho → Cells → Out} {ds : List D} {C : Cells} {d : D} (hC : Flat C) (hl : ds.length = np) (h : fb (ds.map some ++ List.replicate (N - np) none) C = .rt d C) (hd : celOk C.length d = true) : denF m np N fb ds C = .ok d C :=
  den_val [] hC hl (by simpa using h) hd
theorem den_mut {m : Bool} {np N : Nat} {fb : Rho → Cells → Out} {ds : List D} {C C' : Cells} {d : D} (T : Cells) (hC : Flat C') (hl : ds.length = np) (hs : C'.length = C.length) (h : fb (ds.map some ++ List.replicate (N - np) none) C = .rt d (C' ++ T)) (hd : celOk C.length d = true) : denF m np N fb ds C = .ok d C' := by
  rw [den_rt hl h]
  have e : (C' ++ T).take C.length = C' := by rw [← hs]; simp
  rw [fin_val (by rw [e]; exact hC) hd, e]

/-! ### indexing -/
theorem asS_cel {C : Cells} {k : Nat} {ds : List D} (h : C[k]? = some (.lst ds)) : asS (.cel k) C = some ds := by simp [asS, h]
theorem asL_celE {C : Cells} {k : Nat} {ds : List D} (h : C[k]? = some (.lst ds)) : asL (.cel k) C = some ds := by simp [asL, h]
@[simp] theorem asS_tup (ds : List D) (C : Cells) : asS (.tup ds) C = some ds := rfl
@[simp] theorem asS_lst (ds : List D) (C : Cells) : asS (.lst ds) C = some ds := rfl
@[simp] theorem asS_scr (ns : List Int) (C : Cells) : asS (.scr ns) C = some (ns.map .int) := rfl
@[simp] theorem asL_lst (ds : List D) (C : Cells) : asL (.lst ds) C = some ds := rfl
theorem ixN_of {n : Nat} {i : Int} (h0 : 0 ≤ i) (h1 : i < n) : ixN n i = some i.toNat := by
  unfold ixN
  rw [if_pos h0, if_pos h1]
theorem atI_of {xs : List D} {i : Int} {d : D} (h0 : 0 ≤ i) (h : xs[i.toNat]? = some d) : atI xs i = some d := by
  have h1 := (List.getElem?_eq_some_iff.mp h).1
  unfold atI
  rw [ixN_of h0 (by omega)]
  exact h
theorem ix_of {x : D} {C : Cells} {ds : List D} {i : Int} {d : D} (e : asS x C = some ds) (h0 : 0 ≤ i) (h : ds[i.toNat]? = some d) : ixD x (.int i) C = .ok d C := by
  unfold ixD
  rw [e]
  simp only
  rw [atI_of h0 h]
theorem ix_cel {C : Cells} {k : Nat} {ds : List D} {i : Int} {d : D} (e : C[k]? = some (.lst ds)) (h0 : 0 ≤ i) (h : ds[i.toNat]? = some d) : ixD (.cel k) (.int i) C = .ok d C := ix_of (asS_cel e) h0 h
@[simp] theorem ix_tup0 (a : D) (xs : List D) (C : Cells) : ixD (.tup (a :: xs)) (.int 0) C = .ok a C := ix_of rfl (by decide) rfl
@[simp] theorem ix_tup1 (a b : D) (xs : List D) (C : Cells) : ixD (.tup (a :: b :: xs)) (.int 1) C = .ok b C := ix_of rfl (by decide) rfl
@[simp] theorem ix_tup2 (a b c : D) (xs : List D) (C : Cells) : ixD (.tup (a :: b :: c :: xs)) (.int 2) C = .ok c C := ix_of rfl (by decide) rfl
@[simp] theorem ix_lst0 (a : D) (xs : List D) (C : Cells) : ixD (.lst (a :: xs)) (.int 0) C = .ok a C := ix_of rfl (by decide) rfl
@[simp] theorem ix_lst1 (a b : D) (xs : List D) (C : Cells) : ixD (.lst (a :: b :: xs)) (.int 1) C = .ok b C := ix_of rfl (by decide) rfl
theorem sto_of {C : Cells} {k : Nat} {ds : List D} {i : Int} {v : D} (e : C[k]? = some (.lst ds)) (h0 : 0 ≤ i) (h1 : i < ds.length) : stoD (.cel k) (.int i) v C = some (C.set k (.lst (ds.set i.toNat v))) := by
  unfold stoD
  simp only [e]
  rw [ixN_of h0 h1]
@[simp] theorem oLen_tup (ds : List D) (C : Cells) : oLen [.tup ds] C = .ok (.int ds.length) C := rfl
@[simp] theorem oLen_lst (ds : List D) (C : Cells) : oLen [.lst ds] C = .ok (.int ds.length) C := rfl
@[simp] theorem oLen_scr (ns : List Int) (C : Cells) : oLen [.scr ns] C = .ok (.int ns.length) C := by simp [oLen]
theorem oLen_cel {C : Cells} {k : Nat} {ds : List D} (e : C[k]? = some (.lst ds)) : oLen [.cel k] C = .ok (.int ds.length) C := by simp [oLen, asS_cel e]
theorem set_get {C : Cells} {k : Nat} {c c' : Cell} (e : C[k]? = some c') : (C.set k c)[k]? = some c := by
  have := (List.getElem?_eq_some_iff.mp e).1
  simp [this]
theorem cmul_of {i j : Int} (h : (-(2 ^ 64) < j ∧ j < 2 ^ 64) ∨ (-(2 ^ 64) < i ∧ i < 2 ^ 64)) : CMul i j := h.elim .inr .inl
@[simp] theorem e_oLst (m : Bool) (xs : List D) (C : Cells) : oLst m xs C = if xs.length ≤ 16777216 then mkL m xs C else .stuck := by
  unfold oLst
  rw [sizeLine_eq]
@[simp] theorem e_oTup (xs : List D) (C : Cells) : oTup xs C = if xs.length ≤ 16777216 then .ok (.tup xs) C else .stuck := by
  unfold oTup
  rw [sizeLine_eq]
@[simp] theorem e_add_tt (m : Bool) (xs ys : List D) (C : Cells) : addD m (.tup xs) (.tup ys) C = if xs.length + ys.length ≤ 16777216 then .ok (.tup (xs ++ ys)) C else .stuck := by
  show (if xs.length + ys.length ≤ sizeLine then _ else _) = _
  rw [sizeLine_eq]
@[simp] theorem e_add_ll (m : Bool) (xs ys : List D) (C : Cells) : addD m (.lst xs) (.lst ys) C = if xs.length + ys.length ≤ 16777216 then mkL m (xs ++ ys) C else .stuck := by
  show (if xs.length + ys.length ≤ sizeLine then _ else _) = _
  rw [sizeLine_eq]
@[simp] theorem e_sl_t (m : Bool) (xs : List D) (lo hi : Option Int) (C : Cells) : slD m (.tup xs) lo hi C = .ok (.tup (cut xs lo hi)) C := rfl
@[simp] theorem e_sl_l (m : Bool) (xs : List D) (lo hi : Option Int) (C : Cells) : slD m (.lst xs) lo hi C = mkL m (cut xs lo hi) C := rfl
@[simp] theorem e_tuple_t (xs : List D) (C : Cells) : oTuple [.tup xs] C = .ok (.tup xs) C := rfl
@[simp] theorem e_tuple_l (xs : List D) (C : Cells) : oTuple [.lst xs] C = .ok (.tup xs) C := rfl
theorem e_tuple_c {C : Cells} {k : Nat} {ds : List D} (e : C[k]? = some (.lst ds)) : oTuple [.cel k] C = .ok (.tup ds) C := by simp [oTuple, asS_cel e]
theorem app_of {C : Cells} {k : Nat} {ds : List D} {v : D} (e : C[k]? = some (.lst ds)) (h : ds.length < 16777216) : appD (.cel k) v C = .ok .non (C.set k (.lst (ds ++ [v]))) := by
  unfold appD
  simp only [e]
  rw [if_pos (by rw [sizeLine_eq]; exact h)]
@[simp] theorem e_forL_nil (t : D → Rho → Option Rho) (b : Rho → Cells → Out) (ρ : Rho) (C : Cells) : forL t b [] ρ C = .nx ρ C := rfl
@[simp] theorem e_forL_N (i : Nat) (b : Rho → Cells → Out) (d : D) (ds : List D) (ρ : Rho) (C : Cells) : forL (tgN i) b (d :: ds) ρ C = (b (ρ.set i (some d)) C).loop (forL (tgN i) b ds) := rfl
@[simp] theorem e_lcL_nil (t : D → Rho → Option Rho) (ft fe : Rho → Cells → Res D) (ρ : Rho) (C : Cells) : lcL t ft fe ρ [] C = .ok [] C := rfl
theorem e_lcL_N (i : Nat) (ft fe : Rho → Cells → Res D) (ρ : Rho) (d : D) (ds : List D) (C : Cells) : lcL (tgN i) ft fe ρ (d :: ds) C = (noX (toB (ft (ρ.set i (some d)) C))).bind fun b C1 => if b then (noX (fe (ρ.set i (some d)) C1)).bind fun y C2 => (lcL (tgN i) ft fe ρ ds C2).bind fun ys C3 => .ok (y :: ys) C3 else lcL (tgN i) ft fe ρ ds C1 := rfl
@[simp] theorem noX_ok {α : Type} (a : α) (C : Cells) : noX (.ok a C) = .ok a C := rfl
/-- a comprehension whose test and element leave the cells alone -/
theorem lc_map (i : Nat) {ft fe : Rho → Cells → Res D} {ρ : Rho} {C : Cells} (p : D → Bool) (g : D → D) : ∀ ds : List D, (∀ d ∈ ds, ft (ρ.set i (some d)) C = .ok (.bl (p d)) C) → (∀ d ∈ ds, p d = true → fe (ρ.set i (some d)) C = .ok (g d) C) → lcL (tgN i) ft fe ρ ds C = .ok ((ds.filter p).map g) C
  | [], _, _ => rfl
  | d :: ds, h1, h2 => by
    rw [e_lcL_N, h1 d (by simp)]
    have ih := lc_map i p g ds (fun x hx => h1 x (List.mem_cons_of_mem _ hx)) fun x hx => h2 x (List.mem_cons_of_mem _ hx)
    cases hp : p d with
    | true => simp [h2 d (by simp) hp, ih, hp]
    | false => simp [ih, hp]
theorem lc_mapY (i : Nat) {fe : Rho → Cells → Res D} {ρ : Rho} {C : Cells} (g : D → D) (ds : List D) (h2 : ∀ d ∈ ds, fe (ρ.set i (some d)) C = .ok (g d) C) : lcL (tgN i) fYes fe ρ ds C = .ok (ds.map g) C := by
  rw [lc_map i (fun _ => true) g ds (fun _ _ => rfl) fun d hd _ => h2 d hd, List.filter_eq_self.mpr fun _ _ => rfl]
theorem e_lcC_0 (t : D → Rho → Option Rho) (ft fe : Rho → Cells → Res D) (ρ : Rho) (k n : Nat) (C : Cells) : lcC t ft fe ρ k n 0 C = if cLen k C = some n then .ok [] C else .stuck := rfl
/-- over a cell that stays as it is -/
theorem lcC_map (i : Nat) {ft fe : Rho → Cells → Res D} {ρ : Rho} {C : Cells} {k : Nat} {ds : List D} (hk : C[k]? = some (.lst ds)) (p : D → Bool) (g : D → D) (h1 : ∀ d ∈ ds, ft (ρ.set i (some d)) C = .ok (.bl (p d)) C) (h2 : ∀ d ∈ ds, p d = true → fe (ρ.set i (some d)) C = .ok (g d) C) :
    lcC (tgN i) ft fe ρ k ds.length ds.length C = .ok ((ds.filter p).map g) C := by
  have key : ∀ m, m ≤ ds.length → lcC (tgN i) ft fe ρ k ds.length m C = .ok (((ds.drop (ds.length - m)).filter p).map g) C := by
    intro m
    induction m with
    | zero =>
      intro _
      rw [e_lcC_0, if_pos (by simp [cLen, hk])]
      simp
    | succ m ih =>
      intro hm
      have hlt : ds.length - (m + 1) < ds.length := by omega
      have hmem : ds[ds.length - (m + 1)] ∈ ds := List.getElem_mem hlt
      unfold lcC
      rw [asL_celE hk]
      simp only [if_true, List.getElem?_eq_getElem hlt]
      unfold lcStep
      simp only [e_tgN]
      rw [h1 _ hmem, List.drop_eq_getElem_cons hlt, show ds.length - (m + 1) + 1 = ds.length - m by omega]
      cases hp : p ds[ds.length - (m + 1)] with
      | true => simp [h2 _ hmem hp, ih (by omega), hp]
      | false => simp [ih (by omega), hp]
  have := key ds.length (Nat.le_refl _)
  simpa using this
theorem iSeq_cel {f : Rho → Cells → Res D} {ρ : Rho} {C : Cells} {k : Nat} {ds : List D} (hf : f ρ C = .ok (.cel k) C) (hk : C[k]? = some (.lst ds)) : iSeq f ρ C = .ok (.cel k ds.length) C := by
  simp [hf, cLen, hk]

/-! ### data that are small enough for repr and == -/
structure Good (n w : Nat) (p : PyData) : Prop where
  lay : p.canLay0 = true
  dep : p.depth ≤ n
  lea : p.leavesShort 13 = true
  wei : p.weight ≤ w
  sho : p.showable = true
theorem Good.mono {n m w u : Nat} {p : PyData} (g : Good n w p) (h1 : n ≤ m) (h2 : w ≤ u) : Good m u p := ⟨g.lay, Nat.le_trans g.dep h1, g.lea, Nat.le_trans g.wei h2, g.sho⟩
theorem Good.none : Good 0 0 .none := ⟨rfl, Nat.le_refl _, rfl, Nat.le_refl _, rfl⟩
theorem Good.bool (b : Bool) : Good 0 0 (.bool b) := ⟨rfl, Nat.le_refl _, rfl, Nat.le_refl _, rfl⟩
theorem log2_lt {m k : Nat} (h : m < 2 ^ k) (hk : 0 < k) : m.log2 < k := by
  by_cases z : m = 0
  · subst z
    exact hk
  · exact (Nat.log2_lt z).mpr h
theorem Good.int {i : Int} (h : i.natAbs < 10 ^ 12) : Good 0 41 (.int i) := by
  have h2 : i.natAbs.log2 < 40 := log2_lt (Nat.lt_of_lt_of_le h (by decide)) (by decide)
  refine ⟨rfl, Nat.le_refl _, by simp only [PyData.leavesShort, decide_eq_true_eq]; exact PyData.shown_int_le h, ?_, by simp only [PyData.showable, decide_eq_true_eq]; omega⟩
  show (if i == 0 then 0 else i.natAbs.log2 + 1) ≤ 41
  split <;> omega
structure GoodL (n w : Nat) (ps : List PyData) : Prop where
  lay : PyData.canLayAll0 ps = true
  dep : PyData.depthAll ps ≤ n
  lea : PyData.leavesShortAll 13 ps = true
  wei : PyData.weightAll ps ≤ ps.length * (w + 1)
  sho : PyData.showableAll ps = true
theorem GoodL.nil {n w : Nat} : GoodL n w [] := ⟨rfl, Nat.zero_le _, rfl, Nat.zero_le _, rfl⟩
theorem GoodL.cons {n w : Nat} {p : PyData} {ps : List PyData} (g : Good n w p) (gs : GoodL n w ps) : GoodL n w (p :: ps) := by
  refine ⟨by simp [PyData.canLayAll0, g.lay, gs.lay], by simp only [PyData.depthAll]; exact Nat.max_le.mpr ⟨g.dep, gs.dep⟩, by simp [PyData.leavesShortAll, g.lea, gs.lea], ?_, by simp [PyData.showableAll, g.sho, gs.sho]⟩
  have h1 := g.wei
  have h2 := gs.wei
  simp only [PyData.weightAll, List.length_cons, Nat.add_mul, Nat.one_mul]
  omega
theorem Good.tuple {n w : Nat} {ps : List PyData} (g : GoodL n w ps) : Good (n + 1) (ps.length * (w + 1)) (.tuple ps) := ⟨g.lay, Nat.succ_le_succ g.dep, g.lea, g.wei, g.sho⟩
theorem Good.list {n w : Nat} {ps : List PyData} (g : GoodL n w ps) : Good (n + 1) (ps.length * (w + 1)) (.list ps) := ⟨g.lay, Nat.succ_le_succ g.dep, g.lea, g.wei, g.sho⟩
/-- a datum and what it is as the library's -/
structure GD (n w : Nat) (d : D) (p : PyData) : Prop where
  e : toPy d = some p
  g : Good n w p
theorem GD.mono {n m w u : Nat} {d : D} {p : PyData} (g : GD n w d p) (h1 : n ≤ m) (h2 : w ≤ u) : GD m u d p := ⟨g.e, g.g.mono h1 h2⟩
theorem GD.non : GD 0 0 .non .none := ⟨rfl, .none⟩
theorem GD.bl (b : Bool) : GD 0 0 (.bl b) (.bool b) := ⟨rfl, .bool b⟩
theorem GD.int {i : Int} (h : i.natAbs < 10 ^ 12) : GD 0 41 (.int i) (.int i) := ⟨rfl, .int h⟩
theorem GD.str {x : Str} {w : Nat} (h : PyData.strOk x = true) (h2 : x.cps.size ≤ w) (h3 : (x.cps.toList.all fun c => decide (c < 16 ^ 8)) = true) : GD 0 w (.str x) (.str x) := ⟨rfl, h, Nat.le_refl _, h3, h2, rfl⟩
structure GDs (n w : Nat) (ds : List D) (ps : List PyData) : Prop where
  e : toPys ds = some ps
  g : GoodL n w ps
  l : ps.length = ds.length
theorem GDs.nil {n w : Nat} : GDs n w [] [] := ⟨rfl, .nil, rfl⟩
theorem GDs.cons {n w : Nat} {d : D} {p : PyData} {ds : List D} {ps : List PyData} (g : GD n w d p) (gs : GDs n w ds ps) : GDs n w (d :: ds) (p :: ps) := ⟨by simp [toPys, g.e, gs.e], .cons g.g gs.g, by simp [gs.l]⟩
theorem GD.tup {n w : Nat} {ds : List D} {ps : List PyData} (g : GDs n w ds ps) : GD (n + 1) (ds.length * (w + 1)) (.tup ds) (.tuple ps) := ⟨by simp [toPy, g.e], by rw [← g.l]; exact .tuple g.g⟩
theorem GD.lst {n w : Nat} {ds : List D} {ps : List PyData} (g : GDs n w ds ps) : GD (n + 1) (ds.length * (w + 1)) (.lst ds) (.list ps) := ⟨by simp [toPy, g.e], by rw [← g.l]; exact .list g.g⟩
/-- small data, all of them -/
def GA (n w : Nat) (d : D) : Prop := ∃ p, GD n w d p
theorem GDs.all {n w : Nat} : ∀ {ds : List D}, (∀ d ∈ ds, GA n w d) → ∃ ps, GDs n w ds ps
  | [], _ => ⟨[], .nil⟩
  | d :: ds, h => by
    obtain ⟨p, g⟩ := h d (by simp)
    obtain ⟨ps, gs⟩ := GDs.all (ds := ds) fun x hx => h x (List.mem_cons_of_mem _ hx)
    exact ⟨p :: ps, .cons g gs⟩
theorem GA.mono {n m w u : Nat} {d : D} (g : GA n w d) (h1 : n ≤ m) (h2 : w ≤ u) : GA m u d := let ⟨p, q⟩ := g; ⟨p, q.mono h1 h2⟩
theorem GA.tup {n w : Nat} {ds : List D} (h : ∀ d ∈ ds, GA n w d) : GA (n + 1) (ds.length * (w + 1)) (.tup ds) := let ⟨_, g⟩ := GDs.all h; ⟨_, .tup g⟩
theorem GA.lst {n w : Nat} {ds : List D} (h : ∀ d ∈ ds, GA n w d) : GA (n + 1) (ds.length * (w + 1)) (.lst ds) := let ⟨_, g⟩ := GDs.all h; ⟨_, .lst g⟩
/-- what repr tells of a datum -/
def rp (d : D) : Str := match toPy d with
  | some p => p.shown
  | none => ""
theorem repr_of {n w : Nat} {d : D} {C : Cells} (g : GA n w d) (h1 : n ≤ 64) (h2 : w ≤ 2 ^ 20) : oRepr [d] C = .ok (.str (rp d)) C := by
  obtain ⟨p, e, g⟩ := g
  have ec : toPyC d C = some p := by
    cases d with
    | cel k => simp [toPy] at e
    | _ => exact e
  unfold oRepr rp
  simp only [ec, e]
  rw [if_pos ⟨by simp [SeqAt.shaped, g.lay, Nat.le_trans g.dep h1], g.sho, PyData.shown_fits (B := 13) (by decide) (by decide) g.lea (Nat.le_trans g.wei h2)⟩]
@[simp] theorem eqD_ss (neg : Bool) (a b : Str) (C : Cells) : eqD neg (.str a) (.str b) C = .ok (.bl (if neg then !decide (a = b) else decide (a = b))) C := rfl
/-- == of small data -/
theorem eq_of {n w : Nat} {x y : D} {p q : PyData} {neg : Bool} {C : Cells} (g1 : GD n w x p) (g2 : GD n w y q) (h1 : n ≤ 64) (hs : ∀ a b, ¬ (x = .str a ∧ y = .str b)) : eqD neg x y C = .ok (.bl (if neg then !PyData.eqv p q else PyData.eqv p q)) C := by
  have ec : ∀ {d : D} {p : PyData}, toPy d = some p → toPyC d C = some p := fun {d p} e => by
    cases d with
    | cel k => simp [toPy] at e
    | _ => exact e
  unfold eqD
  split
  · exact absurd ⟨rfl, rfl⟩ (hs _ _)
  · simp only [ec g1.e, ec g2.e]
    rw [if_pos ⟨by simp [SeqAt.shaped, g1.g.lay, Nat.le_trans g1.g.dep h1], by simp [SeqAt.shaped, g2.g.lay, Nat.le_trans g2.g.dep h1]⟩]
theorem fLc_of {m : Bool} {vs : List Nat} {fi : Rho → Cells → Res Src} {t : D → Rho → Option Rho} {ft fe : Rho → Cells → Res D} {ρ : Rho} {C C1 C2 : Cells} {src : Src} {ys : List D} (h1 : fi ρ C = .ok src C1) (h2 : lcS t ft fe (wipeD ρ vs) src C1 = .ok ys C2) (h3 : ys.length ≤ 100000) :
    fLc m vs fi t ft fe ρ C = mkL m ys C2 := by
  unfold fLc
  rw [h1, Res.bind_ok, h2, Res.bind_ok, if_pos (Nat.lt_of_le_of_lt h3 (by rw [sizeLine_eq]; decide))]
theorem iRg1_of {f : Rho → Cells → Res D} {ρ : Rho} {C C1 : Cells} {j : Int} (h : f ρ C = .ok (.int j) C1) (h0 : 0 ≤ j) (h1 : j ≤ 100000) : iRg (rg1 f) ρ C = .ok (.fix (rg 0 j)) C1 := by
  have hr : RgOk 0 j := .of_le (by omega) (by omega) (by omega) (by omega)
  simp [h, hr]
theorem iRg2_of {f g : Rho → Cells → Res D} {ρ : Rho} {C C1 C2 : Cells} {i j : Int} (h : f ρ C = .ok (.int i) C1) (hg : g ρ C1 = .ok (.int j) C2) (a : 0 ≤ i) (b : i ≤ 100000) (h0 : 0 ≤ j) (h1 : j ≤ 100000) : iRg (rg2 f g) ρ C = .ok (.fix (rg i j)) C2 := by
  have hr : RgOk i j := .of_le (by omega) (by omega) (by omega) (by omega)
  simp [h, hg, hr]
/-! ### blocks, statement by statement -/
theorem seq_nx {f g : Rho → Cells → Out} {ρ ρ1 : Rho} {C C1 : Cells} {o : Out} (h1 : f ρ C = .nx ρ1 C1) (h2 : g ρ1 C1 = o) : sSeq f g ρ C = o := by
  unfold sSeq
  rw [h1]
  exact h2
theorem seq_rt {f g : Rho → Cells → Out} {ρ : Rho} {C C1 : Cells} {d : D} (h1 : f ρ C = .rt d C1) : sSeq f g ρ C = .rt d C1 := by
  unfold sSeq
  rw [h1]
  rfl
theorem if_t {t : Rho → Cells → Res D} {f g : Rho → Cells → Out} {ρ : Rho} {C C1 : Cells} {o : Out} (h : t ρ C = .ok (.bl true) C1) (h2 : f ρ C1 = o) : sIf t f g ρ C = o := by
  unfold sIf
  rw [h]
  exact h2
theorem if_f {t : Rho → Cells → Res D} {f g : Rho → Cells → Out} {ρ : Rho} {C C1 : Cells} {o : Out} (h : t ρ C = .ok (.bl false) C1) (h2 : g ρ C1 = o) : sIf t f g ρ C = o := by
  unfold sIf
  rw [h]
  exact h2
theorem set_nx {i : Nat} {f : Rho → Cells → Res D} {ρ ρ' : Rho} {C C1 : Cells} {d : D} (h : f ρ C = .ok d C1) (e : ρ.set i (some d) = ρ') : sSet i f ρ C = .nx ρ' C1 := by
  unfold sSet
  rw [h, ← e]
  rfl
theorem ret_rt {f : Rho → Cells → Res D} {ρ : Rho} {C C1 : Cells} {d : D} (h : f ρ C = .ok d C1) : sRet f ρ C = .rt d C1 := by
  unfold sRet
  rw [h]
  rfl
theorem expr_nx {f : Rho → Cells → Res D} {ρ : Rho} {C C1 : Cells} {d : D} (h : f ρ C = .ok d C1) : sExpr f ρ C = .nx ρ C1 := by
  unfold sExpr
  rw [h]
  rfl
/-- a sequence's items: of a tuple, a list by value, a cell -/
inductive SeqOf (C : Cells) : D → List D → Prop
  | tup (ds : List D) : SeqOf C (.tup ds) ds
  | lst (ds : List D) : SeqOf C (.lst ds) ds
  | cel {k : Nat} {ds : List D} : C[k]? = some (.lst ds) → SeqOf C (.cel k) ds
theorem SeqOf.asS {C : Cells} {x : D} {ds : List D} (h : SeqOf C x ds) : asS x C = some ds := by
  cases h with
  | tup => rfl
  | lst => rfl
  | cel h => exact asS_cel h
theorem SeqOf.len {C : Cells} {x : D} {ds : List D} (h : SeqOf C x ds) : oLen [x] C = .ok (.int ds.length) C := by
  cases h with
  | tup => rfl
  | lst => rfl
  | cel h => exact oLen_cel h
theorem SeqOf.tuple {C : Cells} {x : D} {ds : List D} (h : SeqOf C x ds) : oTuple [x] C = .ok (.tup ds) C := by
  cases h with
  | tup => rfl
  | lst => rfl
  | cel h => exact e_tuple_c h
theorem SeqOf.ix {C : Cells} {x d : D} {ds : List D} {i : Int} (h : SeqOf C x ds) (h0 : 0 ≤ i) (h1 : ds[i.toNat]? = some d) : ixD x (.int i) C = .ok d C := ix_of h.asS h0 h1
theorem SeqOf.isi {C : Cells} {x : D} {ds : List D} (h : SeqOf C x ds) : isiD ["list", "tuple"] x C = .ok (.bl true) C := by
  cases h with
  | tup => rfl
  | lst => rfl
  | cel h => simp [isiD, tyD, h, isTy]
theorem lc_seq {m : Bool} {vs : List Nat} {i j : Nat} {ft fe : Rho → Cells → Res D} {ρ : Rho} {C : Cells} {x : D} {ds : List D} (h : SeqOf C x ds) (hv : ρ[i]? = some (some x)) (p : D → Bool) (g : D → D)
    (h1 : ∀ d ∈ ds, ft ((wipeD ρ vs).set j (some d)) C = .ok (.bl (p d)) C) (h2 : ∀ d ∈ ds, p d = true → fe ((wipeD ρ vs).set j (some d)) C = .ok (g d) C) (h3 : ds.length ≤ 100000) :
    fLc m vs (iSeq (fVar i)) (tgN j) ft fe ρ C = mkL m ((ds.filter p).map g) C := by
  have hl : ((ds.filter p).map g).length ≤ 100000 := by
    rw [List.length_map]
    exact Nat.le_trans (List.length_filter_le _ _) h3
  cases h with
  | tup => exact fLc_of (C1 := C) (src := .fix ds) (by simp [hv]) (lc_map j p g ds h1 h2) hl
  | lst => exact fLc_of (C1 := C) (src := .fix ds) (by simp [hv]) (lc_map j p g ds h1 h2) hl
  | cel h => exact fLc_of (C1 := C) (iSeq_cel (by simp [hv]) h) (lcC_map j h p g h1 h2) hl
mutual
theorem eqv_refl : ∀ p : PyData, p.canLay0 = true → PyData.eqv p p = true
  | .none, _ => rfl
  | .bool _, _ => by simp [PyData.eqv]
  | .int _, _ => by simp [PyData.eqv]
  | .str _, _ => by simp [PyData.eqv]
  | .list xs, h => by simp only [PyData.eqv]; exact eqvAll_refl xs h
  | .tuple xs, h => by simp only [PyData.eqv]; exact eqvAll_refl xs h
  | .dict _, h => by simp [PyData.canLay0] at h
theorem eqvAll_refl : ∀ ps : List PyData, PyData.canLayAll0 ps = true → PyData.eqvAll ps ps = true
  | [], _ => rfl
  | p :: ps, h => by
    simp only [PyData.canLayAll0, Bool.and_eq_true] at h
    simp only [PyData.eqvAll, Bool.and_eq_true]
    exact ⟨eqv_refl p h.1, eqvAll_refl ps h.2⟩
end
/-- an int beside small data -/
theorem eq_int {C : Cells} {i : Int} (a : Int) : eqD false (.int a) (.int i) C = .ok (.bl (a == i)) C := rfl
theorem eq_non {C : Cells} {i : Int} : eqD false .non (.int i) C = .ok (.bl false) C := rfl
theorem cut_take {α : Type} (xs : List α) {i : Int} (h : 0 ≤ i) : cut xs none (some i) = xs.take i.toNat := by
  obtain ⟨k, rfl⟩ : ∃ k : Nat, i = k := ⟨i.toNat, by omega⟩
  unfold cut
  rw [HT.sIx_nat, HT.sIx_none]
  simp only [List.drop_zero, Nat.sub_zero, Int.toNat_natCast]
  rw [List.take_eq_take_iff]
  omega
theorem cut_drop {α : Type} (xs : List α) {i : Int} (h : 0 ≤ i) : cut xs (some i) none = xs.drop i.toNat := by
  obtain ⟨k, rfl⟩ : ∃ k : Nat, i = k := ⟨i.toNat, by omega⟩
  unfold cut
  rw [HT.sIx_nat, HT.sIx_none]
  simp only [Int.toNat_natCast]
  by_cases hk : k ≤ xs.length
  · rw [Nat.min_eq_left hk, List.take_of_length_le (by simp)]
  · rw [Nat.min_eq_right (show xs.length ≤ k by omega), List.drop_eq_nil_of_le (Nat.le_refl _), List.drop_eq_nil_of_le (by omega)]
    simp
theorem cut_mid {α : Type} (xs : List α) {i j : Int} (h : 0 ≤ i) (h2 : 0 ≤ j) : cut xs (some i) (some j) = (xs.drop i.toNat).take (j.toNat - i.toNat) := by
  obtain ⟨k, rfl⟩ : ∃ k : Nat, i = k := ⟨i.toNat, by omega⟩
  obtain ⟨l, rfl⟩ : ∃ k : Nat, j = k := ⟨j.toNat, by omega⟩
  unfold cut
  rw [HT.sIx_nat, HT.sIx_nat]
  simp only [Int.toNat_natCast]
  by_cases hk : k ≤ xs.length
  · rw [Nat.min_eq_left hk, List.take_eq_take_iff, List.length_drop]
    omega
  · rw [Nat.min_eq_right (show xs.length ≤ k by omega), List.drop_eq_nil_of_le (Nat.le_refl _), List.drop_eq_nil_of_le (show xs.length ≤ k by omega)]
    simp
theorem SeqOf.app {C T : Cells} {x : D} {ds : List D} (h : SeqOf C x ds) : SeqOf (C ++ T) x ds := by
  cases h with
  | tup => exact .tup _
  | lst => exact .lst _
  | cel h => exact .cel (by rw [List.getElem?_append_left (List.getElem?_eq_some_iff.mp h).1]; exact h)
theorem SeqOf.setNe {C : Cells} {x : D} {ds : List D} {k : Nat} {c : Cell} (h : SeqOf C x ds) (hk : x ≠ .cel k) : SeqOf (C.set k c) x ds := by
  cases h with
  | tup => exact .tup _
  | lst => exact .lst _
  | cel h =>
    rename_i j
    refine .cel ?_
    rw [List.getElem?_set_ne (fun e => hk (by rw [e]))]
    exact h
theorem set_last (C : Cells) (a b : Cell) : (C ++ [a]).set C.length b = C ++ [b] := by
  simp
theorem par_nx {i j : Nat} {fs : Rho → Cells → Res (List D)} {ρ ρ' : Rho} {C C1 : Cells} {x y : D} (h : fs ρ C = .ok [x, y] C1) (e : (ρ.set i (some x)).set j (some y) = ρ') : sPar i j fs ρ C = .nx ρ' C1 := by
  unfold sPar
  rw [h, ← e]
  rfl
theorem par3_nx {i j l : Nat} {fs : Rho → Cells → Res (List D)} {ρ ρ' : Rho} {C C1 : Cells} {x y z : D} (h : fs ρ C = .ok [x, y, z] C1) (e : ((ρ.set i (some x)).set j (some y)).set l (some z) = ρ') : sPar3 i j l fs ρ C = .nx ρ' C1 := by
  unfold sPar3
  rw [h, ← e]
  rfl
end BV
namespace BV
open PySem PySem.Spec PyProof.Rows L2
/-! ### dicts: entries as data -/
def kOf (d : D) : Option Key := match d with
  | .int i => some (.inl i)
  | .str x => some (.inr x)
  | _ => none
def kD (k : Key) : D := match k with
  | .inl i => .int i
  | .inr x => .str x
def getD' (ks : List (Key × D)) (k : Key) : Option D := (ks.find? fun p => decide (p.1 = k)).map (·.2)
def putD (ks : List (Key × D)) (k : Key) (d : D) : List (Key × D) :=
  if (ks.any fun p => decide (p.1 = k)) = true then ks.map (fun p => if p.1 = k then (p.1, d) else p) else ks ++ [(k, d)]
section
variable {K : PySem.W.Frag} {μ : List Addr} {F : Hp}
theorem kOf_rep {v : V} {d : D} {k : Key} (e : kOf d = some k) (r : Rep K μ F v d) : v = kV k := by
  cases r with
  | int i => cases e; rfl
  | str x => cases e; rfl
  | _ => cases e
theorem kD_rep (k : Key) : Rep K μ F (kV k) (kD k) := by
  cases k with
  | inl i => exact .int i
  | inr x => exact .str x
theorem KReps.nil : KReps K μ F [] [] := ⟨rfl, .nil⟩
theorem KReps.any {ws : List (Key × V)} {ks : List (Key × D)} (r : KReps K μ F ws ks) (k : Key) : (ws.any fun p => decide (p.1 = k)) = (ks.any fun p => decide (p.1 = k)) := by
  have e1 : (ws.any fun p => decide (p.1 = k)) = ((ws.map (·.1)).any fun z => decide (z = k)) := by rw [List.any_map]; rfl
  have e2 : (ks.any fun p => decide (p.1 = k)) = ((ks.map (·.1)).any fun z => decide (z = k)) := by rw [List.any_map]; rfl
  rw [e1, e2, r.1]
theorem KReps.len {ws : List (Key × V)} {ks : List (Key × D)} (r : KReps K μ F ws ks) : ws.length = ks.length := by
  have := congrArg List.length r.1
  simpa using this
theorem KReps.cons_inv {w : Key × V} {ws : List (Key × V)} {p : Key × D} {ks : List (Key × D)} (r : KReps K μ F (w :: ws) (p :: ks)) : w.1 = p.1 ∧ Rep K μ F w.2 p.2 ∧ KReps K μ F ws ks := by
  obtain ⟨e, q⟩ := r
  simp only [List.map_cons, List.cons.injEq] at e
  cases q with
  | cons a b => exact ⟨e.1, a, e.2, b⟩
theorem KReps.cons {w : Key × V} {ws : List (Key × V)} {p : Key × D} {ks : List (Key × D)} (e : w.1 = p.1) (a : Rep K μ F w.2 p.2) (r : KReps K μ F ws ks) : KReps K μ F (w :: ws) (p :: ks) :=
  ⟨by simp [e, r.1], .cons a r.2⟩
theorem KReps.find : ∀ {ws : List (Key × V)} {ks : List (Key × D)} (k : Key), KReps K μ F ws ks → (valV ws k = none ∧ getD' ks k = none) ∨ ∃ v d, valV ws k = some v ∧ getD' ks k = some d ∧ Rep K μ F v d
  | [], [], _, _ => .inl ⟨rfl, rfl⟩
  | [], p :: ks, _, r => by
    have := r.len
    simp at this
  | w :: ws, [], _, r => by
    have := r.len
    simp at this
  | w :: ws, p :: ks, k, r => by
    obtain ⟨e, a, r'⟩ := r.cons_inv
    by_cases h : p.1 = k
    · exact .inr ⟨w.2, p.2, valV_pos (e.trans h), by simp [getD', List.find?_cons, h], a⟩
    · have h' : ¬ w.1 = k := fun z => h (e.symm.trans z)
      have e2 : getD' (p :: ks) k = getD' ks k := by simp [getD', List.find?_cons, h]
      rw [valV_neg h', e2]
      exact KReps.find k r'
theorem KReps.upd {v : V} {d : D} (a : Rep K μ F v d) (k : Key) : ∀ {ws : List (Key × V)} {ks : List (Key × D)}, KReps K μ F ws ks → KReps K μ F (ws.map fun p => if p.1 = k then (p.1, v) else p) (ks.map fun p => if p.1 = k then (p.1, d) else p)
  | [], [], _ => .nil
  | [], p :: ks, r => by
    have := r.len
    simp at this
  | w :: ws, [], r => by
    have := r.len
    simp at this
  | w :: ws, p :: ks, r => by
    obtain ⟨e, b, r'⟩ := r.cons_inv
    simp only [List.map_cons]
    refine .cons ?_ ?_ (KReps.upd a k r')
    · by_cases h : p.1 = k
      · rw [if_pos (e.trans h), if_pos h]; exact e
      · rw [if_neg (fun z => h (e.symm.trans z)), if_neg h]; exact e
    · by_cases h : p.1 = k
      · rw [if_pos (e.trans h), if_pos h]; exact a
      · rw [if_neg (fun z => h (e.symm.trans z)), if_neg h]; exact b
theorem KReps.put {ws : List (Key × V)} {ks : List (Key × D)} {v : V} {d : D} (r : KReps K μ F ws ks) (a : Rep K μ F v d) (k : Key) : KReps K μ F (putK ws k v) (putD ks k d) := by
  unfold putK putD
  rw [r.any k]
  split
  · exact r.upd a k
  · exact ⟨by simp [r.1], by simpa using r.2.append (.cons a .nil)⟩
theorem KReps.keys {ws : List (Key × V)} {ks : List (Key × D)} (r : KReps K μ F ws ks) : Reps K μ F (ws.map fun p => kV p.1) (ks.map fun p => kD p.1) := by
  have e1 : (ws.map fun p => kV p.1) = (ws.map (·.1)).map kV := by rw [List.map_map]; rfl
  have e2 : (ks.map fun p => kD p.1) = (ks.map (·.1)).map kD := by rw [List.map_map]; rfl
  rw [e1, e2, r.1]
  induction ks.map (·.1) with
  | nil => exact .nil
  | cons k l ih => exact .cons (kD_rep k) ih
end
section
variable {K : PySem.W.Frag} {mg : Str → Option Value} {W : WX} {μ μ' : List Addr} {F F' H H' : Hp} {C C' : Cells} {σ : L2.St}
/-- the dict of a cell -/
theorem Sim.dic (S : Sim K μ F C H) {k : Nat} {a : Addr} {ks : List (Key × D)} (hk : C[k]? = some (.dic ks)) (ha : μ[k]? = some a) : ∃ ws, H a = some (.dK ws) ∧ KReps K μ F ws ks := by
  obtain ⟨_, ws, g, r⟩ := S.cel k _ a hk ha
  exact ⟨ws, g, r⟩
/-- a dict's cell is written -/
theorem Sim.writeK (S : Sim K μ F C H) {k : Nat} {a : Addr} {ks ks' : List (Key × D)} {ws' : List (Key × V)} (hk : C[k]? = some (.dic ks)) (ha : μ[k]? = some a) (r : KReps K μ F ws' ks') :
    Sim K μ F (C.set k (.dic ks')) (upd H a (.dK ws')) ∧ Ext μ F H μ F (upd H a (.dK ws')) := by
  obtain ⟨f, vs, g, r0⟩ := S.cel k _ a hk ha
  refine ⟨⟨fun b u e => ?_, by simp [S.len], S.nd, fun b h z => ?_, fun j c b h1 h2 => ?_⟩, ⟨⟨[], by simp, fun a h => nomatch h⟩, Same.refl F, fun b h => ?_, fun a u h1 h2 => (by rw [h1] at h2; cases h2), fun b u h1 h2 => ?_⟩⟩
  · have hne : b ≠ a := fun z => by rw [z, f] at e; cases e
    rw [upd_ne hne]
    exact S.sub b u e
  · by_cases hb : b = a
    · subst hb
      rw [upd_same] at z
      cases z
    · rw [upd_ne hb] at z
      exact S.trk b h z
  · by_cases hj : j = k
    · subst hj
      rw [ha] at h2
      cases h2
      rw [List.getElem?_set_self (List.getElem?_eq_some_iff.mp hk).1] at h1
      cases h1
      exact ⟨f, ws', upd_same, r⟩
    · rw [List.getElem?_set_ne (Ne.symm hj)] at h1
      have q := S.cel j c b h1 h2
      have hne : b ≠ a := fun z => by
        subst z
        obtain ⟨l1, e1⟩ := List.getElem?_eq_some_iff.mp h2
        obtain ⟨l2, e2⟩ := List.getElem?_eq_some_iff.mp ha
        exact hj ((List.getElem_inj S.nd).mp (e1.trans e2.symm))
      cases c with
      | dead => trivial
      | lst ds2 =>
        obtain ⟨f2, vs2, g2, r2⟩ := q
        exact ⟨f2, vs2, by rw [upd_ne hne]; exact g2, r2⟩
      | dic ds2 =>
        obtain ⟨f2, vs2, g2, r2⟩ := q
        exact ⟨f2, vs2, by rw [upd_ne hne]; exact g2, r2⟩
      | tab q0 P0 =>
        obtain ⟨f2, vs2, g2, r2⟩ := q
        exact ⟨f2, vs2, by rw [upd_ne hne]; exact g2, r2⟩
  · by_cases hb : b = a
    · subst hb
      rw [upd_same] at h
      cases h
    · rw [upd_ne hb] at h
      exact h
  · have hne : b ≠ a := fun z => h2 (z ▸ List.mem_of_getElem? ha)
    rw [upd_ne hne]
    exact h1
/-- a dict beside them becomes one of ours -/
theorem kd_adoptK {μ0 : List Addr} {F0 H0 : Hp} {D : Addr} {ks : List (Key × BV.D)} {ws : List (Key × V)} {Q : V → Hp → Prop} (S : Sim K μ F C H) (X : Ext μ0 F0 H0 μ F H) (h0 : H0 D = none) (h1 : D ∉ μ) (h2 : F D = none) (h3 : H D = some (.dK ws)) (r : KReps K μ F ws ks)
    (h : kd (RD K) K mg W (.ok (.cel C.length) (C ++ [.dic ks])) μ0 F0 σ H0 Q) : Q (.ref D) H := by
  obtain ⟨τ, e, n⟩ := X.pre
  refine h _ (μ ++ [D]) F H ⟨⟨τ ++ [D], by rw [e, List.append_assoc], fun a ha => ?_⟩, X.fr, X.thr, X.new, X.keep⟩ ⟨S.sub, by simp [S.len], ?_, fun a ha => ?_, fun k c a e1 e2 => ?_⟩ (.cel ?_)
  · rcases List.mem_append.mp ha with ha | ha
    · exact n a ha
    · simp at ha
      subst ha
      exact h0
  · refine List.nodup_append.mpr ⟨S.nd, by simp, fun a ha b hb e => ?_⟩
    simp at hb
    subst hb
    subst e
    exact h1 ha
  · rcases List.mem_append.mp ha with ha | ha
    · exact S.trk a ha
    · simp at ha
      subst ha
      rw [h3]
      exact fun z => nomatch z
  · by_cases hk : k < C.length
    · rw [List.getElem?_append_left hk] at e1
      rw [List.getElem?_append_left (by rw [S.len]; exact hk)] at e2
      have q := S.cel k c a e1 e2
      cases c with
      | dead => trivial
      | lst ds2 =>
        obtain ⟨f, vs2, g, r2⟩ := q
        exact ⟨f, vs2, g, Reps.mono ⟨[D], rfl⟩ (Same.refl F) _ _ r2⟩
      | dic ds2 =>
        obtain ⟨f, vs2, g, r2⟩ := q
        exact ⟨f, vs2, g, KReps.mono ⟨[D], rfl⟩ (Same.refl F) _ _ r2⟩
      | tab q0 P0 =>
        obtain ⟨f, vs2, g, r2⟩ := q
        exact ⟨f, vs2, g, TabF.mono (Same.refl F) r2⟩
    · have hk0 : k - C.length = 0 := by
        rw [List.getElem?_append_right (by omega)] at e1
        have := (List.getElem?_eq_some_iff.mp e1).1
        simp at this
        omega
      rw [List.getElem?_append_right (by omega), hk0] at e1
      rw [List.getElem?_append_right (by rw [S.len]; omega), S.len, hk0] at e2
      simp at e1 e2
      subst e1 e2
      exact ⟨h2, ws, h3, KReps.mono ⟨[D], rfl⟩ (Same.refl F) _ _ r⟩
  · rw [List.getElem?_append_right (by rw [S.len]; exact Nat.le_refl _), S.len, Nat.sub_self]
    rfl
end
/-! ### k in d -/
def dicD (x : D) (C : Cells) : Option (List (Key × D)) := match x with
  | .cel k => match C[k]? with
    | some (.dic ks) => some ks
    | _ => none
  | _ => none
theorem dicD_rep {K : PySem.W.Frag} {μ : List Addr} {F H : Hp} {C : Cells} {x : D} {v : V} {ks : List (Key × D)} (S : Sim K μ F C H) (r : Rep K μ F v x) (e : dicD x C = some ks) : ∃ a ws k, v = .ref a ∧ x = .cel k ∧ C[k]? = some (.dic ks) ∧ μ[k]? = some a ∧ H a = some (.dK ws) ∧ KReps K μ F ws ks := by
  unfold dicD at e
  split at e
  · split at e
    · rename_i ks' hk
      cases e
      cases r with
      | cel a' =>
        obtain ⟨ws, g, r⟩ := S.dic hk a'
        exact ⟨_, ws, _, rfl, rfl, hk, a', g, r⟩
    · cases e
  · cases e
section
variable {X : Cx} {W : WX}
def rDIn : R2 := fun y x H Q => ∃ a o, x = .ref a ∧ DGet H a y o ∧ Q (.bl o.isSome) H
def rDNin : R2 := fun y x H Q => ∃ a o, x = .ref a ∧ DGet H a y o ∧ Q (.bl (!o.isSome)) H
theorem op_din (hu : X.A.units + 1 < cLine) : OpR X (compareOp .In) rDIn := by
  intro pins s σ H x y v u Q I rx ry h
  obtain ⟨a, o, rfl, g, q⟩ := h
  obtain rfl : u = Value.ref a := ry
  exact d_in hu I g rx fun s' I' => ⟨.bl o.isSome, H, I', rfl, q⟩
theorem op_dnin (hu : X.A.units + 1 < cLine) : OpR X (compareOp .NotIn) rDNin := by
  intro pins s σ H x y v u Q I rx ry h
  obtain ⟨a, o, rfl, g, q⟩ := h
  obtain rfl : u = Value.ref a := ry
  exact d_notIn hu I g rx fun s' I' => ⟨.bl (!o.isSome), H, I', rfl, q⟩
/-- in, of a dict or a sequence -/
def in2D (neg : Bool) (x y : D) (C : Cells) : Res D := match dicD y C with
  | some ks => match kOf x with
    | some k => .ok (.bl (if neg then !(getD' ks k).isSome else (getD' ks k).isSome)) C
    | none => .stuck
  | none => inD neg x y C
theorem ob_in2 (hu : X.A.units + 65 < cLine) : OpB X W (compareOp .In) (in2D false) := by
  obtain ⟨r, hr, hk⟩ := ob_in (X := X) (W := W) hu
  refine ⟨_, (op_din (by omega)).or hr, fun x y C v w μ F H σ Q S r1 r2 k => ?_⟩
  unfold in2D at k
  split at k
  · rename_i ks e
    obtain ⟨a, ws, j, rfl, _, _, _, g, rk⟩ := dicD_rep S r2 e
    split at k
    · rename_i kk ek
      have ev := kOf_rep ek r1
      subst ev
      refine .inl ⟨a, valV ws kk, rfl, DGet.k g, ?_⟩
      have k2 := kd_ret S (.bl _) k
      rcases rk.find kk with ⟨z1, z2⟩ | ⟨v', d', z1, z2, _⟩
      · rw [z1]; rw [z2] at k2; exact k2
      · rw [z1]; rw [z2] at k2; exact k2
    · exact k.elim
  · exact .inr (hk x y C v w μ F H σ Q S r1 r2 k)
theorem ob_nin2 (hu : X.A.units + 65 < cLine) : OpB X W (compareOp .NotIn) (in2D true) := by
  obtain ⟨r, hr, hk⟩ := ob_notin (X := X) (W := W) hu
  refine ⟨_, (op_dnin (by omega)).or hr, fun x y C v w μ F H σ Q S r1 r2 k => ?_⟩
  unfold in2D at k
  split at k
  · rename_i ks e
    obtain ⟨a, ws, j, rfl, _, _, _, g, rk⟩ := dicD_rep S r2 e
    split at k
    · rename_i kk ek
      have ev := kOf_rep ek r1
      subst ev
      refine .inl ⟨a, valV ws kk, rfl, DGet.k g, ?_⟩
      have k2 := kd_ret S (.bl _) k
      rcases rk.find kk with ⟨z1, z2⟩ | ⟨v', d', z1, z2, _⟩
      · rw [z1]; rw [z2] at k2; exact k2
      · rw [z1]; rw [z2] at k2; exact k2
    · exact k.elim
  · exact .inr (hk x y C v w μ F H σ Q S r1 r2 k)
/-! ### d.update(e) -/
def mergeK (ks ls : List (Key × V)) : List (Key × V) := ls.foldl (fun acc p => putK acc p.1 p.2) ks
def mergeD (ks ls : List (Key × D)) : List (Key × D) := ls.foldl (fun acc p => putD acc p.1 p.2) ks
theorem putK_le (c : List (Key × V)) (k : Key) (x : V) : (putK c k x).length ≤ c.length + 1 := by
  unfold putK
  split <;> simp
theorem mergeK_le : ∀ (ls ks : List (Key × V)), (mergeK ks ls).length ≤ ks.length + ls.length
  | [], ks => by simp [mergeK]
  | p :: ls, ks => by
    have h1 := mergeK_le ls (putK ks p.1 p.2)
    have h2 := putK_le ks p.1 p.2
    have e : mergeK ks (p :: ls) = mergeK (putK ks p.1 p.2) ls := rfl
    rw [e, List.length_cons]
    omega
theorem KV.merge : ∀ {ls : List (Key × V)} {vl : List (Key × Value)}, KV ls vl → ∀ {ks : List (Key × V)} {vk : List (Key × Value)}, KV ks vk → KV (mergeK ks ls) (PySem.merged vk vl) := by
  intro ls vl h
  induction h with
  | nil => intro ks vk q; exact q
  | cons a r ih =>
    intro ks vk q
    rename_i p q' ls' vl'
    have e : PySem.merged vk (q' :: vl') = PySem.merged (PySem.stored vk q'.1 q'.2) vl' := rfl
    have e2 : mergeK ks (p :: ls') = mergeK (putK ks p.1 p.2) ls' := rfl
    rw [e, e2, ← a.1]
    exact ih (L2.KV.put q p.1 a.2)
theorem KReps.merge {K : PySem.W.Frag} {μ : List Addr} {F : Hp} : ∀ {ls : List (Key × V)} {l2 : List (Key × D)}, KReps K μ F ls l2 → ∀ {ks : List (Key × V)} {k2 : List (Key × D)}, KReps K μ F ks k2 → KReps K μ F (mergeK ks ls) (mergeD k2 l2)
  | [], [], _, _, _, q => q
  | [], p :: ks, r, _, _, _ => by
    have := r.len
    simp at this
  | w :: ws, [], r, _, _, _ => by
    have := r.len
    simp at this
  | w :: ls, p :: l2, r, ks, k2, q => by
    obtain ⟨e, a, r'⟩ := r.cons_inv
    have e1 : mergeK ks (w :: ls) = mergeK (putK ks w.1 w.2) ls := rfl
    have e2 : mergeD k2 (p :: l2) = mergeD (putD k2 p.1 p.2) l2 := rfl
    rw [e1, e2, e]
    exact KReps.merge r' (q.put a p.1)
def rUpd (x : V) (vs : List V) (H : Hp) (Q : VK) : Prop := ∃ a b ks ls, x = .ref a ∧ vs = [.ref b] ∧ a ≠ b ∧ H a = some (.dK ks) ∧ H b = some (.dK ls) ∧ ks.length + ls.length ≤ sizeLine ∧ Q .non (upd H a (.dK (mergeK ks ls)))
theorem mt_dupd : MtR X "dict.update" rUpd := by
  intro pins s σ H x vs v us Q I rx rv h
  obtain ⟨a, b, ks, ls, rfl, rfl, hne, ha, hb, hz, q⟩ := h
  obtain rfl : v = Value.ref a := rx
  obtain ⟨u, rfl, ru⟩ := vals1 rv
  obtain rfl : u = Value.ref b := ru
  obtain ⟨z1, hd1, v1, r1, d1⟩ := dk_of I.hok ha
  obtain ⟨z2, hd2, v2, r2, d2⟩ := dk_of I.hok hb
  refine call_meetsIn PySem.F.slot_dict_update d1.typeIs PySem.F.entry_dict_update (PySem.F.args_dict_update_2 _ _) (meets_dict_update (mixKind X.prog X.w) a b hne hd2) ⟨v1, v2, d1, d2, by rw [← r1.length, ← r2.length]; exact hz, fun h' dd' _ hs => ?_⟩
  have he : ∃ q, h'.get? a = some q := let ⟨q, _, _, hq, _⟩ := dd'; ⟨q, hq⟩
  exact ⟨.non, _, d_write (t' := s.toks) I (by rw [ha]; exact True.intro) hs he (dk_new (Nat.le_trans (mergeK_le _ _) hz) hd1 (KV.merge r2 r1) dd'), rfl, q⟩
def updD (x y : D) (C : Cells) : Res D := match x, y with
  | .cel k, .cel j => if k = j then .stuck else match C[k]?, C[j]? with
    | some (.dic ks), some (.dic ls) => if ks.length + ls.length ≤ sizeLine then .ok .non (C.set k (.dic (mergeD ks ls))) else .stuck
    | _, _ => .stuck
  | _, _ => .stuck
def fMtK (o : D → D → Cells → Res D) (f g : Rho → Cells → Res D) : Rho → Cells → Res D := fun ρ C => (f ρ C).bind fun x C1 => match dicD x C1 with
  | some _ => (g ρ C1).bind fun v C2 => o x v C2
  | none => .stuck
theorem be_upd {a b : Expr} {fa fb : Rho → Cells → Res D} {apos pos : Pos} (ha : BE X W a fa) (hb : BE X W b fb) (h : ∀ {ta tb : TE}, PE X a ta → PE X b tb → PE X (.Call (.Attribute a "update" apos) [b] [] pos) (tBM X.K "dict" rUpd ta (tCons tb tNil))) :
    BE X W (.Call (.Attribute a "update" apos) [b] [] pos) (fMtK updD fa fb) := by
  refine peI (h ha hb) ?_
  rintro σ H Q ⟨ρ, C, μ, F, S, E, k⟩
  refine ⟨ρ, C, μ, F, S, E, kd_bind k fun d C1 v μ1 F1 H1 x1 s1 r1 h1 => ?_⟩
  split at h1
  · rename_i ks0 e1
    obtain ⟨a0, ws0, j0, ev, ex, hk0, hm0, g0, rk0⟩ := dicD_rep s1 r1 e1
    subst ev
    refine ⟨.inr (.inr (.inl ⟨rfl, .inl ⟨ws0, g0⟩⟩)), ρ, C1, μ1, F1, s1, x1.env E, kd_bind h1 fun d2 C2 v2 μ2 F2 H2 x2 s2 r2 h2 => ?_⟩
    unfold updD at h2
    split at h2
    · split at h2
      · exact h2.elim
      · rename_i kk jj hne
        split at h2
        · rename_i ks ls e3 e4
          split at h2
          · rename_i z
            have r3 := x2.rep r1
            cases r3 with
            | cel a' =>
              cases r2 with
              | cel b' =>
                obtain ⟨w1, g1, q1⟩ := s2.dic e3 a'
                obtain ⟨w2, g2, q2⟩ := s2.dic e4 b'
                obtain ⟨S3, X3⟩ := s2.writeK e3 a' (KReps.merge q2 q1)
                have hab : a0 ≠ _ := fun z => hne (by
                  obtain ⟨l1, y1⟩ := List.getElem?_eq_some_iff.mp a'
                  obtain ⟨l2, y2⟩ := List.getElem?_eq_some_iff.mp b'
                  exact (List.getElem_inj s2.nd).mp (y1.trans (z.trans y2.symm)))
                rw [← q1.len, ← q2.len] at z
                exact ⟨_, _, w1, w2, rfl, rfl, hab, g1, g2, z, h2 _ _ _ _ X3 S3 .non⟩
          · exact h2.elim
        · exact h2.elim
    · exact h2.elim
  · exact h1.elim
/-! ### list(d) -/
def oListD (m : Bool) (xs : List D) (C : Cells) : Res D := match xs with
  | [x] => match dicD x C with
    | some ks => mkL m (ks.map fun p => kD p.1) C
    | none => oList m xs C
  | _ => oList m xs C
theorem cb_listD (m : Bool) (hc : X.calm = true) : CallB X W (.type "list") (oListD m) := by
  obtain ⟨r, hr, hk⟩ := cb_list (X := X) (W := W) m
  refine ⟨fun xs H Q => (∃ (a : Addr) (kvs : List (Key × V)), xs = [.ref a] ∧ Rd H a (.dK kvs) ∧ ∀ p, H p = none → Q (.ref p) (upd H p (.lst (kvs.map fun kv => kV kv.1)))) ∨ r xs H Q, ?_, fun xs C vs μ F H σ Q S rs k => ?_⟩
  · intro pins s σ H xs us Q I rv h
    rcases h with h | h
    · exact call_listD hc pins s σ H xs us Q I rv h
    · exact hr pins s σ H xs us Q I rv h
  · unfold oListD at k
    split at k
    · rename_i x
      split at k
      · rename_i ks e
        obtain ⟨v, rfl, r1⟩ := reps1 rs
        obtain ⟨a, ws, j, rfl, _, _, _, g, rk⟩ := dicD_rep S r1 e
        exact .inl ⟨a, ws, rfl, .inl g, fun p hp => kd_mkL S hp rk.keys k⟩
      · exact .inr (hk _ C vs μ F H σ Q S rs k)
    · exact .inr (hk _ C vs μ F H σ Q S rs k)
end
end BV
namespace BV
open PySem PySem.Spec PyProof.Rows L2
/-! ### dict comprehensions over what is fixed -/
def dcL (t : D → Rho → Option Rho) (ft fk fv : Rho → Cells → Res D) (ρ : Rho) : List (Key × D) → List D → Cells → Res (List (Key × D))
  | acc, [], C => .ok acc C
  | acc, d :: ds, C => match t d ρ with
    | some ρ1 => (noX (toB (ft ρ1 C))).bind fun b C1 => if b then (noX (fk ρ1 C1)).bind fun x C2 => (noX (fv ρ1 C2)).bind fun y C3 => match kOf x with
        | some k => if acc.length < sizeLine then dcL t ft fk fv ρ (putD acc k y) ds C3 else .stuck
        | none => .stuck
      else dcL t ft fk fv ρ acc ds C1
    | none => .stuck
def fDc (vs : List Nat) (fi : Rho → Cells → Res Src) (t : D → Rho → Option Rho) (ft fk fv : Rho → Cells → Res D) : Rho → Cells → Res D := fun ρ C => (fi ρ C).bind fun src C1 => match src with
  | .fix ds => (dcL t ft fk fv (wipeD ρ vs) [] ds C1).bind fun ks C2 => .ok (.cel C2.length) (C2 ++ [.dic ks])
  | _ => .stuck
theorem noex_dcL (t : D → Rho → Option Rho) (ft fk fv : Rho → Cells → Res D) (ρ : Rho) : ∀ (ds : List D) (acc : List (Key × D)) (C : Cells) (c : Str) (p : D) (C' : Cells), dcL t ft fk fv ρ acc ds C ≠ .ex c p C'
  | [], acc, C, c, p, C' => fun h => by simp [dcL] at h
  | d :: ds, acc, C, c, p, C' => fun h => by
    unfold dcL at h
    split at h
    · cases h1 : noX (toB (ft _ C)) with
      | stuck => rw [h1] at h; cases h
      | ex c1 p1 C1 => exact noX_ne _ _ _ _ h1
      | ok b C1 =>
        rw [h1] at h
        simp only [Res.bind_ok] at h
        split at h
        · cases h2 : noX (fk _ C1) with
          | stuck => rw [h2] at h; cases h
          | ex c1 p1 C1 => exact noX_ne _ _ _ _ h2
          | ok x C2 =>
            rw [h2] at h
            simp only [Res.bind_ok] at h
            cases h3 : noX (fv _ C2) with
            | stuck => rw [h3] at h; cases h
            | ex c1 p1 C1 => exact noX_ne _ _ _ _ h3
            | ok y C3 =>
              rw [h3] at h
              simp only [Res.bind_ok] at h
              split at h
              · split at h
                · exact noex_dcL t ft fk fv ρ ds _ _ _ _ _ h
                · cases h
              · cases h
        · exact noex_dcL t ft fk fv ρ ds _ _ _ _ _ h
    · cases h
section
variable {X : Cx} {W : WX}
/-- between the turns: the new dict stands at D -/
structure DcInv (K : PySem.W.Frag) (μ1 : List Addr) (F1 H1 : Hp) (D : Addr) (C2 : Cells) (μ2 : List Addr) (F2 H2 : Hp) (acc : List (Key × BV.D)) (va : List (Key × V)) : Prop where
  x2 : Ext μ1 F1 H1 μ2 F2 H2
  s2 : Sim K μ2 F2 C2 H2
  d1 : D ∉ μ2
  d2 : F2 D = none
  d3 : H2 D = some (.dK va)
  ra : KReps K μ2 F2 va acc
def dcK (r : Res (List (Key × BV.D))) : Res BV.D := r.bind fun ks C2 => .ok (.cel C2.length) (C2 ++ [.dic ks])
theorem dc_step {t : BV.D → Rho → Option Rho} {ns : List Nat} {ft fk fv : Rho → Cells → Res BV.D} {vs : List Nat} {ρw : Rho} {σ : L2.St} {Q : VK} {μ1 μ2 : List Addr} {F1 F2 F3 H1 H2 H3 : Hp} {D : Addr} {C2 : Cells} {acc : List (Key × BV.D)} {va : List (Key × V)} {x : V} {d : BV.D} {ds : List BV.D} {N : Hp → Prop}
    (hv : ∀ i ∈ ns, i ∈ vs) (hD : H1 D = none) (L : DcInv X.K μ1 F1 H1 D C2 μ2 F2 H2 acc va) (X3 : Ext μ2 F2 H2 μ2 F3 H3) (S3 : Sim X.K μ2 F3 C2 H3) (rd : Rep X.K μ2 F3 x d) (E1 : ERel X.K μ1 F1 ρw (wipe σ vs))
    (k2 : kd (RD X.K) X.K X.mg W (dcK (dcL t ft fk fv ρw acc (d :: ds) C2)) μ1 F1 σ H1 Q)
    (hN : ∀ C' μ' F' H' acc' va', DcInv X.K μ1 F1 H1 D C' μ' F' H' acc' va' → kd (RD X.K) X.K X.mg W (dcK (dcL t ft fk fv ρw acc' ds C')) μ1 F1 σ H1 Q → N H') :
    rG X.K t ns x (wipe σ vs) H3 fun σ2 H2 => wipe σ2 vs = wipe σ vs ∧ rT X.K X.mg W0 ft σ2 H2 fun b H3 =>
      if b = true then rE X.K X.mg W0 fk σ2 H3 fun y H4 => rE X.K X.mg W0 fv σ2 H4 fun z H5 => ∃ kvs k, y = kV k ∧ H5 D = some (.dK kvs) ∧ kvs.length < sizeLine ∧ N (upd H5 D (.dK (putK kvs k z))) else N H3 := by
  obtain ⟨x2, s2, d1, d2, d3, ra⟩ := L
  have dn : ∀ {μa : List Addr} {Fa Ha : Hp}, Ext μ2 F2 H2 μa Fa Ha → D ∉ μa ∧ Fa D = none ∧ Ha D = some (.dK va) := fun {μa Fa Ha} xa => by
    refine ⟨fun z => ?_, ?_, xa.keep D _ d3 d1⟩
    · obtain ⟨τ, e, nn⟩ := xa.pre
      rw [e] at z
      rcases List.mem_append.mp z with z | z
      · exact d1 z
      · rw [nn D z] at d3
        cases d3
    · cases q : Fa D with
      | none => rfl
      | some o =>
        rcases xa.new D o q d2 with z | z
        · rw [z] at d3
          cases d3
        · exact absurd z d1
  unfold dcK dcL at k2
  split at k2
  · rename_i ρ3 e3
    refine ⟨ρw, C2, μ2, F3, d, ρ3, S3, X3.env (x2.env E1), rd, e3, fun σ4 E4 w4 => ⟨?_, ρ3, C2, μ2, F3, S3, E4, ?_⟩⟩
    · rw [w4 vs hv]
      exact wipe_wipe σ vs
    · cases hft : toB (ft ρ3 C2) with
      | stuck =>
        rw [hft] at k2
        exact k2.elim
      | ex c p C3 =>
        rw [hft] at k2
        exact k2.elim
      | ok b C3 =>
        rw [hft] at k2
        intro b' μ4 F4 H4 x4 s4 eb
        have eb' : b' = b := eb
        subst eb'
        simp only [noX, Res.bind_ok] at k2
        cases b' with
        | true =>
          refine iteT ⟨ρ3, C3, μ4, F4, s4, x4.env E4, ?_⟩
          simp only [if_true] at k2
          cases hfk : fk ρ3 C3 with
          | stuck =>
            rw [hfk] at k2
            exact k2.elim
          | ex c p C4 =>
            rw [hfk] at k2
            exact k2.elim
          | ok xk C4 =>
            rw [hfk] at k2
            simp only [noX, Res.bind_ok] at k2
            intro w5 μ5 F5 H5 x5 s5 r5
            refine ⟨ρ3, C4, μ5, F5, s5, x5.env (x4.env E4), ?_⟩
            cases hfv : fv ρ3 C4 with
            | stuck =>
              rw [hfv] at k2
              exact k2.elim
            | ex c p C5 =>
              rw [hfv] at k2
              exact k2.elim
            | ok yv C5 =>
              rw [hfv] at k2
              simp only [noX, Res.bind_ok] at k2
              intro w6 μ6 F6 H6 x6 s6 r6
              have xa := X3.trans (x4.trans (x5.trans x6))
              obtain ⟨g1, g2, g3⟩ := dn xa
              split at k2
              · rename_i kk ek
                split at k2
                · rename_i hz
                  have rk := xa
                  have ra6 : KReps X.K μ6 F6 va acc := ⟨ra.1, xa.reps ra.2⟩
                  refine ⟨va, kk, kOf_rep ek r5, g3, by rw [ra.len]; exact hz, hN C5 μ6 F6 _ (putD acc kk yv) (putK va kk w6) ⟨?_, s6.other g1 g2, g1, g2, upd_same, ra6.put r6 kk⟩ k2⟩
                  have xb := x2.trans xa
                  exact ⟨xb.pre, xb.fr, fun a z => by
                    by_cases hb : a = D
                    · subst hb; exact hD
                    · rw [upd_ne hb] at z; exact xb.thr a z, xb.new, fun a o e z => by rw [upd_ne (ne_of_none e hD)]; exact xb.keep a o e z⟩
                · exact k2.elim
              · exact k2.elim
        | false =>
          simp only [if_neg Bool.false_ne_true] at k2
          have xa := X3.trans x4
          obtain ⟨g1, g2, g3⟩ := dn xa
          exact iteF (hN C3 μ4 F4 H4 acc va ⟨x2.trans xa, s4, g1, g2, g3, ra.1, xa.reps ra.2⟩ k2)
  · exact k2.elim
theorem dc_reading {fi : Rho → Cells → Res Src} {t : BV.D → Rho → Option Rho} {ns : List Nat} {ft fk fv : Rho → Cells → Res BV.D} {vs : List Nat} (hv : ∀ i ∈ ns, i ∈ vs) (σ : L2.St) (H : Hp) (Q : VK) (h : rE X.K X.mg W (fDc vs fi t ft fk fv) σ H Q) :
    tDc (rI X.K X.mg W fi) (rG X.K t ns) (rT X.K X.mg W0 ft) (rE X.K X.mg W0 fk) (rE X.K X.mg W0 fv) vs σ H Q := by
  obtain ⟨ρ, C, μ, F, S, E, k⟩ := h
  refine ⟨ρ, C, μ, F, S, E, kd_bind k fun src C1 J μ1 F1 H1 x1 s1 r1 h1 => ?_⟩
  intro D hD
  have E1 := (x1.env E).wipe vs
  have L0 : DcInv X.K μ1 F1 H1 D C1 μ1 F1 (upd H1 D (.dK [])) [] [] := ⟨⟨⟨[], by simp, fun a z => nomatch z⟩, Same.refl _, fun a z => by
      by_cases hb : a = D
      · subst hb; exact hD
      · rw [upd_ne hb] at z; exact z, fun a o e1 e2 => (by rw [e1] at e2; cases e2), fun a o e _ => by rw [upd_ne (ne_of_none e hD)]; exact e⟩,
    s1.other (s1.notin hD) (s1.free hD), s1.notin hD, s1.free hD, upd_same, .nil⟩
  have pre : ∀ {C2 μ2 F2 H2 acc va}, DcInv X.K μ1 F1 H1 D C2 μ2 F2 H2 acc va → ∃ τ, μ2 = μ1 ++ τ := fun L => ⟨_, L.x2.pre.choose_spec.1⟩
  cases src with
  | fix ds =>
    refine ⟨fun i n H2 => n = ds.length - i ∧ i ≤ ds.length ∧ ∃ C2 μ2 F2 acc va, DcInv X.K μ1 F1 H1 D C2 μ2 F2 H2 acc va ∧ kd (RD X.K) X.K X.mg W (dcK (dcL t ft fk fv (wipeD ρ vs) acc (ds.drop i) C2)) μ1 F1 σ H1 Q,
      ⟨ds.length, by simp, Nat.zero_le _, C1, μ1, F1, [], [], L0, h1⟩, ?_⟩
    rintro i n H2 ⟨rfl, hi, C2, μ2, F2, acc, va, L, k2⟩
    by_cases hlt : i < ds.length
    · obtain ⟨hgo, hy⟩ := r1.go i μ2 F2 C2 H2 hlt (pre L) L.x2.fr L.s2
      refine .inr ⟨hgo, _, fun H' p' => ⟨ds.length - (i + 1), by omega, p'⟩, fun x H3 y => ?_⟩
      obtain ⟨F3, d, X3, S3, ed, rd⟩ := hy x H3 y
      rw [List.drop_eq_getElem_cons hlt] at k2
      have ed' : ds[i] = d := by
        rw [List.getElem?_eq_getElem hlt] at ed
        exact Option.some.inj ed
      rw [ed'] at k2
      exact dc_step hv hD L X3 S3 rd E1 k2 fun C' μ' F' H' acc' va' L' k' => ⟨rfl, hlt, C', μ', F', acc', va', L', k'⟩
    · have e : i = ds.length := by omega
      subst e
      rw [List.drop_length] at k2
      refine .inl ⟨r1.stop μ2 F2 C2 H2 (pre L) L.x2.fr L.s2, ?_⟩
      unfold dcK dcL at k2
      simp only [Res.bind_ok] at k2
      exact kd_adoptK L.s2 L.x2 hD L.d1 L.d2 L.d3 L.ra k2
  | cel kk n => exact h1.elim
theorem be_dc {kx vx tg it : Expr} {ifs : List Expr} {scope : Scope} {own : List (Str × Nat)} {pos : Pos} {fi : Rho → Cells → Res Src} {t : BV.D → Rho → Option Rho} {ns : List Nat} {ft fk fv : Rho → Cells → Res BV.D} (hc : X.calm = true) (hN : X.N.Nodup) (ok : BlkOk X.N X.env.scope scope own)
    (hv : ∀ i ∈ ns, i ∈ own.map (·.2)) (hi : BI X W tg it fi) (hg : ∀ (s : Shared) (H : Hp) (C : Addr) (cl : List (Str × Addr)) (fp : List Addr), BG (X.blk s H scope (compEnvC scope cl C X.env) fp) tg t ns)
    (ht : ∀ (s : Shared) (H : Hp) (C : Addr) (cl : List (Str × Addr)) (fp : List Addr), BTs (X.blk s H scope (compEnvC scope cl C X.env) fp) W0 ifs ft) (hk : ∀ (s : Shared) (H : Hp) (C : Addr) (cl : List (Str × Addr)) (fp : List Addr), BE (X.blk s H scope (compEnvC scope cl C X.env) fp) W0 kx fk)
    (he : ∀ (s : Shared) (H : Hp) (C : Addr) (cl : List (Str × Addr)) (fp : List Addr), BE (X.blk s H scope (compEnvC scope cl C X.env) fp) W0 vx fv)
    (hs : ∀ x, foldedSetIterable it X.env x = pure x := by intro _; rfl) : BE X W (.DictComp kx vx [⟨tg, it, ifs, 0⟩] scope pos) (fDc (own.map (·.2)) fi t ft fk fv) :=
  peI (pe_dc hc hN hi ok hg ht hk he hs) (dc_reading hv)
/-- name = {..} on one line, the name a local -/
theorem ps_setD1 {i : Nat} {y : Str} {py : Pos} {kx vx tg it : Expr} {ifs : List Expr} {scope : Scope} {own : List (Str × Nat)} {pos spos : Pos} {wi : TI} {g : TG} {tt : TT} {tk tv : TE} (hc : X.calm = true) (hN : X.N.Nodup) (hy : X.N[i]? = some y) (hyl : X.env.scope.names.lookup y = some .local)
    (hsw : swapsWith (.DictComp kx vx [⟨tg, it, ifs, 0⟩] scope pos) (some (.Name y py)) spos.line X.env = pure true) (hi : PI X tg it wi) (ok : BlkOk X.N X.env.scope scope own)
    (hg : ∀ (s : Shared) (H : Hp) (C : Addr) (cl : List (Str × Addr)) (fp : List Addr), PG (X.blk s H scope (compEnvC scope cl C X.env) fp) tg g) (ht : ∀ (s : Shared) (H : Hp) (C : Addr) (cl : List (Str × Addr)) (fp : List Addr), PTs (X.blk s H scope (compEnvC scope cl C X.env) fp) ifs tt)
    (hk : ∀ (s : Shared) (H : Hp) (C : Addr) (cl : List (Str × Addr)) (fp : List Addr), PE (X.blk s H scope (compEnvC scope cl C X.env) fp) kx tk) (he : ∀ (s : Shared) (H : Hp) (C : Addr) (cl : List (Str × Addr)) (fp : List Addr), PE (X.blk s H scope (compEnvC scope cl C X.env) fp) vx tv)
    (hs : ∀ x, foldedSetIterable it X.env x = pure x) :
    PS X (.Assign [.Name y py] (.DictComp kx vx [⟨tg, it, ifs, 0⟩] scope pos) spos) (tAsg (tDc wi g tt tk tv (own.map (·.2))) (gName i)) := by
  refine ⟨fun pn s σ H D I q => ?_⟩
  rw [exec_Assign_Name_used _ _ _ _ hsw]
  refine wpAny_bind (wpAny_standAt (wpAny_bind ?_))
  show wpAny _ X.A (do let _ ← comprehension (.DictComp kx vx [⟨tg, it, ifs, 0⟩] scope pos) scope X.env (firstIterPos [⟨tg, it, ifs, 0⟩] pos) newDict false (eval it X.env) (some (assign (.Name y py) X.env))) _ _ s
  have q1 : tDc wi g tt tk tv (own.map (·.2)) σ H (fun x H1 => gName i x σ H1 D.nx) := q
  refine wpAny_bind (thn (dc_core (Qf := fun _ s' => SP X pn D .next s') hc hN I hi ok hg ht hk he hs q1 fun L Z s' m H' I' q2 hn fo => ?_) fun _ s' z => wpAny_pure (wpAny_pure z))
  show wpAny _ _ (assign (.Name y py) X.env (.ref L)) _ _ _
  refine wpAny_assign_Name (store_ok2 (v := V.ref L) I' hN hy (.inl hyl) rfl (fun s2 I2 ⟨a, sb, ha⟩ => ?_) (.inr hyl))
  obtain ⟨c0, c1, c2, c3, c4, c5⟩ := fo
  have hne : Z ≠ a := ha.elim (fun z => by rw [z]; exact c1) fun z e => c4 y a z e.symm
  exact ⟨m, hn.sameBut sb hne, fun h3 sb3 => ⟨_, H', I2.turned (t' := s2.toks) (fun b o hb e => (sb3.2 b hb).trans e) c0 c1 c3 c4 c5, q2⟩⟩
theorem sw_dict {kx vx : Expr} {gs : List Comprehension} {scope : Scope} {pos py : Pos} {y : Str} {l : Nat} {env : Env} (hk : env.scope.kind = .function) (hy : env.scope.names.lookup y = some .local) (hl : (py.line == pos.line) = true)
    (ha : (scope.names.any fun (n, k) => n == y && (k == .local || k == .cell)) = false) : swapsWith (.DictComp kx vx gs scope pos) (some (.Name y py)) l env = pure true := by
  have k1 : env.kindOf y = some .local := hy
  have k2 : env.blockKind = .function := by unfold Env.blockKind; rw [hk]; rfl
  unfold swapsWith
  simp only [k2, k1, ha, Expr.pos, hl]
  rfl
theorem bs_setDc {i : Nat} {y : Str} {py : Pos} {kx vx tg it : Expr} {ifs : List Expr} {scope : Scope} {own : List (Str × Nat)} {pos spos : Pos} {fi : Rho → Cells → Res Src} {t : BV.D → Rho → Option Rho} {ns : List Nat} {ft fk fv : Rho → Cells → Res BV.D} (hc : X.calm = true) (hN : X.N.Nodup) (ok : BlkOk X.N X.env.scope scope own)
    (hv : ∀ i ∈ ns, i ∈ own.map (·.2)) (hy : X.N[i]? = some y) (hyl : X.env.scope.names.lookup y = some .local) (hsw : swapsWith (.DictComp kx vx [⟨tg, it, ifs, 0⟩] scope pos) (some (.Name y py)) spos.line X.env = pure true)
    (hi : BI X W tg it fi) (hg : ∀ (s : Shared) (H : Hp) (C : Addr) (cl : List (Str × Addr)) (fp : List Addr), BG (X.blk s H scope (compEnvC scope cl C X.env) fp) tg t ns)
    (ht : ∀ (s : Shared) (H : Hp) (C : Addr) (cl : List (Str × Addr)) (fp : List Addr), BTs (X.blk s H scope (compEnvC scope cl C X.env) fp) W0 ifs ft) (hk : ∀ (s : Shared) (H : Hp) (C : Addr) (cl : List (Str × Addr)) (fp : List Addr), BE (X.blk s H scope (compEnvC scope cl C X.env) fp) W0 kx fk)
    (he : ∀ (s : Shared) (H : Hp) (C : Addr) (cl : List (Str × Addr)) (fp : List Addr), BE (X.blk s H scope (compEnvC scope cl C X.env) fp) W0 vx fv)
    (hs : ∀ x, foldedSetIterable it X.env x = pure x := by intro _; rfl) : BS X W (.Assign [.Name y py] (.DictComp kx vx [⟨tg, it, ifs, 0⟩] scope pos) spos) (sSet i (fDc (own.map (·.2)) fi t ft fk fv)) := by
  refine psI (ps_setD1 (g := rG X.K t ns) (tt := rT X.K X.mg W0 ft) (tk := rE X.K X.mg W0 fk) (tv := rE X.K X.mg W0 fv) hc hN hy hyl hsw hi ok hg ht hk he hs) ?_
  rintro D σ H ⟨ρ, C, μ, F, S, E, k⟩
  exact dc_reading (X := X) (W := W) hv _ _ _ ⟨ρ, C, μ, F, S, E, sd_bind E k fun d C1 v μ1 F1 H1 x1 s1 r1 h1 => sd_nx s1 ((x1.env E).set r1) h1⟩
/-! ### x += e, whole numbers -/
def sAug (i : Nat) (o : Int → Int → Int) (f : Rho → Cells → Res BV.D) : Rho → Cells → Out := fun ρ C => match ρ[i]? with
  | some (some (.int a)) => (f ρ C).out ρ fun d C1 => match d with
    | .int b => .nx (ρ.set i (some (.int (o a b)))) C1
    | _ => .stuck
  | _ => .stuck
theorem bs_aug {i : Nat} {x : Str} {e : Expr} {op : Operator} {o : Int → Int → Int} {f : Rho → Cells → Res BV.D} {pos pos' : Pos} (hN : X.N.Nodup) (hi : X.N[i]? = some x) (hx : Loc X.env.scope x) (he : BE X W e f) (ho : PIp X op (ipI o))
    (hf : X.fn x = true ∨ X.env.scope.names.lookup x = some .local := by first | exact .inl rfl | exact .inr rfl | assumption) : BS X W (.AugAssign (.Name x pos') op e pos) (sAug i o f) := by
  refine psI (ps_aug hN hi hx he ho hf) ?_
  rintro D σ H ⟨ρ, C, μ, F, S, E, k⟩
  unfold sAug at k
  split at k
  · rename_i a ea
    obtain ⟨v, e1, r1⟩ := E.2 i _ ea
    cases r1
    refine ⟨_, e1, ρ, C, μ, F, S, E, sd_bind E k fun d C1 v1 μ1 F1 H1 x1 s1 r2 h1 => ?_⟩
    split at h1
    · cases r2
      exact ⟨a, _, rfl, rfl, sd_nx s1 ((x1.env E).set (.int _)) h1⟩
    · exact h1.elim
  · exact k.elim
end
end BV
namespace BV
open PySem PySem.Spec PyProof.Rows L2
section
variable {X : Cx} {W : WX}
/-! ### xs.index(y) -/
def idxD (x y : D) (C : Cells) : Res D := match asL x C with
  | some _ => match toPyC x C, toPyC y C with
    | some (.list ds), some d => if SeqAt.shaped (.list ds) = true ∧ SeqAt.shaped d = true then match ds.findIdx? fun z => PyData.eqv z d with
      | some j => .ok (.int (j : Nat)) C
      | none => .stuck
      else .stuck
    | _, _ => .stuck
  | none => .stuck
theorem be_idx {a b : Expr} {fa fb : Rho → Cells → Res D} {apos pos : Pos} (ha : BE X W a fa) (hb : BE X W b fb) (h : ∀ {ta tb : TE}, PE X a ta → PE X b tb → PE X (.Call (.Attribute a "index" apos) [b] [] pos) (tBM X.K "list" (rIndexD X.K) ta (tCons tb tNil))) :
    BE X W (.Call (.Attribute a "index" apos) [b] [] pos) (fMt1 idxD fa fb) := by
  refine peI (h ha hb) ?_
  rintro σ H Q ⟨ρ, C, μ, F, S, E, k⟩
  refine ⟨ρ, C, μ, F, S, E, kd_bind k fun d C1 v μ1 F1 H1 x1 s1 r1 h1 => ?_⟩
  split at h1
  · rename_i ds0 e1
    refine ⟨tyL s1 r1 e1, ρ, C1, μ1, F1, s1, x1.env E, kd_bind h1 fun d2 C2 v2 μ2 F2 H2 x2 s2 r2 h2 => ?_⟩
    unfold idxD at h2
    have r3 := x2.rep r1
    split at h2
    · rename_i ds' e2
      split at h2
      · rename_i ps p e3 e4
        split at h2
        · rename_i z
          split at h2
          · rename_i j ej
            obtain ⟨hj, hp, hno⟩ := List.findIdx?_eq_some_iff_getElem.mp ej
            have q3 := toPyC_dp s2 e3 r3
            obtain ⟨a0, vs0, ev, _, _⟩ := asL_rep s2 r3 e2
            subst ev
            exact ⟨a0, v2, p, ps, j, ps[j], rfl, rfl, q3, toPyC_dp s2 e4 r2, z.1, z.2, by simp [hj], hp, fun m z' hm hz => by
              obtain ⟨hm2, rfl⟩ := List.getElem?_eq_some_iff.mp hz
              have := hno m hm
              simpa using this, kd_ret s2 (.int _) h2⟩
          · exact h2.elim
        · exact h2.elim
      · exact h2.elim
    · exact h2.elim
  · exact h1.elim
end
/-! ### sorted(xs), whole numbers -/
def insI (x : Int) : List Int → List Int
  | [] => [x]
  | y :: ys => if x ≤ y then x :: y :: ys else y :: insI x ys
def srtI : List Int → List Int
  | [] => []
  | x :: xs => insI x (srtI xs)
theorem insI_perm (x : Int) : ∀ ys : List Int, (insI x ys).Perm (x :: ys)
  | [] => .refl _
  | y :: ys => by
    unfold insI
    split
    · exact .refl _
    · exact ((insI_perm x ys).cons y).trans (.swap x y ys)
theorem srtI_perm : ∀ xs : List Int, (srtI xs).Perm xs
  | [] => .refl _
  | x :: xs => (insI_perm x _).trans ((srtI_perm xs).cons x)
theorem insI_up (x : Int) : ∀ {ys : List Int}, ys.Pairwise (· ≤ ·) → (insI x ys).Pairwise (· ≤ ·)
  | [], _ => by simp [insI]
  | y :: ys, h => by
    obtain ⟨h1, h2⟩ := List.pairwise_cons.mp h
    unfold insI
    split
    · rename_i hxy
      refine List.pairwise_cons.mpr ⟨fun z hz => ?_, h⟩
      rcases List.mem_cons.mp hz with e | hz
      · rw [e]; exact hxy
      · exact Int.le_trans hxy (h1 z hz)
    · rename_i hxy
      refine List.pairwise_cons.mpr ⟨fun z hz => ?_, insI_up x h2⟩
      rcases List.mem_cons.mp ((insI_perm x ys).mem_iff.mp hz) with e | hz
      · rw [e]; omega
      · exact h1 z hz
theorem srtI_up : ∀ xs : List Int, (srtI xs).Pairwise (· ≤ ·)
  | [] => .nil
  | x :: xs => insI_up x (srtI_up xs)
theorem up_one : ∀ {xs ys : List Int}, xs.Perm ys → xs.Pairwise (· ≤ ·) → ys.Pairwise (· ≤ ·) → xs = ys
  | [], ys, p, _, _ => (List.nil_perm.mp p).symm
  | x :: xs, [], p, _, _ => by have := p.length_eq; simp at this
  | x :: xs, y :: ys, p, h1, h2 => by
    obtain ⟨a1, a2⟩ := List.pairwise_cons.mp h1
    obtain ⟨b1, b2⟩ := List.pairwise_cons.mp h2
    have e : x = y := by
      have m1 : x ∈ y :: ys := p.mem_iff.mp (List.mem_cons_self ..)
      have m2 : y ∈ x :: xs := p.mem_iff.mpr (List.mem_cons_self ..)
      rcases List.mem_cons.mp m1 with e | m1
      · exact e
      · rcases List.mem_cons.mp m2 with e | m2
        · exact e.symm
        · have q1 := b1 x m1
          have q2 := a1 y m2
          omega
    subst e
    rw [up_one (List.Perm.cons_inv p) a2 b2]
def intsD : List D → Option (List Int)
  | [] => some []
  | .int i :: ds => (intsD ds).map (i :: ·)
  | _ :: _ => none
theorem intsD_map : ∀ {ds : List D} {ns : List Int}, intsD ds = some ns → ds = ns.map D.int
  | [], ns, h => by cases h; rfl
  | .int i :: ds, ns, h => by
    unfold intsD at h
    cases e : intsD ds with
    | none => rw [e] at h; cases h
    | some ms =>
      rw [e] at h
      cases h
      rw [intsD_map e]
      rfl
  | .non :: _, _, h => by cases h
  | .bl _ :: _, _, h => by cases h
  | .str _ :: _, _, h => by cases h
  | .tup _ :: _, _, h => by cases h
  | .ftp _ :: _, _, h => by cases h
  | .lst _ :: _, _, h => by cases h
  | .cel _ :: _, _, h => by cases h
  | .scr _ :: _, _, h => by cases h
@[simp] theorem intsD_of : ∀ ns : List Int, intsD (ns.map D.int) = some ns
  | [] => rfl
  | n :: ns => by simp [intsD, intsD_of ns]
section
variable {X : Cx} {W : WX}
def oSrt (m : Bool) (xs : List D) (C : Cells) : Res D := match xs with
  | [x] => match asL x C with
    | some ds => match intsD ds with
      | some ns => mkL m ((srtI ns).map D.int) C
      | none => .stuck
    | none => .stuck
  | _ => .stuck
theorem cb_srt (m : Bool) : CallB X W (.builtin "sorted") (oSrt m) := by
  refine ⟨_, cr_sortedI, fun xs C vs μ F H σ Q S r k => ?_⟩
  unfold oSrt at k
  split at k
  · obtain ⟨v, rfl, r1⟩ := reps1 r
    split at k
    · rename_i ds e
      obtain ⟨a, vs, rfl, g, rs⟩ := asL_rep S r1 e
      split at k
      · rename_i ns en
        have ed := intsD_map en
        subst ed
        have ev := Reps.of_ints rs
        subst ev
        refine ⟨a, ns, rfl, SqL.of g, fun ns' p hp hup hnew => ?_⟩
        have e2 : ns' = srtI ns := up_one (hp.trans (srtI_perm ns).symm) hup (srtI_up ns)
        subst e2
        exact kd_mkL S hnew (Reps.ints _) k
      · exact k.elim
    · exact k.elim
  · exact k.elim
/-! ### x[i], y[j] = e -/
def sSto2 (f fo fi go gi : Rho → Cells → Res D) : Rho → Cells → Out := fun ρ C => (f ρ C).out ρ fun v C1 => match v with
  | .tup [v1, v2] => (fo ρ C1).out ρ fun x C2 => (fi ρ C2).out ρ fun i C3 => match stoD x i v1 C3 with
    | some C4 => (go ρ C4).out ρ fun y C5 => (gi ρ C5).out ρ fun j C6 => match stoD y j v2 C6 with
      | some C7 => .nx ρ C7
      | none => .stuck
    | none => .stuck
  | _ => .stuck
def SubA (X : Cx) (o i : Expr) (p : Pos) : Prop := ∀ v, assign (.Subscript o i p) X.env v = (do
  let ov ← holding [v] (eval o X.env)
  let iv ← holding [v, ov] (eval i X.env)
  standAt p
  holding [v, ov, iv] (setItem ov iv v)
  release [v, ov, iv] [])
theorem bs_sto2 {e o i o2 i2 : Expr} {p1 p2 p3 pos : Pos} {kk : Nat} {f fo fi go gi : Rho → Cells → Res D} (hc : X.calm = true) (he : BE X W e f) (ho : BE X W o fo) (hi : BE X W i fi) (ho2 : BE X W o2 go) (hi2 : BE X W i2 gi)
    (a1 : SubA X o i p1 := by intro _; rfl) (a2 : SubA X o2 i2 p2 := by intro _; rfl)
    (hs : swapsWithSole [.Tuple [.Subscript o i p1, .Subscript o2 i2 p2] kk p3] e pos.line X.env = pure false := by rfl) (hw : swappedStores [.Tuple [.Subscript o i p1, .Subscript o2 i2 p2] kk p3] e X.env = pure none := by rfl)
    (h1 : (assignEach [.Tuple [.Subscript o i p1, .Subscript o2 i2 p2] kk p3] X.env).map (·.2) = [assign (.Tuple [.Subscript o i p1, .Subscript o2 i2 p2] kk p3) X.env] := by rfl) :
    BS X W (.Assign [.Tuple [.Subscript o i p1, .Subscript o2 i2 p2] kk p3] e pos) (sSto2 f fo fi go gi) := by
  refine psI (ps_asg he (pg_tup hc (pgs_cons (pg_sub ho hi set_list a1) (pgs_cons (pg_sub ho2 hi2 set_list a2) pgs_nil))) hs hw h1) ?_
  rintro D σ H ⟨ρ, C, μ, F, S, E, k⟩
  refine ⟨ρ, C, μ, F, S, E, sd_bind E k fun d C1 v μ1 F1 H1 x1 s1 r1 h1 => ?_⟩
  split at h1
  · rename_i v1 v2
    cases r1 with
    | tup q rs =>
      rename_i a vs
      cases rs with
      | cons ra rs =>
        cases rs with
        | cons rb rs =>
          cases rs
          refine ⟨a, _, rfl, sameT s1.sub q, rfl, _, _, rfl, ρ, C1, μ1, F1, s1, x1.env E, sd_bind (x1.env E) h1 fun d2 C2 w2 μ2 F2 H2 x2 s2 r2 h2 => ?_⟩
          refine ⟨ρ, C2, μ2, F2, s2, x2.env (x1.env E), sd_bind (x2.env (x1.env E)) h2 fun d3 C3 w3 μ3 F3 H3 x3 s3 r3 h3 => ?_⟩
          split at h3
          · rename_i C4 e4
            obtain ⟨p, xs, k', j, q1, q2, q3, q4, S4, X4⟩ := sto_rep s3 (x3.rep r2) r3 (x3.rep (x2.rep ra)) e4
            refine ⟨p, xs, k', j, q1, q2, q3, q4, _, _, rfl, ρ, C4, μ3, F3, S4, X4.env (x3.env (x2.env (x1.env E))), ?_⟩
            refine sd_bind (X4.env (x3.env (x2.env (x1.env E)))) (sd_mono X4 h3) fun d5 C5 w5 μ5 F5 H5 x5 s5 r5 h5 => ?_
            refine ⟨ρ, C5, μ5, F5, s5, x5.env (X4.env (x3.env (x2.env (x1.env E)))), sd_bind (x5.env (X4.env (x3.env (x2.env (x1.env E))))) h5 fun d6 C6 w6 μ6 F6 H6 x6 s6 r6 h6 => ?_⟩
            split at h6
            · rename_i C7 e7
              obtain ⟨p', xs', k2, j2, z1, z2, z3, z4, S7, X7⟩ := sto_rep s6 (x6.rep r5) r6 (x6.rep (x5.rep (X4.rep (x3.rep (x2.rep rb))))) e7
              refine ⟨p', xs', k2, j2, z1, z2, z3, z4, rfl, ?_⟩
              exact h6 σ μ6 F6 _ X7 S7 (X7.env (x6.env (x5.env (X4.env (x3.env (x2.env (x1.env E)))))))
            · exact h6.elim
          · exact h3.elim
  · exact h1.elim
end
end BV
namespace BV
open PySem PySem.Spec PyProof.Rows L2
/-! ### sorted(t), a tuple of pairs of whole numbers -/
section
variable {prog : Program} {w : World} {A : Around} {E : Value → Shared → Prop} {s : Shared}
theorem collT {l : Addr} {us : List Value} {Q : List Value → Shared → Prop} (ht : IsTup s.heap l us.toArray) (hz : us.length ≤ sizeLine)
    (h : Q us { s with heap := (s.heap.push (seqObj "list" #[] 0)).update s.heap.objs.size (Obj.mapSeq (· ++ us.toArray)) }) : wpAny (model prog w) A (collect (.ref l)) Q E s := by
  obtain ⟨o, g, gc, n, gd⟩ := ht
  unfold collect
  refine wpAny_bind (wpAny_runValue ?_)
  refine codeAny_builtin entry_proto_collect' ?_
  show wpAny _ _ (do again (.builtin "list.__iadd__" ⟨[← newList [], .ref l], []⟩)) _ _ s
  refine wpAny_bind (wpAny_newList ?_)
  refine wpAny_pure ⟨Code.quiet_builtin _ (by decide +kernel), ?_⟩
  refine codeAny_builtin entry_list_iadd' ?_
  show wpAny _ _ (Builtin.List.listExtendWith (.ref s.heap.objs.size) (.ref l) (.ref s.heap.objs.size)) _ _ { s with heap := s.heap.push (seqObj "list" #[] 0) }
  unfold Builtin.List.listExtendWith
  have g' : (s.heap.push (seqObj "list" #[] 0)).get? l = some o := Heap.get?_push_of_some _ g
  refine wpAny_bind (wpAny_typeOf (T := "tuple") ⟨o, g', gc⟩ ?_)
  have e1 : (Value.type "tuple" == Value.type "tuple") = true := by rfl
  rw [if_pos (by rw [e1]; simp)]
  refine wpAny_bind (listItems_at g' gd ?_)
  refine wpAny_bind (listItems_at (xs := #[]) (n := 0) (Heap.get?_push_size _ rfl) rfl ?_)
  rw [if_neg (by simp)]
  have hz2 : (#[] ++ us.toArray : Array Value).size ≤ sizeLine + 1 := by simp only [Array.size_append, List.size_toArray, List.length_nil]; omega
  refine wpAny_bind (listUpdate_at (xs := #[]) (n := 0) (Heap.get?_push_size _ rfl) rfl ?_ (Nat.zero_le _) hz2)
  refine wpAny_pure ?_
  show wpAny (model prog w) A (do
      let z ← load s.heap.objs.size
      match z.data with
      | .seq xs _ => pure xs.toList
      | _ => unsupported "internal:collect") Q E { s with heap := (s.heap.push (seqObj "list" #[] 0)).update s.heap.objs.size (Obj.mapSeq (· ++ us.toArray)) }
  refine wpAny_bind (wpAny_load (get?_update_seq (Heap.get?_push_size _ rfl) _) ?_)
  show wpAny _ _ (pure ((#[] : Array Value) ++ us.toArray).toList) Q E _
  have e2 : ((#[] : Array Value) ++ us.toArray).toList = us := by simp
  rw [e2]
  exact wpAny_pure h
theorem sortT {l : Addr} {us : List Value} {k : Value → Int × Int} {Q : Value → Shared → Prop} (ht : IsTup s.heap l us.toArray) (hz : us.length ≤ sizeLine) (hp : ∀ v ∈ us, Srt.IsPair s.heap v (k v).1 (k v).2)
    (h : ∀ (h' : Heap) (d : Addr) (out : List Value), SrtO.Srtd (fun v u => SrtO.lexB (k v) (k u)) out → out.Perm us → (∀ b o, s.heap.get? b = some o → h'.get? b = some o) → s.heap.objs.size ≤ d → (∃ n, h'.get? d = some (seqObj "list" out.toArray n)) → Q (.ref d) { s with heap := h' }) :
    wpAny (model prog w) A (call (.builtin "sorted") [.ref l]) Q E s := by
  apply Calls.call_function_entry kind_sorted plain_sorted entry_sorted (args_sorted1 _)
  unfold Builtin.«sorted»
  refine wpAny_bind (m := checkCount "sorted" 1 1 _) ?_
  refine wpAny_pure (wpAny_bind (collT ht hz ?_))
  refine wpAny_bind (wpAny_newList ?_ hz)
  have z1 : ((s.heap.push (seqObj "list" #[] 0)).update s.heap.objs.size (Obj.mapSeq (· ++ us.toArray))).objs.size = s.heap.objs.size + 1 := by rw [Heap.size_update, size_push']
  have z2 : (((s.heap.push (seqObj "list" #[] 0)).update s.heap.objs.size (Obj.mapSeq (· ++ us.toArray))).push (seqObj "list" us.toArray 0)).get? (s.heap.objs.size + 1) = some (seqObj "list" us.toArray 0) := by rw [← z1]; exact Heap.get?_push_size _ rfl
  have z3 : ∀ b o, s.heap.get? b = some o → b ≠ s.heap.objs.size + 1 ∧ (((s.heap.push (seqObj "list" #[] 0)).update s.heap.objs.size (Obj.mapSeq (· ++ us.toArray))).push (seqObj "list" us.toArray 0)).get? b = some o := fun b o q => by
    have y1 : b < s.heap.objs.size := Heap.lt_size q
    have y2 : b ≠ s.heap.objs.size := Nat.ne_of_lt y1
    refine ⟨Nat.ne_of_lt (Nat.lt_succ_of_lt y1), Heap.get?_push_of_some _ ?_⟩
    rw [Heap.get?_update_ne _ _ _ _ y2]
    exact Heap.get?_push_of_some _ q
  show wpAny _ _ _ _ _ { s with heap := ((s.heap.push (seqObj "list" #[] 0)).update s.heap.objs.size (Obj.mapSeq (· ++ us.toArray))).push (seqObj "list" us.toArray 0) }
  rw [z1]
  refine wpAny_bind (wpAny_holding (wpAny_call_entry slot_list_sort ⟨_, z2, rfl⟩ entry_list_sort (SrtO.list_sort_ord (SrtO.swo_lex k) z2 hz (fun h2 => ?_) fun out hs hb => ⟨_, rfl, ?_⟩) (args_list_sort _)))
  · refine SrtO.pairs_sortableO (by omega) (fun v hm => (hp v hm).keeps fun b o e _ => (z3 b o e).2) fun o e => ?_
    have e' : some o = some (seqObj "list" us.toArray 0) := e.symm.trans z2
    cases e'
    intro c
    exact absurd (Value.type.inj c) (by decide)
  · exact wpAny_pure ⟨_, rfl, h _ _ out hs hb.perm (fun b o e => sortedAll_old e) (Nat.le_succ _) (sortedAll_at s.heap us out.toArray)⟩
end
section
variable {X : Cx} {W : WX}
def PairAt (K : PySem.W.Frag) (H : Hp) (x : V) (z : Int × Int) : Prop := ∃ t, x = V.ref t ∧ SqT K H t [.int z.1, .int z.2]
def rSrtT (K : PySem.W.Frag) : List V → Hp → VK → Prop := fun vs H Q => ∃ (a : Addr) (xs : List V) (zs : List (Int × Int)), vs = [V.ref a] ∧ SqT K H a xs ∧ xs.length = zs.length ∧ (∀ p ∈ xs.zip zs, PairAt K H p.1 p.2) ∧
  ∀ (l : List (V × (Int × Int))) (p : Addr), l.Perm (xs.zip zs) → (l.map (·.2)).Pairwise (fun a b => SrtO.lexB b a = false) → H p = none → Q (.ref p) (upd H p (.lst (l.map (·.1))))
theorem zip_map {α β : Type} {f : α → β} : ∀ {xs : List α} {zs : List β}, xs.length = zs.length → (∀ p ∈ xs.zip zs, p.2 = f p.1) → zs = xs.map f
  | [], [], _, _ => rfl
  | [], z :: zs, h, _ => by simp at h
  | x :: xs, [], h, _ => by simp at h
  | x :: xs, z :: zs, h, q => by
    have h1 := q (x, z) (by simp)
    simp only at h1
    rw [List.map_cons, ← h1, ← zip_map (by simpa using h) fun p hp => q p (by simp [hp])]
theorem zip_self {α β : Type} (f : α → β) : ∀ xs : List α, xs.zip (xs.map f) = xs.map fun x => (x, f x)
  | [] => rfl
  | x :: xs => by simp [zip_self f xs]
theorem cr_srtT : CallR X (.builtin "sorted") (rSrtT X.K) := by
  intro pins s σ H vs us Q I r h
  obtain ⟨a, xs, zs, rfl, hs, hlen, hx, q⟩ := h
  obtain ⟨its, rv, ht, hz⟩ := I.tuple hs
  obtain ⟨u, rfl, ru⟩ := vals1 r
  obtain rfl : u = Value.ref a := ru
  have mem : ∀ x ∈ xs, ∃ z, PairAt X.K H x z := fun x m => by
    obtain ⟨j, hj, e⟩ := List.mem_iff_getElem.mp m
    have hj2 : j < zs.length := by omega
    exact ⟨zs[j], hx (x, zs[j]) (by rw [← e]; exact List.mem_iff_getElem.mpr ⟨j, by simp; omega, by simp⟩)⟩
  obtain ⟨e1, e2⟩ := refs_back rv fun x m => by
    obtain ⟨z, t, e, _⟩ := mem x m
    exact ⟨t, e⟩
  classical
  let kv : V → Int × Int := fun x => if h : ∃ z, PairAt X.K H x z then h.choose else (0, 0)
  have kvs : ∀ {x z}, PairAt X.K H x z → kv x = z := fun {x z} hp => by
    have hh : ∃ z, PairAt X.K H x z := ⟨z, hp⟩
    have h1 : kv x = hh.choose := dif_pos hh
    obtain ⟨t, et, ht⟩ := hp
    obtain ⟨t', et', ht'⟩ := hh.choose_spec
    rw [et] at et'
    cases et'
    have := I.tuple_inj ht' ht
    simp only [List.cons.injEq, V.int.injEq, and_true] at this
    rw [h1]
    exact Prod.ext this.1 this.2
  have ez : zs = xs.map kv := zip_map hlen fun p hp => (kvs (hx p hp)).symm
  refine sortT (k := fun u => kv (backV u)) ht (by rw [← rv.length]; exact hz) (fun v hv => ?_) fun h' d out h1 h2 kp hd hn => ?_
  · obtain ⟨t, rfl⟩ := e2 v hv
    have hm : V.ref t ∈ xs := by rw [e1]; exact List.mem_map.mpr ⟨_, hv, rfl⟩
    obtain ⟨z, hp⟩ := mem _ hm
    have hk : kv (backV (.ref t)) = z := kvs hp
    rw [hk]
    obtain ⟨t', e, hq⟩ := hp
    cases e
    obtain ⟨its2, r2, ⟨o, ho, hc, n, hdd⟩, _⟩ := I.tuple hq
    obtain ⟨u1, u2, rfl, ri, rj⟩ := vals2 r2
    obtain ⟨t1, rfl⟩ := ri
    obtain ⟨t2, rfl⟩ := rj
    exact ⟨t, o, t1, t2, n, rfl, ho, hc, hdd⟩
  · have h3 : ∀ u ∈ out, ∃ a, u = Value.ref a := fun u hu => e2 u (h2.mem_iff.mp hu)
    obtain ⟨n, hn⟩ := hn
    have hq := q ((out.map backV).map fun x => (x, kv x)) d (by
      rw [ez, zip_self, e1]
      exact (h2.map backV).map _) (by
      rw [List.map_map, List.map_map]
      exact List.pairwise_map.mpr h1) (I.hok.fresh hd)
    have em : ((out.map backV).map fun x => (x, kv x)).map (·.1) = out.map backV := by
      rw [List.map_map]
      exact (List.map_congr_left fun _ _ => rfl).trans (List.map_id _)
    rw [em] at hq
    refine ⟨.ref d, upd H d (.lst (out.map backV)), I.laid (t' := s.toks) kp hd ⟨?_, out, n, vals_back h3, hn⟩, rfl, hq⟩
    rw [List.length_map, h2.length_eq, ← rv.length]
    exact hz
/-! pairs sorted by insertion -/
def insP (x : Int × Int) : List (Int × Int) → List (Int × Int)
  | [] => [x]
  | y :: ys => if SrtO.lexB y x = false then x :: y :: ys else y :: insP x ys
def srtP : List (Int × Int) → List (Int × Int)
  | [] => []
  | x :: xs => insP x (srtP xs)
theorem insP_perm (x : Int × Int) : ∀ ys, (insP x ys).Perm (x :: ys)
  | [] => .refl _
  | y :: ys => by
    unfold insP
    split
    · exact .refl _
    · exact ((insP_perm x ys).cons y).trans (.swap x y ys)
theorem srtP_perm : ∀ xs, (srtP xs).Perm xs
  | [] => .refl _
  | x :: xs => (insP_perm x _).trans ((srtP_perm xs).cons x)
def leP (a b : Int × Int) : Prop := a.1 < b.1 ∨ (a.1 = b.1 ∧ a.2 ≤ b.2)
theorem leP_iff {a b : Int × Int} : SrtO.lexB b a = false ↔ leP a b := by
  rw [SrtO.lexB_no]
  unfold leP
  omega
theorem insP_up (x : Int × Int) : ∀ {ys : List (Int × Int)}, ys.Pairwise leP → (insP x ys).Pairwise leP
  | [], _ => by simp [insP]
  | y :: ys, h => by
    obtain ⟨h1, h2⟩ := List.pairwise_cons.mp h
    unfold insP
    split
    · rename_i hxy
      have hxy := leP_iff.mp hxy
      refine List.pairwise_cons.mpr ⟨fun z hz => ?_, h⟩
      rcases List.mem_cons.mp hz with e | hz
      · rw [e]; exact hxy
      · have := h1 z hz
        unfold leP at *
        omega
    · rename_i hxy
      have hyx : leP y x := by
        have : ¬ leP x y := fun z => hxy (leP_iff.mpr z)
        unfold leP at *
        omega
      refine List.pairwise_cons.mpr ⟨fun z hz => ?_, insP_up x h2⟩
      rcases List.mem_cons.mp ((insP_perm x ys).mem_iff.mp hz) with e | hz
      · rw [e]; exact hyx
      · exact h1 z hz
theorem srtP_up : ∀ xs : List (Int × Int), (srtP xs).Pairwise leP
  | [] => .nil
  | x :: xs => insP_up x (srtP_up xs)
theorem upP_one : ∀ {xs ys : List (Int × Int)}, xs.Perm ys → xs.Pairwise leP → ys.Pairwise leP → xs = ys
  | [], ys, p, _, _ => (List.nil_perm.mp p).symm
  | x :: xs, [], p, _, _ => by have := p.length_eq; simp at this
  | x :: xs, y :: ys, p, h1, h2 => by
    obtain ⟨a1, a2⟩ := List.pairwise_cons.mp h1
    obtain ⟨b1, b2⟩ := List.pairwise_cons.mp h2
    have e : x = y := by
      have m1 : x ∈ y :: ys := p.mem_iff.mp (List.mem_cons_self ..)
      have m2 : y ∈ x :: xs := p.mem_iff.mpr (List.mem_cons_self ..)
      rcases List.mem_cons.mp m1 with e | m1
      · exact e
      · rcases List.mem_cons.mp m2 with e | m2
        · exact e.symm
        · have q1 := b1 x m1
          have q2 := a1 y m2
          unfold leP at q1 q2
          exact Prod.ext (by omega) (by omega)
    subst e
    rw [upP_one (List.Perm.cons_inv p) a2 b2]
def pairsD : List D → Option (List (Int × Int))
  | [] => some []
  | .tup [.int a, .int b] :: ds => (pairsD ds).map ((a, b) :: ·)
  | _ :: _ => none
def pD (z : Int × Int) : D := .tup [.int z.1, .int z.2]
theorem pairsD_map : ∀ {ds : List D} {zs : List (Int × Int)}, pairsD ds = some zs → ds = zs.map pD := by
  intro ds
  induction ds with
  | nil => intro zs h; cases h; rfl
  | cons d ds ih =>
    intro zs h
    unfold pairsD at h
    split at h
    · rename_i e0
      cases e0
    · rename_i e0
      cases e0
      cases e : pairsD ds with
      | none => rw [e] at h; cases h
      | some ms =>
        rw [e] at h
        cases h
        rw [ih e]
        rfl
    · cases h
/-- sorted(x): a list of numbers, or a tuple of pairs -/
def oSrt2 (m : Bool) (xs : List D) (C : Cells) : Res D := match xs with
  | [.tup ds] => match pairsD ds with
    | some zs => mkL m ((srtP zs).map pD) C
    | none => .stuck
  | _ => oSrt m xs C
theorem reps_len {K : PySem.W.Frag} {μ : List Addr} {F : Hp} {vs : List V} {ds : List D} (r : Reps K μ F vs ds) : vs.length = ds.length := r.length
theorem reps_pair {K : PySem.W.Frag} {μ : List Addr} {F : Hp} : ∀ {vs : List V} {zs : List (Int × Int)}, Reps K μ F vs (zs.map pD) → ∀ p ∈ vs.zip zs, Rep K μ F p.1 (pD p.2)
  | [], zs, _, p, hp => by simp at hp
  | v :: vs, [], _, p, hp => by simp at hp
  | v :: vs, z :: zs, r, p, hp => by
    cases r with
    | cons a b =>
      simp only [List.zip_cons_cons, List.mem_cons] at hp
      rcases hp with e | hp
      · rw [e]; exact a
      · exact reps_pair b p hp
theorem reps_of_zip {K : PySem.W.Frag} {μ : List Addr} {F : Hp} : ∀ {l : List (V × (Int × Int))}, (∀ p ∈ l, Rep K μ F p.1 (pD p.2)) → Reps K μ F (l.map (·.1)) ((l.map (·.2)).map pD)
  | [], _ => .nil
  | p :: l, h => .cons (h p (by simp)) (reps_of_zip fun q hq => h q (List.mem_cons_of_mem _ hq))
theorem cb_srt2 (m : Bool) : CallB X W (.builtin "sorted") (oSrt2 m) := by
  obtain ⟨r, hr, hk⟩ := cb_srt (X := X) (W := W) m
  refine ⟨fun xs H Q => rSrtT X.K xs H Q ∨ r xs H Q, ?_, fun xs C vs μ F H σ Q S rs k => ?_⟩
  · intro pins s σ H xs us Q I rv h
    rcases h with h | h
    · exact cr_srtT pins s σ H xs us Q I rv h
    · exact hr pins s σ H xs us Q I rv h
  · unfold oSrt2 at k
    split at k
    · rename_i ds
      obtain ⟨v, rfl, r1⟩ := reps1 rs
      split at k
      · rename_i zs ez
        have ed := pairsD_map ez
        subst ed
        cases r1 with
        | tup q rr =>
          rename_i a ws
          have hp := reps_pair rr
          refine .inl ⟨a, ws, zs, rfl, sameT S.sub q, by rw [rr.length, List.length_map], fun p m => ?_, fun l p hperm hup hnew => ?_⟩
          · have h1 := hp p m
            unfold pD at h1
            obtain ⟨v0, z1, z2⟩ := p
            cases h1 with
            | tup b bs =>
              cases bs with
              | cons b1 bs =>
                cases bs with
                | cons b2 bs =>
                  cases bs
                  cases b1
                  cases b2
                  exact ⟨_, rfl, sameT S.sub b⟩
          · have e2 : l.map (·.2) = srtP zs := by
              have h1 : (l.map (·.2)).Perm zs := by
                have := hperm.map (·.2)
                rwa [show (ws.zip zs).map (·.2) = zs from List.map_snd_zip (by rw [rr.length, List.length_map]; exact Nat.le_refl _)] at this
              refine upP_one (h1.trans (srtP_perm zs).symm) (hup.imp fun h => leP_iff.mp h) (srtP_up zs)
            rw [← e2] at k
            exact kd_mkL S hnew (reps_of_zip fun q hq => hp q (hperm.mem_iff.mp hq)) k
      · exact k.elim
    · exact .inr (hk _ C vs μ F H σ Q S rs k)
/-! ### xs[::0 - 1] -/
theorem pe_revB {e st : Expr} {te : TE} {p3 pos : Pos} (he : PE X e te) (hst : ∀ (σ : L2.St) (H : Hp), ∃ t : TO, PO X (some st) t ∧ t σ H fun o H4 => o = some (-1) ∧ H4 = H) (hpl : ∃ g : Value → Value → List Value, ∀ u v : Value, subscripted (.Slice none none (some st) p3) false u v = operate (g u v) (getItem u v)) :
    PE X (.Subscript e (.Slice none none (some st) p3) pos) (tRevL X.K te) := by
  refine ⟨fun pn s σ H Q I q0 => ?_⟩
  refine Subscript_ (thn (he.run pn s σ H _ I q0) fun v s1 ⟨x, H1, I1, r1, q1⟩ => ?_)
  obtain ⟨a, xs, ex, hx, q⟩ := q1
  subst ex
  cases r1
  refine wpAny_Slice (thn (po_none.run pn s1 σ H1 (fun o H2 => o = none ∧ H2 = H1) I1 ⟨rfl, rfl⟩) fun v1 s2 ⟨l1, H2, I2, g1, y1, y2⟩ => ?_)
  subst y1 y2
  refine thn (po_none.run pn s2 σ H2 (fun o H3 => o = none ∧ H3 = H2) I2 ⟨rfl, rfl⟩) fun v2 s3 ⟨l2, H3, I3, g2, y3, y4⟩ => ?_
  subst y3 y4
  obtain ⟨t, ht, ht2⟩ := hst σ H3
  refine thn (ht.run pn s3 σ H3 _ I3 ht2) fun v3 s4 ⟨l3, H4, I4, g3, y5, y6⟩ => ?_
  subst y5 y6
  have I5 : Inv X pn σ H4 { s4 with heap := s4.heap.push { cls := .type "slice", data := .fields #[v1, v2, v3] } } := I4.kept (t' := s4.toks) fun b ob z => Heap.get?_push_of_some _ z
  obtain ⟨its, r, hl, hz⟩ := I5.list hx
  show wpAny (model X.prog X.w) X.A (subscriptTail e (.Slice none none (some st) p3) (.ref a) (.ref s4.heap.objs.size)) (EP X pn σ Q) X.xe { s4 with heap := s4.heap.push { cls := .type "slice", data := .fields #[v1, v2, v3] } }
  obtain ⟨gg, hgg⟩ := hpl
  have z1 : its.toArray.size ≤ sizeLine := by rw [List.size_toArray, ← r.length]; exact hz
  refine tail_any hl.isList.typeIs (PySem.slot_list_getitem.lookup) ?_ (hgg _ _)
  refine wpAny_getItem_list_slice hl.isList (Heap.IsSliceOf.new _ v1 v2 v3) g1 g2 g3 (by decide) ?_ (by have := r.length; rw [List.size_toArray]; omega)
  rw [PySem.W.krv_pick]
  refine ⟨.ref _, _, I5.laid (t' := s4.toks) (o := .lst xs.reverse) (fun b ob z => Heap.get?_push_of_some _ z) (Nat.le_refl _) ?_, rfl, q _ (I5.hok.fresh (Nat.le_refl _))⟩
  exact ⟨by rw [List.length_reverse]; exact hz, _, 0, r.reverse, Heap.get?_push_size _ rfl⟩
def fRev (m : Bool) (f : Rho → Cells → Res D) : Rho → Cells → Res D := fun ρ C => (f ρ C).bind fun x C1 => match asL x C1 with
  | some ds => mkL m ds.reverse C1
  | none => .stuck
theorem Reps.reverse {K : PySem.W.Frag} {μ : List Addr} {F : Hp} : ∀ {vs : List V} {ds : List D}, Reps K μ F vs ds → Reps K μ F vs.reverse ds.reverse
  | _, _, .nil => .nil
  | _, _, .cons a b => by
    rw [List.reverse_cons, List.reverse_cons]
    exact (Reps.reverse b).append (.cons a .nil)
/-- xs[::0 - 1] -/
theorem be_rev (m : Bool) {e : Expr} {f : Rho → Cells → Res D} {j k : Nat} {p1 p2 p3 p4 pos : Pos} (he : BE X W e f) : BE X W (.Subscript e (.Slice none none (some (.BinOp (.Constant (.int 0) j p1) .Sub (.Constant (.int 1) k p2) p4)) p3) pos) (fRev m f) := by
  refine peI (pe_revB he (fun σ H => ⟨_, po_some (pe_op op_sub pe_int pe_int), ?_⟩) ⟨fun u v => [u, v], fun u v => by with_unfolding_all rfl⟩) ?_
  · exact ⟨0, 1, rfl, rfl, -1, rfl, rfl, rfl⟩
  · rintro σ H Q ⟨ρ, C, μ, F, S, E, k0⟩
    refine ⟨ρ, C, μ, F, S, E, kd_bind k0 fun d C1 v μ1 F1 H1 x1 s1 r1 h1 => ?_⟩
    split at h1
    · rename_i ds e1
      obtain ⟨a, vs, rfl, g, rs⟩ := asL_rep s1 r1 e1
      exact ⟨a, vs, rfl, SqL.of g, fun p hp => kd_mkL s1 hp (Reps.reverse rs) h1⟩
    · exact h1.elim
end
end BV
namespace BV
open PySem PySem.Spec PyProof.Rows L2
theorem bb_sorted : bootBuiltins "sorted" = some (.builtin "sorted") := by decide +kernel
section
variable {X : Cx} {W : WX}
/-! ### t.index(y) -/
def rTIdx (K : PySem.W.Frag) : V → List V → Hp → VK → Prop := fun x xs H Q => ∃ (a : Addr) (y : V) (d : PyData) (ds : List PyData) (j : Nat) (z : PyData), x = V.ref a ∧ xs = [y] ∧ Dp K H (V.ref a) (.tuple ds) ∧ Dp K H y d ∧
  SeqAt.shaped (.tuple ds) = true ∧ SeqAt.shaped d = true ∧ ds[j]? = some z ∧ PyData.eqv z d = true ∧ (∀ (m : Nat) (z' : PyData), m < j → ds[m]? = some z' → PyData.eqv z' d = false) ∧ Q (.int (j : Nat)) H
theorem mt_tidx (hu : X.A.units + 65 < cLine) : MtR X "tuple.index" (rTIdx X.K) := by
  intro pn s σ H x xs v us Q I rx rxs h
  obtain ⟨a, y, d, ds, j, z, rfl, rfl, hl, hy, g1, g2, hz, hzj, hno, q⟩ := h
  cases rx
  obtain ⟨uy, rfl, ry⟩ := vals1 rxs
  obtain ⟨bs, r1⟩ := Dp.reads I d y uy hy ry
  have c1 : PyData.canLayAll0 ds = true := SeqAt.canLay_of_shaped g1
  have c2 : X.A.units + 1 + min (PyData.depthAll ds) d.depth < cLine := room_in_shaped g2 hu
  cases hl with
  | tup hs ha =>
    obtain ⟨its, rv, ⟨⟨cls, dd, data, sls⟩, ho, hc, n, hdt⟩, hlen⟩ := I.tuple hs
    simp only at hc hdt
    subst hc hdt
    obtain ⟨as, h4⟩ := Dp.readsAll I ds _ its ha rv
    have n1 : its.length = ds.length := SeqAt.ReadsAll.length ds its as h4
    have n2 : its.map (SeqAt.readOf s.heap) = ds := SeqAt.readsAll_map ds its as c1 h4
    have n3 : j < its.length := by have := (List.getElem?_eq_some_iff.mp hz).1; omega
    have at_ : ∀ (m : Nat) (hm : m < its.toArray.size) (z' : PyData), ds[m]? = some z' → SeqAt.readOf s.heap its.toArray[m] = z' := by
      intro m hm z' hz'
      have k1 : m < its.length := by simpa using hm
      rw [← n2, List.getElem?_map, List.getElem?_eq_getElem k1] at hz'
      have e1 : SeqAt.readOf s.heap its[m] = z' := Option.some.inj hz'
      simpa using e1
    have n4 : j < its.toArray.size := by simpa using n3
    refine call_meets PySem.F.slot_tuple_index ⟨_, ho, rfl⟩ PySem.F.entry_tuple_index (PySem.F.args_tuple_index_2 _ _)
      (TI.tuple_indexAt a its.toArray n dd sls uy (fun u => PyData.eqv (SeqAt.readOf s.heap u) d) j n4 ?_ ?_) ⟨ho, SeqAt.items_eqAt (vs := its.toArray) (show ReadsAll s.heap its.toArray.toList ds as from h4) r1 c1 (SeqAt.canLay_of_shaped g2) c2, ?_⟩
    · show PyData.eqv (SeqAt.readOf s.heap its.toArray[j]) d = true
      rw [at_ j n4 z hz]
      exact hzj
    · intro m hm hmj
      have k2 : m < ds.length := by simp at hm; omega
      show PyData.eqv (SeqAt.readOf s.heap its.toArray[m]) d = false
      rw [at_ m hm ds[m] (List.getElem?_eq_getElem k2)]
      exact hno m _ hmj (List.getElem?_eq_getElem k2)
    · exact ⟨.int (j : Nat), H, I.tok _, ⟨_, rfl⟩, q⟩
/-! ### tuple(x) of a list, its object known -/
theorem call_tupF : CallR X (.type "tuple") (fun xs H Q => ∃ p ys, xs = [.ref p] ∧ SqL X.K H p ys ∧ ∀ (l : Addr) (o : Obj), H l = none → o.dict = none → o.cls = .type "tuple" → Q (.ref l) (upd H l (.frz o (.tup ys)))) := by
  intro pn s σ H xs us Q I r h
  obtain ⟨p, ys, rfl, hq, q⟩ := h
  obtain ⟨u, rfl, rx⟩ := vals1 r
  obtain rfl : u = Value.ref p := rx
  obtain ⟨its, r', pl, hz⟩ := I.list hq
  have hlen := r'.length
  refine call_tuple_list pl.isList (fun h' kp => ?_) (by simp only [List.size_toArray] <;> omega)
  have I1 : Inv X pn σ H { s with heap := h' } := I.kept (t' := s.toks) kp
  let ob : Obj := { cls := .type "tuple", data := .seq its.toArray }
  have g : (h'.push ob).get? h'.objs.size = some ob := Heap.get?_push_size _ rfl
  have okk : ObjOk X.prog X.w (upd H h'.objs.size (.frz ob (.tup ys))) (h'.push ob) h'.objs.size (.frz ob (.tup ys)) := ⟨g, hz, its, r', IsTup.new _ _⟩
  exact ⟨.ref h'.objs.size, _, I1.laid (t' := s.toks) (fun b o e => Heap.get?_push_of_some _ e) (Nat.le_refl _) okk, rfl, q _ ob (I1.hok.fresh (Nat.le_refl _)) rfl rfl⟩
def oTupF (xs : List D) (C : Cells) : Res D := match xs with
  | [x] => match asL x C with
    | some ds => .ok (.ftp ds) C
    | none => .stuck
  | _ => .stuck
theorem cb_tupF : CallB X W (.type "tuple") oTupF := by
  refine ⟨_, call_tupF, fun xs C vs μ F H σ Q S r k => ?_⟩
  unfold oTupF at k
  split at k
  · obtain ⟨v, rfl, r1⟩ := reps1 r
    split at k
    · rename_i ds e
      obtain ⟨a, vs, rfl, g, rs⟩ := asL_rep S r1 e
      refine ⟨a, vs, rfl, SqL.of g, fun l o hl h1 h2 => ?_⟩
      obtain ⟨S1, X1⟩ := S.alloc (o := .frz o (.tup vs)) hl
      exact k _ _ _ _ X1 S1 (.ftp upd_same h1 h2 (X1.reps rs))
    · exact k.elim
  · exact k.elim
/-! ### x.index(y), of a list, or of such a tuple -/
def FtpV (x : V) (H : Hp) : Prop := ∃ (p : Addr) (ob : Obj) (vs : List V), x = .ref p ∧ H p = some (.frz ob (.tup vs)) ∧ ob.dict = none ∧ ob.cls = .type "tuple"
def tIdx (K : PySem.W.Frag) (to : TE) (t : TA) : TE := fun σ H Q => to σ H fun x H1 => (tyV K "list" x H1 ∧ t σ H1 fun xs H2 => rIndexD K x xs H2 Q) ∨ (FtpV x H1 ∧ t σ H1 fun xs H2 => rTIdx K x xs H2 Q)
theorem pe_idx2 {o e : Expr} {to : TE} {t : TA} {apos cpos : Pos} (hu : X.A.units + 65 < cLine) (ho : PE X o to) (ha : PA X [e] t) (hbase : attributeBase o "index" X.env (eval o X.env) = eval o X.env := by rfl)
    (hfew : ((backTo cpos (starEach [e] X.env)).all (fun x => !x.1) && (backToKw cpos (keywordEach [] X.env)).all (fun x => x.1.isSome)
      && decide ([e].length + ([] : List Keyword).length + (if ([] : List Keyword).isEmpty then 0 else 1) < 30)) = true := by rfl)
    (hline : (apos.endLine == cpos.line) = true := by rfl) (hs : starEach [e] X.env = (false, eval e X.env) :: starEach [] X.env := by rfl) (hpl : (backTo cpos (starEach [] X.env)).any (·.1) = false := by rfl) :
    PE X (.Call (.Attribute o "index" apos) [e] [] cpos) (tIdx X.K to t) := by
  refine ⟨fun pn s σ H Q I h => ?_⟩
  refine wpAny_Call_method_late hbase hfew hline rfl (thn (ho.run pn s σ H _ I h) fun v s1 ⟨x, H1, I1, r1, q0⟩ => ?_)
  have fl : (false || (backTo cpos (starEach [] X.env)).any (·.1)) = false := by rw [hpl]; rfl
  rcases q0 with ⟨ty, q1⟩ | ⟨⟨p, ob, ws, ex, hp, hd, hc⟩, q1⟩
  · obtain ⟨h1, h2⟩ := tyV_is I1 r1 ty
    refine ⟨"list", "list.index", PySem.F.plainAttrs_list, PySem.F.slot_list_index, PySem.F.type_list_index, h1, h2, ?_⟩
    have hA := ha.run cpos pn s1 σ H1 _ I1 q1
    rw [hs] at hA ⊢
    refine Calls.callWith_builtin fl (Calls.evalArgs_plain ?_)
    exact thn hA fun us s2 ⟨vs, H2, I2, r2, q2⟩ => mt_indexD hu pn s2 σ H2 x vs v us Q I2 r1 r2 q2
  · subst ex
    obtain rfl : v = Value.ref p := r1
    have g : s1.heap.get? p = some ob := (I1.hok p _ hp).1
    refine ⟨"tuple", "tuple.index", PySem.F.plainAttrs_tuple, PySem.F.slot_tuple_index, PySem.F.type_tuple_index, ⟨ob, g, hc⟩, fun b eb => ?_, ?_⟩
    · cases eb
      exact ⟨ob, g, hd⟩
    have hA := ha.run cpos pn s1 σ H1 _ I1 q1
    rw [hs] at hA ⊢
    refine Calls.callWith_builtin fl (Calls.evalArgs_plain ?_)
    exact thn hA fun us s2 ⟨vs, H2, I2, r2, q2⟩ => mt_tidx hu pn s2 σ H2 (.ref p) vs (.ref p) us Q I2 rfl r2 q2
def tidxD (ds : List D) (y : D) (C : Cells) : Res D := match toPys ds, toPyC y C with
  | some ps, some d => if SeqAt.shaped (.tuple ps) = true ∧ SeqAt.shaped d = true then match ps.findIdx? fun z => PyData.eqv z d with
    | some j => .ok (.int (j : Nat)) C
    | none => .stuck
    else .stuck
  | _, _ => .stuck
def fIdx (f g : Rho → Cells → Res D) : Rho → Cells → Res D := fun ρ C => (f ρ C).bind fun x C1 => match x with
  | .ftp ds => (g ρ C1).bind fun v C2 => tidxD ds v C2
  | x => match asL x C1 with
    | some _ => (g ρ C1).bind fun v C2 => idxD x v C2
    | none => .stuck
theorem be_idx2 {a b : Expr} {fa fb : Rho → Cells → Res D} {apos pos : Pos} (ha : BE X W a fa) (hb : BE X W b fb) (h : ∀ {ta tb : TE}, PE X a ta → PE X b tb → PE X (.Call (.Attribute a "index" apos) [b] [] pos) (tIdx X.K ta (tCons tb tNil))) :
    BE X W (.Call (.Attribute a "index" apos) [b] [] pos) (fIdx fa fb) := by
  refine peI (h ha hb) ?_
  rintro σ H Q ⟨ρ, C, μ, F, S, E, k⟩
  refine ⟨ρ, C, μ, F, S, E, kd_bind k fun d C1 v μ1 F1 H1 x1 s1 r1 h1 => ?_⟩
  split at h1
  · rename_i ds
    cases r1 with
    | ftp q1 q2 q3 q4 =>
      rename_i a0 o0 vs0
      refine .inr ⟨⟨a0, o0, vs0, rfl, s1.sub _ _ q1, q2, q3⟩, ρ, C1, μ1, F1, s1, x1.env E, kd_bind h1 fun d2 C2 v2 μ2 F2 H2 x2 s2 r2 h2 => ?_⟩
      unfold tidxD at h2
      have r3 := x2.rep (.ftp q1 q2 q3 q4 : Rep X.K μ1 F1 (.ref a0) (.ftp ds))
      split at h2
      · rename_i ps p e3 e4
        split at h2
        · rename_i z
          split at h2
          · rename_i j ej
            obtain ⟨hj, hp, hno⟩ := List.findIdx?_eq_some_iff_getElem.mp ej
            have e5 : toPyC (.ftp ds) C2 = some (.tuple ps) := by simp [toPyC, toPy, e3]
            exact ⟨a0, v2, p, ps, j, ps[j], rfl, rfl, toPyC_dp s2 e5 r3, toPyC_dp s2 e4 r2, z.1, z.2, by simp [hj], hp, fun m z' hm hz => by
              obtain ⟨hm2, rfl⟩ := List.getElem?_eq_some_iff.mp hz
              have := hno m hm
              simpa using this, kd_ret s2 (.int _) h2⟩
          · exact h2.elim
        · exact h2.elim
      · exact h2.elim
  · split at h1
    · rename_i ds0 e1
      refine .inl ⟨tyL s1 r1 e1, ρ, C1, μ1, F1, s1, x1.env E, kd_bind h1 fun d2 C2 v2 μ2 F2 H2 x2 s2 r2 h2 => ?_⟩
      unfold idxD at h2
      have r3 := x2.rep r1
      split at h2
      · rename_i ds' e2
        split at h2
        · rename_i ps p e3 e4
          split at h2
          · rename_i z
            split at h2
            · rename_i j ej
              obtain ⟨hj, hp, hno⟩ := List.findIdx?_eq_some_iff_getElem.mp ej
              have q3 := toPyC_dp s2 e3 r3
              obtain ⟨a0, vs0, ev, _, _⟩ := asL_rep s2 r3 e2
              subst ev
              exact ⟨a0, v2, p, ps, j, ps[j], rfl, rfl, q3, toPyC_dp s2 e4 r2, z.1, z.2, by simp [hj], hp, fun m z' hm hz => by
                obtain ⟨hm2, rfl⟩ := List.getElem?_eq_some_iff.mp hz
                have := hno m hm
                simpa using this, kd_ret s2 (.int _) h2⟩
            · exact h2.elim
          · exact h2.elim
        · exact h2.elim
      · exact h2.elim
    · exact h1.elim
end
end BV
namespace BV
open PySem PySem.Spec PyProof.Rows L2

/-! ### errors of the package: __init__ says super().__init__(text), then keeps what it was given -/
/-- the text of such an __init__, its statement st -/
structure ErrT (prog : Program) (st : Stmt) (f p msg : Str) : Prop where
  body : ∃ (p0 p1 p2 p3 p4 p5 p6 p7 p8 p9 : Pos) (j : Nat), (p2.endLine == p4.line) = true ∧ defBody st = [.Expr (.Call (.Attribute (.Call (.Name "super" p0) [] [] p1) "__init__" p2) [.Constant (.str msg) j p3] [] p4) p5,
    .Assign [.Attribute (.Name "self" p6) f p7] (.Name p p8) p9]
  par : ∃ ar, ((defArgs st).posonlyargs ++ (defArgs st).args).head? = some ar ∧ ar.arg = "self"
  sup : (defScope st).names.lookup ("super" : Str) = some .globalImplicit
  cls : (defScope st).names.lookup ("__class__" : Str) = some .free
  slf : (defScope st).names.lookup ("self" : Str) = some .local
  arg : (defScope st).names.lookup p = some .local
  pne : (p == ("self" : Str)) = false ∧ (p == ("__debug__" : Str)) = false ∧ (p == ("__classdict__" : Str)) = false
  noc : ∀ x ∈ (defScope st).names, x.2 ≠ .cell
  fre : ∀ x ∈ (defScope st).names, x.2 = .free → x.1 = "__class__"
  kind : (defScope st).kind = .function
  co : (defScope st).isCoroutine = false
  gen : (defScope st).isGenerator = false
  top : (prog.main.scope.names.lookup ("super" : Str)).isSome = false
/-- where the def stands, the cell of __class__ at cc, the code object at cda -/
structure ErrD (prog : Program) (K : PySem.W.Frag) (st : Stmt) (C fI cc cda : Addr) (qual : Str) (fd : FuncData) : Prop where
  fn : ∃ (dV kV doc pm ct oc : Value) (an od : Option Addr) (osl : Array (Option Value)), fd = PySem.W.ksFn "__init__" qual (defArgs st) (defBody st) (defScope st) dV kV doc pm an (.ref cda) ct cc ∧ K.lookup fI = some ⟨oc, od, .func fd, osl⟩
  code : PySem.W.codeIn K (.ref cda) qual = true
  file : ∃ (ccl : Value) (cdd : Option Addr) (ccs : Array (Option Value)) (vs : Array Value) (file : Str) (tf : Tok), K.lookup cda = some ⟨ccl, cdd, .fields vs, ccs⟩ ∧ vs[2]? = some (.str file tf) ∧ ((prog.main.file : Str) == file) = true
  cell : ∃ (cl : Value) (cld : Option Addr) (csl : Array (Option Value)), K.lookup cc = some ⟨cl, cld, .cell (some (.ref C)), csl⟩
/-- what the written part tells of the class at C, over the built-in ValueError -/
structure ErrC (K : PySem.W.Frag) (C : Addr) (f : Str) : Prop where
  oex : OexC K C
  vB : PySem.W.subIn K (.ref C) (.type "ValueError") = some true
  up : PySem.W.ks_superIn K C C "__init__" = some (some (.builtin "ValueError.__init__"))
  slf : PySem.W.mroIn K C (.ref C) = some true
  noF : PySem.W.findIn K (.ref C) f = some none
  op : PySem.W.nsIn K cStatics "thirdparty.any" = some none
  sup : PySem.W.nsIn K mainGlobals "super" = some none
/-- the context of the __init__'s body -/
def icx (P : Program) (w : World) (K : PySem.W.Frag) (mg : Str → Option Value) (base : Heap) (qual p : Str) (sc : Scope) (f cc : Addr) (cd : Value) (A : Around) (outer : List Env) (s : Shared) (H : Hp) : Cx where
  prog := P
  w := w
  K := K
  mg := mg
  base := base
  A := A.deeper (PySem.W.ksEnv qual sc s.heap.objs.size f cd cc)
  N := ["self", p]
  s_0 := s
  H_0 := H
  env := PySem.W.ksEnv qual sc s.heap.objs.size f cd cc
  outer := outer
  stack := PySem.W.ksEnv qual sc s.heap.objs.size f cd cc :: outer
  ex := []
  calm := true
  fn := fun _ => false
  pn := []
  xe := fun _ _ => False
section
variable {P : Program} {w : World} {K : PySem.W.Frag} {mg : Str → Option Value} {base : Heap} {qual p f msg : Str} {st : Stmt} {fI cc C cda : Addr} {A : Around} {outer : List Env} {s : Shared} {H : Hp} {fd : FuncData}
theorem look1 {α : Type} {x y : Str} {c d : α} (h : List.lookup y [(x, c)] = some d) : y = x ∧ d = c := by
  by_cases q : y = x
  · subst q
    simp [List.lookup] at h
    exact ⟨rfl, h.symm⟩
  · have e : (y == x) = false := by simpa using q
    simp [List.lookup, e] at h
theorem icx_start {h₀ : Heap} {tk : Nat} {x a : Value} {xv av : V} (T : ErrT P st f p msg) (D : ErrD P K st C fI cc cda qual fd) (hd : A.handled = none) (e0 : Env0 P w K mg base A outer s H) (rx : RelV xv x) (ra : RelV av a)
    (hns : h₀.Ns s.heap.objs.size fun y => (([("self", x), (p, a)] : List (Str × Value)).reverse).lookup y) (kp : ∀ b o, s.heap.get? b = some o → h₀.get? b = some o) :
    Inv (icx P w K mg base qual p (defScope st) fI cc (.ref cda) A outer s H) [] [some xv, some av] H { s with heap := h₀, toks := tk } := by
  obtain ⟨cl, cld, csl, hcc⟩ := D.cell
  have inS : K.In s.heap := e0.mod.kin.keeps fun b o q => (e0.bs b o q).1
  have hcb : base.get? cc = some ⟨cl, cld, .cell (some (.ref C)), csl⟩ := e0.mod.kin _ _ hcc
  have noA : ∀ b : Addr, b ∉ (icx P w K mg base qual p (defScope st) fI cc (.ref cda) A outer s H).ex := fun b z => absurd (show b ∈ ([] : List Addr) from z) (by simp)
  have lk : ∀ {y c}, (icx P w K mg base qual p (defScope st) fI cc (.ref cda) A outer s H).env.cells.lookup y = some c → y = "__class__" ∧ c = cc := fun {y c} h => look1 h
  have nesp : p ≠ ("self" : Str) := fun z => by
    have := T.pne.1
    rw [z] at this
    simp at this
  refine ⟨⟨e0.mod, T.kind, rfl, rfl, Nat.le_refl _, fun y z c h1 h2 => (lk h1).1.trans (lk h2).1.symm, fun y hy => ?_, fun y c h => Bool.noConfusion h, fun _ => hd, Around.frames_deeper e0.frames, .inr ⟨rfl, rfl⟩, fun b z => absurd z (noA b), e0.bs, e0.bsz,
    fun b _ _ => noA b, fun b z => absurd z (noA b), e0.funs, e0.frf⟩, rfl, e0.bare, Un.kept kp, ⟨_, hns, fun i y v h1 h2 h3 => ?_⟩, fun y c h => ?_, e0.hok.fresh (Nat.le_refl _), fun y c h => ?_, fun q hq => absurd (show q ∈ ([] : List (Addr × Obj)) ++ [] from hq) (by simp), e0.hok.kept kp, rfl⟩
  · have hy : (defScope st).names.lookup y = some .cell ∨ (defScope st).names.lookup y = some .free := hy
    rcases hy with hy | hy
    · exact absurd rfl (T.noc _ (PySem.mem_of_lookup hy))
    · have e := T.fre _ (PySem.mem_of_lookup hy) rfl
      have e : y = "__class__" := e
      subst e
      exact ⟨cc, by show List.lookup _ [_] = _; simp [List.lookup]⟩
  · match i, h1, h2 with
    | 0, h1, h2 =>
      cases h1
      cases h2
      have e : (List.lookup ("self" : Str) ([("self", x), (p, a)] : List (Str × Value)).reverse) = some x := by
        have q : (("self" : Str) == p) = false := by simpa using Ne.symm nesp
        simp [List.lookup, q]
      exact ⟨x, rx, .inl ⟨T.slf, e⟩⟩
    | 1, h1, h2 =>
      cases h1
      cases h2
      have e : (List.lookup p ([("self", x), (p, a)] : List (Str × Value)).reverse) = some a := by simp [List.lookup]
      exact ⟨a, ra, .inl ⟨T.arg, e⟩⟩
    | i + 2, h1, h2 => simp [icx] at h1
  · obtain ⟨e1, e2⟩ := lk h
    subst e2
    exact ⟨_, _, kp _ _ (inS _ _ hcc), rfl⟩
  · obtain ⟨e1, e2⟩ := lk h
    subst e2
    exact (e0.bs _ _ hcb).2
end
end BV
namespace BV
open PySem PySem.Spec PyProof.Rows L2
/-- what __init__ promises: the fresh error at a gets its dict, which holds the one field -/
def spI (C : Addr) (f : Str) : Sp := fun vs H Q _ => ∃ (a : Addr) (v : V), vs = [.ref a, v] ∧ H a = some (exo a C none) ∧ ∀ dx, H dx = none → dx ≠ a → Q .non (upd (upd H dx (exd dx [(f, v)])) a (exo a C (some dx)))
section
variable {P : Program} {w : World} {K : PySem.W.Frag} {mg : Str → Option Value} {base : Heap} {qual p f msg : Str} {st : Stmt} {fI cc C cda : Addr} {A : Around} {outer : List Env} {s : Shared} {H : Hp} {fd : FuncData}
/-- ValueError.__init__ bound to the error at a, called with one text: nothing of it is told -/
theorem call_up {X : Cx} {pins : List (Addr × Obj)} {σ : L2.St} {a u : Addr} {us : List Value} {E : Value → Shared → Prop} {Q : Value → Shared → Prop} (T : OexC X.K C) (I : Inv X pins σ H s) (e : H a = some (exo a C none))
    (hu : s.heap.get? u = some (PySem.W.kxs_mw "ValueError.__init__" a)) (hl : us.length ≤ sizeLine) (h : ∀ s', Inv X pins σ H s' → Q .none s') : wpAny (model X.prog X.w) X.A (call (.ref u) us) Q E s := by
  obtain ⟨nm, q, N, bs, bm, sn, sub, ab, col, dd, k0, k1, k2, k3, k5, hC, hbm⟩ := T.cls
  obtain ⟨t1, ho⟩ := exo_at I.hok e
  have done : ∀ h', (∀ b o, b ≠ a → s.heap.get? b = some o → h'.get? b = some o) → (∃ t2, h'.get? a = some ({ cls := .ref C, dict := none, data := .fields #[.ref t2, .none, .none, .none, .bool false, .none] } : Obj)) → Q .none { s with heap := h' } := by
    rintro h' k ⟨t2, hx⟩
    have J := I.write (t' := s.toks) (x := a) (e := a) (o := exo a C none) (by rw [e]; trivial) (.inl rfl) k ⟨_, hx⟩ (exo_ok hx)
    have eu : upd H a (exo a C none) = H := funext fun b => by
      by_cases hb : b = a
      · subst hb
        rw [upd_same, e]
      · exact upd_ne hb
    rw [eu] at J
    exact h _ J
  have hCs := I.kIn _ _ hC
  obtain ⟨hp, g, d, t, os⟩ := s
  refine wpAny_call (codeAny_of_tree ?_)
  show wpAny _ X.A.in1 (callAny (.ref u) ⟨us, []⟩) _ _ _
  unfold callAny
  refine wpAny_bind (wpAny_load hu ?_)
  refine PySem.W.KFB.if_so rfl ?_
  refine wpAny_bind (PySem.W.check_bound_init F.excBase_ValueError.toExcCallFacts hCs ho rfl ?_)
  refine wpAny_bind (wpAny_pure (wpAny_pure ⟨plainId_quiet F.excBase_ValueError.init.plain _, ?_⟩))
  refine codeAny_builtin F.excBase_ValueError.initEntry ?_
  exact PySem.W.exc_init_tree (cls := .ref C) (t0 := t1) (dv := none) (c2 := .none) (c3 := .none) (b4 := .bool false) ho hl fun h' k1 k2 _ => done h' k1 ⟨_, k2⟩
/-- o.m('..') on one line -/
theorem meth_eq {o : Expr} {m x : Str} {apos pos p3 : Pos} {j : Nat} {env : Env} (hl : (apos.endLine == pos.line) = true) : eval (.Call (.Attribute o m apos) [.Constant (.str x) j p3] [] pos) env = (do
      let ov ← attributeBase o m env (eval o env)
      standAt apos.atName
      let (f, first) ← holding [ov] (getMethod ov m (do return (← importBound o env).getD true))
      callWith pos f first (backTo pos (starEach [.Constant (.str x) j p3] env)) []) := by
  have hpos : methodCallPos true o env apos pos = pure pos := by
    unfold methodCallPos
    simp [hl]
  have hf : methodCallForm (1 + 0) (backTo pos (starEach [.Constant (.str x) j p3] env)) (backToKw pos (keywordEach [] env)) = true := by rfl
  show (do
    let ov ← attributeBase o m env (eval o env)
    standAt apos.atName
    methodCall o m apos pos env ov (1 + 0) (backTo pos (starEach [.Constant (.str x) j p3] env)) (backToKw pos (keywordEach [] env))) = _
  unfold methodCall calleeOf
  simp only [hf, hpos, if_true, pure_bind]
  rfl
theorem init_ok {CX : CXT} (T : ErrT P st f p msg) (D : ErrD P K st C fI cc cda qual fd) (KC : ErrC K C f) : FnOk P w K mg base CX 1 fI fd ["self", p] (spI C f) := by
  refine ⟨fun vs H Q E h => ?_, fun A outer s H args us vs Q E hr e0 hb rv hsp => ?_⟩
  · obtain ⟨a, v, rfl, _⟩ := h
    rfl
  obtain ⟨a, v, rfl, ea, q⟩ := hsp
  cases rv with
  | @cons _ ux _ ur rx rr =>
  cases rr with
  | @cons _ uv _ _ rvv rr =>
  cases rr
  obtain rfl : ux = Value.ref a := rx
  obtain ⟨dV, kV, doc, pm, ct, oc, an, od, osl, rfl, look⟩ := D.fn
  obtain ⟨ccl, cdd, ccs, vs, file, tf, hcode, hvs, hfile⟩ := D.file
  obtain ⟨cl, cld, csl, hcell⟩ := D.cell
  obtain ⟨ar, har, harn⟩ := T.par
  obtain ⟨p0, p1, p2, p3, p4, p5, p6, p7, p8, p9, j, hln, hbody⟩ := T.body
  have inS : K.In s.heap := e0.mod.kin.keeps fun b o q => (e0.bs b o q).1
  have noLim : s.heap.NoLimit := e0.mod.nolimit.keeps fun b o q => (e0.bs b o q).1
  refine PySem.ks_codeAny_call_defAt (binds := [("self", .ref a), (p, uv)]) hr.depth (inS _ _ look) rfl noLim (PySem.W.codeRec_of inS D.code) (show FuncBody.stmts (defBody st) = _ by rw [hbody]) hb T.noc (fun y hy => ?_) (fun h₀ hns kp => ?_) T.co T.gen T.kind
  · simp only [List.mem_cons, List.not_mem_nil, or_false] at hy
    rcases hy with rfl | rfl
    · exact T.slf
    · exact T.arg
  have I := icx_start (tk := s.toks + 2) T D hr.hd e0 (show RelV (.ref a) (.ref a) from rfl) rvv hns kp
  let X : Cx := icx P w K mg base qual p (defScope st) fI cc (.ref cda) A outer s H
  have I0 : Inv X [] [some (.ref a), some v] H { s with heap := h₀, toks := s.toks + 2 } := I
  have hni : interactive (callEnv (PySem.W.ksFn "__init__" qual (defArgs st) (defBody st) (defScope st) dV kV doc pm an (.ref cda) ct cc) s.heap.objs.size fI) = false := by
    show ((defScope st).kind == .module && _) = false
    rw [T.kind]
    rfl
  have mid : ∀ s', Inv X [] [some (.ref a), some v] H s' → wpAny (model P w) X.A (execs [.Assign [.Attribute (.Name "self" p6) f p7] (.Name p p8) p9] X.env)
      (fun fl s'' => CR CX outer P w H s Q E (.ok (.ret (match fl with | .ret v => v | _ => .none))) s'') (fun _ _ => False) s' := fun s' I' => by
    have hs : PE X (.Name "self" p6) (tVar 0) := pv 0 rfl (.inl T.slf) (by decide)
    have ha : PE X (.Name p p8) (tVar 1) := pe_var rfl (.inl T.arg) T.pne.2.1 T.pne.2.2
    have hst := (pss_one (ps_ost (f := f) (p' := p7) (pos := p9) hs ha)).run [] s' [some (.ref a), some v] H { nx := fun _ H' => Q .non H', rt := Q } I' ⟨v, rfl, .ref a, rfl, a, C, rfl, KC.oex, KC.noF, .inl ⟨ea, fun dx h1 h2 => q dx h1 h2⟩⟩
    refine wpAny_mono hst (fun fl s2 h2 => ?_) fun _ _ z => z
    cases fl with
    | brk => exact h2.elim fun _ z => z.elim fun _ z => z.2.elim
    | cont => exact h2.elim fun _ z => z.elim fun _ z => z.2.elim
    | next =>
      obtain ⟨σ', H', J, q'⟩ := h2
      exact ⟨.non, H', J.os, J.bare, J.base, J.hok, rfl, q'⟩
    | ret u =>
      obtain ⟨v', σ', H', J, r', q'⟩ := h2
      exact ⟨v', H', J.os, J.bare, J.base, J.hok, r', q'⟩
  have mid2 : ∀ s', Inv X [] [some (.ref a), some v] H s' → wpAny (model P w) X.A (execs [.Assign [.Attribute (.Name "self" p6) f p7] (.Name p p8) p9] X.env)
      (fun fl s'' => CR CX outer P w H s Q E (.ok (.ret (match fl with | .ret v => v | _ => .none))) s'')
      (fun e s' => wpAny (model P w) X.A (leaving X.env e) (fun _ s'' => CR CX outer P w H s Q E (.error e) s'') (fun e' s'' => CR CX outer P w H s Q E (.error e') s'') s') s' := fun s' I' => wpAny_mono (mid s' I') (fun _ _ z => z) fun _ _ z => z.elim
  refine PySem.ks_wpAt_execs_cons (PySem.ks_wpAt_Expr_any (PySem.ks_wpAt_MethodCall ?_ (meth_eq hln)) hni (by rfl))
  have inS0 : K.In h₀ := inS.keeps kp
  have gn : (⟨h₀, s.gens, s.drawn, s.toks + 2, s.os⟩ : Shared).heap.Ns mainGlobals mg := I0.mod.glob.keeps I0.bk
  obtain ⟨mb, mbn, mbe⟩ := I0.mod.blt
  refine PySem.ks_wpAt_super_base (env := X.env) T.sup T.cls rfl rfl (inS0 _ _ look) rfl har rfl (inS0 _ _ hcode) rfl hvs hfile T.top ?_
  refine PySem.W.ks_loadName_global T.kind T.sup (Calls.loadGlobal_builtin (env := X.env) gn (PySem.W.mg_none_of inS0 gn KC.sup) (mbn.keeps I0.bk) ((mbe _ (by decide +kernel)).trans (show bootBuiltins "super" = some (.type "super") by decide +kernel)) ⟨rfl, ?_⟩)
  refine wpAny_loadName_free T.kind T.cls (show List.lookup _ [_] = some cc by simp [List.lookup]) ⟨_, inS0 _ _ hcell, rfl⟩ ?_
  rw [harn]
  have hself : (List.lookup ("self" : Str) ([("self", .ref a), (p, uv)] : List (Str × Value)).reverse) = some (.ref a) := by
    have q : (("self" : Str) == p) = false := by
      rw [beq_eq_false_iff_ne]
      intro z
      have := T.pne.1
      rw [← z] at this
      simp at this
    simp [List.lookup, q]
  refine wpAny_loadName_local T.kind T.slf hns hself ?_
  obtain ⟨nm, q', N', bs, bm, sn, sub, ab, col, dd, k0, k1, k2, k3, k5, hC, hbm⟩ := KC.oex.cls
  obtain ⟨t1, ho⟩ := exo_at I0.hok ea
  have hcl : PySem.W.clsIn K C = some { name := nm, bases := bs, mro := .ref C :: bm, ns := N', qualname := q', hasDict := true, slotNames := sn, subclasses := sub, abstract := ab, collection := col, hasDel := false } := by unfold PySem.W.clsIn; rw [hC] <;> rfl
  refine PySem.ks_wpAny_isType_cls (inS0 _ _ hC) rfl ⟨rfl, ?_⟩
  have ho0 : h₀.get? a = some ({ cls := .ref C, dict := none, data := .fields #[.ref t1, .none, .none, .none, .bool false, .none] } : Obj) := ho
  refine PySem.ks_wpAny_call_super (inS0 _ _ hC) rfl ho0 rfl (fun c z => by cases z) (PySem.W.looks_mroIn inS0 KC.slf) fun h1 so1 k1' => ?_
  have I1 : Inv X [] [some (.ref a), some v] H ⟨h1, s.gens, s.drawn, s.toks + 2, s.os⟩ := I0.kept (t' := s.toks + 2) k1'
  have inS1 : K.In h1 := inS0.keeps k1'
  have hi : PySem.W.InstAt h1 a { cls := .ref C, dict := none, data := .fields #[.ref t1, .none, .none, .none, .bool false, .none] } C none := ⟨k1' _ _ ho0, rfl, rfl, trivial⟩
  have hup : PySem.W.alongIn K "__init__" ((((Value.ref C :: bm)).dropWhile (· != .ref C)).drop 1) = some (some (.builtin "ValueError.__init__")) := by
    have z := KC.up
    unfold PySem.W.ks_superIn at z
    rw [hcl] at z
    exact z
  refine PySem.W.kxs_getMethod PySem.W.kxs_ValueError so1 (PySem.W.looks_opaque inS1 KC.op) ((PySem.W.looks_clsIn inS1 hcl).andThen .now) rfl inS1 hup (hi.type.andThen (PySem.W.looks_subIn inS1 KC.vB)) (PySem.W.ks_ne inS1 hi hcl) (by decide) ?_
  have I2 : Inv X [] [some (.ref a), some v] H ⟨h1.push (PySem.W.kxs_mw "ValueError.__init__" a), s.gens, s.drawn, s.toks + 2 + 1, s.os⟩ := I1.kept (t' := s.toks + 2 + 1) fun b o e => Heap.get?_push_of_some _ e
  have hmw : (h1.push (PySem.W.kxs_mw "ValueError.__init__" a)).get? h1.objs.size = some (PySem.W.kxs_mw "ValueError.__init__" a) := Heap.get?_push_size _ rfl
  refine PySem.W.kxs_callWith (i := "ValueError.__init__") (x := a) (by rfl) (Calls.evalArgs_plain ?_)
  refine Calls.spliced_cons (Calls.Constant_str (k := j) (pos := p3) (Calls.spliced_nil ⟨hmw, ?_⟩))
  have I3 := I2.tok (s.toks + 2 + 1 + 1)
  refine call_up (X := X) KC.oex I3 ea hmw (by rw [sizeLine_eq]; exact (show 1 ≤ 16777216 by decide)) fun s3 I4 => ?_
  exact wpAt_of_wpAny (mid2 s3 I4)
end
end BV
namespace BV
open PySem PySem.Spec PyProof.Rows L2
/-! ### raise c(e) -/
/-- the error class of the name c, as the written part has it -/
structure ErrP (prog : Program) (K : PySem.W.Frag) (mg : Str → Option Value) (c : Str) : Prop where
  ex : ∃ (C fI cc cda : Addr) (fd : FuncData) (st : Stmt) (p msg qual : Str), mg c = some (.ref C) ∧ ErrT prog st (exF c) p msg ∧ ErrD prog K st C fI cc cda qual fd ∧ ErrC K C (exF c) ∧
    PySem.W.findIn K (.ref C) "__init__" = some (some (.ref fI)) ∧ PySem.W.typeIn K (.ref fI) = some (.type "function") ∧ Binds K fd ["self", p] []
def sRaise (c : Str) (f : Rho → Cells → Res D) : Rho → Cells → Out := fun ρ C => (f ρ C).out ρ fun d C1 => .ex c d ρ C1
@[simp] theorem e_sRaise (c : Str) (f : Rho → Cells → Res D) (ρ : Rho) (C : Cells) : sRaise c f ρ C = (f ρ C).out ρ fun d C1 => .ex c d ρ C1 := rfl
section
variable {K : PySem.W.Frag} {μ : List Addr} {F H : Hp} {C : Cells}
/-- something more stands in the heap -/
theorem Sim.beside (S : Sim K μ F C H) {p : Addr} {o : HO} (hp : H p = none) : Sim K μ F C (upd H p o) ∧ Ext μ F H μ F (upd H p o) := by
  refine ⟨⟨fun b u e => ?_, S.len, S.nd, fun a h z => ?_, fun k c a h1 h2 => ?_⟩, ⟨⟨[], by simp, fun a h => nomatch h⟩, Same.refl F, fun a h => ?_, fun a u h1 h2 => (by rw [h1] at h2; cases h2), fun a u h1 h2 => ?_⟩⟩
  · rw [upd_ne (ne_of_none (S.sub b u e) hp)]
    exact S.sub b u e
  · by_cases hb : a = p
    · subst hb
      rw [upd_same] at z
      cases z
    · rw [upd_ne hb] at z
      exact S.trk a h z
  · have q := S.cel k c a h1 h2
    cases c with
    | dead => trivial
    | lst ds =>
      obtain ⟨f, vs, g, r⟩ := q
      exact ⟨f, vs, by rw [upd_ne (ne_of_none g hp)]; exact g, r⟩
    | dic ds =>
      obtain ⟨f, vs, g, r⟩ := q
      exact ⟨f, vs, by rw [upd_ne (ne_of_none g hp)]; exact g, r⟩
    | tab q0 P0 =>
      obtain ⟨f, vs, g, r⟩ := q
      exact ⟨f, vs, by rw [upd_ne (ne_of_none g hp)]; exact g, r⟩
  · by_cases hb : a = p
    · subst hb
      exact hp
    · rw [upd_ne hb] at h
      exact h
  · rw [upd_ne (ne_of_none h1 hp)]
    exact h1
end
section
variable {X : Cx} {W : WX} {c : Str} {e : Expr} {f : Rho → Cells → Res D} {p pos pos2 : Pos}
theorem bs_raise (hc : X.calm = true) (tk : Takes X W) (R : ErrP X.prog X.K X.mg c) (hr : Room 2 X.A) (hg : Gl X c) (he : BE X W e f) (hdb : (c == ("__debug__" : Str)) = false := by decide)
    (h1 : starEach (e :: []) X.env = (false, eval e X.env) :: starEach [] X.env := by rfl) (h2 : (backTo pos (starEach [] X.env)).any (·.1) = false := by rfl) :
    BS X W (.Raise (some (.Call (.Name c p) [e] [] pos)) none pos2) (sRaise c f) := by
  obtain ⟨C, fI, cc, cda, fd, st, pn, msg, qual, hm, T, Dd, KC, iC, tI, hb⟩ := R.ex
  have F1 : FnOk X.prog X.w X.K X.mg X.base (fun _ _ _ _ _ _ => False) 1 fI fd ["self", pn] (spI C (exF c)) := init_ok T Dd KC
  refine psI (ps_raise hc tk (pmk_oex KC.oex iC tI F1 hr hb .nil (fun _ _ _ _ _ _ _ z => z.elim) hg hm (pa_cons he pa_nil h1) hdb h1 h2)) ?_
  rintro D σ H ⟨ρ, C0, μ, F, S, E, k⟩
  refine ⟨ρ, C0, μ, F, S, E, sd_bind E k fun d C1 v μ1 F1' H1 x1 s1 r1 h3 => ?_⟩
  refine ⟨by simp, fun a ha => ?_⟩
  refine ⟨a, v, rfl, upd_same, fun dx hd hne => ⟨rfl, dx, [(exF c, v)], upd_same, ?_, ?_, ?_⟩⟩
  · rw [upd_ne hne, upd_same]
  · rw [upd_ne hne] at hd
    exact hd
  · have hd1 : H1 dx = none := by
      rw [upd_ne hne] at hd
      exact hd
    have eq : upd (del (upd (upd (upd H1 a (exo a C none)) dx (exd dx [(exF c, v)])) a (exo a C (some dx))) a) dx (.xd [(exF c, v)]) = upd H1 dx (.xd [(exF c, v)]) := by
      funext b
      by_cases hb1 : b = dx
      · subst hb1
        rw [upd_same, upd_same]
      · rw [upd_ne hb1, upd_ne hb1]
        by_cases hb2 : b = a
        · subst hb2
          rw [del_same, ha]
        · rw [del_ne hb2, upd_ne hb2, upd_ne hb1, upd_ne hb2]
    rw [eq]
    obtain ⟨S2, X2⟩ := s1.beside (o := .xd [(exF c, v)]) hd1
    exact h3 _ _ _ _ _ _ X2 S2 (x1.env E) ⟨hm, dx, v, rfl, upd_same, r1, s1.notin hd1⟩
end
end BV
namespace BV
open PySem PySem.Spec PyProof.Rows L2
/-! ### the end of a law whose defs make lambdas: cs tells by maker its code object and the table of it -/
/-- what is tracked at the start: the script, and each table, empty -/
def startH (K : PySem.W.Frag) (a : Addr) (vs : List Value) (ns : List Int) (ts : List Addr) : Hp := fun b =>
  if b ∈ ts then some (.tbl #[]) else if b = a ∧ K.lookup a = none then some (.frz { cls := .type "list", data := .seq vs.toArray } (.lst (ns.map V.int))) else none
section
variable {K : PySem.W.Frag} {a b : Addr} {vs : List Value} {ns : List Int} {ts : List Addr}
theorem startH_tab (h : b ∈ ts) : startH K a vs ns ts b = some (.tbl #[]) := if_pos h
theorem startH_scr (h : a ∉ ts) (k : K.lookup a = none) : startH K a vs ns ts a = some (.frz { cls := .type "list", data := .seq vs.toArray } (.lst (ns.map V.int))) := (if_neg h).trans (if_pos ⟨rfl, k⟩)
theorem startH_cases {u : HO} (h : startH K a vs ns ts b = some u) : (b ∈ ts ∧ u = .tbl #[]) ∨ (b ∉ ts ∧ b = a ∧ K.lookup a = none ∧ u = .frz { cls := .type "list", data := .seq vs.toArray } (.lst (ns.map V.int))) := by
  unfold startH at h
  by_cases q : b ∈ ts
  · rw [if_pos q] at h
    cases h
    exact .inl ⟨q, rfl⟩
  · rw [if_neg q] at h
    split at h
    · rename_i z
      cases h
      exact .inr ⟨q, z.1, z.2, rfl⟩
    · cases h
end
def tabCells (cs : List (Addr × Addr)) (qs : List Str) : Cells := (cs.zip qs).map fun p => .tab p.2 p.1.2
section
theorem lawGT {P : Program} {w : World} {K : PySem.W.Frag} {mg mb : Str → Option Value} {k : Nat} {fa a : Addr} {cs : List (Addr × Addr)} {qs : List Str} {fd : FuncData} {x : Str} {den : List D → Cells → Res D} {C1 : Cells} {s1 : Shared} {vs : List Value} {ns : List Int}
    (inK : K.In s1.heap) (gl : s1.heap.Ns mainGlobals mg) (bl : s1.heap.Ns builtinsNs mb) (bl2 : ∀ x : Str, x ≠ "__name__" → mb x = bootBuiltins x) (lim : s1.heap.NoLimit) (gens : s1.gens = #[])
    (hT : ∀ p ∈ cs, s1.heap.get? p.2 = some { cls := .none, data := .fields #[] }) (nT : ∀ p ∈ cs, K.lookup p.2 = none) (hC : ∀ p ∈ cs, PySem.W.CodeHd s1.heap p.1 p.2) (nd : (cs.map (·.2)).Nodup) (hq : qs.length = cs.length)
    (hbm : ∃ (bm : Addr) (ob : Obj), mg "__builtins__" = some (.ref bm) ∧ bm ≠ builtinsNs ∧ s1.heap.get? bm = some ob ∧ ob.cls = .type "module" ∧ ob.dict = some builtinsNs ∧ ob.data = .plain)
    (scr : s1.heap.get? a = some { cls := .type "list", data := .seq vs.toArray }) (isI : IntsAre vs ns) (few : ns.length ≤ sizeLine) (room : Room k callerA)
    (G : ∀ base : Heap, K.In base → base.Ns mainGlobals mg → (∀ p ∈ cs, LamX.TabB base mg p.1 p.2) → FnG P w K mg base k fa fd [x] (spD K mg 1 den)) (bind : ∀ (s : Shared) (u : Value), BindsTo s fd ⟨[u], []⟩ [(x, u)])
    (good : den [.scr ns] (tabCells cs qs) = .ok (.bl true) C1) :
    codeAny (model P w) callerA (.call (.ref fa) ⟨[.ref a], []⟩) (fun r s' => r = .ok (.ret (.bool true)) ∧ OldK s1.heap s'.heap ∧ s'.os = s1.os ∧ AllBare s'.gens) s1 := by
  have rel := vals_ints isI
  let ts : List Addr := cs.map (·.2)
  let H : Hp := startH K a vs ns ts
  have tsT : ∀ b ∈ ts, s1.heap.get? b = some { cls := .none, data := .fields #[] } := fun b hb => by
    obtain ⟨p, hp, rfl⟩ := List.mem_map.mp hb
    exact hT p hp
  have tsK : ∀ b ∈ ts, K.lookup b = none := fun b hb => by
    obtain ⟨p, hp, rfl⟩ := List.mem_map.mp hb
    exact nT p hp
  have aT : a ∉ ts := fun z => by
    have q := tsT a z
    rw [scr] at q
    exact absurd (congrArg Obj.data (Option.some.inj q)) (fun z' => by cases z')
  have cas : ∀ {b u}, H b = some u → (b ∈ ts ∧ u = .tbl #[]) ∨ (b ∉ ts ∧ b = a ∧ K.lookup a = none ∧ u = .frz { cls := .type "list", data := .seq vs.toArray } (.lst (ns.map V.int))) := fun h => startH_cases h
  have ok : HOk P w H s1.heap := fun b u e => by
    rcases cas e with ⟨h1, rfl⟩ | ⟨_, rfl, _, rfl⟩
    · exact tsT b h1
    · exact ⟨scr, by rw [List.length_map]; exact few, vs, _, rel, scr⟩
  -- an object that is neither a list nor an empty record is not tracked
  have free : ∀ {b : Addr} {o : Obj}, s1.heap.get? b = some o → (∀ us n, o.data ≠ .seq us n) → o.data ≠ .fields #[] → H b = none := fun {b o} e h1 h2 => by
    cases q : H b with
    | none => rfl
    | some u =>
      rcases cas q with ⟨z, _⟩ | ⟨_, z, _, _⟩
      · rw [tsT b z] at e
        cases e
        exact absurd rfl h2
      · subst z
        rw [scr] at e
        cases e
        exact absurd rfl (h1 _ _)
  have hide : ∀ {b : Addr} {o : Obj}, s1.heap.get? b = some o → H b = none → (hidT s1.heap H).get? b = some o := fun e n => hidT_get e n
  have nsOf : ∀ {b : Addr} {m : Str → Option Value}, s1.heap.Ns b m → (hidT s1.heap H).Ns b m := fun ⟨o, es, ep, e, d, r⟩ =>
    ⟨o, es, ep, hide e (free e (fun us n z => by rw [d] at z; cases z) (fun z => by rw [d] at z; cases z)), d, r⟩
  have inB : K.In (hidT s1.heap H) := fun b o e => hide (inK b o e) (by
    cases q : H b with
    | none => rfl
    | some u =>
      rcases cas q with ⟨z, _⟩ | ⟨_, z, z2, _⟩
      · rw [tsK b z] at e
        cases e
      · subst z
        rw [z2] at e
        cases e)
  have md : Mod K mg (hidT s1.heap H) := ⟨inB, nsOf gl, ⟨mb, nsOf bl, bl2⟩, let ⟨mc, h1, h2⟩ := lim; ⟨mc, nsOf h1, h2⟩⟩
  have TB : ∀ p ∈ cs, LamX.TabB (hidT s1.heap H) mg p.1 p.2 := fun p hp => by
    refine ⟨?_, ?_, fun z => ?_⟩
    · obtain ⟨o, us, fl, tf, fg, tg, inF, tx, tt, e1, r1, r2, r3, rest⟩ := hC p hp
      refine ⟨o, us, fl, tf, fg, tg, inF, tx, tt, hide e1 (free e1 (fun us n z => ?_) fun z => ?_), r1, r2, r3, rest⟩
      · rw [r2] at z
        cases z
      · rw [r2] at z
        cases z
        simp at r3
    · obtain ⟨bm, ob, b1, b2, b3, b4, b5, b6⟩ := hbm
      refine ⟨bm, ob, b1, b2, fun q => ?_, fun q => ?_, hide b3 (free b3 (fun us n z => by rw [b6] at z; cases z) fun z => by rw [b6] at z; cases z), b4, b5, b6⟩
      · obtain ⟨o, es, ep, e, hd, _⟩ := gl
        subst q
        rw [e] at b3
        cases b3
        rw [hd] at b6
        cases b6
      · subst q
        rw [hT p hp] at b3
        cases b3
        cases b6
    · obtain ⟨o, es, ep, e, hd, _⟩ := gl
      rw [z, hT p hp] at e
      cases e
      cases hd
  have env0 : Env0 P w K mg (hidT s1.heap H) callerA [] s1 H := ⟨rfl, md, fun b o e => of_hidT e, Nat.le_of_eq (hidT_size _ _), trivial, fun b hb => absurd (show b ∈ ([] : List Addr) from hb) List.not_mem_nil, ok, .of_eq gens⟩
  -- the frozen part: the script
  let F : Hp := fun b => if b ∈ ts then none else H b
  have seqF : SqL K F a (ns.map V.int) := by
    cases hk : K.lookup a with
    | none => exact .inl (.inr ⟨_, (if_neg aT).trans (startH_scr aT hk)⟩)
    | some o =>
      have e := inK a o hk
      rw [scr] at e
      cases e
      exact .inr ⟨_, vs.toArray, _, hk, rfl, rfl, rfl, by rw [List.size_toArray, isI.length]; exact few, by simpa using rel⟩
  have sim : Sim K ts F (tabCells cs qs) H := by
    refine ⟨fun b u e => ?_, ?_, nd, fun b hb z => ?_, fun j c b h1 h2 => ?_⟩
    · by_cases q : b ∈ ts
      · have e' : (if b ∈ ts then none else H b) = some u := e
        rw [if_pos q] at e'
        cases e'
      · have e' : (if b ∈ ts then none else H b) = some u := e
        rw [if_neg q] at e'
        exact e'
    · simp [tabCells, ts, hq]
    · rw [show H b = _ from startH_tab hb] at z
      cases z
    · have hb : b ∈ ts := List.mem_of_getElem? h2
      simp only [tabCells, List.getElem?_map, Option.map_eq_some_iff] at h1
      obtain ⟨p, h3, h4⟩ := h1
      obtain ⟨h5, h6⟩ := List.getElem?_zip_eq_some.mp h3
      have h7 : ts[j]? = some p.1.2 := by simp [ts, h5]
      rw [h7] at h2
      cases h2
      subst h4
      exact ⟨if_pos hb, #[], startH_tab hb, rfl, trivial, fun pos cv hc => by simp [codeAmong] at hc⟩
  refine codeAny_mono ((G _ inB (nsOf gl) TB).run callerA [] s1 H ⟨[.ref a], []⟩ [.ref a] [.ref a] (fun v _ => v = .bl true) (fun _ _ _ => False) rfl room env0 (bind s1 (.ref a)) (.cons rfl .nil) ⟨rfl, ts, F, tabCells cs qs, [.scr ns], sim, .cons (.scr seqF) .nil, ?_⟩) fun r s' h => ?_
  · rw [good]
    intro v μ' F' H' _ _ r
    cases r
    rfl
  cases r with
  | error e =>
    obtain ⟨_, _, _, _, _, _, _, _, _, _, _, _, z⟩ := h
    exact z.elim
  | ok fl =>
    cases fl with
    | next => exact False.elim h
    | brk => exact False.elim h
    | cont => exact False.elim h
    | ret u =>
      obtain ⟨v, H', os, bare, un, ok', r', q⟩ := h
      have q' : v = .bl true := q
      subst q'
      obtain rfl : u = Value.bool true := r'
      have key : ∀ b o, b ∉ ts → s1.heap.get? b = some o → s'.heap.get? b = some o := fun b o nb e => by
        cases q : H b with
        | none => exact un.keep b o e q (fun z => nomatch (show b ∈ ([] : List Addr) from z)) (by simp)
        | some u =>
          rcases cas q with ⟨z, _⟩ | ⟨_, rfl, _, rfl⟩
          · exact absurd z nb
          · obtain ⟨e2, _⟩ := ok' b _ (un.frzs b _ _ q)
            rw [scr] at e
            cases e
            exact e2
      have grown : ∀ p ∈ cs, ∃ more : Array Value, s'.heap.get? p.2 = some { cls := .none, data := .fields more } := fun p hp => by
        obtain ⟨more, z⟩ := un.tbls p.2 #[] (startH_tab (List.mem_map.mpr ⟨p, hp, rfl⟩))
        exact ⟨_, ok' p.2 _ z⟩
      refine ⟨rfl, ⟨fun b o e => ?_, fun b o e => ?_⟩, os, bare⟩
      · by_cases hb : b ∈ ts
        · obtain ⟨p, hp, rfl⟩ := List.mem_map.mp hb
          obtain ⟨more, hm⟩ := grown p hp
          rw [hT p hp] at e
          cases e
          exact .inr (.inl ⟨((hC p hp).tab (hT p hp)).isCodeTable, rfl, #[], more, rfl, by rw [Array.empty_append]; exact hm⟩)
        · exact .inl (key b o hb e)
      · by_cases hb : b ∈ ts
        · obtain ⟨p, hp, rfl⟩ := List.mem_map.mp hb
          obtain ⟨more, hm⟩ := grown p hp
          exact ⟨_, hm⟩
        · exact ⟨o, key b o hb e⟩
/-- the goal that k_head leaves, where tables stand -/
theorem walkGT {l : PySem.W.OpenLaw} {k : Nat} {q : Program} {loose : List Str} {XP : (Str → Option Value) → Heap → Prop} {YP : World → Heap → Prop} {d : DefRec} {K : Params → PySem.W.Frag} {x : Str} {den : List D → Cells → Res D} (cs : List (Addr × Addr)) (qs : List Str)
    (hn : l.most = some 63) (hdf : d.params.defaults = []) (room : Room k callerA) (hY : ∀ (w : World) (h : Heap), YP w h → (K w.params).In h) (hT : ∀ (w : World) (h : Heap), YP w h → ∀ p ∈ cs, h.get? p.2 = some { cls := .none, data := .fields #[] })
    (nT : ∀ (w : World), ∀ p ∈ cs, (K w.params).lookup p.2 = none) (hC : ∀ (w : World), ∀ p ∈ cs, PySem.W.codeHdIn (K w.params) p.1 p.2 = true) (nd : (cs.map (·.2)).Nodup) (hq : qs.length = cs.length)
    (G : ∀ (w : World) (mg : Str → Option Value) (fa : Addr) (h : Heap), (K w.params).In h → h.Ns mainGlobals mg → mg d.name = some (.ref fa) →
      ∃ fd : FuncData, (∀ (s : Shared) (u : Value), BindsTo s fd ⟨[u], []⟩ [(x, u)]) ∧ ∀ base : Heap, (K w.params).In base → base.Ns mainGlobals mg → (∀ p ∈ cs, LamX.TabB base mg p.1 p.2) → FnG l.prog w (K w.params) mg base k fa fd [x] (spD (K w.params) mg 1 den))
    (good : ∀ ns : List Int, ns.length ≤ 63 → ∃ C1, den [.scr ns] (tabCells cs qs) = .ok (.bl true) C1) : PySem.W.WalkO q loose XP YP l.row.toRowW d [] (fun f vs => PySem.call f vs) := by
  refine Att.attach_call hn hdf fun w s0 s1 mg mb fa o pm cd doc a vs ns T Y ho hd hcd hmg hobj isI len gens => ?_
  obtain ⟨fd, hb, hG⟩ := G w mg fa _ (hY w _ Y) T.T.g hmg
  obtain ⟨C1, hgood⟩ := good ns len
  exact lawGT (hY w _ Y) T.T.g T.T.b T.T.builtins T.T.nolimit gens (hT w _ Y) (nT w) (fun p hp => PySem.W.codeHd_of_K (hY w _ Y) (hC w p hp)) nd hq T.T.bmain hobj isI (Nat.le_trans len (by rw [sizeLine_eq]; decide)) room hG hb hgood
end
end BV
namespace BV
open PySem PySem.Spec PyProof.Rows L2 LamX
/-! ### x(lambda: e) -/
/-- the table at P is among the cells -/
def hasTab (q : Str) (P : Addr) (C : Cells) : Bool := C.any fun c => match c with
  | .tab q' P' => decide (q' = q) && decide (P' = P)
  | _ => false
section
variable {K : PySem.W.Frag} {μ : List Addr} {F H : Hp} {C : Cells} {q : Str} {P : Addr}
theorem hasTab_at (h : hasTab q P C = true) : ∃ k : Nat, C[k]? = some (Cell.tab q P) := by
  unfold hasTab at h
  rw [List.any_eq_true] at h
  obtain ⟨c, hc, e⟩ := h
  obtain ⟨k, hk, e2⟩ := List.mem_iff_getElem.mp hc
  cases c with
  | tab q' P' =>
    simp only [Bool.and_eq_true, decide_eq_true_eq] at e
    obtain ⟨rfl, rfl⟩ := e
    exact ⟨k, by rw [← e2]; simp [hk]⟩
  | _ => cases e
/-- a code object more in the table -/
theorem Sim.table {c : Addr} {ps more : Array Value} {k : Nat} (S : Sim K μ F C H) (hk : C[k]? = some (.tab q P)) (hP : H P = some (.tbl ps)) (hc : H c = none)
    (nt : TriplesOk (ps ++ more).toList) (na : ∀ (pos : Pos) (cv : Value), codeAmong pos (ps ++ more).toList = some cv → codeAmong pos ps.toList = some cv ∨ cv = .ref c) :
    Sim K μ (upd F c (CodeO c q)) C (upd (upd H P (.tbl (ps ++ more))) c (CodeO c q)) ∧ Ext μ F H μ (upd F c (CodeO c q)) (upd (upd H P (.tbl (ps ++ more))) c (CodeO c q)) := by
  have nPc : P ≠ c := ne_of_none hP hc
  obtain ⟨a, ha⟩ := mu_of S hk
  obtain ⟨fP, ps', gP, aP, t1, t2⟩ := S.cel k _ a hk ha
  subst aP
  rw [hP] at gP
  cases gP
  have hm : a ∈ μ := List.mem_of_getElem? ha
  have fF : Same F (upd F c (CodeO c q)) := fun b u e => by
    rw [upd_ne (ne_of_none e (S.free hc))]
    exact e
  have val : ∀ b, b ≠ c → b ≠ a → upd (upd H a (.tbl (ps ++ more))) c (CodeO c q) b = H b := fun b h1 h2 => by rw [upd_ne h1, upd_ne h2]
  have valP : upd (upd H a (.tbl (ps ++ more))) c (CodeO c q) a = some (.tbl (ps ++ more)) := by rw [upd_ne nPc, upd_same]
  refine ⟨⟨fun b u e => ?_, S.len, S.nd, fun b hb z => ?_, fun j cl b h1 h2 => ?_⟩, ⟨⟨[], by simp, fun a h => nomatch h⟩, fF, fun b hb => ?_, fun b u h1 h2 => ?_, fun b u h1 h2 => ?_⟩⟩
  · by_cases hb : b = c
    · subst hb
      rw [upd_same] at e ⊢
      exact e
    · rw [upd_ne hb] at e
      have hba : b ≠ a := fun z => by
        subst z
        rw [fP] at e
        cases e
      rw [val b hb hba]
      exact S.sub b u e
  · by_cases hbc : b = c
    · subst hbc
      rw [upd_same] at z
      cases z
    · by_cases hba : b = a
      · subst hba
        rw [valP] at z
        cases z
      · rw [val b hbc hba] at z
        exact S.trk b hb z
  · have z := S.cel j cl b h1 h2
    have hbc : b ≠ c := fun e => by
      subst e
      exact S.trk b (List.mem_of_getElem? h2) hc
    cases cl with
    | dead => trivial
    | lst ds =>
      obtain ⟨f, vs, g, r⟩ := z
      have hba : b ≠ a := fun e => by subst e; rw [hP] at g; cases g
      exact ⟨by rw [upd_ne hbc]; exact f, vs, by rw [val b hbc hba]; exact g, Reps.mono ⟨[], by simp⟩ fF _ _ r⟩
    | dic ds =>
      obtain ⟨f, vs, g, r⟩ := z
      have hba : b ≠ a := fun e => by subst e; rw [hP] at g; cases g
      exact ⟨by rw [upd_ne hbc]; exact f, vs, by rw [val b hbc hba]; exact g, KReps.mono ⟨[], by simp⟩ fF _ _ r⟩
    | tab q0 P0 =>
      obtain ⟨f, vs, g, r⟩ := z
      by_cases hba : b = a
      · subst hba
        rw [hP] at g
        cases g
        have ej : j = k := by
          obtain ⟨l1, e1⟩ := List.getElem?_eq_some_iff.mp h2
          obtain ⟨l2, e2⟩ := List.getElem?_eq_some_iff.mp ha
          exact (List.getElem_inj S.nd).mp (e1.trans e2.symm)
        subst ej
        rw [hk] at h1
        cases h1
        refine ⟨by rw [upd_ne hbc]; exact f, _, valP, rfl, nt, fun pos cv e => ?_⟩
        rcases na pos cv e with e | e
        · obtain ⟨c0, e1, e2⟩ := t2 pos cv e
          exact ⟨c0, e1, fF _ _ e2⟩
        · exact ⟨c, e, upd_same⟩
      · exact ⟨by rw [upd_ne hbc]; exact f, vs, by rw [val b hbc hba]; exact g, r.mono fF⟩
  · by_cases hbc : b = c
    · subst hbc
      exact hc
    · by_cases hba : b = a
      · subst hba
        rw [valP] at hb
        cases hb
      · rw [val b hbc hba] at hb
        exact hb
  · by_cases hbc : b = c
    · subst hbc
      exact .inl hc
    · rw [upd_ne hbc, h2] at h1
      cases h1
  · have hba : b ≠ a := fun e => h2 (e ▸ hm)
    rw [val b (ne_of_none h1 hc) hba]
    exact h1
end
section
variable {X : Cx} {pins : List (Addr × Obj)} {σ : L2.St} {H : Hp} {s : Shared} {μ : List Addr} {F : Hp} {C : Cells}
/-- the lambda is made -/
theorem lam_made {c P : Addr} {params : Arguments} {body : Expr} {scope : Scope} {pos : Pos} {E : Value → Shared → Prop} {Q : Value → Shared → Prop} (I : Inv X pins σ H s) (TB : TabB X.base X.mg c P) (hcode : X.env.code = .ref c) (S : Sim X.K μ F C H)
    (ht : hasTab (X.env.qual ++ "<lambda>") P C = true) (hdef : defaultsOf params X.env = ([], [])) (hfree : ∀ y ∈ scope.names, y.2 = .free → ∃ c, X.env.cells.lookup y.1 = some c)
    (h : ∀ (f c' : Addr) (pm ctv : Value) (F1 H1 : Hp) (s' : Shared), Inv X pins σ H1 s' → Sim X.K μ F1 C H1 → Ext μ F H μ F1 H1 →
      s'.heap.get? f = some (PySem.W.kla_obj "<lambda>" (X.env.qual ++ "<lambda>") params body scope (cloFrom X.env.cells scope.names []) pm c' ctv) → H1 f = none → f ∉ frs X.stack → F1 c' = some (CodeO c' (X.env.qual ++ "<lambda>")) → Q (.ref f) s') :
    wpAny (model X.prog X.w) X.A (eval (.Lambda params body scope pos) X.env) Q E s := by
  obtain ⟨k, hk⟩ := hasTab_at ht
  obtain ⟨a, ha⟩ := mu_of S hk
  obtain ⟨fP, ps, hP, aP, t1, t2⟩ := S.cel k _ a hk ha
  subst aP
  refine PySem.W.kla_eval hdef ?_
  have bP : s.heap.BuiltinsAt X.mg a := TB.bm.keeps I.bk
  have oP : s.heap.get? a = some { cls := .none, data := .fields ps } := I.hok a _ hP
  have nofr : ∀ f, s.heap.objs.size ≤ f → f ∉ frs X.stack := fun f hf z => by
    rcases List.mem_cons.mp (I.stkSub _ z) with e | e
    · exact Nat.lt_irrefl _ (Nat.lt_of_lt_of_le (show f < s.heap.objs.size by rw [e]; exact I.lt) hf)
    · exact I.nofs hf e
  cases hc : codeAmong pos ps.toList with
  | none =>
    refine PySem.W.kla_makeFunction (mg := X.mg) (c := c) (P := a) (ps := ps) (closure_ok hfree) I.ok.glob (I.mod.glob.keeps I.bk) hcode (TB.code.keeps I.bk) oP t1 hc TB.gP bP fun c' ctv h' tk hx hge hlt hrec htb => ?_
    obtain ⟨c2, oc, vs, t, e2, hoc, hd, hv⟩ := hrec
    cases e2
    have nC : H c' = none := I.hok.fresh hge
    have hsz : s.heap.objs.size ≤ h'.objs.size := Nat.le_trans hge (Nat.le_of_lt hlt)
    let fo : Obj := PySem.W.kla_obj "<lambda>" (X.env.qual ++ "<lambda>") params body scope (cloFrom X.env.cells scope.names []) ((X.mg "__name__").getD .none) c' ctv
    have I1 := inv_table (t' := tk) (more := #[rawInt pos.line, rawInt pos.col, .ref c']) (h' := h'.push fo) I hP (fun b o hb e => Heap.get?_push_of_some _ (hx b o hb e)) (Heap.get?_push_of_some _ htb) hge ⟨oc, vs, t, Heap.get?_push_of_some _ hoc, hd, hv⟩
    have eL : (ps ++ #[rawInt pos.line, rawInt pos.col, .ref c']).toList = ps.toList ++ [rawInt pos.line, rawInt pos.col, .ref c'] := by simp
    obtain ⟨S1, X1⟩ := S.table (more := #[rawInt pos.line, rawInt pos.col, .ref c']) hk hP nC (by rw [eL]; exact PySem.TriplesOk_snoc _ _ _ _ t1) fun p' cv e => by
      rw [eL] at e
      exact among_app _ t1 e
    have n1 : h'.objs.size ≠ c' := Nat.ne_of_gt hlt
    have n2 : h'.objs.size ≠ a := Nat.ne_of_gt (Nat.lt_of_lt_of_le (Heap.lt_size oP) hsz)
    exact h h'.objs.size c' _ ctv _ _ _ I1 S1 X1 (Heap.get?_push_size _ rfl) (by rw [upd_ne n1, upd_ne n2]; exact I.hok.fresh hsz) (nofr _ hsz) upd_same
  | some cv =>
    obtain ⟨c', e, hco⟩ := t2 pos cv hc
    subst e
    refine PySem.W.kla_makeFunctionHit (mg := X.mg) (c := c) (P := a) (ps := ps) (closure_ok hfree) I.ok.glob (I.mod.glob.keeps I.bk) hcode (TB.code.keeps I.bk) oP t1 hc bP fun ctv h' tk hx hsz => ?_
    let fo : Obj := PySem.W.kla_obj "<lambda>" (X.env.qual ++ "<lambda>") params body scope (cloFrom X.env.cells scope.names []) ((X.mg "__name__").getD .none) c' ctv
    have I1 : Inv X pins σ H { s with heap := h'.push fo, toks := tk } := I.kept fun b o e => Heap.get?_push_of_some _ (hx b o e)
    exact h h'.objs.size c' _ ctv F H _ I1 S .refl (Heap.get?_push_size _ rfl) (I.hok.fresh hsz) (nofr _ hsz) hco
end
end BV
namespace BV
open PySem PySem.Spec PyProof.Rows L2 LamX
/-! ### what an except suite says of the error that it holds -/
/-- items of what is handed back: a text, repr(fault.f), fault.f, isinstance(fault, B) -/
inductive HI where
  | str (x : Str) | rep | fld | isi
def hiD (p : D) (C : Cells) : HI → Res D
  | .str x => .ok (.str x) C
  | .rep => oRepr [p] C
  | .fld => .ok p C
  | .isi => .ok (.bl true) C
def hisD (p : D) : List HI → Cells → Res (List D)
  | [], C => .ok [] C
  | i :: is, C => (hiD p C i).bind fun x C1 => (hisD p is C1).bind fun xs C2 => .ok (x :: xs) C2
/-- what the class at C says, for its instances to be asked -/
structure ErrI (K : PySem.W.Frag) (C : Addr) : Prop where
  cl : (PySem.W.clsIn K C).isSome = true
  ga : PySem.W.findIn K (.ref C) "__getattribute__" = some (some (.builtin "BaseException.__getattribute__"))
  gg : PySem.W.findIn K (.ref C) "__getattr__" = some none
  bx : PySem.W.subIn K (.ref C) (.type "BaseException") = some true
  hd : PySem.W.hasDictIn K C = true
  ca : PySem.W.findIn K (.ref C) "__class__" = some (some (.builtin "object.__class__"))
  sp : PySem.W.specialIn K (.builtin "object.__class__") "__get__" = some (some (.builtin "getset_descriptor.__get__"))
  tk : PySem.W.takesIn K (.builtin "object.__class__") = some true
  ob : PySem.W.mroIn K C (.type "object") = some true
section
variable {X : Cx} {a C0 : Addr} {oe : Obj} {cls : Value} {d : Option Addr} {pn : List (Addr × Obj)} {i : Nat} {f : Str}
/-- the error at a, in slot i, holds p -/
structure Holds (K : PySem.W.Frag) (a : Addr) (d : Option Addr) (i : Nat) (f : Str) (p : D) (μ : List Addr) (F : Hp) (σ : L2.St) (H : Hp) : Prop where
  sl : σ[i]? = some (some (.ref a))
  fl : ∃ dd v, d = some dd ∧ H dd = some (.xd [(f, v)]) ∧ dd ∉ μ ∧ Rep K μ F v p
theorem Holds.ext {K : PySem.W.Frag} {p : D} {μ μ' : List Addr} {F F' H H' : Hp} {σ : L2.St} (h : Holds K a d i f p μ F σ H) (x : Ext μ F H μ' F' H') : Holds K a d i f p μ' F' σ H' := by
  obtain ⟨dd, v, h1, h2, h3, h4⟩ := h.fl
  refine ⟨h.sl, dd, v, h1, x.keep _ _ h2 h3, fun z => ?_, x.rep h4⟩
  obtain ⟨τ, e, n⟩ := x.pre
  rw [e] at z
  rcases List.mem_append.mp z with z | z
  · exact h3 z
  · rw [n _ z] at h2
    cases h2
/-- readings of an item, of items -/
def rHI (K : PySem.W.Frag) (mg : Str → Option Value) (a : Addr) (d : Option Addr) (i : Nat) (f : Str) (it : HI) : TE := fun σ H Q => ∃ p C μ F, Sim K μ F C H ∧ Holds K a d i f p μ F σ H ∧ kd (RD K) K mg W0 (hiD p C it) μ F σ H Q
def rHIs (K : PySem.W.Frag) (mg : Str → Option Value) (a : Addr) (d : Option Addr) (i : Nat) (f : Str) (its : List HI) : TA := fun σ H Q => ∃ p C μ F, Sim K μ F C H ∧ Holds K a d i f p μ F σ H ∧ kd (RL K) K mg W0 (hisD p its C) μ F σ H Q
theorem hi_nil : PA (X.suite a ((a, oe) :: pn)) [] (rHIs X.K X.mg a d i f []) := by
  refine paI pa_nil ?_
  rintro σ H Q ⟨p, C, μ, F, S, Hd, k⟩
  exact kd_ret S .nil k
theorem hi_cons {e : Expr} {es : List Expr} {it : HI} {its : List HI} (ha : PE (X.suite a ((a, oe) :: pn)) e (rHI X.K X.mg a d i f it)) (hr : PA (X.suite a ((a, oe) :: pn)) es (rHIs X.K X.mg a d i f its))
    (hs : starEach (e :: es) X.env = (false, eval e X.env) :: starEach es X.env := by rfl) : PA (X.suite a ((a, oe) :: pn)) (e :: es) (rHIs X.K X.mg a d i f (it :: its)) := by
  refine paI (pa_cons ha hr hs) ?_
  rintro σ H Q ⟨p, C, μ, F, S, Hd, k⟩
  refine ⟨p, C, μ, F, S, Hd, kd_bind k fun x C1 v μ1 F1 H1 x1 s1 r1 h1 => ?_⟩
  refine ⟨p, C1, μ1, F1, s1, Hd.ext x1, kd_bind h1 fun d2 C2 v2 μ2 F2 H2 x2 s2 r2 h2 => ?_⟩
  exact kd_ret s2 (.cons (x2.rep r1) r2) h2
theorem hi_str {x : Str} {j : Nat} {pos : Pos} : PE (X.suite a ((a, oe) :: pn)) (.Constant (.str x) j pos) (rHI X.K X.mg a d i f (.str x)) := by
  refine peI pe_str ?_
  rintro σ H Q ⟨p, C, μ, F, S, Hd, k⟩
  exact kd_ret S (.str x) k
/-- fault.f -/
theorem hi_fld {n : Str} {p1 pos : Pos} (T : ErrI X.K C0) (hno : PySem.W.findIn X.K (.ref C0) f = some none) (hz : Zc cls d oe) (hc : cls = .ref C0) (hf : ∃ vs, oe.data = .fields vs) (hn : PE (X.suite a ((a, oe) :: pn)) (.Name n p1) (tVar i))
    (hb : attributeBase (.Name n p1) f X.env (eval (.Name n p1) X.env) = eval (.Name n p1) X.env := by rfl) : PE (X.suite a ((a, oe) :: pn)) (.Attribute (.Name n p1) f pos) (rHI X.K X.mg a d i f .fld) := by
  refine peI (pe_xf ⟨T.ga, T.gg, T.bx, T.hd⟩ hno hz hf hn hb) ?_
  rintro σ H Q ⟨p, C, μ, F, S, Hd, k⟩
  obtain ⟨dd, v, h1, h2, h3, h4⟩ := Hd.fl
  exact ⟨.ref a, Hd.sl, rfl, hc, dd, _, v, h1, h2, by simp [List.lookup], kd_ret S h4 k⟩
/-- repr(fault.f) -/
theorem hi_rep {n : Str} {p1 p2 p3 pos : Pos} (T : ErrI X.K C0) (hno : PySem.W.findIn X.K (.ref C0) f = some none) (hz : Zc cls d oe) (hc : cls = .ref C0) (hf : ∃ vs, oe.data = .fields vs) (hn : PE (X.suite a ((a, oe) :: pn)) (.Name n p1) (tVar i))
    (hgd : X.A.guards = some []) (hu : X.A.units + 65 < cLine) (hg : Gl X "repr") (hm : X.mg "repr" = none)
    (hb : attributeBase (.Name n p1) f X.env (eval (.Name n p1) X.env) = eval (.Name n p1) X.env := by rfl) : PE (X.suite a ((a, oe) :: pn)) (.Call (.Name "repr" p2) [.Attribute (.Name n p1) f p3] [] pos) (rHI X.K X.mg a d i f .rep) := by
  obtain ⟨r, hr, hk⟩ := cb_repr (X := X.suite a ((a, oe) :: pn)) (W := W0) hgd hu
  refine peI (pe_callB hr hg hm bb_repr (pa_cons (pe_xf ⟨T.ga, T.gg, T.bx, T.hd⟩ hno hz hf hn hb) pa_nil)) ?_
  rintro σ H Q ⟨p, C, μ, F, S, Hd, k⟩
  obtain ⟨dd, v, h1, h2, h3, h4⟩ := Hd.fl
  exact ⟨.ref a, Hd.sl, rfl, hc, dd, _, v, h1, h2, by simp [List.lookup], hk [p] C [v] μ F H σ Q S (.cons h4 .nil) k⟩
/-- isinstance(fault, B), B a class above -/
theorem hi_isi {n bN : Str} {B : Value} {p1 p2 p3 pos : Pos} (T : ErrI X.K C0) (hz : Zc cls d oe) (hc : cls = .ref C0) (hf : ∃ vs, oe.data = .fields vs) (hn : PE (X.suite a ((a, oe) :: pn)) (.Name n p1) (tVar i))
    (hB : Names X bN B) (hin : PySem.W.kitOne X.K (.ref C0) B = some true) (hg : Gl X "isinstance") (hm : X.mg "isinstance" = none) :
    PE (X.suite a ((a, oe) :: pn)) (.Call (.Name "isinstance" p2) [.Name n p1, .Name bN p3] [] pos) (rHI X.K X.mg a d i f .isi) := by
  subst hc
  refine ⟨fun pins s σ H Q I h => ?_⟩
  obtain ⟨p, C, μ, F, S, Hd, k⟩ := h
  obtain ⟨dd, v, h1, h2, h3, h4⟩ := Hd.fl
  subst h1
  refine wpAny_Call_Name_kw (ld_blt I hg hm (show bootBuiltins "isinstance" = some (.builtin "isinstance") by decide +kernel) ?_ (by decide) (by decide))
  refine PyProof.Rows.callWith_builtin1 ?_ (by rfl) (by rfl)
  show wpAny _ _ (spliced ((false, eval (.Name n p1) X.env) :: (false, eval (.Name bN p3) X.env) :: [])) _ _ s
  refine Calls.spliced_cons (thn (hn.run pins s σ H (fun v H1 => v = .ref a ∧ H1 = H) I ⟨.ref a, Hd.sl, rfl, rfl⟩) fun u s1 ⟨v1, H1, I1, r1, e1, e2⟩ => ?_)
  subst e1 e2
  obtain rfl : u = Value.ref a := r1
  have cls2 : ∀ {Q : Value → Shared → Prop} {E : Value → Shared → Prop}, Q B s1 → wpAny (model X.prog X.w) (X.suite a ((a, oe) :: pn)).A (eval (.Name bN p3) X.env) Q E s1 := fun {Q E} q => by
    obtain ⟨hgB, hdbg, hmB | ⟨hmB, hvB, hnn⟩⟩ := hB
    · exact ld_glob (X := X.suite a ((a, oe) :: pn)) I1 hgB hmB q hdbg
    · exact ld_blt (X := X.suite a ((a, oe) :: pn)) I1 hgB hmB hvB q hnn hdbg
  refine Calls.spliced_cons (cls2 (Calls.spliced_nil ?_))
  obtain ⟨hget, _⟩ := I1.pin (a, oe) (List.mem_append.mpr (.inl List.mem_cons_self))
  have hx : ObjOk X.prog X.w H1 s1.heap dd (.xd [(f, v)]) := I1.hok dd _ h2
  obtain ⟨mA, hns, hr⟩ := hx
  obtain ⟨od, ho, hl⟩ := lookIn_ns hns
  obtain ⟨vs, hv⟩ := hf
  have J : PySem.W.InstAt s1.heap a oe C0 (some od) := ⟨hget, hz.1, by unfold PySem.W.notCls; rw [hv], by rw [hz.2]; exact ho⟩
  exact PySem.W.kia_one (PySem.W.kitx_exc T.cl T.ga T.gg T.bx T.ca T.sp T.tk T.ob) I1.kIn J hin (fun z => nomatch z) fun tk => ⟨.bl true, H1, I1.kept (t' := tk) fun _ _ z => z, rfl, kd_ret S (.bl true) k⟩
end
end BV
namespace BV
open PySem PySem.Spec PyProof.Rows L2 LamX
abbrev CXN : CXT := fun _ _ _ _ _ _ => False
abbrev EN : XK := fun _ _ _ => False
/-- the context of the def that gets the lambda -/
abbrev zcx (X : Cx) (Ng : List Str) (x : Str) (sg : Scope) (g : Addr) (cdg : Value) (s : Shared) (H : Hp) : Cx := cxOf CXN X.prog X.w X.K X.mg X.base Ng x sg g cdg X.A X.stack s H EN
section
variable {X : Cx} {pins : List (Addr × Obj)} {σ : L2.St} {H : Hp} {s : Shared}
/-- a(), in that def -/
theorem pe_ask {Ng : List Str} {x : Str} {sg : Scope} {g f c' : Addr} {cdg pm ctv : Value} {params : Arguments} {body : Expr} {scope : Scope} {k i : Nat} {a : Str} {pn : List (Addr × Obj)} {xe : Value → Shared → Prop} {W : WX} {fe : Rho → Cells → Res D} {p1 p2 : Pos}
    (I : Inv X pins σ H s) (L : LamS X.env.scope scope) (hf : s.heap.get? f = some (PySem.W.kla_obj "<lambda>" (X.env.qual ++ "<lambda>") params body scope (cloFrom X.env.cells scope.names []) pm c' ctv)) (hfn : H f = none) (hfr : f ∉ frs X.stack)
    (hbind : bindArgs (PySem.W.kla_fn "<lambda>" (X.env.qual ++ "<lambda>") params body scope (cloFrom X.env.cells scope.names []) pm (.ref c') ctv) ⟨[], []⟩ = pure [])
    (tk : Takes ((zcx X Ng x sg g cdg s H).tr pn xe) W) (hr : Room (k + 1) (X.A.deeper (envOfC x sg s.heap.objs.size g cdg))) (hgd : X.A.guards = some [])
    (hbody : ∀ (A : Around) (outer : List Env) (s : Shared) (H : Hp) (E : XK), A.guards = some [] → Room k (A.deeper (lamEnv X scope s.heap.objs.size f c')) → BE (lamCx X A outer s H E scope f c') (WF E) body fe)
    (hN : Ng[i]? = some a) (hv : Vis sg a) (hd : (a == ("__debug__" : Str)) = false := by decide) (hcd : (a == ("__classdict__" : Str)) = false := by decide) :
    PE ((zcx X Ng x sg g cdg s H).tr pn xe) (.Call (.Name a p1) [] [] p2)
      (fun σZ HZ Q => σZ[i]? = some (some (.ref f)) ∧ HZ c' = some (CodeO c' (X.env.qual ++ "<lambda>")) ∧ rE X.K X.mg (fun cls d _ H' => W cls d σZ H') fe σ HZ Q) := by
  refine ⟨fun pinsZ sZ σZ HZ Q IZ h => ?_⟩
  obtain ⟨hs, hc, ht⟩ := h
  refine wpAny_Call_Name_kw (thn ((pe_var (pos := p1) (i := i) hN hv hd hcd).run pinsZ sZ σZ HZ (fun v H1 => v = .ref f ∧ H1 = HZ) IZ ⟨.ref f, hs, rfl, rfl⟩) fun u s1 ⟨v, H1, I1, r1, q1⟩ => ?_)
  obtain ⟨rfl, rfl⟩ := q1
  obtain rfl : u = Value.ref f := r1
  have noE : f ∉ ([] : List Addr) := fun z => nomatch z
  have of1 := I1.base.keep f _ hf hfn hfr noE
  refine PySem.W.callWith_F0 ⟨_, _, _, _, of1⟩ ?_
  obtain ⟨⟨oc, vs, t, hoc, hdc, hvc⟩, _, _⟩ := I1.hok c' _ hc
  let A1 : Around := X.A.deeper (envOfC x sg s.heap.objs.size g cdg)
  let o1 : List Env := envOfC x sg s.heap.objs.size g cdg :: X.stack
  have rc : codeAny (model X.prog X.w) A1 (.call (.ref f) ⟨[], []⟩) (CR (L2.CX X.prog X.w) o1 X.prog X.w H1 s1 Q (WE W σZ)) s1 := by
    refine PySem.W.kla_callFunE hr.depth of1 rfl L.co L.gen rfl ⟨c', oc, vs, t, rfl, hoc, hdc, hvc⟩ ?_
    rw [hbind]
    refine wpAny_pure (wpAny_newFunctionEnv (fun y hy => (L.own y hy).2) (fun y hy => absurd hy (by simp)) (fun h₁ hns hsb => ⟨I1.nolimit.fresh _ hsb, ?_⟩) L.kind)
    have kp : ∀ b o, s1.heap.get? b = some o → h₁.get? b = some o := fun b o e => hsb.extBut b o (Nat.ne_of_lt (Heap.lt_size e)) (Heap.get?_push_of_some _ e)
    have J : Inv (lamCx X A1 o1 s1 H1 (WE W σZ) scope f c') [] σ H1 { s1 with heap := h₁, toks := s1.toks + ([] : List (Str × Value)).length } := lam_start2 I L I1.env0 hr.hd I1.base hns kp
    have hq := (hbody A1 o1 s1 H1 (WE W σZ) hgd (hr.deeper _)).run [] _ _ H1 Q J ht
    refine PySem.W.kla_codeExpr (wpAny_mono hq (fun v s' hq => ?_) fun e s' hq => hq)
    obtain ⟨w', H', J', rv, q⟩ := hq
    exact ⟨w', H', J'.os, J'.bare, J'.base, J'.hok, rv, q⟩
  refine wpAny_call (codeAny_mono rc fun r s' hq => ?_)
  cases r with
  | error e => exact passAt tk σZ pinsZ H1 s1 e s' I1 hq
  | ok fl =>
    cases fl with
    | ret u => exact I1.after hq
    | next => exact False.elim hq
    | brk => exact False.elim hq
    | cont => exact False.elim hq
/-- what the def makes of the lambda's end -/
def Gives (X : Cx) (Ng : List Str) (x : Str) (sg : Scope) (g : Addr) (cdg : Value) (bg : List Stmt) (a q : Str) (hd : Res D → Res D) : Prop :=
  ∀ (f : Addr) (P : Hp → Prop) (s : Shared) (H : Hp) (Q : VK) (σ : L2.St) (r : Res D) (fe : Rho → Cells → Res D) (ρ : Rho) (C : Cells) (μ : List Addr) (F : Hp), (zcx X Ng x sg g cdg s H).A.units + 65 < cLine → Sim X.K μ F C H → ERel X.K μ F ρ σ → P H → r = fe ρ C →
    (∀ (W : WX) (pn : List (Addr × Obj)) (xe : Value → Shared → Prop) (p1 p2 : Pos), Takes ((zcx X Ng x sg g cdg s H).tr pn xe) W →
      PE ((zcx X Ng x sg g cdg s H).tr pn xe) (.Call (.Name a p1) [] [] p2) (fun σZ HZ Q => σZ[0]? = some (some (.ref f)) ∧ P HZ ∧ rE X.K X.mg (fun cls d _ H' => W cls d σZ H') fe σ HZ Q)) →
    kd (RD X.K) X.K X.mg W0 (hd r) μ F σ H Q →
    ∃ t, PSs (zcx X Ng x sg g cdg s H).nox bg t ∧ t { nx := fun _ H' => Q .non H', rt := Q } (L2.start Ng [.ref f]) H
def fLam (q : Str) (P : Addr) (hd : Res D → Res D) (fe : Rho → Cells → Res D) : Rho → Cells → Res D := fun ρ C => if hasTab q P C then noX (hd (fe ρ C)) else .stuck
/-- x(lambda: body) -/
theorem be_lam {W : WX} {x a : Str} {g c P : Addr} {k : Nat} {pg : Arguments} {bg : List Stmt} {sg : Scope} {dV kV doc pm cdv ct oc : Value} {an od : Option Addr} {osl : Array (Option Value)} {Ng : List Str}
    {params : Arguments} {body : Expr} {scope : Scope} {hd : Res D → Res D} {fe : Rho → Cells → Res D} {p lpos pos : Pos} (hg : Gl X x) (hm : X.mg x = some (.ref g)) (hk : PySem.W.keepIn X.K (.ref g) = true)
    (lk : X.K.lookup g = some ⟨oc, od, .func (PySem.W.fnOf x x pg bg sg dV kV doc pm an cdv ct), osl⟩) (hcg : PySem.W.codeIn X.K cdv x = true) (hb : L2.Binds X.K (PySem.W.fnOf x x pg bg sg dV kV doc pm an cdv ct) [a] []) (Sg : FnScope Ng [a] sg) (hNg : Ng[0]? = some a) (hva : Vis sg a)
    (hG : Gives X Ng x sg g cdv bg a (X.env.qual ++ "<lambda>") hd)
    (TB : TabB X.base X.mg c P) (hcode : X.env.code = .ref c) (hr : Room (k + 2) X.A) (hgd : X.A.guards = some []) (L : LamS X.env.scope scope) (hdef : defaultsOf params X.env = ([], []))
    (hbind : ∀ (q : Str) (cl : List (Str × Addr)) (pm cv ctv : Value), bindArgs (PySem.W.kla_fn "<lambda>" q params body scope cl pm cv ctv) ⟨[], []⟩ = pure [])
    (hbody : ∀ (A : Around) (outer : List Env) (s : Shared) (H : Hp) (E : XK) (f c' : Addr), A.guards = some [] → Room k (A.deeper (lamEnv X scope s.heap.objs.size f c')) → BE (lamCx X A outer s H E scope f c') (WF E) body fe)
    (hdb : (x == ("__debug__" : Str)) = false := by decide) (hd1 : (a == ("__debug__" : Str)) = false := by decide) (hcd : (a == ("__classdict__" : Str)) = false := by decide) :
    BE X W (.Call (.Name x p) [.Lambda params body scope lpos] [] pos) (fLam (X.env.qual ++ "<lambda>") P hd fe) := by
  refine ⟨fun pins s σ H Q I h => ?_⟩
  obtain ⟨ρ, C, μ, F, S, E, k0⟩ := h
  unfold fLam at k0
  split at k0
  · rename_i ht
    refine wpAny_Call_Name_kw (ld_glob I hg hm ?_ hdb)
    refine PySem.W.callWith_K (h₀ := X.base) I.ok.mod.kin hk ?_ (by rfl) (by rfl)
    show wpAny _ _ (spliced ((false, eval (.Lambda params body scope lpos) X.env) :: [])) _ _ s
    refine Calls.spliced_cons (lam_made I TB hcode S ht hdef (L.has I.ok) fun f c' pm' ctv F1 H1 s' I1 S1 X1 hf hfn hfr hco => ?_)
    refine Calls.spliced_nil ⟨I1.kIn, ?_⟩
    have rc : codeAny (model X.prog X.w) X.A (.call (.ref g) ⟨[.ref f], []⟩) (CR CXN X.stack X.prog X.w H1 s' Q EN) s' := by
      refine run_ofS (N := Ng) (ps := [a]) (us := [.ref f]) (vs := [.ref f]) lk hcg Sg hr I1.env0 (hb s' [.ref f] I1.kIn rfl) (.cons rfl .nil) rfl fun hr' => ?_
      have k1 : kd (RD X.K) X.K X.mg W0 (hd (fe ρ C)) μ F1 σ H1 Q := by
        have k2 := kd_mono X1 k0
        cases q : hd (fe ρ C) with
        | ok v C1 =>
          rw [q] at k2
          exact k2
        | ex c0 p0 C1 =>
          rw [q] at k2
          exact k2.elim
        | stuck =>
          rw [q] at k2
          exact k2.elim
      obtain ⟨t', ht', hq'⟩ := hG f (fun H => H c' = some (CodeO c' (X.env.qual ++ "<lambda>"))) s' H1 Q σ _ fe ρ C μ F1 (Nat.lt_of_le_of_lt (show (X.A.deeper (envOfC x sg s'.heap.objs.size g cdv)).units + 65 ≤ (X.A.deeper (envOfC x sg s'.heap.objs.size g cdv)).units + 16 * (k + 1) + 200 by omega) hr'.un) S1 (X1.env E) (S1.sub _ _ hco) rfl (fun W pn xe p1 p2 tk => pe_ask (i := 0) I1 L hf hfn hfr (hbind _ _ _ _ _) tk hr' hgd (fun A outer s H E2 hg2 hr2 => hbody A outer s H E2 f c' hg2 hr2) hNg hva hd1 hcd) k1
      exact ⟨t', ht'.nox, hq'⟩
    refine wpAny_call (codeAny_mono rc fun r s2 hq => ?_)
    cases r with
    | error e => exact (show False from hq).elim
    | ok fl =>
      cases fl with
      | ret u => exact I1.after hq
      | next => exact False.elim hq
      | brk => exact False.elim hq
      | cont => exact False.elim hq
  · exact k0.elim
end
end BV
namespace BV
open PySem PySem.Spec PyProof.Rows L2 LamX
/-! ### defs that ask, and tell what came of it -/
/-- what is told of a value; what of an error of the class c -/
inductive SH where
  | told (tag : Str) | shown (tag : Str) | none
def shD (sh : SH) (v : D) (C : Cells) : Res D := match sh with
  | .told tag => .ok (.tup [.str tag, v]) C
  | .shown tag => (oRepr [v] C).bind fun w C1 => .ok (.tup [.str tag, w]) C1
  | .none => .ok .non C
def hdD (sh : SH) (c : Str) (its : List HI) (r : Res D) : Res D := match r with
  | .ok v C => shD sh v C
  | .ex c' p C => if c' = c then (hisD p its C).bind fun xs C1 => if xs.length ≤ 1000 then .ok (.tup xs) C1 else .stuck else .stuck
  | .stuck => .stuck
/-- the caught class, as the written part has it -/
structure ErrH (K : PySem.W.Frag) (mg : Str → Option Value) (c : Str) (C0 : Addr) : Prop where
  m : mg c = some (.ref C0)
  i : ErrI K C0
  noF : PySem.W.findIn K (.ref C0) (exF c) = some none
  te : PySem.W.exmOne K (.ref C0) (.ref C0) = some true
theorem pss_cond {X : Cx} {P : Prop} {b : List Stmt} {t : TS} (h : P → PSs X b t) : PSs X b (fun D σ H => P ∧ t D σ H) := ⟨fun pins s σ H D I q => (h q.1).run pins s σ H D I q.2⟩
section
variable {X : Cx} {Ng : List Str} {x n a c tag : Str} {sg : Scope} {g C0 : Addr} {cdg : Value} {q : Str} {i : Nat} {its : List HI} {es : List Expr} {j1 j2 : Nat} {p1 p2 p3 p4 p5 p6 p7 p8 p9 pA pB pC : Pos}
/-- the handler's part, in all of them -/
structure HandB (X : Cx) (Ng : List Str) (x n a c : Str) (sg : Scope) (g C0 : Addr) (cdg : Value) (i : Nat) (es : List Expr) (its : List HI) (f : Str) : Prop where
  ef : exF c = f
  eh : ErrH X.K X.mg c C0
  nd : Ng.Nodup
  gl : sg.names.lookup c = some .globalImplicit
  db : (c == ("__debug__" : Str)) = false
  hi : Ng[i]? = some n
  hl : sg.names.lookup n = some .local
  lt : i < (L2.start Ng [V.ref 0]).length
  h0 : ∀ f : Addr, (L2.start Ng [V.ref f])[0]? = some (some (V.ref f))
  it : ∀ (s : Shared) (H : Hp) (a : Addr) (oe : Obj) (cls : Value) (d : Option Addr) (pn : List (Addr × Obj)), (zcx X Ng x sg g cdg s H).A.units + 65 < cLine → Zc cls d oe → cls = .ref C0 → (∃ vs, oe.data = .fields vs) → PA ((zcx X Ng x sg g cdg s H).nox.suite a ((a, oe) :: pn)) es (rHIs X.K X.mg a d i f its)
theorem start_len (Ng : List Str) (v w : V) : (L2.start Ng [v]).length = (L2.start Ng [w]).length := by simp [L2.start]
/-- the wish of the clause holds of an error that the lambda lets out -/
theorem clause_ok {Q : VK} {f : Addr} {K : PySem.W.Frag} {mg : Str → Option Value} (eh : ErrH K mg c C0) (lt : i < (L2.start Ng [V.ref f]).length) {c' : Str} {p : D} {C1 : Cells} {μ : List Addr} {F H : Hp} {σ : L2.St} {D : Ends} (hD : ∀ v H, D.rt v H = Q v H)
    (k : kd (RD K) K mg W0 (if c' = c then (hisD p its C1).bind fun xs C1 => if xs.length ≤ 1000 then .ok (.tup xs) C1 else .stuck else .stuck) μ F σ H Q) :
    ∀ cls dx μ' F' H', Ext μ F H μ' F' H' → Sim K μ' F' C1 H' → XRep K mg μ' F' H' c' p cls dx →
      wAs K (.ref C0) i (fun a cls d => fun D σ H => cls = .ref C0 ∧ tRet (tTup (rHIs K mg a d i (exF c) its)) D σ H) W0 D cls dx (L2.start Ng [V.ref f]) H' := by
  split at k
  · rename_i ec
    subst ec
    intro cls dx μ' F' H' x1 s1 xr
    obtain ⟨h1, dd, v, h2, h3, h4, h5⟩ := xr
    rw [eh.m] at h1
    cases h1
    refine ⟨true, eh.te, fun _ a ha => ⟨rfl, p, C1, μ', F', s1, ⟨by rw [List.getElem?_set_self lt], dd, v, h2, h3, h5, h4⟩, ?_⟩, fun z => Bool.noConfusion z⟩
    refine kd_bind (kd_mono x1 k) fun xs C2 vs μ2 F2 H2 x2 s2 r2 h6 => ?_
    split at h6
    · rename_i hz
      have hl : vs.length ≤ sizeLine := by
        rw [r2.length, sizeLine_eq]
        omega
      refine ⟨hl, fun pp hp => ?_⟩
      show D.rt _ _
      rw [hD]
      exact kd_mkT s2 hp r2 h6
    · exact h6.elim
  · exact k.elim
/-- try: return (tag, a()) / except c as n: return (..) -/
theorem gives_told {fn : Str} (B : HandB X Ng x n a c sg g C0 cdg i es its fn) :
    Gives X Ng x sg g cdg [.Try [.Return (some (.Tuple [.Constant (.str tag) j1 p1, .Call (.Name a p2) [] [] p3] j2 p4)) p5] [.ExceptHandler (some (.Name c p6)) (some n) [.Return (some (.Tuple es j2 p7)) p8] p9] [] [] pA] a q (hdD (.told tag) c its) := by
  intro f P s H Q σ r fe ρ C μ F hu S E hc hr ask k
  subst hr
  have eh := B.eh
  have ef := B.ef
  subst ef
  refine ⟨_, pss_one (ps_try_as (X := (zcx X Ng x sg g cdg s H).nox) (i := i) (c := .ref C0) (Wout := W0)
    (tb := fun W => tRet (tTup (tCons (tC (.str tag)) (tCons (fun σZ HZ Q => σZ[0]? = some (some (.ref f)) ∧ P HZ ∧ rE X.K X.mg (fun cls d _ H' => W cls d σZ H') fe σ HZ Q) tNil))))
    (ts := fun a cls d => fun D σ H => cls = .ref C0 ∧ tRet (tTup (rHIs X.K X.mg a d i (exF c) its)) D σ H) rfl rfl B.nd B.hi B.hl ⟨B.gl, B.db, .inl eh.m⟩ L2.takes0
    (fun W pn xe tk _ => pss_one (ps_ret (pe_tup (pa_cons pe_str (pa_cons (ask W pn xe p2 p3 tk) pa_nil)))))
    (fun a oe cls d pn hz hf => pss_cond fun ec => pss_one (ps_ret (pe_tup (B.it s H a oe cls d pn hu hz ec hf))))), ?_⟩
  refine ⟨B.h0 f, hc, ρ, C, μ, F, S, E, ?_⟩
  cases hr : fe ρ C with
  | stuck =>
    rw [hr] at k
    exact k
  | ok v C1 =>
    rw [hr] at k
    intro w μ' F' H' x1 s1 r1
    refine ⟨by rw [sizeLine_eq]; exact (show 2 ≤ 16777216 by decide), fun pp hp => ?_⟩
    exact kd_mkT s1 hp (.cons (.str tag) (.cons r1 .nil)) (kd_mono x1 k)
  | ex c1 p C1 =>
    rw [hr] at k
    exact clause_ok (D := { nx := fun _ H' => Q .non H', rt := Q }) (f := f) eh (by rw [start_len Ng (.ref f) (.ref 0)]; exact B.lt) (fun _ _ => rfl) k
/-- try: return (tag, repr(a())) / except c as n: return (..) -/
theorem gives_shown {fn : Str} (B : HandB X Ng x n a c sg g C0 cdg i es its fn) (hgd : X.A.guards = some []) (hrp : sg.names.lookup ("repr" : Str) = some .globalImplicit) (hmr : X.mg "repr" = none) :
    Gives X Ng x sg g cdg [.Try [.Return (some (.Tuple [.Constant (.str tag) j1 p1, .Call (.Name "repr" pB) [.Call (.Name a p2) [] [] p3] [] pC] j2 p4)) p5] [.ExceptHandler (some (.Name c p6)) (some n) [.Return (some (.Tuple es j2 p7)) p8] p9] [] [] pA] a q (hdD (.shown tag) c its) := by
  intro f P s H Q σ r fe ρ C μ F hu S E hc hr ask k
  subst hr
  have eh := B.eh
  have ef := B.ef
  subst ef
  let rr : List V → Hp → VK → Prop := fun xs H Q => ∃ x p, xs = [x] ∧ Dp X.K H x p ∧ SeqAt.shaped p = true ∧ p.showable = true ∧ p.shown.length ≤ sizeLine ∧ Q (.str p.shown) H
  refine ⟨_, pss_one (ps_try_as (X := (zcx X Ng x sg g cdg s H).nox) (i := i) (c := .ref C0) (Wout := W0)
    (tb := fun W => tRet (tTup (tCons (tC (.str tag)) (tCons (tCB rr (tCons (fun σZ HZ Q => σZ[0]? = some (some (.ref f)) ∧ P HZ ∧ rE X.K X.mg (fun cls d _ H' => W cls d σZ H') fe σ HZ Q) tNil)) tNil))))
    (ts := fun a cls d => fun D σ H => cls = .ref C0 ∧ tRet (tTup (rHIs X.K X.mg a d i (exF c) its)) D σ H) rfl rfl B.nd B.hi B.hl ⟨B.gl, B.db, .inl eh.m⟩ L2.takes0
    (fun W pn xe tk _ => pss_one (ps_ret (pe_tup (pa_cons pe_str (pa_cons (pe_callB (X := (zcx X Ng x sg g cdg s H).tr pn xe) (call_reprD hgd hu) hrp hmr bb_repr (pa_cons (ask W pn xe p2 p3 tk) pa_nil)) pa_nil)))))
    (fun a oe cls d pn hz hf => pss_cond fun ec => pss_one (ps_ret (pe_tup (B.it s H a oe cls d pn hu hz ec hf))))), ?_⟩
  refine ⟨B.h0 f, hc, ρ, C, μ, F, S, E, ?_⟩
  cases hr : fe ρ C with
  | stuck =>
    rw [hr] at k
    exact k
  | ok v C1 =>
    rw [hr] at k
    intro w μ' F' H' x1 s1 r1
    have k1 := kd_mono x1 k
    unfold hdD shD oRepr at k1
    simp only at k1
    split at k1
    · rename_i pd e
      split at k1
      · rename_i z
        refine ⟨w, pd, rfl, toPyC_dp s1 e r1, z.1, z.2.1, z.2.2, by rw [sizeLine_eq]; exact (show 2 ≤ 16777216 by decide), fun pp hp => ?_⟩
        exact kd_mkT s1 hp (.cons (.str tag) (.cons (.str _) .nil)) k1
      · exact k1.elim
    · exact k1.elim
  | ex c1 p C1 =>
    rw [hr] at k
    exact clause_ok (D := { nx := fun _ H' => Q .non H', rt := Q }) (f := f) eh (by rw [start_len Ng (.ref f) (.ref 0)]; exact B.lt) (fun _ _ => rfl) k
/-- try: a() / except c as n: return (..) / return None -/
theorem gives_none {fn : Str} (B : HandB X Ng x n a c sg g C0 cdg i es its fn) :
    Gives X Ng x sg g cdg [.Try [.Expr (.Call (.Name a p2) [] [] p3) p5] [.ExceptHandler (some (.Name c p6)) (some n) [.Return (some (.Tuple es j2 p7)) p8] p9] [] [] pA, .Return (some (.Constant .none j1 p1)) p4] a q (hdD .none c its) := by
  intro f P s H Q σ r fe ρ C μ F hu S E hc hr ask k
  subst hr
  have eh := B.eh
  have ef := B.ef
  subst ef
  refine ⟨_, pss_cons (ps_try_as (X := (zcx X Ng x sg g cdg s H).nox) (i := i) (c := .ref C0) (Wout := W0)
    (tb := fun W => tDrop (fun σZ HZ Q => σZ[0]? = some (some (.ref f)) ∧ P HZ ∧ rE X.K X.mg (fun cls d _ H' => W cls d σZ H') fe σ HZ Q))
    (ts := fun a cls d => fun D σ H => cls = .ref C0 ∧ tRet (tTup (rHIs X.K X.mg a d i (exF c) its)) D σ H) rfl rfl B.nd B.hi B.hl ⟨B.gl, B.db, .inl eh.m⟩ L2.takes0
    (fun W pn xe tk _ => pss_one (ps_expr (ask W pn xe p2 p3 tk)))
    (fun a oe cls d pn hz hf => pss_cond fun ec => pss_one (ps_ret (pe_tup (B.it s H a oe cls d pn hu hz ec hf))))) (pss_one (ps_ret pe_non)), ?_⟩
  refine ⟨B.h0 f, hc, ρ, C, μ, F, S, E, ?_⟩
  cases hr : fe ρ C with
  | stuck =>
    rw [hr] at k
    exact k
  | ok v C1 =>
    rw [hr] at k
    intro w μ' F' H' x1 s1 r1
    have k1 : kd (RD X.K) X.K X.mg W0 (Res.ok D.non C1) μ F σ H Q := k
    have k2 := kd_mono x1 k1
    show Q V.non H'
    exact kd_ret s1 Rep.non k2
  | ex c1 p C1 =>
    rw [hr] at k
    exact clause_ok (f := f) eh (by rw [start_len Ng (.ref f) (.ref 0)]; exact B.lt) (fun _ _ => rfl) k
end
end BV
namespace BV
open PySem PySem.Spec PyProof.Rows L2 LamX
/-! ### defs that make lambdas: their code object is named -/
structure FunC (K : PySem.W.Frag) (x : Str) (st : Stmt) (f : Addr) (fd : FuncData) (c : Addr) : Prop where
  ex : ∃ (oc : Value) (od : Option Addr) (kV doc pm : Value) (an : Option Addr) (ct : Value) (osl : Array (Option Value)),
    fd = PySem.W.fnOf x x (defArgs st) (defBody st) (defScope st) .none kV doc pm an (.ref c) ct ∧ K.lookup f = some ⟨oc, od, .func fd, osl⟩ ∧ PySem.W.codeIn K (.ref c) x = true
section
variable {P : Program} {w : World} {K : PySem.W.Frag} {mg : Str → Option Value} {base : Heap}
theorem fnG_ofC {x : Str} {st : Stmt} {f c : Addr} {fd : FuncData} {N ps : List Str} {k : Nat} {sp : Sp} (G : FunC K x st f fd c) (S : FnScope N ps (defScope st)) (len : ∀ vs H Q E, sp vs H Q E → vs.length = ps.length)
    (body : ∀ (A : Around) (outer : List Env) (s : Shared) (H : Hp) (vs : List V) (Q : VK) (E : XK), A.guards = some [] → Room k (A.deeper (envOfC x (defScope st) s.heap.objs.size f (.ref c))) → sp vs H Q E →
      ∃ t, PSs (BX P w K mg base N x (defScope st) f (.ref c) A outer s H E) (defBody st) t ∧ t { nx := fun _ H' => Q .non H', rt := Q } (L2.start N vs) H) : FnG P w K mg base (k + 1) f fd ps sp := by
  obtain ⟨oc, od, kV, doc, pm, an, ct, osl, rfl, look, code⟩ := G.ex
  refine ⟨len, fun A outer s H args us vs Q E gd room e0 bind rel want => ?_⟩
  have inS : K.In s.heap := e0.mod.kin.keeps fun b o q => (e0.bs b o q).1
  have noLim : s.heap.NoLimit := e0.mod.nolimit.keeps fun b o q => (e0.bs b o q).1
  have kinds : ∀ y ∈ ps.zip us, (defScope st).names.lookup y.1 = some .local ∨ ((defScope st).names.lookup y.1 = some .cell ∧ ((cellsFrom (s.heap.objs.size + 1) (defScope st).names []).lookup y.1).isSome = true) := by
    rintro ⟨n, v⟩ hy
    cases S.par n (List.of_mem_zip hy).1 with
    | inl q => exact .inl q
    | inr q => exact .inr ⟨q, PySem.W.cellsFrom_some _ _ _ (.inl q)⟩
  refine codeAny_call_function room.depth (inS _ _ look) rfl S.co S.gen rfl (PySem.W.codeRec_of inS code) (bind _ _ _ _ (wpAny_newFunctionEnv_cells S.kind kinds fun env henv s1 hs1 => ?_))
  subst henv
  refine ⟨noLim.keeps hs1.toInCall.keep, codeAny_func ?_⟩
  obtain ⟨t, ht, hq⟩ := body A outer s H vs Q E gd (room.deeper _) want
  have I := inv_start (CX := L2.CX P w) (N := N) (f := f) (E := E) S room.hd e0 (len _ _ _ _ want) rel hs1
  refine wpAny_mono (ht.run [] s1 (L2.start N vs) H _ I hq) (fun fl s' h' => ?_) fun e s' h' => h'
  cases fl with
  | brk => exact h'.elim fun _ z => z.elim fun _ z => z.2.elim
  | cont => exact h'.elim fun _ z => z.elim fun _ z => z.2.elim
  | next =>
    obtain ⟨σ', H', J, q⟩ := h'
    exact ⟨.non, H', J.os, J.bare, J.base, J.hok, rfl, q⟩
  | ret u =>
    obtain ⟨v, σ', H', J, r, q⟩ := h'
    exact ⟨v, H', J.os, J.bare, J.base, J.hok, r, q⟩
theorem fnG_denC {x : Str} {st : Stmt} {f c : Addr} {fd : FuncData} {N ps : List Str} {k : Nat} (m : Bool) {fb : Rho → Cells → Out} (G : FunC K x st f fd c) (S : FnScope N ps (defScope st)) (hps : ps.length ≤ N.length)
    (body : ∀ (A : Around) (outer : List Env) (s : Shared) (H : Hp) (E : XK), A.guards = some [] → Room k (A.deeper (envOfC x (defScope st) s.heap.objs.size f (.ref c))) →
      BSs (BX P w K mg base N x (defScope st) f (.ref c) A outer s H E) (WF E) (defBody st) fb) : FnG P w K mg base (k + 1) f fd ps (spD K mg ps.length (denF m ps.length N.length fb)) := by
  exact fnG_ofC G S (fun vs H Q E h => h.1) fun A outer s H vs Q E gd room h => ⟨_, body A outer s H E gd room, den_enters hps h⟩
end
section
variable {X : Cx} {W : WX}
/-- x(lambda: e), of a def of the text -/
theorem be_lamD {x a q : Str} {st : Stmt} {g c P : Addr} {fd : FuncData} {k : Nat} {Ng : List Str} {params : Arguments} {body : Expr} {scope : Scope} {hd : Res D → Res D} {fe : Rho → Cells → Res D} {p lpos pos : Pos}
    (Da : DefAt X.K X.mg x st [a] g fd) (Sg : FnScope Ng [a] (defScope st)) (hG : ∀ cdv : Value, Gives X Ng x (defScope st) g cdv (defBody st) a q hd) (TB : TabB X.base X.mg c P) (hr : Room (k + 2) X.A) (hgd : X.A.guards = some []) (L : LamS X.env.scope scope)
    (hbody : ∀ (A : Around) (outer : List Env) (s : Shared) (H : Hp) (E : XK) (f c' : Addr), A.guards = some [] → Room k (A.deeper (lamEnv X scope s.heap.objs.size f c')) → BE (lamCx X A outer s H E scope f c') (WF E) body fe)
    (hg : Gl X x := by rfl) (hNg : Ng[0]? = some a := by rfl) (hva : Vis (defScope st) a := by first | exact .inl rfl | exact .inr (.inl rfl)) (hq : X.env.qual ++ "<lambda>" = q := by rfl) (hcode : X.env.code = .ref c := by rfl) (hdef : defaultsOf params X.env = ([], []) := by rfl)
    (hbind : ∀ (q : Str) (cl : List (Str × Addr)) (pm cv ctv : Value), bindArgs (PySem.W.kla_fn "<lambda>" q params body scope cl pm cv ctv) ⟨[], []⟩ = pure [] := by intros; rfl)
    (hdb : (x == ("__debug__" : Str)) = false := by decide) (hd1 : (a == ("__debug__" : Str)) = false := by decide) (hcd : (a == ("__classdict__" : Str)) = false := by decide) :
    BE X W (.Call (.Name x p) [.Lambda params body scope lpos] [] pos) (fLam q P hd fe) := by
  subst hq
  obtain ⟨oc, od, kV, doc, pm, an, cdv, ct, osl, rfl, look, code⟩ := Da.F.ex
  exact be_lam hg Da.m Da.F.kp look code Da.b Sg hNg hva (hG cdv) TB hcode hr hgd L hdef hbind hbody hdb hd1 hcd
end
/-! ### the facts of an error class, from what stands behind the top -/
section
theorem errP_mk {prog : Program} {K : PySem.W.Frag} {h : Heap} {mg : Str → Option Value} {c f : Str} {C fI cc cda : Addr} {st : Stmt} {p msg qual nm q : Str} {N : Addr} {bs bm : List Value} {sn : List Str} {sub : List Value} {ab : Bool} {col : Option Bool} {dd : Option Addr} {k0 k1 k2 k3 k5 : Option Value}
    {dV kV doc pm ct oc : Value} {an od : Option Addr} {osl : Array (Option Value)} {ccl cl : Value} {cdd cld : Option Addr} {ccs csl : Array (Option Value)} {vs : Array Value} {file : Str} {tf : Tok}
    (ef : exF c = f) (X : K.In h) (G : h.Ns mainGlobals mg) (T : ErrT prog st f p msg)
    (n : PySem.W.nsIn K mainGlobals c = some (some (.ref C))) (lC : K.lookup C = some (excClassObj nm q C N bs bm true sn sub ab col dd k0 k1 k2 k3 k5 "ValueError.__new__")) (vbm : PySem.HandSPX.refsVE bm = true)
    (sa : PySem.W.findIn K (.ref C) "__setattr__" = some (some (.builtin "object.__setattr__"))) (exC : PySem.W.subIn K (.ref C) (.type "BaseException") = some true) (tyC : PySem.W.typeIn K (.ref C) = some (.type "type")) (kC : PySem.W.keepIn K (.ref C) = true)
    (vB : PySem.W.subIn K (.ref C) (.type "ValueError") = some true) (up : PySem.W.ks_superIn K C C "__init__" = some (some (.builtin "ValueError.__init__"))) (slf : PySem.W.mroIn K C (.ref C) = some true) (noF : PySem.W.findIn K (.ref C) f = some none)
    (op : PySem.W.nsIn K cStatics "thirdparty.any" = some none) (sup : PySem.W.nsIn K mainGlobals "super" = some none) (iC : PySem.W.findIn K (.ref C) "__init__" = some (some (.ref fI))) (tI : PySem.W.typeIn K (.ref fI) = some (.type "function"))
    (lI : K.lookup fI = some ⟨oc, od, .func (PySem.W.ksFn "__init__" qual (defArgs st) (defBody st) (defScope st) dV kV doc pm an (.ref cda) ct cc), osl⟩) (cI : PySem.W.codeIn K (.ref cda) qual = true)
    (lcda : K.lookup cda = some ⟨ccl, cdd, .fields vs, ccs⟩) (hvs : vs[2]? = some (.str file tf)) (hfile : ((prog.main.file : Str) == file) = true) (lcc : K.lookup cc = some ⟨cl, cld, .cell (some (.ref C)), csl⟩)
    (hb : ∀ us : List Value, us.length = ([("self" : Str), p] : List Str).length → bindArgs (PySem.W.ksFn "__init__" qual (defArgs st) (defBody st) (defScope st) dV kV doc pm an (.ref cda) ct cc) ⟨us, []⟩ = pure (([("self" : Str), p] : List Str).zip us)) : ErrP prog K mg c := by
  subst ef
  exact ⟨C, fI, cc, cda, _, st, p, msg, qual, PySem.W.mg_of X G n, T, ⟨⟨dV, kV, doc, pm, ct, oc, an, od, osl, rfl, lI⟩, cI, ⟨ccl, cdd, ccs, vs, file, tf, lcda, hvs, hfile⟩, ⟨cl, cld, csl, lcc⟩⟩,
    ⟨⟨⟨nm, q, N, bs, bm, sn, sub, ab, col, dd, k0, k1, k2, k3, k5, lC, vbm⟩, sa, exC, tyC, kC⟩, vB, up, slf, noF, op, sup⟩, iC, tI, .all hb⟩
theorem errH_mk {K : PySem.W.Frag} {h : Heap} {mg : Str → Option Value} {c f : Str} {C : Addr} (ef : exF c = f) (X : K.In h) (G : h.Ns mainGlobals mg) (n : PySem.W.nsIn K mainGlobals c = some (some (.ref C))) (noF : PySem.W.findIn K (.ref C) f = some none)
    (exC : PySem.W.subIn K (.ref C) (.type "BaseException") = some true) (cl : (PySem.W.clsIn K C).isSome = true) (ga : PySem.W.findIn K (.ref C) "__getattribute__" = some (some (.builtin "BaseException.__getattribute__"))) (gg : PySem.W.findIn K (.ref C) "__getattr__" = some none)
    (hd : PySem.W.hasDictIn K C = true) (ca : PySem.W.findIn K (.ref C) "__class__" = some (some (.builtin "object.__class__"))) (sp : PySem.W.specialIn K (.builtin "object.__class__") "__get__" = some (some (.builtin "getset_descriptor.__get__"))) (tk : PySem.W.takesIn K (.builtin "object.__class__") = some true)
    (ob : PySem.W.mroIn K C (.type "object") = some true) (te : PySem.W.exmOne K (.ref C) (.ref C) = some true) : ErrH K mg c C := by
  subst ef
  exact ⟨PySem.W.mg_of X G n, ⟨cl, ga, gg, exC, hd, ca, sp, tk, ob⟩, noF, te⟩
end
end BV
namespace BV
open PySem PySem.Spec PyProof.Rows L2
/-! ### a < b < c < d -/
def chain3D (o1 o2 o3 : D → D → Cells → Res D) (f g h l : Rho → Cells → Res D) : Rho → Cells → Res D := fun ρ C => (f ρ C).bind fun x C1 => (g ρ C1).bind fun y C2 => (o1 x y C2).bind fun z C3 => bl3 z
  ((h ρ C3).bind fun w C4 => (o2 y w C4).bind fun z2 C5 => bl3 z2 ((l ρ C5).bind fun u C6 => o3 w u C6) (.ok (.bl false) C5) .stuck) (.ok (.bl false) C3) .stuck
@[simp] theorem e_chain3 (o1 o2 o3 : D → D → Cells → Res D) (f g h l : Rho → Cells → Res D) (ρ : Rho) (C : Cells) : chain3D o1 o2 o3 f g h l ρ C = (f ρ C).bind fun x C1 => (g ρ C1).bind fun y C2 => (o1 x y C2).bind fun z C3 => bl3 z
  ((h ρ C3).bind fun w C4 => (o2 y w C4).bind fun z2 C5 => bl3 z2 ((l ρ C5).bind fun u C6 => o3 w u C6) (.ok (.bl false) C5) .stuck) (.ok (.bl false) C3) .stuck := rfl
def tChain3 (r1 r2 r3 : R2) (ta tb tc td : TE) : TE := fun σ H Q => ta σ H fun x H1 => tb σ H1 fun y H2 => r1 x y H2 fun z H3 => ∃ k, z = .bl k ∧ (if k = true then
  tc σ H3 (fun w H4 => r2 y w H4 fun z2 H5 => ∃ k2, z2 = .bl k2 ∧ (if k2 = true then td σ H5 (fun u H6 => r3 w u H6 Q) else Q (.bl false) H5)) else Q (.bl false) H3)
section
variable {X : Cx} {W : WX} {a b c d : Expr} {ta tb tc td : TE} {op1 op2 op3 : CmpOp} {r1 r2 r3 : R2} {pos : Pos} {f g h l : Rho → Cells → Res D}
theorem pe_chain3 (h1 : OpR X (compareOp op1) r1) (h2 : OpR X (compareOp op2) r2) (h3 : OpR X (compareOp op3) r3) (ha : PE X a ta) (hb : PE X b tb) (hc : PE X c tc) (hd : PE X d td)
    (hm : lastMarks [op1, op2, op3] [b, c, d] = false) : PE X (.Compare a [op1, op2, op3] [b, c, d] pos) (tChain3 r1 r2 r3 ta tb tc td) := by
  refine ⟨fun pins s σ H Q I h => ?_⟩
  refine Compare_chain ?_ hm
  refine thn (ha.run pins s σ H _ I h) fun v s1 ⟨x, H1, I1, e1, q1⟩ => ?_
  refine chain_link (thn (hb.run pins s1 σ H1 _ I1 q1) fun u s2 ⟨y, H2, I2, e2, q2⟩ => ?_)
  refine thn (h1 pins s2 σ H2 x y v u _ I2 e1 e2 q2) fun t s3 ⟨z, H3, I3, e3, k, ez, q3⟩ => ?_
  subst ez
  cases e3
  refine wpAny_truthy_bool ?_
  cases k with
  | false => exact ite_ff ⟨.bl false, H3, I3, rfl, q3⟩
  | true =>
    refine ite_tt (chain_link (thn (hc.run pins s3 σ H3 _ I3 q3) fun w s4 ⟨z4, H4, I4, e4, q4⟩ => ?_))
    refine thn (h2 pins s4 σ H4 y z4 u w _ I4 e2 e4 q4) fun t5 s5 ⟨z5, H5, I5, e5, k5, ez5, q5⟩ => ?_
    subst ez5
    cases e5
    refine wpAny_truthy_bool ?_
    cases k5 with
    | false => exact ite_ff ⟨.bl false, H5, I5, rfl, q5⟩
    | true => exact ite_tt (chain_last (thn (hd.run pins s5 σ H5 _ I5 q5) fun w6 s6 ⟨z6, H6, I6, e6, q6⟩ => h3 pins s6 σ H6 z4 z6 w w6 Q I6 e4 e6 q6))
theorem be_chain3 {o1 o2 o3 : D → D → Cells → Res D} (h1 : OpB X W (compareOp op1) o1) (h2 : OpB X W (compareOp op2) o2) (h3 : OpB X W (compareOp op3) o3) (ha : BE X W a f) (hb : BE X W b g) (hc : BE X W c h) (hd : BE X W d l)
    (hm : lastMarks [op1, op2, op3] [b, c, d] = false := by with_unfolding_all rfl) : BE X W (.Compare a [op1, op2, op3] [b, c, d] pos) (chain3D o1 o2 o3 f g h l) := by
  obtain ⟨r1, e1, k1⟩ := h1
  obtain ⟨r2, e2, k2⟩ := h2
  obtain ⟨r3, e3, k3⟩ := h3
  refine peI (pe_chain3 e1 e2 e3 ha hb hc hd hm) ?_
  rintro σ H Q ⟨ρ, C, μ, F, S, E, k⟩
  refine ⟨ρ, C, μ, F, S, E, kd_bind k fun d1 C1 v1 μ1 F1 H1 x1 s1 q1 z1 => ?_⟩
  refine ⟨ρ, C1, μ1, F1, s1, x1.env E, kd_bind z1 fun d2 C2 v2 μ2 F2 H2 x2 s2 q2 z2 => ?_⟩
  refine k1 d1 d2 C2 v1 v2 μ2 F2 H2 σ _ s2 (x2.rep q1) q2 (kd_bind z2 fun d3 C3 v3 μ3 F3 H3 x3 s3 q3 z3 => ?_)
  cases d3 with
  | bl b1 =>
    cases q3
    refine ⟨b1, rfl, ?_⟩
    cases b1 with
    | false =>
      rw [if_neg Bool.false_ne_true]
      exact kd_ret s3 (.bl false) z3
    | true =>
      rw [if_pos rfl]
      have E3 := x3.env (x2.env (x1.env E))
      refine ⟨ρ, C3, μ3, F3, s3, E3, kd_bind z3 fun d4 C4 v4 μ4 F4 H4 x4 s4 q4 z4 => ?_⟩
      refine k2 d2 d4 C4 v2 v4 μ4 F4 H4 σ _ s4 (x4.rep (x3.rep q2)) q4 (kd_bind z4 fun d5 C5 v5 μ5 F5 H5 x5 s5 q5 z5 => ?_)
      cases d5 with
      | bl b2 =>
        cases q5
        refine ⟨b2, rfl, ?_⟩
        cases b2 with
        | false =>
          rw [if_neg Bool.false_ne_true]
          exact kd_ret s5 (.bl false) z5
        | true =>
          rw [if_pos rfl]
          refine ⟨ρ, C5, μ5, F5, s5, x5.env (x4.env E3), kd_bind z5 fun d6 C6 v6 μ6 F6 H6 x6 s6 q6 z6 => ?_⟩
          exact k3 d4 d6 C6 v4 v6 μ6 F6 H6 σ Q s6 (x6.rep (x5.rep q4)) q6 z6
      | _ => exact z5.elim
  | _ => exact z3.elim
end
/-! ### list(range(a, b, c)), c above 0 -/
def rgN (i j k : Int) : Nat := if i < j then ((j - i - 1) / k + 1).toNat else 0
def rgCV (i k : Int) (n : Nat) : List V := (List.range n).map fun t => V.int (i + (t : Nat) * k)
def rgC (i k : Int) (n : Nat) : List D := (List.range n).map fun (t : Nat) => D.int (i + (t : Nat) * k)
def RgCOk (i j k : Int) : Prop := 0 < k ∧ k < 2 ^ 30 ∧ -(2 ^ 40) ≤ i ∧ i ≤ 2 ^ 40 ∧ -(2 ^ 40) ≤ j ∧ j ≤ 2 ^ 40 ∧ rgN i j k ≤ 2 ^ 20
instance (i j k : Int) : Decidable (RgCOk i j k) := by unfold RgCOk; infer_instance
theorem reps_rgC {K : PySem.W.Frag} {μ : List Addr} {F : Hp} (i k : Int) (n : Nat) : Reps K μ F (rgCV i k n) (rgC i k n) := by
  unfold rgCV rgC
  induction List.range n with
  | nil => exact .nil
  | cons t ts ih => exact .cons (.int _) ih
theorem rgN_size {i j k : Int} (h : 0 < k) : Builtin.Range.rangeSize i j k = (rgN i j k : Nat) := by
  unfold Builtin.Range.rangeSize rgN
  rw [if_pos h]
  split
  · have : 0 ≤ (j - i - 1) / k := Int.ediv_nonneg (by omega) (by omega)
    omega
  · rfl
theorem rgN_le {i j k : Int} (h : 0 < k) : (rgN i j k : Int) ≤ (if i < j then j - i else 0) := by
  unfold rgN
  split
  · have h0 : 0 ≤ (j - i - 1) / k := Int.ediv_nonneg (by omega) (by omega)
    have h1 : (j - i - 1) / k ≤ j - i - 1 := Int.ediv_le_self _ (by omega)
    omega
  · exact Int.le_refl _
theorem small_C {i j k : Int} (h : RgCOk i j k) : Builtin.Range.small i j k = true := by
  obtain ⟨h1, h2, h3, h4, h5, h6, h7⟩ := h
  unfold Builtin.Range.small
  rw [rgN_size h1]
  have hk : (k > 0) = True := by simp [h1]
  simp only [Builtin.Range.rangeFitsLong, Bool.and_eq_true, Bool.or_eq_true, decide_eq_true_eq, beq_iff_eq, hk, if_true]
  refine ⟨⟨⟨⟨⟨by omega, by omega⟩, by omega, by omega⟩, by omega, by omega⟩, by omega, by omega⟩, .inr ⟨by omega, by omega⟩⟩
section
variable {X : Cx} {W : WX} {a b c : Expr} {f g h : Rho → Cells → Res D} {p p2 pos pos2 : Pos}
def lstRgC (m : Bool) (fs : Rho → Cells → Res (List D)) : Rho → Cells → Res D := fun ρ C => (fs ρ C).bind fun xs C1 => match xs with
  | [.int i, .int j, .int k] => if RgCOk i j k then mkL m (rgC i k (rgN i j k)) C1 else .stuck
  | _ => .stuck
@[simp] theorem e_lstRgC (m : Bool) (fs : Rho → Cells → Res (List D)) (ρ : Rho) (C : Cells) : lstRgC m fs ρ C = (fs ρ C).bind fun xs C1 => match xs with
  | [.int i, .int j, .int k] => if RgCOk i j k then mkL m (rgC i k (rgN i j k)) C1 else .stuck
  | _ => .stuck := rfl
theorem be_lstRgC (m : Bool) {fs : Rho → Cells → Res (List D)} (hc : X.calm = true) (hgl : Gl X "list") (hml : X.mg "list" = none) (hg : Gl X "range") (hm : X.mg "range" = none) (ha : BA X W [a, b, c] fs)
    (hs : starEach [a, b, c] X.env = (false, eval a X.env) :: starEach [b, c] X.env := by rfl) (hpl : (backTo pos (starEach [b, c] X.env)).any (·.1) = false := by rfl)
    (na : starEach [.Call (.Name "range" p) [a, b, c] [] pos] X.env = (false, eval (.Call (.Name "range" p) [a, b, c] [] pos) X.env) :: starEach [] X.env := by rfl) :
    BE X W (.Call (.Name "list" p2) [.Call (.Name "range" p) [a, b, c] [] pos] [] pos2) (lstRgC m fs) := by
  refine ⟨fun pins s σ H Q I q => ?_⟩
  obtain ⟨ρ, C, μ, F, S, E, k0⟩ := q
  refine PyProof.Rows.Call_ (ld_blt I hgl hml (show bootBuiltins "list" = some (.type "list") by decide +kernel) ?_)
  refine PyProof.Rows.callWith_type1 (PyProof.Rows.args_cons ?_ na) na
  refine PyProof.Rows.Call_ (ld_blt I hg hm (show bootBuiltins "range" = some (.type "range") by decide +kernel) ?_)
  refine PyProof.Rows.callWith_type1 (thn (ha.run pos pins s σ H (fun vs H1 => ∃ ds C1 μ1 F1, Sim X.K μ1 F1 C1 H1 ∧ Reps X.K μ1 F1 vs ds ∧ kd (RD X.K) X.K X.mg W (lstRgC m (fun _ _ => .ok ds C1) ρ C1) μ1 F1 σ H1 Q) I ⟨ρ, C, μ, F, S, E, kd_bind k0 fun ds C1 vs μ1 F1 H1 x1 s1 r1 h1 => ⟨ds, C1, μ1, F1, s1, r1, h1⟩⟩) fun us s1 hu => ?_) hs hpl
  obtain ⟨vs, H1, I1, rv, ds, C1, μ1, F1, S1, rs, h1⟩ := hu
  simp only [e_lstRgC, Res.bind_ok] at h1
  split at h1
  · rename_i i j k
    split at h1
    · rename_i ok
      cases rs with
      | cons q1 rs => cases rs with
        | cons q2 rs => cases rs with
          | cons q3 rs =>
            cases rs
            cases q1; cases q2; cases q3
            cases rv with
            | cons w1 rv => cases rv with
              | cons w2 rv => cases rv with
                | cons w3 rv =>
                  cases rv
                  obtain ⟨t1, rfl⟩ := w1
                  obtain ⟨t2, rfl⟩ := w2
                  obtain ⟨t3, rfl⟩ := w3
                  have hk0 := ok.1
                  have hk1 := ok.2.1
                  refine call_range_3 (by omega) ?_ (.inl (PyProof.noPylong_small (by omega)))
                  refine PyProof.Rows.args_nil ?_
                  have I2 : Inv X pins σ H1 { s1 with heap := s1.heap.push { cls := .type "range", data := .fields #[.int i t1, .int j t2, .int k t3] } } := I1.kept (t' := s1.toks) fun b u e => Heap.get?_push_of_some _ e
                  refine call_list_range (n := rgN i j k) (I2.ok.hd hc) (IsRange.new _ _ _ _ _ _ _) (small_C ok) (rgN_size hk0) (by have := ok.2.2.2.2.2.2; omega) fun h' tk acc c' hk e' hi => ?_
                  have hv : Vals (rgCV i k (rgN i j k)) acc.toList := by
                    have e : acc.toList.length = rgN i j k := by rw [Array.length_toList]; exact hi.1
                    unfold rgCV
                    rw [← e]
                    refine vals_of_get acc.toList _ fun jj u hj => ?_
                    obtain ⟨t, rfl⟩ := hi.2 jj u (by rw [← hj, Array.getElem?_toList])
                    exact ⟨t, rfl⟩
                  have hfr := I2.hok.fresh (Nat.le_refl _)
                  refine ⟨.ref _, _, I2.laid hk (Nat.le_refl _) (show ObjOk X.prog X.w _ _ _ (.lst (rgCV i k (rgN i j k))) from ⟨?_, acc.toList, c', hv, ?_⟩), rfl, kd_mkL S1 hfr (reps_rgC i k _) h1⟩
                  · have := ok.2.2.2.2.2.2
                    unfold rgCV
                    rw [List.length_map, List.length_range, sizeLine_eq]
                    omega
                  · rw [Array.toArray_toList]
                    exact e'
    · exact h1.elim
  · exact h1.elim
end
end BV
namespace BV
open PySem PySem.Spec PyProof.Rows L2
/-! ### the text of repr as a string among small data -/
/-- its text is of plain signs -/
def LowP (p : PyData) : Prop := ∀ k, 128 ≤ k → k ∉ p.shown.cps.toList
theorem LowP.none : LowP .none := fun k hk => by
  rw [mem_shown_none]
  simp only [List.mem_cons, List.not_mem_nil, or_false]
  omega
theorem LowP.bool (b : Bool) : LowP (.bool b) := fun k hk => by
  rw [mem_shown_bool]
  split <;> simp only [List.mem_cons, List.not_mem_nil, or_false] <;> omega
theorem LowP.int (i : Int) : LowP (.int i) := fun k hk => shown_int_free' ⟨by omega, by omega⟩ i
theorem LowP.alls {k : Nat} (hk : 128 ≤ k) : ∀ {ps : List PyData}, (∀ p ∈ ps, LowP p) → ∀ t ∈ PyData.shownAll ps, k ∉ t.cps.toList
  | [], _, t, ht => by rw [PyData.shownAll_nil] at ht; exact absurd ht (by simp)
  | p :: ps, h, t, ht => by
    rw [PyData.shownAll_cons, List.mem_cons] at ht
    rcases ht with e | ht
    · rw [e]; exact h p (by simp) k hk
    · exact LowP.alls hk (fun q hq => h q (List.mem_cons_of_mem _ hq)) t ht
theorem LowP.list {xs : List PyData} (h : ∀ p ∈ xs, LowP p) : LowP (.list xs) := fun k hk => by
  have ih := LowP.alls hk h
  rw [PyData.shown_list]
  rw [mem_cps_append, mem_cps_append, signs_lbrack, signs_rbrack, mem_join]
  rintro ((hm | (⟨t, ht, hc⟩ | ⟨_, hm⟩)) | hm)
  · simp only [List.mem_cons, List.not_mem_nil, or_false] at hm; omega
  · exact ih t ht hc
  · rw [signs_sep] at hm; simp only [List.mem_cons, List.not_mem_nil, or_false] at hm; omega
  · simp only [List.mem_cons, List.not_mem_nil, or_false] at hm; omega
theorem LowP.tuple {xs : List PyData} (h : ∀ p ∈ xs, LowP p) : LowP (.tuple xs) := fun k hk => by
  have ih := LowP.alls hk h
  rw [PyData.shown_tuple]
  rw [mem_cps_append, mem_cps_append, signs_lparen, mem_join, signs_tuple_end]
  rintro ((hm | (⟨t, ht, hc⟩ | ⟨_, hm⟩)) | hm)
  · simp only [List.mem_cons, List.not_mem_nil, or_false] at hm; omega
  · exact ih t ht hc
  · rw [signs_sep] at hm; simp only [List.mem_cons, List.not_mem_nil, or_false] at hm; omega
  · split at hm <;> simp only [List.mem_cons, List.not_mem_nil, or_false] at hm <;> omega
/-- of a text, by looking -/
theorem LowP.str {x : Str} (h : ((PyData.str x).shown.cps.toList.all fun c => decide (c < 128)) = true) : LowP (.str x) := fun k hk hm => by
  rw [List.all_eq_true] at h
  have := of_decide_eq_true (h k hm)
  omega
theorem low_all {x : Str} (h : ∀ k, 128 ≤ k → k ∉ x.cps.toList) {m : Nat} (hm : 128 ≤ m) : (x.cps.toList.all fun c => decide (c < m)) = true := by
  rw [List.all_eq_true]
  intro c hc
  rw [decide_eq_true_eq]
  by_cases q : c < 128
  · omega
  · exact absurd hc (h c (by omega))
theorem low_strOk {x : Str} (h : ∀ k, 128 ≤ k → k ∉ x.cps.toList) : PyData.strOk x = true := by
  unfold PyData.strOk
  rw [← Array.all_toList]
  exact low_all h (by decide)
/-- small data whose text is of plain signs -/
def GP (n w : Nat) (d : D) : Prop := ∃ p, GD n w d p ∧ LowP p
theorem GP.ga {n w : Nat} {d : D} (g : GP n w d) : GA n w d := let ⟨p, h, _⟩ := g; ⟨p, h⟩
theorem GP.mono {n m w u : Nat} {d : D} (g : GP n w d) (h1 : n ≤ m) (h2 : w ≤ u) : GP m u d := let ⟨p, q, r⟩ := g; ⟨p, q.mono h1 h2, r⟩
theorem GP.non {n w : Nat} : GP n w .non := ⟨_, GD.non.mono (Nat.zero_le _) (Nat.zero_le _), .none⟩
theorem GP.bl {n w : Nat} (b : Bool) : GP n w (.bl b) := ⟨_, (GD.bl b).mono (Nat.zero_le _) (Nat.zero_le _), .bool b⟩
theorem GP.int {n : Nat} {i : Int} (h : i.natAbs < 10 ^ 12) : GP n 41 (.int i) := ⟨_, (GD.int h).mono (Nat.zero_le _) (Nat.le_refl _), .int i⟩
theorem GP.str {n w : Nat} {x : Str} (h : PyData.strOk x = true) (h2 : x.cps.size ≤ w) (h3 : (x.cps.toList.all fun c => decide (c < 16 ^ 8)) = true) (h4 : ((PyData.str x).shown.cps.toList.all fun c => decide (c < 128)) = true) : GP n w (.str x) := ⟨_, (GD.str h h2 h3).mono (Nat.zero_le _) (Nat.le_refl _), .str h4⟩
theorem GPs.all {n w : Nat} : ∀ {ds : List D}, (∀ d ∈ ds, GP n w d) → ∃ ps, GDs n w ds ps ∧ ∀ p ∈ ps, LowP p
  | [], _ => ⟨[], .nil, fun _ h => nomatch h⟩
  | d :: ds, h => by
    obtain ⟨p, g, q⟩ := h d (by simp)
    obtain ⟨ps, gs, qs⟩ := GPs.all (ds := ds) fun x hx => h x (List.mem_cons_of_mem _ hx)
    refine ⟨p :: ps, .cons g gs, fun r hr => ?_⟩
    rcases List.mem_cons.mp hr with e | hr
    · rw [e]; exact q
    · exact qs r hr
theorem GP.tup {n w : Nat} {ds : List D} (h : ∀ d ∈ ds, GP n w d) : GP (n + 1) (ds.length * (w + 1)) (.tup ds) := by
  obtain ⟨ps, g, q⟩ := GPs.all h
  exact ⟨_, .tup g, .tuple q⟩
theorem GP.lst {n w : Nat} {ds : List D} (h : ∀ d ∈ ds, GP n w d) : GP (n + 1) (ds.length * (w + 1)) (.lst ds) := by
  obtain ⟨ps, g, q⟩ := GPs.all h
  exact ⟨_, .lst g, .list q⟩
/-- the text of repr of such data, as a datum -/
theorem GP.text {n w : Nat} {d : D} (g : GP n w d) : GD 0 (rp d).cps.size (.str (rp d)) (.str (rp d)) := by
  obtain ⟨p, g, q⟩ := g
  have e : rp d = p.shown := by unfold rp; rw [g.e]
  have hl : ∀ k, 128 ≤ k → k ∉ (rp d).cps.toList := fun k hk => by rw [e]; exact q k hk
  exact .str (low_strOk hl) (Nat.le_refl _) (low_all hl (by decide))
/-- a datum beside itself -/
theorem same_of {n w : Nat} {x : D} {neg : Bool} {C : Cells} (g : GA n w x) (h1 : n ≤ 64) (hs : ∀ a, x ≠ .str a) : eqD neg x x C = .ok (.bl !neg) C := by
  obtain ⟨p, g⟩ := g
  rw [eq_of g g h1 (fun a b h => hs a h.1), eqv_refl p g.g.lay]
  cases neg <;> rfl
/-- what a heard refusal tells: tag, repr, True -/
theorem GA.refused {n w : Nat} {d : D} {t : Str} (g : GP n w d) (ht : ∀ k, 128 ≤ k → k ∉ t.cps.toList) : GA 1 (3 * (t.cps.size + (rp d).cps.size + 1)) (.tup [.str t, .str (rp d), .bl true]) := by
  have h1 : GD 0 t.cps.size (.str t) (.str t) := .str (low_strOk ht) (Nat.le_refl _) (low_all ht (by decide))
  have h2 := g.text
  refine GA.tup (n := 0) (w := t.cps.size + (rp d).cps.size) (ds := [.str t, .str (rp d), .bl true]) fun x hx => ?_
  simp only [List.mem_cons, List.not_mem_nil, or_false] at hx
  rcases hx with rfl | rfl | rfl
  · exact ⟨_, h1.mono (Nat.le_refl _) (by omega)⟩
  · exact ⟨_, h2.mono (Nat.le_refl _) (by omega)⟩
  · exact ⟨_, (GD.bl true).mono (Nat.le_refl _) (by omega)⟩
section
variable {q c t : Str} {P : Addr} {sh : SH} {fe fv : Rho → Cells → Res D} {ρ : Rho} {C : Cells} {x : D} {n w : Nat}
/-- a refusal heard: tag, repr, True -/
theorem heard_ex (ht : hasTab q P C = true) (hf : fe ρ C = .ex c x C) (g : GP n w x) (h1 : n ≤ 64) (h2 : w ≤ 2 ^ 20) : fLam q P (hdD sh c [.str t, .rep, .isi]) fe ρ C = .ok (.tup [.str t, .str (rp x), .bl true]) C := by
  unfold fLam
  rw [if_pos ht, hf]
  have hr := repr_of (C := C) g.ga h1 h2
  show noX (if c = c then (hisD x [.str t, .rep, .isi] C).bind _ else .stuck) = _
  rw [if_pos rfl]
  simp only [hisD, hiD, hr, Res.bind_ok, List.length_cons, List.length_nil]
  rfl
/-- the same, held beside what the law awaits -/
theorem heard_eq {neg : Bool} (ht : hasTab q P C = true) (hf : fe ρ C = .ex c x C) (hv : fv ρ C = .ok x C) (g : GP n w x) (h1 : n ≤ 64) (h2 : w ≤ 2 ^ 20) (hl : ∀ k, 128 ≤ k → k ∉ t.cps.toList) :
    f2 (eqD neg) (fLam q P (hdD sh c [.str t, .rep, .isi]) fe) (fA oTup (aCons (fC (.str t)) (aCons (fA oRepr (aCons fv aNil)) (aCons (fC (.bl true)) aNil)))) ρ C = .ok (.bl !neg) C := by
  have h := heard_ex (sh := sh) (t := t) ht hf g h1 h2
  have hr := repr_of (C := C) g.ga h1 h2
  have e2 : fA oTup (aCons (fC (.str t)) (aCons (fA oRepr (aCons fv aNil)) (aCons (fC (.bl true)) aNil))) ρ C = .ok (.tup [.str t, .str (rp x), .bl true]) C := by
    simp only [e_fA, e_aCons, e_aNil, e_c, hv, hr, Res.bind_ok, e_oTup, List.length_cons, List.length_nil]
    rfl
  rw [e_f2, h, Res.bind_ok, e2, Res.bind_ok]
  exact same_of (GA.refused g hl) (by decide) (fun a z => by cases z)
end
end BV
namespace BV
open PySem PySem.Spec PyProof.Rows L2
/-! ### zip of two tuples, of two lists that stand by value -/
def prs (ds es : List D) : List D := List.zipWith (fun x y => D.tup [x, y]) ds es
theorem prs_get {ds es : List D} {i : Nat} {x y : D} (h1 : ds[i]? = some x) (h2 : es[i]? = some y) : (prs ds es)[i]? = some (.tup [x, y]) := by
  unfold prs
  rw [List.getElem?_zipWith, h1, h2]
theorem prs_len (ds es : List D) : (prs ds es).length = min ds.length es.length := by simp [prs]
section
variable {K : PySem.W.Frag} {μ : List Addr} {F : Hp} {a b : Addr} {vs ws : List V} {ds es : List D}
theorem wk_zipT (h1 : SqT K F a vs) (r1 : Reps K μ F vs ds) (h2 : SqT K F b ws) (r2 : Reps K μ F ws es) : WkD K (RZ.ItzT K a b) μ F (prs ds es) := by
  refine ⟨fun i μ2 F2 C2 H2 hi hp hs S => ?_, fun μ2 F2 C2 H2 hp hs S => ?_⟩
  · have q1 : SqT K H2 a vs := sameT S.sub (sameT hs h1)
    have q2 : SqT K H2 b ws := sameT S.sub (sameT hs h2)
    rw [prs_len] at hi
    have hv : i < vs.length := by rw [r1.length]; omega
    have hw : i < ws.length := by rw [r2.length]; omega
    refine ⟨⟨vs, ws, vs[i], ws[i], q1, q2, by simp [hv], by simp [hw]⟩, fun x H3 y => ?_⟩
    obtain ⟨T, x1, y1, rfl, hT, rfl, f1, f2⟩ := y
    obtain ⟨d1, e1, s1⟩ := r1.getV (f1 vs q1)
    obtain ⟨d2, e2, s2⟩ := r2.getV (f2 ws q2)
    obtain ⟨S1, X1⟩ := S.alloc (o := .tup [x1, y1]) hT
    exact ⟨_, _, X1, S1, prs_get e1 e2, .tup (SqT.of upd_same) (X1.reps (.cons (Rep.mono hp hs _ _ s1) (.cons (Rep.mono hp hs _ _ s2) .nil)))⟩
  · refine ⟨vs, ws, sameT S.sub (sameT hs h1), sameT S.sub (sameT hs h2), ?_⟩
    rw [prs_len, r1.length, r2.length]
    omega
theorem wk_zipL (h1 : SqL K F a vs) (r1 : Reps K μ F vs ds) (h2 : SqL K F b ws) (r2 : Reps K μ F ws es) : WkD K (Itz K a b) μ F (prs ds es) := by
  refine ⟨fun i μ2 F2 C2 H2 hi hp hs S => ?_, fun μ2 F2 C2 H2 hp hs S => ?_⟩
  · have q1 : SqL K H2 a vs := S.sub.seq (hs.seq h1)
    have q2 : SqL K H2 b ws := S.sub.seq (hs.seq h2)
    rw [prs_len] at hi
    have hv : i < vs.length := by rw [r1.length]; omega
    have hw : i < ws.length := by rw [r2.length]; omega
    refine ⟨⟨vs, ws, vs[i], ws[i], q1, q2, by simp [hv], by simp [hw]⟩, fun x H3 y => ?_⟩
    obtain ⟨T, x1, y1, rfl, hT, rfl, f1, f2⟩ := y
    obtain ⟨d1, e1, s1⟩ := r1.getV (f1 vs q1)
    obtain ⟨d2, e2, s2⟩ := r2.getV (f2 ws q2)
    obtain ⟨S1, X1⟩ := S.alloc (o := .tup [x1, y1]) hT
    exact ⟨_, _, X1, S1, prs_get e1 e2, .tup (SqT.of upd_same) (X1.reps (.cons (Rep.mono hp hs _ _ s1) (.cons (Rep.mono hp hs _ _ s2) .nil)))⟩
  · refine ⟨vs, ws, S.sub.seq (hs.seq h1), S.sub.seq (hs.seq h2), ?_⟩
    rw [prs_len, r1.length, r2.length]
    omega
end
/-- of one kind, both by value -/
def zipOf (x y : D) : Option (List D) := match x, y with
  | .tup ds, .tup es => some (prs ds es)
  | .lst ds, .lst es => some (prs ds es)
  | _, _ => none
def iZip (fs : Rho → Cells → Res (List D)) : Rho → Cells → Res Src := fun ρ C => (fs ρ C).bind fun xs C1 => match xs with
  | [x, y] => match zipOf x y with
    | some ds => .ok (.fix ds) C1
    | none => .stuck
  | _ => .stuck
@[simp] theorem e_iZip (fs : Rho → Cells → Res (List D)) (ρ : Rho) (C : Cells) : iZip fs ρ C = (fs ρ C).bind fun xs C1 => match xs with
  | [x, y] => match zipOf x y with
    | some ds => .ok (.fix ds) C1
    | none => .stuck
  | _ => .stuck := rfl
@[simp] theorem e_zip_t (ds es : List D) : zipOf (.tup ds) (.tup es) = some (prs ds es) := rfl
@[simp] theorem e_zip_l (ds es : List D) : zipOf (.lst ds) (.lst es) = some (prs ds es) := rfl
theorem bi_zip {X : Cx} {W : WX} {e e2 : Expr} {elts : List Expr} {kk : Nat} {tpos p pos : Pos} {fs : Rho → Cells → Res (List D)} (hg : Gl X "zip") (hm : X.mg "zip" = none) (ha : BA X W [e, e2] fs)
    (hs : starEach [e, e2] X.env = (false, eval e X.env) :: starEach [e2] X.env := by rfl) (hpl : (backTo pos (starEach [e2] X.env)).any (·.1) = false := by rfl) :
    BI X W (.Tuple elts kk tpos) (.Call (.Name "zip" p) [e, e2] [] pos) (iZip fs) := by
  refine piI (RZ.pi_zipA hg hm ha hs hpl) ?_
  rintro σ H R ⟨ρ, C, μ, F, S, E, k⟩
  refine ⟨ρ, C, μ, F, S, E, kd_bind k fun ds C1 vs μ1 F1 H1 x1 s1 rs h1 => ?_⟩
  cases rs with
  | nil => exact h1.elim
  | cons q1 rs =>
    cases rs with
    | nil => exact h1.elim
    | cons q2 rs =>
      cases rs with
      | cons _ _ => exact h1.elim
      | nil =>
        rename_i v1 d1 v2 d2
        simp only at h1
        split at h1
        · rename_i zs ez
          unfold zipOf at ez
          split at ez
          · cases ez
            cases q1 with
            | tup t1 t2 =>
              cases q2 with
              | tup u1 u2 => exact ⟨_, _, _, _, rfl, .inr ⟨sameT s1.sub t1, sameT s1.sub u1, kd_ret s1 (wk_zipT t1 t2 u1 u2) h1⟩⟩
          · cases ez
            cases q1 with
            | lst t1 t2 =>
              cases q2 with
              | lst u1 u2 => exact ⟨_, _, _, _, rfl, .inl ⟨SqL.of (s1.sub _ _ t1), SqL.of (s1.sub _ _ u1), kd_ret s1 (wk_zipL (SqL.of t1) t2 (SqL.of u1) u2) h1⟩⟩
          · cases ez
        · exact h1.elim
/-! ### try: .. except c: .. (no name) -/
def noXO (o : Out) : Out := match o with
  | .ex _ _ _ _ => .stuck
  | o => o
def sTry (c : Str) (fb fh : Rho → Cells → Out) : Rho → Cells → Out := fun ρ C => match fb ρ C with
  | .ex c' _ ρ1 C1 => if c' = c then noXO (fh ρ1 C1) else .stuck
  | o => o
section
variable {K : PySem.W.Frag} {mg : Str → Option Value} {W W2 : WX} {μ : List Addr} {F H : Hp} {D : Ends} {o : Out}
theorem sd_noX (h : sd K mg W (noXO o) D μ F H) : sd K mg W2 o D μ F H := by
  cases o with
  | ex c p ρ C => exact h.elim
  | nx ρ C => exact h
  | rt d C => exact h
  | bk ρ C => exact h
  | ct ρ C => exact h
  | stuck => exact h
variable {X : Cx} {c : Str} {C0 : Addr} {body suite : List Stmt} {b₀ : Stmt} {np pos pos' : Pos} {fb fh : Rho → Cells → Out}
theorem bs_tryE (hs : X.stack = X.env :: X.outer) (hf : X.env.frame = some X.env.locals) (eh : ErrH X.K X.mg c C0) (hg : Gl X c) (tk : Takes X W) (hdb : (c == ("__debug__" : Str)) = false := by decide)
    (hb : ∀ (W2 : WX) (pn : List (Addr × Obj)) (xe : Value → Shared → Prop), Takes (X.tr pn xe) W2 → BSs (X.tr pn xe) W2 body fb)
    (hh : ∀ (a : Addr) (oe : Obj) (pn : List (Addr × Obj)), BSs (X.suite a ((a, oe) :: pn)) W0 (b₀ :: suite) fh) :
    BS X W (.Try body [.ExceptHandler (some (.Name c np)) none (b₀ :: suite) pos'] [] [] pos) (sTry c fb fh) := by
  refine psI (ps_try_only (c := .ref C0) (ts := fun _ _ _ => rS X.K X.mg W0 fh) (tb := fun W2 => rS X.K X.mg W2 fb) hs hf ⟨hg, hdb, .inl eh.m⟩ tk (fun W2 pn xe tk2 _ => hb W2 pn xe tk2) (fun a oe _ _ pn _ _ => hh a oe pn)) ?_
  rintro D σ H ⟨ρ, C, μ, F, S, E, k⟩
  refine ⟨ρ, C, μ, F, S, E, ?_⟩
  unfold sTry at k
  cases hq : fb ρ C with
  | nx ρ1 C1 => rw [hq] at k; exact k
  | rt d C1 => rw [hq] at k; exact k
  | bk ρ1 C1 => rw [hq] at k; exact k
  | ct ρ1 C1 => rw [hq] at k; exact k
  | stuck => rw [hq] at k; exact k
  | ex c' p ρ1 C1 =>
    rw [hq] at k
    simp only at k
    split at k
    · rename_i ec
      subst ec
      intro cls dx σ2 μ2 F2 H2 x2 s2 e2 xr
      obtain ⟨h1, dd, v, h2, h3, h4, h5⟩ := xr
      rw [eh.m] at h1
      cases h1
      exact ⟨true, eh.te, fun _ a ha => ⟨ρ1, C1, μ2, F2, s2, e2, sd_noX (sd_mono x2 k)⟩, fun z => Bool.noConfusion z⟩
    · exact k.elim
end
theorem try_ok {c : Str} {fb fh : Rho → Cells → Out} {ρ ρ1 : Rho} {C C1 : Cells} (h : fb ρ C = .nx ρ1 C1) : sTry c fb fh ρ C = .nx ρ1 C1 := by
  unfold sTry
  rw [h]
theorem try_ex {c : Str} {fb fh : Rho → Cells → Out} {ρ ρ1 : Rho} {C C1 C2 : Cells} {p d : D} (h : fb ρ C = .ex c p ρ1 C1) (h2 : fh ρ1 C1 = .rt d C2) : sTry c fb fh ρ C = .rt d C2 := by
  unfold sTry
  rw [h]
  simp only [if_pos, h2]
  rfl
end BV
namespace BV
open PySem L2
/-! ### what the plain laws share -/
theorem den_ex0 {m : Bool} {np N : Nat} {fb : Rho → Cells → Out} {ds : List D} {C : Cells} {c : PySem.Str} {d : D} {ρ : Rho} (hC : Flat C) (hl : ds.length = np) (h : fb (ds.map some ++ List.replicate (N - np) none) C = .ex c d ρ C) (hd : celOk 0 d = true) : denF m np N fb ds C = .ex c d C := by
  unfold denF
  rw [if_pos hl, h]
  show exFin C.length c d C = _
  unfold exFin
  rw [List.take_length, hC.ok, celOk_mono (Nat.zero_le _) _ hd]
  rfl
theorem ne_int {C : Cells} {i : Int} (a : Int) : eqD true (.int a) (.int i) C = .ok (.bl (!(a == i))) C := rfl
def SV (x : D) (ds : List D) : Prop := x = .tup ds ∨ x = .lst ds
theorem SV.seq {C : Cells} {x : D} {ds : List D} (h : SV x ds) : SeqOf C x ds := by
  rcases h with rfl | rfl
  · exact .tup _
  · exact .lst _
theorem all_bs {C : Cells} {bs : List Bool} {ds : List D} (h : ds = bs.map D.bl) : oAll [.lst ds] C = .ok (.bl (bs.all id)) C := by
  subst h
  have e2 : blsC (.lst (bs.map D.bl)) C = some bs := by
    show bls? _ = _
    rw [bls?_map]
  simp [oAll, e2]
theorem or_f {f g : Rho → Cells → Res D} {ρ : Rho} {C C1 : Cells} {r : Res D} (h1 : f ρ C = .ok (.bl false) C1) (h2 : g ρ C1 = r) : orD f g ρ C = r := by
  rw [e_or, h1]
  exact h2
theorem or_t {f g : Rho → Cells → Res D} {ρ : Rho} {C C1 : Cells} (h1 : f ρ C = .ok (.bl true) C1) : orD f g ρ C = .ok (.bl true) C1 := by
  rw [e_or, h1]
  rfl
theorem not_of {f : Rho → Cells → Res D} {ρ : Rho} {C C1 : Cells} {b : Bool} (h1 : f ρ C = .ok (.bl b) C1) : notD f ρ C = .ok (.bl !b) C1 := by
  rw [e_not, h1]
  rfl
theorem f2_of {o : D → D → Cells → Res D} {f g : Rho → Cells → Res D} {ρ : Rho} {C C1 C2 : Cells} {x y : D} {r : Res D} (h1 : f ρ C = .ok x C1) (h2 : g ρ C1 = .ok y C2) (h3 : o x y C2 = r) : f2 o f g ρ C = r := by
  rw [e_f2, h1, Res.bind_ok, h2]
  exact h3
theorem slV {C : Cells} {x : D} {ds : List D} {lo hi : Option Int} (h : SV x ds) : ∃ y, slD false x lo hi C = .ok y C ∧ SV y (cut ds lo hi) := by
  rcases h with rfl | rfl
  · exact ⟨_, rfl, .inl rfl⟩
  · exact ⟨_, rfl, .inr rfl⟩
def rgCI (i k : Int) (n : Nat) : List Int := (List.range n).map fun t => i + (t : Nat) * k
theorem rgC_I (i k : Int) (n : Nat) : rgC i k n = (rgCI i k n).map D.int := by simp [rgC, rgCI, List.map_map, Function.comp_def]
theorem ints_ok (n : Nat) : ∀ L : List Int, celsOk n (L.map D.int) = true
  | [] => rfl
  | i :: L => by simp [celsOk, celOk, ints_ok n L]
theorem seq_ex {f g : Rho → Cells → Out} {ρ ρ1 : Rho} {C C1 : Cells} {k : PySem.Str} {x : D} (h1 : f ρ C = .ex k x ρ1 C1) : sSeq f g ρ C = .ex k x ρ1 C1 := by
  unfold sSeq
  rw [h1]
  rfl
def rgI (a b : Int) : List Int := (List.range (b - a).toNat).map fun (i : Nat) => a + (i : Nat)
theorem rg_I (a b : Int) : rg a b = (rgI a b).map D.int := by simp [rg, rgI, List.map_map, Function.comp_def]
theorem mem_rgI {a b x : Int} : x ∈ rgI a b ↔ a ≤ x ∧ x < b := by
  simp only [rgI, List.mem_map, List.mem_range]
  constructor
  · rintro ⟨i, h1, h2⟩
    omega
  · rintro ⟨h1, h2⟩
    exact ⟨(x - a).toNat, by omega, by omega⟩
theorem len_rgI (a b : Int) : (rgI a b).length = (b - a).toNat := by simp [rgI]
theorem rgI_rise (a b : Int) : (rgI a b).Pairwise (· < ·) := by
  unfold rgI
  refine List.pairwise_map.mpr ((List.pairwise_lt_range (n := (b - a).toNat)).imp fun h => ?_)
  omega
theorem rise_one : ∀ {xs ys : List Int}, xs.Pairwise (· < ·) → ys.Pairwise (· < ·) → (∀ x, x ∈ xs ↔ x ∈ ys) → xs = ys
  | [], [], _, _, _ => rfl
  | [], y :: ys, _, _, h => by have := (h y).mpr (by simp); cases this
  | x :: xs, [], _, _, h => by have := (h x).mp (by simp); cases this
  | x :: xs, y :: ys, h1, h2, h => by
    obtain ⟨a1, a2⟩ := List.pairwise_cons.mp h1
    obtain ⟨b1, b2⟩ := List.pairwise_cons.mp h2
    have e : x = y := by
      rcases List.mem_cons.mp ((h x).mp (by simp)) with e | m1
      · exact e
      · rcases List.mem_cons.mp ((h y).mpr (by simp)) with e | m2
        · exact e.symm
        · have q1 := b1 x m1
          have q2 := a1 y m2
          omega
    subst e
    rw [rise_one a2 b2 fun z => ?_]
    constructor
    · intro hz
      rcases List.mem_cons.mp ((h z).mp (List.mem_cons_of_mem _ hz)) with e | m
      · have := a1 z hz
        omega
      · exact m
    · intro hz
      rcases List.mem_cons.mp ((h z).mpr (List.mem_cons_of_mem _ hz)) with e | m
      · have := b1 z hz
        omega
      · exact m
theorem ceil_le {n p x : Int} (hp : 0 < p) : (n + p - 1) / p ≤ x ↔ n ≤ p * x := by
  have h1 : (n + p - 1) / p < x + 1 ↔ n + p - 1 < (x + 1) * p := Int.ediv_lt_iff_lt_mul hp
  have h2 : (x + 1) * p = p * x + p := by rw [Int.add_mul, Int.one_mul, Int.mul_comm]
  rw [h2] at h1
  omega
theorem lc_rg {i j : Int} {vs : List Nat} {k : Nat} {fi : Rho → Cells → Res Src} {ft : Rho → Cells → Res D} {ρ : Rho} {C : Cells} (P : Int → Bool) (hr : fi ρ C = .ok (.fix (rg i j)) C) (hk : k < (wipeD ρ vs).length)
    (ht : ∀ m, i ≤ m → m < j → ft ((wipeD ρ vs).set k (some (.int m))) C = .ok (.bl (P m)) C) (hl : j - i ≤ 100000) : fLc false vs fi (tgN k) ft (fVar k) ρ C = .ok (.lst (((rgI i j).filter P).map .int)) C := by
  let P' : D → Bool := fun d => match d with
    | .int m => P m
    | _ => false
  have e : ∀ L : List Int, ((L.map D.int).filter P').map (fun d => d) = (L.filter P).map .int := by
    intro L
    induction L with
    | nil => rfl
    | cons z L ih =>
      rw [List.map_cons, List.filter_cons, List.filter_cons]
      have : P' (.int z) = P z := rfl
      rw [this]
      cases P z
      · exact ih
      · simp only [if_true, List.map_cons]
        rw [ih]
  have h := lc_map k (ft := ft) (fe := fVar k) (ρ := wipeD ρ vs) (C := C) P' (fun d => d) ((rgI i j).map .int) (fun d hd => by
    obtain ⟨m, hm, rfl⟩ := List.mem_map.mp hd
    rw [mem_rgI] at hm
    exact ht m hm.1 hm.2) (fun d _ _ => by simp [hk])
  rw [e] at h
  have hlen : (((rgI i j).filter P).map D.int).length ≤ 100000 := by
    rw [List.length_map]
    refine Nat.le_trans (List.length_filter_le _ _) ?_
    rw [len_rgI]
    omega
  rw [fLc_of hr (by rw [rg_I]; exact h) hlen]
  rfl
theorem len_two {L : List Int} {a b : Int} (ha : a ∈ L) (hb : b ∈ L) (h : a ≠ b) : 2 ≤ L.length := by
  match L, ha, hb with
  | [x], ha, hb =>
    simp only [List.mem_singleton] at ha hb
    omega
  | x :: y :: L, _, _ => simp
theorem toPys_ints : ∀ L : List Int, toPys (L.map D.int) = some (L.map PyData.int)
  | [] => rfl
  | i :: L => by simp [toPys, toPy, toPys_ints L]
theorem lay_ints : ∀ L : List Int, PyData.canLayAll0 (L.map PyData.int) = true ∧ PyData.depthAll (L.map PyData.int) = 0
  | [] => ⟨rfl, rfl⟩
  | i :: L => ⟨by simp [PyData.canLayAll0, PyData.canLay0, (lay_ints L).1], by simp [PyData.depthAll, PyData.depth, (lay_ints L).2]⟩
theorem eq_nil (L : List Int) (C : Cells) : eqD false (.lst (L.map D.int)) (.lst []) C = .ok (.bl L.isEmpty) C := by
  unfold eqD
  simp only [toPyC, toPy, toPys_ints, Option.map_some, toPys]
  rw [if_pos ⟨by simp [SeqAt.shaped, PyData.canLay0, (lay_ints L).1, PyData.depth, (lay_ints L).2], rfl⟩]
  cases L <;> rfl
section
variable {f1 f2 f3 : Rho → Cells → Res D} {den : List D → Cells → Res D} {ρ : Rho} {C C1 C2 C3 : Cells} {x y z : D} {r : Res D}
theorem call1 (h1 : f1 ρ C = .ok x C1) (h : den [x] C1 = r) : fA (oCall 1 den) (aCons f1 aNil) ρ C = r := by
  rw [e_fA, e_aCons, h1]
  exact h
theorem call2 (h1 : f1 ρ C = .ok x C1) (h2 : f2 ρ C1 = .ok y C2) (h : den [x, y] C2 = r) : fA (oCall 2 den) (aCons f1 (aCons f2 aNil)) ρ C = r := by
  rw [e_fA, e_aCons, h1, Res.bind_ok, e_aCons, h2]
  exact h
theorem call3 (h1 : f1 ρ C = .ok x C1) (h2 : f2 ρ C1 = .ok y C2) (h3 : f3 ρ C2 = .ok z C3) (h : den [x, y, z] C3 = r) : fA (oCall 3 den) (aCons f1 (aCons f2 (aCons f3 aNil))) ρ C = r := by
  rw [e_fA, e_aCons, h1, Res.bind_ok, e_aCons, h2, Res.bind_ok, e_aCons, h3]
  exact h
end
theorem low_refused : ∀ k, 128 ≤ k → k ∉ ("refused" : PySem.Str).cps.toList := by
  intro k hk
  have e : ("refused" : PySem.Str).cps.toList = [114, 101, 102, 117, 115, 101, 100] := by decide
  rw [e]
  simp only [List.mem_cons, List.not_mem_nil, or_false]
  omega
theorem sum_of (M : List Int) (C : Cells) : oSum [.lst (M.map .int)] C = .ok (.int M.sum) C := by
  simp only [oSum, intsC, asL, Option.bind_some, ints?_map]
theorem repr_ne {f g : Rho → Cells → Res D} {ρ : Rho} {C : Cells} {d : D} {a b : Nat} (hf : f ρ C = .ok d C) (hg : g ρ C = .ok d C) (ga : GA a b d) (ha : a ≤ 64) (hb : b ≤ 2 ^ 20) : f2 (eqD true) (fA oRepr (aCons f aNil)) (fA oRepr (aCons g aNil)) ρ C = .ok (.bl false) C := by
  have g := repr_of (C := C) ga ha hb
  simp only [e_f2, e_fA, e_aCons, e_aNil, hf, hg, Res.bind_ok, g, eqD_ss, if_true, decide_true, Bool.not_true]
/-- a row of small numbers, and two of it -/
theorem row_ga {L : List Int} (hl : L.length ≤ 5000) (h : ∀ x ∈ L, 0 ≤ x ∧ x ≤ 1000000) : GA 1 210000 (.tup (L.map .int)) := by
  refine (GA.tup (n := 0) (w := 41) fun x hx => ?_).mono (Nat.le_refl _) (by rw [List.length_map]; omega)
  obtain ⟨y, hy, rfl⟩ := List.mem_map.mp hx
  have := h y hy
  exact ⟨_, GD.int (by omega)⟩
theorem rows_ga {x : D} (h : GA 1 210000 x) : GA 2 420002 (.lst [x, x]) := by
  refine (GA.lst (n := 1) (w := 210000) fun y hy => ?_).mono (Nat.le_refl _) (by simp)
  simp only [List.mem_cons, List.not_mem_nil, or_false] at hy
  rcases hy with rfl | rfl <;> exact h
theorem listD_t (ds : List D) (C : Cells) : oListD false [.tup ds] C = .ok (.lst ds) C := rfl
theorem rg_r' (c : Nat) : rg 0 (c : Int) = (List.range' 0 c).map fun (s : Nat) => D.int (s : Nat) := by
  simp [rg, List.range_eq_range']
end BV
namespace BV
open PySem PySem.Spec PyProof.Rows L2 LamX
/-! ### lambdas kept in a list -/
/-- the function object at f -/
def FnO (f : Addr) (o : Obj) : HO := .ext fun h => h.get? f = some o
theorem fnO_ok {P : Program} {w : World} {H : Hp} {h : Heap} {f : Addr} {o : Obj} (e : h.get? f = some o) : ObjOk P w H h f (FnO f o) :=
  ⟨e, ⟨_, e⟩, fun _ _ a k => k _ a⟩
section
variable {X : Cx} {pins : List (Addr × Obj)} {σ : L2.St} {H : Hp} {s : Shared} {μ : List Addr} {F : Hp} {C : Cells}
abbrev lamObj (X : Cx) (params : Arguments) (body : Expr) (scope : Scope) (pm : Value) (c' : Addr) (ctv : Value) : Obj := PySem.W.kla_obj "<lambda>" (X.env.qual ++ "<lambda>") params body scope (cloFrom X.env.cells scope.names []) pm c' ctv
/-- the lambda is made, and kept track of -/
theorem lam_madeT {c P : Addr} {params : Arguments} {body : Expr} {scope : Scope} {pos : Pos} {E : Value → Shared → Prop} {Q : Value → Shared → Prop} (I : Inv X pins σ H s) (TB : TabB X.base X.mg c P) (hcode : X.env.code = .ref c) (S : Sim X.K μ F C H)
    (ht : hasTab (X.env.qual ++ "<lambda>") P C = true) (hdef : defaultsOf params X.env = ([], [])) (hfree : ∀ y ∈ scope.names, y.2 = .free → ∃ c, X.env.cells.lookup y.1 = some c)
    (h : ∀ (f c' : Addr) (pm ctv : Value) (F1 H1 : Hp) (s' : Shared), Inv X pins σ (upd H1 f (FnO f (lamObj X params body scope pm c' ctv))) s' → Sim X.K μ F1 C H1 → Ext μ F H μ F1 H1 → H1 f = none → f ∉ frs X.stack → F1 c' = some (CodeO c' (X.env.qual ++ "<lambda>")) → Q (.ref f) s') :
    wpAny (model X.prog X.w) X.A (eval (.Lambda params body scope pos) X.env) Q E s := by
  obtain ⟨k, hk⟩ := hasTab_at ht
  obtain ⟨a, ha⟩ := mu_of S hk
  obtain ⟨fP, ps, hP, aP, t1, t2⟩ := S.cel k _ a hk ha
  subst aP
  refine PySem.W.kla_eval hdef ?_
  have bP : s.heap.BuiltinsAt X.mg a := TB.bm.keeps I.bk
  have oP : s.heap.get? a = some { cls := .none, data := .fields ps } := I.hok a _ hP
  have nofr : ∀ f, s.heap.objs.size ≤ f → f ∉ frs X.stack := fun f hf z => by
    rcases List.mem_cons.mp (I.stkSub _ z) with e | e
    · exact Nat.lt_irrefl _ (Nat.lt_of_lt_of_le (show f < s.heap.objs.size by rw [e]; exact I.lt) hf)
    · exact I.nofs hf e
  cases hc : codeAmong pos ps.toList with
  | none =>
    refine PySem.W.kla_makeFunction (mg := X.mg) (c := c) (P := a) (ps := ps) (closure_ok hfree) I.ok.glob (I.mod.glob.keeps I.bk) hcode (TB.code.keeps I.bk) oP t1 hc TB.gP bP fun c' ctv h' tk hx hge hlt hrec htb => ?_
    obtain ⟨c2, oc, vs, t, e2, hoc, hd, hv⟩ := hrec
    cases e2
    have nC : H c' = none := I.hok.fresh hge
    have hsz : s.heap.objs.size ≤ h'.objs.size := Nat.le_trans hge (Nat.le_of_lt hlt)
    have I0 := inv_table (t' := tk) (more := #[rawInt pos.line, rawInt pos.col, .ref c']) (h' := h') I hP (fun b o hb e => hx b o hb e) htb hge ⟨oc, vs, t, hoc, hd, hv⟩
    have I1 := I0.laid (t' := tk) (h' := h'.push (lamObj X params body scope ((X.mg "__name__").getD .none) c' ctv)) (a := h'.objs.size) (o := FnO h'.objs.size (lamObj X params body scope ((X.mg "__name__").getD .none) c' ctv)) (fun b o e => Heap.get?_push_of_some _ e) (Nat.le_refl _) (fnO_ok (Heap.get?_push_size _ rfl))
    have eL : (ps ++ #[rawInt pos.line, rawInt pos.col, .ref c']).toList = ps.toList ++ [rawInt pos.line, rawInt pos.col, .ref c'] := by simp
    obtain ⟨S1, X1⟩ := S.table (more := #[rawInt pos.line, rawInt pos.col, .ref c']) hk hP nC (by rw [eL]; exact PySem.TriplesOk_snoc _ _ _ _ t1) fun p' cv e => by
      rw [eL] at e
      exact among_app _ t1 e
    have n1 : h'.objs.size ≠ c' := Nat.ne_of_gt hlt
    have n2 : h'.objs.size ≠ a := Nat.ne_of_gt (Nat.lt_of_lt_of_le (Heap.lt_size oP) hsz)
    exact h h'.objs.size c' _ ctv _ _ _ I1 S1 X1 (by rw [upd_ne n1, upd_ne n2]; exact I.hok.fresh hsz) (nofr _ hsz) upd_same
  | some cv =>
    obtain ⟨c', e, hco⟩ := t2 pos cv hc
    subst e
    refine PySem.W.kla_makeFunctionHit (mg := X.mg) (c := c) (P := a) (ps := ps) (closure_ok hfree) I.ok.glob (I.mod.glob.keeps I.bk) hcode (TB.code.keeps I.bk) oP t1 hc bP fun ctv h' tk hx hsz => ?_
    have I0 : Inv X pins σ H { s with heap := h', toks := tk } := I.kept fun b o e => hx b o e
    have I1 := I0.laid (t' := tk) (h' := h'.push (lamObj X params body scope ((X.mg "__name__").getD .none) c' ctv)) (a := h'.objs.size) (o := FnO h'.objs.size (lamObj X params body scope ((X.mg "__name__").getD .none) c' ctv)) (fun b o e => Heap.get?_push_of_some _ e) (Nat.le_refl _) (fnO_ok (Heap.get?_push_size _ rfl))
    exact h h'.objs.size c' _ ctv F H _ I1 S .refl (I.hok.fresh hsz) (nofr _ hsz) hco
end
/-- a lambda of a def: its written form -/
structure LamT where
  params : Arguments
  body : Expr
  scope : Scope
/-- the function at f is that lambda, of this frame -/
def FnAt (X : Cx) (μ : List Addr) (F H : Hp) (f : Addr) (L : LamT) : Prop :=
  ∃ (c' : Addr) (pm ctv : Value), H f = some (FnO f (lamObj X L.params L.body L.scope pm c' ctv)) ∧ f ∉ μ ∧ F f = none ∧ f ∉ frs X.stack ∧ F c' = some (CodeO c' (X.env.qual ++ "<lambda>"))
section
variable {K : PySem.W.Frag} {μ μ' : List Addr} {F F' H H' : Hp} {a : Addr} {o : HO}
/-- what stands beside stays there -/
theorem Ext.aside (x : Ext μ F H μ' F' H') (h : H a = some o) (h1 : a ∉ μ) (h2 : F a = none) : H' a = some o ∧ a ∉ μ' ∧ F' a = none := by
  refine ⟨x.keep a o h h1, fun z => ?_, ?_⟩
  · obtain ⟨τ, e, nn⟩ := x.pre
    rw [e] at z
    rcases List.mem_append.mp z with z | z
    · exact h1 z
    · rw [nn a z] at h
      cases h
  · cases q : F' a with
    | none => rfl
    | some u =>
      rcases x.new a u q h2 with z | z
      · rw [z] at h
        cases h
      · exact absurd z h1
theorem FnAt.ext {X : Cx} {f : Addr} {L : LamT} (g : FnAt X μ F H f L) (x : Ext μ F H μ' F' H') : FnAt X μ' F' H' f L := by
  obtain ⟨c', pm, ctv, h1, h2, h3, h4, h5⟩ := g
  obtain ⟨q1, q2, q3⟩ := x.aside h1 h2 h3
  exact ⟨c', pm, ctv, q1, q2, q3, h4, x.fr _ _ h5⟩
theorem FnAt.upd {X : Cx} {f : Addr} {L : LamT} (g : FnAt X μ F H f L) {b : Addr} {u : HO} (hb : b ≠ f) : FnAt X μ F (upd H b u) f L := by
  obtain ⟨c', pm, ctv, h1, h2, h3, h4, h5⟩ := g
  exact ⟨c', pm, ctv, by rw [upd_ne (Ne.symm hb)]; exact h1, h2, h3, h4, h5⟩
end
end BV
namespace BV
open PySem PySem.Spec PyProof.Rows L2 LamX
/-! ### a comprehension none of whose items is kept; its test may lean on the frame around it -/
section
variable {X : Cx}
/-- within a block, the frame around it stands as it stood -/
theorem around_block {pins pb : List (Addr × Obj)} {σ σb : L2.St} {H H2 : Hp} {s s2 : Shared} {scope : Scope} {cenv : Env} {fp : List Addr} (I : Inv X pins σ H s) (hf : ∀ b ∈ fp, FpOk X pins H b) (J : Inv (X.blk s H scope cenv fp) pb σb H2 s2) : Inv X pins σ H2 s2 :=
  I.call' (ch := fp) J.os J.base J.hok J.bare fun b hb => ⟨(hf b hb).2.2.2.1, (hf b hb).2.1, (hf b hb).2.2.2.2.1, (hf b hb).2.2.2.2.2⟩
theorem pe_lcN {elt tg iter : Expr} {ifs : List Expr} {scope : Scope} {own : List (Str × Nat)} {pos : Pos} {wi : TI} {g : TG} {tt : L2.St → TT} (hc : X.calm = true) (hN : X.N.Nodup) (hi : PI X tg iter wi) (ok : BlkOk X.N X.env.scope scope own)
    (hg : ∀ (s : Shared) (H : Hp) (C : Addr) (cl : List (Str × Addr)) (fp : List Addr), PG (X.blk s H scope (compEnvC scope cl C X.env) fp) tg g)
    (ht : ∀ (pins : List (Addr × Obj)) (s : Shared) (σ : L2.St) (H : Hp) (C : Addr) (cl : List (Str × Addr)) (fp : List Addr), Inv X pins σ H s → (∀ b ∈ fp, FpOk X pins H b) → PTs (X.blk s H scope (compEnvC scope cl C X.env) fp) ifs (tt σ))
    (hs : ∀ x, foldedSetIterable iter X.env x = pure x := by intro _; rfl) :
    PE X (.ListComp elt [⟨tg, iter, ifs, 0⟩] scope pos) (fun σ H Q => tLc wi g (tt σ) (fun _ _ _ => False) (own.map (·.2)) σ H Q) := by
  refine ⟨fun pins s σ H Q I h => ?_⟩
  rw [eval_ListComp]
  have closed : ∀ y ∈ scope.names, y.2 = .free → ∃ c, X.env.cells.lookup y.1 = some c := fun y hy e => (ok.free y hy e).elim (fun k => I.ok.has _ (.inl k)) fun k => I.ok.has _ (.inr k)
  refine wpAny_comprehension_free (use := none) rfl hs (closure_ok closed) ok.kind (fun y hy e => by rw [ok.uniq y hy, e]) (thn (hi.run pins s σ H _ I h) fun xv s1 hx => thn hx fun itv s2 h2 => ?_)
  obtain ⟨it, fp, tn, J, H2, rfl, I2, T, at0, ff, q⟩ := h2
  refine wpAny_newObj_type (newEnv_comp ?_) (by show 0 ≤ sizeLine; decide)
  obtain ⟨W, ⟨m0, w0⟩, turn⟩ := q s2.heap.objs.size (I2.hok.fresh (Nat.le_refl _))
  let Hn : Hp := upd H2 s2.heap.objs.size (.lst [])
  let sn : Shared := { s2 with heap := s2.heap.push { cls := .type "list", data := .seq ([] : List Value).toArray } }
  have In : Inv X pins σ Hn sn := I2.laid (t' := s2.toks) (fun b o e => Heap.get?_push_of_some _ e) (Nat.le_refl _) ⟨Nat.zero_le _, [], 0, .nil, Heap.get?_push_size _ rfl⟩
  have lt2 : ∀ b ∈ fp, b < s2.heap.objs.size := fun b hb => by
    obtain ⟨o, e, _⟩ := T.obj _ _ at0 b hb
    exact Heap.lt_size e
  have fn : ∀ b ∈ fp, FpOk X pins Hn b := fun b hb => ⟨by
    show upd H2 _ _ b = none
    rw [upd_ne (Nat.ne_of_lt (lt2 b hb))]
    exact (ff b hb).1, (ff b hb).2⟩
  have ltn : ∀ b ∈ fp, b < sn.heap.objs.size := fun b hb => by
    show b < (s2.heap.push _).objs.size
    rw [Heap.size_push]
    exact Nat.lt_succ_of_lt (lt2 b hb)
  have atn : tn 0 sn.heap := T.keep _ _ _ at0 fun b _ o e => Heap.get?_push_of_some _ e
  let cenv : Env := compEnvC scope (cellsFrom (sn.heap.objs.size + 1) scope.names (cloFrom X.env.cells scope.names [])) sn.heap.objs.size X.env
  let sb : Shared := { sn with heap := pushCells (sn.heap.push { cls := .type "dict", data := .dict #[] }) scope.names }
  let B : Cx := X.blk sn Hn scope cenv fp
  have Ib : Inv B [] (wipe σ (own.map (·.2))) Hn sb := block_start In ok hN fun b hb => ⟨fn b hb, ltn b hb⟩
  have pt := ht pins sn σ Hn sn.heap.objs.size (cellsFrom (sn.heap.objs.size + 1) scope.names (cloFrom X.env.cells scope.names [])) fp In fn
  have pg := hg sn Hn sn.heap.objs.size (cellsFrom (sn.heap.objs.size + 1) scope.names (cloFrom X.env.cells scope.names [])) fp
  have atb : tn 0 sb.heap := T.keep _ _ _ atn fun b _ o e => pushCells_keeps _ _ _ _ (Heap.get?_push_of_some _ e)
  have okB : ∀ {σ' : L2.St} {H' : Hp} {s' : Shared}, Inv B [] σ' H' s' → (∀ b ∈ fp, H' b = none) → ∀ b ∈ fp, FpOk B [] H' b := fun {σ' H' s'} I' hn b hb =>
    ⟨hn b hb, (I'.ok.exf b hb).1, I'.ok.exfs b hb, .inl hb, fun x c e => (I'.ok.exf b hb).2 x c e, fun p hp => absurd (show p ∈ ([] : List (Addr × Obj)) ++ [] from hp) (by simp)⟩
  have loop : codeAny (model X.prog X.w) X.A (.compLoop (.ListComp elt [⟨tg, iter, ifs, 0⟩] scope pos) 0 (.ref it) (.ref s2.heap.objs.size) cenv) (compPost (model X.prog X.w) X.A X.xe none (EP X pins σ Q) (.ref s2.heap.objs.size) sn.heap.objs.size) sb := by
    refine compLoop_any (fun n s' => ∃ i H', Inv B [] (wipe σ (own.map (·.2))) H' s' ∧ tn i s'.heap ∧ (∀ b ∈ fp, H' b = none) ∧ W i n H') ?_ m0 ⟨0, Hn, Ib, atb, fun b hb => (fn b hb).1, w0⟩
    rintro n s5 ⟨i, H5, I5, at5, n5, w5⟩
    rcases turn i n H5 w5 with ⟨stop, qq⟩ | ⟨go, Nx, hNx, step⟩
    · refine thnF (T.done B rfl rfl rfl hc i [] s5 _ H5 (fun _ _ => False) I5 (okB I5 n5) at5 stop) fun r s6 ⟨hr, I6⟩ => ?_
      subst hr
      have I7 : Inv X pins σ H5 s6 := around_block In fn I6
      have nC : H5 sn.heap.objs.size = none := I6.free
      obtain ⟨m, hn, _⟩ := I6.loc
      obtain ⟨f0, f1, f2, f3, f4, f5⟩ := In.fpOk (Nat.le_refl _) nC
      exact ⟨m, hn, fun h'' sbut => ⟨.ref s2.heap.objs.size, H5, I7.turned (t' := s6.toks) (fun b o hb e => (sbut.2 b hb).trans e) f0 f1 f3 f4 f5, rfl, qq⟩⟩
    · refine thnF (T.item B rfl rfl rfl hc i [] s5 _ H5 (fun _ _ => False) I5 (okB I5 n5) at5 go) fun r s6 ⟨u, hr, h6⟩ => ?_
      subst hr
      refine thnF h6 fun _ s7 ⟨x, H7, I7, r7, y7, at7, n7⟩ => ?_
      have I7' := I7.pinned (okB I7 n7) (T.obj _ _ at7)
      refine thnF (pg.run _ s7 _ H7 x u _ I7' r7 (step x H7 y7)) fun _ s8 ⟨σ8, H8, I8, hw8, q8⟩ => ?_
      refine thnF (pt.run _ s8 σ8 H8 _ I8 q8) fun b s9 ⟨H9, I9, q9⟩ => ?_
      cases b with
      | true =>
        refine thnF (Q := fun _ _ => False) ?_ fun _ _ z => z.elim
        exact (show False from q9).elim
      | false =>
        simp only [Bool.false_eq_true, if_false] at q9 ⊢
        obtain ⟨m', hm, w'⟩ := hNx H9 q9
        have pin' : ∀ b ∈ fp, ∀ o, s7.heap.get? b = some o → s9.heap.get? b = some o ∧ H9 b = none := fun b hb o e =>
          let z := I9.pin (b, o) (List.mem_append_right _ (List.mem_append_right _ (mem_pinsAt hb e)))
          ⟨z.1, z.2.1⟩
        have hl : (wipe σ (own.map (·.2))).length = σ8.length := by rw [← hw8, wipe_length]
        refine ⟨m', hm, i + 1, H9, (I9.unpinned (pins := [])).weak hl (fun j v e => ?_), T.keep _ _ _ at7 fun b hb o e => (pin' b hb o e).1, fun b hb => ?_, w'⟩
        · rw [← hw8] at e
          exact (wipe_some e).1
        · obtain ⟨o, e, _⟩ := T.obj _ _ at7 b hb
          exact (pin' b hb o e).2
  exact codeAny_compStart_list loop (T.self X.A 0 _ _ _ atb loop)
end
end BV
namespace BV
open PySem PySem.Spec PyProof.Rows L2 LamX
/-! ### a lambda of a list, handed to a def that asks it -/
section
variable {X : Cx} {pins : List (Addr × Obj)} {σ : L2.St} {H : Hp} {s : Shared}
/-- a(), in that def, the function kept track of -/
theorem pe_askT {Ng : List Str} {x : Str} {sg : Scope} {g f c' : Addr} {cdg pm ctv : Value} {params : Arguments} {body : Expr} {scope : Scope} {k i : Nat} {a : Str} {pn : List (Addr × Obj)} {xe : Value → Shared → Prop} {W : WX} {fe : Rho → Cells → Res D} {p1 p2 : Pos}
    (I : Inv X pins σ H s) (L : LamS X.env.scope scope)
    (hbind : bindArgs (PySem.W.kla_fn "<lambda>" (X.env.qual ++ "<lambda>") params body scope (cloFrom X.env.cells scope.names []) pm (.ref c') ctv) ⟨[], []⟩ = pure [])
    (tk : Takes ((zcx X Ng x sg g cdg s H).tr pn xe) W) (hr : Room (k + 1) (X.A.deeper (envOfC x sg s.heap.objs.size g cdg))) (hgd : X.A.guards = some [])
    (hbody : ∀ (A : Around) (outer : List Env) (s : Shared) (H : Hp) (E : XK), A.guards = some [] → Room k (A.deeper (lamEnv X scope s.heap.objs.size f c')) → BE (lamCx X A outer s H E scope f c') (WF E) body fe)
    (hN : Ng[i]? = some a) (hv : Vis sg a) (hd : (a == ("__debug__" : Str)) = false := by decide) (hcd : (a == ("__classdict__" : Str)) = false := by decide) :
    PE ((zcx X Ng x sg g cdg s H).tr pn xe) (.Call (.Name a p1) [] [] p2)
      (fun σZ HZ Q => σZ[i]? = some (some (.ref f)) ∧ (HZ c' = some (CodeO c' (X.env.qual ++ "<lambda>")) ∧ HZ f = some (FnO f (lamObj X params body scope pm c' ctv))) ∧ rE X.K X.mg (fun cls d _ H' => W cls d σZ H') fe σ HZ Q) := by
  refine ⟨fun pinsZ sZ σZ HZ Q IZ h => ?_⟩
  obtain ⟨hs, ⟨hc, hfo⟩, ht⟩ := h
  refine wpAny_Call_Name_kw (thn ((pe_var (pos := p1) (i := i) hN hv hd hcd).run pinsZ sZ σZ HZ (fun v H1 => v = .ref f ∧ H1 = HZ) IZ ⟨.ref f, hs, rfl, rfl⟩) fun u s1 ⟨v, H1, I1, r1, q1⟩ => ?_)
  obtain ⟨rfl, rfl⟩ := q1
  obtain rfl : u = Value.ref f := r1
  have of1 : s1.heap.get? f = some (lamObj X params body scope pm c' ctv) := (I1.hok f _ hfo).1
  refine PySem.W.callWith_F0 ⟨_, _, _, _, of1⟩ ?_
  obtain ⟨⟨oc, vs, t, hoc, hdc, hvc⟩, _, _⟩ := I1.hok c' _ hc
  let A1 : Around := X.A.deeper (envOfC x sg s.heap.objs.size g cdg)
  let o1 : List Env := envOfC x sg s.heap.objs.size g cdg :: X.stack
  have rc : codeAny (model X.prog X.w) A1 (.call (.ref f) ⟨[], []⟩) (CR (L2.CX X.prog X.w) o1 X.prog X.w H1 s1 Q (WE W σZ)) s1 := by
    refine PySem.W.kla_callFunE hr.depth of1 rfl L.co L.gen rfl ⟨c', oc, vs, t, rfl, hoc, hdc, hvc⟩ ?_
    rw [hbind]
    refine wpAny_pure (wpAny_newFunctionEnv (fun y hy => (L.own y hy).2) (fun y hy => absurd hy (by simp)) (fun h₁ hns hsb => ⟨I1.nolimit.fresh _ hsb, ?_⟩) L.kind)
    have kp : ∀ b o, s1.heap.get? b = some o → h₁.get? b = some o := fun b o e => hsb.extBut b o (Nat.ne_of_lt (Heap.lt_size e)) (Heap.get?_push_of_some _ e)
    have J : Inv (lamCx X A1 o1 s1 H1 (WE W σZ) scope f c') [] σ H1 { s1 with heap := h₁, toks := s1.toks + ([] : List (Str × Value)).length } := lam_start2 I L I1.env0 hr.hd I1.base hns kp
    have hq := (hbody A1 o1 s1 H1 (WE W σZ) hgd (hr.deeper _)).run [] _ _ H1 Q J ht
    refine PySem.W.kla_codeExpr (wpAny_mono hq (fun v s' hq => ?_) fun e s' hq => hq)
    obtain ⟨w', H', J', rv, q⟩ := hq
    exact ⟨w', H', J'.os, J'.bare, J'.base, J'.hok, rv, q⟩
  refine wpAny_call (codeAny_mono rc fun r s' hq => ?_)
  cases r with
  | error e => exact passAt tk σZ pinsZ H1 s1 e s' I1 hq
  | ok fl =>
    cases fl with
    | ret u => exact I1.after hq
    | next => exact False.elim hq
    | brk => exact False.elim hq
    | cont => exact False.elim hq
/-- what is known of a lambda of the list -/
structure LamOk (X : Cx) (k : Nat) (L : LamT) (fe : Rho → Cells → Res D) : Prop where
  ls : LamS X.env.scope L.scope
  bd : ∀ (q : Str) (cl : List (Str × Addr)) (pm cv ctv : Value), bindArgs (PySem.W.kla_fn "<lambda>" q L.params L.body L.scope cl pm cv ctv) ⟨[], []⟩ = pure []
  bo : ∀ (A : Around) (outer : List Env) (s : Shared) (H : Hp) (E : XK) (f c' : Addr), A.guards = some [] → Room k (A.deeper (lamEnv X L.scope s.heap.objs.size f c')) → BE (lamCx X A outer s H E L.scope f c') (WF E) L.body fe
/-- x(a'), a' the slot j of the block: asked is the lambda L -/
def tHear (X : Cx) (k : Nat) (hd : Res D → Res D) (j : Nat) (σ0 : L2.St) : TE := fun σb Hb Q => ∃ (f : Addr) (L : LamT) (fe : Rho → Cells → Res D) (ρ : Rho) (C : Cells) (μ : List Addr) (F : Hp),
  σb[j]? = some (some (.ref f)) ∧ FnAt X μ F Hb f L ∧ LamOk X k L fe ∧ Sim X.K μ F C Hb ∧ ERel X.K μ F ρ σ0 ∧ kd (RD X.K) X.K X.mg W0 (hd (fe ρ C)) μ F σ0 Hb Q
theorem pe_hear {x a b : Str} {g : Addr} {k j : Nat} {pg : Arguments} {bg : List Stmt} {sg : Scope} {dV kV doc pm cdv ct oc : Value} {an od : Option Addr} {osl : Array (Option Value)} {Ng : List Str}
    {hd : Res D → Res D} {p p2 pos : Pos} {scope : Scope} {cenv : Env} {fp : List Addr} (I : Inv X pins σ H s) (hf : ∀ b ∈ fp, FpOk X pins H b)
    (hg : Gl (X.blk s H scope cenv fp) x) (hm : X.mg x = some (.ref g)) (hk : PySem.W.keepIn X.K (.ref g) = true)
    (lk : X.K.lookup g = some ⟨oc, od, .func (PySem.W.fnOf x x pg bg sg dV kV doc pm an cdv ct), osl⟩) (hcg : PySem.W.codeIn X.K cdv x = true) (hb : L2.Binds X.K (PySem.W.fnOf x x pg bg sg dV kV doc pm an cdv ct) [a] []) (Sg : FnScope Ng [a] sg) (hNg : Ng[0]? = some a) (hva : Vis sg a)
    (hG : Gives X Ng x sg g cdv bg a (X.env.qual ++ "<lambda>") hd) (hr : Room (k + 2) X.A) (hgd : X.A.guards = some [])
    (hv : PE (X.blk s H scope cenv fp) (.Name b p2) (tVar j))
    (hdb : (x == ("__debug__" : Str)) = false := by decide) (hd1 : (a == ("__debug__" : Str)) = false := by decide) (hcd : (a == ("__classdict__" : Str)) = false := by decide) :
    PE (X.blk s H scope cenv fp) (.Call (.Name x p) [.Name b p2] [] pos) (tHear X k hd j σ) := by
  refine ⟨fun pinsB sB σB HB Q IB h => ?_⟩
  obtain ⟨f, L, fe, ρ, C, μ, F, hs, ⟨c', pm', ctv, h1, h2, h3, h4, h5⟩, ok, S, E, k0⟩ := h
  refine wpAny_Call_Name_kw (ld_glob IB hg hm ?_ hdb)
  refine PySem.W.callWith_K (h₀ := X.base) IB.ok.mod.kin hk ?_ (by rfl) (by rfl)
  show wpAny _ _ (spliced ((false, eval (.Name b p2) cenv) :: [])) _ _ sB
  refine Calls.spliced_cons (thn (hv.run pinsB sB σB HB (fun v H1 => v = .ref f ∧ H1 = HB) IB ⟨.ref f, hs, rfl, rfl⟩) fun u s1 ⟨v, H1, I1, r1, q1⟩ => ?_)
  obtain ⟨rfl, rfl⟩ := q1
  obtain rfl : u = Value.ref f := r1
  have IX : Inv X pins σ H1 s1 := around_block I hf I1
  refine Calls.spliced_nil ⟨I1.kIn, ?_⟩
  have rc : codeAny (model X.prog X.w) X.A (.call (.ref g) ⟨[.ref f], []⟩) (CR CXN X.stack X.prog X.w H1 s1 Q EN) s1 := by
    refine run_ofS (N := Ng) (ps := [a]) (us := [.ref f]) (vs := [.ref f]) lk hcg Sg hr IX.env0 (hb s1 [.ref f] IX.kIn rfl) (.cons rfl .nil) rfl fun hr' => ?_
    obtain ⟨t', ht', hq'⟩ := hG f (fun HZ => HZ c' = some (CodeO c' (X.env.qual ++ "<lambda>")) ∧ HZ f = some (FnO f (lamObj X L.params L.body L.scope pm' c' ctv))) s1 H1 Q σ _ fe ρ C μ F
      (Nat.lt_of_le_of_lt (show (X.A.deeper (envOfC x sg s1.heap.objs.size g cdv)).units + 65 ≤ (X.A.deeper (envOfC x sg s1.heap.objs.size g cdv)).units + 16 * (k + 1) + 200 by omega) hr'.un) S E ⟨S.sub _ _ h5, h1⟩ rfl
      (fun W pn xe p1 p2 tk => pe_askT (i := 0) IX ok.ls (ok.bd _ _ _ _ _) tk hr' hgd (fun A outer s H E2 hg2 hr2 => ok.bo A outer s H E2 f c' hg2 hr2) hNg hva hd1 hcd) k0
    exact ⟨t', ht'.nox, hq'⟩
  refine wpAny_call (codeAny_mono rc fun r s2 hq => ?_)
  cases r with
  | error e => exact (show False from hq).elim
  | ok fl =>
    cases fl with
    | ret u => exact I1.after hq
    | next => exact False.elim hq
    | brk => exact False.elim hq
    | cont => exact False.elim hq
end
end BV
namespace BV
open PySem PySem.Spec PyProof.Rows L2 LamX
/-! ### xs = [lambda: ..]; xs.append(lambda: ..); if [x for x in xs if hear(x) != y] != []: .. -/
section
variable {X : Cx} {W : WX} {K : PySem.W.Frag} {μ μ' : List Addr} {F F' H H' : Hp} {C : Cells} {ρ : Rho} {σ : L2.St}
/-- slots of which nothing is told -/
theorem ERel.none' (e : ERel K μ F ρ σ) (i : Nat) (v : V) : ERel K μ F (ρ.set i none) (σ.set i (some v)) := by
  refine ⟨by simp [e.1], fun j d h => ?_⟩
  by_cases hj : j = i
  · subst hj
    by_cases hl : j < ρ.length
    · rw [List.getElem?_set_self hl] at h
      cases h
    · rw [List.getElem?_eq_none (by simpa using hl)] at h
      cases h
  · rw [List.getElem?_set_ne (Ne.symm hj)] at h ⊢
    exact e.2 j d h
theorem ERel.less (e : ERel K μ F ρ σ) (i : Nat) : ERel K μ F (ρ.set i none) σ := by
  refine ⟨by simp [e.1], fun j d h => ?_⟩
  by_cases hj : j = i
  · subst hj
    by_cases hl : j < ρ.length
    · rw [List.getElem?_set_self hl] at h
      cases h
    · rw [List.getElem?_eq_none (by simpa using hl)] at h
      cases h
  · rw [List.getElem?_set_ne (Ne.symm hj)] at h
    exact e.2 j d h
/-- a written lambda, as a value -/
def tLamV (X : Cx) (P : Addr) (L : LamT) : TE := fun σ H Q => ∃ (C : Cells) (μ : List Addr) (F : Hp), Sim X.K μ F C H ∧ hasTab (X.env.qual ++ "<lambda>") P C = true ∧
  ∀ (f : Addr) (F1 H1 : Hp), Sim X.K μ F1 C H1 → Ext μ F H μ F1 H1 → FnAt X μ F1 H1 f L → Q (.ref f) H1
theorem pe_lamV {c P : Addr} {params : Arguments} {body : Expr} {scope : Scope} {pos : Pos} (TB : TabB X.base X.mg c P) (hcode : X.env.code = .ref c) (hdef : defaultsOf params X.env = ([], [])) (L : LamS X.env.scope scope) :
    PE X (.Lambda params body scope pos) (tLamV X P ⟨params, body, scope⟩) := by
  refine ⟨fun pins s σ H Q I h => ?_⟩
  obtain ⟨C, μ, F, S, ht, k⟩ := h
  refine lam_madeT I TB hcode S ht hdef (L.has I.ok) fun f c' pm ctv F1 H1 s' I1 S1 X1 hn hfr hco => ?_
  obtain ⟨S2, X2⟩ := S1.beside (o := FnO f (lamObj X params body scope pm c' ctv)) hn
  exact ⟨.ref f, _, I1, rfl, k f F1 _ S2 (X1.trans X2) ⟨c', pm, ctv, upd_same, S1.notin hn, S1.free hn, hfr, hco⟩⟩
theorem Ext.over {a : Addr} {o : HO} (x : Ext μ F H μ' F' H') (h : H a = none) : Ext μ F H μ' F' (upd H' a o) := by
  refine ⟨x.pre, x.fr, fun b z => ?_, x.new, fun b u e hb => ?_⟩
  · by_cases hba : b = a
    · subst hba
      exact h
    · rw [upd_ne hba] at z
      exact x.thr b z
  · rw [upd_ne (ne_of_none e h)]
    exact x.keep b u e hb
/-- the list at a holds the lambdas Ls; it is new since H0 -/
def AskAt (X : Cx) (i : Nat) (P : Addr) (Ls : List LamT) (μ : List Addr) (F H H0 : Hp) (C : Cells) (σ : L2.St) : Prop :=
  ∃ (a : Addr) (fs : List Addr), σ[i]? = some (some (.ref a)) ∧ H a = some (.lst (fs.map V.ref)) ∧ a ∉ μ ∧ F a = none ∧ H0 a = none ∧ fs.length = Ls.length ∧ (∀ p ∈ fs.zip Ls, FnAt X μ F H p.1 p.2) ∧ hasTab (X.env.qual ++ "<lambda>") P C = true
def rAsks (X : Cx) (W : WX) (i : Nat) (P : Addr) (Ls : List LamT) (f : Rho → Cells → Out) : TS := fun D σ H => ∃ ρ C μ F μ0 F0 H0, Sim X.K μ F C H ∧ ERel X.K μ F ρ σ ∧ Ext μ0 F0 H0 μ F H ∧ AskAt X i P Ls μ F H H0 C σ ∧ sd X.K X.mg W (f ρ C) D μ0 F0 H0
abbrev Asks (X : Cx) (W : WX) (i : Nat) (P : Addr) (Ls : List LamT) (ss : List Stmt) (f : Rho → Cells → Out) : Prop := PSs X ss (rAsks X W i P Ls f)
def sAsks (i : Nat) (q : Str) (P : Addr) (f : Rho → Cells → Out) : Rho → Cells → Out := fun ρ C => if hasTab q P C = true ∧ i < ρ.length then f (ρ.set i none) C else .stuck
theorem asks_start {c P : Addr} {i : Nat} {y : Str} {params : Arguments} {body : Expr} {scope : Scope} {lpos pos1 pos2 pos3 : Pos} {ss : List Stmt} {f : Rho → Cells → Out} (TB : TabB X.base X.mg c P) (hcode : X.env.code = .ref c) (hdef : defaultsOf params X.env = ([], [])) (L : LamS X.env.scope scope)
    (hN : X.N.Nodup) (hi : X.N[i]? = some y) (hx : Loc X.env.scope y) (next : Asks X W i P [⟨params, body, scope⟩] ss f)
    (hs : swapsWith (.List [.Lambda params body scope lpos] pos1) (some (.Name y pos2)) pos3.line X.env = pure false := by rfl)
    (hst : starEach [.Lambda params body scope lpos] X.env = (false, eval (.Lambda params body scope lpos) X.env) :: starEach [] X.env := by rfl)
    (hf : X.fn y = true ∨ X.env.scope.names.lookup y = some .local := by first | exact .inl rfl | exact .inr rfl | assumption) :
    BSs X W (.Assign [.Name y pos2] (.List [.Lambda params body scope lpos] pos1) pos3 :: ss) (sAsks i (X.env.qual ++ "<lambda>") P f) := by
  refine pssI (pss_cons (ps_set hN hi hx (pe_lst (pa_cons (pe_lamV (pos := lpos) TB hcode hdef L) pa_nil hst)) hs hf) next) ?_
  rintro D σ H ⟨ρ, C, μ, F, S, E, k⟩
  unfold sAsks at k
  split at k
  · rename_i ht
    refine ⟨C, μ, F, S, ht.1, fun fn F1 H1 S1 X1 hfn => ?_⟩
    refine ⟨by rw [sizeLine_eq]; exact (show 1 ≤ 16777216 by decide), fun a ha => ?_⟩
    obtain ⟨S2, X2⟩ := S1.beside (o := .lst [V.ref fn]) ha
    have hne : a ≠ fn := fun e => by
      obtain ⟨_, _, _, h1, _⟩ := hfn
      rw [← e, ha] at h1
      cases h1
    have Xa := X1.trans X2
    refine ⟨ρ.set i none, C, μ, F1, μ, F, H, S2, (Xa.env E).none' i _, Xa, ⟨a, [fn], ?_, upd_same, S1.notin ha, S1.free ha, X1.thr a ha, rfl, fun p hp => ?_, ht.1⟩, k⟩
    · rw [List.getElem?_set_self (by rw [← E.1]; exact ht.2)]
    · simp only [List.zip_cons_cons, List.zip_nil_right, List.mem_singleton] at hp
      subst hp
      exact hfn.upd hne
  · exact k.elim
theorem asks_app {c P : Addr} {i : Nat} {y : Str} {params : Arguments} {body : Expr} {scope : Scope} {lpos p1 p2 p3 p4 : Pos} {ss : List Stmt} {f : Rho → Cells → Out} {Ls : List LamT} (TB : TabB X.base X.mg c P) (hcode : X.env.code = .ref c) (hdef : defaultsOf params X.env = ([], [])) (L : LamS X.env.scope scope)
    (hv : PE X (.Name y p1) (tVar i)) (h : ∀ {ta tb : TE}, PE X (.Name y p1) ta → PE X (.Lambda params body scope lpos) tb → PE X (.Call (.Attribute (.Name y p1) "append" p2) [.Lambda params body scope lpos] [] p3) (tBM X.K "list" rAppend ta (tCons tb tNil)))
    (next : Asks X W i P (Ls ++ [⟨params, body, scope⟩]) ss f) (hl : Ls.length < 1000 := by simp)
    (hs : swapsWith (.Call (.Attribute (.Name y p1) "append" p2) [.Lambda params body scope lpos] [] p3) none p4.line X.env = pure false := by rfl) :
    Asks X W i P Ls (.Expr (.Call (.Attribute (.Name y p1) "append" p2) [.Lambda params body scope lpos] [] p3) p4 :: ss) f := by
  refine pssI (pss_cons (ps_expr (h hv (pe_lamV TB hcode hdef L)) hs) next) ?_
  rintro D σ H ⟨ρ, C, μ, F, μ0, F0, H0, S, E, X0, ⟨a, fs, h1, h2, h3, h4, h5, h6, h7, ht⟩, k⟩
  refine ⟨.ref a, h1, .inl ⟨rfl, _, SqL.of h2⟩, C, μ, F, S, ht, fun fn F1 H1 S1 X1 hfn => ?_⟩
  obtain ⟨g1, g2, g3⟩ := X1.aside h2 h3 h4
  have hne : a ≠ fn := fun e => by
    obtain ⟨_, _, _, q1, _⟩ := hfn
    rw [← e, g1] at q1
    cases q1
  refine ⟨a, fs.map V.ref, .ref fn, rfl, rfl, g1, by rw [List.length_map, h6, sizeLine_eq]; omega, ?_⟩
  refine ⟨ρ, C, μ, F1, μ0, F0, H0, S1.other g2 g3, X1.env E, (X0.trans X1).over h5, ⟨a, fs ++ [fn], h1, by rw [upd_same]; simp, g2, g3, h5, by simp [h6], fun p hp => ?_, ht⟩, k⟩
  rw [List.zip_append h6] at hp
  have fne : ∀ {fx : Addr} {Lx : LamT}, FnAt X μ F1 H1 fx Lx → a ≠ fx := fun {fx Lx} q e => by
    obtain ⟨_, _, _, q1, _⟩ := q
    rw [← e, g1] at q1
    cases q1
  rcases List.mem_append.mp hp with hp | hp
  · have q := (h7 p hp).ext X1
    exact q.upd (fne q)
  · simp only [List.zip_cons_cons, List.zip_nil_right, List.mem_singleton] at hp
    subst hp
    exact hfn.upd hne
end
end BV
namespace BV
open PySem PySem.Spec PyProof.Rows L2 LamX
/-! ### all lambdas of the list asked, each answer held beside what is awaited -/
def askAll (hd : Res D → Res D) (fx : Rho → Cells → Res D) (ρ : Rho) : List (Rho → Cells → Res D) → Cells → Option Cells
  | [], C => some C
  | fe :: fes, C => match hd (fe ρ C) with
    | .ok r C1 => match fx ρ C1 with
      | .ok y C2 => match eqD true r y C2 with
        | .ok (.bl false) C3 => askAll hd fx ρ fes C3
        | _ => none
      | _ => none
    | _ => none
def sAsked (j : Nat) (hd : Res D → Res D) (fx : Rho → Cells → Res D) (fes : List (Rho → Cells → Res D)) (g : Rho → Cells → Out) : Rho → Cells → Out := fun ρ C => if j < ρ.length then match askAll hd fx (ρ.set j none) fes C with
  | some C1 => g ρ C1
  | none => .stuck
  else .stuck
theorem askAll_cons {hd : Res D → Res D} {fx fe : Rho → Cells → Res D} {fes : List (Rho → Cells → Res D)} {ρ : Rho} {C C9 : Cells} (h : askAll hd fx ρ (fe :: fes) C = some C9) :
    ∃ r C1 y C2 C3, hd (fe ρ C) = .ok r C1 ∧ fx ρ C1 = .ok y C2 ∧ eqD true r y C2 = .ok (.bl false) C3 ∧ askAll hd fx ρ fes C3 = some C9 := by
  unfold askAll at h
  split at h
  · rename_i r C1 e1
    split at h
    · rename_i y C2 e2
      split at h
      · rename_i C3 e3
        exact ⟨r, C1, y, C2, C3, e1, e2, e3, h⟩
      · cases h
    · cases h
  · cases h
section
variable {X : Cx} {W : WX}
/-- != of data, the library's rule -/
def rNeB (K : PySem.W.Frag) : R2 := fun x y H Q => rNe x y H Q ∨ rNeD K x y H Q
theorem op_neB (hu : X.A.units + 64 < cLine) : OpR X (compareOp .NotEq) (rNeB X.K) := op_ne.or (op_neD hu)
theorem ne_hk {K : PySem.W.Frag} {mg : Str → Option Value} {x y : D} {C : Cells} {v w : V} {μ : List Addr} {F H : Hp} {σ : L2.St} {Q : VK} (S : Sim K μ F C H) (r1 : Rep K μ F v x) (r2 : Rep K μ F w y) (k : kd (RD K) K mg W (eqD true x y C) μ F σ H Q) : rNeB K v w H Q := by
  unfold eqD at k
  split at k
  · rename_i a b
    cases r1
    cases r2
    refine .inl ⟨rfl, ?_⟩
    have e : decide (V.str a = V.str b) = decide (a = b) := by simp
    rw [e]
    exact kd_ret S (.bl _) k
  · split at k
    · rename_i a b e1 e2
      split at k
      · rename_i z
        exact .inr ⟨a, b, toPyC_dp S e1 r1, toPyC_dp S e2 r2, z.1, z.2, kd_ret S (.bl _) k⟩
      · exact k.elim
    · exact k.elim
theorem asks_end {P : Addr} {i j : Nat} {b y x a : Str} {Ls : List LamT} {fes : List (Rho → Cells → Res D)} {k : Nat} {hd : Res D → Res D} {fx : Rho → Cells → Res D} {g : Rho → Cells → Out} {xe : Expr} {scope : Scope} {body rest : List Stmt} {fb : Rho → Cells → Out}
    {p1 p2 p3 p4 p5 p6 p7 p8 p9 pA : Pos} {st : Stmt} {ga : Addr} {fd : FuncData} {Ng : List Str} (hc : X.calm = true) (hN : X.N.Nodup) (ok : BlkOk X.N X.env.scope scope [(b, j)])
    (Da : DefAt X.K X.mg x st [a] ga fd) (Sg : FnScope Ng [a] (defScope st)) (hG : ∀ cdv : Value, Gives X Ng x (defScope st) ga cdv (defBody st) a (X.env.qual ++ "<lambda>") hd) (hr : Room (k + 2) X.A) (hgd : X.A.guards = some []) (hu : X.A.units + 64 < cLine)
    (hv : PE X (.Name y p1) (tVar i)) (hg : ∀ (s : Shared) (H : Hp) (C : Addr) (cl : List (Str × Addr)) (fp : List Addr), PG (X.blk s H scope (compEnvC scope cl C X.env) fp) (.Name b p2) (gName j))
    (hb : ∀ (s : Shared) (H : Hp) (C : Addr) (cl : List (Str × Addr)) (fp : List Addr), PE (X.blk s H scope (compEnvC scope cl C X.env) fp) (.Name b p3) (tVar j))
    (hxe : ∀ (s : Shared) (H : Hp) (C : Addr) (cl : List (Str × Addr)) (fp : List Addr), BE (X.blk s H scope (compEnvC scope cl C X.env) fp) W0 xe fx)
    (hgx : ∀ (s : Shared) (H : Hp) (C : Addr) (cl : List (Str × Addr)) (fp : List Addr), Gl (X.blk s H scope (compEnvC scope cl C X.env) fp) x)
    (hl : Ls.length = fes.length) (hL : ∀ p ∈ Ls.zip fes, LamOk X k p.1 p.2) (hbody : BSs X W body fb) (next : BSs X W rest g)
    (hNg : Ng[0]? = some a := by rfl) (hva : Vis (defScope st) a := by first | exact .inl rfl | exact .inr (.inl rfl))
    (hm1 : behindInMarks .NotEq xe = false := by with_unfolding_all rfl) (hm2 : behindInMarks .NotEq (.List [] p5) = false := by with_unfolding_all rfl)
    (hs : ∀ x, foldedSetIterable (.Name y p1) X.env x = pure x := by intro _; rfl)
    (hdb : (x == ("__debug__" : Str)) = false := by decide) (hd1 : (a == ("__debug__" : Str)) = false := by decide) (hcd : (a == ("__classdict__" : Str)) = false := by decide) :
    Asks X W i P Ls (.If (.Compare (.ListComp (.Name b p4) [⟨.Name b p2, .Name y p1, [.Compare (.Call (.Name x p6) [.Name b p3] [] p7) [.NotEq] [xe] p8], 0⟩] scope p9) [.NotEq] [.List [] p5] pA) body [] pos :: rest) (sAsked j hd fx fes g) := by
  obtain ⟨oc, od, kV, doc, pm, an, cdv, ct, osl, rfl, look, code⟩ := Da.F.ex
  have lc := pe_lcN (X := X) (elt := .Name b p4) (tg := .Name b p2) (iter := .Name y p1) (ifs := [.Compare (.Call (.Name x p6) [.Name b p3] [] p7) [.NotEq] [xe] p8]) (pos := p9) (wi := iList X.K (tVar i)) (g := gName j) (tt := fun σ => tTest (tOp (rNeB X.K) (tHear X k hd j σ) (rE X.K X.mg W0 fx))) hc hN (pi_list hv) ok hg
    (fun pins s σ H C cl fp I hf => pts_one (pt_cmpR (op_neB (X := X.blk s H scope (compEnvC scope cl C X.env) fp) hu) (pe_hear I hf (hgx s H C cl fp) Da.m Da.F.kp look code Da.b Sg hNg hva (hG cdv) hr hgd (hb s H C cl fp) hdb hd1 hcd) (hxe s H C cl fp) hm1)) hs
  refine pssI (pss_cons (ps_if (pt_cmpR (op_neB hu) lc (pe_lst pa_nil) hm2) hbody pss_nil) next) ?_
  rintro D σ H ⟨ρ, C, μ, F, μ0, F0, H0, S, E, X0, ⟨l, fs, h1, h2, h3, h4, h5, h6, h7, ht⟩, kk⟩
  unfold sAsked at kk
  split at kk
  case isFalse => exact kk.elim
  rename_i hj
  split at kk
  case h_2 => exact kk.elim
  rename_i C9 hask
  have lenF : fs.length = fes.length := by rw [h6, hl]
  refine ⟨.ref l, h1, l, rfl, ⟨_, SqL.of h2⟩, fun Dn hD => ?_⟩
  have Ej : ERel X.K μ F (ρ.set j none) σ := E.less j
  let I0 : Nat → Hp → Prop := fun t Hc => t ≤ fes.length ∧ ∃ C2 μ2 F2, LcInv X.K μ F H Dn C2 μ2 F2 Hc [] [] ∧ askAll hd fx (ρ.set j none) (fes.drop t) C2 = some C9
  refine ⟨fun t m Hc => m = fes.length - t ∧ I0 t Hc, ⟨fes.length, by simp, Nat.zero_le _, C, μ, F, ⟨⟨⟨[], by simp, fun a z => nomatch z⟩, Same.refl _, fun a z => by
      by_cases hb : a = Dn
      · subst hb; exact hD
      · rw [upd_ne hb] at z; exact z, fun a o e1 e2 => (by rw [e1] at e2; cases e2), fun a o e _ => by rw [upd_ne (ne_of_none e hD)]; exact e⟩,
    S.other (S.notin hD) (S.free hD), S.notin hD, S.free hD, upd_same, .nil⟩, by simpa using hask⟩, ?_⟩
  rintro t m Hc ⟨rfl, hle, C2, μ2, F2, L, hk⟩
  obtain ⟨x2, s2, d1, d2, d3, _⟩ := L
  obtain ⟨g1, g2, g3⟩ := x2.aside h2 h3 h4
  by_cases hlt : t < fes.length
  · right
    have hft : t < fs.length := by omega
    have hLt : t < Ls.length := by omega
    refine ⟨⟨_, V.ref fs[t], SqL.of g1, by simp [hft]⟩, fun Hc => I0 (t + 1) Hc, fun H' q => ⟨fes.length - (t + 1), by omega, rfl, q⟩, fun xv Hv yv => ?_⟩
    obtain ⟨rfl, hy⟩ := yv
    have ex : xv = V.ref fs[t] := by
      have := hy _ (SqL.of g1)
      simpa [hft] using this.symm
    subst ex
    rw [List.drop_eq_getElem_cons hlt] at hk
    obtain ⟨r, C3, yd, C4, C5, e1, e2, e3, hk⟩ := askAll_cons hk
    show wipe ((wipe σ [j]).set j (some (V.ref fs[t]))) [j] = wipe σ [j] ∧ _
    refine ⟨by simp [wipe], ?_⟩
    have hmemF : (fs[t], Ls[t]) ∈ fs.zip Ls := List.mem_iff_getElem.mpr ⟨t, by simp; omega, by simp⟩
    have hmemL : (Ls[t], fes[t]) ∈ Ls.zip fes := List.mem_iff_getElem.mpr ⟨t, by simp; omega, by simp⟩
    have hjσ : j < σ.length := by rw [← E.1]; exact hj
    refine ⟨fs[t], Ls[t], fes[t], ρ.set j none, C2, μ2, F2, by simp [wipe, hjσ], (h7 _ hmemF).ext x2, hL _ hmemL, s2, x2.env Ej, ?_⟩
    rw [e1]
    intro w3 μ3 F3 H3 x3 s3 r3
    have E3 : ERel X.K μ3 F3 (ρ.set j none) ((wipe σ [j]).set j (some (V.ref fs[t]))) := by
      have q := ((x2.trans x3).env E).none' j (V.ref fs[t])
      have eσ : (wipe σ [j]).set j (some (V.ref fs[t])) = σ.set j (some (V.ref fs[t])) := by simp [wipe]
      rw [eσ]
      exact q
    refine ⟨ρ.set j none, C3, μ3, F3, s3, E3, ?_⟩
    rw [e2]
    intro w4 μ4 F4 H4 x4 s4 r4
    refine ne_hk (W := W0) (σ := σ) (mg := X.mg) s4 (x4.rep r3) r4 ?_
    rw [e3]
    intro w5 μ5 F5 H5 x5 s5 r5
    cases r5
    refine ⟨false, rfl, ?_⟩
    show I0 (t + 1) H5
    have xa := x3.trans (x4.trans x5)
    obtain ⟨q1, q2, q3⟩ := xa.aside d3 d1 d2
    exact ⟨hlt, C5, μ5, F5, ⟨x2.trans xa, s5, q2, q3, q1, .nil⟩, hk⟩
  · left
    have et : t = fes.length := by omega
    subst et
    rw [List.drop_length] at hk
    cases hk
    refine ⟨⟨_, SqL.of g1, by rw [List.length_map]; omega⟩, ?_⟩
    refine kd_adopt (Q := fun x H1 => tLst tNil σ H1 fun y H2 => rNeB X.K x y H2 fun x H' => ∃ k, x = V.bl k ∧ (fun b H1 => if b = true then rS X.K X.mg W fb { nx := rS X.K X.mg W g D, rt := D.rt, bk := D.bk, ct := D.ct } σ H1 else tNext { nx := rS X.K X.mg W g D, rt := D.rt, bk := D.bk, ct := D.ct } σ H1) k H') (mg := X.mg) (W := W0) (σ := σ) (m := false) (ds := []) s2 x2 hD d1 d2 d3 .nil (fun w3 μ3 F3 H3 x3 s3 r3 => ?_)
    refine ⟨by simp, fun p hp => kd_mkL (Q := fun y H2 => rNeB X.K w3 y H2 fun x H' => ∃ k, x = V.bl k ∧ (fun b H1 => if b = true then rS X.K X.mg W fb { nx := rS X.K X.mg W g D, rt := D.rt, bk := D.bk, ct := D.ct } σ H1 else tNext { nx := rS X.K X.mg W g D, rt := D.rt, bk := D.bk, ct := D.ct } σ H1) k H') (mg := X.mg) (W := W0) (σ := σ) (m := false) (ds := []) s3 hp .nil (fun w4 μ4 F4 H4 x4 s4 r4 => ?_)⟩
    refine ne_hk (W := W0) (σ := σ) (mg := X.mg) (y := .lst []) s4 (x4.rep r3) r4 (show kd (RD X.K) X.K X.mg W0 (.ok (.bl false) C9) μ4 F4 σ H4 _ from ?_)
    intro w5 μ5 F5 H5 x5 s5 r5
    cases r5
    refine ⟨false, rfl, ?_⟩
    show rS X.K X.mg W g D σ H5
    have xa := x3.trans (x4.trans x5)
    exact ⟨ρ, C9, μ5, F5, s5, xa.env E, sd_mono (X0.trans xa) kk⟩
end
end BV
namespace BV
open PySem PySem.Spec PyProof.Rows L2 LamX
section
variable {X : Cx} {k : Nat}
theorem lamOks_nil : ∀ p ∈ ([] : List LamT).zip ([] : List (Rho → Cells → Res D)), LamOk X k p.1 p.2 := fun _ h => nomatch h
theorem lamOks_cons {L : LamT} {fe : Rho → Cells → Res D} {Ls : List LamT} {fes : List (Rho → Cells → Res D)} (h : LamOk X k L fe) (t : ∀ p ∈ Ls.zip fes, LamOk X k p.1 p.2) : ∀ p ∈ (L :: Ls).zip (fe :: fes), LamOk X k p.1 p.2 := fun p hp => by
  rcases List.mem_cons.mp hp with e | hp
  · rw [e]; exact h
  · exact t p hp
end
end BV
namespace BV
open PySem PySem.Spec PyProof.Rows L2 LamX
/-! ### {}.get(k) -/
section
variable {X : Cx} {W : WX} {e : Expr} {f : Rho → Cells → Res D} {p1 p2 p3 : Pos}
def fGet0 (f : Rho → Cells → Res D) : Rho → Cells → Res D := fun ρ C => (f ρ C).bind fun k C1 => match kOf k with
  | some _ => .ok .non C1
  | none => .stuck
@[simp] theorem e_get0 (f : Rho → Cells → Res D) (ρ : Rho) (C : Cells) : fGet0 f ρ C = (f ρ C).bind fun k C1 => match kOf k with
  | some _ => .ok .non C1
  | none => .stuck := rfl
theorem be_get0 (hu : X.A.units + 65 < cLine) (he : BE X W e f) (m : M1 X (.Dict [] [] p1) "get" p2 e p3 := by exact ⟨rfl, rfl, rfl, rfl⟩) : BE X W (.Call (.Attribute (.Dict [] [] p1) "get" p2) [e] [] p3) (fGet0 f) := by
  refine peI (pe_dget1 (by omega) pe_dnewK he m) ?_
  rintro σ H Q ⟨ρ, C, μ, F, S, E, k⟩
  intro a ha
  obtain ⟨S1, X1⟩ := S.beside (o := .dK []) ha
  refine ⟨a, rfl, .inl ⟨[], .inl upd_same⟩, ρ, C, μ, F, S1, X1.env E, kd_bind (kd_mono X1 k) fun d C1 v μ1 F1 H1 x1 s1 r1 h1 => ?_⟩
  split at h1
  · rename_i kk ek
    have ev := kOf_rep ek r1
    have ha1 : H1 a = some (.dK []) := x1.keep a _ upd_same (S.notin ha)
    exact ⟨none, .inl ⟨[], kk, .inl ha1, ev, rfl⟩, kd_ret s1 .non h1⟩
  · exact h1.elim
end
end BV
namespace BV
open PySem PySem.Spec PyProof.Rows L2 LamX TL
/-! ### what repr of a list tells of it: lists of plain items are told apart -/
def jl : List (List Nat) → List Nat
  | [] => []
  | [x] => x
  | x :: y :: r => x ++ 44 :: 32 :: jl (y :: r)
theorem app_comma : ∀ {x y A B : List Nat}, 44 ∉ x → 44 ∉ y → x ++ 44 :: A = y ++ 44 :: B → x = y ∧ A = B
  | [], [], A, B, _, _, h => ⟨rfl, by simpa using h⟩
  | [], b :: y, A, B, _, hy, h => by
    simp only [List.nil_append, List.cons_append, List.cons.injEq] at h
    exact absurd (by rw [← h.1]; simp) hy
  | a :: x, [], A, B, hx, _, h => by
    simp only [List.nil_append, List.cons_append, List.cons.injEq] at h
    exact absurd (by rw [h.1]; simp) hx
  | a :: x, b :: y, A, B, hx, hy, h => by
    simp only [List.cons_append, List.cons.injEq] at h
    simp only [List.mem_cons, not_or] at hx hy
    obtain ⟨h1, h2⟩ := app_comma hx.2 hy.2 h.2
    exact ⟨by rw [h.1, h1], h2⟩
theorem jl_inj : ∀ {xs ys : List (List Nat)}, (∀ x ∈ xs, 44 ∉ x ∧ x ≠ []) → (∀ y ∈ ys, 44 ∉ y ∧ y ≠ []) → jl xs = jl ys → xs = ys
  | [], [], _, _, _ => rfl
  | [], [y], _, hy, h => absurd h.symm (hy y (by simp)).2
  | [], y :: z :: r, _, hy, h => by
    have h' : ([] : List Nat) = y ++ 44 :: 32 :: jl (z :: r) := h
    cases y <;> cases h'
  | [x], [], hx, _, h => absurd h (hx x (by simp)).2
  | x :: z :: r, [], hx, _, h => by
    have h' : x ++ 44 :: 32 :: jl (z :: r) = ([] : List Nat) := h
    cases x <;> cases h'
  | [x], [y], _, _, h => by
    have h' : x = y := h
    rw [h']
  | [x], y :: z :: r, hx, _, h => by
    have h' : x = y ++ 44 :: 32 :: jl (z :: r) := h
    exact absurd (by rw [h']; simp) (hx x (by simp)).1
  | x :: z :: r, [y], _, hy, h => by
    have h' : x ++ 44 :: 32 :: jl (z :: r) = y := h
    exact absurd (by rw [← h']; simp) (hy y (by simp)).1
  | x :: x2 :: r, y :: y2 :: q, hx, hy, h => by
    have h' : x ++ 44 :: 32 :: jl (x2 :: r) = y ++ 44 :: 32 :: jl (y2 :: q) := h
    obtain ⟨h1, h2⟩ := app_comma (hx x (by simp)).1 (hy y (by simp)).1 h'
    simp only [List.cons.injEq, true_and] at h2
    rw [h1, jl_inj (fun z hz => hx z (List.mem_cons_of_mem _ hz)) (fun z hz => hy z (List.mem_cons_of_mem _ hz)) h2]
abbrev tx (p : PyData) : List Nat := p.shown.cps.toList
theorem join_jl : ∀ ps : List PyData, (Str.join ", " (PyData.shownAll ps)).cps.toList = jl (ps.map tx)
  | [] => rfl
  | [p] => rfl
  | p :: q :: r => by
    have ih := join_jl (q :: r)
    rw [PyData.shownAll_cons, PyData.shownAll_cons, join_cons_cons, cps_toList_append, cps_toList_append, signs_sep]
    rw [PyData.shownAll_cons] at ih
    rw [ih]
    simp [jl]
/-- items: None, numbers from -1 on, two texts, True -/
def IU (p : PyData) : Prop := p = .none ∨ (∃ n : Nat, p = .int n) ∨ p = .int (-1) ∨ p = .str "torn" ∨ p = .str "Torn" ∨ p = .bool true
def dec (l : List Nat) : PyData := if l = [78, 111, 110, 101] then .none else if l = [45, 49] then .int (-1) else if l = [39, 116, 111, 114, 110, 39] then .str "torn" else if l = [39, 84, 111, 114, 110, 39] then .str "Torn" else if l = [84, 114, 117, 101] then .bool true else .int (NumText.digitsVal l : Nat)
theorem tx_num (n : Nat) : tx (.int (n : Int)) = numL n := by
  unfold tx
  rw [PyData.shown_int]
  exact tl_num n
theorem num_ne {n : Nat} {x : Nat} {l : List Nat} (h : x < 48 ∨ 57 < x) : numL n ≠ x :: l := fun e => numL_free h (by rw [e]; simp)
theorem dec_of {l : List Nat} {p : PyData} (h : dec l = p) (e : tx p = l) : dec (tx p) = p := by rw [e, h]
theorem dec_tx {p : PyData} (h : IU p) : dec (tx p) = p := by
  rcases h with rfl | ⟨n, rfl⟩ | rfl | rfl | rfl | rfl
  · exact dec_of (l := [78, 111, 110, 101]) rfl (by decide +kernel)
  · rw [tx_num]
    unfold dec
    rw [if_neg (num_ne (by omega)), if_neg (num_ne (by omega)), if_neg (num_ne (by omega)), if_neg (num_ne (by omega)), if_neg (num_ne (by omega)), numL_val]
  · exact dec_of (l := [45, 49]) rfl (by decide +kernel)
  · exact dec_of (l := [39, 116, 111, 114, 110, 39]) rfl (by decide +kernel)
  · exact dec_of (l := [39, 84, 111, 114, 110, 39]) rfl (by decide +kernel)
  · exact dec_of (l := [84, 114, 117, 101]) rfl (by decide +kernel)
theorem tx_ok {p : PyData} (h : IU p) : 44 ∉ tx p ∧ tx p ≠ [] := by
  rcases h with rfl | ⟨n, rfl⟩ | rfl | rfl | rfl | rfl
  · exact ⟨by decide +kernel, by decide +kernel⟩
  · rw [tx_num]
    exact ⟨numL_free (by omega), numL_ne n⟩
  all_goals exact ⟨by decide +kernel, by decide +kernel⟩
theorem map_dec : ∀ {ps : List PyData}, (∀ p ∈ ps, IU p) → (ps.map tx).map dec = ps
  | [], _ => rfl
  | p :: ps, h => by
    rw [List.map_cons, List.map_cons, dec_tx (h p (by simp)), map_dec fun q hq => h q (List.mem_cons_of_mem _ hq)]
theorem shown_list_inj {ps qs : List PyData} (hp : ∀ p ∈ ps, IU p) (hq : ∀ q ∈ qs, IU q) (h : (PyData.list ps).shown = (PyData.list qs).shown) : ps = qs := by
  have e := congrArg (fun x : Str => x.cps.toList) h
  simp only [PyData.shown_list, cps_toList_append, signs_lbrack, signs_rbrack, join_jl] at e
  have e2 : jl (ps.map tx) = jl (qs.map tx) := by
    have := List.append_cancel_right e
    simpa using this
  have ok : ∀ {rs : List PyData}, (∀ r ∈ rs, IU r) → ∀ x ∈ rs.map tx, 44 ∉ x ∧ x ≠ [] := fun {rs} hr x hx => by
    obtain ⟨r, hr2, rfl⟩ := List.mem_map.mp hx
    exact tx_ok (hr r hr2)
  have e3 := congrArg (fun l => l.map dec) (jl_inj (ok hp) (ok hq) e2)
  simp only [map_dec hp, map_dec hq] at e3
  exact e3
end BV
namespace BV
open PySem PySem.Spec PyProof.Rows L2 LamX
/-! ### len(set(x)), x a list of ints, some of them perhaps alike -/
def dcount (ns : List Int) : Nat := (firstMet (fun i => ns.getD i 0) ns.length).length
theorem dcount_nodup {ns : List Int} (h : ns.Nodup) : dcount ns = ns.length := by
  unfold dcount
  rw [RZ.firstMet_nodup h ns.length (Nat.le_refl _), List.take_length]
def tLenSetB (K : PySem.W.Frag) (ta : TE) : TE := fun σ H Q => ta σ H fun x H1 => ∃ (l : Addr) (ns : List Int), x = V.ref l ∧ SqL K H1 l (ns.map V.int) ∧ ns.length ≤ 4000 ∧ Q (.int (dcount ns : Nat)) H1
theorem pe_lenSetB {X : Cx} {a : Expr} {ta : TE} {p p2 q pos : Pos} (hg : Gl X "len") (hm : X.mg "len" = none) (hg2 : Gl X "set") (hm2 : X.mg "set" = none) (ha : PE X a ta) (hc : X.calm = true)
    (na : starEach [a] X.env = (false, eval a X.env) :: starEach [] X.env := by rfl) : PE X (.Call (.Name "len" p) [.Call (.Name "set" p2) [a] [] q] [] pos) (tLenSetB X.K ta) := by
  refine ⟨fun pins s σ H Q I h => ?_⟩
  refine Call_ (ld_blt I hg hm boot_len ?_)
  refine PyProof.Rows.callWith_builtin1 (PyProof.Rows.args_cons ?_ rfl) rfl rfl
  refine Call_ (ld_blt I hg2 hm2 boot_set ?_)
  refine PyProof.Rows.callWith_type1 (PyProof.Rows.args_cons (thn (ha.run pins s σ H _ I h) fun v s1 ⟨x, H1, I1, r1, q1⟩ => PyProof.Rows.args_nil ?_) na) na rfl
  obtain ⟨l, ns, rfl, hq, hl, q1⟩ := q1
  cases r1
  obtain ⟨its, r, pl, hz⟩ := I1.list hq
  have hlen : its.toArray.size = ns.length := by rw [List.size_toArray, ← r.length, List.length_map]
  refine call_set_list (I1.ok.hd hc) pl.isList (by simpa using RZ.intsAre_vals r) (by rw [hlen]; unfold scanBound; omega) fun h' tk hS hk => ?_
  refine PyProof.Rows.args_nil ?_
  rw [hlen] at hS
  have hle := firstMet_length_le (fun i => ns.getD i 0) ns.length
  obtain ⟨o, es, ep, t, ho, hex, hd, _, _, _, hf, hn⟩ := hS
  have I2 : Inv X pins σ H1 { s1 with heap := h', toks := tk } := I1.kept fun b o e => hk b o (Heap.lt_size e) e
  exact call_len_set ho hex hd hf (by rw [hn] <;> omega) ⟨.int (dcount ns : Nat), H1, I2.tok _, ⟨_, by rw [hn]; rfl⟩, q1⟩
end BV
namespace BV
open PySem PySem.Spec PyProof.Rows L2 LamX
/-! ### len(set(x)), x a tuple of ints -/
theorem nodup_le : ∀ {xs ys : List Int}, xs.Nodup → (∀ x ∈ xs, x ∈ ys) → xs.length ≤ ys.length
  | [], _, _, _ => Nat.zero_le _
  | x :: xs, ys, hx, h => by
    have hm := h x (by simp)
    have hn := List.nodup_cons.mp hx
    have ih := nodup_le (xs := xs) (ys := ys.erase x) hn.2 fun z hz => (List.mem_erase_of_ne (fun e => hn.1 (by rw [← e]; exact hz))).mpr (h z (List.mem_cons_of_mem _ hz))
    rw [List.length_erase_of_mem hm] at ih
    have := List.length_pos_of_mem hm
    rw [List.length_cons]
    omega
theorem firstMet_nd (val : Nat → Int) : ∀ i, (firstMet val i).Nodup
  | 0 => List.nodup_nil
  | i + 1 => by
    have ih := firstMet_nd val i
    rw [firstMet_succ]
    unfold step_dedup
    split
    · exact ih
    · rename_i h
      rw [List.nodup_append]
      refine ⟨ih, by simp, fun a ha b hb e => h ?_⟩
      simp only [List.mem_singleton] at hb
      subst hb
      subst e
      exact List.any_eq_true.mpr ⟨_, ha, by simp⟩
theorem firstMet_mem {ns : List Int} {k : Int} : k ∈ firstMet (fun i => ns.getD i 0) ns.length ↔ k ∈ ns := by
  have h := firstMet_any (fun i => ns.getD i 0) ns.length k
  have e : (List.range ns.length).map (fun i => ns.getD i 0) = ns := by
    apply List.ext_getElem?
    intro j
    by_cases hj : j < ns.length
    · simp [hj]
    · simp [hj]
  rw [e] at h
  have a : ∀ L : List Int, (L.any (· == k)) = true ↔ k ∈ L := fun L => by
    rw [List.any_eq_true]
    constructor
    · rintro ⟨x, hx, e⟩
      rw [← eq_of_beq e]; exact hx
    · intro hk
      exact ⟨k, hk, by simp⟩
  rw [← a, h, a]
theorem dcount_of {ns ks : List Int} (h : ks.Nodup) (hm : ∀ k, k ∈ ks ↔ k ∈ ns) : ks.length = dcount ns :=
  Nat.le_antisymm (nodup_le h fun x hx => firstMet_mem.mpr ((hm x).mp hx)) (nodup_le (firstMet_nd _ _) fun x hx => (hm x).mpr (firstMet_mem.mp hx))
def tLenSetT (K : PySem.W.Frag) (ta : TE) : TE := fun σ H Q => ta σ H fun x H1 => ∃ (l : Addr) (ns : List Int), x = V.ref l ∧ (SqL K H1 l (ns.map V.int) ∨ SqT K H1 l (ns.map V.int)) ∧ ns.length ≤ 4000 ∧ Q (.int (dcount ns : Nat)) H1
theorem pe_lenSetT {X : Cx} {a : Expr} {ta : TE} {p p2 q pos : Pos} (hg : Gl X "len") (hm : X.mg "len" = none) (hg2 : Gl X "set") (hm2 : X.mg "set" = none) (ha : PE X a ta) (hc : X.calm = true)
    (na : starEach [a] X.env = (false, eval a X.env) :: starEach [] X.env := by rfl) : PE X (.Call (.Name "len" p) [.Call (.Name "set" p2) [a] [] q] [] pos) (tLenSetT X.K ta) := by
  refine ⟨fun pins s σ H Q I h => ?_⟩
  refine Call_ (ld_blt I hg hm boot_len ?_)
  refine PyProof.Rows.callWith_builtin1 (PyProof.Rows.args_cons ?_ rfl) rfl rfl
  refine Call_ (ld_blt I hg2 hm2 boot_set ?_)
  refine PyProof.Rows.callWith_type1 (PyProof.Rows.args_cons (thn (ha.run pins s σ H _ I h) fun v s1 ⟨x, H1, I1, r1, q1⟩ => PyProof.Rows.args_nil ?_) na) na rfl
  obtain ⟨l, ns, rfl, hq, hl, q1⟩ := q1
  cases r1
  have hle := firstMet_length_le (fun i => ns.getD i 0) ns.length
  rcases hq with hq | hq
  · obtain ⟨its, r, pl, hz⟩ := I1.list hq
    have hlen : its.toArray.size = ns.length := by rw [List.size_toArray, ← r.length, List.length_map]
    refine call_set_list (I1.ok.hd hc) pl.isList (by simpa using RZ.intsAre_vals r) (by rw [hlen]; unfold scanBound; omega) fun h' tk hS hk => ?_
    refine PyProof.Rows.args_nil ?_
    rw [hlen] at hS
    obtain ⟨o, es, ep, t, ho, hex, hd, _, _, _, hf, hn⟩ := hS
    have I2 : Inv X pins σ H1 { s1 with heap := h', toks := tk } := I1.kept fun b o e => hk b o (Heap.lt_size e) e
    exact call_len_set ho hex hd hf (by rw [hn] <;> omega) ⟨.int (dcount ns : Nat), H1, I2.tok _, ⟨_, by rw [hn]; rfl⟩, q1⟩
  · obtain ⟨its, rv, pt, hz⟩ := I1.tuple hq
    refine call_set_tupI ns (I1.ok.hd hc) (show s1.heap.IsTuple l its.toArray from pt) (by simpa using RZ.intsAre_vals rv) (by unfold scanBound; omega) fun h' tk c R1 hcn k => ?_
    refine PyProof.Rows.args_nil ?_
    obtain ⟨o, es, ep, t, ho, hex, hd, g, nd, hm3, hb, hf, hn, hr, hl2⟩ := R1
    have hcount : es.size = dcount ns := by
      have := dcount_of (ns := ns) nd fun k => (hm3 k).symm.trans (by simp)
      rw [← this, List.length_map, Array.length_toList]
    have I2 : Inv X pins σ H1 { s1 with heap := h', toks := tk } := I1.kept k
    exact call_len_set ho hex hd hf (by omega) ⟨.int (dcount ns : Nat), H1, I2.tok _, ⟨_, by rw [hcount]⟩, q1⟩
end BV
namespace BV
open PySem PySem.Spec PyProof.Rows L2 LamX
/-! ### the number of different ints in a list or a tuple: len(set(x)) -/
def fLenSet (f : Rho → Cells → Res D) : Rho → Cells → Res D := fun ρ C => (f ρ C).bind fun x C1 => match (asS x C1).bind ints? with
  | some ns => if ns.length ≤ 4000 then .ok (.int (dcount ns : Nat)) C1 else .stuck
  | none => .stuck
@[simp] theorem e_lenSet (f : Rho → Cells → Res D) (ρ : Rho) (C : Cells) : fLenSet f ρ C = (f ρ C).bind fun x C1 => match (asS x C1).bind ints? with
  | some ns => if ns.length ≤ 4000 then .ok (.int (dcount ns : Nat)) C1 else .stuck
  | none => .stuck := rfl
section
variable {X : Cx} {W : WX} {e : Expr} {f : Rho → Cells → Res D} {p p2 q pos : Pos}
theorem be_lenSet (hc : X.calm = true) (hg : Gl X "len") (hm : X.mg "len" = none) (hg2 : Gl X "set") (hm2 : X.mg "set" = none) (he : BE X W e f)
    (na : starEach [e] X.env = (false, eval e X.env) :: starEach [] X.env := by rfl) : BE X W (.Call (.Name "len" p) [.Call (.Name "set" p2) [e] [] q] [] pos) (fLenSet f) := by
  refine peI (pe_lenSetT hg hm hg2 hm2 he hc na) ?_
  rintro σ H Q ⟨ρ, C, μ, F, S, E, k⟩
  refine ⟨ρ, C, μ, F, S, E, kd_bind k fun d C1 v μ1 F1 H1 x1 s1 r1 h1 => ?_⟩
  split at h1
  · rename_i ns e1
    simp only [Option.bind_eq_some_iff] at e1
    obtain ⟨ds, e2, e3⟩ := e1
    obtain ⟨a, vs, rfl, g, rs⟩ := asS_rep s1 r1 e2
    rw [ints?_eq e3] at rs
    rw [rs.of_ints] at g
    split at h1
    · rename_i hl
      exact ⟨a, ns, rfl, g, hl, kd_ret s1 (.int _) h1⟩
    · exact h1.elim
  · exact h1.elim
end
end BV
namespace BV
open PySem L2
/-! ### reckoning forward: what holds behind an expression, behind a statement -/
abbrev XP := Str → D → Cells → Prop
def NX : XP := fun _ _ _ => False
def WeP {α : Type} (X : XP) (Q : α → Cells → Prop) : Res α → Prop
  | .ok a C => Q a C
  | .ex c p C => X c p C
  | .stuck => False
structure We {α : Type} (X : XP) (Q : α → Cells → Prop) (r : Res α) : Prop where
  p : WeP X Q r
structure Po where
  rt : D → Cells → Prop
  bk : Rho → Cells → Prop
  ct : Rho → Cells → Prop
  ex : Str → D → Rho → Cells → Prop
def WoP (P : Po) (N : Rho → Cells → Prop) : Out → Prop
  | .nx ρ C => N ρ C
  | .rt d C => P.rt d C
  | .bk ρ C => P.bk ρ C
  | .ct ρ C => P.ct ρ C
  | .ex c p ρ C => P.ex c p ρ C
  | .stuck => False
structure Wo (P : Po) (N : Rho → Cells → Prop) (o : Out) : Prop where
  p : WoP P N o
/-- nothing but a return -/
def rtP (R : D → Cells → Prop) : Po := ⟨R, fun _ _ => False, fun _ _ => False, fun _ _ _ _ => False⟩
/-- a return, or an error -/
def rxP (R : D → Cells → Prop) (X : XP) : Po := ⟨R, fun _ _ => False, fun _ _ => False, fun c p _ C => X c p C⟩
section
variable {α β : Type} {X : XP} {Q : α → Cells → Prop} {r : Res α} {C C1 : Cells} {ρ ρ1 : Rho} {P : Po} {N : Rho → Cells → Prop} {o : Out}
theorem w_ok {a : α} (q : Q a C) : We X Q (.ok a C) := ⟨q⟩
theorem w_of {a : α} (h : r = .ok a C) (q : Q a C) : We X Q r := by subst h; exact ⟨q⟩
theorem w_exr {c : Str} {p : D} (h : r = .ex c p C) (q : X c p C) : We X Q r := by subst h; exact ⟨q⟩
theorem We.eq {a : α} (h : We NX (fun a' C' => a' = a ∧ C' = C) r) : r = .ok a C := by
  cases r with
  | ok a' C' => obtain ⟨⟨rfl, rfl⟩⟩ := h; rfl
  | ex c p C' => exact h.p.elim
  | stuck => exact h.p.elim
theorem We.ex (h : We NX Q r) : ∃ a C, r = .ok a C ∧ Q a C := by
  cases r with
  | ok a' C' => exact ⟨_, _, rfl, h.p⟩
  | ex c p C' => exact h.p.elim
  | stuck => exact h.p.elim
theorem We.eqx {c : Str} {p : D} (h : We (fun c' p' C' => c' = c ∧ p' = p ∧ C' = C) (fun _ _ => False) r) : r = .ex c p C := by
  cases r with
  | ok a' C' => exact h.p.elim
  | ex c p C' => obtain ⟨⟨rfl, rfl, rfl⟩⟩ := h; rfl
  | stuck => exact h.p.elim
theorem We.eqr {e : Res α} (h : We (fun c p C' => e = .ex c p C') (fun a C' => e = .ok a C') r) : r = e := by
  cases r with
  | ok a' C' => exact h.p.symm
  | ex c p C' => exact h.p.symm
  | stuck => exact h.p.elim
theorem We.mono {Q' : α → Cells → Prop} (h : We X Q r) (k : ∀ a C, Q a C → Q' a C) : We X Q' r := by
  cases r with
  | ok a' C' => exact ⟨k _ _ h.p⟩
  | ex c p C' => exact ⟨h.p⟩
  | stuck => exact h.p.elim
theorem w_bind {g : α → Cells → Res β} {Q : β → Cells → Prop} (h : We X (fun a C1 => We X Q (g a C1)) r) : We X Q (r.bind g) := by
  cases r with
  | ok a C1 => exact h.p
  | ex c p C1 => exact ⟨h.p⟩
  | stuck => exact h.p.elim
theorem o_bind {g : α → Cells → Out} (h : We (fun c p C1 => P.ex c p ρ C1) (fun a C1 => Wo P N (g a C1)) r) : Wo P N (r.out ρ g) := by
  cases r with
  | ok a C1 => exact h.p
  | ex c p C1 => exact ⟨h.p⟩
  | stuck => exact h.p.elim
theorem Wo.mono {N' : Rho → Cells → Prop} (h : Wo P N o) (k : ∀ ρ C, N ρ C → N' ρ C) : Wo P N' o := by
  cases o with
  | nx ρ C => exact ⟨k _ _ h.p⟩
  | rt d C => exact ⟨h.p⟩
  | bk ρ C => exact ⟨h.p⟩
  | ct ρ C => exact ⟨h.p⟩
  | ex c p ρ C => exact ⟨h.p⟩
  | stuck => exact h.p.elim
theorem o_of (h : o = .nx ρ C) (q : N ρ C) : Wo P N o := by subst h; exact ⟨q⟩
theorem o_rt {d : D} (h : o = .rt d C) (q : P.rt d C) : Wo P N o := by subst h; exact ⟨q⟩
theorem Wo.eqr {R : D → Cells → Prop} (h : Wo (rtP R) (fun _ _ => False) o) : ∃ d C, o = .rt d C ∧ R d C := by
  cases o with
  | rt d C => exact ⟨_, _, rfl, h.p⟩
  | _ => exact h.p.elim
theorem Wo.eqn {N : Rho → Cells → Prop} (h : Wo (rtP fun _ _ => False) N o) : ∃ ρ C, o = .nx ρ C ∧ N ρ C := by
  cases o with
  | nx d C => exact ⟨_, _, rfl, h.p⟩
  | _ => exact h.p.elim
end
/-- by a datum that is a bool -/
def BtP (d : D) (t f : Prop) : Prop := match d with
  | .bl true => t
  | .bl false => f
  | _ => False
structure Bt (d : D) (t f : Prop) : Prop where
  p : BtP d t f
theorem bt_t {t f : Prop} (h : t) : Bt (.bl true) t f := ⟨h⟩
theorem bt_f {t f : Prop} (h : f) : Bt (.bl false) t f := ⟨h⟩
theorem bt_b {b : Bool} {t f : Prop} (h1 : b = true → t) (h2 : b = false → f) : Bt (.bl b) t f := by
  cases b
  · exact ⟨h2 rfl⟩
  · exact ⟨h1 rfl⟩
theorem bt_d {p : Prop} [Decidable p] {t f : Prop} (h1 : p → t) (h2 : ¬p → f) : Bt (.bl (decide p)) t f := by
  by_cases h : p
  · rw [decide_eq_true h]; exact ⟨h1 h⟩
  · rw [decide_eq_false h]; exact ⟨h2 h⟩
theorem bt_nd {p : Prop} [Decidable p] {t f : Prop} (h1 : ¬p → t) (h2 : p → f) : Bt (.bl (!decide p)) t f := by
  by_cases h : p
  · rw [decide_eq_true h]; exact ⟨h2 h⟩
  · rw [decide_eq_false h]; exact ⟨h1 h⟩
theorem bt_e {a b : Int} {t f : Prop} (h1 : a = b → t) (h2 : a ≠ b → f) : Bt (.bl (a == b)) t f := by
  by_cases h : a = b
  · rw [beq_iff_eq.mpr h]; exact ⟨h1 h⟩
  · rw [beq_eq_false_iff_ne.mpr h]; exact ⟨h2 h⟩
theorem bt_ne {a b : Int} {t f : Prop} (h1 : a ≠ b → t) (h2 : a = b → f) : Bt (.bl (!(a == b))) t f := by
  by_cases h : a = b
  · rw [beq_iff_eq.mpr h]; exact ⟨h2 h⟩
  · rw [beq_eq_false_iff_ne.mpr h]; exact ⟨h1 h⟩
theorem Bt.of {d : D} {t f : Prop} {b : Bool} (e : d = .bl b) (h : if b then t else f) : Bt d t f := by subst e; cases b <;> exact ⟨h⟩
section
variable {X : XP} {Q : D → Cells → Prop} {f g h t : Rho → Cells → Res D} {C C1 : Cells} {ρ ρ1 : Rho} {P : Po} {N : Rho → Cells → Prop}
/-! expressions -/
theorem w_var {i : Nat} {d : D} (e : ρ[i]? = some (some d)) (q : Q d C) : We X Q (fVar i ρ C) := w_of (by simp [e]) q
theorem w_c {d : D} (q : Q d C) : We X Q (fC d ρ C) := ⟨q⟩
theorem w_yes (q : Q (.bl true) C) : We X Q (fYes ρ C) := ⟨q⟩
theorem w_f1 {o : D → Cells → Res D} (h : We X (fun x C1 => We X Q (o x C1)) (f ρ C)) : We X Q (f1 o f ρ C) := w_bind h
theorem w_f2 {o : D → D → Cells → Res D} (h : We X (fun x C1 => We X (fun y C2 => We X Q (o x y C2)) (g ρ C1)) (f ρ C)) : We X Q (f2 o f g ρ C) := w_bind (h.mono fun _ _ q => w_bind q)
theorem w_fA {o : List D → Cells → Res D} {fs : Rho → Cells → Res (List D)} (h : We X (fun x C1 => We X Q (o x C1)) (fs ρ C)) : We X Q (fA o fs ρ C) := w_bind h
theorem w_fK0 {o : List D → Cells → Res D} {fs : Rho → Cells → Res (List D)} (h : We X (fun x C1 => We X Q (o x C1)) (fs ρ C)) : We X Q (fK0 o fs ρ C) := w_bind h
theorem w_fAK {o : List D → List D → Cells → Res D} {fs fk : Rho → Cells → Res (List D)} (h : We X (fun x C1 => We X (fun y C2 => We X Q (o x y C2)) (fk ρ C1)) (fs ρ C)) : We X Q (fAK o fs fk ρ C) := w_bind (h.mono fun _ _ q => w_bind q)
theorem w_nil {Q : List D → Cells → Prop} (q : Q [] C) : We X Q (aNil ρ C) := ⟨q⟩
theorem w_cons {Q : List D → Cells → Prop} {fs : Rho → Cells → Res (List D)} (h : We X (fun x C1 => We X (fun xs C2 => Q (x :: xs) C2) (fs ρ C1)) (f ρ C)) : We X Q (aCons f fs ρ C) :=
  w_bind (h.mono fun _ _ q => w_bind (q.mono fun _ _ z => ⟨z⟩))
theorem bl3_bt {d : D} {x y : Res D} (h : Bt d (We X Q x) (We X Q y)) : We X Q (bl3 d x y .stuck) := by
  cases d with
  | bl b =>
    cases b
    · exact h.p
    · exact h.p
  | _ => exact h.p.elim
theorem w_and (h : We X (fun x C1 => Bt x (We X Q (g ρ C1)) (Q (.bl false) C1)) (f ρ C)) : We X Q (andD f g ρ C) := by
  rw [e_and]
  exact w_bind (h.mono fun d C q => bl3_bt (by
    cases d with
    | bl b =>
      cases b
      · exact ⟨⟨q.p⟩⟩
      · exact ⟨q.p⟩
    | _ => exact q.p.elim))
theorem w_or (h : We X (fun x C1 => Bt x (Q (.bl true) C1) (We X Q (g ρ C1))) (f ρ C)) : We X Q (orD f g ρ C) := by
  rw [e_or]
  exact w_bind (h.mono fun d C q => bl3_bt (by
    cases d with
    | bl b =>
      cases b
      · exact ⟨q.p⟩
      · exact ⟨⟨q.p⟩⟩
    | _ => exact q.p.elim))
theorem w_not (h : We X (fun x C1 => Bt x (Q (.bl false) C1) (Q (.bl true) C1)) (f ρ C)) : We X Q (notD f ρ C) := by
  rw [e_not]
  refine w_bind (h.mono fun d C q => ?_)
  cases d with
  | bl b =>
    cases b
    · exact ⟨q.p⟩
    · exact ⟨q.p⟩
  | _ => exact q.p.elim
/-- not, where the bool stays one -/
theorem w_notb {b : Bool} {C1 : Cells} (h : f ρ C = .ok (.bl b) C1) (q : Q (.bl !b) C1) : We X Q (notD f ρ C) := by
  rw [e_not, h]
  exact ⟨q⟩
theorem w_if (h : We X (fun x C1 => Bt x (We X Q (f ρ C1)) (We X Q (g ρ C1))) (t ρ C)) : We X Q (ifD t f g ρ C) := by
  rw [e_if]
  exact w_bind (h.mono fun d C q => bl3_bt q)
theorem w_chain {o o' : D → D → Cells → Res D} (hh : We X (fun x C1 => We X (fun y C2 => We X (fun z C3 => Bt z (We X (fun w C4 => We X Q (o' y w C4)) (h ρ C3)) (Q (.bl false) C3)) (o x y C2)) (g ρ C1)) (f ρ C)) : We X Q (chainD o o' f g h ρ C) := by
  rw [e_chain]
  exact w_bind (hh.mono fun _ _ q => w_bind (q.mono fun _ _ q => w_bind (q.mono fun d C q => bl3_bt (by
    cases d with
    | bl b =>
      cases b
      · exact ⟨⟨q.p⟩⟩
      · exact ⟨w_bind q.p⟩
    | _ => exact q.p.elim))))
theorem w_call {np : Nat} {den : List D → Cells → Res D} {xs : List D} (hl : xs.length = np) (q : We X Q (den xs C)) : We X Q (oCall np den xs C) := by
  rw [e_oCall, if_pos hl]
  exact q
theorem w_callK0 {np m : Nat} {π : List Nat} {den : List D → Cells → Res D} {xs ys : List D} (hl : xs.length = m) (e : permL π xs = ys) (hn : ys.length = np) (q : We X Q (den ys C)) : We X Q (oCallK0 np m π den xs C) := by
  unfold oCallK0
  rw [e, if_pos ⟨hl, hn⟩]
  exact q
theorem w_callK {np n m : Nat} {π : List Nat} {den : List D → Cells → Res D} {xs zs ys : List D} (hl : xs.length = n) (hz : zs.length = m) (e : permL π (xs ++ zs) = ys) (hn : ys.length = np) (q : We X Q (den ys C)) : We X Q (oCallK np n m π den xs zs C) := by
  unfold oCallK
  rw [e, if_pos ⟨hl, hz, hn⟩]
  exact q
theorem w_mt1 {o : D → D → Cells → Res D} (h : We X (fun x C1 => ∃ ds, asL x C1 = some ds ∧ We X (fun v C2 => We X Q (o x v C2)) (g ρ C1)) (f ρ C)) : We X Q (fMt1 o f g ρ C) := by
  rw [e_fMt1]
  refine w_bind (h.mono fun x C1 q => ?_)
  obtain ⟨ds, e, q⟩ := q
  rw [e]
  exact w_bind q
theorem w_pNo {Q : Option Int → Cells → Prop} (q : Q none C) : We X Q (pNo ρ C) := ⟨q⟩
theorem w_pSo {Q : Option Int → Cells → Prop} (h : We X (fun x C1 => ∃ i, x = .int i ∧ Q (some i) C1) (f ρ C)) : We X Q (pSo f ρ C) := by
  rw [e_pSo]
  refine w_bind (h.mono fun x C1 q => ?_)
  obtain ⟨i, rfl, q⟩ := q
  exact ⟨q⟩
theorem w_sl {m : Bool} {l r : Rho → Cells → Res (Option Int)} (h : We X (fun x C1 => We X (fun lo C2 => We X (fun hi C3 => We X Q (slD m x lo hi C3)) (r ρ C2)) (l ρ C1)) (f ρ C)) : We X Q (fSl m f l r ρ C) := by
  rw [e_fSl]
  exact w_bind (h.mono fun _ _ q => w_bind (q.mono fun _ _ q => w_bind q))
/-! operators -/
theorem w_add {m : Bool} {i j : Int} (q : Q (.int (i + j)) C) : We X Q (addD m (.int i) (.int j) C) := ⟨q⟩
theorem w_sub {i j : Int} (q : Q (.int (i - j)) C) : We X Q (subD (.int i) (.int j) C) := ⟨q⟩
theorem w_mul {m : Bool} {i j : Int} (h : CMul i j) (q : Q (.int (i * j)) C) : We X Q (mulD m (.int i) (.int j) C) := w_of (by rw [e_mul_ii, if_pos h]) q
theorem w_fdiv {i j : Int} (h : CDiv i j) (q : Q (.int (i / j)) C) : We X Q (fdivD (.int i) (.int j) C) := w_of (by rw [e_fdiv_ii, if_pos h]) q
theorem w_mod {i j : Int} (h : 0 < j) (q : Q (.int (i % j)) C) : We X Q (modD (.int i) (.int j) C) := w_of (by rw [e_mod_ii, if_pos h]) q
theorem w_pow {i j : Int} (h : CPow i j) (q : Q (.int (i ^ j.toNat)) C) : We X Q (powD (.int i) (.int j) C) := w_of (by rw [e_pow_ii, if_pos h]) q
theorem w_neg {i : Int} (q : Q (.int (-i)) C) : We X Q (negD (.int i) C) := ⟨q⟩
theorem w_cmp {p : Int → Int → Bool} {i j : Int} (q : Q (.bl (p i j)) C) : We X Q (cmpI p (.int i) (.int j) C) := ⟨q⟩
theorem w_eqi {i j : Int} (q : Q (.bl (i == j)) C) : We X Q (eqD false (.int i) (.int j) C) := ⟨q⟩
theorem w_nei {i j : Int} (q : Q (.bl (!(i == j))) C) : We X Q (eqD true (.int i) (.int j) C) := ⟨q⟩
theorem w_eqs {a b : Str} (q : Q (.bl (decide (a = b))) C) : We X Q (eqD false (.str a) (.str b) C) := ⟨q⟩
theorem w_nes {a b : Str} (q : Q (.bl (!decide (a = b))) C) : We X Q (eqD true (.str a) (.str b) C) := ⟨q⟩
theorem w_isN {x : D} (q : Q (.bl (isNon x)) C) : We X Q (isD false x .non C) := ⟨q⟩
theorem w_isNn {x : D} (q : Q (.bl (!isNon x)) C) : We X Q (isD true x .non C) := ⟨q⟩
theorem w_isB {a b : Bool} (q : Q (.bl (decide (a = b))) C) : We X Q (isD false (.bl a) (.bl b) C) := ⟨q⟩
theorem w_isBn {a b : Bool} (q : Q (.bl (!decide (a = b))) C) : We X Q (isD true (.bl a) (.bl b) C) := ⟨q⟩
theorem w_int {i : Int} (q : Q (.int i) C) : We X Q (oInt [.int i] C) := ⟨q⟩
theorem w_abs {i : Int} (q : Q (.int (if i < 0 then -i else i)) C) : We X Q (oAbs [.int i] C) := ⟨q⟩
theorem w_max {i j : Int} (q : Q (.int (if j > i then j else i)) C) : We X Q (oMax [.int i, .int j] C) := ⟨q⟩
theorem w_min {i j : Int} (q : Q (.int (if j < i then j else i)) C) : We X Q (oMin [.int i, .int j] C) := ⟨q⟩
theorem w_addl {m : Bool} {xs ys : List D} (h : xs.length + ys.length ≤ 16777216) (q : We X Q (mkL m (xs ++ ys) C)) : We X Q (addD m (.lst xs) (.lst ys) C) := by
  rw [e_add_ll, if_pos h]; exact q
theorem w_addt {m : Bool} {xs ys : List D} (h : xs.length + ys.length ≤ 16777216) (q : Q (.tup (xs ++ ys)) C) : We X Q (addD m (.tup xs) (.tup ys) C) := by
  rw [e_add_tt, if_pos h]; exact ⟨q⟩
theorem w_adds {m : Bool} {a b : Str} (h : a.length + b.length ≤ 16777216) (q : Q (.str (a ++ b)) C) : We X Q (addD m (.str a) (.str b) C) := by
  refine w_of (a := .str (a ++ b)) (C := C) ?_ q
  show (if a.length + b.length ≤ sizeLine then _ else _) = _
  rw [sizeLine_eq, if_pos h]
theorem w_mkf {ds : List D} (q : Q (.lst ds) C) : We X Q (mkL false ds C) := ⟨q⟩
theorem w_mkt {ds : List D} (q : Q (.cel C.length) (C ++ [.lst ds])) : We X Q (mkL true ds C) := ⟨q⟩
theorem w_tup {xs : List D} (h : xs.length ≤ 16777216) (q : Q (.tup xs) C) : We X Q (oTup xs C) := by rw [e_oTup, if_pos h]; exact ⟨q⟩
theorem w_lst {m : Bool} {xs : List D} (h : xs.length ≤ 16777216) (q : We X Q (mkL m xs C)) : We X Q (oLst m xs C) := by rw [e_oLst, if_pos h]; exact q
theorem w_lenT {ds : List D} (q : Q (.int ds.length) C) : We X Q (oLen [.tup ds] C) := ⟨q⟩
theorem w_lenL {ds : List D} (q : Q (.int ds.length) C) : We X Q (oLen [.lst ds] C) := ⟨q⟩
theorem w_lenS {ns : List Int} (q : Q (.int ns.length) C) : We X Q (oLen [.scr ns] C) := w_of (oLen_scr _ _) q
theorem w_lenC {k : Nat} {ds : List D} (e : C[k]? = some (.lst ds)) (q : Q (.int ds.length) C) : We X Q (oLen [.cel k] C) := w_of (oLen_cel e) q
theorem w_tupT {ds : List D} (q : Q (.tup ds) C) : We X Q (oTuple [.tup ds] C) := ⟨q⟩
theorem w_tupL {ds : List D} (q : Q (.tup ds) C) : We X Q (oTuple [.lst ds] C) := ⟨q⟩
theorem w_tupC {k : Nat} {ds : List D} (e : C[k]? = some (.lst ds)) (q : Q (.tup ds) C) : We X Q (oTuple [.cel k] C) := w_of (e_tuple_c e) q
theorem w_slT {m : Bool} {xs : List D} {lo hi : Option Int} (q : Q (.tup (cut xs lo hi)) C) : We X Q (slD m (.tup xs) lo hi C) := ⟨q⟩
theorem w_slL {m : Bool} {xs : List D} {lo hi : Option Int} (q : We X Q (mkL m (cut xs lo hi) C)) : We X Q (slD m (.lst xs) lo hi C) := q
theorem w_slC {m : Bool} {k : Nat} {xs : List D} {lo hi : Option Int} (e : C[k]? = some (.lst xs)) (q : We X Q (mkL m (cut xs lo hi) C)) : We X Q (slD m (.cel k) lo hi C) := by
  show We X Q (match asL (.cel k) C with | some ds => mkL m (cut ds lo hi) C | none => .stuck)
  rw [asL_celE e]
  exact q
theorem w_ix {x : D} {ds : List D} {i : Int} {d : D} (e : asS x C = some ds) (h0 : 0 ≤ i) (h : ds[i.toNat]? = some d) (q : Q d C) : We X Q (ixD x (.int i) C) := w_of (ix_of e h0 h) q
theorem w_ix0 {ds : List D} {d : D} (q : Q d C) : We X Q (ixD (.tup (d :: ds)) (.int 0) C) := w_of (ix_tup0 _ _ _) q
theorem w_ix1 {ds : List D} {d a : D} (q : Q d C) : We X Q (ixD (.tup (a :: d :: ds)) (.int 1) C) := w_of (ix_tup1 _ _ _ _) q
theorem w_ix2 {ds : List D} {d a b : D} (q : Q d C) : We X Q (ixD (.tup (a :: b :: d :: ds)) (.int 2) C) := w_of (ix_tup2 _ _ _ _ _) q
theorem w_ix3 {ds : List D} {d a b c : D} (q : Q d C) : We X Q (ixD (.tup (a :: b :: c :: d :: ds)) (.int 3) C) := w_ix rfl (by decide) rfl q
theorem w_ixl0 {ds : List D} {d : D} (q : Q d C) : We X Q (ixD (.lst (d :: ds)) (.int 0) C) := w_ix rfl (by decide) rfl q
theorem w_ixl1 {ds : List D} {d a : D} (q : Q d C) : We X Q (ixD (.lst (a :: d :: ds)) (.int 1) C) := w_ix rfl (by decide) rfl q
theorem w_ixl2 {ds : List D} {d a b : D} (q : Q d C) : We X Q (ixD (.lst (a :: b :: d :: ds)) (.int 2) C) := w_ix rfl (by decide) rfl q
theorem w_app {k : Nat} {ds : List D} {v : D} (e : C[k]? = some (.lst ds)) (h : ds.length < 16777216) (q : Q .non (C.set k (.lst (ds ++ [v])))) : We X Q (appD (.cel k) v C) := w_of (app_of e h) q
theorem w_isi {cs : List String} {d : D} {t : String} (e : tyD d C = some t) (q : Q (.bl (cs.any fun c => isTy t c)) C) : We X Q (isiD cs d C) := w_of (by unfold isiD; rw [e]) q
theorem w_repr {n w : Nat} {d : D} (g : GA n w d) (h1 : n ≤ 64) (h2 : w ≤ 2 ^ 20) (q : Q (.str (rp d)) C) : We X Q (oRepr [d] C) := w_of (repr_of g h1 h2) q
theorem w_all {bs : List Bool} {ds : List D} (h : ds = bs.map D.bl) (q : Q (.bl (bs.all id)) C) : We X Q (oAll [.lst ds] C) := w_of (all_bs h) q
theorem w_sum {M : List Int} (q : Q (.int M.sum) C) : We X Q (oSum [.lst (M.map .int)] C) := w_of (sum_of M C) q
/-! statements -/
theorem o_seq {f g : Rho → Cells → Out} (h : Wo P (fun ρ1 C1 => Wo P N (g ρ1 C1)) (f ρ C)) : Wo P N (sSeq f g ρ C) := by
  rw [e_sSeq]
  cases e : f ρ C with
  | nx ρ1 C1 => rw [e] at h; exact h.p
  | rt d C1 => rw [e] at h; exact ⟨h.p⟩
  | bk ρ1 C1 => rw [e] at h; exact ⟨h.p⟩
  | ct ρ1 C1 => rw [e] at h; exact ⟨h.p⟩
  | ex c p ρ1 C1 => rw [e] at h; exact ⟨h.p⟩
  | stuck => rw [e] at h; exact h.p.elim
theorem o_nil (q : N ρ C) : Wo P N (sNil ρ C) := ⟨q⟩
theorem o_bk (q : P.bk ρ C) : Wo P N (sBk ρ C) := ⟨q⟩
theorem o_ct (q : P.ct ρ C) : Wo P N (sCt ρ C) := ⟨q⟩
theorem o_set {i : Nat} (h : We (fun c p C1 => P.ex c p ρ C1) (fun d C1 => N (ρ.set i (some d)) C1) (f ρ C)) : Wo P N (sSet i f ρ C) := by
  rw [e_sSet]
  exact o_bind (h.mono fun _ _ q => ⟨q⟩)
theorem o_ret (h : We (fun c p C1 => P.ex c p ρ C1) (fun d C1 => P.rt d C1) (f ρ C)) : Wo P N (sRet f ρ C) := by
  rw [e_sRet]
  exact o_bind (h.mono fun _ _ q => ⟨q⟩)
theorem o_retN (q : P.rt .non C) : Wo P N (sRetN ρ C) := ⟨q⟩
theorem o_expr (h : We (fun c p C1 => P.ex c p ρ C1) (fun _ C1 => N ρ C1) (f ρ C)) : Wo P N (sExpr f ρ C) := by
  rw [e_sExpr]
  exact o_bind (h.mono fun _ _ q => ⟨q⟩)
theorem o_raise {c : Str} (h : We (fun c p C1 => P.ex c p ρ C1) (fun d C1 => P.ex c d ρ C1) (f ρ C)) : Wo P N (sRaise c f ρ C) := by
  rw [e_sRaise]
  exact o_bind (h.mono fun _ _ q => ⟨q⟩)
theorem o_if {f g : Rho → Cells → Out} (h : We (fun c p C1 => P.ex c p ρ C1) (fun x C1 => Bt x (Wo P N (f ρ C1)) (Wo P N (g ρ C1))) (t ρ C)) : Wo P N (sIf t f g ρ C) := by
  rw [e_sIf]
  cases e : t ρ C with
  | ok d C1 =>
    rw [e] at h
    have q := h.p
    cases d with
    | bl b =>
      cases b
      · exact q.p
      · exact q.p
    | _ => exact q.p.elim
  | ex c p C1 => rw [e] at h; exact ⟨h.p⟩
  | stuck => rw [e] at h; exact h.p.elim
theorem o_asg {tg : D → Rho → Option Rho} (h : We (fun c p C1 => P.ex c p ρ C1) (fun d C1 => ∃ ρ1, tg d ρ = some ρ1 ∧ N ρ1 C1) (f ρ C)) : Wo P N (sAsg f tg ρ C) := by
  rw [e_sAsg]
  refine o_bind (h.mono fun d C1 q => ?_)
  obtain ⟨ρ1, e, q⟩ := q
  rw [e]
  exact ⟨q⟩
theorem o_par {i j : Nat} {fs : Rho → Cells → Res (List D)} (h : We (fun c p C1 => P.ex c p ρ C1) (fun ds C1 => ∃ x y, ds = [x, y] ∧ N ((ρ.set i (some x)).set j (some y)) C1) (fs ρ C)) : Wo P N (sPar i j fs ρ C) := by
  rw [e_sPar]
  refine o_bind (h.mono fun d C1 q => ?_)
  obtain ⟨x, y, rfl, q⟩ := q
  exact ⟨q⟩
theorem o_par3 {i j l : Nat} {fs : Rho → Cells → Res (List D)} (h : We (fun c p C1 => P.ex c p ρ C1) (fun ds C1 => ∃ x y z, ds = [x, y, z] ∧ N (((ρ.set i (some x)).set j (some y)).set l (some z)) C1) (fs ρ C)) : Wo P N (sPar3 i j l fs ρ C) := by
  rw [e_sPar3]
  refine o_bind (h.mono fun d C1 q => ?_)
  obtain ⟨x, y, z, rfl, q⟩ := q
  exact ⟨q⟩
theorem o_sto {fo fi : Rho → Cells → Res D} (h : We (fun c p C1 => P.ex c p ρ C1) (fun v C1 => We (fun c p C1 => P.ex c p ρ C1) (fun x C2 => We (fun c p C1 => P.ex c p ρ C1) (fun i C3 => ∃ C4, stoD x i v C3 = some C4 ∧ N ρ C4) (fi ρ C2)) (fo ρ C1)) (f ρ C)) : Wo P N (sSto f fo fi ρ C) := by
  rw [e_sSto]
  refine o_bind (h.mono fun d C1 q => o_bind (q.mono fun d C1 q => o_bind (q.mono fun d C1 q => ?_)))
  obtain ⟨C4, e, q⟩ := q
  rw [e]
  exact ⟨q⟩
theorem o_aug {i : Nat} {o : Int → Int → Int} {a : Int} (e : ρ[i]? = some (some (.int a))) (h : We (fun c p C1 => P.ex c p ρ C1) (fun d C1 => ∃ b, d = .int b ∧ N (ρ.set i (some (.int (o a b)))) C1) (f ρ C)) : Wo P N (sAug i o f ρ C) := by
  unfold sAug
  rw [e]
  refine o_bind (h.mono fun d C1 q => ?_)
  obtain ⟨b, rfl, q⟩ := q
  exact ⟨q⟩
/-! sources, loops -/
def srcOf (d : D) (C : Cells) : Res Src := match d with
  | .lst ds => .ok (.fix ds) C
  | .tup ds => .ok (.fix ds) C
  | .ftp ds => .ok (.fix ds) C
  | .scr ns => .ok (.fix (ns.map .int)) C
  | .cel k => match cLen k C with
    | some n => .ok (.cel k n) C
    | none => .stuck
  | _ => .stuck
theorem w_src {Q : Src → Cells → Prop} (h : We X (fun d C1 => We X Q (srcOf d C1)) (f ρ C)) : We X Q (iSeq f ρ C) := w_bind h
theorem w_srcL {Q : Src → Cells → Prop} {ds : List D} (q : Q (.fix ds) C) : We X Q (srcOf (.lst ds) C) := ⟨q⟩
theorem w_srcT {Q : Src → Cells → Prop} {ds : List D} (q : Q (.fix ds) C) : We X Q (srcOf (.tup ds) C) := ⟨q⟩
theorem w_srcC {Q : Src → Cells → Prop} {k : Nat} {ds : List D} (e : C[k]? = some (.lst ds)) (q : Q (.cel k ds.length) C) : We X Q (srcOf (.cel k) C) := by
  have : cLen k C = some ds.length := by simp [cLen, e]
  show We X Q (match cLen k C with | some n => .ok (.cel k n) C | none => .stuck)
  rw [this]
  exact ⟨q⟩
theorem w_rg1 {Q : Src → Cells → Prop} (h : We X (fun x C1 => ∃ j, x = .int j ∧ 0 ≤ j ∧ j ≤ 100000 ∧ Q (.fix (rg 0 j)) C1) (f ρ C)) : We X Q (iRg (rg1 f) ρ C) := by
  cases e : f ρ C with
  | ok d C1 =>
    rw [e] at h
    obtain ⟨j, rfl, h0, h1, q⟩ := h.p
    exact w_of (iRg1_of e h0 h1) q
  | ex c p C1 => rw [e] at h; exact ⟨by simpa [iRg, rg1, e, Res.bind, WeP] using h.p⟩
  | stuck => rw [e] at h; exact h.p.elim
theorem w_rg2 {Q : Src → Cells → Prop} (h : We X (fun x C1 => We X (fun y C2 => ∃ i j, x = .int i ∧ y = .int j ∧ -100000 ≤ i ∧ i ≤ 100000 ∧ -100000 ≤ j ∧ j ≤ 100000 ∧ Q (.fix (rg i j)) C2) (g ρ C1)) (f ρ C)) : We X Q (iRg (rg2 f g) ρ C) := by
  rw [e_iRg, e_rg2]
  refine w_bind (w_bind (h.mono fun x C1 q => w_bind (q.mono fun y C2 q => ?_)))
  obtain ⟨i, j, rfl, rfl, a, b, c, d, q⟩ := q
  refine ⟨?_⟩
  have hr : RgOk i j := ⟨by omega, by omega, by omega, by omega, by omega⟩
  show We X Q (if RgOk i j then _ else _)
  rw [if_pos hr]
  exact ⟨q⟩
theorem o_for {fi : Rho → Cells → Res Src} {tg : D → Rho → Option Rho} {b : Rho → Cells → Out} (h : We (fun c p C1 => P.ex c p ρ C1) (fun s C1 => Wo P N (forS tg b s ρ C1)) (fi ρ C)) : Wo P N (sFor fi tg b ρ C) := o_bind h
theorem o_loop {o : Out} {k : Rho → Cells → Out} (h : Wo { P with bk := N, ct := fun ρ C => Wo P N (k ρ C) } (fun ρ C => Wo P N (k ρ C)) o) : Wo P N (o.loop k) := by
  cases o with
  | nx ρ1 C1 => exact h.p
  | rt d C1 => exact ⟨h.p⟩
  | bk ρ1 C1 => exact ⟨h.p⟩
  | ct ρ1 C1 => exact h.p
  | ex c p ρ1 C1 => exact ⟨h.p⟩
  | stuck => exact h.p.elim
/-- for, by what holds with which items left -/
theorem o_each {tg : D → Rho → Option Rho} {b : Rho → Cells → Out} (I : List D → Rho → Cells → Prop)
    (step : ∀ d ds ρ C, I (d :: ds) ρ C → ∃ ρ1, tg d ρ = some ρ1 ∧ Wo { P with bk := N, ct := I ds } (I ds) (b ρ1 C)) (last : ∀ ρ C, I [] ρ C → N ρ C) :
    ∀ (ds : List D) (ρ : Rho) (C : Cells), I ds ρ C → Wo P N (forS tg b (.fix ds) ρ C) := by
  intro ds
  induction ds with
  | nil => intro ρ C h; exact ⟨last _ _ h⟩
  | cons d ds ih =>
    intro ρ C h
    obtain ⟨ρ1, e, q⟩ := step d ds ρ C h
    show Wo P N (match tg d ρ with | some ρ1 => (b ρ1 C).loop (forL tg b ds) | none => .stuck)
    rw [e]
    refine o_loop ?_
    cases eo : b ρ1 C with
    | nx ρ1 C1 => rw [eo] at q; exact ⟨ih _ _ q.p⟩
    | rt d C1 => rw [eo] at q; exact ⟨q.p⟩
    | bk ρ1 C1 => rw [eo] at q; exact ⟨q.p⟩
    | ct ρ1 C1 => rw [eo] at q; exact ⟨ih _ _ q.p⟩
    | ex c p ρ1 C1 => rw [eo] at q; exact ⟨q.p⟩
    | stuck => rw [eo] at q; exact q.p.elim
theorem rg_nat (n : Nat) : rg 0 (n : Int) = (List.range' 0 n).map fun (s : Nat) => D.int (s : Nat) := rg_r' n
/-- for i in range(n) -/
theorem o_range {k : Nat} {b : Rho → Cells → Out} (I : Nat → Rho → Cells → Prop) {n : Int} (h0 : 0 ≤ n) (hi : I 0 ρ C)
    (step : ∀ (i : Nat) ρ C, (i : Int) < n → I i ρ C → Wo { P with bk := N, ct := I (i + 1) } (I (i + 1)) (b (ρ.set k (some (.int (i : Nat)))) C)) (last : ∀ ρ C, I n.toNat ρ C → N ρ C) :
    Wo P N (forS (tgN k) b (.fix (rg 0 n)) ρ C) := by
  obtain ⟨m, rfl⟩ : ∃ m : Nat, n = m := ⟨n.toNat, by omega⟩
  rw [rg_nat]
  refine o_each (fun ds ρ C => ∃ i : Nat, i ≤ m ∧ ds = (List.range' i (m - i)).map (fun (s : Nat) => D.int (s : Nat)) ∧ I i ρ C) ?_ ?_ _ _ _ ⟨0, Nat.zero_le _, rfl, hi⟩
  · rintro d ds ρ C ⟨i, him, e, h⟩
    by_cases hlt : i < m
    · obtain ⟨q, hq⟩ : ∃ q, m - i = q + 1 := ⟨m - i - 1, by omega⟩
      rw [hq, List.range'_succ, List.map_cons] at e
      obtain ⟨rfl, rfl⟩ := List.cons.inj e
      refine ⟨_, rfl, ?_⟩
      have hs := step i ρ C (by omega) h
      have e2 : m - (i + 1) = q := by omega
      have conv : ∀ ρ C, I (i + 1) ρ C → ∃ i_1, i_1 ≤ m ∧ (List.range' (i + 1) q).map (fun (s : Nat) => D.int (s : Nat)) = (List.range' i_1 (m - i_1)).map (fun (s : Nat) => D.int (s : Nat)) ∧ I i_1 ρ C := fun ρ C hI => ⟨i + 1, by omega, by rw [e2], hI⟩
      cases eo : b (ρ.set k (some (.int (i : Nat)))) C with
      | nx ρ1 C1 => rw [eo] at hs; exact ⟨conv _ _ hs.p⟩
      | rt d C1 => rw [eo] at hs; exact ⟨hs.p⟩
      | bk ρ1 C1 => rw [eo] at hs; exact ⟨hs.p⟩
      | ct ρ1 C1 => rw [eo] at hs; exact ⟨conv _ _ hs.p⟩
      | ex c p ρ1 C1 => rw [eo] at hs; exact ⟨hs.p⟩
      | stuck => rw [eo] at hs; exact hs.p.elim
    · have : m - i = 0 := by omega
      rw [this] at e
      cases e
  · rintro ρ C ⟨i, him, e, h⟩
    by_cases hlt : i < m
    · obtain ⟨q, hq⟩ : ∃ q, m - i = q + 1 := ⟨m - i - 1, by omega⟩
      rw [hq, List.range'_succ, List.map_cons] at e
      cases e
    · have : i = m := by omega
      subst this
      exact last _ _ (by simpa using h)
/-- while, by what holds ahead of each turn, and how many turns at most are left -/
theorem o_while {c : Rho → Cells → Res D} {b : Rho → Cells → Out} (I : Nat → Rho → Cells → Prop)
    (step : ∀ (n : Nat) ρ C, I n ρ C → We (fun c p C1 => P.ex c p ρ C1) (fun x C1 => Bt x (∃ m, n = m + 1 ∧ Wo { P with bk := N, ct := I m } (I m) (b ρ C1)) (N ρ C1)) (c ρ C)) :
    ∀ (n f : Nat) (ρ : Rho) (C : Cells), n < f → I n ρ C → Wo P N (sWhile f c b ρ C) := by
  intro n
  induction n with
  | zero =>
    intro f ρ C hf h
    obtain ⟨f, rfl⟩ : ∃ g, f = g + 1 := ⟨f - 1, by omega⟩
    have q := step 0 ρ C h
    show Wo P N ((toB (c ρ C)).out ρ fun x C1 => if x then (b ρ C1).loop (whileL c b f) else .nx ρ C1)
    cases e : c ρ C with
    | ok d C1 =>
      rw [e] at q
      have q := q.p
      cases d with
      | bl t =>
        cases t with
        | true => obtain ⟨m, hm, _⟩ := q.p; cases hm
        | false => exact ⟨q.p⟩
      | _ => exact q.p.elim
    | ex c p C1 => rw [e] at q; exact ⟨q.p⟩
    | stuck => rw [e] at q; exact q.p.elim
  | succ n ih =>
    intro f ρ C hf h
    obtain ⟨f, rfl⟩ : ∃ g, f = g + 1 := ⟨f - 1, by omega⟩
    have q := step (n + 1) ρ C h
    show Wo P N ((toB (c ρ C)).out ρ fun x C1 => if x then (b ρ C1).loop (whileL c b f) else .nx ρ C1)
    cases e : c ρ C with
    | ok d C1 =>
      rw [e] at q
      have q := q.p
      cases d with
      | bl t =>
        cases t with
        | true =>
          obtain ⟨m, hm, q⟩ := q.p
          have hm : n = m := by omega
          subst hm
          refine o_loop ?_
          cases eo : b ρ C1 with
          | nx ρ1 C1 => rw [eo] at q; exact ⟨ih f _ _ (by omega) q.p⟩
          | rt d C1 => rw [eo] at q; exact ⟨q.p⟩
          | bk ρ1 C1 => rw [eo] at q; exact ⟨q.p⟩
          | ct ρ1 C1 => rw [eo] at q; exact ⟨ih f _ _ (by omega) q.p⟩
          | ex c p ρ1 C1 => rw [eo] at q; exact ⟨q.p⟩
          | stuck => rw [eo] at q; exact q.p.elim
        | false => exact ⟨q.p⟩
      | _ => exact q.p.elim
    | ex c p C1 => rw [e] at q; exact ⟨q.p⟩
    | stuck => rw [e] at q; exact q.p.elim
/-! comprehensions -/
theorem w_lc {m : Bool} {vs : List Nat} {fi : Rho → Cells → Res Src} {tg : D → Rho → Option Rho} {ft fe : Rho → Cells → Res D}
    (hh : We X (fun s C1 => We NX (fun ys C2 => ys.length ≤ 100000 ∧ We X Q (mkL m ys C2)) (lcS tg ft fe (wipeD ρ vs) s C1)) (fi ρ C)) : We X Q (fLc m vs fi tg ft fe ρ C) := by
  rw [e_fLc]
  refine w_bind (hh.mono fun s C1 q => ?_)
  obtain ⟨ys, C2, e, h1, q⟩ := q.ex
  rw [e, Res.bind_ok, if_pos (by omega)]
  exact q
theorem noX_we {α : Type} {r : Res α} {Q : α → Cells → Prop} (h : We NX Q r) : We NX Q (noX r) := by
  cases r with
  | ok a C => exact h
  | ex c p C => exact h.p.elim
  | stuck => exact h
/-- with effects: what holds with which items left, which got -/
theorem w_lcL {Q : List D → Cells → Prop} {tg : D → Rho → Option Rho} {ft fe : Rho → Cells → Res D} (I : List D → List D → Cells → Prop)
    (step : ∀ d ds acc C, I (d :: ds) acc C → ∃ ρ1, tg d ρ = some ρ1 ∧ We NX (fun x C1 => Bt x (We NX (fun y C2 => I ds (acc ++ [y]) C2) (fe ρ1 C1)) (I ds acc C1)) (ft ρ1 C)) (last : ∀ acc C, I [] acc C → Q acc C) :
    ∀ (ds : List D) (C : Cells), I ds [] C → We NX Q (lcS tg ft fe ρ (.fix ds) C) := by
  have key : ∀ (ds acc : List D) (C : Cells), I ds acc C → We NX (fun ys C2 => Q (acc ++ ys) C2) (lcL tg ft fe ρ ds C) := by
    intro ds
    induction ds with
    | nil => intro acc C h; exact ⟨by show Q (acc ++ []) C; rw [List.append_nil]; exact last _ _ h⟩
    | cons d ds ih =>
      intro acc C h
      obtain ⟨ρ1, e, q⟩ := step d ds acc C h
      show We NX _ (lcStep tg ft fe ρ d C (lcL tg ft fe ρ ds))
      unfold lcStep
      rw [e]
      obtain ⟨x, C1, e1, q⟩ := q.ex
      simp only [e1]
      cases x with
      | bl b =>
        cases b with
        | true =>
          have q := q.p
          obtain ⟨y, C2, e2, q⟩ := (show We NX (fun y C2 => I ds (acc ++ [y]) C2) (fe ρ1 C1) from q).ex
          simp only [e_toB_t, noX_ok, Res.bind_ok, if_true, e2]
          refine w_bind ((ih _ _ q).mono fun ys C3 q => ⟨?_⟩)
          show Q (acc ++ (y :: ys)) C3
          rw [List.append_assoc] at q
          exact q
        | false =>
          simp only [e_toB_t, noX_ok, Res.bind_ok, Bool.false_eq_true, if_false]
          exact ih _ _ q.p
      | _ => exact q.p.elim
  intro ds C h
  exact (key ds [] C h).mono fun ys C q => by simpa using q
/-- without effects -/
theorem w_map {Q : List D → Cells → Prop} {k : Nat} {ft fe : Rho → Cells → Res D} {ds : List D} (p : D → Bool) (g : D → D)
    (h1 : ∀ d ∈ ds, ft (ρ.set k (some d)) C = .ok (.bl (p d)) C) (h2 : ∀ d ∈ ds, p d = true → fe (ρ.set k (some d)) C = .ok (g d) C) (q : Q ((ds.filter p).map g) C) : We NX Q (lcS (tgN k) ft fe ρ (.fix ds) C) :=
  w_of (lc_map k p g ds h1 h2) q
theorem w_mapC {Q : List D → Cells → Prop} {k c : Nat} {ft fe : Rho → Cells → Res D} {ds : List D} (p : D → Bool) (g : D → D) (e : C[c]? = some (.lst ds))
    (h1 : ∀ d ∈ ds, ft (ρ.set k (some d)) C = .ok (.bl (p d)) C) (h2 : ∀ d ∈ ds, p d = true → fe (ρ.set k (some d)) C = .ok (g d) C) (q : Q ((ds.filter p).map g) C) : We NX Q (lcS (tgN k) ft fe ρ (.cel c ds.length) C) :=
  w_of (lcC_map k e p g h1 h2) q
theorem w_mapY {Q : List D → Cells → Prop} {k : Nat} {fe : Rho → Cells → Res D} {ds : List D} (g : D → D)
    (h2 : ∀ d ∈ ds, fe (ρ.set k (some d)) C = .ok (g d) C) (q : Q (ds.map g) C) : We NX Q (lcS (tgN k) fYes fe ρ (.fix ds) C) :=
  w_of (lc_mapY k g ds h2) q
/-- a target of names -/
theorem tgT2 {i j : Nat} {x y : D} (ρ : Rho) : tgT 2 (tgCons (tgN i) (tgCons (tgN j) tgNil)) (.tup [x, y]) ρ = some ((ρ.set i (some x)).set j (some y)) := rfl
theorem tgT3 {i j k : Nat} {x y z : D} (ρ : Rho) : tgT 3 (tgCons (tgN i) (tgCons (tgN j) (tgCons (tgN k) tgNil))) (.tup [x, y, z]) ρ = some (((ρ.set i (some x)).set j (some y)).set k (some z)) := rfl
end
/-! ### a def -/
section
variable {X : XP} {Q : D → Cells → Prop} {C C1 T : Cells} {m : Bool} {np n : Nat} {fb : Rho → Cells → Out} {ds : List D} {d : D}
theorem w_den (hl : ds.length = np) (h : Wo (rxP (fun d C' => We X Q (okFin m C.length d C')) (fun c p C' => We X Q (exFin C.length c p C'))) (fun _ C' => We X Q (okFin m C.length .non C')) (fb (ds.map some ++ List.replicate (n - np) none) C)) : We X Q (denF m np n fb ds C) := by
  unfold denF
  rw [if_pos hl]
  cases e : fb (ds.map some ++ List.replicate (n - np) none) C with
  | nx ρ C1 => rw [e] at h; exact h.p
  | rt d C1 => rw [e] at h; exact h.p
  | bk ρ C1 => rw [e] at h; exact h.p.elim
  | ct ρ C1 => rw [e] at h; exact h.p.elim
  | ex c p ρ C1 => rw [e] at h; exact h.p
  | stuck => rw [e] at h; exact h.p.elim
theorem w_def (ρ : Rho) (hl : ds.length = np) (hρ : ds.map some ++ List.replicate (n - np) none = ρ) (h : Wo (rxP (fun d C' => We X Q (okFin m C.length d C')) (fun c p C' => We X Q (exFin C.length c p C'))) (fun _ C' => We X Q (okFin m C.length .non C')) (fb ρ C)) : We X Q (denF m np n fb ds C) := by
  subst hρ
  exact w_den hl h
/-- nothing is laid -/
theorem f_val (hC : Flat C) (hd : celOk C.length d = true) (q : Q d C) : We X Q (okFin m C.length d C) := by
  rw [fin_val (by simpa using hC) hd, List.take_length]
  exact ⟨q⟩
/-- the cells as they are told, others behind -/
theorem f_tail (hC : Flat C1) (hl : C1.length = n) (hd : celOk n d = true) (q : Q d C1) : We X Q (okFin m n d (C1 ++ T)) := by
  subst hl
  rw [fin_val (by simpa using hC) hd, take_app]
  exact ⟨q⟩
theorem f_len (hC : Flat C1) (hl : C1.length = n) (hd : celOk n d = true) (q : Q d C1) : We X Q (okFin m n d C1) := by
  subst hl
  exact f_val hC hd q
/-- its own cell, as a value -/
theorem f_frz {xs : List D} {k : Nat} (hC : Flat C1) (hl : C1.length = n) (hk : n ≤ k) (e : (C1 ++ T)[k]? = some (.lst xs)) (hd : celsOk n xs = true) (q : Q (.lst xs) C1) : We X Q (okFin false n (.cel k) (C1 ++ T)) := by
  subst hl
  rw [fin_frz (by simpa using hC) hk e hd, take_app]
  exact ⟨q⟩
theorem f_ex {c : Str} (hC : Flat C) (hd : celOk C.length d = true) (q : X c d C) : We X Q (exFin C.length c d C) := by
  unfold exFin
  rw [List.take_length, hC.ok, hd]
  exact ⟨q⟩
end
end BV
namespace BV
open PySem PySem.Spec PyProof.Rows L2
/-! ### len(d) of a dict -/
def oLenK (xs : List D) (C : Cells) : Res D := match xs with
  | [x] => match dicD x C with
    | some ks => .ok (.int ks.length) C
    | none => .stuck
  | _ => .stuck
theorem cb_lenK {X : Cx} {W : WX} : CallB X W (.builtin "len") oLenK := by
  refine ⟨_, call_lenD, fun xs C vs μ F H σ Q S r k => ?_⟩
  unfold oLenK at k
  split at k
  · obtain ⟨v, rfl, r1⟩ := reps1 r
    split at k
    · rename_i ks e
      obtain ⟨a, ws, j, rfl, rfl, _, _, g, rr⟩ := dicD_rep S r1 e
      rw [← rr.len] at k
      exact ⟨a, ws, rfl, g, kd_ret S (.int _) k⟩
    · exact k.elim
  · exact k.elim
end BV
namespace BV
open PySem L2
/-! ### the box of draws, for all laws at once: their texts differ in numbers alone -/
structure Box (C : Cells) (k : Nat) : Prop where
  ex : ∃ g s : Int, C[k]? = some (.lst [.int g, .int s]) ∧ 0 ≤ g ∧ 0 ≤ s ∧ s < 2 ^ 32
/-- the cells of a law: tables T ahead, the box at k -/
structure Dr (T : Cells) (k : Nat) (E : Cells) : Prop where
  fl : Flat E
  bx : Box E k
  pre : ∀ (j : Nat) (c : Cell), T[j]? = some c → E[j]? = some c
  k0 : T.length ≤ k
/-- .. of which there are n -/
structure Dn (T : Cells) (k n : Nat) (E : Cells) : Prop where
  d : Dr T k E
  l : E.length = n
theorem Box.lt {k : Nat} {E : Cells} (h : Box E k) : k < E.length := by
  obtain ⟨g, s, e, _⟩ := h.ex
  exact (List.getElem?_eq_some_iff.mp e).1
theorem Box.of {k : Nat} {E E' : Cells} (h : Box E k) (e : E'[k]? = E[k]?) : Box E' k := ⟨by rw [e]; exact h.ex⟩
theorem Dr.tab {q : PySem.Str} {P : PySem.Addr} {T : Cells} {k : Nat} {E : Cells} (h : Dr T k E) (ht : hasTab q P T = true) : hasTab q P E = true := by
  unfold hasTab at ht ⊢
  rw [List.any_eq_true] at ht ⊢
  obtain ⟨c, hc, e⟩ := ht
  obtain ⟨j, hj, e2⟩ := List.mem_iff_getElem.mp hc
  exact ⟨c, List.mem_of_getElem? (h.pre j c (by rw [← e2]; simp [hj])), e⟩
/-- what is laid behind, or changed behind, leaves it -/
theorem Dr.tail {T : Cells} {k : Nat} {E E' : Cells} (h : Dr T k E) (hF : Flat E') (he : ∀ j : Nat, j ≤ k → E'[j]? = E[j]?) : Dr T k E' :=
  ⟨hF, h.bx.of (he k (Nat.le_refl _)), fun j c e => by
    have := (List.getElem?_eq_some_iff.mp e).1
    have := h.k0
    rw [he j (by omega)]
    exact h.pre j c e, h.k0⟩
theorem Dr.app {T L : Cells} {k : Nat} {E : Cells} (h : Dr T k E) (hL : Flat L) : Dr T k (E ++ L) :=
  h.tail (h.fl.append hL) fun j hj => by
    have := h.bx.lt
    rw [List.getElem?_append_left (by omega)]
theorem Dn.app {T L : Cells} {k n : Nat} {E : Cells} (h : Dn T k n E) (hL : Flat L) : Dn T k (n + L.length) (E ++ L) := ⟨h.d.app hL, by simp [h.l]⟩
theorem Dn.fl {T : Cells} {k n : Nat} {E : Cells} (h : Dn T k n E) : Flat E := h.d.fl
theorem celOk_in {n : Nat} {d : D} : ∀ {ds : List D}, celsOk n ds = true → d ∈ ds → celOk n d = true
  | a :: as, h, hd => by
    simp only [celsOk, Bool.and_eq_true] at h
    rcases List.mem_cons.mp hd with e | hd
    · rw [e]; exact h.1
    · exact celOk_in h.2 hd
/-- what agrees with E ++ L but at k is E' ++ L -/
theorem split_app {E L E2 : Cells} {k : Nat} (hk : k < E.length) (hl : E2.length = (E ++ L).length) (h : ∀ j : Nat, j ≠ k → E2[j]? = (E ++ L)[j]?) : ∃ E', E2 = E' ++ L ∧ E'.length = E.length ∧ ∀ j : Nat, j ≠ k → E'[j]? = E[j]? := by
  have h1 : (E2.take E.length).length = E.length := by rw [List.length_take, hl, List.length_append]; omega
  refine ⟨E2.take E.length, ?_, h1, fun j hj => ?_⟩
  · refine List.ext_getElem? fun j => ?_
    by_cases hj : j < E.length
    · rw [List.getElem?_append_left (by rw [h1]; exact hj), List.getElem?_take_of_lt hj]
    · rw [h j (by omega), List.getElem?_append_right (by omega), List.getElem?_append_right (by omega), h1]
  · by_cases hj2 : j < E.length
    · rw [List.getElem?_take_of_lt hj2, h j hj, List.getElem?_append_left hj2]
    · rw [List.getElem?_eq_none (by omega), List.getElem?_eq_none (by omega)]
theorem Dr.split {T E L E2 : Cells} {k : Nat} (h : Dr T k E) (h2 : Dr T k E2) (hl : E2.length = (E ++ L).length) (he : ∀ j : Nat, j ≠ k → E2[j]? = (E ++ L)[j]?) : ∃ E', E2 = E' ++ L ∧ Dr T k E' ∧ E'.length = E.length ∧ ∀ j : Nat, j ≠ k → E'[j]? = E[j]? := by
  have hk := h.bx.lt
  obtain ⟨E', rfl, e1, e2⟩ := split_app hk hl he
  refine ⟨E', rfl, ⟨fun c hc => h2.fl c (List.mem_append_left _ hc), h2.bx.of ?_, fun j c hj => ?_, h2.k0⟩, e1, e2⟩
  · rw [List.getElem?_append_left (by omega)]
  · have := (List.getElem?_eq_some_iff.mp hj).1
    have := h.k0
    have q := h2.pre j c hj
    rwa [List.getElem?_append_left (by omega)] at q
/-! numbers of a law -/
structure BoxK where
  (b0 b1 m0 b2 m1 b3 b4 m2 t0 t1 t2 t3 t4 t5 t6 t7 : Int)
def BoxK.ok (c : BoxK) : Bool := ([c.b0, c.b1, c.m0, c.b2, c.m1, c.b3, c.b4, c.m2, c.t0, c.t1, c.t2, c.t3, c.t4, c.t5, c.t6, c.t7].all fun i => decide (0 < i) && decide (i < 2147483648)) && decide (c.t7 < 1073741824)
theorem BoxK.bd {c : BoxK} (h : c.ok = true) : (0 < c.b0 ∧ c.b0 < 2147483648) ∧ (0 < c.b1 ∧ c.b1 < 2147483648) ∧ (0 < c.m0 ∧ c.m0 < 2147483648) ∧ (0 < c.b2 ∧ c.b2 < 2147483648) ∧ (0 < c.m1 ∧ c.m1 < 2147483648) ∧ (0 < c.b3 ∧ c.b3 < 2147483648) ∧ (0 < c.b4 ∧ c.b4 < 2147483648) ∧ (0 < c.m2 ∧ c.m2 < 2147483648) ∧
    (0 < c.t0 ∧ c.t0 < 2147483648) ∧ (0 < c.t1 ∧ c.t1 < 2147483648) ∧ (0 < c.t2 ∧ c.t2 < 2147483648) ∧ (0 < c.t3 ∧ c.t3 < 2147483648) ∧ (0 < c.t4 ∧ c.t4 < 2147483648) ∧ (0 < c.t5 ∧ c.t5 < 2147483648) ∧ (0 < c.t6 ∧ c.t6 < 2147483648) ∧ (0 < c.t7 ∧ c.t7 < 1073741824) := by
  unfold BoxK.ok at h
  simp only [List.all_cons, List.all_nil, Bool.and_eq_true, decide_eq_true_eq, and_true] at h
  omega
def boxB (c : BoxK) : Rho → Cells → Out :=
  (sSeq (sSet 2 (f2 (addD false) (f2 (mulD false) (fC (.int c.b0)) (fVar 1)) (fC (.int c.b1))))
    (sSeq (sIf (f2 ltD (fVar 1) (fA oLen (aCons (fVar 0) aNil))) (sSet 2 (fA oAbs (aCons (fA oInt (aCons (f2 ixD (fVar 0) (fVar 1)) aNil)) aNil))) (sIf (f2 gtD (fA oLen (aCons (fVar 0) aNil)) (fC (.int 0))) (sSet 2 (f2 (addD false) (fVar 2) (f2 (mulD false) (f2 modD (fA oInt (aCons (fA oAbs (aCons (fA oInt (aCons (f2 ixD (fVar 0) (f2 modD (fA oInt (aCons (fVar 1) aNil)) (fA oLen (aCons (fVar 0) aNil)))) aNil)) aNil)) aNil)) (fC (.int c.m0))) (fC (.int c.b2))))) sNil))
    (sSeq (sSet 3 (ifD (f2 geD (fVar 2) (f2 powD (fC (.int 10)) (fC (.int 18)))) (fVar 2) (fC (.int 0))))
    (sRet (fA (oLst true) (aCons (fVar 3) (aCons (f2 (addD false) (f2 modD (fA oInt (aCons (f2 (addD false) (f2 (mulD false) (f2 modD (fA oInt (aCons (fVar 2) aNil)) (fC (.int c.m1))) (fC (.int c.b3))) (f2 (mulD false) (fC (.int c.b4)) (fVar 1))) aNil)) (fC (.int c.m2))) (fC (.int 1))) aNil)))))))
def takeB (c : BoxK) : Rho → Cells → Out :=
  (sSeq (sIf (f2 gtD (f2 ixD (fVar 0) (fC (.int 0))) (fC (.int 0))) (sSeq (sSet 2 (f2 modD (fA oInt (aCons (f2 ixD (fVar 0) (fC (.int 0))) aNil)) (fVar 1)))
    (sSeq (sSto (f2 fdivD (f2 ixD (fVar 0) (fC (.int 0))) (fVar 1)) (fVar 0) (fC (.int 0)))
    (sRet (fVar 2)))) sNil)
    (sSeq (sSet 3 (f2 modD (fA oInt (aCons (f2 (addD false) (f2 (mulD false) (f2 ixD (fVar 0) (fC (.int 1))) (fC (.int c.t0))) (fC (.int c.t1))) aNil)) (fC (.int c.t2))))
    (sSeq (sSto (f2 (addD false) (f2 modD (fA oInt (aCons (f2 (addD false) (f2 (mulD false) (fVar 3) (fC (.int c.t3))) (fC (.int c.t4))) aNil)) (fC (.int c.t5))) (fC (.int 1))) (fVar 0) (fC (.int 1)))
    (sRet (f2 modD (fA oInt (aCons (f2 fdivD (f2 (addD false) (f2 (mulD false) (fVar 3) (fC (.int c.t6))) (f2 ixD (fVar 0) (fC (.int 1)))) (fC (.int c.t7))) aNil)) (fVar 1))))))
def pickB (dt : List D → Cells → Res D) : Rho → Cells → Out :=
  (sRet (f2 ixD (fVar 1) (fA (oCall 2 dt) (aCons (fVar 0) (aCons (fA oLen (aCons (fVar 1) aNil)) aNil)))))
/-- what a draw is worth -/
structure Tk (dt : List D → Cells → Res D) : Prop where
  go : ∀ (T : Cells) (k : Nat) (E : Cells) (m : Int), Dr T k E → 0 < m → m < 1073741824 → ∃ (r : Int) (E' : Cells), dt [.cel k, .int m] E = .ok (.int r) E' ∧ 0 ≤ r ∧ r < m ∧ Dr T k E' ∧ E'.length = E.length ∧ ∀ j : Nat, j ≠ k → E'[j]? = E[j]?
structure Pk (dp : List D → Cells → Res D) : Prop where
  go : ∀ (T : Cells) (k : Nat) (E : Cells) (x : D) (ds : List D), SV x ds → Dr T k E → 0 < ds.length → ds.length < 1073741824 → celsOk E.length ds = true → ∃ (j : Nat) (d : D) (E' : Cells), ds[j]? = some d ∧ dp [.cel k, x] E = .ok d E' ∧ Dr T k E' ∧ E'.length = E.length ∧ ∀ j : Nat, j ≠ k → E'[j]? = E[j]?
structure Bx (db : List D → Cells → Res D) : Prop where
  go : ∀ (T : Cells) (ns : List Int) (C : Cells) (i : Int), Flat C → (∀ (j : Nat) (c : Cell), T[j]? = some c → C[j]? = some c) → T.length ≤ C.length → 0 ≤ i → i < 1000 → ∃ E, db [.scr ns, .int i] C = .ok (.cel C.length) E ∧ Dr T C.length E ∧ E.length = C.length + 1
theorem Dr.setB {T : Cells} {k : Nat} {E : Cells} {g s : Int} (h : Dr T k E) (hg : 0 ≤ g) (h0 : 0 ≤ s) (h1 : s < 2 ^ 32) : Dr T k (E.set k (.lst [.int g, .int s])) := by
  have hk := h.bx.lt
  refine ⟨h.fl.set k rfl, ⟨g, s, by simp [hk], hg, h0, h1⟩, fun j c e => ?_, h.k0⟩
  have := (List.getElem?_eq_some_iff.mp e).1
  have := h.k0
  rw [List.getElem?_set_ne (by omega)]
  exact h.pre j c e
theorem takeG {c : BoxK} (hc : c.ok = true) : Tk (denF false 2 4 (takeB c)) := by
  refine ⟨fun T k E m h h0 h1 => ?_⟩
  obtain ⟨-, -, -, -, -, -, -, -, t0, t1, t2, t3, t4, t5, t6, t7⟩ := BoxK.bd hc
  obtain ⟨g, s, hk, hg, hs, hs2⟩ := h.bx.ex
  have hkl := h.bx.lt
  have i0 : ixD (.cel k) (.int 0) E = .ok (.int g) E := ix_cel hk (by decide) rfl
  have i1 : ixD (.cel k) (.int 1) E = .ok (.int s) E := ix_cel hk (by decide) rfl
  have hm : ∀ i j : Int, -(2 ^ 64) < j → j < 2 ^ 64 → CMul i j := fun i j a b => .inr ⟨a, b⟩
  by_cases hp : g > 0
  · have dd := h.setB (g := g / m) (s := s) (Int.ediv_nonneg hg (by omega)) hs hs2
    refine ⟨g % m, E.set k (.lst [.int (g / m), .int s]), ?_, Int.emod_nonneg _ (by omega), Int.emod_lt_of_pos _ h0, dd, by simp, fun j hj => by rw [List.getElem?_set_ne (Ne.symm hj)]⟩
    refine den_mut [] dd.fl rfl (by simp) ?_ rfl
    have hd : CDiv g m := ⟨h0, by omega⟩
    have st : stoD (.cel k) (.int 0) (.int (g / m)) E = some (E.set k (.lst [.int (g / m), .int s])) := sto_of hk (by decide) (by simp)
    simp [takeB, i0, hp, h0, hd, st]
  · let s' : Int := ((s * c.t0 + c.t1) % c.t2 * c.t3 + c.t4) % c.t5 + 1
    have s0 : 0 ≤ ((s * c.t0 + c.t1) % c.t2 * c.t3 + c.t4) % c.t5 := Int.emod_nonneg _ (by omega)
    have s1 : ((s * c.t0 + c.t1) % c.t2 * c.t3 + c.t4) % c.t5 < c.t5 := Int.emod_lt_of_pos _ t5.1
    have dd := h.setB (g := g) (s := s') hg (by show 0 ≤ _ + 1; omega) (by show _ + 1 < _; omega)
    refine ⟨((s * c.t0 + c.t1) % c.t2 * c.t6 + s') / c.t7 % m, E.set k (.lst [.int g, .int s']), ?_, Int.emod_nonneg _ (by omega), Int.emod_lt_of_pos _ h0, dd, by simp, fun j hj => by rw [List.getElem?_set_ne (Ne.symm hj)]⟩
    refine den_mut [] dd.fl rfl (by simp) ?_ rfl
    have st : ∀ v, stoD (.cel k) (.int 1) v E = some (E.set k (.lst [.int g, v])) := fun v => sto_of hk (by decide) (by simp)
    have i1' : ∀ v, ixD (.cel k) (.int 1) (E.set k (.lst [.int g, v])) = .ok v (E.set k (.lst [.int g, v])) := fun v => ix_cel (set_get hk) (by decide) rfl
    have c1 : CDiv ((s * c.t0 + c.t1) % c.t2 * c.t6 + s') c.t7 := ⟨t7.1, by omega⟩
    have m0 : CMul s c.t0 := hm _ _ (by omega) (by omega)
    have m1 : CMul ((s * c.t0 + c.t1) % c.t2) c.t3 := hm _ _ (by omega) (by omega)
    have m2 : CMul ((s * c.t0 + c.t1) % c.t2) c.t6 := hm _ _ (by omega) (by omega)
    simp only [s'] at c1
    simp [takeB, i0, hp, h0, st, i1, i1', m0, m1, m2, c1, s', t2.1, t5.1]
theorem pickG {dt : List D → Cells → Res D} (tk : Tk dt) : Pk (denF false 2 2 (pickB dt)) := by
  refine ⟨fun T k E x ds hx h h0 h1 hc => ?_⟩
  obtain ⟨r, E', e, r0, r1, d, hl, he⟩ := tk.go T k E ds.length h (by omega) (by omega)
  have hj : r.toNat < ds.length := by omega
  refine ⟨r.toNat, ds[r.toNat], E', by simp [hj], ?_, d, hl, he⟩
  have hd : celOk E.length ds[r.toNat] = true := celOk_in hc (List.getElem_mem hj)
  refine den_mut [] d.fl rfl hl ?_ hd
  have hi : ∀ C', asS x C' = some ds := by rcases hx with rfl | rfl <;> intro _ <;> rfl
  have hln : oLen [x] E = .ok (.int ds.length) E := by rcases hx with rfl | rfl <;> rfl
  have hix : ixD x (.int r) E' = .ok ds[r.toNat] E' := ix_of (hi _) r0 (by simp [hj])
  simp [pickB, hln, e, hix]
theorem scr_at {ns : List Int} {C : Cells} {i : Int} (h0 : 0 ≤ i) (h1 : i < ns.length) : ∃ v, ixD (.scr ns) (.int i) C = .ok (.int v) C := by
  refine ⟨ns[i.toNat]'(by omega), ix_of (asS_scr _ _) h0 ?_⟩
  have : i.toNat < ns.length := by omega
  simp [this]
theorem boxG {c : BoxK} (hc : c.ok = true) : Bx (denF true 2 4 (boxB c)) := by
  refine ⟨fun T ns C k hC hp0 hl0 h0 h1 => ?_⟩
  obtain ⟨b0, b1, m0, b2, m1, b3, b4, m2, -⟩ := BoxK.bd hc
  have hm : ∀ i j : Int, -(2 ^ 64) < j → j < 2 ^ 64 → CMul i j := fun i j a b => .inr ⟨a, b⟩
  have hm' : ∀ i j : Int, -(2 ^ 64) < i → i < 2 ^ 64 → CMul i j := fun i j a b => .inl ⟨a, b⟩
  have hp : CPow 10 18 := by decide
  have n0 : 0 ≤ c.b0 * k + c.b1 := by
    have := Int.mul_nonneg (show 0 ≤ c.b0 by omega) h0
    omega
  have e0 : CMul c.b0 k := hm' _ _ (by omega) (by omega)
  have mid : ∃ v : Int, 0 ≤ v ∧ (sIf (f2 ltD (fVar 1) (fA oLen (aCons (fVar 0) aNil))) (sSet 2 (fA oAbs (aCons (fA oInt (aCons (f2 ixD (fVar 0) (fVar 1)) aNil)) aNil)))
      (sIf (f2 gtD (fA oLen (aCons (fVar 0) aNil)) (fC (.int 0))) (sSet 2 (f2 (addD false) (fVar 2) (f2 (mulD false) (f2 modD (fA oInt (aCons (fA oAbs (aCons (fA oInt (aCons (f2 ixD (fVar 0) (f2 modD (fA oInt (aCons (fVar 1) aNil)) (fA oLen (aCons (fVar 0) aNil)))) aNil)) aNil)) aNil)) (fC (.int c.m0))) (fC (.int c.b2))))) sNil))
      [some (.scr ns), some (.int k), some (.int (c.b0 * k + c.b1)), none] C = .nx [some (.scr ns), some (.int k), some (.int v), none] C := by
    by_cases a : k < ns.length
    · obtain ⟨v, hv⟩ := scr_at (C := C) h0 a
      exact ⟨if v < 0 then -v else v, by split <;> omega, by simp [a, hv]⟩
    · by_cases b : (0 : Int) < ns.length
      · obtain ⟨v, hv⟩ := scr_at (C := C) (i := k % ns.length) (Int.emod_nonneg _ (by omega)) (Int.emod_lt_of_pos _ b)
        have b' : 0 < ns.length := by omega
        refine ⟨c.b0 * k + c.b1 + (if v < 0 then -v else v) % c.m0 * c.b2, ?_, ?_⟩
        · have := Int.mul_nonneg (Int.emod_nonneg (if v < 0 then -v else v) (show c.m0 ≠ 0 by omega)) (show 0 ≤ c.b2 by omega)
          omega
        · simp [a, b, b', hv, hm _ c.b2 (by omega) (by omega), m0.1]
      · exact ⟨c.b0 * k + c.b1, n0, by simp [a, b]; omega⟩
  obtain ⟨v, hv0, hmid⟩ := mid
  have q0 : 0 ≤ (v % c.m1 * c.b3 + c.b4 * k) % c.m2 := Int.emod_nonneg _ (by omega)
  have q1 : (v % c.m1 * c.b3 + c.b4 * k) % c.m2 < c.m2 := Int.emod_lt_of_pos _ m2.1
  have hbx : Box (C ++ [.lst [.int (if v ≥ 10 ^ 18 then v else 0), .int ((v % c.m1 * c.b3 + c.b4 * k) % c.m2 + 1)]]) C.length := ⟨if v ≥ 10 ^ 18 then v else 0, (v % c.m1 * c.b3 + c.b4 * k) % c.m2 + 1, by simp, by split <;> omega, by omega, by omega⟩
  refine ⟨C ++ [.lst [.int (if v ≥ 10 ^ 18 then v else 0), .int ((v % c.m1 * c.b3 + c.b4 * k) % c.m2 + 1)]], ?_, ⟨hC.append (.one rfl), hbx, fun j d z => ?_, hl0⟩, by simp⟩
  · have e : boxB c ([D.scr ns, .int k].map some ++ List.replicate (4 - 2) none) C = .rt (.cel C.length) (C ++ [.lst [.int (if v ≥ 10 ^ 18 then v else 0), .int ((v % c.m1 * c.b3 + c.b4 * k) % c.m2 + 1)]]) := by
      unfold boxB
      rw [e_sSeq]
      simp only [List.map_cons, List.map_nil, List.cons_append, List.nil_append, List.replicate, Nat.reduceSub, e_sSet, e_f2, e_c, e_var, List.getElem?_cons_zero, List.getElem?_cons_succ, Res.bind_ok, e_mul_ii, e_add_ii, if_pos e0, Res.out_ok, List.set_cons_succ, List.set_cons_zero, Out.then_nx]
      rw [e_sSeq, hmid]
      have x1 : CMul (v % c.m1) c.b3 := hm _ _ (by omega) (by omega)
      have x2 : CMul c.b4 k := hm' _ _ (by omega) (by omega)
      by_cases g : (1000000000000000000 : Int) ≤ v
      · simp [hp, g, x1, x2, m1.1, m2.1]
      · simp [hp, g, x1, x2, m1.1, m2.1]
    refine (den_rt (m := true) (np := 2) (N := 4) rfl e).trans ?_
    have := fin_cel (ds := [.int (if v ≥ 10 ^ 18 then v else 0), .int ((v % c.m1 * c.b3 + c.b4 * k) % c.m2 + 1)]) (C := C) (C' := C ++ [.lst [.int (if v ≥ 10 ^ 18 then v else 0), .int ((v % c.m1 * c.b3 + c.b4 * k) % c.m2 + 1)]]) (k := C.length) (by simpa using hC) (Nat.le_refl _) (by simp) rfl
    rw [this, take_app]
  · have := (List.getElem?_eq_some_iff.mp z).1
    rw [List.getElem?_append_left (by omega)]
    exact hp0 j d z
/-! forward -/
section
variable {X : XP} {Q : D → Cells → Prop} {T E L : Cells} {k n : Nat} {m : Int} {dt dp : List D → Cells → Res D} {ds : List D} {x : D}
theorem w_take (tk : Tk dt) (h : Dn T k n E) (h0 : 0 < m) (h1 : m < 1073741824) (q : ∀ r E', 0 ≤ r → r < m → Dn T k n E' → Q (.int r) E') : We X Q (dt [.cel k, .int m] E) := by
  obtain ⟨r, E', e, r0, r1, d, hl, _⟩ := tk.go T k E m h.d h0 h1
  exact w_of e (q r E' r0 r1 ⟨d, by rw [hl, h.l]⟩)
theorem w_takeL (tk : Tk dt) (h : Dn T k n E) (hL : Flat L) (h0 : 0 < m) (h1 : m < 1073741824) (q : ∀ r E', 0 ≤ r → r < m → Dn T k n E' → Q (.int r) (E' ++ L)) : We X Q (dt [.cel k, .int m] (E ++ L)) := by
  obtain ⟨r, E2, e, r0, r1, d, hl, he⟩ := tk.go T k (E ++ L) m (h.d.app hL) h0 h1
  obtain ⟨E', rfl, d', l', _⟩ := h.d.split d hl he
  exact w_of e (q r E' r0 r1 ⟨d', by rw [l', h.l]⟩)
theorem w_pick (pk : Pk dp) (hx : SV x ds) (h : Dn T k n E) (h0 : 0 < ds.length) (h1 : ds.length < 1073741824) (hc : celsOk 0 ds = true) (q : ∀ d E', d ∈ ds → Dn T k n E' → Q d E') : We X Q (dp [.cel k, x] E) := by
  obtain ⟨j, d, E', hj, e, d', hl, _⟩ := pk.go T k E x ds hx h.d h0 h1 (celsOk_mono (Nat.zero_le _) _ hc)
  exact w_of e (q d E' (List.mem_of_getElem? hj) ⟨d', by rw [hl, h.l]⟩)
theorem w_pickL (pk : Pk dp) (hx : SV x ds) (h : Dn T k n E) (hL : Flat L) (h0 : 0 < ds.length) (h1 : ds.length < 1073741824) (hc : celsOk 0 ds = true) (q : ∀ d E', d ∈ ds → Dn T k n E' → Q d (E' ++ L)) : We X Q (dp [.cel k, x] (E ++ L)) := by
  obtain ⟨j, d, E2, hj, e, d2, hl, he⟩ := pk.go T k (E ++ L) x ds hx (h.d.app hL) h0 h1 (celsOk_mono (Nat.zero_le _) _ hc)
  obtain ⟨E', rfl, d', l', _⟩ := h.d.split d2 hl he
  exact w_of e (q d E' (List.mem_of_getElem? hj) ⟨d', by rw [l', h.l]⟩)
/-! cells of one's own behind -/
theorem ap0 {c : Cell} (h : E.length = n) : (E ++ c :: L)[n]? = some c := by subst h; simp
theorem ap1 {a c : Cell} (h : E.length = n) : (E ++ a :: c :: L)[n + 1]? = some c := by subst h; simp
theorem ap2 {a b c : Cell} (h : E.length = n) : (E ++ a :: b :: c :: L)[n + 2]? = some c := by subst h; simp
theorem st0 {c d : Cell} (h : E.length = n) : (E ++ c :: L).set n d = E ++ d :: L := by subst h; simp
theorem st1 {a c d : Cell} (h : E.length = n) : (E ++ a :: c :: L).set (n + 1) d = E ++ a :: d :: L := by subst h; simp
theorem st2 {a b c d : Cell} (h : E.length = n) : (E ++ a :: b :: c :: L).set (n + 2) d = E ++ a :: b :: d :: L := by subst h; simp
theorem w_mk0 (h : E.length = n) (q : Q (.cel n) (E ++ [.lst ds])) : We X Q (mkL true ds E) := by subst h; exact ⟨q⟩
theorem w_mk1 {a : Cell} (h : E.length = n) (q : Q (.cel (n + 1)) (E ++ [a, .lst ds])) : We X Q (mkL true ds (E ++ [a])) := by
  refine w_of (a := .cel (n + 1)) (C := E ++ [a, .lst ds]) ?_ q
  subst h
  simp [mkL]
theorem w_mk2 {a b : Cell} (h : E.length = n) (q : Q (.cel (n + 2)) (E ++ [a, b, .lst ds])) : We X Q (mkL true ds (E ++ [a, b])) := by
  refine w_of (a := .cel (n + 2)) (C := E ++ [a, b, .lst ds]) ?_ q
  subst h
  simp [mkL]
theorem w_ap0 {v : D} (h : E.length = n) (hd : ds.length < 16777216) (q : Q .non (E ++ .lst (ds ++ [v]) :: L)) : We X Q (appD (.cel n) v (E ++ .lst ds :: L)) := w_app (ap0 h) hd (by rw [st0 h]; exact q)
theorem w_ap1 {a : Cell} {v : D} (h : E.length = n) (hd : ds.length < 16777216) (q : Q .non (E ++ a :: .lst (ds ++ [v]) :: L)) : We X Q (appD (.cel (n + 1)) v (E ++ a :: .lst ds :: L)) := w_app (ap1 h) hd (by rw [st1 h]; exact q)
theorem w_ap2 {a b : Cell} {v : D} (h : E.length = n) (hd : ds.length < 16777216) (q : Q .non (E ++ a :: b :: .lst (ds ++ [v]) :: L)) : We X Q (appD (.cel (n + 2)) v (E ++ a :: b :: .lst ds :: L)) := w_app (ap2 h) hd (by rw [st2 h]; exact q)
theorem sto0 {i : Int} {v : D} (h : E.length = n) (h0 : 0 ≤ i) (h1 : i < ds.length) : stoD (.cel n) (.int i) v (E ++ .lst ds :: L) = some (E ++ .lst (ds.set i.toNat v) :: L) := by rw [sto_of (ap0 h) h0 h1, st0 h]
theorem sto1 {a : Cell} {i : Int} {v : D} (h : E.length = n) (h0 : 0 ≤ i) (h1 : i < ds.length) : stoD (.cel (n + 1)) (.int i) v (E ++ a :: .lst ds :: L) = some (E ++ a :: .lst (ds.set i.toNat v) :: L) := by rw [sto_of (ap1 h) h0 h1, st1 h]
end
end BV
namespace BV
open PySem L2
theorem bt_is {b : Bool} {t f : Prop} (h : b = true) (q : t) : Bt (.bl b) t f := by subst h; exact ⟨q⟩
theorem bt_isn {b : Bool} {t f : Prop} (h : b = false) (q : f) : Bt (.bl b) t f := by subst h; exact ⟨q⟩
theorem bt_yes {p : Prop} [Decidable p] {t f : Prop} (h : p) (q : t) : Bt (.bl (decide p)) t f := bt_d (fun _ => q) fun z => absurd h z
theorem bt_no {p : Prop} [Decidable p] {t f : Prop} (h : ¬p) (q : f) : Bt (.bl (decide p)) t f := bt_d (fun z => absurd z h) fun _ => q
theorem bt_eyes {a b : Int} {t f : Prop} (h : a = b) (q : t) : Bt (.bl (a == b)) t f := bt_e (fun _ => q) fun z => absurd h z
theorem bt_eno {a b : Int} {t f : Prop} (h : a ≠ b) (q : f) : Bt (.bl (a == b)) t f := bt_e (fun z => absurd z h) fun _ => q
theorem bt_neyes {a b : Int} {t f : Prop} (h : a ≠ b) (q : t) : Bt (.bl (!(a == b))) t f := bt_ne (fun _ => q) fun z => absurd z h
theorem bt_neno {a b : Int} {t f : Prop} (h : a = b) (q : f) : Bt (.bl (!(a == b))) t f := bt_ne (fun z => absurd h z) fun _ => q
/-! ### data without cells, the script, or known tuples -/
mutual
def pure0 : D → Bool
  | .tup ds => pures ds
  | .lst ds => pures ds
  | .cel _ => false
  | .scr _ => false
  | .ftp _ => false
  | _ => true
def pures : List D → Bool
  | [] => true
  | d :: ds => pure0 d && pures ds
end
mutual
theorem pure0_ok (n : Nat) : ∀ {d : D}, pure0 d = true → celOk n d = true
  | .non, _ => rfl
  | .bl _, _ => rfl
  | .int _, _ => rfl
  | .str _, _ => rfl
  | .tup ds, h => by simp only [celOk]; exact pures_ok n (ds := ds) (by simpa [pure0] using h)
  | .lst ds, h => by simp only [celOk]; exact pures_ok n (ds := ds) (by simpa [pure0] using h)
theorem pures_ok (n : Nat) : ∀ {ds : List D}, pures ds = true → celsOk n ds = true
  | [], _ => rfl
  | d :: ds, h => by
    simp only [pures, Bool.and_eq_true] at h
    simp only [celsOk, Bool.and_eq_true]
    exact ⟨pure0_ok n h.1, pures_ok n h.2⟩
end
theorem pures_iff {ds : List D} : pures ds = true ↔ ∀ d ∈ ds, pure0 d = true := by
  induction ds with
  | nil => simp [pures]
  | cons d ds ih => simp [pures, ih]
def seqOf : D → Option (List D)
  | .tup ds => some ds
  | .lst ds => some ds
  | _ => none
def isSeq (d : D) : Bool := (seqOf d).isSome
def isInt : D → Bool
  | .int _ => true
  | _ => false
def isNum : D → Bool
  | .int i => decide (0 ≤ i)
  | _ => false
def isBel (m : Int) : D → Bool
  | .int i => decide (0 ≤ i) && decide (i < m)
  | _ => false
theorem seqOf_sv {d : D} {ds : List D} (h : seqOf d = some ds) : SV d ds := by
  cases d <;> simp [seqOf] at h
  · exact .inl (by rw [h])
  · exact .inr (by rw [h])
theorem seqOf_pures {d : D} {ds : List D} (h : seqOf d = some ds) (p : pure0 d = true) : pures ds = true := by
  rcases seqOf_sv h with rfl | rfl <;> simpa [pure0] using p
theorem SV.ix {C : Cells} {x : D} {ds : List D} {i : Int} {d : D} (h : SV x ds) (h0 : 0 ≤ i) (e : ds[i.toNat]? = some d) : ixD x (.int i) C = .ok d C := h.seq.ix h0 e
theorem SV.len {C : Cells} {x : D} {ds : List D} (h : SV x ds) : oLen [x] C = .ok (.int ds.length) C := h.seq.len
theorem SV.tuple {C : Cells} {x : D} {ds : List D} (h : SV x ds) : oTuple [x] C = .ok (.tup ds) C := h.seq.tuple
theorem isBel_int {m : Int} {d : D} (h : isBel m d = true) : ∃ i, d = .int i ∧ 0 ≤ i ∧ i < m := by
  cases d <;> simp [isBel] at h
  exact ⟨_, rfl, h.1, h.2⟩
theorem isInt_int {d : D} (h : isInt d = true) : ∃ i, d = .int i := by
  cases d <;> simp [isInt] at h
  exact ⟨_, rfl⟩
section
variable {X : XP} {Q : D → Cells → Prop} {C : Cells}
theorem w_seqs {Q : Src → Cells → Prop} {x : D} {ds : List D} (h : SV x ds) (q : Q (.fix ds) C) : We X Q (srcOf x C) := by
  rcases h with rfl | rfl <;> exact ⟨q⟩
theorem w_svlen {x : D} {ds : List D} (h : SV x ds) (q : Q (.int ds.length) C) : We X Q (oLen [x] C) := w_of h.len q
end
end BV
namespace BV
open PySem L2
/-! ### more words for going forward -/
section
variable {α : Type} {X : XP} {Q : D → Cells → Prop} {C : Cells} {ρ : Rho}
theorem lc_of {tg : D → Rho → Option Rho} {ft fe : Rho → Cells → Res D} (f g : α → D) (p : α → Bool) (r : α → Rho) : ∀ (L : List α), (∀ a ∈ L, tg (f a) ρ = some (r a)) → (∀ a ∈ L, ft (r a) C = .ok (.bl (p a)) C) → (∀ a ∈ L, p a = true → fe (r a) C = .ok (g a) C) →
    lcL tg ft fe ρ (L.map f) C = .ok ((L.filter p).map g) C
  | [], _, _, _ => rfl
  | a :: L, h0, h1, h2 => by
    have ih := lc_of f g p r L (fun x hx => h0 x (List.mem_cons_of_mem _ hx)) (fun x hx => h1 x (List.mem_cons_of_mem _ hx)) (fun x hx => h2 x (List.mem_cons_of_mem _ hx))
    show lcStep tg ft fe ρ (f a) C (lcL tg ft fe ρ (L.map f)) = _
    unfold lcStep
    rw [h0 a (by simp)]
    simp only [h1 a (by simp)]
    cases e : p a with
    | true => simp [h2 a (by simp) e, ih, e]
    | false => simp [ih, e]
/-- a comprehension over what a list of some kind stands for -/
theorem w_lcA {Q : List D → Cells → Prop} {tg : D → Rho → Option Rho} {ft fe : Rho → Cells → Res D} {L : List α} {f : α → D} (g : α → D) (p : α → Bool) (r : α → Rho) (h0 : ∀ a ∈ L, tg (f a) ρ = some (r a)) (h1 : ∀ a ∈ L, ft (r a) C = .ok (.bl (p a)) C) (h2 : ∀ a ∈ L, p a = true → fe (r a) C = .ok (g a) C)
    (q : Q ((L.filter p).map g) C) : We NX Q (lcS tg ft fe ρ (.fix (L.map f)) C) := w_of (lc_of f g p r L h0 h1 h2) q
theorem w_mapA {Q : List D → Cells → Prop} {tg : D → Rho → Option Rho} {fe : Rho → Cells → Res D} {L : List α} {f : α → D} (g : α → D) (r : α → Rho) (h0 : ∀ a ∈ L, tg (f a) ρ = some (r a)) (h2 : ∀ a ∈ L, fe (r a) C = .ok (g a) C)
    (q : Q (L.map g) C) : We NX Q (lcS tg fYes fe ρ (.fix (L.map f)) C) := w_lcA g (fun _ => true) r h0 (fun _ _ => rfl) (fun a ha _ => h2 a ha) (by rw [List.filter_eq_self.mpr fun _ _ => rfl]; exact q)
theorem w_allA {L : List α} {p : α → Bool} (q : Q (.bl (L.all p)) C) : We X Q (oAll [.lst (L.map fun a => .bl (p a))] C) := w_all (bs := L.map p) (by simp) (by simpa [List.all_map] using q)
theorem any_bs {bs : List Bool} : oAny [.lst (bs.map D.bl)] C = .ok (.bl (bs.any id)) C := by
  have e2 : blsC (.lst (bs.map D.bl)) C = some bs := by
    show bls? _ = _
    rw [bls?_map]
  simp [oAny, e2]
theorem w_anyA {L : List α} {p : α → Bool} (q : Q (.bl (L.any p)) C) : We X Q (oAny [.lst (L.map fun a => .bl (p a))] C) := by
  have : (L.map fun a => D.bl (p a)) = (L.map p).map D.bl := by simp
  rw [this]
  exact w_of any_bs (by simpa [List.any_map] using q)
theorem w_sumA {L : List α} {f : α → Int} (q : Q (.int (L.map f).sum) C) : We X Q (oSum [.lst (L.map fun a => .int (f a))] C) := by
  have : (L.map fun a => D.int (f a)) = (L.map f).map .int := by simp
  rw [this]
  exact w_sum q
theorem w_zip {Q : Src → Cells → Prop} {fs : Rho → Cells → Res (List D)} (h : We X (fun xs C1 => ∃ x y ds, xs = [x, y] ∧ zipOf x y = some ds ∧ Q (.fix ds) C1) (fs ρ C)) : We X Q (iZip fs ρ C) := by
  rw [e_iZip]
  refine w_bind (h.mono fun xs C1 q => ?_)
  obtain ⟨x, y, ds, rfl, e, q⟩ := q
  simp only [e]
  exact ⟨q⟩
theorem prs_map {β : Type} (f : α → D) (g : β → D) : ∀ (xs : List α) (ys : List β), prs (xs.map f) (ys.map g) = (xs.zip ys).map fun p => .tup [f p.1, g p.2]
  | [], _ => by simp [prs]
  | _ :: _, [] => by simp [prs]
  | x :: xs, y :: ys => by
    have ih := prs_map f g xs ys
    unfold prs at ih ⊢
    simp at ih ⊢
    exact ih
theorem ix_neg1 {x : D} {ds : List D} (h : SV x ds) {d : D} (e : ds[ds.length - 1]? = some d) : ixD x (.int (-1)) C = .ok d C := by
  have hl := (List.getElem?_eq_some_iff.mp e).1
  have hx : asS x C = some ds := h.seq.asS
  unfold ixD
  rw [hx]
  have : atI ds (-1) = some d := by
    unfold atI ixN
    rw [if_neg (by decide), if_pos (by omega)]
    have e2 : (-1 + (ds.length : Int)).toNat = ds.length - 1 := by omega
    simp only [e2, Option.bind_some]
    exact e
  simp only [this]
theorem w_svix {x : D} {ds : List D} {i : Int} {d : D} (h : SV x ds) (h0 : 0 ≤ i) (e : ds[i.toNat]? = some d) (q : Q d C) : We X Q (ixD x (.int i) C) := w_of (h.ix h0 e) q
theorem SV.sl {x : D} {ds : List D} {lo hi : Option Int} (h : SV x ds) : ∃ y, slD false x lo hi C = .ok y C ∧ SV y (cut ds lo hi) ∧ (∀ z, zipOf x y = some z ↔ prs ds (cut ds lo hi) = z) := by
  rcases h with rfl | rfl
  · exact ⟨_, rfl, .inl rfl, fun z => by simp⟩
  · exact ⟨_, rfl, .inr rfl, fun z => by simp⟩
/-- a dict comprehension -/
theorem w_dc {vs : List Nat} {fi : Rho → Cells → Res Src} {tg : D → Rho → Option Rho} {ft fk fv : Rho → Cells → Res D}
    (h : We X (fun s C1 => ∃ ds, s = .fix ds ∧ We NX (fun ks C2 => Q (.cel C2.length) (C2 ++ [.dic ks])) (dcL tg ft fk fv (wipeD ρ vs) [] ds C1)) (fi ρ C)) : We X Q (fDc vs fi tg ft fk fv ρ C) := by
  unfold fDc
  refine w_bind (h.mono fun s C1 q => ?_)
  obtain ⟨ds, rfl, q⟩ := q
  obtain ⟨ks, C2, e, q⟩ := q.ex
  simp only [e, Res.bind_ok]
  exact ⟨q⟩
/-- {i: f(i) for i in ints}: the keys are the ints -/
theorem dc_ints {k : Nat} {fv : Rho → Cells → Res D} (g : Int → D) : ∀ (L : List Int) (acc : List (Key × D)), (∀ i ∈ L, fv (ρ.set k (some (.int i))) C = .ok (g i) C) → k < ρ.length → acc.length + L.length ≤ 100000 →
    dcL (tgN k) fYes (fVar k) fv ρ acc (L.map .int) C = .ok (L.foldl (fun a i => putD a (.inl i) (g i)) acc) C
  | [], _, _, _, _ => rfl
  | i :: L, acc, h, hk, hl => by
    have hp : (putD acc (.inl i) (g i)).length ≤ acc.length + 1 := by
      unfold putD
      split <;> simp
    have ih := dc_ints g L (putD acc (.inl i) (g i)) (fun j hj => h j (List.mem_cons_of_mem _ hj)) hk (by simp at hl; omega)
    simp only [List.map_cons, List.foldl_cons]
    rw [← ih]
    have e1 : fVar k (ρ.set k (some (.int i))) C = .ok (.int i) C := by simp [hk]
    have e2 := h i (by simp)
    have : acc.length < sizeLine := by rw [sizeLine_eq]; simp at hl; omega
    conv => lhs; unfold dcL
    simp only [e_tgN, e_fYes, e_toB_t, noX_ok, Res.bind_ok, if_true, e1, e2, kOf, this]
/-- keys in the order in which they were put first -/
def keysI (ks : List (Key × D)) : List Int := ks.filterMap fun p => match p.1 with
  | .inl i => some i
  | _ => none
structure DI (L : List Int) (ks : List (Key × D)) : Prop where
  nd : (ks.map (·.1)).Nodup
  mem : ∀ k, k ∈ ks.map (·.1) ↔ ∃ i ∈ L, k = Sum.inl i
theorem putD_in {acc : List (Key × D)} {k : Key} {d : D} (h2 : k ∈ acc.map (·.1)) : (putD acc k d).map (·.1) = acc.map (·.1) := by
  unfold putD
  have h : (acc.any fun p => decide (p.1 = k)) = true := by
    obtain ⟨p, hp, e⟩ := List.mem_map.mp h2
    exact List.any_eq_true.mpr ⟨p, hp, by simpa using e⟩
  rw [if_pos h, List.map_map]
  refine List.map_congr_left fun p hp => ?_
  show (if p.1 = k then (p.1, d) else p).1 = p.1
  split <;> rfl
theorem putD_out {acc : List (Key × D)} {k : Key} {d : D} (h2 : ¬ k ∈ acc.map (·.1)) : putD acc k d = acc ++ [(k, d)] := by
  unfold putD
  have h : ¬ (acc.any fun p => decide (p.1 = k)) = true := fun z => by
    obtain ⟨p, hp, e⟩ := List.any_eq_true.mp z
    exact h2 (List.mem_map.mpr ⟨p, hp, by simpa using e⟩)
  rw [if_neg h]
theorem di_fold (g : Int → D) : ∀ (L L0 : List Int) (acc : List (Key × D)), DI L0 acc → DI (L0 ++ L) (L.foldl (fun a i => putD a (.inl i) (g i)) acc)
  | [], L0, acc, h => by simpa using h
  | i :: L, L0, acc, h => by
    have := di_fold g L (L0 ++ [i]) (putD acc (.inl i) (g i)) ⟨?_, fun k => ?_⟩
    · simpa using this
    · by_cases hm : Sum.inl i ∈ acc.map (·.1)
      · rw [putD_in hm]
        exact h.nd
      · rw [putD_out hm, List.map_append, List.nodup_append]
        exact ⟨h.nd, by simp, fun a ha b hb e => hm (by simp at hb; subst hb; subst e; exact ha)⟩
    · by_cases hm : Sum.inl i ∈ acc.map (·.1)
      · rw [putD_in hm, h.mem]
        constructor
        · rintro ⟨j, hj, e⟩
          exact ⟨j, by simp [hj], e⟩
        · rintro ⟨j, hj, e⟩
          rcases List.mem_append.mp hj with z | z
          · exact ⟨j, z, e⟩
          · simp at z
            subst z
            obtain ⟨j', hj', e'⟩ := (h.mem _).mp hm
            exact ⟨j', hj', by rw [e, e']⟩
      · rw [putD_out hm, List.map_append, List.mem_append, h.mem]
        constructor
        · rintro (⟨j, hj, e⟩ | z)
          · exact ⟨j, by simp [hj], e⟩
          · simp at z
            exact ⟨i, by simp, z⟩
        · rintro ⟨j, hj, e⟩
          rcases List.mem_append.mp hj with z | z
          · exact .inl ⟨j, z, e⟩
          · simp at z
            subst z
            exact .inr (by simp [e])
theorem di_len {L : List Int} {ks : List (Key × D)} (h : DI L ks) : ks.length = dcount L := by
  let f : Key → Int := fun k => match k with
    | .inl i => i
    | _ => 0
  have e : (ks.map (·.1)) = ((ks.map (·.1)).map f).map Sum.inl := by
    rw [List.map_map]
    conv => lhs; rw [← List.map_id (ks.map (·.1))]
    refine List.map_congr_left fun k hk => ?_
    obtain ⟨i, _, e⟩ := (h.mem k).mp hk
    subst e
    rfl
  have nd := h.nd
  rw [e] at nd
  have nd2 : ((ks.map (·.1)).map f).Nodup := List.Pairwise.of_map Sum.inl (fun a b h e => h (by rw [e])) nd
  have := dcount_of (ns := L) nd2 fun k => ?_
  · simpa using this
  · rw [List.mem_map]
    constructor
    · rintro ⟨q, hq, rfl⟩
      obtain ⟨i, hi, rfl⟩ := (h.mem q).mp hq
      exact hi
    · intro hk
      exact ⟨.inl k, (h.mem _).mpr ⟨k, hk, rfl⟩, rfl⟩
/-- a bool that tells whether p -/
def DecP (C : Cells) (p : Prop) : D → Cells → Prop := fun d C' => C' = C ∧ ∃ b : Bool, d = .bl b ∧ (b = true ↔ p)
theorem w_dec {r : Res D} {p : Prop} (h : We NX (DecP C p) r) : ∃ b, r = .ok (.bl b) C ∧ (b = true ↔ p) := by
  obtain ⟨d, C', e, rfl, b, rfl, hb⟩ := h.ex
  exact ⟨b, e, hb⟩
theorem f_dec {m : Bool} {p : Prop} {b : Bool} (hC : Flat C) (h : b = true ↔ p) : We NX (DecP C p) (okFin m C.length (.bl b) C) := f_val hC rfl ⟨rfl, b, rfl, h⟩
theorem f_no {m : Bool} {p : Prop} (hC : Flat C) (h : ¬ p) : We NX (DecP C p) (okFin m C.length (.bl false) C) := f_dec hC ⟨fun z => by (cases z), fun z => absurd z h⟩
theorem f_yes {m : Bool} {p : Prop} (hC : Flat C) (h : p) : We NX (DecP C p) (okFin m C.length (.bl true) C) := f_dec hC ⟨fun _ => h, fun _ => rfl⟩
/-- [take(box, m) for _ in range(n)] -/
theorem w_draws {Q : List D → Cells → Prop} {T E : Cells} {k nn i : Nat} {m n : Int} {dt : List D → Cells → Res D} {fb fm : Rho → Cells → Res D} (tk : Tk dt) (h : Dn T k nn E) (h0 : 0 < m) (h1 : m < 1073741824)
    (hb : ∀ d C, fb (ρ.set i d) C = .ok (.cel k) C) (hm : ∀ d C, fm (ρ.set i d) C = .ok (.int m) C) (q : ∀ (L : List Int) (E' : Cells), L.length = n.toNat → (∀ x ∈ L, 0 ≤ x ∧ x < m) → Dn T k nn E' → Q (L.map .int) E') :
    We NX Q (lcS (tgN i) fYes (fA (oCall 2 dt) (aCons fb (aCons fm aNil))) ρ (.fix (rg 0 n)) E) := by
  refine w_lcL (fun ds acc C => ∃ L, acc = L.map D.int ∧ Dn T k nn C ∧ L.length + ds.length = n.toNat ∧ ∀ x ∈ L, 0 ≤ x ∧ x < m) ?_ ?_ _ _ ⟨[], rfl, h, by simp [rg], fun _ h => nomatch h⟩
  · rintro d ds acc C ⟨L, rfl, hd, hl, hx⟩
    refine ⟨_, rfl, ⟨⟨w_fA (w_cons (w_of (hb _ _) (w_cons (w_of (hm _ _) (w_nil (w_call rfl (w_take tk hd h0 h1 fun r E' r0 r1 d1 => ?_)))))))⟩⟩⟩
    refine ⟨L ++ [r], by simp, d1, by simp at hl ⊢; omega, fun x hx' => ?_⟩
    rcases List.mem_append.mp hx' with z | z
    · exact hx x z
    · simp at z; subst z; exact ⟨r0, r1⟩
  · rintro acc C ⟨L, rfl, hd, hl, hx⟩
    exact q L C (by simpa using hl) hx hd
theorem w_p9 (q : Q (.int 1000000000) C) : We X Q (powD (.int 10) (.int 9) C) := w_of (by rfl) q
theorem w_cut {β : Type} {Q : β → Cells → Prop} {r : Res β} (I : β → Cells → Prop) (h : We X I r) (k : ∀ a C, I a C → Q a C) : We X Q r := h.mono k
theorem o_cut {P : Po} {N : Rho → Cells → Prop} {o : Out} (I : Rho → Cells → Prop) (h : Wo P I o) (k : ∀ ρ C, I ρ C → N ρ C) : Wo P N o := h.mono k
/-- a draw among ints -/
theorem pick_int {d : D} {L : List Int} (h : d ∈ L.map D.int) : ∃ i ∈ L, d = .int i := by
  obtain ⟨i, hi, rfl⟩ := List.mem_map.mp h
  exact ⟨i, hi, rfl⟩
theorem bt_nyes {p : Prop} [Decidable p] {t f : Prop} (h : ¬p) (q : t) : Bt (.bl (!decide p)) t f := bt_nd (fun _ => q) fun z => absurd z h
theorem bt_nno {p : Prop} [Decidable p] {t f : Prop} (h : p) (q : f) : Bt (.bl (!decide p)) t f := bt_nd (fun z => absurd h z) fun _ => q
/-! == with an empty list, tuple -/
theorem eqvAll_nil (ps : List PyData) : PyData.eqvAll ps [] = ps.isEmpty := by cases ps <;> simp [PyData.eqvAll]
theorem toPys_len : ∀ {ds : List D} {ps : List PyData}, toPys ds = some ps → ps.length = ds.length
  | [], ps, h => by simp [toPys] at h; subst h; rfl
  | d :: ds, ps, h => by
    simp only [toPys] at h
    split at h
    · rename_i p ps' e1 e2
      cases h
      simp [toPys_len e2]
    · cases h
theorem eq_nilD {ds : List D} {n w : Nat} (neg : Bool) (h : ∀ d ∈ ds, GA n w d) (hn : n < 64) : eqD neg (.lst ds) (.lst []) C = .ok (.bl (if neg then !ds.isEmpty else ds.isEmpty)) C := by
  obtain ⟨ps, gs⟩ := GDs.all h
  have g1 := GD.lst gs
  have g2 : GD (n + 1) (ds.length * (w + 1)) (.lst []) (.list []) := (GD.lst (n := 0) (w := 0) (ds := []) GDs.nil).mono (by omega) (by simp)
  rw [eq_of g1 g2 (by omega) (fun a b z => by cases z.1)]
  have : PyData.eqv (.list ps) (.list []) = ds.isEmpty := by
    simp only [PyData.eqv, eqvAll_nil]
    have := toPys_len gs.e
    cases ds <;> cases ps <;> simp at this <;> rfl
  rw [this]
theorem eq_nilT {ds : List D} {n w : Nat} (neg : Bool) (h : ∀ d ∈ ds, GA n w d) (hn : n < 64) : eqD neg (.tup ds) (.tup []) C = .ok (.bl (if neg then !ds.isEmpty else ds.isEmpty)) C := by
  obtain ⟨ps, gs⟩ := GDs.all h
  have g1 := GD.tup gs
  have g2 : GD (n + 1) (ds.length * (w + 1)) (.tup []) (.tuple []) := (GD.tup (n := 0) (w := 0) (ds := []) GDs.nil).mono (by omega) (by simp)
  rw [eq_of g1 g2 (by omega) (fun a b z => by cases z.1)]
  have : PyData.eqv (.tuple ps) (.tuple []) = ds.isEmpty := by
    simp only [PyData.eqv, eqvAll_nil]
    have := toPys_len gs.e
    cases ds <;> cases ps <;> simp at this <;> rfl
  rw [this]
theorem eq_nilC {L : List Int} {k : Nat} (neg : Bool) (e : C[k]? = some (.lst (L.map .int))) : eqD neg (.cel k) (.lst []) C = .ok (.bl (if neg then !L.isEmpty else L.isEmpty)) C := by
  unfold eqD
  simp only [toPyC, e, toPy, toPys_ints, Option.map_some, toPys]
  rw [if_pos ⟨by simp [SeqAt.shaped, PyData.canLay0, (lay_ints L).1, PyData.depth, (lay_ints L).2], rfl⟩]
  cases L <;> cases neg <;> rfl
theorem isi_seq {d : D} (h : pure0 d = true) : isiD ["list", "tuple"] d C = .ok (.bl (isSeq d)) C := by
  cases d <;> first | rfl | simp [pure0] at h
def isBl : D → Bool
  | .bl _ => true
  | _ => false
theorem isi_int {d : D} (h : pure0 d = true) : isiD ["int"] d C = .ok (.bl (isInt d || isBl d)) C := by
  cases d <;> first | rfl | simp [pure0] at h
theorem isi_bool {d : D} (h : pure0 d = true) : isiD ["bool"] d C = .ok (.bl (isBl d)) C := by
  cases d <;> first | rfl | simp [pure0] at h
theorem ga_bs {bs : List Bool} (h : bs.length ≤ 100) : GA 1 100 (.lst (bs.map .bl)) := (GA.lst (n := 0) (w := 0) fun d hd => by
  obtain ⟨b, _, rfl⟩ := List.mem_map.mp hd
  exact ⟨_, .bl b⟩).mono (by decide) (by simp; omega)
theorem ga_int {i : Int} (h : -1000000000000 < i ∧ i < 1000000000000) : GA 0 41 (.int i) := ⟨_, .int (by omega)⟩
/-! small goals by the way -/
theorem x_int {P : Int → Prop} {a : Int} (h : P a) : ∃ i, D.int a = .int i ∧ P i := ⟨_, rfl, h⟩
theorem x_two {P : D → D → Prop} {a b : D} (h : P a b) : ∃ x y, [a, b] = [x, y] ∧ P x y := ⟨_, _, rfl, h⟩
theorem x_three {P : D → D → D → Prop} {a b c : D} (h : P a b c) : ∃ x y z, [a, b, c] = [x, y, z] ∧ P x y z := ⟨_, _, _, rfl, h⟩
theorem x_rg {P : Int → Prop} {a : Int} (h0 : 0 ≤ a ∧ a ≤ 100000) (h : P a) : ∃ j, D.int a = .int j ∧ 0 ≤ j ∧ j ≤ 100000 ∧ P j := ⟨_, rfl, h0.1, h0.2, h⟩
theorem x_rg2 {P : Int → Int → Prop} {a b : Int} (h0 : (-100000 ≤ a ∧ a ≤ 100000) ∧ -100000 ≤ b ∧ b ≤ 100000) (h : P a b) : ∃ i j, D.int a = .int i ∧ D.int b = .int j ∧ -100000 ≤ i ∧ i ≤ 100000 ∧ -100000 ≤ j ∧ j ≤ 100000 ∧ P i j := ⟨_, _, rfl, rfl, h0.1.1, h0.1.2, h0.2.1, h0.2.2, h⟩
theorem x_tg {t : D → Rho → Option Rho} {d : D} {ρ1 : Rho} {P : Rho → Prop} (e : t d ρ = some ρ1) (h : P ρ1) : ∃ ρ1, t d ρ = some ρ1 ∧ P ρ1 := ⟨_, e, h⟩
section
variable {T E L : Cells} {k n : Nat} {ds : List D}
theorem w_lenC0 (h : Dn T k n E) (q : Q (.int ds.length) (E ++ .lst ds :: L)) : We X Q (oLen [.cel n] (E ++ .lst ds :: L)) := w_lenC (ap0 h.l) q
theorem w_tupC0 (h : Dn T k n E) (q : Q (.tup ds) (E ++ .lst ds :: L)) : We X Q (oTuple [.cel n] (E ++ .lst ds :: L)) := w_tupC (ap0 h.l) q
theorem w_slC0 {m : Bool} {lo hi : Option Int} (h : Dn T k n E) (q : We X Q (mkL m (cut ds lo hi) (E ++ .lst ds :: L))) : We X Q (slD m (.cel n) lo hi (E ++ .lst ds :: L)) := w_slC (ap0 h.l) q
theorem w_srcC0 {Q : Src → Cells → Prop} (h : Dn T k n E) (q : Q (.cel n ds.length) (E ++ .lst ds :: L)) : We X Q (srcOf (.cel n) (E ++ .lst ds :: L)) := w_srcC (ap0 h.l) q
theorem x_asL {P : List D → Prop} (h : Dn T k n E) (q : P ds) : ∃ xs, asL (.cel n) (E ++ .lst ds :: L) = some xs ∧ P xs := ⟨_, asL_celE (ap0 h.l), q⟩
theorem w_mkD (h : Dn T k n E) (q : Q (.cel n) (E ++ [.lst ds])) : We X Q (mkL true ds E) := w_mk0 h.l q
theorem w_mkD1 {a : Cell} (h : Dn T k n E) (q : Q (.cel (n + 1)) (E ++ [a, .lst ds])) : We X Q (mkL true ds (E ++ [a])) := w_mk1 h.l q
theorem w_lenC1 {a : Cell} (h : Dn T k n E) (q : Q (.int ds.length) (E ++ a :: .lst ds :: L)) : We X Q (oLen [.cel (n + 1)] (E ++ a :: .lst ds :: L)) := w_lenC (ap1 h.l) q
theorem w_tupC1 {a : Cell} (h : Dn T k n E) (q : Q (.tup ds) (E ++ a :: .lst ds :: L)) : We X Q (oTuple [.cel (n + 1)] (E ++ a :: .lst ds :: L)) := w_tupC (ap1 h.l) q
theorem w_slC1 {a : Cell} {m : Bool} {lo hi : Option Int} (h : Dn T k n E) (q : We X Q (mkL m (cut ds lo hi) (E ++ a :: .lst ds :: L))) : We X Q (slD m (.cel (n + 1)) lo hi (E ++ a :: .lst ds :: L)) := w_slC (ap1 h.l) q
theorem x_asL1 {P : List D → Prop} {a : Cell} (h : Dn T k n E) (q : P ds) : ∃ xs, asL (.cel (n + 1)) (E ++ a :: .lst ds :: L) = some xs ∧ P xs := ⟨_, asL_celE (ap1 h.l), q⟩
theorem w_addCl {m : Bool} {ys : List D} (h : Dn T k n E) (hl : ds.length + ys.length ≤ 16777216) (q : We X Q (mkL m (ds ++ ys) (E ++ .lst ds :: L))) : We X Q (addD m (.cel n) (.lst ys) (E ++ .lst ds :: L)) := by
  have e : addD m (.cel n) (.lst ys) (E ++ .lst ds :: L) = mkL m (ds ++ ys) (E ++ .lst ds :: L) := by
    show (match asL (.cel n) (E ++ Cell.lst ds :: L), asL (.lst ys) (E ++ Cell.lst ds :: L) with | some xs, some ys => if xs.length + ys.length ≤ sizeLine then mkL m (xs ++ ys) (E ++ Cell.lst ds :: L) else .stuck | _, _ => .stuck) = _
    rw [asL_celE (ap0 h.l)]
    show (if ds.length + ys.length ≤ sizeLine then _ else _) = _
    rw [sizeLine_eq, if_pos hl]
  rw [e]
  exact q
theorem w_addlC {m : Bool} {ys : List D} (h : Dn T k n E) (hl : ys.length + ds.length ≤ 16777216) (q : We X Q (mkL m (ys ++ ds) (E ++ .lst ds :: L))) : We X Q (addD m (.lst ys) (.cel n) (E ++ .lst ds :: L)) := by
  have e : addD m (.lst ys) (.cel n) (E ++ .lst ds :: L) = mkL m (ys ++ ds) (E ++ .lst ds :: L) := by
    show (match asL (.lst ys) (E ++ Cell.lst ds :: L), asL (.cel n) (E ++ Cell.lst ds :: L) with | some xs, some ys => if xs.length + ys.length ≤ sizeLine then mkL m (xs ++ ys) (E ++ Cell.lst ds :: L) else .stuck | _, _ => .stuck) = _
    rw [asL_celE (ap0 h.l)]
    show (if ys.length + ds.length ≤ sizeLine then _ else _) = _
    rw [sizeLine_eq, if_pos hl]
  rw [e]
  exact q
theorem w_mull {m : Bool} {xs : List D} {i : Int} (h0 : 0 ≤ i) (h1 : i < 2 ^ 63) (hl : xs.length * i.toNat ≤ 16777216) (q : We X Q (mkL m (repN i xs) C)) : We X Q (mulD m (.lst xs) (.int i) C) := by
  have e : mulD m (.lst xs) (.int i) C = mkL m (repN i xs) C := by
    show (if -(2 ^ 63) ≤ i ∧ i < 2 ^ 63 ∧ xs.length * i.toNat ≤ sizeLine then _ else _) = _
    rw [sizeLine_eq, if_pos ⟨by omega, by omega, hl⟩]
  rw [e]
  exact q
theorem rep1 {α : Type} (i : Int) (a : α) : repN i [a] = List.replicate i.toNat a := by
  unfold repN
  induction i.toNat with
  | zero => rfl
  | succ n ih => rw [List.replicate_succ, List.flatten_cons, ih, List.replicate_succ]; rfl
end
end
end BV
namespace BV
open PySem L2
/-! ### asks, going forward -/
section
variable {X : XP} {Q : D → Cells → Prop} {P : Po} {N : Rho → Cells → Prop} {C : Cells} {ρ : Rho} {q : Str} {Pt : PySem.Addr}
theorem ask_all {hd : Res D → Res D} {fx : Rho → Cells → Res D} {d0 : D} (hx : fx ρ C = .ok d0 C) (he : eqD true d0 d0 C = .ok (.bl false) C) : ∀ fes : List (Rho → Cells → Res D), (∀ fe ∈ fes, hd (fe ρ C) = .ok d0 C) → askAll hd fx ρ fes C = some C
  | [], _ => rfl
  | fe :: fes, h => by
    unfold askAll
    simp only [h fe (by simp), hx, he]
    exact ask_all hx he fes fun f hf => h f (List.mem_cons_of_mem _ hf)
theorem o_asks {i j : Nat} {hd : Res D → Res D} {fx : Rho → Cells → Res D} {fes : List (Rho → Cells → Res D)} {gg : Rho → Cells → Out} {d0 : D} (ht : hasTab q Pt C = true) (hi : i < ρ.length) (hj : j < ρ.length)
    (hx : fx ((ρ.set i none).set j none) C = .ok d0 C) (he : eqD true d0 d0 C = .ok (.bl false) C) (h : ∀ fe ∈ fes, hd (fe ((ρ.set i none).set j none) C) = .ok d0 C) (k : Wo P N (gg (ρ.set i none) C)) :
    Wo P N (sAsks i q Pt (sAsked j hd fx fes gg) ρ C) := by
  have e : sAsks i q Pt (sAsked j hd fx fes gg) ρ C = gg (ρ.set i none) C := by
    unfold sAsks
    rw [if_pos ⟨ht, hi⟩]
    unfold sAsked
    rw [if_pos (by rw [List.length_set]; exact hj), ask_all hx he fes h]
  rw [e]
  exact k
theorem w_lam {hd : Res D → Res D} {fe : Rho → Cells → Res D} {d : D} (ht : hasTab q Pt C = true) (e : hd (fe ρ C) = .ok d C) (k : Q d C) : We X Q (fLam q Pt hd fe ρ C) := by
  refine w_of (a := d) (C := C) ?_ k
  unfold fLam
  rw [if_pos ht, e]
  rfl
/-- what the handler tells of a refusal: a text, repr of what was given, that it is of the package -/
theorem hd_ref {sh : SH} {c t : Str} {x : D} {n w : Nat} (g : GA n w x) (h1 : n ≤ 64) (h2 : w ≤ 2 ^ 20) : hdD sh c [.str t, .rep, .isi] (.ex c x C) = .ok (.tup [.str t, .str (rp x), .bl true]) C := by
  have r := repr_of (C := C) g h1 h2
  show (if c = c then (hisD x [.str t, .rep, .isi] C).bind _ else .stuck) = _
  rw [if_pos rfl]
  simp only [hisD, hiD, r, Res.bind_ok, List.length_cons, List.length_nil]
  rfl
theorem hd_ref2 {sh : SH} {c : Str} {x : D} {n w : Nat} (g : GA n w x) (h1 : n ≤ 64) (h2 : w ≤ 2 ^ 20) : hdD sh c [.rep, .isi] (.ex c x C) = .ok (.tup [.str (rp x), .bl true]) C := by
  have r := repr_of (C := C) g h1 h2
  show (if c = c then (hisD x [.rep, .isi] C).bind _ else .stuck) = _
  rw [if_pos rfl]
  simp only [hisD, hiD, r, Res.bind_ok, List.length_cons, List.length_nil]
  rfl
theorem hd_told {c t : Str} {its : List HI} {x : D} {n w : Nat} (g : GA n w x) (h1 : n ≤ 64) (h2 : w ≤ 2 ^ 20) : hdD (.shown t) c its (.ok x C) = .ok (.tup [.str t, .str (rp x)]) C := by
  have r := repr_of (C := C) g h1 h2
  show (shD (.shown t) x C) = _
  simp only [shD, r, Res.bind_ok]
theorem w_lstRg1 {m : Bool} {f : Rho → Cells → Res D} (h : We X (fun x C1 => ∃ j, x = .int j ∧ 0 ≤ j ∧ j ≤ 100000 ∧ We X Q (mkL m (rg 0 j) C1)) (f ρ C)) : We X Q (lstRg m (rg1 f) ρ C) := by
  unfold lstRg
  rw [e_rg1]
  refine w_bind (w_bind (h.mono fun x C1 q => ?_))
  obtain ⟨j, rfl, h0, h1, q⟩ := q
  refine ⟨?_⟩
  have hr : RgOk 0 j := .of_le (by omega) (by omega) (by omega) (by omega)
  show We X Q (if RgOk 0 j then _ else _)
  rw [if_pos hr]
  exact q
theorem w_tupRg1 {f : Rho → Cells → Res D} (h : We X (fun x C1 => ∃ j, x = .int j ∧ 0 ≤ j ∧ j ≤ 100000 ∧ Q (.tup (rg 0 j)) C1) (f ρ C)) : We X Q (tupRg (rg1 f) ρ C) := by
  unfold tupRg
  rw [e_rg1]
  refine w_bind (w_bind (h.mono fun x C1 q => ?_))
  obtain ⟨j, rfl, h0, h1, q⟩ := q
  refine ⟨?_⟩
  have hr : RgOk 0 j := .of_le (by omega) (by omega) (by omega) (by omega)
  show We X Q (if RgOk 0 j then _ else _)
  rw [if_pos hr]
  exact ⟨q⟩
theorem sv_listD {x : D} {ds : List D} (h : SV x ds) : oListD false [x] C = .ok (.lst ds) C := by
  rcases h with rfl | rfl <;> rfl
theorem w_lenSet {f : Rho → Cells → Res D} (h : We X (fun x C1 => ∃ L : List Int, asS x C1 = some (L.map .int) ∧ L.length ≤ 4000 ∧ Q (.int (dcount L : Nat)) C1) (f ρ C)) : We X Q (fLenSet f ρ C) := by
  rw [e_lenSet]
  refine w_bind (h.mono fun x C1 q => ?_)
  obtain ⟨L, e, hl, q⟩ := q
  rw [e]
  simp only [Option.bind_some, ints?_map, hl, if_true]
  exact ⟨q⟩
/-- over a range -/
theorem w_lcR {Q : List D → Cells → Prop} {k : Nat} {ft fe : Rho → Cells → Res D} {m : Int} (g : Int → D) (p : Int → Bool) (h1 : ∀ i, 0 ≤ i → i < m → ft (ρ.set k (some (.int i))) C = .ok (.bl (p i)) C) (h2 : ∀ i, 0 ≤ i → i < m → p i = true → fe (ρ.set k (some (.int i))) C = .ok (g i) C)
    (q : Q (((rgI 0 m).filter p).map g) C) : We NX Q (lcS (tgN k) ft fe ρ (.fix (rg 0 m)) C) := by
  rw [rg_I]
  refine w_lcA g p _ (fun _ _ => rfl) (fun i hi => ?_) (fun i hi hp => ?_) q
  · rw [mem_rgI] at hi; exact h1 i hi.1 hi.2
  · rw [mem_rgI] at hi; exact h2 i hi.1 hi.2 hp
/-! a law's turns -/
structure LawC (T C : Cells) : Prop where
  fl : Flat C
  pre : ∀ (j : Nat) (c : Cell), T[j]? = some c → C[j]? = some c
  len : T.length ≤ C.length
theorem Dn.law {T E : Cells} {k n : Nat} (h : Dn T k n E) : LawC T E := ⟨h.d.fl, h.d.pre, by
  have := h.d.k0
  have := h.d.bx.lt
  omega⟩
theorem w_box {T : Cells} {db : List D → Cells → Res D} {ns : List Int} {i : Int} (bx : Bx db) (h : LawC T C) (h0 : 0 ≤ i) (h1 : i < 1000) (q : ∀ k n E, Dn T k n E → Q (.cel k) E) : We X Q (db [.scr ns, .int i] C) := by
  obtain ⟨E, e, d, l⟩ := bx.go T ns C i h.fl h.pre h.len h0 h1
  exact w_of e (q _ _ _ ⟨d, rfl⟩)
theorem bool_iff {a b : Bool} {p : Prop} (h1 : a = true ↔ p) (h2 : b = true ↔ p) : a = b := Bool.eq_iff_iff.mpr (h1.trans h2.symm)
theorem w_chain3 {o1 o2 o3 : D → D → Cells → Res D} {f g h l : Rho → Cells → Res D} (hh : We X (fun x C1 => We X (fun y C2 => We X (fun z C3 => Bt z (We X (fun w C4 => We X (fun z2 C5 => Bt z2 (We X (fun u C6 => We X Q (o3 w u C6)) (l ρ C5)) (Q (.bl false) C5)) (o2 y w C4)) (h ρ C3)) (Q (.bl false) C3)) (o1 x y C2)) (g ρ C1)) (f ρ C)) :
    We X Q (chain3D o1 o2 o3 f g h l ρ C) := by
  rw [e_chain3]
  refine w_bind (hh.mono fun _ _ q => w_bind (q.mono fun _ _ q => w_bind (q.mono fun z C3 q => bl3_bt ?_)))
  cases z with
  | bl b =>
    cases b
    · exact ⟨⟨q.p⟩⟩
    · refine ⟨w_bind ((show We X _ (h ρ C3) from q.p).mono fun _ _ q => w_bind (q.mono fun z2 C5 q => bl3_bt ?_))⟩
      cases z2 with
      | bl b =>
        cases b
        · exact ⟨⟨q.p⟩⟩
        · exact ⟨w_bind (show We X _ (l ρ C5) from q.p)⟩
      | _ => exact q.p.elim
  | _ => exact q.p.elim
/-! data of some few parts, all the way down -/
mutual
def sm0 : D → Bool
  | .tup ds => decide (ds.length ≤ 100000) && sms ds
  | .lst ds => decide (ds.length ≤ 100000) && sms ds
  | .cel _ => false
  | .scr _ => false
  | .ftp _ => false
  | _ => true
def sms : List D → Bool
  | [] => true
  | d :: ds => sm0 d && sms ds
end
theorem sms_iff {ds : List D} : sms ds = true ↔ ∀ d ∈ ds, sm0 d = true := by
  induction ds with
  | nil => simp [sms]
  | cons d ds ih => simp [sms, ih]
mutual
theorem sm0_p : ∀ {d : D}, sm0 d = true → pure0 d = true
  | .non, _ => rfl
  | .bl _, _ => rfl
  | .int _, _ => rfl
  | .str _, _ => rfl
  | .tup ds, h => by
    simp only [sm0, Bool.and_eq_true] at h
    simp only [pure0]
    exact sms_p (ds := ds) h.2
  | .lst ds, h => by
    simp only [sm0, Bool.and_eq_true] at h
    simp only [pure0]
    exact sms_p (ds := ds) h.2
theorem sms_p : ∀ {ds : List D}, sms ds = true → pures ds = true
  | [], _ => rfl
  | d :: ds, h => by
    simp only [sms, Bool.and_eq_true] at h
    simp only [pures, Bool.and_eq_true]
    exact ⟨sm0_p h.1, sms_p h.2⟩
end
theorem sm0_seq {d : D} {ds : List D} (h : seqOf d = some ds) (p : sm0 d = true) : ds.length ≤ 100000 ∧ sms ds = true := by
  rcases seqOf_sv h with rfl | rfl <;> simpa [sm0] using p
theorem sms_sub {xs ys : List D} (h : sms ys = true) (q : ∀ d ∈ xs, d ∈ ys) : sms xs = true := sms_iff.mpr fun d hd => sms_iff.mp h d (q d hd)
theorem SV.seqOf {d : D} {ds : List D} (h : SV d ds) : BV.seqOf d = some ds := by rcases h with rfl | rfl <;> rfl
theorem SV.sm {d : D} {ds : List D} (h : SV d ds) (hl : ds.length ≤ 100000) (p : sms ds = true) : sm0 d = true := by rcases h with rfl | rfl <;> simp [sm0, hl, p]
end
end BV
/-! several except clauses, each with a name -/
namespace BV
open PySem PySem.Spec PyProof.Rows L2 LamX
def wManyAs (K : PySem.W.Frag) (i : Nat) (Wout : WX) (D : Ends) : List (Value × (Addr → Value → Option Addr → TS)) → WX
  | [] => Wout
  | (c, ts) :: r => fun cls d σ H => ∃ b, PySem.W.exmOne K cls c = some b ∧ (b = true → ∀ a, H a = none → ts a cls d { nx := fun σ' H' => D.nx (σ'.set i none) H', rt := D.rt, bk := fun σ' H' => D.bk (σ'.set i none) H', ct := fun σ' H' => D.ct (σ'.set i none) H' } (σ.set i (some (.ref a))) H) ∧ (b = false → wManyAs K i Wout D r cls d σ H)
inductive HdsAs (X : Cx) (n : Str) : List ExceptHandler → List (Value × (Addr → Value → Option Addr → TS)) → Prop
  | nil : HdsAs X n [] []
  | cons {x : Str} {c : Value} {ts : Addr → Value → Option Addr → TS} {b₀ : Stmt} {suite : List Stmt} {np pos' : Pos} {hds : List ExceptHandler} {l : List (Value × (Addr → Value → Option Addr → TS))} (hc : Names X x c)
      (hsu : ∀ (a : Addr) (oe : Obj) (cls : Value) (d : Option Addr) (pn : List (Addr × Obj)), Zc cls d oe → (∃ vs, oe.data = .fields vs) → PSs (X.suite a ((a, oe) :: pn)) (b₀ :: suite) (ts a cls d)) (r : HdsAs X n hds l) :
      HdsAs X n (.ExceptHandler (some (.Name x np)) (some n) (b₀ :: suite) pos' :: hds) ((c, ts) :: l)
/-- an error a of the class cls in the air over the frame that is to hear it -/
structure Heard (X : Cx) (pins : List (Addr × Obj)) (a : Addr) (cls : Value) (d : Option Addr) (B : Heap) (s0 t : Shared) (σ : L2.St) (H : Hp) : Prop where
  st : X.stack = X.env :: X.outer
  fr : X.env.frame = some X.env.locals
  own : Inv X pins σ H s0
  ground : ∀ b o, s0.heap.get? b = some o → b ∉ frs X.stack → B.get? b = some o
  bare : H a = none
  slots : s0.heap.UpToSlots t.heap
  fly : HandSPX.FlyingZ B (X.env :: X.outer) a (Zc cls d) t.heap
  os : t.os = s0.os
  gens : AllBare t.gens
section
variable {X : Cx} {pins : List (Addr × Obj)} {a : Addr} {cls : Value} {d : Option Addr} {B : Heap} {s0 t : Shared} {σ : L2.St} {H : Hp} {n : Str} {i : Nat} {Wout : WX} {D : Ends}
theorem Heard.inv (h : Heard X pins a cls d B s0 t σ H) : Inv X pins σ H t := h.own.landed h.ground h.fly.1 h.slots h.os h.gens
/-- the error is none of the frames: it can be pinned -/
theorem Heard.suite (h : Heard X pins a cls d B s0 t σ H) : ∃ oe vs, t.heap.get? a = some oe ∧ Zc cls d oe ∧ oe.data = .fields vs ∧ Inv (X.suite a ((a, oe) :: (X.pn ++ pins))) [] σ H t := by
  obtain ⟨oe, vs, g, z, f⟩ := h.fly.there
  have out : a ∉ frs (X.env :: X.outer) := fun hm => by
    obtain ⟨_, o, e, nf⟩ := h.fly.2.2.1.mem hm
    cases g.symm.trans e
    exact nf _ f
  refine ⟨oe, vs, g, z, f, h.inv.suite g f h.bare (fun e => out ?_) (fun hm => out ?_)⟩
  · exact List.mem_filterMap.mpr ⟨X.env, List.mem_cons_self, by rw [h.fr, e]⟩
  · obtain ⟨e, he, q⟩ := List.mem_filterMap.mp hm
    exact List.mem_filterMap.mpr ⟨e, List.mem_cons_of_mem _ he, q⟩
/-- no clause takes it: it goes on -/
theorem Heard.on (h : Heard X pins a cls d B s0 t σ H) (tk : Takes X Wout) (w : Wout cls d σ H) {Q : Flow → Shared → Prop} : wpAny (model X.prog X.w) X.A (handleBy (.ref a) X.env []) Q X.xe t := by
  obtain ⟨_, _, _, oe, vs, T, _, _, g, _, f, f1, _⟩ := id h.fly
  have up : wpAny (model X.prog X.w) X.A (setFlight (.ref a) X.env.frame) (fun _ t' => wpAny (model X.prog X.w) X.A (throw (.ref a) : Sem Flow) Q X.xe t') X.xe t := by
    rw [h.fr]
    exact HandSPX.setFlight_upZ h.fly fun h' held u => wpAny_throw (tk _ _ ⟨a, B, s0, pins, σ, H, cls, d, rfl, h.own, h.ground, h.slots.trans u, .inr (.inr (by rw [h.st]; exact held)), h.bare, h.os, h.gens, w⟩)
  refine wpAny_handleBy_nil ?_
  unfold PySem.passOn
  refine wpAny_bind (wpAny_field g f f1 ?_)
  rw [if_neg (by simp)]
  first
    | exact wpAny_bind (wpAny_pure (wpAny_bind up))
    | exact wpAny_bind up
/-- the clauses, one after the other -/
theorem Heard.by (h : Heard X pins a cls d B s0 t σ H) (hN : X.N.Nodup) (hi : X.N[i]? = some n) (hl : X.env.kindOf n = some .local) (tk : Takes X Wout) : ∀ {hds : List ExceptHandler} {l : List (Value × (Addr → Value → Option Addr → TS))}, HdsAs X n hds l → wManyAs X.K i Wout D l cls d σ H →
    wpAny (model X.prog X.w) X.A (handleBy (.ref a) X.env hds) (SP X pins D) X.xe t
  | _, _, .nil, w => h.on tk w
  | _, _, .cons (b₀ := b₀) (suite := suite) hc hsu r, w => by
    obtain ⟨b, eb, yes, no⟩ := w
    obtain ⟨oe, vs, g, z, f, S⟩ := h.suite
    have tells : PySem.W.Looks (model X.prog X.w) t.heap (typeOf (.ref a)) cls := fun A Q E s k q => wpAny_typeOf_ref (k _ _ g) (by rw [z.1]; exact q)
    refine wpAny_handleBy_cons (codeAny_handlers_test ?_) (by intro q; cases q)
    have name : ∀ {c : Value} {x : Str} {np : Pos} {Q : Value → Shared → Prop} {E : Value → Shared → Prop}, Names X x c → Q c t → wpAny (model X.prog X.w) (X.A.mark (some (.ref a))) (eval (.Name x np) X.env) Q E t := fun hc q => by
      rcases hc with ⟨g1, g2, m | ⟨m, v, nn⟩⟩
      · exact ld_glob (X := X.suite a ((a, oe) :: (X.pn ++ pins))) S g1 m q g2
      · exact ld_blt (X := X.suite a ((a, oe) :: (X.pn ++ pins))) S g1 m v q nn g2
    refine name hc ((PySem.W.exm_one (M := model X.prog X.w) h.inv.kIn tells eb).here ?_)
    cases b with
    | false => exact Heard.by h hN hi hl tk r (no rfl)
    | true =>
      refine codeAny_handlers_suite_as (HandSPX.lands_againZ h.fly fun h' fl u => ?_)
      obtain ⟨oe', vs', g', z', f', S'⟩ := Heard.suite (t := { t with heap := h' }) ⟨h.st, h.fr, h.own, h.ground, h.bare, h.slots.trans u, fl, h.os, h.gens⟩
      refine store_ok (X := X.suite a ((a, oe') :: (X.pn ++ pins))) (v := .ref a) S' hN hi (.inl hl) rfl (fun s5 S5 => ?_) (.inr hl)
      refine wpAny_mono ((hsu a oe' cls d (X.pn ++ pins) z' ⟨_, f'⟩).run [] s5 _ H _ S5 (yes rfl a h.bare)) (fun fw s6 q => ?_) (fun _ _ q => False.elim q)
      have gone := fun {σ6 : L2.St} {H6 : Hp} {Q : Unit → Shared → Prop} {E : Value → Shared → Prop} {p : Pos} (S6 : Inv (X.suite a ((a, oe') :: (X.pn ++ pins))) [] σ6 H6 s6) =>
        gone_ok (M := model X.prog X.w) (A := X.A) (E := E) (Q := Q) (pos := p) (S6.unsuite h.own.ok) hN hi hl
      match fw, q with
      | .next, ⟨_, _, S6, q6⟩ => exact gone S6 fun _ J => ⟨_, _, J, q6⟩
      | .brk, ⟨_, _, S6, q6⟩ => exact gone S6 fun _ J => ⟨_, _, J, q6⟩
      | .cont, ⟨_, _, S6, q6⟩ => exact gone S6 fun _ J => ⟨_, _, J, q6⟩
      | .ret _, ⟨_, _, _, S6, r6, q6⟩ => exact gone S6 fun _ J => ⟨_, _, _, J, r6, q6⟩
end
section
variable {X : Cx} {n : Str} {i : Nat} {body : List Stmt} {h₀ : ExceptHandler} {hds : List ExceptHandler} {l : List (Value × (Addr → Value → Option Addr → TS))} {pos : Pos} {tb : WX → TS} {Wout : WX}
theorem ps_try_asN (hs : X.stack = X.env :: X.outer) (hf : X.env.frame = some X.env.locals) (hN : X.N.Nodup) (hi : X.N[i]? = some n) (hln : X.env.kindOf n = some .local) (tk : Takes X Wout)
    (hb : ∀ (W : WX) (pn : List (Addr × Obj)) (xe : Value → Shared → Prop), Takes (X.tr pn xe) W → PassesOwn (model X.prog X.w) X.A X.env xe → PSs (X.tr pn xe) body (tb W))
    (hh : HdsAs X n (h₀ :: hds) l) : PS X (.Try body (h₀ :: hds) [] [] pos) (fun D σ H => tb (wManyAs X.K i Wout D l) D σ H) := by
  refine ⟨fun pins s σ H D I h => ?_⟩
  have ok := I.ok
  let xe : Value → Shared → Prop := fun e s₁ => wpAny (model X.prog X.w) X.A (noteFrame e X.env) (fun _ s₂ => wpAny (model X.prog X.w) X.A (setFlight e none) (fun _ s₃ => wpAny (model X.prog X.w) X.A (handleBy e X.env (h₀ :: hds)) (SP X pins D) X.xe s₃) X.xe s₂) X.xe s₁
  have catches : Takes (X.tr (X.pn ++ pins) xe) (wManyAs X.K i Wout D l) := by
    rintro u s' ⟨a, B, s0, pins', σ', H', cls, d, rfl, J, nb, up, sky, na, os, ag, w⟩
    refine Sky.land Zc.steady (by rw [ok.frames, hs]) hf (by rw [← hs]; exact sky) fun h3 fl u3 => ?_
    exact Heard.by (t := { s' with heap := h3 }) ⟨hs, hf, J.ofTry ok, nb, na, up.trans u3, fl, os, ag⟩ hN hi hln tk hh w
  refine wpAny_Try_except (wpAny_mono ((hb _ _ xe catches PassesOwn.looking).run [] s σ H D (I.toTry _) h) (fun f s1 q => ?_) fun _ _ e => e)
  match f, q with
  | .next, ⟨_, _, J, q⟩ => exact wpAny_execs_nil ⟨_, _, J.ofTry ok, q⟩
  | .brk, ⟨_, _, J, q⟩ => exact ⟨_, _, J.ofTry ok, q⟩
  | .cont, ⟨_, _, J, q⟩ => exact ⟨_, _, J.ofTry ok, q⟩
  | .ret _, ⟨_, _, _, J, r, q⟩ => exact ⟨_, _, _, J.ofTry ok, r, q⟩
end
/-! defs that ask, with several clauses -/
def hdsX (hs : List (Str × List HI)) (c' : Str) (p : D) (C : Cells) : Res D := match hs with
  | [] => .stuck
  | (c, its) :: r => if c' = c then (hisD p its C).bind fun xs C1 => if xs.length ≤ 1000 then .ok (.tup xs) C1 else .stuck else hdsX r c' p C
def hdsD (sh : SH) (hs : List (Str × List HI)) (r : Res D) : Res D := match r with
  | .ok v C => shD sh v C
  | .ex c' p C => hdsX hs c' p C
  | .stuck => .stuck
/-- one clause of them -/
structure Cl (X : Cx) (Ng : List Str) (x : Str) (sg : Scope) (g : Addr) (cdg : Value) (i : Nat) (c : Str) (C0 : Addr) (es : List Expr) (its : List HI) : Prop where
  eh : ErrH X.K X.mg c C0
  gl : sg.names.lookup c = some .globalImplicit
  db : (c == ("__debug__" : Str)) = false
  it : ∀ (s : Shared) (H : Hp) (a : Addr) (oe : Obj) (cls : Value) (d : Option Addr) (pn : List (Addr × Obj)), (zcx X Ng x sg g cdg s H).A.units + 65 < cLine → Zc cls d oe → cls = .ref C0 → (∃ vs, oe.data = .fields vs) → PA ((zcx X Ng x sg g cdg s H).nox.suite a ((a, oe) :: pn)) es (rHIs X.K X.mg a d i (exF c) its)
theorem cl_mk {X : Cx} {Ng : List Str} {x : Str} {sg : Scope} {g : Addr} {cdg : Value} {i : Nat} {c f : Str} {C0 : Addr} {es : List Expr} {its : List HI} (ef : exF c = f) (eh : ErrH X.K X.mg c C0) (gl : sg.names.lookup c = some .globalImplicit) (db : (c == ("__debug__" : Str)) = false)
    (it : ∀ (s : Shared) (H : Hp) (a : Addr) (oe : Obj) (cls : Value) (d : Option Addr) (pn : List (Addr × Obj)), (zcx X Ng x sg g cdg s H).A.units + 65 < cLine → Zc cls d oe → cls = .ref C0 → (∃ vs, oe.data = .fields vs) → PA ((zcx X Ng x sg g cdg s H).nox.suite a ((a, oe) :: pn)) es (rHIs X.K X.mg a d i f its)) :
    Cl X Ng x sg g cdg i c C0 es its := by
  subst ef
  exact ⟨eh, gl, db, it⟩
/-- all of them: each of no later class is taken for one of an earlier -/
inductive Cls (X : Cx) (Ng : List Str) (x n : Str) (sg : Scope) (g : Addr) (cdg : Value) (i : Nat) : List ExceptHandler → List (Str × List HI) → List (Str × Addr) → Prop
  | nil : Cls X Ng x n sg g cdg i [] [] []
  | cons {c : Str} {C0 : Addr} {es : List Expr} {its : List HI} {j2 : Nat} {p6 p7 p8 p9 : Pos} {hds : List ExceptHandler} {hs : List (Str × List HI)} {cs : List (Str × Addr)} (h : Cl X Ng x sg g cdg i c C0 es its)
      (ne : ∀ p ∈ cs, PySem.W.exmOne X.K (.ref p.2) (.ref C0) = some false) (r : Cls X Ng x n sg g cdg i hds hs cs) :
      Cls X Ng x n sg g cdg i (.ExceptHandler (some (.Name c p6)) (some n) [.Return (some (.Tuple es j2 p7)) p8] p9 :: hds) ((c, its) :: hs) ((c, C0) :: cs)
/-- the wishes of the clauses -/
def wishes (K : PySem.W.Frag) (mg : Str → Option Value) (i : Nat) : List (Str × List HI) → List (Str × Addr) → List (Value × (Addr → Value → Option Addr → TS))
  | (c, its) :: hs, (_, C0) :: cs => (.ref C0, fun a cls d => fun D σ H => cls = .ref C0 ∧ tRet (tTup (rHIs K mg a d i (exF c) its)) D σ H) :: wishes K mg i hs cs
  | _, _ => []
section
variable {X : Cx} {Ng : List Str} {x n a tag q : Str} {sg : Scope} {g : Addr} {cdg : Value} {i : Nat} {hds : List ExceptHandler} {h₀ : ExceptHandler} {hs : List (Str × List HI)} {cs : List (Str × Addr)} {j1 j2 : Nat} {p1 p2 p3 p4 p5 pA pB pC : Pos}
theorem Cls.mgs (h : Cls X Ng x n sg g cdg i hds hs cs) : hs.map (·.1) = cs.map (·.1) ∧ ∀ p ∈ cs, X.mg p.1 = some (.ref p.2) := by
  induction h with
  | nil => exact ⟨rfl, fun _ h => nomatch h⟩
  | cons h ne r ih =>
    refine ⟨by simp [ih.1], fun p hp => ?_⟩
    rcases List.mem_cons.mp hp with e | hp
    · rw [e]; exact h.eh.m
    · exact ih.2 p hp
theorem hdsX_in {K : PySem.W.Frag} {mg : Str → Option Value} {μ : List Addr} {F H : Hp} {σ : L2.St} {Q : V → Hp → Prop} {c' : Str} {p : D} {C1 : Cells} : ∀ {hs : List (Str × List HI)}, kd (RD K) K mg W0 (hdsX hs c' p C1) μ F σ H Q → c' ∈ hs.map (·.1)
  | [], k => k.elim
  | (c, its) :: r, k => by
    unfold hdsX at k
    split at k
    · rename_i e
      simp [e]
    · exact List.mem_cons_of_mem _ (hdsX_in k)
theorem clauses_ok {Q : VK} {f : Addr} (lt : i < (L2.start Ng [V.ref f]).length) {c' : Str} {p : D} {C1 : Cells} {μ : List Addr} {F H : Hp} {σ : L2.St} {D : Ends} (hD : ∀ v H, D.rt v H = Q v H) (h : Cls X Ng x n sg g cdg i hds hs cs)
    (k : kd (RD X.K) X.K X.mg W0 (hdsX hs c' p C1) μ F σ H Q) :
    ∀ cls dx μ' F' H', Ext μ F H μ' F' H' → Sim X.K μ' F' C1 H' → XRep X.K X.mg μ' F' H' c' p cls dx → wManyAs X.K i W0 D (wishes X.K X.mg i hs cs) cls dx (L2.start Ng [V.ref f]) H' := by
  induction h with
  | nil => exact k.elim
  | @cons c C0 es its j2 p6 p7 p8 p9 hds hs cs h ne r ih =>
    unfold hdsX at k
    intro cls dx μ' F' H' x1 s1 xr
    split at k
    · rename_i ec
      obtain ⟨b, hb1, hy, hn⟩ := clause_ok (i := i) (f := f) (Ng := Ng) h.eh lt hD (by rw [if_pos ec]; exact k) cls dx μ' F' H' x1 s1 xr
      subst ec
      obtain ⟨h1, dd, v, h2, h3, h4, h5⟩ := xr
      have h1' : X.mg c' = some (.ref C0) := h.eh.m
      rw [h1'] at h1
      cases h1
      have : b = true := by
        rw [h.eh.te] at hb1
        cases hb1; rfl
      subst this
      exact ⟨true, hb1, hy, fun z => by cases z⟩
    · have hin := hdsX_in k
      rw [r.mgs.1] at hin
      obtain ⟨pr, hpr, e⟩ := List.mem_map.mp hin
      have hm := r.mgs.2 pr hpr
      rw [e] at hm
      have xr2 := xr
      obtain ⟨h1, _⟩ := xr2
      rw [hm] at h1
      cases h1
      exact ⟨false, ne pr hpr, (fun z => by simp at z), fun _ => ih k _ _ _ _ _ x1 s1 xr⟩
theorem cls_hds {s : Shared} {H : Hp} (hu : (zcx X Ng x sg g cdg s H).A.units + 65 < cLine) (h : Cls X Ng x n sg g cdg i hds hs cs) : HdsAs (zcx X Ng x sg g cdg s H).nox n hds (wishes X.K X.mg i hs cs) := by
  induction h with
  | nil => exact .nil
  | cons h ne r ih => exact .cons ⟨h.gl, h.db, .inl h.eh.m⟩ (fun a oe cls d pn hz hf => pss_cond fun ec => pss_one (ps_ret (pe_tup (h.it s H a oe cls d pn hu hz ec hf)))) ih
/-- what a def that asks with several clauses needs -/
structure HandsB (X : Cx) (Ng : List Str) (x n a : Str) (sg : Scope) (g : Addr) (cdg : Value) (i : Nat) (h₀ : ExceptHandler) (hds : List ExceptHandler) (hs : List (Str × List HI)) (cs : List (Str × Addr)) : Prop where
  nd : Ng.Nodup
  hi : Ng[i]? = some n
  hl : sg.names.lookup n = some .local
  lt : i < (L2.start Ng [V.ref 0]).length
  h0 : ∀ f : Addr, (L2.start Ng [V.ref f])[0]? = some (some (V.ref f))
  cl : Cls X Ng x n sg g cdg i (h₀ :: hds) hs cs
theorem gives_tolds (B : HandsB X Ng x n a sg g cdg i h₀ hds hs cs) :
    Gives X Ng x sg g cdg [.Try [.Return (some (.Tuple [.Constant (.str tag) j1 p1, .Call (.Name a p2) [] [] p3] j2 p4)) p5] (h₀ :: hds) [] [] pA] a q (hdsD (.told tag) hs) := by
  intro f P s H Q σ r fe ρ C μ F hu S E hc hr ask k
  subst hr
  refine ⟨_, pss_one (ps_try_asN (X := (zcx X Ng x sg g cdg s H).nox) (i := i) (Wout := W0)
    (tb := fun W => tRet (tTup (tCons (tC (.str tag)) (tCons (fun σZ HZ Q => σZ[0]? = some (some (.ref f)) ∧ P HZ ∧ rE X.K X.mg (fun cls d _ H' => W cls d σZ H') fe σ HZ Q) tNil))))
    rfl rfl B.nd B.hi B.hl L2.takes0 (fun W pn xe tk _ => pss_one (ps_ret (pe_tup (pa_cons pe_str (pa_cons (ask W pn xe p2 p3 tk) pa_nil))))) (cls_hds hu B.cl)), ?_⟩
  refine ⟨B.h0 f, hc, ρ, C, μ, F, S, E, ?_⟩
  cases hr : fe ρ C with
  | stuck =>
    rw [hr] at k
    exact k
  | ok v C1 =>
    rw [hr] at k
    intro w μ' F' H' x1 s1 r1
    refine ⟨by rw [sizeLine_eq]; exact (show 2 ≤ 16777216 by decide), fun pp hp => ?_⟩
    exact kd_mkT s1 hp (.cons (.str tag) (.cons r1 .nil)) (kd_mono x1 k)
  | ex c1 p C1 =>
    rw [hr] at k
    exact clauses_ok (D := { nx := fun _ H' => Q .non H', rt := Q }) (f := f) (by rw [start_len Ng (.ref f) (.ref 0)]; exact B.lt) (fun _ _ => rfl) B.cl k
theorem gives_showns (B : HandsB X Ng x n a sg g cdg i h₀ hds hs cs) (hgd : X.A.guards = some []) (hrp : sg.names.lookup ("repr" : Str) = some .globalImplicit) (hmr : X.mg "repr" = none) :
    Gives X Ng x sg g cdg [.Try [.Return (some (.Tuple [.Constant (.str tag) j1 p1, .Call (.Name "repr" pB) [.Call (.Name a p2) [] [] p3] [] pC] j2 p4)) p5] (h₀ :: hds) [] [] pA] a q (hdsD (.shown tag) hs) := by
  intro f P s H Q σ r fe ρ C μ F hu S E hc hr ask k
  subst hr
  let rr : List V → Hp → VK → Prop := fun xs H Q => ∃ x p, xs = [x] ∧ Dp X.K H x p ∧ SeqAt.shaped p = true ∧ p.showable = true ∧ p.shown.length ≤ sizeLine ∧ Q (.str p.shown) H
  refine ⟨_, pss_one (ps_try_asN (X := (zcx X Ng x sg g cdg s H).nox) (i := i) (Wout := W0)
    (tb := fun W => tRet (tTup (tCons (tC (.str tag)) (tCons (tCB rr (tCons (fun σZ HZ Q => σZ[0]? = some (some (.ref f)) ∧ P HZ ∧ rE X.K X.mg (fun cls d _ H' => W cls d σZ H') fe σ HZ Q) tNil)) tNil))))
    rfl rfl B.nd B.hi B.hl L2.takes0
    (fun W pn xe tk _ => pss_one (ps_ret (pe_tup (pa_cons pe_str (pa_cons (pe_callB (X := (zcx X Ng x sg g cdg s H).tr pn xe) (call_reprD hgd hu) hrp hmr bb_repr (pa_cons (ask W pn xe p2 p3 tk) pa_nil)) pa_nil))))) (cls_hds hu B.cl)), ?_⟩
  refine ⟨B.h0 f, hc, ρ, C, μ, F, S, E, ?_⟩
  cases hr : fe ρ C with
  | stuck =>
    rw [hr] at k
    exact k
  | ok v C1 =>
    rw [hr] at k
    intro w μ' F' H' x1 s1 r1
    have k1 := kd_mono x1 k
    unfold hdsD shD oRepr at k1
    simp only at k1
    split at k1
    · rename_i pd e
      split at k1
      · rename_i z
        refine ⟨w, pd, rfl, toPyC_dp s1 e r1, z.1, z.2.1, z.2.2, by rw [sizeLine_eq]; exact (show 2 ≤ 16777216 by decide), fun pp hp => ?_⟩
        exact kd_mkT s1 hp (.cons (.str tag) (.cons (.str _) .nil)) k1
      · exact k1.elim
    · exact k1.elim
  | ex c1 p C1 =>
    rw [hr] at k
    exact clauses_ok (D := { nx := fun _ H' => Q .non H', rt := Q }) (f := f) (by rw [start_len Ng (.ref f) (.ref 0)]; exact B.lt) (fun _ _ => rfl) B.cl k
end
end BV
namespace BV
open PySem PySem.Spec PyProof.Rows L2
/-! ### sorted(set(x)), x a list or a tuple of ints -/
section
variable {P : Program} {w : World} {A : Around} {E : Value → Shared → Prop} {s : Shared}
/-- the set that set() lays -/
abbrev set0 (w : World) : Obj := { cls := .type "set", dict := none, data := .set #[] 0 (.fresh 0 0 (!w.params.followText "set-order")) }
/-- what set.__init__ makes of it from a list of ints -/
abbrev Filled (w : World) (s : Shared) (ns : List Int) (h' : Heap) (c : Nat) : Prop := SetR w h' s.heap.objs.size (fun j => decide (j ∈ ns)) c ∧ c ≤ ns.length ∧ ∀ b o, s.heap.get? b = some o → h'.get? b = some o
theorem ints_item {items : Array Value} {ns : List Int} (hi : IntsAre items.toList ns) (i : Nat) (v : Value) (h : items[i]? = some v) : ∃ k t, ns[i]? = some k ∧ v = .int k t := by
  have hlen : items.size = ns.length := by rw [← Array.length_toList]; exact IntsAre.length hi
  have hlt : i < ns.length := by rw [← hlen]; exact (Array.getElem?_eq_some_iff.mp h).1
  obtain ⟨t, e⟩ := PyProof.Rows.IntsAre.int_at hi i v (by rw [Array.getElem?_toList]; exact h)
  refine ⟨ns[i], t, List.getElem?_eq_getElem hlt, ?_⟩
  rw [e, List.getD_eq_getElem?_getD, List.getElem?_eq_getElem hlt] <;> rfl
theorem set_fill {l : Addr} {items : Array Value} (ns : List Int) {R : Result → Shared → Prop} {A1 : Around} (hh : A1.handled = none) (hl : s.heap.IsList l items) (hi : IntsAre items.toList ns) (hb : ns.length + 1 < scanBound)
    (k : ∀ (h' : Heap) (tk c : Nat), Filled w s ns h' c → R (.ok (.ret .none)) { s with heap := h', toks := tk }) :
    codeAny (model P w) A1 (.builtin "set.__init__" ⟨[.ref s.heap.objs.size, .ref l], []⟩) R { s with heap := s.heap.push (set0 w) } := by
  have hlen : items.size = ns.length := by rw [← Array.length_toList]; exact IntsAre.length hi
  have top : (s.heap.push (set0 w)).get? s.heap.objs.size = some (set0 w) := Heap.get?_push_size _ rfl
  obtain ⟨⟨ocl, od, odt, osl⟩, g, gc, n, gd⟩ := hl
  simp only at gc gd
  subst gc; subst gd
  have g1 := Heap.get?_push_of_some (h := s.heap) (set0 w) g
  have hl1 : (s.heap.push (set0 w)).IsList l items := ⟨_, g1, rfl, n, rfl⟩
  have u1 := F.sub_list_set
  have u2 := F.sub_list_frozenset
  have u3 : (Value.type "list" == Value.type "dict") = false := by decide
  refine codeAny_builtin F.entry_set_init ?_
  rw [Around.under_plainId F.called_set.init.plain _]
  unfold Builtin.«set.__init__» noKeywords Builtin.Frozenset.updateFrom
  generalize hPI : pyIter = PI
  wp_walk
  subst hPI
  refine wpAny_pyIter_list hl1 (wpAny_bind (wpAny_runValue ?_))
  have lt : l < s.heap.objs.size := Heap.lt_size g
  have z : (s.heap.push (set0 w)).objs.size = s.heap.objs.size + 1 := Heap.size_push ..
  have fresh : l ≠ (s.heap.push (set0 w)).objs.size := by
    rw [z]
    exact Nat.ne_of_lt (Nat.lt_succ_of_lt lt)
  have out : s.heap.objs.size ∉ [(s.heap.push (set0 w)).objs.size, l] := by
    rw [z]
    simp only [List.mem_cons, List.not_mem_nil, or_false, not_or]
    exact ⟨Nat.ne_of_lt (Nat.lt_succ_self _), Nat.ne_of_gt lt⟩
  have hu : A1.in1.in1.handled = none := by simp [hh]
  refine set_update_ints ((Walks.list hu _ l fresh items).toS) s.heap.objs.size out ns hlen hb (ints_item hi) (items.size - 0) 0 _ (by omega) (Nat.zero_le _)
    ⟨⟨_, Heap.get?_push_size _ rfl, rfl, rfl⟩, hl1.push _⟩ ⟨0, Nat.le_refl 0, setR_new_at (Heap.get?_push_of_some _ top)⟩ fun s' c m hc hS => ?_
  obtain ⟨h', g', d', tk', os'⟩ := s'
  cases (show g' = s.gens from m.gens)
  cases (show d' = s.drawn from m.drawn)
  cases (show os' = s.os from m.os)
  refine wpAny_pure (wpAny_pure (k h' tk' c ⟨hS, by omega, fun b o e => ?_⟩))
  have lb : b < s.heap.objs.size := Heap.lt_size e
  refine m.heap b o ?_ (Heap.get?_push_of_some _ (Heap.get?_push_of_some _ e))
  rw [z]
  simp only [List.mem_cons, List.not_mem_nil, or_false, not_or]
  exact ⟨Nat.ne_of_lt lb, Nat.ne_of_lt (Nat.lt_succ_of_lt lb)⟩
theorem set_listI {l : Addr} {items : Array Value} (ns : List Int) {Q : Value → Shared → Prop} (hh : A.handled = none) (hl : s.heap.IsList l items) (hi : IntsAre items.toList ns) (hb : ns.length + 1 < scanBound)
    (k : ∀ (h' : Heap) (tk c : Nat), Filled w s ns h' c → Q (.ref s.heap.objs.size) { s with heap := h', toks := tk }) : wpAny (model P w) A (call (.type "set") [.ref l]) Q E s := by
  have f := F.called_set
  obtain ⟨c, tl, m1⟩ := f.mro
  have m2 := f.made
  have m3 := f.sub
  have m4 := f.notType
  have m5 := f.canCreate
  have m6 := F.typeCall_set_1 (.ref l)
  refine wpAny_call (codeAny_of_tree ?_)
  show wpAny _ _ (callAny (.type "set") _) _ _ _
  refine wpAny_pure ⟨Code.quiet_builtin _ (by decide +kernel), codeAny_builtin F.entry_type_call ?_⟩
  rw [Around.under_plain (weight_type_call_type "set" [.ref l] []) rfl]
  repeat (any_goals (first | assumption | wp_step))
  refine codeAny_mono (code_set_led1 (.ref l) (E := E) (Q₁ := fun o s₁ => o = .ref s.heap.objs.size ∧ s₁ = { s with heap := s.heap.push (set0 w) }) ⟨rfl, rfl⟩) fun r s₁ hr => ?_
  match r, hr with
  | .error e, hr => exact hr
  | .ok (.ret o), hr =>
    obtain ⟨rfl, rfl⟩ := hr
    have top : (s.heap.push (set0 w)).get? s.heap.objs.size = some (set0 w) := Heap.get?_push_size _ rfl
    have ty : Shared.TypeIs { s with heap := s.heap.push (set0 w) } (.ref s.heap.objs.size) "set" := ⟨_, top, rfl⟩
    have n1 := f.init.lookup
    have n2 := f.init.bind (.ref s.heap.objs.size)
    repeat (any_goals (first | assumption | wp_step))
    refine codeAny_mono (codeAny_call_builtin_code (R := wants (fun r s₂ => r = .none ∧ ∃ h' tk c, s₂ = { s with heap := h', toks := tk } ∧ Filled w s ns h' c) E) (plainId_quiet f.init.plain _)
      (check_set_init_1 ty (set_fill ns (A1 := A.in1) (by simp [hh]) hl hi hb fun h' tk c q => ⟨rfl, h', tk, c, rfl, q⟩))) fun r₂ s₂ hr₂ => ?_
    match r₂, hr₂ with
    | .error e, hr₂ => exact hr₂
    | .ok (.ret r), hr₂ =>
      obtain ⟨rfl, h', tk, c, rfl, q⟩ := hr₂
      repeat (any_goals (first | assumption | wp_step))
      exact k _ _ _ q
end
end BV
namespace BV
open PySem PySem.Spec PyProof.Rows L2
section
variable {P : Program} {w : World} {A : Around} {E : Value → Shared → Prop} {s : Shared}
theorem sorted_setI {a : Addr} {S : Int → Bool} {n : Nat} {Q : Value → Shared → Prop} (R : SetR w s.heap a S n) (hh : A.handled = none) (hz : n ≤ sizeLine)
    (hQ : ∀ s' p (out : List Value) (c : Nat) (ns : List Int), (∀ b o, s.heap.get? b = some o → s'.heap.get? b = some o) → s'.gens = s.gens → s'.os = s.os → s.heap.objs.size ≤ p →
      s'.heap.get? p = some (seqObj "list" out.toArray c) → IntsAre out ns → ns.Pairwise (· < ·) → (∀ k, k ∈ ns ↔ S k = true) → ns.length = n → Q (.ref p) s') :
    wpAny (model P w) A (call (.builtin "sorted") [.ref a]) Q E s := by
  obtain ⟨o, es, ep, t, ho, hex, hd, g, nd, hm, hb, hf, hn, hr, hl⟩ := R
  refine Calls.call_function_entry kind_sorted plain_sorted entry_sorted (args_sorted1 _) ?_
  unfold Builtin.«sorted»
  refine wpAny_bind (m := checkCount "sorted" 1 1 _) (wpAny_pure (wpAny_bind (collect_set (A := A.in1) hh ⟨o, ho, hex.1, hd⟩ hf hb hr hl fun s1 vs keep size g1 o1 pm => ?_)))
  have lv : vs.length = n := by rw [pm.length_eq, List.length_map, Array.length_toList]; exact hn
  have hI : IntsAre vs (vs.map Builtin.Re.reRawOf) := ints_of vs fun v hv => by
    obtain ⟨e, he, q⟩ := List.mem_map.mp (pm.mem_iff.mp hv)
    obtain ⟨k, tk, h1, _⟩ := g e he
    exact ⟨k, tk, by rw [← q]; exact h1⟩
  have pk : (vs.map Builtin.Re.reRawOf).Perm (es.toList.map keyOf) := by
    have q := pm.map Builtin.Re.reRawOf
    rwa [List.map_map] at q
  refine wpAny_bind (wpAny_newList ?_ (by rw [lv]; exact hz))
  have new : (s1.heap.push (seqObj "list" vs.toArray 0)).get? s1.heap.objs.size = some (seqObj "list" vs.toArray 0) := Heap.get?_push_size _ rfl
  refine wpAny_bind (wpAny_holding (wpAny_call_entry slot_list_sort ⟨_, new, rfl⟩ entry_list_sort (SrtO.list_sort_ord SrtO.swo_int new (by rw [lv]; exact hz) (fun h2 => SrtO.ints_sortable hI h2) fun out h1 h2 => ⟨_, rfl, ?_⟩) (args_list_sort _)))
  obtain ⟨k1, k2, k3⟩ := SrtO.ints_out hI h1 h2
  obtain ⟨c, hc⟩ := sortedHeap_at (vs := vs) (out := out.toArray) new
  have pn : (out.map SrtO.iv).Perm (es.toList.map keyOf) := k2.trans pk
  refine wpAny_pure ⟨_, rfl, hQ _ s1.heap.objs.size out c (out.map SrtO.iv) (fun b u e => ?_) g1 o1 size hc k1 (lt_of_le_nodup _ k3 (pn.nodup_iff.mpr nd)) (fun k => by rw [pn.mem_iff, ← hm k]) ?_⟩
  · have q := keep b u e
    have lt := Heap.lt_size q
    show (sortedHeap (s1.heap.push (seqObj "list" vs.toArray 0)) s1.heap.objs.size vs out.toArray).get? b = some u
    rw [sortedHeap_old (Nat.ne_of_lt lt) (by rw [size_push']; exact Nat.lt_succ_of_lt lt)]
    exact Heap.get?_push_of_some _ q
  · rw [pn.length_eq, List.length_map, Array.length_toList]; exact hn
end
def tSortSet (K : PySem.W.Frag) (ta : TE) : TE := fun σ H Q => ta σ H fun x H1 => ∃ (l : Addr) (ns : List Int), x = V.ref l ∧ (SqL K H1 l (ns.map V.int) ∨ SqT K H1 l (ns.map V.int)) ∧ ns.length ≤ 4000 ∧
  ∀ (ms : List Int) (p : Addr), ms.Pairwise (· < ·) → (∀ k, k ∈ ms ↔ k ∈ ns) → H1 p = none → Q (.ref p) (upd H1 p (.lst (ms.map V.int)))
theorem sort_of_set {X : Cx} {pins : List (Addr × Obj)} {σ : L2.St} {H : Hp} {s : Shared} {S : Addr} {ns : List Int} {c : Nat} {Q : VK} (hc : X.calm = true) (I : Inv X pins σ H s) (R : SetR X.w s.heap S (fun j => decide (j ∈ ns)) c) (hl : c ≤ 4000)
    (q : ∀ (ms : List Int) (p : Addr), ms.Pairwise (· < ·) → (∀ k, k ∈ ms ↔ k ∈ ns) → H p = none → Q (.ref p) (upd H p (.lst (ms.map V.int)))) :
    wpAny (model X.prog X.w) X.A (call (.builtin "sorted") [.ref S]) (EP X pins σ Q) X.xe s := by
  have sl : c ≤ sizeLine := by rw [sizeLine_eq]; omega
  refine sorted_setI R (I.ok.hd hc) sl fun s' p out c' ms k g o hp hg hi hs hm hln => ?_
  have hlen : (ms.map V.int).length ≤ sizeLine := by rw [List.length_map, hln]; exact sl
  have hn : H p = none := I.hok.fresh hp
  have J : Inv X pins σ (upd H p (.lst (ms.map V.int))) { s with heap := s'.heap, gens := s'.gens, drawn := s'.drawn, toks := s'.toks } :=
    I.call (ch := []) (Un.laid k hp hn) (I.hok.laid k hp ⟨hlen, out, c', vals_of_ints hi, hg⟩) (by rw [g]; exact I.bare) (fun _ z => nomatch z)
  have e : s' = { s with heap := s'.heap, gens := s'.gens, drawn := s'.drawn, toks := s'.toks } := by
    cases s'
    cases s
    cases o
    rfl
  rw [e]
  exact ⟨.ref p, _, J, rfl, q ms p hs (fun k => by rw [hm]; simp) hn⟩
theorem pe_sortSet {X : Cx} {a : Expr} {ta : TE} {p p2 q pos : Pos} (hg : Gl X "sorted") (hm : X.mg "sorted" = none) (hg2 : Gl X "set") (hm2 : X.mg "set" = none) (ha : PE X a ta) (hc : X.calm = true)
    (na : starEach [a] X.env = (false, eval a X.env) :: starEach [] X.env := by rfl) : PE X (.Call (.Name "sorted" p) [.Call (.Name "set" p2) [a] [] q] [] pos) (tSortSet X.K ta) := by
  refine ⟨fun pins s σ H Q I h => ?_⟩
  refine Call_ (ld_blt I hg hm bb_sorted ?_)
  refine PyProof.Rows.callWith_builtin1 (PyProof.Rows.args_cons ?_ rfl) rfl rfl
  refine Call_ (ld_blt I hg2 hm2 boot_set ?_)
  refine PyProof.Rows.callWith_type1 (PyProof.Rows.args_cons (thn (ha.run pins s σ H _ I h) fun v s1 ⟨x, H1, I1, r1, q1⟩ => PyProof.Rows.args_nil ?_) na) na rfl
  obtain ⟨l, ns, rfl, hq, hl, q1⟩ := q1
  cases r1
  have small : ns.length + 1 < scanBound := by unfold scanBound; omega
  rcases hq with hq | hq
  · obtain ⟨its, r, pl, hz⟩ := I1.list hq
    refine set_listI ns (I1.ok.hd hc) pl.isList (by simpa using RZ.intsAre_vals r) small fun h' tk c f => ?_
    have I2 : Inv X pins σ H1 { s1 with heap := h', toks := tk } := I1.kept f.2.2
    exact PyProof.Rows.args_nil (sort_of_set hc I2 f.1 (by omega) q1)
  · obtain ⟨its, rv, pt, hz⟩ := I1.tuple hq
    refine call_set_tupI ns (I1.ok.hd hc) (show s1.heap.IsTuple l its.toArray from pt) (by simpa using RZ.intsAre_vals rv) small fun h' tk c R hcn k => ?_
    have I2 : Inv X pins σ H1 { s1 with heap := h', toks := tk } := I1.kept k
    exact PyProof.Rows.args_nil (sort_of_set hc I2 R (by omega) q1)
/-! as data: a rising row of what is in it -/
def riseI : List Int → List Int
  | [] => []
  | x :: xs => if x ∈ riseI xs then riseI xs else insI x (riseI xs)
theorem riseI_mem {k : Int} : ∀ {xs : List Int}, k ∈ riseI xs ↔ k ∈ xs
  | [] => by simp [riseI]
  | x :: xs => by
    have ih := riseI_mem (k := k) (xs := xs)
    unfold riseI
    split
    · rename_i h
      rw [ih, List.mem_cons]
      constructor
      · exact .inr
      · rintro (e | h')
        · rw [e]; exact riseI_mem.mp h
        · exact h'
    · rw [(insI_perm x _).mem_iff, List.mem_cons, List.mem_cons, ih]
theorem riseI_up : ∀ xs : List Int, (riseI xs).Pairwise (· < ·)
  | [] => .nil
  | x :: xs => by
    have ih := riseI_up xs
    unfold riseI
    split
    · exact ih
    · rename_i h
      refine lt_of_le_nodup _ (insI_up x (ih.imp fun h => Int.le_of_lt h)) ((insI_perm x _).nodup_iff.mpr (List.nodup_cons.mpr ⟨h, ih.imp fun h => Int.ne_of_lt h⟩))
def fSrtSet (m : Bool) (f : Rho → Cells → Res D) : Rho → Cells → Res D := fun ρ C => (f ρ C).bind fun x C1 => match (asS x C1).bind ints? with
  | some ns => if ns.length ≤ 4000 then mkL m ((riseI ns).map .int) C1 else .stuck
  | none => .stuck
section
variable {X : Cx} {W : WX} {e : Expr} {f : Rho → Cells → Res D} {p p2 q pos : Pos}
theorem be_srtSet (m : Bool) (hc : X.calm = true) (hg : Gl X "sorted") (hm : X.mg "sorted" = none) (hg2 : Gl X "set") (hm2 : X.mg "set" = none) (he : BE X W e f)
    (na : starEach [e] X.env = (false, eval e X.env) :: starEach [] X.env := by rfl) : BE X W (.Call (.Name "sorted" p) [.Call (.Name "set" p2) [e] [] q] [] pos) (fSrtSet m f) := by
  refine peI (pe_sortSet hg hm hg2 hm2 he hc na) ?_
  rintro σ H Q ⟨ρ, C, μ, F, S, E, k⟩
  refine ⟨ρ, C, μ, F, S, E, kd_bind k fun d C1 v μ1 F1 H1 x1 s1 r1 h1 => ?_⟩
  split at h1
  · rename_i ns e1
    simp only [Option.bind_eq_some_iff] at e1
    obtain ⟨ds, e2, e3⟩ := e1
    obtain ⟨a, vs, rfl, g, rs⟩ := asS_rep s1 r1 e2
    rw [ints?_eq e3] at rs
    rw [rs.of_ints] at g
    split at h1
    · rename_i hl
      refine ⟨a, ns, rfl, g, hl, fun ms p up hm hp => ?_⟩
      have : ms = riseI ns := rise_one up (riseI_up ns) fun x => by rw [hm, riseI_mem]
      subst this
      exact kd_mkL s1 hp (Reps.ints _) h1
    · exact h1.elim
  · exact h1.elim
end
theorem w_srtSet {X : XP} {Q : D → Cells → Prop} {f : Rho → Cells → Res D} {ρ : Rho} {C : Cells} {m : Bool} (h : We X (fun x C1 => ∃ L : List Int, asS x C1 = some (L.map .int) ∧ L.length ≤ 4000 ∧ We X Q (mkL m ((riseI L).map .int) C1)) (f ρ C)) : We X Q (fSrtSet m f ρ C) := by
  unfold fSrtSet
  refine w_bind (h.mono fun x C1 q => ?_)
  obtain ⟨L, e, hl, q⟩ := q
  rw [e]
  simp only [Option.bind_some, ints?_map, hl, if_true]
  exact q
/-! asks with several clauses, going forward -/
section
variable {C : Cells} {sh : SH} {c c' t : Str} {x : D} {n w : Nat} {its : List HI} {r : List (Str × List HI)}
theorem hds_miss (h : c' ≠ c) : hdsD sh ((c, its) :: r) (.ex c' x C) = hdsD sh r (.ex c' x C) := by
  show hdsX ((c, its) :: r) c' x C = hdsX r c' x C
  rw [hdsX]
  rw [if_neg h]
theorem hds_ref (g : GA n w x) (h1 : n ≤ 64) (h2 : w ≤ 2 ^ 20) : hdsD sh ((c, [.str t, .rep, .isi]) :: r) (.ex c x C) = .ok (.tup [.str t, .str (rp x), .bl true]) C := by
  have q := repr_of (C := C) g h1 h2
  show hdsX ((c, [.str t, .rep, .isi]) :: r) c x C = _
  rw [hdsX]
  rw [if_pos rfl]
  simp only [hisD, hiD, q, Res.bind_ok, List.length_cons, List.length_nil]
  rfl
theorem hds_ref2 (g : GA n w x) (h1 : n ≤ 64) (h2 : w ≤ 2 ^ 20) : hdsD sh ((c, [.str t, .rep]) :: r) (.ex c x C) = .ok (.tup [.str t, .str (rp x)]) C := by
  have q := repr_of (C := C) g h1 h2
  show hdsX ((c, [.str t, .rep]) :: r) c x C = _
  rw [hdsX]
  rw [if_pos rfl]
  simp only [hisD, hiD, q, Res.bind_ok, List.length_cons, List.length_nil]
  rfl
theorem hds_fld : hdsD sh ((c, [.str t, .fld, .isi]) :: r) (.ex c x C) = .ok (.tup [.str t, x, .bl true]) C := by
  show hdsX ((c, [.str t, .fld, .isi]) :: r) c x C = _
  rw [hdsX]
  rw [if_pos rfl]
  rfl
theorem hds_fld2 : hdsD sh ((c, [.str t, .fld]) :: r) (.ex c x C) = .ok (.tup [.str t, x]) C := by
  show hdsX ((c, [.str t, .fld]) :: r) c x C = _
  rw [hdsX]
  rw [if_pos rfl]
  rfl
end
end BV
namespace WR
open PySem PySem.Spec PyProof.Rows L2 BV
def b_is_sequence : Rho → Cells → Out :=
  (sRet (f1 (isiD ["list", "tuple"]) (fVar 0)))
def d_is_sequence : List D → Cells → Res D := denF false 1 1 b_is_sequence
def b_is_integer : Rho → Cells → Out :=
  (sRet (andD (f1 (isiD ["int"]) (fVar 0)) (notD (f1 (isiD ["bool"]) (fVar 0)))))
def d_is_integer : List D → Cells → Res D := denF false 1 1 b_is_integer
def b_is_span : Rho → Cells → Out :=
  (sSeq (sIf (orD (notD (fA (oCall 1 d_is_sequence) (aCons (fVar 0) aNil))) (orD (f2 (eqD true) (fA oLen (aCons (fVar 0) aNil)) (fC (.int 2))) (notD (fA oAll (aCons (fLc false [3] (iSeq (fVar 0)) (tgN 3) fYes (fA (oCall 1 d_is_integer) (aCons (fVar 3) aNil))) aNil))))) (sRet (fC (.bl false))) sNil)
    (sRet (chain3D leD leD leD (fVar 1) (f2 ixD (fVar 0) (fC (.int 0))) (f2 ixD (fVar 0) (fC (.int 1))) (fVar 2))))
def d_is_span : List D → Cells → Res D := denF false 3 4 b_is_span
def b_is_source : Rho → Cells → Out :=
  (sSeq (sIf (orD (notD (fA (oCall 1 d_is_sequence) (aCons (fVar 0) aNil))) (orD (f2 (eqD true) (fA oLen (aCons (fVar 0) aNil)) (fC (.int 6))) (notD (fA (oCall 3 d_is_span) (aCons (fSl false (fVar 0) pNo (pSo (fC (.int 2)))) (aCons (fC (.int 1)) (aCons (fC (.int (100))) aNil))))))) (sRet (fC (.bl false))) sNil)
    (sSeq (sIf (orD (notD (fA (oCall 3 d_is_span) (aCons (fSl false (fVar 0) (pSo (fC (.int 2))) (pSo (fC (.int 4)))) (aCons (fC (.int 0)) (aCons (fC (.int (1000))) aNil))))) (notD (fA (oCall 3 d_is_span) (aCons (fSl false (fVar 0) (pSo (fC (.int 4))) pNo) (aCons (fC (.int 1)) (aCons (fC (.int (1000))) aNil)))))) (sRet (fC (.bl false))) sNil)
    (sRet (f2 gtD (f2 (mulD false) (f2 ixD (fVar 0) (fC (.int 0))) (f2 ixD (fVar 0) (fC (.int 4)))) (f2 subD (f2 ixD (fVar 0) (fC (.int 3))) (f2 ixD (fVar 0) (fC (.int 2))))))))
def d_is_source : List D → Cells → Res D := denF false 1 1 b_is_source
def b_are_sources : Rho → Cells → Out :=
  (sRet (andD (fA (oCall 1 d_is_sequence) (aCons (fVar 0) aNil)) (andD (chainD leD leD (fC (.int 1)) (fA oLen (aCons (fVar 0) aNil)) (fC (.int (8)))) (fA oAll (aCons (fLc false [1] (iSeq (fVar 0)) (tgN 1) fYes (fA (oCall 1 d_is_source) (aCons (fVar 1) aNil))) aNil)))))
def d_are_sources : List D → Cells → Res D := denF false 1 2 b_are_sources
def b_is_number : Rho → Cells → Out :=
  (sRet (andD (fA (oCall 1 d_is_integer) (aCons (fVar 0) aNil)) (f2 geD (fVar 0) (fC (.int 0)))))
def d_is_number : List D → Cells → Res D := denF false 1 1 b_is_number
def b_is_below : Rho → Cells → Out :=
  (sRet (andD (fA (oCall 1 d_is_number) (aCons (fVar 0) aNil)) (f2 ltD (fVar 0) (fVar 1))))
def d_is_below : List D → Cells → Res D := denF false 2 2 b_is_below
def b_is_channel : Rho → Cells → Out :=
  (sSeq (sIf (orD (notD (fA (oCall 1 d_is_sequence) (aCons (fVar 1) aNil))) (orD (f2 (eqD true) (fA oLen (aCons (fVar 1) aNil)) (fC (.int 2))) (notD (fA (oCall 2 d_is_below) (aCons (f2 ixD (fVar 1) (fC (.int 0))) (aCons (fA oLen (aCons (fVar 0) aNil)) aNil)))))) (sRet (fC (.bl false))) sNil)
    (sRet (orD (f2 (isD false) (f2 ixD (fVar 1) (fC (.int 1))) (fC .non)) (andD (fA (oCall 2 d_is_below) (aCons (f2 ixD (fVar 1) (fC (.int 1))) (aCons (f2 (addD false) (fC (.int (1000))) (fC (.int 1))) aNil))) (f2 gtD (f2 ixD (fVar 1) (fC (.int 1))) (fC (.int 0)))))))
def d_is_channel : List D → Cells → Res D := denF false 2 2 b_is_channel
def b_are_channels : Rho → Cells → Out :=
  (sSeq (sIf (orD (notD (fA (oCall 1 d_is_sequence) (aCons (fVar 1) aNil))) (notD (chainD leD leD (fC (.int 1)) (fA oLen (aCons (fVar 1) aNil)) (fC (.int (16)))))) (sRet (fC (.bl false))) sNil)
    (sRet (fA oAll (aCons (fLc false [2] (iSeq (fVar 1)) (tgN 2) fYes (fA (oCall 2 d_is_channel) (aCons (fVar 0) (aCons (fVar 2) aNil)))) aNil))))
def d_are_channels : List D → Cells → Res D := denF false 2 3 b_are_channels
def b_check_setup : Rho → Cells → Out :=
  (sSeq (sIf (orD (notD (fA (oCall 1 d_is_sequence) (aCons (fVar 0) aNil))) (f2 (eqD true) (fA oLen (aCons (fVar 0) aNil)) (fC (.int 3)))) (sRaise "BadSetup" (f1 negD (fC (.int 1)))) sNil)
    (sSeq (sIf (notD (fA (oCall 1 d_are_sources) (aCons (f2 ixD (fVar 0) (fC (.int 0))) aNil))) (sRaise "BadSetup" (fC (.int 0))) sNil)
    (sSeq (sIf (notD (fA (oCall 3 d_is_span) (aCons (f2 ixD (fVar 0) (fC (.int 1))) (aCons (fC (.int 1)) (aCons (fC (.int (100))) aNil))))) (sRaise "BadSetup" (fC (.int 1))) sNil)
    (sSeq (sIf (notD (fA (oCall 2 d_are_channels) (aCons (f2 ixD (fVar 0) (fC (.int 0))) (aCons (f2 ixD (fVar 0) (fC (.int 2))) aNil)))) (sRaise "BadSetup" (fC (.int 2))) sNil)
    (sSeq (sAsg (fVar 0) (tgT 3 (tgCons (tgN 1) (tgCons (tgN 2) (tgCons (tgN 3) tgNil)))))
    (sRet (fA oTup (aCons (fA oTuple (aCons (fLc false [4] (iSeq (fVar 1)) (tgN 4) fYes (fA oTuple (aCons (fVar 4) aNil))) aNil)) (aCons (fA oTuple (aCons (fVar 2) aNil)) (aCons (fA oTuple (aCons (fLc false [4] (iSeq (fVar 3)) (tgN 4) fYes (fA oTuple (aCons (fVar 4) aNil))) aNil)) aNil))))))))))
def d_check_setup : List D → Cells → Res D := denF false 1 5 b_check_setup
def b_check_fine : Rho → Cells → Out :=
  (sSeq (sSet 1 (fA (oCall 1 d_check_setup) (aCons (fVar 0) aNil)))
    (sSeq (sIf (f2 (eqD true) (f2 ixD (f2 ixD (fVar 1) (fC (.int 1))) (fC (.int 0))) (fC (.int 1))) (sRaise "Refused" (fVar 0)) sNil)
    (sRet (fVar 1))))
def d_check_fine : List D → Cells → Res D := denF false 1 2 b_check_fine
def b_frame_ticks : Rho → Cells → Out :=
  (sRet (f2 (mulD false) (f2 ixD (fVar 0) (fC (.int 0))) (f2 ixD (fVar 0) (fC (.int 4)))))
def d_frame_ticks : List D → Cells → Res D := denF false 1 1 b_frame_ticks
def b_most_of : Rho → Cells → Out :=
  (sSeq (sAsg (fVar 0) (tgT 6 (tgCons (tgN 2) (tgCons (tgN 3) (tgCons (tgN 4) (tgCons (tgN 5) (tgCons (tgN 6) (tgCons (tgN 7) tgNil))))))))
    (sRet (f2 (addD false) (f2 fdivD (f2 subD (f2 (addD false) (fVar 1) (fVar 5)) (fVar 4)) (fA (oCall 1 d_frame_ticks) (aCons (fVar 0) aNil))) (fC (.int 1)))))
def d_most_of : List D → Cells → Res D := denF false 2 8 b_most_of
def b_most_rows : Rho → Cells → Out :=
  (sSeq (sSet 2 (fA (oCall 1 d_check_fine) (aCons (fVar 0) aNil)))
    (sSeq (sIf (notD (fA (oCall 1 d_is_number) (aCons (fVar 1) aNil))) (sRaise "Refused" (fVar 1)) sNil)
    (sRet (fA oSum (aCons (fLc false [3] (iSeq (f2 ixD (fVar 2) (fC (.int 0)))) (tgN 3) fYes (fA (oCall 2 d_most_of) (aCons (fVar 3) (aCons (fVar 1) aNil)))) aNil)))))
def d_most_rows : List D → Cells → Res D := denF false 2 4 b_most_rows
def b_need_row_count : Rho → Cells → Out :=
  (sSeq (sIf (orD (notD (fA (oCall 2 d_is_below) (aCons (fVar 0) (aCons (f2 (addD false) (fC (.int (200))) (fC (.int 1))) aNil)))) (f2 (eqD false) (fVar 0) (fC (.int 0)))) (sRaise "Refused" (fVar 0)) sNil)
    (sRet (fVar 0)))
def d_need_row_count : List D → Cells → Res D := denF false 1 1 b_need_row_count
def b_least_ticks : Rho → Cells → Out :=
  (sSeq (sSet 2 (fA (oCall 1 d_check_fine) (aCons (fVar 0) aNil)))
    (sSeq (sExpr (fA (oCall 1 d_need_row_count) (aCons (fVar 1) aNil)))
    (sSeq (sPar 3 4 (aCons (fC (.int 0)) (aCons (f2 (mulD false) (fVar 1) (fA oMin (aCons (fLc false [6] (iSeq (f2 ixD (fVar 2) (fC (.int 0)))) (tgN 6) fYes (fA (oCall 1 d_frame_ticks) (aCons (fVar 6) aNil))) aNil))) aNil)))
    (sSeq (sWhile 100000 (f2 ltD (fVar 3) (fVar 4))
    (sSeq (sSet 5 (f2 fdivD (f2 (addD false) (fVar 3) (fVar 4)) (fC (.int 2))))
    (sIf (f2 geD (fA (oCall 2 d_most_rows) (aCons (fVar 2) (aCons (fVar 5) aNil))) (fVar 1)) (sSet 4 (fVar 5)) (sSet 3 (f2 (addD false) (fVar 5) (fC (.int 1)))))))
    (sRet (fVar 3))))))
def d_least_ticks : List D → Cells → Res D := denF false 2 7 b_least_ticks
end WR
namespace WR
open PySem PySem.Spec L2 BV
local macro_rules | `(tactic| walk_at "n") => `(tactic| dsimp only [List.set_cons_succ, List.set_cons_zero])
local macro_rules | `(tactic| walk_at "w") => `(tactic| first
  | ((with_reducible refine o_seq ?_); try walk_at "n")
  | ((with_reducible refine o_set ?_); try walk_at "n")
  | ((with_reducible apply w_var); (focus rfl))
  | (with_reducible refine w_c ?_)
  | (with_reducible refine w_f2 ?_)
  | (with_reducible refine w_fA ?_)
  | (with_reducible refine w_cons ?_)
  | (with_reducible refine w_nil ?_)
  | (with_reducible refine w_f1 ?_)
  | ((with_reducible refine w_call ?_ ?_); (focus rfl))
  | ((with_reducible refine o_if ?_); try walk_at "n")
  | ((with_reducible refine o_ret ?_); try dsimp only [rxP, rtP, List.set_cons_succ, List.set_cons_zero])
  | ((with_reducible refine o_expr ?_); try walk_at "n")
  | ((with_reducible refine o_raise ?_); try dsimp only [rxP, rtP, List.set_cons_succ, List.set_cons_zero])
  | ((with_reducible refine o_for ?_); try walk_at "n")
  | ((with_reducible refine o_asg ?_); try walk_at "n")
  | ((with_reducible refine o_par ?_); try walk_at "n")
  | ((with_reducible refine o_par3 ?_); try walk_at "n")
  | ((with_reducible refine o_sto ?_); try walk_at "n")
  | ((with_reducible apply o_aug); (focus rfl); try walk_at "n")
  | ((with_reducible refine o_nil ?_); try walk_at "n")
  | ((with_reducible refine o_retN ?_); try dsimp only [rxP, rtP, List.set_cons_succ, List.set_cons_zero])
  | ((with_reducible refine o_bk ?_); try dsimp only [rxP, rtP, List.set_cons_succ, List.set_cons_zero])
  | ((with_reducible refine o_ct ?_); try dsimp only [rxP, rtP, List.set_cons_succ, List.set_cons_zero])
  | (with_reducible refine w_and ?_)
  | (with_reducible refine w_or ?_)
  | (with_reducible refine w_not ?_)
  | (with_reducible refine w_chain ?_)
  | (with_reducible refine w_chain3 ?_)
  | (with_reducible refine w_yes ?_)
  | (with_reducible refine x_two ?_)
  | (with_reducible refine x_three ?_)
  | ((with_reducible refine x_rg ?_ ?_); (focus (first | omega | (simp only [List.length_map]; omega))))
  | ((with_reducible refine x_rg2 ?_ ?_); (focus (first | omega | (simp only [List.length_map]; omega))))
  | (with_reducible refine x_int ?_)
  | ((with_reducible refine x_tg (tgT2 _) ?_); try walk_at "n")
  | ((with_reducible refine x_tg (tgT3 _) ?_); try walk_at "n")
  | (with_reducible apply w_lenC0; (focus assumption))
  | (with_reducible apply w_tupC0; (focus assumption))
  | (with_reducible apply w_slC0; (focus assumption))
  | (with_reducible apply w_srcC0; (focus assumption))
  | (with_reducible apply x_asL; (focus assumption))
  | (with_reducible apply w_mkD; (focus assumption))
  | (with_reducible apply w_mkD1; (focus assumption))
  | (with_reducible apply w_lenC1; (focus assumption))
  | (with_reducible apply w_tupC1; (focus assumption))
  | (with_reducible apply w_slC1; (focus assumption))
  | (with_reducible apply x_asL1; (focus assumption))
  | (with_reducible refine w_fK0 ?_)
  | (with_reducible refine w_fAK ?_)
  | ((with_reducible apply w_callK0); (focus rfl); (focus (simp only [permL, List.filterMap_cons, List.filterMap_nil, List.getElem?_cons_zero, List.getElem?_cons_succ]; rfl)); (focus rfl))
  | ((with_reducible apply w_callK); (focus rfl); (focus rfl); (focus (simp only [permL, List.cons_append, List.nil_append, List.filterMap_cons, List.filterMap_nil, List.getElem?_cons_zero, List.getElem?_cons_succ]; rfl)); (focus rfl))
  | (with_reducible refine w_mt1 ?_)
  | (with_reducible refine w_sl ?_)
  | (with_reducible refine w_pNo ?_)
  | (with_reducible refine w_pSo ?_)
  | (with_reducible refine w_lc ?_)
  | (with_reducible refine w_src ?_)
  | (with_reducible refine w_srcL ?_)
  | (with_reducible refine w_srcT ?_)
  | (with_reducible refine w_rg1 ?_)
  | (with_reducible refine w_rg2 ?_)
  | (with_reducible refine w_add ?_)
  | (with_reducible refine w_sub ?_)
  | (with_reducible refine w_cmp ?_)
  | (with_reducible refine w_eqi ?_)
  | (with_reducible refine w_nei ?_)
  | (with_reducible refine w_eqs ?_)
  | (with_reducible refine w_nes ?_)
  | (with_reducible refine w_isN ?_)
  | (with_reducible refine w_isNn ?_)
  | (with_reducible refine w_isB ?_)
  | (with_reducible refine w_isBn ?_)
  | (with_reducible refine w_int ?_)
  | (with_reducible refine w_abs ?_)
  | (with_reducible refine w_max ?_)
  | (with_reducible refine w_min ?_)
  | (with_reducible refine w_neg ?_)
  | (with_reducible refine w_mkf ?_)
  | (with_reducible refine w_lenT ?_)
  | (with_reducible refine w_lenL ?_)
  | (with_reducible refine w_lenS ?_)
  | (with_reducible refine w_tupT ?_)
  | (with_reducible refine w_tupL ?_)
  | (with_reducible refine w_slT ?_)
  | (with_reducible refine w_slL ?_)
  | (with_reducible refine w_ix0 ?_)
  | (with_reducible refine w_ix1 ?_)
  | (with_reducible refine w_ix2 ?_)
  | (with_reducible refine w_ix3 ?_)
  | (with_reducible refine w_ixl0 ?_)
  | (with_reducible refine w_ixl1 ?_)
  | (with_reducible refine w_ixl2 ?_)
  | ((with_reducible refine w_lst ?_ ?_); (focus exact Nat.le_of_ble_eq_true rfl))
  | ((with_reducible refine w_tup ?_ ?_); (focus exact Nat.le_of_ble_eq_true rfl))
  | ((with_reducible refine w_mul ?_ ?_); (focus exact cmul_of (by omega)))
  | ((with_reducible refine w_mod ?_ ?_); (focus omega))
  | ((with_reducible refine w_fdiv ?_ ?_); (focus exact And.intro (by omega) (by omega)))
  | (with_reducible refine w_p9 ?_)
  | ((with_reducible refine w_pow ?_ ?_); (focus decide))
  | ((with_reducible apply w_isi); (focus rfl))
  | (with_reducible refine bt_t ?_)
  | (with_reducible refine bt_f ?_)
  | ((with_reducible refine bt_yes ?_ ?_); (focus rfl))
  | ((with_reducible refine bt_nno ?_ ?_); (focus rfl))
  | ((with_reducible refine bt_is ?_ ?_); (focus rfl))
  | ((with_reducible refine bt_isn ?_ ?_); (focus rfl))
  | ((with_reducible refine bt_yes ?_ ?_); (focus omega))
  | ((with_reducible refine bt_no ?_ ?_); (focus omega))
  | ((with_reducible refine bt_eyes ?_ ?_); (focus omega))
  | ((with_reducible refine bt_eno ?_ ?_); (focus omega))
  | ((with_reducible refine bt_neyes ?_ ?_); (focus omega))
  | ((with_reducible refine bt_neno ?_ ?_); (focus omega))
  | (with_reducible apply w_of; (focus assumption)))
local macro_rules | `(tactic| walk_at "g") => `(tactic| repeat walk_at "w")
/-! ### words.py -/
section
variable {C : Cells} {x y : D} {m : Int}
theorem sequence (hC : Flat C) (p : pure0 x = true) : d_is_sequence [x] C = .ok (.bl (isSeq x)) C := by
  refine We.eq (w_def [some x] rfl rfl ?_)
  unfold b_is_sequence
  cases x <;> simp [pure0] at p <;> walk_at "g" <;> exact f_val hC rfl ⟨rfl, rfl⟩
theorem integer (hC : Flat C) (p : pure0 x = true) : d_is_integer [x] C = .ok (.bl (isInt x)) C := by
  refine We.eq (w_def [some x] rfl rfl ?_)
  unfold b_is_integer
  cases x <;> simp [pure0] at p <;> walk_at "g" <;> exact f_val hC rfl ⟨rfl, rfl⟩
theorem number (hC : Flat C) (p : pure0 x = true) : d_is_number [x] C = .ok (.bl (isNum x)) C := by
  have h := integer hC p
  refine We.eq (w_def [some x] rfl rfl ?_)
  unfold b_is_number
  cases x <;> simp [pure0] at p <;> walk_at "g" <;> exact f_val hC rfl ⟨rfl, rfl⟩
theorem below (hC : Flat C) (p : pure0 x = true) : d_is_below [x, .int m] C = .ok (.bl (isBel m x)) C := by
  have h := number hC p
  refine We.eq (w_def [some x, some (.int m)] rfl rfl ?_)
  unfold b_is_below
  walk_at "g"
  refine bt_b (fun e => ?_) (fun e => ?_)
  · cases x <;> simp [isNum] at e
    walk_at "g"
    exact f_val hC rfl ⟨by simp [isBel, e], rfl⟩
  · refine f_val hC rfl ⟨?_, rfl⟩
    cases x <;> simp [isNum] at e <;> simp [isBel, e]
    omega
def iOf : D → Int
  | .int i => i
  | _ => 0
theorem all_int {vs : List D} (h : vs.all isInt = true) : vs = (vs.map iOf).map .int := by
  rw [List.map_map]
  conv => lhs; rw [← List.map_id vs]
  refine List.map_congr_left fun d hd => ?_
  obtain ⟨i, rfl⟩ := isInt_int (List.all_eq_true.mp h d hd)
  rfl
theorem ints_lc {k : Nat} {ρ : Rho} {vs : List D} (hC : Flat C) (hp : pures vs = true) (hk : k < ρ.length) : lcS (tgN k) fYes (fA (oCall 1 d_is_integer) (aCons (fVar k) aNil)) ρ (.fix vs) C = .ok (vs.map fun d => .bl (isInt d)) C := by
  refine We.eq (w_mapY (fun d => .bl (isInt d)) (fun d hd => We.eq ?_) ⟨rfl, rfl⟩)
  have q := integer hC (pures_iff.mp hp d hd)
  have e : (ρ.set k (some d))[k]? = some (some d) := by simp [hk]
  refine w_fA (w_cons (w_var e ?_))
  walk_at "g"
  exact ⟨rfl, rfl⟩
end
end WR
namespace WR
open PySem PySem.Spec L2 BV
local macro_rules | `(tactic| walk_at "n") => `(tactic| dsimp only [List.set_cons_succ, List.set_cons_zero])
local macro_rules | `(tactic| walk_at "w") => `(tactic| first
  | ((with_reducible refine o_seq ?_); try walk_at "n")
  | ((with_reducible refine o_set ?_); try walk_at "n")
  | ((with_reducible apply w_var); (focus rfl))
  | (with_reducible refine w_c ?_)
  | (with_reducible refine w_f2 ?_)
  | (with_reducible refine w_fA ?_)
  | (with_reducible refine w_cons ?_)
  | (with_reducible refine w_nil ?_)
  | (with_reducible refine w_f1 ?_)
  | ((with_reducible refine w_call ?_ ?_); (focus rfl))
  | ((with_reducible refine o_if ?_); try walk_at "n")
  | ((with_reducible refine o_ret ?_); try dsimp only [rxP, rtP, List.set_cons_succ, List.set_cons_zero])
  | ((with_reducible refine o_expr ?_); try walk_at "n")
  | ((with_reducible refine o_raise ?_); try dsimp only [rxP, rtP, List.set_cons_succ, List.set_cons_zero])
  | ((with_reducible refine o_for ?_); try walk_at "n")
  | ((with_reducible refine o_asg ?_); try walk_at "n")
  | ((with_reducible refine o_par ?_); try walk_at "n")
  | ((with_reducible refine o_par3 ?_); try walk_at "n")
  | ((with_reducible refine o_sto ?_); try walk_at "n")
  | ((with_reducible apply o_aug); (focus rfl); try walk_at "n")
  | ((with_reducible refine o_nil ?_); try walk_at "n")
  | ((with_reducible refine o_retN ?_); try dsimp only [rxP, rtP, List.set_cons_succ, List.set_cons_zero])
  | ((with_reducible refine o_bk ?_); try dsimp only [rxP, rtP, List.set_cons_succ, List.set_cons_zero])
  | ((with_reducible refine o_ct ?_); try dsimp only [rxP, rtP, List.set_cons_succ, List.set_cons_zero])
  | (with_reducible refine w_and ?_)
  | (with_reducible refine w_or ?_)
  | (with_reducible refine w_not ?_)
  | (with_reducible refine w_chain ?_)
  | (with_reducible refine w_chain3 ?_)
  | (with_reducible refine w_yes ?_)
  | (with_reducible refine x_two ?_)
  | (with_reducible refine x_three ?_)
  | ((with_reducible refine x_rg ?_ ?_); (focus (first | omega | (simp only [List.length_map]; omega))))
  | ((with_reducible refine x_rg2 ?_ ?_); (focus (first | omega | (simp only [List.length_map]; omega))))
  | (with_reducible refine x_int ?_)
  | ((with_reducible refine x_tg (tgT2 _) ?_); try walk_at "n")
  | ((with_reducible refine x_tg (tgT3 _) ?_); try walk_at "n")
  | (with_reducible apply w_lenC0; (focus assumption))
  | (with_reducible apply w_tupC0; (focus assumption))
  | (with_reducible apply w_slC0; (focus assumption))
  | (with_reducible apply w_srcC0; (focus assumption))
  | (with_reducible apply x_asL; (focus assumption))
  | (with_reducible apply w_mkD; (focus assumption))
  | (with_reducible apply w_mkD1; (focus assumption))
  | (with_reducible apply w_lenC1; (focus assumption))
  | (with_reducible apply w_tupC1; (focus assumption))
  | (with_reducible apply w_slC1; (focus assumption))
  | (with_reducible apply x_asL1; (focus assumption))
  | (with_reducible refine w_fK0 ?_)
  | (with_reducible refine w_fAK ?_)
  | ((with_reducible apply w_callK0); (focus rfl); (focus (simp only [permL, List.filterMap_cons, List.filterMap_nil, List.getElem?_cons_zero, List.getElem?_cons_succ]; rfl)); (focus rfl))
  | ((with_reducible apply w_callK); (focus rfl); (focus rfl); (focus (simp only [permL, List.cons_append, List.nil_append, List.filterMap_cons, List.filterMap_nil, List.getElem?_cons_zero, List.getElem?_cons_succ]; rfl)); (focus rfl))
  | (with_reducible refine w_mt1 ?_)
  | (with_reducible refine w_sl ?_)
  | (with_reducible refine w_pNo ?_)
  | (with_reducible refine w_pSo ?_)
  | (with_reducible refine w_lc ?_)
  | (with_reducible refine w_src ?_)
  | (with_reducible refine w_srcL ?_)
  | (with_reducible refine w_srcT ?_)
  | (with_reducible refine w_rg1 ?_)
  | (with_reducible refine w_rg2 ?_)
  | (with_reducible refine w_add ?_)
  | (with_reducible refine w_sub ?_)
  | (with_reducible refine w_cmp ?_)
  | (with_reducible refine w_eqi ?_)
  | (with_reducible refine w_nei ?_)
  | (with_reducible refine w_eqs ?_)
  | (with_reducible refine w_nes ?_)
  | (with_reducible refine w_isN ?_)
  | (with_reducible refine w_isNn ?_)
  | (with_reducible refine w_isB ?_)
  | (with_reducible refine w_isBn ?_)
  | (with_reducible refine w_int ?_)
  | (with_reducible refine w_abs ?_)
  | (with_reducible refine w_max ?_)
  | (with_reducible refine w_min ?_)
  | (with_reducible refine w_neg ?_)
  | (with_reducible refine w_mkf ?_)
  | (with_reducible refine w_lenT ?_)
  | (with_reducible refine w_lenL ?_)
  | (with_reducible refine w_lenS ?_)
  | (with_reducible refine w_tupT ?_)
  | (with_reducible refine w_tupL ?_)
  | (with_reducible refine w_slT ?_)
  | (with_reducible refine w_slL ?_)
  | (with_reducible refine w_ix0 ?_)
  | (with_reducible refine w_ix1 ?_)
  | (with_reducible refine w_ix2 ?_)
  | (with_reducible refine w_ix3 ?_)
  | (with_reducible refine w_ixl0 ?_)
  | (with_reducible refine w_ixl1 ?_)
  | (with_reducible refine w_ixl2 ?_)
  | ((with_reducible refine w_lst ?_ ?_); (focus exact Nat.le_of_ble_eq_true rfl))
  | ((with_reducible refine w_tup ?_ ?_); (focus exact Nat.le_of_ble_eq_true rfl))
  | ((with_reducible refine w_mul ?_ ?_); (focus exact cmul_of (by omega)))
  | ((with_reducible refine w_mod ?_ ?_); (focus omega))
  | ((with_reducible refine w_fdiv ?_ ?_); (focus exact And.intro (by omega) (by omega)))
  | (with_reducible refine w_p9 ?_)
  | ((with_reducible refine w_pow ?_ ?_); (focus decide))
  | ((with_reducible apply w_isi); (focus rfl))
  | (with_reducible refine bt_t ?_)
  | (with_reducible refine bt_f ?_)
  | ((with_reducible refine bt_yes ?_ ?_); (focus rfl))
  | ((with_reducible refine bt_nno ?_ ?_); (focus rfl))
  | ((with_reducible refine bt_is ?_ ?_); (focus rfl))
  | ((with_reducible refine bt_isn ?_ ?_); (focus rfl))
  | ((with_reducible refine bt_yes ?_ ?_); (focus omega))
  | ((with_reducible refine bt_no ?_ ?_); (focus omega))
  | ((with_reducible refine bt_eyes ?_ ?_); (focus omega))
  | ((with_reducible refine bt_eno ?_ ?_); (focus omega))
  | ((with_reducible refine bt_neyes ?_ ?_); (focus omega))
  | ((with_reducible refine bt_neno ?_ ?_); (focus omega))
  | (with_reducible apply w_of; (focus assumption)))
local macro_rules | `(tactic| walk_at "g") => `(tactic| repeat walk_at "w")
/-! ### setups.py: setups -/
section
variable {C : Cells} {v x y : D} {l m : Int}
def spanB (l m : Int) (v : D) : Bool := match seqOf v with
  | some [.int a, .int b] => decide (l ≤ a) && (decide (a ≤ b) && decide (b ≤ m))
  | _ => false
theorem is_span (hC : Flat C) (p : sm0 v = true) : d_is_span [v, .int l, .int m] C = .ok (.bl (spanB l m v)) C := by
  have h := sequence hC (sm0_p p)
  refine We.eq (w_def [some v, some (.int l), some (.int m), none] rfl rfl ?_)
  unfold b_is_span
  walk_at "g"
  cases e : seqOf v with
  | none =>
    simp only [isSeq, e, Option.isSome_none]
    walk_at "g"
    exact f_val hC rfl ⟨by simp [spanB, e], rfl⟩
  | some vs =>
    have sv := seqOf_sv e
    have pp := sm0_seq e p
    simp only [isSeq, e, Option.isSome_some]
    walk_at "g"
    refine w_svlen sv ?_
    walk_at "g"
    refine bt_ne (fun hn => ?_) (fun hn => ?_)
    · walk_at "g"
      refine f_val hC rfl ⟨?_, rfl⟩
      unfold spanB
      rw [e]
      rcases vs with _ | ⟨a, _ | ⟨b, _ | ⟨c, ds⟩⟩⟩ <;> simp at hn <;> try rfl
      all_goals (split <;> simp_all)
    · obtain ⟨a, b, rfl⟩ : ∃ a b, vs = [a, b] := by
        rcases vs with _ | ⟨a, _ | ⟨b, _ | ⟨c, ds⟩⟩⟩ <;> simp at hn <;> first | exact ⟨_, _, rfl⟩ | omega
      walk_at "g"
      refine w_seqs sv ?_
      refine w_of (ints_lc hC (sms_p pp.2) (by simp)) ?_
      refine ⟨by simp, ?_⟩
      walk_at "g"
      refine w_allA ?_
      refine bt_b (fun ha => ?_) (fun ha => ?_)
      · have ha : isInt a = true ∧ isInt b = true := by simpa using ha
        obtain ⟨i, rfl⟩ := isInt_int ha.1
        obtain ⟨j, rfl⟩ := isInt_int ha.2
        have i0 := sv.ix (C := C) (i := 0) (by decide) rfl
        have i1 := sv.ix (C := C) (i := 1) (by decide) rfl
        have r : spanB l m v = (decide (l ≤ i) && (decide (i ≤ j) && decide (j ≤ m))) := by simp [spanB, e]
        rw [r]
        walk_at "g"
        refine bt_d (fun h1 => ?_) (fun h1 => ?_)
        · walk_at "g"
          refine bt_d (fun h2 => ?_) (fun h2 => ?_)
          · walk_at "g"
            exact f_val hC rfl ⟨by simp [h1, h2], rfl⟩
          · exact f_val hC rfl ⟨by simp [h2], rfl⟩
        · exact f_val hC rfl ⟨by simp [h1], rfl⟩
      · walk_at "g"
        refine f_val hC rfl ⟨?_, rfl⟩
        unfold spanB
        rw [e]
        cases a <;> cases b <;> simp [isInt] at ha <;> rfl
def sourceB (v : D) : Bool := match seqOf v with
  | some [a, b, c, d, e, f] => spanB 1 100 (.tup [a, b]) && (spanB 0 1000 (.tup [c, d]) && (spanB 1 1000 (.tup [e, f]) && decide (iOf d - iOf c < iOf a * iOf e)))
  | _ => false
theorem spanB_sv {w : D} {ds : List D} (h : SV w ds) : spanB l m w = spanB l m (.tup ds) := by rcases h with rfl | rfl <;> rfl
theorem spanB_ints {a b : D} (h : spanB l m (.tup [a, b]) = true) : ∃ i j : Int, a = .int i ∧ b = .int j ∧ l ≤ i ∧ i ≤ j ∧ j ≤ m := by
  cases a <;> cases b <;> simp [spanB, seqOf] at h
  exact ⟨_, _, rfl, rfl, h⟩
theorem is_source (hC : Flat C) (p : sm0 v = true) : d_is_source [v] C = .ok (.bl (sourceB v)) C := by
  have h := sequence hC (sm0_p p)
  refine We.eq (w_def [some v] rfl rfl ?_)
  unfold b_is_source
  walk_at "g"
  cases e : seqOf v with
  | none =>
    simp only [isSeq, e, Option.isSome_none]
    walk_at "g"
    exact f_val hC rfl ⟨by simp [sourceB, e], rfl⟩
  | some vs =>
    have sv := seqOf_sv e
    have pp := sm0_seq e p
    simp only [isSeq, e, Option.isSome_some]
    walk_at "g"
    refine w_svlen sv ?_
    walk_at "g"
    refine bt_ne (fun hn => ?_) (fun hn => ?_)
    · walk_at "g"
      refine f_val hC rfl ⟨?_, rfl⟩
      unfold sourceB
      rw [e]
      rcases vs with _ | ⟨a, _ | ⟨b, _ | ⟨c, _ | ⟨d, _ | ⟨f, _ | ⟨g, _ | ⟨k, ds⟩⟩⟩⟩⟩⟩⟩ <;> simp at hn <;> rfl
    · obtain ⟨a, b, c, d, f, g, rfl⟩ : ∃ a b c d f g, vs = [a, b, c, d, f, g] := by
        rcases vs with _ | ⟨a, _ | ⟨b, _ | ⟨c, _ | ⟨d, _ | ⟨f, _ | ⟨g, _ | ⟨k, ds⟩⟩⟩⟩⟩⟩⟩ <;> simp at hn <;> first | exact ⟨_, _, _, _, _, _, rfl⟩ | omega
      have r : sourceB v = (spanB 1 100 (.tup [a, b]) && (spanB 0 1000 (.tup [c, d]) && (spanB 1 1000 (.tup [f, g]) && decide (iOf d - iOf c < iOf a * iOf f)))) := by simp [sourceB, e]
      have p6 : sm0 a = true ∧ sm0 b = true ∧ sm0 c = true ∧ sm0 d = true ∧ sm0 f = true ∧ sm0 g = true := by simpa [sms] using pp.2
      have sl : ∀ lo hi (xs : List D), cut [a, b, c, d, f, g] lo hi = xs → sms xs = true → xs.length ≤ 100000 → ∃ w, slD false v lo hi C = .ok w C ∧ ∀ l m, d_is_span [w, .int l, .int m] C = .ok (.bl (spanB l m (.tup xs))) C := fun lo hi xs ec hs hl => by
        obtain ⟨w, ew, sw, _⟩ := sv.sl (C := C) (lo := lo) (hi := hi)
        rw [ec] at sw
        exact ⟨w, ew, fun l m => by rw [is_span hC (sw.sm hl hs), spanB_sv sw]⟩
      obtain ⟨w1, e1, s1⟩ := sl none (some 2) [a, b] (by rw [cut_take _ (by decide)]; rfl) (by simp [sms, p6]) (by simp)
      obtain ⟨w2, e2, s2⟩ := sl (some 2) (some 4) [c, d] (by rw [cut_mid _ (by decide) (by decide)]; rfl) (by simp [sms, p6]) (by simp)
      obtain ⟨w3, e3, s3⟩ := sl (some 4) none [f, g] (by rw [cut_drop _ (by decide)]; rfl) (by simp [sms, p6]) (by simp)
      have t1 := s1 1 100
      have t2 := s2 0 1000
      have t3 := s3 1 1000
      rw [r]
      walk_at "g"
      refine bt_b (fun h1 => ?_) (fun h1 => ?_)
      · walk_at "g"
        refine bt_b (fun h2 => ?_) (fun h2 => ?_)
        · walk_at "g"
          refine bt_b (fun h3 => ?_) (fun h3 => ?_)
          · obtain ⟨a, b, rfl, rfl, q1⟩ := spanB_ints h1
            obtain ⟨c, d, rfl, rfl, q2⟩ := spanB_ints h2
            obtain ⟨f, g, rfl, rfl, q3⟩ := spanB_ints h3
            have i0 := sv.ix (C := C) (i := 0) (by decide) rfl
            have i4 := sv.ix (C := C) (i := 4) (by decide) rfl
            have i3 := sv.ix (C := C) (i := 3) (by decide) rfl
            have i2 := sv.ix (C := C) (i := 2) (by decide) rfl
            walk_at "g"
            exact f_val hC rfl ⟨by rw [h1, h2, h3]; rfl, rfl⟩
          · walk_at "g"
            exact f_val hC rfl ⟨by rw [h1, h2, h3]; rfl, rfl⟩
        · walk_at "g"
          exact f_val hC rfl ⟨by rw [h1, h2]; rfl, rfl⟩
      · walk_at "g"
        exact f_val hC rfl ⟨by rw [h1]; rfl, rfl⟩
end
end WR
namespace WR
open PySem PySem.Spec L2 BV
local macro_rules | `(tactic| walk_at "n") => `(tactic| dsimp only [List.set_cons_succ, List.set_cons_zero])
local macro_rules | `(tactic| walk_at "w") => `(tactic| first
  | ((with_reducible refine o_seq ?_); try walk_at "n")
  | ((with_reducible refine o_set ?_); try walk_at "n")
  | ((with_reducible apply w_var); (focus rfl))
  | (with_reducible refine w_c ?_)
  | (with_reducible refine w_f2 ?_)
  | (with_reducible refine w_fA ?_)
  | (with_reducible refine w_cons ?_)
  | (with_reducible refine w_nil ?_)
  | (with_reducible refine w_f1 ?_)
  | ((with_reducible refine w_call ?_ ?_); (focus rfl))
  | ((with_reducible refine o_if ?_); try walk_at "n")
  | ((with_reducible refine o_ret ?_); try dsimp only [rxP, rtP, List.set_cons_succ, List.set_cons_zero])
  | ((with_reducible refine o_expr ?_); try walk_at "n")
  | ((with_reducible refine o_raise ?_); try dsimp only [rxP, rtP, List.set_cons_succ, List.set_cons_zero])
  | ((with_reducible refine o_for ?_); try walk_at "n")
  | ((with_reducible refine o_asg ?_); try walk_at "n")
  | ((with_reducible refine o_par ?_); try walk_at "n")
  | ((with_reducible refine o_par3 ?_); try walk_at "n")
  | ((with_reducible refine o_sto ?_); try walk_at "n")
  | ((with_reducible apply o_aug); (focus rfl); try walk_at "n")
  | ((with_reducible refine o_nil ?_); try walk_at "n")
  | ((with_reducible refine o_retN ?_); try dsimp only [rxP, rtP, List.set_cons_succ, List.set_cons_zero])
  | ((with_reducible refine o_bk ?_); try dsimp only [rxP, rtP, List.set_cons_succ, List.set_cons_zero])
  | ((with_reducible refine o_ct ?_); try dsimp only [rxP, rtP, List.set_cons_succ, List.set_cons_zero])
  | (with_reducible refine w_and ?_)
  | (with_reducible refine w_or ?_)
  | (with_reducible refine w_not ?_)
  | (with_reducible refine w_chain ?_)
  | (with_reducible refine w_chain3 ?_)
  | (with_reducible refine w_yes ?_)
  | (with_reducible refine x_two ?_)
  | (with_reducible refine x_three ?_)
  | ((with_reducible refine x_rg ?_ ?_); (focus (first | omega | (simp only [List.length_map]; omega))))
  | ((with_reducible refine x_rg2 ?_ ?_); (focus (first | omega | (simp only [List.length_map]; omega))))
  | (with_reducible refine x_int ?_)
  | ((with_reducible refine x_tg (tgT2 _) ?_); try walk_at "n")
  | ((with_reducible refine x_tg (tgT3 _) ?_); try walk_at "n")
  | (with_reducible apply w_lenC0; (focus assumption))
  | (with_reducible apply w_tupC0; (focus assumption))
  | (with_reducible apply w_slC0; (focus assumption))
  | (with_reducible apply w_srcC0; (focus assumption))
  | (with_reducible apply x_asL; (focus assumption))
  | (with_reducible apply w_mkD; (focus assumption))
  | (with_reducible apply w_mkD1; (focus assumption))
  | (with_reducible apply w_lenC1; (focus assumption))
  | (with_reducible apply w_tupC1; (focus assumption))
  | (with_reducible apply w_slC1; (focus assumption))
  | (with_reducible apply x_asL1; (focus assumption))
  | (with_reducible refine w_fK0 ?_)
  | (with_reducible refine w_fAK ?_)
  | ((with_reducible apply w_callK0); (focus rfl); (focus (simp only [permL, List.filterMap_cons, List.filterMap_nil, List.getElem?_cons_zero, List.getElem?_cons_succ]; rfl)); (focus rfl))
  | ((with_reducible apply w_callK); (focus rfl); (focus rfl); (focus (simp only [permL, List.cons_append, List.nil_append, List.filterMap_cons, List.filterMap_nil, List.getElem?_cons_zero, List.getElem?_cons_succ]; rfl)); (focus rfl))
  | (with_reducible refine w_mt1 ?_)
  | (with_reducible refine w_sl ?_)
  | (with_reducible refine w_pNo ?_)
  | (with_reducible refine w_pSo ?_)
  | (with_reducible refine w_lc ?_)
  | (with_reducible refine w_src ?_)
  | (with_reducible refine w_srcL ?_)
  | (with_reducible refine w_srcT ?_)
  | (with_reducible refine w_rg1 ?_)
  | (with_reducible refine w_rg2 ?_)
  | (with_reducible refine w_add ?_)
  | (with_reducible refine w_sub ?_)
  | (with_reducible refine w_cmp ?_)
  | (with_reducible refine w_eqi ?_)
  | (with_reducible refine w_nei ?_)
  | (with_reducible refine w_eqs ?_)
  | (with_reducible refine w_nes ?_)
  | (with_reducible refine w_isN ?_)
  | (with_reducible refine w_isNn ?_)
  | (with_reducible refine w_isB ?_)
  | (with_reducible refine w_isBn ?_)
  | (with_reducible refine w_int ?_)
  | (with_reducible refine w_abs ?_)
  | (with_reducible refine w_max ?_)
  | (with_reducible refine w_min ?_)
  | (with_reducible refine w_neg ?_)
  | (with_reducible refine w_mkf ?_)
  | (with_reducible refine w_lenT ?_)
  | (with_reducible refine w_lenL ?_)
  | (with_reducible refine w_lenS ?_)
  | (with_reducible refine w_tupT ?_)
  | (with_reducible refine w_tupL ?_)
  | (with_reducible refine w_slT ?_)
  | (with_reducible refine w_slL ?_)
  | (with_reducible refine w_ix0 ?_)
  | (with_reducible refine w_ix1 ?_)
  | (with_reducible refine w_ix2 ?_)
  | (with_reducible refine w_ix3 ?_)
  | (with_reducible refine w_ixl0 ?_)
  | (with_reducible refine w_ixl1 ?_)
  | (with_reducible refine w_ixl2 ?_)
  | ((with_reducible refine w_lst ?_ ?_); (focus exact Nat.le_of_ble_eq_true rfl))
  | ((with_reducible refine w_tup ?_ ?_); (focus exact Nat.le_of_ble_eq_true rfl))
  | ((with_reducible refine w_mul ?_ ?_); (focus exact cmul_of (by omega)))
  | ((with_reducible refine w_mod ?_ ?_); (focus omega))
  | ((with_reducible refine w_fdiv ?_ ?_); (focus exact And.intro (by omega) (by omega)))
  | (with_reducible refine w_p9 ?_)
  | ((with_reducible refine w_pow ?_ ?_); (focus decide))
  | ((with_reducible apply w_isi); (focus rfl))
  | (with_reducible refine bt_t ?_)
  | (with_reducible refine bt_f ?_)
  | ((with_reducible refine bt_yes ?_ ?_); (focus rfl))
  | ((with_reducible refine bt_nno ?_ ?_); (focus rfl))
  | ((with_reducible refine bt_is ?_ ?_); (focus rfl))
  | ((with_reducible refine bt_isn ?_ ?_); (focus rfl))
  | ((with_reducible refine bt_yes ?_ ?_); (focus omega))
  | ((with_reducible refine bt_no ?_ ?_); (focus omega))
  | ((with_reducible refine bt_eyes ?_ ?_); (focus omega))
  | ((with_reducible refine bt_eno ?_ ?_); (focus omega))
  | ((with_reducible refine bt_neyes ?_ ?_); (focus omega))
  | ((with_reducible refine bt_neno ?_ ?_); (focus omega))
  | (with_reducible apply w_of; (focus assumption)))
local macro_rules | `(tactic| walk_at "g") => `(tactic| repeat walk_at "w")
section
variable {C : Cells} {v x y s : D} {l m : Int}
def lenB (a b : Int) (ds : List D) : Bool := decide (a ≤ ds.length) && decide ((ds.length : Int) ≤ b)
def sourcesB (v : D) : Bool := match seqOf v with
  | some ss => lenB 1 8 ss && ss.all sourceB
  | none => false
theorem are_sources (hC : Flat C) (p : sm0 v = true) : d_are_sources [v] C = .ok (.bl (sourcesB v)) C := by
  have h := sequence hC (sm0_p p)
  refine We.eq (w_def [some v, none] rfl rfl ?_)
  unfold b_are_sources
  walk_at "g"
  cases e : seqOf v with
  | none =>
    simp only [isSeq, e, Option.isSome_none]
    walk_at "g"
    exact f_val hC rfl ⟨by simp [sourcesB, e], rfl⟩
  | some vs =>
    have sv := seqOf_sv e
    have pp := sm0_seq e p
    have r : sourcesB v = (decide ((1 : Int) ≤ vs.length) && decide ((vs.length : Int) ≤ 8) && vs.all sourceB) := by simp [sourcesB, e, lenB]
    rw [r]
    simp only [isSeq, e, Option.isSome_some]
    walk_at "g"
    refine w_svlen sv ?_
    walk_at "g"
    refine bt_d (fun h1 => ?_) (fun h1 => ?_)
    · walk_at "g"
      refine bt_d (fun h2 => ?_) (fun h2 => ?_)
      · walk_at "g"
        refine w_seqs sv ?_
        refine w_mapY (fun d => .bl (sourceB d)) (fun d hd => We.eq ?_) ?_
        · have q := is_source hC (sms_iff.mp pp.2 d hd)
          walk_at "g"
          exact ⟨rfl, rfl⟩
        refine ⟨by simpa using pp.1, ?_⟩
        walk_at "g"
        refine w_allA (f_val hC rfl ⟨by simp [h1, h2], rfl⟩)
      · exact f_val hC rfl ⟨by simp [h2], rfl⟩
    · walk_at "g"
      exact f_val hC rfl ⟨by simp [h1], rfl⟩
def rateB : D → Bool
  | .non => true
  | .int i => decide (0 < i) && decide (i < 1001)
  | _ => false
def channelB (n : Int) (v : D) : Bool := match seqOf v with
  | some [a, b] => isBel n a && rateB b
  | _ => false
theorem is_channel (hC : Flat C) {ss : List D} (hs : SV s ss) (p : sm0 v = true) : d_is_channel [s, v] C = .ok (.bl (channelB ss.length v)) C := by
  have h := sequence hC (sm0_p p)
  refine We.eq (w_def [some s, some v] rfl rfl ?_)
  unfold b_is_channel
  walk_at "g"
  cases e : seqOf v with
  | none =>
    simp only [isSeq, e, Option.isSome_none]
    walk_at "g"
    exact f_val hC rfl ⟨by simp [channelB, e], rfl⟩
  | some vs =>
    have sv := seqOf_sv e
    have pp := sm0_seq e p
    simp only [isSeq, e, Option.isSome_some]
    walk_at "g"
    refine w_svlen sv ?_
    walk_at "g"
    refine bt_ne (fun hn => ?_) (fun hn => ?_)
    · walk_at "g"
      refine f_val hC rfl ⟨?_, rfl⟩
      unfold channelB
      rw [e]
      rcases vs with _ | ⟨a, _ | ⟨b, _ | ⟨c, ds⟩⟩⟩ <;> simp at hn <;> rfl
    · obtain ⟨a, b, rfl⟩ : ∃ a b, vs = [a, b] := by
        rcases vs with _ | ⟨a, _ | ⟨b, _ | ⟨c, ds⟩⟩⟩ <;> simp at hn <;> first | exact ⟨_, _, rfl⟩ | omega
      have r : channelB ss.length v = (isBel ss.length a && rateB b) := by simp [channelB, e]
      have p2 : sm0 a = true ∧ sm0 b = true := by simpa [sms] using pp.2
      have i0 := sv.ix (C := C) (i := 0) (by decide) rfl
      have i1 := sv.ix (C := C) (i := 1) (by decide) rfl
      have qa := below (m := ss.length) hC (sm0_p p2.1)
      have qb := below (m := 1000 + 1) hC (sm0_p p2.2)
      have ls := hs.len (C := C)
      rw [r]
      walk_at "g"
      refine bt_b (fun h1 => ?_) (fun h1 => ?_)
      · walk_at "g"
        cases b with
        | non =>
          walk_at "g"
          exact f_val hC rfl ⟨by rw [h1]; rfl, rfl⟩
        | int i =>
          walk_at "g"
          refine bt_b (fun h2 => ?_) (fun h2 => ?_)
          · have h2 : 0 ≤ i ∧ i < 1000 + 1 := by simpa [isBel] using h2
            walk_at "g"
            refine f_val hC rfl ⟨?_, rfl⟩
            have : i < 1001 := by omega
            simp [h1, rateB, this]
          · have h2 : ¬ (0 ≤ i ∧ i < 1000 + 1) := fun z => by simp [isBel, z] at h2; omega
            refine f_val hC rfl ⟨?_, rfl⟩
            have : ¬ (0 < i ∧ i < 1001) := by omega
            simp [h1, rateB]
            omega
        | cel i => simp [sm0] at p2
        | scr i => simp [sm0] at p2
        | ftp i => simp [sm0] at p2
        | _ =>
          walk_at "g"
          exact f_val hC rfl ⟨by rw [h1]; rfl, rfl⟩
      · walk_at "g"
        exact f_val hC rfl ⟨by rw [h1]; rfl, rfl⟩
def channelsB (n : Int) (v : D) : Bool := match seqOf v with
  | some cs => lenB 1 16 cs && cs.all (channelB n)
  | none => false
theorem are_channels (hC : Flat C) {ss : List D} (hs : SV s ss) (p : sm0 v = true) : d_are_channels [s, v] C = .ok (.bl (channelsB ss.length v)) C := by
  have h := sequence hC (sm0_p p)
  refine We.eq (w_def [some s, some v, none] rfl rfl ?_)
  unfold b_are_channels
  walk_at "g"
  cases e : seqOf v with
  | none =>
    simp only [isSeq, e, Option.isSome_none]
    walk_at "g"
    exact f_val hC rfl ⟨by simp [channelsB, e], rfl⟩
  | some vs =>
    have sv := seqOf_sv e
    have pp := sm0_seq e p
    have r : channelsB ss.length v = (decide ((1 : Int) ≤ vs.length) && decide ((vs.length : Int) ≤ 16) && vs.all (channelB ss.length)) := by simp [channelsB, e, lenB]
    rw [r]
    simp only [isSeq, e, Option.isSome_some]
    walk_at "g"
    refine w_svlen sv ?_
    walk_at "g"
    refine bt_d (fun h1 => ?_) (fun h1 => ?_)
    · walk_at "g"
      refine bt_d (fun h2 => ?_) (fun h2 => ?_)
      · walk_at "g"
        refine w_seqs sv ?_
        refine w_mapY (fun d => .bl (channelB ss.length d)) (fun d hd => We.eq ?_) ?_
        · have q := is_channel hC hs (sms_iff.mp pp.2 d hd)
          walk_at "g"
          exact ⟨rfl, rfl⟩
        refine ⟨by simpa using pp.1, ?_⟩
        walk_at "g"
        refine w_allA (f_val hC rfl ⟨by simp [h1, h2], rfl⟩)
      · walk_at "g"
        exact f_val hC rfl ⟨by simp [h2], rfl⟩
    · walk_at "g"
      exact f_val hC rfl ⟨by simp [h1], rfl⟩
/-! check_setup: the first part that is none, else what it hands back -/
def tupOf (x : D) : D := .tup ((seqOf x).getD [])
def seqs (x : D) : List D := (seqOf x).getD []
def faultOf (v : D) : Option Int := match seqOf v with
  | some [s, r, c] => if sourcesB s = true then if spanB 1 100 r = true then if channelsB (seqs s).length c = true then none else some 2 else some 1 else some 0
  | _ => some (-1)
def setupOf (v : D) : D := match seqOf v with
  | some [s, r, c] => .tup [.tup ((seqs s).map tupOf), tupOf r, .tup ((seqs c).map tupOf)]
  | _ => .non
theorem sourceB_seq {d : D} (h : sourceB d = true) : ∃ a b c e f g : Int, seqOf d = some [.int a, .int b, .int c, .int e, .int f, .int g] ∧ 1 ≤ a ∧ a ≤ b ∧ b ≤ 100 ∧ 0 ≤ c ∧ c ≤ e ∧ e ≤ 1000 ∧ 1 ≤ f ∧ f ≤ g ∧ g ≤ 1000 ∧ e - c < a * f := by
  unfold sourceB at h
  split at h
  · rename_i a b c d f g e
    simp only [Bool.and_eq_true, decide_eq_true_eq] at h
    obtain ⟨h1, h2, h3, h4⟩ := h
    obtain ⟨a, b, rfl, rfl, q1⟩ := spanB_ints h1
    obtain ⟨c, d, rfl, rfl, q2⟩ := spanB_ints h2
    obtain ⟨f, g, rfl, rfl, q3⟩ := spanB_ints h3
    exact ⟨_, _, _, _, _, _, e, q1.1, q1.2.1, q1.2.2, q2.1, q2.2.1, q2.2.2, q3.1, q3.2.1, q3.2.2, h4⟩
  · cases h
theorem channelB_seq {d : D} {n : Int} (h : channelB n d = true) : ∃ (a : Int) (b : D), seqOf d = some [.int a, b] ∧ 0 ≤ a ∧ a < n ∧ (b = .non ∨ ∃ i : Int, b = .int i ∧ 0 < i ∧ i ≤ 1000) := by
  unfold channelB at h
  split at h
  · rename_i a b e
    simp only [Bool.and_eq_true] at h
    obtain ⟨i, rfl, i0, i1⟩ := isBel_int h.1
    refine ⟨i, b, e, i0, i1, ?_⟩
    have h2 := h.2
    cases b <;> simp [rateB] at h2
    · exact .inl rfl
    · exact .inr ⟨_, rfl, h2.1, by omega⟩
  · cases h
theorem seqs_sv {x : D} {ds : List D} (h : seqOf x = some ds) : seqs x = ds := by simp [seqs, h]
theorem tup_lc {k : Nat} {ρ : Rho} {vs : List D} (hk : k < ρ.length) (h : ∀ d ∈ vs, (seqOf d).isSome = true) : lcS (tgN k) fYes (fA oTuple (aCons (fVar k) aNil)) ρ (.fix vs) C = .ok (vs.map tupOf) C := by
  refine We.eq (w_mapY tupOf (fun d hd => We.eq ?_) ⟨rfl, rfl⟩)
  have e : (ρ.set k (some d))[k]? = some (some d) := by simp [hk]
  obtain ⟨ds, es⟩ := Option.isSome_iff_exists.mp (h d hd)
  refine w_fA (w_cons (w_var e (w_nil (w_of (seqOf_sv es).tuple ⟨by simp [tupOf, es], rfl⟩))))
theorem tupOf_ok {n : Nat} {d : D} (h : ∃ ds, seqOf d = some ds ∧ pures ds = true) : celOk n (tupOf d) = true := by
  obtain ⟨ds, e, p⟩ := h
  simp only [tupOf, e, Option.getD_some, celOk]
  exact pures_ok n p
theorem tups_ok {n : Nat} {ds : List D} (h : ∀ d ∈ ds, ∃ xs, seqOf d = some xs ∧ pures xs = true) : celsOk n (ds.map tupOf) = true := by
  induction ds with
  | nil => rfl
  | cons d ds ih =>
    simp only [List.map_cons, celsOk, Bool.and_eq_true]
    exact ⟨tupOf_ok (h d (by simp)), ih fun x hx => h x (List.mem_cons_of_mem _ hx)⟩
theorem check_setup (hC : Flat C) (p : sm0 v = true) : d_check_setup [v] C = match faultOf v with
    | some k => .ex "BadSetup" (.int k) C
    | none => .ok (setupOf v) C := by
  have h := sequence hC (sm0_p p)
  refine We.eqr (w_def [some v, none, none, none, none] rfl rfl ?_)
  unfold b_check_setup
  walk_at "g"
  cases e : seqOf v with
  | none =>
    have : faultOf v = some (-1) := by simp [faultOf, e]
    rw [this]
    simp only [isSeq, e, Option.isSome_none]
    walk_at "g"
    exact f_ex hC rfl rfl
  | some vs =>
    have sv := seqOf_sv e
    have pp := sm0_seq e p
    simp only [isSeq, e, Option.isSome_some]
    walk_at "g"
    refine w_svlen sv ?_
    walk_at "g"
    refine bt_ne (fun hn => ?_) (fun hn => ?_)
    · have : faultOf v = some (-1) := by
        unfold faultOf
        rw [e]
        rcases vs with _ | ⟨a, _ | ⟨b, _ | ⟨c, _ | ⟨d, ds⟩⟩⟩⟩ <;> simp at hn <;> rfl
      rw [this]
      walk_at "g"
      exact f_ex hC rfl rfl
    · obtain ⟨s, r, c, rfl⟩ : ∃ a b c, vs = [a, b, c] := by
        rcases vs with _ | ⟨a, _ | ⟨b, _ | ⟨c, _ | ⟨d, ds⟩⟩⟩⟩ <;> simp at hn <;> first | exact ⟨_, _, _, rfl⟩ | omega
      have p3 : sm0 s = true ∧ sm0 r = true ∧ sm0 c = true := by simpa [sms] using pp.2
      have hf : faultOf v = if sourcesB s = true then if spanB 1 100 r = true then if channelsB (seqs s).length c = true then none else some 2 else some 1 else some 0 := by simp [faultOf, e]
      have i0 := sv.ix (C := C) (i := 0) (by decide) rfl
      have i1 := sv.ix (C := C) (i := 1) (by decide) rfl
      have i2 := sv.ix (C := C) (i := 2) (by decide) rfl
      have q1 := are_sources hC p3.1
      have q2 := is_span (l := 1) (m := 100) hC p3.2.1
      rw [hf]
      walk_at "g"
      refine bt_b (fun h1 => ?_) (fun h1 => ?_)
      · obtain ⟨ss, es⟩ : ∃ ss, seqOf s = some ss := by
          unfold sourcesB at h1
          split at h1
          · exact ⟨_, by assumption⟩
          · cases h1
        have hss : lenB 1 8 ss = true ∧ ∀ d ∈ ss, sourceB d = true := by simpa [sourcesB, es] using h1
        have q3 := are_channels hC (seqOf_sv es) p3.2.2
        rw [if_pos h1, seqs_sv es]
        walk_at "g"
        refine bt_b (fun h2 => ?_) (fun h2 => ?_)
        · rw [if_pos h2]
          walk_at "g"
          refine bt_b (fun h3 => ?_) (fun h3 => ?_)
          · obtain ⟨cs, ec⟩ : ∃ cs, seqOf c = some cs := by
              unfold channelsB at h3
              split at h3
              · exact ⟨_, by assumption⟩
              · cases h3
            have hcs : lenB 1 16 cs = true ∧ ∀ d ∈ cs, channelB ss.length d = true := by simpa [channelsB, ec] using h3
            obtain ⟨rr, er⟩ : ∃ rr, seqOf r = some rr := by
              unfold spanB at h2
              split at h2
              · exact ⟨_, by assumption⟩
              · cases h2
            have hsu : setupOf v = .tup [.tup (ss.map tupOf), tupOf r, .tup (cs.map tupOf)] := by simp [setupOf, e, seqs, es, ec]
            rw [if_pos h3, hsu]
            have ls := sm0_seq es p3.1
            have lc := sm0_seq ec p3.2.2
            have lr := sm0_seq er p3.2.1
            walk_at "g"
            have tg : tgT 3 (tgCons (tgN 1) (tgCons (tgN 2) (tgCons (tgN 3) tgNil))) v [some v, none, none, none, none] = some [some v, some s, some r, some c, none] := by rcases sv with rfl | rfl <;> rfl
            refine ⟨_, tg, ?_⟩
            walk_at "g"
            refine w_seqs (seqOf_sv es) ?_
            refine w_of (tup_lc (by simp) fun d hd => ?_) ?_
            · obtain ⟨_, _, _, _, _, _, e2, _⟩ := sourceB_seq (hss.2 d hd)
              rw [e2]; rfl
            refine ⟨by simpa using ls.1, ?_⟩
            walk_at "g"
            refine w_of (seqOf_sv er).tuple ?_
            walk_at "g"
            refine w_seqs (seqOf_sv ec) ?_
            refine w_of (tup_lc (by simp) fun d hd => ?_) ?_
            · obtain ⟨_, _, e2, _⟩ := channelB_seq (hcs.2 d hd)
              rw [e2]; rfl
            refine ⟨by simpa using lc.1, ?_⟩
            walk_at "g"
            refine f_val hC ?_ (by simp [tupOf, er])
            have a1 : celsOk C.length (ss.map tupOf) = true := tups_ok fun d hd => by
              obtain ⟨_, _, _, _, _, _, e2, _⟩ := sourceB_seq (hss.2 d hd)
              exact ⟨_, e2, rfl⟩
            have a2 : celsOk C.length (cs.map tupOf) = true := tups_ok fun d hd => by
              obtain ⟨_, b, e2, _, _, hb⟩ := channelB_seq (hcs.2 d hd)
              refine ⟨_, e2, ?_⟩
              rcases hb with rfl | ⟨i, rfl, _⟩ <;> rfl
            have a3 : celsOk C.length rr = true := pures_ok _ (sms_p lr.2)
            simp [celOk, celsOk, a1, a2, a3]
          · rw [if_neg (by rw [h3]; simp)]
            walk_at "g"
            exact f_ex hC rfl rfl
        · rw [if_neg (by rw [h2]; simp)]
          walk_at "g"
          exact f_ex hC rfl rfl
      · rw [if_neg (by rw [h1]; simp)]
        walk_at "g"
        exact f_ex hC rfl rfl
end
end WR
namespace WR
open PySem PySem.Spec L2 BV
local macro_rules | `(tactic| walk_at "n") => `(tactic| dsimp only [List.set_cons_succ, List.set_cons_zero])
local macro_rules | `(tactic| walk_at "w") => `(tactic| first
  | ((with_reducible refine o_seq ?_); try walk_at "n")
  | ((with_reducible refine o_set ?_); try walk_at "n")
  | ((with_reducible apply w_var); (focus rfl))
  | (with_reducible refine w_c ?_)
  | (with_reducible refine w_f2 ?_)
  | (with_reducible refine w_fA ?_)
  | (with_reducible refine w_cons ?_)
  | (with_reducible refine w_nil ?_)
  | (with_reducible refine w_f1 ?_)
  | ((with_reducible refine w_call ?_ ?_); (focus rfl))
  | ((with_reducible refine o_if ?_); try walk_at "n")
  | ((with_reducible refine o_ret ?_); try dsimp only [rxP, rtP, List.set_cons_succ, List.set_cons_zero])
  | ((with_reducible refine o_expr ?_); try walk_at "n")
  | ((with_reducible refine o_raise ?_); try dsimp only [rxP, rtP, List.set_cons_succ, List.set_cons_zero])
  | ((with_reducible refine o_for ?_); try walk_at "n")
  | ((with_reducible refine o_asg ?_); try walk_at "n")
  | ((with_reducible refine o_par ?_); try walk_at "n")
  | ((with_reducible refine o_par3 ?_); try walk_at "n")
  | ((with_reducible refine o_sto ?_); try walk_at "n")
  | ((with_reducible apply o_aug); (focus rfl); try walk_at "n")
  | ((with_reducible refine o_nil ?_); try walk_at "n")
  | ((with_reducible refine o_retN ?_); try dsimp only [rxP, rtP, List.set_cons_succ, List.set_cons_zero])
  | ((with_reducible refine o_bk ?_); try dsimp only [rxP, rtP, List.set_cons_succ, List.set_cons_zero])
  | ((with_reducible refine o_ct ?_); try dsimp only [rxP, rtP, List.set_cons_succ, List.set_cons_zero])
  | (with_reducible refine w_and ?_)
  | (with_reducible refine w_or ?_)
  | (with_reducible refine w_not ?_)
  | (with_reducible refine w_chain ?_)
  | (with_reducible refine w_chain3 ?_)
  | (with_reducible refine w_yes ?_)
  | (with_reducible refine x_two ?_)
  | (with_reducible refine x_three ?_)
  | ((with_reducible refine x_rg ?_ ?_); (focus (first | omega | (simp only [List.length_map]; omega))))
  | ((with_reducible refine x_rg2 ?_ ?_); (focus (first | omega | (simp only [List.length_map]; omega))))
  | (with_reducible refine x_int ?_)
  | ((with_reducible refine x_tg (tgT2 _) ?_); try walk_at "n")
  | ((with_reducible refine x_tg (tgT3 _) ?_); try walk_at "n")
  | (with_reducible apply w_lenC0; (focus assumption))
  | (with_reducible apply w_tupC0; (focus assumption))
  | (with_reducible apply w_slC0; (focus assumption))
  | (with_reducible apply w_srcC0; (focus assumption))
  | (with_reducible apply x_asL; (focus assumption))
  | (with_reducible apply w_mkD; (focus assumption))
  | (with_reducible apply w_mkD1; (focus assumption))
  | (with_reducible apply w_lenC1; (focus assumption))
  | (with_reducible apply w_tupC1; (focus assumption))
  | (with_reducible apply w_slC1; (focus assumption))
  | (with_reducible apply x_asL1; (focus assumption))
  | (with_reducible refine w_fK0 ?_)
  | (with_reducible refine w_fAK ?_)
  | ((with_reducible apply w_callK0); (focus rfl); (focus (simp only [permL, List.filterMap_cons, List.filterMap_nil, List.getElem?_cons_zero, List.getElem?_cons_succ]; rfl)); (focus rfl))
  | ((with_reducible apply w_callK); (focus rfl); (focus rfl); (focus (simp only [permL, List.cons_append, List.nil_append, List.filterMap_cons, List.filterMap_nil, List.getElem?_cons_zero, List.getElem?_cons_succ]; rfl)); (focus rfl))
  | (with_reducible refine w_mt1 ?_)
  | (with_reducible refine w_sl ?_)
  | (with_reducible refine w_pNo ?_)
  | (with_reducible refine w_pSo ?_)
  | (with_reducible refine w_lc ?_)
  | (with_reducible refine w_src ?_)
  | (with_reducible refine w_srcL ?_)
  | (with_reducible refine w_srcT ?_)
  | (with_reducible refine w_rg1 ?_)
  | (with_reducible refine w_rg2 ?_)
  | (with_reducible refine w_add ?_)
  | (with_reducible refine w_sub ?_)
  | (with_reducible refine w_cmp ?_)
  | (with_reducible refine w_eqi ?_)
  | (with_reducible refine w_nei ?_)
  | (with_reducible refine w_eqs ?_)
  | (with_reducible refine w_nes ?_)
  | (with_reducible refine w_isN ?_)
  | (with_reducible refine w_isNn ?_)
  | (with_reducible refine w_isB ?_)
  | (with_reducible refine w_isBn ?_)
  | (with_reducible refine w_int ?_)
  | (with_reducible refine w_abs ?_)
  | (with_reducible refine w_max ?_)
  | (with_reducible refine w_min ?_)
  | (with_reducible refine w_neg ?_)
  | (with_reducible refine w_mkf ?_)
  | (with_reducible refine w_lenT ?_)
  | (with_reducible refine w_lenL ?_)
  | (with_reducible refine w_lenS ?_)
  | (with_reducible refine w_tupT ?_)
  | (with_reducible refine w_tupL ?_)
  | (with_reducible refine w_slT ?_)
  | (with_reducible refine w_slL ?_)
  | (with_reducible refine w_ix0 ?_)
  | (with_reducible refine w_ix1 ?_)
  | (with_reducible refine w_ix2 ?_)
  | (with_reducible refine w_ix3 ?_)
  | (with_reducible refine w_ixl0 ?_)
  | (with_reducible refine w_ixl1 ?_)
  | (with_reducible refine w_ixl2 ?_)
  | ((with_reducible refine w_lst ?_ ?_); (focus exact Nat.le_of_ble_eq_true rfl))
  | ((with_reducible refine w_tup ?_ ?_); (focus exact Nat.le_of_ble_eq_true rfl))
  | ((with_reducible refine w_mul ?_ ?_); (focus exact cmul_of (by omega)))
  | ((with_reducible refine w_mod ?_ ?_); (focus omega))
  | ((with_reducible refine w_fdiv ?_ ?_); (focus exact And.intro (by omega) (by omega)))
  | (with_reducible refine w_p9 ?_)
  | ((with_reducible refine w_pow ?_ ?_); (focus decide))
  | ((with_reducible apply w_isi); (focus rfl))
  | (with_reducible refine bt_t ?_)
  | (with_reducible refine bt_f ?_)
  | ((with_reducible refine bt_yes ?_ ?_); (focus rfl))
  | ((with_reducible refine bt_nno ?_ ?_); (focus rfl))
  | ((with_reducible refine bt_is ?_ ?_); (focus rfl))
  | ((with_reducible refine bt_isn ?_ ?_); (focus rfl))
  | ((with_reducible refine bt_yes ?_ ?_); (focus omega))
  | ((with_reducible refine bt_no ?_ ?_); (focus omega))
  | ((with_reducible refine bt_eyes ?_ ?_); (focus omega))
  | ((with_reducible refine bt_eno ?_ ?_); (focus omega))
  | ((with_reducible refine bt_neyes ?_ ?_); (focus omega))
  | ((with_reducible refine bt_neno ?_ ?_); (focus omega))
  | (with_reducible apply w_of; (focus assumption)))
local macro_rules | `(tactic| walk_at "g") => `(tactic| repeat walk_at "w")
/-! ### setups as data -/
structure Src where
  (low high least most gap pause : Int)
structure Src.Ok (s : Src) : Prop where
  a0 : 1 ≤ s.low
  a1 : s.low ≤ s.high
  a2 : s.high ≤ 100
  b0 : 0 ≤ s.least
  b1 : s.least ≤ s.most
  b2 : s.most ≤ 1000
  c0 : 1 ≤ s.gap
  c1 : s.gap ≤ s.pause
  c2 : s.pause ≤ 1000
  w : s.most - s.least < s.low * s.gap
abbrev sIts (s : Src) : List D := [.int s.low, .int s.high, .int s.least, .int s.most, .int s.gap, .int s.pause]
abbrev sD (s : Src) : D := .tup (sIts s)
abbrev sL (s : Src) : D := .lst (sIts s)
abbrev Ch := Int × Option Int
abbrev oD : Option Int → D
  | none => .non
  | some i => .int i
abbrev cD (c : Ch) : D := .tup [.int c.1, oD c.2]
abbrev cL (c : Ch) : D := .lst [.int c.1, oD c.2]
structure Setup where
  S : List Src
  (a b : Int)
  K : List Ch
structure Setup.Ok (u : Setup) : Prop where
  l0 : 1 ≤ u.S.length
  l1 : u.S.length ≤ 8
  s : ∀ s ∈ u.S, s.Ok
  a0 : 1 ≤ u.a
  a1 : u.a ≤ u.b
  a2 : u.b ≤ 100
  k0 : 1 ≤ u.K.length
  k1 : u.K.length ≤ 16
  k : ∀ c ∈ u.K, 0 ≤ c.1 ∧ c.1 < u.S.length ∧ ∀ i, c.2 = some i → 1 ≤ i ∧ i ≤ 1000
abbrev setT (u : Setup) : D := .tup [.tup (u.S.map sD), .tup [.int u.a, .int u.b], .tup (u.K.map cD)]
abbrev setL (u : Setup) : D := .lst [.lst (u.S.map sL), .lst [.int u.a, .int u.b], .lst (u.K.map cL)]
theorem src_b {s : Src} (h : s.Ok) {x : D} (hx : SV x (sIts s)) : sourceB x = true := by
  unfold sourceB
  rw [hx.seqOf]
  have w := h.w
  simp [spanB, seqOf, iOf, h.a0, h.a1, h.a2, h.b0, h.b1, h.b2, h.c0, h.c1, h.c2, w]
theorem ch_b {n : Int} {c : Ch} (h0 : 0 ≤ c.1) (h1 : c.1 < n) (h2 : ∀ i, c.2 = some i → 1 ≤ i ∧ i ≤ 1000) {x : D} (hx : SV x [.int c.1, oD c.2]) : channelB n x = true := by
  unfold channelB
  rw [hx.seqOf]
  cases e : c.2 with
  | none => simp [isBel, h0, h1, rateB]
  | some i =>
    have := h2 i e
    simp [isBel, h0, h1, rateB]
    omega
theorem fault_of {u : Setup} (h : u.Ok) {fs : Src → D} {fc : Ch → D} (hs : ∀ s, SV (fs s) (sIts s)) (hc : ∀ c, SV (fc c) [.int c.1, oD c.2]) {v s r c : D} (hv : SV v [s, r, c]) (h1 : SV s (u.S.map fs)) (h2 : SV r [.int u.a, .int u.b]) (h3 : SV c (u.K.map fc)) :
    faultOf v = none ∧ setupOf v = setT u := by
  have l0 := h.l0; have l1 := h.l1; have k0 := h.k0; have k1 := h.k1; have a0 := h.a0; have a1 := h.a1; have a2 := h.a2
  have b1 : sourcesB s = true := by
    have e1 : (1 : Int) ≤ u.S.length := by omega
    have e2 : (u.S.length : Int) ≤ 8 := by omega
    simp only [sourcesB, h1.seqOf, lenB, List.length_map, e1, e2, decide_true, Bool.true_and, List.all_map, List.all_eq_true]
    exact fun x hx => src_b (h.s x hx) (hs x)
  have b2 : spanB 1 100 r = true := by simp [spanB, h2.seqOf, a0, a1, a2]
  have b3 : channelsB (seqs s).length c = true := by
    have e1 : (1 : Int) ≤ u.K.length := by omega
    have e2 : (u.K.length : Int) ≤ 16 := by omega
    simp only [channelsB, h3.seqOf, lenB, List.length_map, e1, e2, decide_true, Bool.true_and, List.all_map, List.all_eq_true]
    intro x hx
    obtain ⟨q0, q1, q2⟩ := h.k x hx
    refine ch_b q0 ?_ q2 (hc x)
    rw [seqs_sv h1.seqOf, List.length_map]
    exact q1
  constructor
  · simp [faultOf, hv.seqOf, b1, b2, b3]
  · have t1 : ∀ s, tupOf (fs s) = sD s := fun s => by simp [tupOf, (hs s).seqOf]
    have t2 : ∀ c, tupOf (fc c) = cD c := fun c => by simp [tupOf, (hc c).seqOf]
    simp [setupOf, hv.seqOf, seqs, h1.seqOf, h3.seqOf, tupOf, h2.seqOf]
    constructor
    · intro a ha; simpa [tupOf] using t1 a
    · intro a b ha; simpa [tupOf] using t2 (a, b)
theorem setT_ok {u : Setup} (h : u.Ok) : faultOf (setT u) = none ∧ setupOf (setT u) = setT u := fault_of h (fs := sD) (fc := cD) (fun _ => .inl rfl) (fun _ => .inl rfl) (.inl rfl) (.inl rfl) (.inl rfl) (.inl rfl)
theorem setL_ok {u : Setup} (h : u.Ok) : faultOf (setL u) = none ∧ setupOf (setL u) = setT u := fault_of h (fs := sL) (fc := cL) (fun _ => .inr rfl) (fun _ => .inr rfl) (.inr rfl) (.inr rfl) (.inr rfl) (.inr rfl)
theorem o_sm (o : Option Int) : sm0 (oD o) = true := by cases o <;> rfl
theorem maps_sm {α : Type} (f : α → D) (hf : ∀ a, sm0 (f a) = true) (L : List α) : sms (L.map f) = true := sms_iff.mpr fun d hd => by
  obtain ⟨a, _, rfl⟩ := List.mem_map.mp hd
  exact hf a
theorem setT_sm {u : Setup} (h : u.Ok) : sm0 (setT u) = true := by
  have l1 := h.l1; have k1 := h.k1
  have a1 := maps_sm sD (fun _ => by simp [sm0, sms]) u.S
  have a2 := maps_sm cD (fun c => by simp [sm0, sms, o_sm]) u.K
  have e1 : u.S.length ≤ 100000 := by omega
  have e2 : u.K.length ≤ 100000 := by omega
  simp [sm0, sms, a1, a2, e1, e2]
theorem setL_sm {u : Setup} (h : u.Ok) : sm0 (setL u) = true := by
  have l1 := h.l1; have k1 := h.k1
  have a1 := maps_sm sL (fun _ => by simp [sm0, sms]) u.S
  have a2 := maps_sm cL (fun c => by simp [sm0, sms, o_sm]) u.K
  have e1 : u.S.length ≤ 100000 := by omega
  have e2 : u.K.length ≤ 100000 := by omega
  simp [sm0, sms, a1, a2, e1, e2]
/-- a value that is taken for a setup -/
structure IsSet (u : Setup) (v : D) : Prop where
  ok : u.Ok
  sm : sm0 v = true
  no : faultOf v = none
  is : setupOf v = setT u
theorem Setup.Ok.T {u : Setup} (h : u.Ok) : IsSet u (setT u) := ⟨h, setT_sm h, (setT_ok h).1, (setT_ok h).2⟩
theorem Setup.Ok.L {u : Setup} (h : u.Ok) : IsSet u (setL u) := ⟨h, setL_sm h, (setL_ok h).1, (setL_ok h).2⟩
theorem IsSet.check {C : Cells} {u : Setup} {v : D} (h : IsSet u v) (hC : Flat C) : d_check_setup [v] C = .ok (setT u) C := by rw [check_setup hC h.sm, h.no, h.is]
end WR
namespace WR
open PySem PySem.Spec L2 BV
local macro_rules | `(tactic| walk_at "n") => `(tactic| dsimp only [List.set_cons_succ, List.set_cons_zero])
local macro_rules | `(tactic| walk_at "w") => `(tactic| first
  | ((with_reducible refine o_seq ?_); try walk_at "n")
  | ((with_reducible refine o_set ?_); try walk_at "n")
  | ((with_reducible apply w_var); (focus rfl))
  | (with_reducible refine w_c ?_)
  | (with_reducible refine w_f2 ?_)
  | (with_reducible refine w_fA ?_)
  | (with_reducible refine w_cons ?_)
  | (with_reducible refine w_nil ?_)
  | (with_reducible refine w_f1 ?_)
  | ((with_reducible refine w_call ?_ ?_); (focus rfl))
  | ((with_reducible refine o_if ?_); try walk_at "n")
  | ((with_reducible refine o_ret ?_); try dsimp only [rxP, rtP, List.set_cons_succ, List.set_cons_zero])
  | ((with_reducible refine o_expr ?_); try walk_at "n")
  | ((with_reducible refine o_raise ?_); try dsimp only [rxP, rtP, List.set_cons_succ, List.set_cons_zero])
  | ((with_reducible refine o_for ?_); try walk_at "n")
  | ((with_reducible refine o_asg ?_); try walk_at "n")
  | ((with_reducible refine o_par ?_); try walk_at "n")
  | ((with_reducible refine o_par3 ?_); try walk_at "n")
  | ((with_reducible refine o_sto ?_); try walk_at "n")
  | ((with_reducible apply o_aug); (focus rfl); try walk_at "n")
  | ((with_reducible refine o_nil ?_); try walk_at "n")
  | ((with_reducible refine o_retN ?_); try dsimp only [rxP, rtP, List.set_cons_succ, List.set_cons_zero])
  | ((with_reducible refine o_bk ?_); try dsimp only [rxP, rtP, List.set_cons_succ, List.set_cons_zero])
  | ((with_reducible refine o_ct ?_); try dsimp only [rxP, rtP, List.set_cons_succ, List.set_cons_zero])
  | (with_reducible refine w_and ?_)
  | (with_reducible refine w_or ?_)
  | (with_reducible refine w_not ?_)
  | (with_reducible refine w_chain ?_)
  | (with_reducible refine w_chain3 ?_)
  | (with_reducible refine w_yes ?_)
  | (with_reducible refine x_two ?_)
  | (with_reducible refine x_three ?_)
  | ((with_reducible refine x_rg ?_ ?_); (focus (first | omega | (simp only [List.length_map]; omega))))
  | ((with_reducible refine x_rg2 ?_ ?_); (focus (first | omega | (simp only [List.length_map]; omega))))
  | (with_reducible refine x_int ?_)
  | ((with_reducible refine x_tg (tgT2 _) ?_); try walk_at "n")
  | ((with_reducible refine x_tg (tgT3 _) ?_); try walk_at "n")
  | (with_reducible apply w_lenC0; (focus assumption))
  | (with_reducible apply w_tupC0; (focus assumption))
  | (with_reducible apply w_slC0; (focus assumption))
  | (with_reducible apply w_srcC0; (focus assumption))
  | (with_reducible apply x_asL; (focus assumption))
  | (with_reducible apply w_mkD; (focus assumption))
  | (with_reducible apply w_mkD1; (focus assumption))
  | (with_reducible apply w_lenC1; (focus assumption))
  | (with_reducible apply w_tupC1; (focus assumption))
  | (with_reducible apply w_slC1; (focus assumption))
  | (with_reducible apply x_asL1; (focus assumption))
  | (with_reducible refine w_fK0 ?_)
  | (with_reducible refine w_fAK ?_)
  | ((with_reducible apply w_callK0); (focus rfl); (focus (simp only [permL, List.filterMap_cons, List.filterMap_nil, List.getElem?_cons_zero, List.getElem?_cons_succ]; rfl)); (focus rfl))
  | ((with_reducible apply w_callK); (focus rfl); (focus rfl); (focus (simp only [permL, List.cons_append, List.nil_append, List.filterMap_cons, List.filterMap_nil, List.getElem?_cons_zero, List.getElem?_cons_succ]; rfl)); (focus rfl))
  | (with_reducible refine w_mt1 ?_)
  | (with_reducible refine w_sl ?_)
  | (with_reducible refine w_pNo ?_)
  | (with_reducible refine w_pSo ?_)
  | (with_reducible refine w_lc ?_)
  | (with_reducible refine w_src ?_)
  | (with_reducible refine w_srcL ?_)
  | (with_reducible refine w_srcT ?_)
  | (with_reducible refine w_rg1 ?_)
  | (with_reducible refine w_rg2 ?_)
  | (with_reducible refine w_add ?_)
  | (with_reducible refine w_sub ?_)
  | (with_reducible refine w_cmp ?_)
  | (with_reducible refine w_eqi ?_)
  | (with_reducible refine w_nei ?_)
  | (with_reducible refine w_eqs ?_)
  | (with_reducible refine w_nes ?_)
  | (with_reducible refine w_isN ?_)
  | (with_reducible refine w_isNn ?_)
  | (with_reducible refine w_isB ?_)
  | (with_reducible refine w_isBn ?_)
  | (with_reducible refine w_int ?_)
  | (with_reducible refine w_abs ?_)
  | (with_reducible refine w_max ?_)
  | (with_reducible refine w_min ?_)
  | (with_reducible refine w_neg ?_)
  | (with_reducible refine w_mkf ?_)
  | (with_reducible refine w_lenT ?_)
  | (with_reducible refine w_lenL ?_)
  | (with_reducible refine w_lenS ?_)
  | (with_reducible refine w_tupT ?_)
  | (with_reducible refine w_tupL ?_)
  | (with_reducible refine w_slT ?_)
  | (with_reducible refine w_slL ?_)
  | (with_reducible refine w_ix0 ?_)
  | (with_reducible refine w_ix1 ?_)
  | (with_reducible refine w_ix2 ?_)
  | (with_reducible refine w_ix3 ?_)
  | (with_reducible refine w_ixl0 ?_)
  | (with_reducible refine w_ixl1 ?_)
  | (with_reducible refine w_ixl2 ?_)
  | ((with_reducible refine w_lst ?_ ?_); (focus exact Nat.le_of_ble_eq_true rfl))
  | ((with_reducible refine w_tup ?_ ?_); (focus exact Nat.le_of_ble_eq_true rfl))
  | ((with_reducible refine w_mul ?_ ?_); (focus exact cmul_of (by omega)))
  | ((with_reducible refine w_mod ?_ ?_); (focus omega))
  | ((with_reducible refine w_fdiv ?_ ?_); (focus exact And.intro (by omega) (by omega)))
  | (with_reducible refine w_p9 ?_)
  | ((with_reducible refine w_pow ?_ ?_); (focus decide))
  | ((with_reducible apply w_isi); (focus rfl))
  | (with_reducible refine bt_t ?_)
  | (with_reducible refine bt_f ?_)
  | ((with_reducible refine bt_yes ?_ ?_); (focus rfl))
  | ((with_reducible refine bt_nno ?_ ?_); (focus rfl))
  | ((with_reducible refine bt_is ?_ ?_); (focus rfl))
  | ((with_reducible refine bt_isn ?_ ?_); (focus rfl))
  | ((with_reducible refine bt_yes ?_ ?_); (focus omega))
  | ((with_reducible refine bt_no ?_ ?_); (focus omega))
  | ((with_reducible refine bt_eyes ?_ ?_); (focus omega))
  | ((with_reducible refine bt_eno ?_ ?_); (focus omega))
  | ((with_reducible refine bt_neyes ?_ ?_); (focus omega))
  | ((with_reducible refine bt_neno ?_ ?_); (focus omega))
  | (with_reducible apply w_of; (focus assumption)))
local macro_rules | `(tactic| walk_at "g") => `(tactic| repeat walk_at "w")
/-! ### budget.py -/
section
variable {C : Cells} {u : Setup} {v x y : D} {s : Src} {t m : Int}
theorem pos_mul {a b : Int} (ha : 1 ≤ a) (hb : 1 ≤ b) : 1 ≤ a * b := by
  have := Int.mul_le_mul ha hb (by decide) (by omega)
  omega
theorem mul_bd {a b A B : Int} (ha : 1 ≤ a) (hb : 1 ≤ b) (h1 : a ≤ A) (h2 : b ≤ B) : a * b ≤ A * B := Int.mul_le_mul h1 h2 (by omega) (by omega)
theorem frame (hC : Flat C) (h : s.Ok) : d_frame_ticks [sD s] C = .ok (.int (s.low * s.gap)) C := by
  have := h.a0; have := h.a1; have := h.a2
  refine We.eq (w_def [some (sD s)] rfl rfl ?_)
  unfold b_frame_ticks
  walk_at "g"
  have i4 : ixD (sD s) (.int 4) C = .ok (.int s.gap) C := SV.ix (.inl rfl) (by decide) rfl
  walk_at "g"
  exact f_val hC rfl ⟨rfl, rfl⟩
def mostOf (s : Src) (t : Int) : Int := (t + s.most - s.least) / (s.low * s.gap) + 1
theorem most_of (hC : Flat C) (h : s.Ok) (ht : 0 ≤ t) : d_most_of [sD s, .int t] C = .ok (.int (mostOf s t)) C := by
  have a0 := h.a0; have a1 := h.a1; have a2 := h.a2; have c0 := h.c0; have c1 := h.c1; have c2 := h.c2
  have q1 := pos_mul a0 c0
  have q2 : s.low * s.gap ≤ 100 * 1000 := mul_bd a0 c0 (by omega) (by omega)
  have f := frame hC h
  refine We.eq (w_def [some (sD s), some (.int t), none, none, none, none, none, none] rfl rfl ?_)
  unfold b_most_of
  walk_at "g"
  refine ⟨_, rfl, ?_⟩
  walk_at "g"
  exact f_val hC rfl ⟨rfl, rfl⟩
def mostRows (S : List Src) (t : Int) : Int := (S.map fun s => mostOf s t).sum
theorem IsSet.fine (h : IsSet u v) (hC : Flat C) (ha : u.a = 1) : d_check_fine [v] C = .ok (setT u) C := by
  have c := h.check hC
  refine We.eq (w_def [some v, none] rfl rfl ?_)
  unfold b_check_fine
  walk_at "g"
  refine f_val hC (pure0_ok _ (sm0_p (setT_sm h.ok))) ⟨rfl, rfl⟩
theorem IsSet.slow (h : IsSet u v) (hC : Flat C) (ha : u.a ≠ 1) : d_check_fine [v] C = .ex "Refused" v C := by
  have c := h.check hC
  refine We.eqx (w_def [some v, none] rfl rfl ?_)
  unfold b_check_fine
  walk_at "g"
  exact f_ex hC (pure0_ok _ (sm0_p h.sm)) ⟨rfl, rfl, rfl⟩
theorem fine_x (hC : Flat C) (p : sm0 v = true) {k : Int} (h : faultOf v = some k) : d_check_fine [v] C = .ex "BadSetup" (.int k) C := by
  have c : d_check_setup [v] C = .ex "BadSetup" (.int k) C := by rw [check_setup hC p, h]
  refine We.eqx (w_def [some v, none] rfl rfl ?_)
  unfold b_check_fine
  walk_at "g"
  exact w_exr c (f_ex hC rfl ⟨rfl, rfl, rfl⟩)
theorem most_rows (h : IsSet u v) (hC : Flat C) (ha : u.a = 1) (ht : 0 ≤ t) : d_most_rows [v, .int t] C = .ok (.int (mostRows u.S t)) C := by
  have c := h.fine hC ha
  have n := number hC (x := .int t) rfl
  have l1 := h.ok.l1
  refine We.eq (w_def [some v, some (.int t), none, none] rfl rfl ?_)
  unfold b_most_rows
  walk_at "g"
  refine bt_b (fun _ => ?_) (fun z => by simp [isNum] at z; omega)
  walk_at "g"
  refine w_mapA (fun s => .int (mostOf s t)) _ (fun _ _ => rfl) (fun s hs => We.eq ?_) ?_
  · have q := most_of hC (h.ok.s s hs) ht
    walk_at "g"
    exact ⟨rfl, rfl⟩
  refine ⟨by rw [List.length_map]; omega, ?_⟩
  walk_at "g"
  exact w_sumA (f_val hC rfl ⟨rfl, rfl⟩)
theorem most_rows_x (h : IsSet u v) (hC : Flat C) (ha : u.a = 1) (p : pure0 x = true) (hx : isNum x = false) : d_most_rows [v, x] C = .ex "Refused" x C := by
  have c := h.fine hC ha
  have n := number hC p
  refine We.eqx (w_def [some v, some x, none, none] rfl rfl ?_)
  unfold b_most_rows
  walk_at "g"
  rw [hx]
  walk_at "g"
  exact f_ex hC (pure0_ok _ p) ⟨rfl, rfl, rfl⟩
theorem most_rows_v {c : Str} (hC : Flat C) (hv : celOk C.length y = true) (h : d_check_fine [v] C = .ex c y C) : d_most_rows [v, x] C = .ex c y C := by
  refine We.eqx (w_def [some v, some x, none, none] rfl rfl ?_)
  unfold b_most_rows
  walk_at "g"
  exact w_exr h (f_ex hC hv ⟨rfl, rfl, rfl⟩)
theorem need_count (hC : Flat C) (h0 : 1 ≤ m) (h1 : m ≤ 200) : d_need_row_count [.int m] C = .ok (.int m) C := by
  have b := below (m := 200 + 1) hC (x := .int m) rfl
  refine We.eq (w_def [some (.int m)] rfl rfl ?_)
  unfold b_need_row_count
  walk_at "g"
  refine bt_b (fun _ => ?_) (fun z => by simp [isBel] at z; omega)
  walk_at "g"
  exact f_val hC rfl ⟨rfl, rfl⟩
def cntB : D → Bool
  | .int i => decide (1 ≤ i) && decide (i ≤ 200)
  | _ => false
theorem need_count_x (hC : Flat C) (p : pure0 x = true) (h : cntB x = false) : d_need_row_count [x] C = .ex "Refused" x C := by
  have b := below (m := 200 + 1) hC p
  refine We.eqx (w_def [some x] rfl rfl ?_)
  unfold b_need_row_count
  walk_at "g"
  refine bt_b (fun z => ?_) (fun z => ?_)
  · obtain ⟨i, rfl, i0, i1⟩ := isBel_int z
    have : ¬ (1 ≤ i ∧ i ≤ 200) := fun z => by simp [cntB] at h; omega
    walk_at "g"
    exact f_ex hC rfl ⟨rfl, rfl, rfl⟩
  · walk_at "g"
    exact f_ex hC (pure0_ok _ p) ⟨rfl, rfl, rfl⟩
/-! the least ticks -/
theorem mostOf_up (h : s.Ok) {a b : Int} (hab : a ≤ b) : mostOf s a ≤ mostOf s b := by
  have q := pos_mul h.a0 h.c0
  have := Int.ediv_le_ediv (c := s.low * s.gap) (by omega) (show a + s.most - s.least ≤ b + s.most - s.least by omega)
  unfold mostOf
  omega
theorem mostOf_pos (h : s.Ok) {t : Int} (ht : 0 ≤ t) : 1 ≤ mostOf s t := by
  have q := pos_mul h.a0 h.c0
  have := h.b1
  have := Int.ediv_nonneg (show 0 ≤ t + s.most - s.least by omega) (show 0 ≤ s.low * s.gap by omega)
  unfold mostOf
  omega
theorem sum_up {α : Type} {f g : α → Int} : ∀ {L : List α}, (∀ a ∈ L, f a ≤ g a) → (L.map f).sum ≤ (L.map g).sum
  | [], _ => Int.le_refl _
  | a :: L, h => by
    have := sum_up (L := L) fun b hb => h b (List.mem_cons_of_mem _ hb)
    have := h a (by simp)
    simp only [List.map_cons, List.sum_cons]
    omega
theorem sum_one {α : Type} {f : α → Int} : ∀ {L : List α} {a : α}, a ∈ L → (∀ a ∈ L, 0 ≤ f a) → f a ≤ (L.map f).sum
  | b :: L, a, h, h0 => by
    have hs : ∀ {L : List α}, (∀ a ∈ L, 0 ≤ f a) → 0 ≤ (L.map f).sum := fun {L} => by
      induction L with
      | nil => intro _; exact Int.le_refl _
      | cons c L ih =>
        intro h
        have := ih fun a ha => h a (List.mem_cons_of_mem _ ha)
        have := h c (by simp)
        simp only [List.map_cons, List.sum_cons]
        omega
    simp only [List.map_cons, List.sum_cons]
    rcases List.mem_cons.mp h with e | h
    · have := hs fun a ha => h0 a (List.mem_cons_of_mem _ ha)
      rw [e]; omega
    · have := sum_one h fun a ha => h0 a (List.mem_cons_of_mem _ ha)
      have := h0 b (by simp)
      omega
theorem mostRows_up (h : ∀ s ∈ u.S, s.Ok) {a b : Int} (hab : a ≤ b) : mostRows u.S a ≤ mostRows u.S b := sum_up fun s hs => mostOf_up (h s hs) hab
theorem mostRows_far (h : ∀ s ∈ u.S, s.Ok) (hs : s ∈ u.S) (hm : 0 ≤ m) : m ≤ mostRows u.S (m * (s.low * s.gap)) := by
  have ok := h s hs
  have q := pos_mul ok.a0 ok.c0
  have nn : 0 ≤ m * (s.low * s.gap) := Int.mul_nonneg hm (by omega)
  have one := sum_one (f := fun s => mostOf s (m * (s.low * s.gap))) hs
  have h1 : m ≤ mostOf s (m * (s.low * s.gap)) := by
    have := ok.b1
    have e : m * (s.low * s.gap) / (s.low * s.gap) = m := Int.mul_ediv_cancel _ (by omega)
    have := Int.ediv_le_ediv (c := s.low * s.gap) (by omega) (show m * (s.low * s.gap) ≤ m * (s.low * s.gap) + s.most - s.least by omega)
    unfold mostOf
    omega
  have h2 := sum_one (L := u.S) (f := fun z => mostOf z (m * (s.low * s.gap))) hs fun z hz => by
    have := mostOf_pos (h z hz) nn
    omega
  exact Int.le_trans h1 h2
/-- the first at which so many go in -/
def Least (S : List Src) (m t : Int) : Prop := 0 ≤ t ∧ m ≤ mostRows S t ∧ ∀ a, 0 ≤ a → a < t → mostRows S a < m
theorem Least.one {S : List Src} {a b : Int} (h : Least S m a) (g : Least S m b) : a = b := by
  rcases Int.lt_trichotomy a b with z | z | z
  · have := g.2.2 a h.1 z
    have := h.2.1
    omega
  · exact z
  · have := h.2.2 b g.1 z
    have := g.2.1
    omega
theorem least_ticks (h : IsSet u v) (hC : Flat C) (ha : u.a = 1) (h0 : 1 ≤ m) (h1 : m ≤ 200) : ∃ t, d_least_ticks [v, .int m] C = .ok (.int t) C ∧ Least u.S m t := by
  suffices w : We NX (fun d C' => C' = C ∧ ∃ t, d = .int t ∧ Least u.S m t) (d_least_ticks [v, .int m] C) by
    obtain ⟨d, C', e, rfl, t, rfl, q⟩ := w.ex
    exact ⟨t, e, q⟩
  have c := h.fine hC ha
  have nc := need_count hC h0 h1
  have l1 := h.ok.l1
  have l0 := h.ok.l0
  refine w_def [some v, some (.int m), none, none, none, none, none] rfl rfl ?_
  unfold b_least_ticks
  walk_at "g"
  refine w_mapA (fun s => .int (s.low * s.gap)) _ (fun _ _ => rfl) (fun s hs => We.eq ?_) ?_
  · have q := frame hC (h.ok.s s hs)
    walk_at "g"
    exact ⟨rfl, rfl⟩
  refine ⟨by rw [List.length_map]; omega, ?_⟩
  walk_at "g"
  obtain ⟨f, hf⟩ : ∃ f, minI (u.S.map fun s => s.low * s.gap) = some f := by
    cases e : u.S with
    | nil => rw [e] at l0; simp at l0
    | cons s S => exact ⟨_, rfl⟩
  have em : oMin [.lst (u.S.map fun s => .int (s.low * s.gap))] C = .ok (.int f) C := by
    have : intsC (.lst (u.S.map fun s => .int (s.low * s.gap))) C = some (u.S.map fun s => s.low * s.gap) := by
      show ints? _ = _
      rw [show (u.S.map fun s => D.int (s.low * s.gap)) = (u.S.map fun s => s.low * s.gap).map .int by simp, ints?_map]
    simp only [oMin, this, Option.bind_some, hf]
  obtain ⟨mem, _⟩ := minI_spec hf
  obtain ⟨s, hs, rfl⟩ := List.mem_map.mp mem
  have ok := h.ok.s s hs
  have q1 := pos_mul ok.a0 ok.c0
  have a1 := ok.a1; have a2 := ok.a2; have c1 := ok.c1; have c2 := ok.c2
  have q2 : s.low * s.gap ≤ 100 * 1000 := mul_bd ok.a0 ok.c0 (by omega) (by omega)
  have q3 : m * (s.low * s.gap) ≤ 200 * 100000 := mul_bd h0 q1 h1 (by omega)
  have q4 := pos_mul h0 q1
  have far := mostRows_far h.ok.s hs (m := m) (by omega)
  walk_at "g"
  refine o_while (fun n ρ C' => C' = C ∧ ∃ lo hi r5 r6, ρ = [some v, some (.int m), some (setT u), some (.int lo), some (.int hi), r5, r6] ∧ 0 ≤ lo ∧ lo ≤ hi ∧ hi - lo < 2 ^ n ∧ m ≤ mostRows u.S hi ∧ ∀ a, 0 ≤ a → a < lo → mostRows u.S a < m) ?_ 25 _ _ _ (by decide)
    ⟨rfl, _, _, _, _, rfl, Int.le_refl _, by omega, by omega, far, fun a a0 a1 => by omega⟩
  rintro n ρ C' ⟨rfl, lo, hi, r5, r6, rfl, p0, p1, p2, p3, p4⟩
  walk_at "g"
  refine bt_d (fun hlt => ?_) (fun hlt => ?_)
  · cases n with
    | zero => simp at p2; omega
    | succ n =>
      have e2 : (2 : Int) ^ (n + 1) = 2 ^ n + 2 ^ n := by rw [Int.pow_succ]; omega
      rw [e2] at p2
      have mr := most_rows (t := (lo + hi) / 2) h.ok.T hC ha (by omega)
      refine ⟨n, rfl, ?_⟩
      walk_at "g"
      refine bt_d (fun hm => ?_) (fun hm => ?_)
      · walk_at "g"
        exact ⟨rfl, _, _, _, _, rfl, p0, by omega, by omega, hm, p4⟩
      · walk_at "g"
        refine ⟨rfl, _, _, _, _, rfl, by omega, by omega, by omega, p3, fun a a0 a1 => ?_⟩
        have := mostRows_up h.ok.s (u := u) (a := a) (b := (lo + hi) / 2) (by omega)
        omega
  · have : lo = hi := by omega
    subst this
    walk_at "g"
    exact f_val hC rfl ⟨rfl, _, rfl, p0, p3, p4⟩
theorem least_ticks_x (h : IsSet u v) (hC : Flat C) (ha : u.a = 1) (p : pure0 x = true) (hx : cntB x = false) : d_least_ticks [v, x] C = .ex "Refused" x C := by
  have c := h.fine hC ha
  have nc := need_count_x hC p hx
  refine We.eqx (w_def [some v, some x, none, none, none, none, none] rfl rfl ?_)
  unfold b_least_ticks
  walk_at "g"
  exact w_exr nc (f_ex hC (pure0_ok _ p) ⟨rfl, rfl, rfl⟩)
theorem least_ticks_v {c : Str} (hC : Flat C) (hv : celOk C.length y = true) (h : d_check_fine [v] C = .ex c y C) : d_least_ticks [v, x] C = .ex c y C := by
  refine We.eqx (w_def [some v, some x, none, none, none, none, none] rfl rfl ?_)
  unfold b_least_ticks
  walk_at "g"
  exact w_exr h (f_ex hC hv ⟨rfl, rfl, rfl⟩)
end
end WR
namespace K60
open PySem PySem.Spec PyProof.Rows L2 BV WR
def top (i : Nat) : Stmt := PySem.Challenge.pw_wrecktold_k60_whole_how_many_rows_can_co.main.body.getD i (.Pass ⟨0, 0, 0, 0⟩)
def inCls (s : Stmt) : Stmt := match s with
  | .ClassDef _ _ _ b _ _ _ _ _ _ _ => b.getD 0 (.Pass ⟨0, 0, 0, 0⟩)
  | s => s
abbrev s_law_heard : Stmt := top 36
abbrev N_law_heard : List Str := ["_law_ask", "fault"]
abbrev P_law_heard : List Str := ["_law_ask"]
abbrev s_law_box : Stmt := top 31
abbrev N_law_box : List Str := ["_law_script", "_law_k", "_law_cell", "_law_great"]
abbrev P_law_box : List Str := ["_law_script", "_law_k"]
def b_law_box : Rho → Cells → Out :=
  (sSeq (sSet 2 (f2 (addD false) (f2 (mulD false) (fC (.int 5231)) (fVar 1)) (fC (.int 541))))
    (sSeq (sIf (f2 ltD (fVar 1) (fA oLen (aCons (fVar 0) aNil))) (sSet 2 (fA oAbs (aCons (fA oInt (aCons (f2 ixD (fVar 0) (fVar 1)) aNil)) aNil))) (sIf (f2 gtD (fA oLen (aCons (fVar 0) aNil)) (fC (.int 0))) (sSet 2 (f2 (addD false) (fVar 2) (f2 (mulD false) (f2 modD (fA oInt (aCons (fA oAbs (aCons (fA oInt (aCons (f2 ixD (fVar 0) (f2 modD (fA oInt (aCons (fVar 1) aNil)) (fA oLen (aCons (fVar 0) aNil)))) aNil)) aNil)) aNil)) (fC (.int 2147483563))) (fC (.int 50159))))) sNil))
    (sSeq (sSet 3 (ifD (f2 geD (fVar 2) (f2 powD (fC (.int 10)) (fC (.int 18)))) (fVar 2) (fC (.int 0))))
    (sRet (fA (oLst true) (aCons (fVar 3) (aCons (f2 (addD false) (f2 modD (fA oInt (aCons (f2 (addD false) (f2 (mulD false) (f2 modD (fA oInt (aCons (fVar 2) aNil)) (fC (.int 2147483563))) (fC (.int 58271))) (f2 (mulD false) (fC (.int 811)) (fVar 1))) aNil)) (fC (.int 2147483563))) (fC (.int 1))) aNil)))))))
def d_law_box : List D → Cells → Res D := denF true 2 4 b_law_box
abbrev s_law_take : Stmt := top 32
abbrev N_law_take : List Str := ["_law_box_here", "_law_many", "_law_digit", "_law_raw"]
abbrev P_law_take : List Str := ["_law_box_here", "_law_many"]
def b_law_take : Rho → Cells → Out :=
  (sSeq (sIf (f2 gtD (f2 ixD (fVar 0) (fC (.int 0))) (fC (.int 0))) (sSeq (sSet 2 (f2 modD (fA oInt (aCons (f2 ixD (fVar 0) (fC (.int 0))) aNil)) (fVar 1)))
    (sSeq (sSto (f2 fdivD (f2 ixD (fVar 0) (fC (.int 0))) (fVar 1)) (fVar 0) (fC (.int 0)))
    (sRet (fVar 2)))) sNil)
    (sSeq (sSet 3 (f2 modD (fA oInt (aCons (f2 (addD false) (f2 (mulD false) (f2 ixD (fVar 0) (fC (.int 1))) (fC (.int 39373))) (fC (.int 71))) aNil)) (fC (.int 2147483647))))
    (sSeq (sSto (f2 (addD false) (f2 modD (fA oInt (aCons (f2 (addD false) (f2 (mulD false) (fVar 3) (fC (.int 40692))) (fC (.int 37))) aNil)) (fC (.int 2147483563))) (fC (.int 1))) (fVar 0) (fC (.int 1)))
    (sRet (f2 modD (fA oInt (aCons (f2 fdivD (f2 (addD false) (f2 (mulD false) (fVar 3) (fC (.int 2147483629))) (f2 ixD (fVar 0) (fC (.int 1)))) (fC (.int 8233))) aNil)) (fVar 1))))))
def d_law_take : List D → Cells → Res D := denF false 2 4 b_law_take
abbrev s_law_setup : Stmt := top 34
abbrev N_law_setup : List Str := ["_law_box_here", "_law_sources", "_law_most_here", "_law_found", "_law_turn", "_law_low", "_law_gap", "_law_least", "_law_wait"]
abbrev P_law_setup : List Str := ["_law_box_here", "_law_sources", "_law_most_here"]
def b_law_setup : Rho → Cells → Out :=
  (sSeq (sSet 3 (fA (oLst true) aNil))
    (sSeq (sFor (iRg (rg1 (f2 (addD false) (fC (.int 1)) (fA (oCall 2 d_law_take) (aCons (fVar 0) (aCons (fVar 1) aNil)))))) (tgN 4)
    (sSeq (sPar3 5 6 7 (aCons (f2 (addD false) (fC (.int 1)) (fA (oCall 2 d_law_take) (aCons (fVar 0) (aCons (fVar 2) aNil)))) (aCons (f2 (addD false) (fC (.int 1)) (fA (oCall 2 d_law_take) (aCons (fVar 0) (aCons (fC (.int 3)) aNil)))) (aCons (fA (oCall 2 d_law_take) (aCons (fVar 0) (aCons (fC (.int 3)) aNil))) aNil))))
    (sSeq (sSet 8 (fA (oCall 2 d_law_take) (aCons (fVar 0) (aCons (f2 (mulD false) (fVar 5) (fVar 6)) aNil))))
    (sExpr (fMt1 appD (fVar 3) (fA oTup (aCons (fVar 5) (aCons (f2 (addD false) (fVar 5) (fA (oCall 2 d_law_take) (aCons (fVar 0) (aCons (fC (.int 3)) aNil)))) (aCons (fVar 7) (aCons (f2 (addD false) (fVar 7) (fVar 8)) (aCons (fVar 6) (aCons (f2 (addD false) (fVar 6) (fA (oCall 2 d_law_take) (aCons (fVar 0) (aCons (fC (.int 3)) aNil)))) aNil))))))))))))
    (sRet (fA oTup (aCons (fA oTuple (aCons (fVar 3) aNil)) (aCons (fA oTup (aCons (fC (.int 1)) (aCons (f2 (addD false) (fC (.int 1)) (fA (oCall 2 d_law_take) (aCons (fVar 0) (aCons (fC (.int 3)) aNil)))) aNil))) (aCons (fA oTup (aCons (fA oTup (aCons (fC (.int 0)) (aCons (fC .non) aNil))) aNil)) aNil)))))))
def d_law_setup : List D → Cells → Res D := denF false 3 9 b_law_setup
abbrev s_law_spans : Stmt := top 37
abbrev N_law_spans : List Str := ["_law_source", "_law_many", "_law_low", "_law_high", "_law_least", "_law_most_here", "_law_gap", "_law_pause", "_law_lines", "_law_found", "_law_turn", "_law_later", "_law_heard_here", "_law_sent", "_law_way"]
abbrev P_law_spans : List Str := ["_law_source", "_law_many"]
def b_law_spans : Rho → Cells → Out :=
  (sSeq (sAsg (fVar 0) (tgT 6 (tgCons (tgN 2) (tgCons (tgN 3) (tgCons (tgN 4) (tgCons (tgN 5) (tgCons (tgN 6) (tgCons (tgN 7) tgNil))))))))
    (sSeq (sPar 8 9 (aCons (fLc false [14] (iRg (rg2 (fVar 4) (f2 (addD false) (fVar 5) (fC (.int 1))))) (tgN 14) fYes (f2 subD (fC (.int 0)) (fVar 14))) (aCons (fA (oLst true) (aCons (fC (.int 0)) aNil)) aNil)))
    (sSeq (sFor (iRg (rg1 (f2 subD (fVar 1) (fC (.int 1))))) (tgN 10)
    (sSeq (sSet 11 (fLc false [13] (iSeq (fVar 8)) (tgN 13) fYes (f2 (addD false) (fVar 13) (f2 (mulD false) (fVar 2) (fVar 6)))))
    (sSeq (sSet 8 (fSl false (fSrtSet false (f2 (addD false) (fVar 11) (fLc false [13] (iSeq (fVar 11)) (tgN 13) fYes (f2 (addD false) (fVar 13) (fC (.int 1)))))) pNo (pSo (fC (.int 10)))))
    (sSeq (sSet 12 (fA (oLst false) aNil))
    (sSeq (sFor (iSeq (fVar 8)) (tgN 13)
    (sSet 12 (f2 (addD false) (fVar 12) (fLc false [14] (iRg (rg2 (fVar 4) (f2 (addD false) (fVar 5) (fC (.int 1))))) (tgN 14) (f2 geD (f2 (addD false) (fVar 13) (fVar 14)) (fC (.int 0))) (f2 (addD false) (fVar 13) (fVar 14))))))
    (sExpr (fMt1 appD (fVar 9) (fA oMin (aCons (fVar 12) aNil)))))))))
    (sRet (fVar 9)))))
def d_law_spans : List D → Cells → Res D := denF false 2 15 b_law_spans
abbrev s_law_most : Stmt := top 38
abbrev N_law_most : List Str := ["_law_setup_here", "_law_many", "_law_last", "_law_spans_here", "_law_source", "_law_ticks", "_law_line", "_law_one"]
abbrev P_law_most : List Str := ["_law_setup_here", "_law_many", "_law_last"]
def b_law_most : Rho → Cells → Out :=
  (sSeq (sSet 3 (fLc false [4] (iSeq (f2 ixD (fVar 0) (fC (.int 0)))) (tgN 4) fYes (fA (oCall 2 d_law_spans) (aCons (fVar 4) (aCons (fVar 1) aNil)))))
    (sRet (fLc false [5] (iRg (rg1 (f2 (addD false) (fVar 2) (fC (.int 1))))) (tgN 5) fYes (fA oSum (aCons (fLc false [6] (iSeq (fVar 3)) (tgN 6) fYes (fA oLen (aCons (fLc false [7] (iSeq (fVar 6)) (tgN 7) (f2 leD (fVar 7) (fVar 5)) (fVar 7)) aNil))) aNil)))))
def d_law_most : List D → Cells → Res D := denF false 3 8 b_law_most
abbrev s_is_sequence : Stmt := top 8
abbrev N_is_sequence : List Str := ["value"]
abbrev P_is_sequence : List Str := ["value"]
abbrev s_is_integer : Stmt := top 5
abbrev N_is_integer : List Str := ["value"]
abbrev P_is_integer : List Str := ["value"]
abbrev s_is_span : Stmt := top 17
abbrev N_is_span : List Str := ["value", "least", "most", "one"]
abbrev P_is_span : List Str := ["value", "least", "most"]
abbrev s_is_source : Stmt := top 18
abbrev N_is_source : List Str := ["value"]
abbrev P_is_source : List Str := ["value"]
abbrev s_are_sources : Stmt := top 19
abbrev N_are_sources : List Str := ["value", "one"]
abbrev P_are_sources : List Str := ["value"]
abbrev s_is_number : Stmt := top 6
abbrev N_is_number : List Str := ["value"]
abbrev P_is_number : List Str := ["value"]
abbrev s_is_below : Stmt := top 7
abbrev N_is_below : List Str := ["value", "most"]
abbrev P_is_below : List Str := ["value", "most"]
abbrev s_is_channel : Stmt := top 20
abbrev N_is_channel : List Str := ["sources", "value"]
abbrev P_is_channel : List Str := ["sources", "value"]
abbrev s_are_channels : Stmt := top 21
abbrev N_are_channels : List Str := ["sources", "value", "one"]
abbrev P_are_channels : List Str := ["sources", "value"]
abbrev s_check_setup : Stmt := top 22
abbrev N_check_setup : List Str := ["value", "sources", "recorder", "channels", "one"]
abbrev P_check_setup : List Str := ["value"]
abbrev s_check_fine : Stmt := top 24
abbrev N_check_fine : List Str := ["setup", "told"]
abbrev P_check_fine : List Str := ["setup"]
abbrev s_frame_ticks : Stmt := top 25
abbrev N_frame_ticks : List Str := ["source"]
abbrev P_frame_ticks : List Str := ["source"]
abbrev s_most_of : Stmt := top 26
abbrev N_most_of : List Str := ["source", "ticks", "low", "high", "least", "most", "gap", "pause"]
abbrev P_most_of : List Str := ["source", "ticks"]
abbrev s_most_rows : Stmt := top 27
abbrev N_most_rows : List Str := ["setup", "ticks", "told", "source"]
abbrev P_most_rows : List Str := ["setup", "ticks"]
abbrev s_need_row_count : Stmt := top 28
abbrev N_need_row_count : List Str := ["value"]
abbrev P_need_row_count : List Str := ["value"]
abbrev s_least_ticks : Stmt := top 29
abbrev N_least_ticks : List Str := ["setup", "many", "told", "low", "high", "ticks", "source"]
abbrev P_least_ticks : List Str := ["setup", "many"]
abbrev s_law_pick : Stmt := top 33
abbrev N_law_pick : List Str := ["_law_box_here", "_law_some"]
abbrev P_law_pick : List Str := ["_law_box_here", "_law_some"]
def b_law_pick : Rho → Cells → Out :=
  (sRet (f2 ixD (fVar 1) (fA (oCall 2 d_law_take) (aCons (fVar 0) (aCons (fA oLen (aCons (fVar 1) aNil)) aNil)))))
def d_law_pick : List D → Cells → Res D := denF false 2 2 b_law_pick
abbrev s_law_bad_setup : Stmt := top 35
abbrev N_law_bad_setup : List Str := ["_law_box_here", "_law_setup_here", "_law_sources", "_law_recorder", "_law_channels", "_law_some", "_law_slow"]
abbrev P_law_bad_setup : List Str := ["_law_box_here", "_law_setup_here"]
def b_law_bad_setup : Rho → Cells → Out :=
  (sSeq (sAsg (fVar 1) (tgT 3 (tgCons (tgN 2) (tgCons (tgN 3) (tgCons (tgN 4) tgNil)))))
    (sSeq (sSet 5 (fA (oLst false) (aCons (fA (oLst false) (aCons (fC .non) (aCons (fA oTup (aCons (fC (.str "setup")) (aCons (f2 subD (fC (.int 0)) (fC (.int 1))) (aCons (fC (.bl true)) aNil)))) aNil))) (aCons (fA (oLst false) (aCons (fA oTup (aCons (fVar 2) (aCons (fVar 3) aNil))) (aCons (fA oTup (aCons (fC (.str "setup")) (aCons (f2 subD (fC (.int 0)) (fC (.int 1))) (aCons (fC (.bl true)) aNil)))) aNil))) (aCons (fA (oLst false) (aCons (fA oTup (aCons (fA oTup aNil) (aCons (fVar 3) (aCons (fVar 4) aNil)))) (aCons (fA oTup (aCons (fC (.str "setup")) (aCons (fC (.int 0)) (aCons (fC (.bl true)) aNil)))) aNil))) aNil)))))
    (sSeq (sSet 5 (f2 (addD false) (fVar 5) (fA (oLst false) (aCons (fA (oLst false) (aCons (fA oTup (aCons (fVar 2) (aCons (fA oTup (aCons (fC (.int 2)) (aCons (fC (.int 1)) aNil))) (aCons (fVar 4) aNil)))) (aCons (fA oTup (aCons (fC (.str "setup")) (aCons (fC (.int 1)) (aCons (fC (.bl true)) aNil)))) aNil))) (aCons (fA (oLst false) (aCons (fA oTup (aCons (fVar 2) (aCons (fVar 3) (aCons (fA oTup aNil) aNil)))) (aCons (fA oTup (aCons (fC (.str "setup")) (aCons (fC (.int 2)) (aCons (fC (.bl true)) aNil)))) aNil))) aNil)))))
    (sSeq (sSet 6 (fA oTup (aCons (fVar 2) (aCons (fA oTup (aCons (fC (.int 2)) (aCons (fC (.int 3)) aNil))) (aCons (fVar 4) aNil)))))
    (sRet (fA (oCall 2 d_law_pick) (aCons (fVar 0) (aCons (f2 (addD false) (fVar 5) (f2 (mulD false) (fA (oLst false) (aCons (fA (oLst false) (aCons (fVar 6) (aCons (fA oTup (aCons (fC (.str "refused")) (aCons (fA oRepr (aCons (fVar 6) aNil)) (aCons (fC (.bl true)) aNil)))) aNil))) aNil)) (fC (.int 3)))) aNil))))))))
def d_law_bad_setup : List D → Cells → Res D := denF false 2 7 b_law_bad_setup
abbrev s_law : Stmt := top 39
abbrev N_law : List Str := ["_law_script", "_law_k", "_law_box_here", "_law_setup_here", "_law_handed", "_law_dues", "_law_ticks", "_law_many", "_law_due", "_law_bad", "_law_odd", "_law_source", "_law_channel"]
abbrev P_law : List Str := ["_law_script"]
abbrev q_law : Str := (("law" : Str) ++ ".<locals>.") ++ "<lambda>"
def b_law (τ : Nat → Addr) : Rho → Cells → Out :=
  (sSeq (sFor (iRg (rg1 (fC (.int 4)))) (tgN 1)
    (sSeq (sSet 2 (fA (oCall 2 d_law_box) (aCons (fVar 0) (aCons (fVar 1) aNil))))
    (sSeq (sSet 3 (fA (oCall 3 d_law_setup) (aCons (fVar 2) (aCons (fC (.int 3)) (aCons (fC (.int 3)) aNil)))))
    (sSeq (sSet 4 (fA (oLst false) (aCons (fLc false [11] (iSeq (f2 ixD (fVar 3) (fC (.int 0)))) (tgN 11) fYes (fA (oListD false) (aCons (fVar 11) aNil))) (aCons (fA (oListD false) (aCons (f2 ixD (fVar 3) (fC (.int 1))) aNil)) (aCons (fLc false [12] (iSeq (f2 ixD (fVar 3) (fC (.int 2)))) (tgN 12) fYes (fA (oListD false) (aCons (fVar 12) aNil))) aNil)))))
    (sSeq (sSet 5 (fA (oCall 3 d_law_most) (aCons (fVar 3) (aCons (fC (.int 12)) (aCons (fC (.int 7)) aNil)))))
    (sSeq (sFor (iRg (rg1 (fC (.int 8)))) (tgN 6)
    (sIf (f2 (eqD true) (fA oRepr (aCons (fA (oLst false) (aCons (fA (oCall 2 d_most_rows) (aCons (fVar 3) (aCons (fVar 6) aNil))) (aCons (fK0 (oCallK0 2 2 [1, 0] d_most_rows) (aCons (fVar 6) (aCons (fVar 4) aNil))) aNil))) aNil)) (fA oRepr (aCons (f2 (mulD false) (fA (oLst false) (aCons (f2 ixD (fVar 5) (fVar 6)) aNil)) (fC (.int 2))) aNil))) (sRet (fC (.bl false))) sNil))
    (sSeq (sFor (iRg (rg2 (fC (.int 1)) (f2 (addD false) (fA oMax (aCons (fVar 5) aNil)) (fC (.int 1))))) (tgN 7)
    (sSeq (sSet 8 (f2 ixD (fLc false [6] (iRg (rg1 (fC (.int 8)))) (tgN 6) (f2 geD (f2 ixD (fVar 5) (fVar 6)) (fVar 7)) (fVar 6)) (fC (.int 0))))
    (sIf (f2 (eqD true) (fA oRepr (aCons (fA (oLst false) (aCons (fA (oCall 2 d_least_ticks) (aCons (fVar 3) (aCons (fVar 7) aNil))) (aCons (fK0 (oCallK0 2 2 [1, 0] d_least_ticks) (aCons (fVar 7) (aCons (fVar 4) aNil))) aNil))) aNil)) (fA oRepr (aCons (fA (oLst false) (aCons (fVar 8) (aCons (fVar 8) aNil))) aNil))) (sRet (fC (.bl false))) sNil)))
    (sSeq (sSet 6 (fA (oCall 2 d_least_ticks) (aCons (fVar 3) (aCons (fC (.int 200)) aNil))))
    (sSeq (sIf (orD (f2 ltD (fA (oCall 2 d_most_rows) (aCons (fVar 3) (aCons (fVar 6) aNil))) (fC (.int 200))) (andD (f2 gtD (fVar 6) (fC (.int 0))) (f2 geD (fA (oCall 2 d_most_rows) (aCons (fVar 3) (aCons (f2 subD (fVar 6) (fC (.int 1))) aNil))) (fC (.int 200))))) (sRet (fC (.bl false))) sNil)
    (sSeq (sAsg (fA (oCall 2 d_law_bad_setup) (aCons (fVar 2) (aCons (fVar 3) aNil))) (tgT 2 (tgCons (tgN 9) (tgCons (tgN 8) tgNil))))
    (sSeq (sIf (f2 (eqD true) (fLam q_law (τ 0) (hdsD (.shown "told") [("Refused", [.str "refused", .rep, .isi]), ("BadSetup", [.str "setup", .fld, .isi])]) (fA (oCall 2 d_most_rows) (aCons (fVar 9) (aCons (fC .non) aNil)))) (fVar 8)) (sRet (fC (.bl false))) sNil)
    (sSeq (sIf (f2 (eqD true) (fLam q_law (τ 0) (hdsD (.shown "told") [("Refused", [.str "refused", .rep, .isi]), ("BadSetup", [.str "setup", .fld, .isi])]) (fA (oCall 2 d_least_ticks) (aCons (fVar 9) (aCons (fC .non) aNil)))) (fVar 8)) (sRet (fC (.bl false))) sNil)
    (sSeq (sSet 10 (fA (oCall 2 d_law_pick) (aCons (fVar 2) (aCons (fA (oLst false) (aCons (fC .non) (aCons (f2 subD (fC (.int 0)) (fC (.int 1))) (aCons (fC (.bl true)) (aCons (fC (.str "0")) aNil))))) aNil))))
    (sSeq (sIf (f2 (eqD true) (fLam q_law (τ 0) (hdsD (.shown "told") [("Refused", [.str "refused", .rep, .isi]), ("BadSetup", [.str "setup", .fld, .isi])]) (fA (oCall 2 d_most_rows) (aCons (fVar 3) (aCons (fVar 10) aNil)))) (fA oTup (aCons (fC (.str "refused")) (aCons (fA oRepr (aCons (fVar 10) aNil)) (aCons (fC (.bl true)) aNil))))) (sRet (fC (.bl false))) sNil)
    (sSeq (sSet 10 (fA (oCall 2 d_law_pick) (aCons (fVar 2) (aCons (fA (oLst false) (aCons (fC .non) (aCons (fC (.int 0)) (aCons (fC (.int 201)) (aCons (fC (.bl true)) (aCons (fC (.str "1")) aNil)))))) aNil))))
    (sIf (f2 (eqD true) (fLam q_law (τ 0) (hdsD (.shown "told") [("Refused", [.str "refused", .rep, .isi]), ("BadSetup", [.str "setup", .fld, .isi])]) (fA (oCall 2 d_least_ticks) (aCons (fVar 3) (aCons (fVar 10) aNil)))) (fA oTup (aCons (fC (.str "refused")) (aCons (fA oRepr (aCons (fVar 10) aNil)) (aCons (fC (.bl true)) aNil))))) (sRet (fC (.bl false))) sNil))))))))))))))))
    (sRet (fC (.bl true))))
def d_law (τ : Nat → Addr) : List D → Cells → Res D := denF false 1 13 (b_law τ)
end K60
namespace K60
open PySem PySem.Spec PyProof.Rows L2 BV WR LamX
structure Txt (P : Program) (K : PySem.W.Frag) (mg : Str → Option Value) (base : Heap) (fA : Nat → Addr) (fD : Nat → FuncData) (τ γ : Nat → Addr) : Prop where
  d_law_box : DefAt K mg "_law_box" s_law_box P_law_box (fA 0) (fD 0)
  d_law_take : DefAt K mg "_law_take" s_law_take P_law_take (fA 1) (fD 1)
  d_law_setup : DefAt K mg "_law_setup" s_law_setup P_law_setup (fA 2) (fD 2)
  d_law_spans : DefAt K mg "_law_spans" s_law_spans P_law_spans (fA 3) (fD 3)
  d_law_most : DefAt K mg "_law_most" s_law_most P_law_most (fA 4) (fD 4)
  d_is_sequence : DefAt K mg "is_sequence" s_is_sequence P_is_sequence (fA 5) (fD 5)
  d_is_integer : DefAt K mg "is_integer" s_is_integer P_is_integer (fA 6) (fD 6)
  d_is_span : DefAt K mg "is_span" s_is_span P_is_span (fA 7) (fD 7)
  d_is_source : DefAt K mg "is_source" s_is_source P_is_source (fA 8) (fD 8)
  d_are_sources : DefAt K mg "are_sources" s_are_sources P_are_sources (fA 9) (fD 9)
  d_is_number : DefAt K mg "is_number" s_is_number P_is_number (fA 10) (fD 10)
  d_is_below : DefAt K mg "is_below" s_is_below P_is_below (fA 11) (fD 11)
  d_is_channel : DefAt K mg "is_channel" s_is_channel P_is_channel (fA 12) (fD 12)
  d_are_channels : DefAt K mg "are_channels" s_are_channels P_are_channels (fA 13) (fD 13)
  d_check_setup : DefAt K mg "check_setup" s_check_setup P_check_setup (fA 14) (fD 14)
  d_check_fine : DefAt K mg "check_fine" s_check_fine P_check_fine (fA 15) (fD 15)
  d_frame_ticks : DefAt K mg "frame_ticks" s_frame_ticks P_frame_ticks (fA 16) (fD 16)
  d_most_of : DefAt K mg "most_of" s_most_of P_most_of (fA 17) (fD 17)
  d_most_rows : DefAt K mg "most_rows" s_most_rows P_most_rows (fA 18) (fD 18)
  d_need_row_count : DefAt K mg "need_row_count" s_need_row_count P_need_row_count (fA 19) (fD 19)
  d_least_ticks : DefAt K mg "least_ticks" s_least_ticks P_least_ticks (fA 20) (fD 20)
  d_law_pick : DefAt K mg "_law_pick" s_law_pick P_law_pick (fA 21) (fD 21)
  d_law_bad_setup : DefAt K mg "_law_bad_setup" s_law_bad_setup P_law_bad_setup (fA 22) (fD 22)
  d_law : DefAt K mg "law" s_law P_law (fA 23) (fD 23)
  d_law_heard : DefAt K mg "_law_heard" s_law_heard P_law_heard (fA 24) (fD 24)
  c_law : FunC K "law" s_law (fA 23) (fD 23) (γ 0)
  t_law : TabB base mg (γ 0) (τ 0)
  n_abs : mg "abs" = none
  n_all : mg "all" = none
  n_bool : mg "bool" = none
  n_int : mg "int" = none
  n_isinstance : mg "isinstance" = none
  n_len : mg "len" = none
  n_list : mg "list" = none
  n_max : mg "max" = none
  n_min : mg "min" = none
  n_range : mg "range" = none
  n_repr : mg "repr" = none
  n_set : mg "set" = none
  n_sorted : mg "sorted" = none
  n_sum : mg "sum" = none
  n_tuple : mg "tuple" = none
  c_MOST_CHANNELS : ∃ t, mg "MOST_CHANNELS" = some (.int (16) t)
  c_MOST_PAUSE : ∃ t, mg "MOST_PAUSE" = some (.int (1000) t)
  c_MOST_RATE : ∃ t, mg "MOST_RATE" = some (.int (1000) t)
  c_MOST_ROWS : ∃ t, mg "MOST_ROWS" = some (.int (200) t)
  c_MOST_SOURCES : ∃ t, mg "MOST_SOURCES" = some (.int (8) t)
  c_MOST_TICKS : ∃ t, mg "MOST_TICKS" = some (.int (100) t)
  c_MOST_WAY : ∃ t, mg "MOST_WAY" = some (.int (1000) t)
  e_BadSetup : ErrP P K mg "BadSetup"
  e_Refused : ErrP P K mg "Refused"
  h_Refused_WreckError : ∃ C0 B, ErrH K mg "Refused" C0 ∧ mg "WreckError" = some B ∧ PySem.W.kitOne K (.ref C0) B = some true
  h_BadSetup_WreckError : ∃ C0 B, ErrH K mg "BadSetup" C0 ∧ mg "WreckError" = some B ∧ PySem.W.kitOne K (.ref C0) B = some true
  nx_BadSetup_Refused : ∀ C2 C1 : Addr, mg "BadSetup" = some (.ref C2) → mg "Refused" = some (.ref C1) → PySem.W.exmOne K (.ref C2) (.ref C1) = some false
  kw_most_rows_0_ticks_setup : KOk K (fD 18) P_most_rows ["ticks", "setup"] [1, 0] 0
  kw_least_ticks_0_many_setup : KOk K (fD 20) P_least_ticks ["many", "setup"] [1, 0] 0
section
variable {P : Program} {w : World} {K : PySem.W.Frag} {mg : Str → Option Value} {base : Heap} {fA : Nat → Addr} {fD : Nat → FuncData} {τ γ : Nat → Addr}
theorem sc_law_heard : FnScope N_law_heard P_law_heard (defScope s_law_heard) := ⟨rfl, rfl, rfl, by decide +kernel, rfl, by decide +kernel, by decide +kernel⟩
theorem gv_law_heard {X : Cx} (T : Txt P X.K X.mg X.base fA fD τ γ) (hgd : X.A.guards = some []) {g : Addr} {cdg : Value} {q : Str} : Gives X N_law_heard "_law_heard" (defScope s_law_heard) g cdg (defBody s_law_heard) "_law_ask" q (hdsD (.shown "told") [("Refused", [.str "refused", .rep, .isi]), ("BadSetup", [.str "setup", .fld, .isi])]) := by
  obtain ⟨C1, B1, eh1, hB1, hk1⟩ := T.h_BadSetup_WreckError
  have ef1 : exF "BadSetup" = "at" := by decide +kernel
  have nF1 : PySem.W.findIn X.K (.ref C1) "at" = some none := ef1 ▸ eh1.noF
  obtain ⟨C0, B0, eh0, hB0, hk0⟩ := T.h_Refused_WreckError
  have ef0 : exF "Refused" = "at" := by decide +kernel
  have nF0 : PySem.W.findIn X.K (.ref C0) "at" = some none := ef0 ▸ eh0.noF
  exact gives_showns (i := 1) (n := "fault") ⟨sc_law_heard.nd, rfl, rfl, by simp [L2.start], fun _ => rfl, (.cons (C0 := C0) (cl_mk ef0 eh0 rfl (by decide) fun s H a oe cls d pn hu hz hc hf => (hi_cons hi_str (hi_cons (hi_rep eh0.i nF0 hz hc hf (pv 1) hgd hu rfl T.n_repr) (hi_cons (hi_isi eh0.i hz hc hf (pv 1) ⟨rfl, by decide, .inl hB0⟩ hk0 rfl T.n_isinstance) hi_nil)))) (by simp only [List.forall_mem_cons, List.not_mem_nil, false_implies, implies_true, and_true]; exact T.nx_BadSetup_Refused _ _ eh1.m eh0.m) (.cons (C0 := C1) (cl_mk ef1 eh1 rfl (by decide) fun s H a oe cls d pn hu hz hc hf => (hi_cons hi_str (hi_cons (hi_fld eh1.i nF1 hz hc hf (pv 1)) (hi_cons (hi_isi eh1.i hz hc hf (pv 1) ⟨rfl, by decide, .inl hB1⟩ hk1 rfl T.n_isinstance) hi_nil)))) (by simp) .nil))⟩ hgd rfl T.n_repr
theorem sc_law_box : FnScope N_law_box P_law_box (defScope s_law_box) := ⟨rfl, rfl, rfl, by decide +kernel, rfl, by decide +kernel, by decide +kernel⟩
theorem ok_law_box (T : Txt P K mg base fA fD τ γ) : FnG P w K mg base 1 (fA 0) (fD 0) P_law_box (spD K mg 2 d_law_box) := by
  refine fnG_den (k := 0) true T.d_law_box.F sc_law_box (by decide) fun cd A outer s H E gd hr => ?_
  exact (bss_cons (bs_set (i := 2) sc_law_box.nd rfl (.inl rfl) (be_op (ob_add false) (be_op (ob_mul false) be_int (be_var 1 (pv 1))) be_int))
      (bss_cons (bs_if (bt_cmp ob_lt (be_var 1 (pv 1)) (be_callB cb_len rfl T.n_len bb_len (ba_cons (be_var 0 (pv 0)) ba_nil)) (nomark _)) (bss_one (bs_set (i := 2) sc_law_box.nd rfl (.inl rfl) (be_callB cb_abs rfl T.n_abs bb_abs (ba_cons (be_callTy cb_int rfl T.n_int bb_int (ba_cons (be_ix (be_var 0 (pv 0)) (be_var 1 (pv 1)) (fun _ _ => rfl)) ba_nil)) ba_nil)))) (bss_one (bs_if (bt_cmp ob_gt (be_callB cb_len rfl T.n_len bb_len (ba_cons (be_var 0 (pv 0)) ba_nil)) be_int (nomark _)) (bss_one (bs_set (i := 2) sc_law_box.nd rfl (.inl rfl) (be_op (ob_add false) (be_var 2 (pv 2)) (be_op (ob_mul false) (be_op ob_mod (be_callTy cb_int rfl T.n_int bb_int (ba_cons (be_callB cb_abs rfl T.n_abs bb_abs (ba_cons (be_callTy cb_int rfl T.n_int bb_int (ba_cons (be_ix (be_var 0 (pv 0)) (be_op ob_mod (be_callTy cb_int rfl T.n_int bb_int (ba_cons (be_var 1 (pv 1)) ba_nil)) (be_callB cb_len rfl T.n_len bb_len (ba_cons (be_var 0 (pv 0)) ba_nil))) (fun _ _ => rfl)) ba_nil)) ba_nil)) ba_nil)) be_int) be_int)))) bss_nil)))
      (bss_cons (bs_set (i := 3) sc_law_box.nd rfl (.inl rfl) (be_if (bt_cmp ob_ge (be_var 2 (pv 2)) (be_op ob_pow be_int be_int) (nomark _)) (be_var 2 (pv 2)) be_int))
      (bss_one (bs_ret (be_lst true (ba_cons (be_var 3 (pv 3)) (ba_cons (be_op (ob_add false) (be_op ob_mod (be_callTy cb_int rfl T.n_int bb_int (ba_cons (be_op (ob_add false) (be_op (ob_mul false) (be_op ob_mod (be_callTy cb_int rfl T.n_int bb_int (ba_cons (be_var 2 (pv 2)) ba_nil)) be_int) be_int) (be_op (ob_mul false) be_int (be_var 1 (pv 1)))) ba_nil)) be_int) be_int) ba_nil))))))))
theorem sc_law_take : FnScope N_law_take P_law_take (defScope s_law_take) := ⟨rfl, rfl, rfl, by decide +kernel, rfl, by decide +kernel, by decide +kernel⟩
theorem ok_law_take (T : Txt P K mg base fA fD τ γ) : FnG P w K mg base 1 (fA 1) (fD 1) P_law_take (spD K mg 2 d_law_take) := by
  refine fnG_den (k := 0) false T.d_law_take.F sc_law_take (by decide) fun cd A outer s H E gd hr => ?_
  exact (bss_cons (bs_if (bt_cmp ob_gt (be_ix (be_var 0 (pv 0)) be_int (fun _ _ => rfl)) be_int (nomark _)) (bss_cons (bs_set (i := 2) sc_law_take.nd rfl (.inl rfl) (be_op ob_mod (be_callTy cb_int rfl T.n_int bb_int (ba_cons (be_ix (be_var 0 (pv 0)) be_int (fun _ _ => rfl)) ba_nil)) (be_var 1 (pv 1))))
      (bss_cons (bs_sto (be_op ob_fdiv (be_ix (be_var 0 (pv 0)) be_int (fun _ _ => rfl)) (be_var 1 (pv 1))) (be_var 0 (pv 0)) be_int)
      (bss_one (bs_ret (be_var 2 (pv 2)))))) bss_nil)
      (bss_cons (bs_set (i := 3) sc_law_take.nd rfl (.inl rfl) (be_op ob_mod (be_callTy cb_int rfl T.n_int bb_int (ba_cons (be_op (ob_add false) (be_op (ob_mul false) (be_ix (be_var 0 (pv 0)) be_int (fun _ _ => rfl)) be_int) be_int) ba_nil)) be_int))
      (bss_cons (bs_sto (be_op (ob_add false) (be_op ob_mod (be_callTy cb_int rfl T.n_int bb_int (ba_cons (be_op (ob_add false) (be_op (ob_mul false) (be_var 3 (pv 3)) be_int) be_int) ba_nil)) be_int) be_int) (be_var 0 (pv 0)) be_int)
      (bss_one (bs_ret (be_op ob_mod (be_callTy cb_int rfl T.n_int bb_int (ba_cons (be_op ob_fdiv (be_op (ob_add false) (be_op (ob_mul false) (be_var 3 (pv 3)) be_int) (be_ix (be_var 0 (pv 0)) be_int (fun _ _ => rfl))) be_int) ba_nil)) (be_var 1 (pv 1))))))))
theorem sc_law_setup : FnScope N_law_setup P_law_setup (defScope s_law_setup) := ⟨rfl, rfl, rfl, by decide +kernel, rfl, by decide +kernel, by decide +kernel⟩
theorem ok_law_setup (T : Txt P K mg base fA fD τ γ) : FnG P w K mg base 2 (fA 2) (fD 2) P_law_setup (spD K mg 3 d_law_setup) := by
  refine fnG_den (k := 1) false T.d_law_setup.F sc_law_setup (by decide) fun cd A outer s H E gd hr => ?_
  exact (bss_cons (bs_set (i := 3) sc_law_setup.nd rfl (.inl rfl) (be_lst true ba_nil))
      (bss_cons (bs_for (passes_of rfl) rfl (bi_range1 rfl T.n_range (be_op (ob_add false) be_int (be_call (ok_law_take T) (hr.mono (by decide)) gd (takes_of rfl rfl rfl rfl) rfl T.d_law_take.m T.d_law_take.F.kp T.d_law_take.b (ba_cons (be_var 0 (pv 0)) (ba_cons (be_var 1 (pv 1)) ba_nil))))) (bg_name (pg_name (i := 4) sc_law_setup.nd rfl (.inl rfl)))
      (bss_cons (bs_par3 (ps_par3 (i := 5) (j := 6) (l := 7) rfl sc_law_setup.nd rfl rfl rfl (by decide) (by decide) (by decide) rfl rfl rfl (ba_cons (be_op (ob_add false) be_int (be_call (ok_law_take T) (hr.mono (by decide)) gd (takes_of rfl rfl rfl rfl) rfl T.d_law_take.m T.d_law_take.F.kp T.d_law_take.b (ba_cons (be_var 0 (pv 0)) (ba_cons (be_var 2 (pv 2)) ba_nil)))) (ba_cons (be_op (ob_add false) be_int (be_call (ok_law_take T) (hr.mono (by decide)) gd (takes_of rfl rfl rfl rfl) rfl T.d_law_take.m T.d_law_take.F.kp T.d_law_take.b (ba_cons (be_var 0 (pv 0)) (ba_cons be_int ba_nil)))) (ba_cons (be_call (ok_law_take T) (hr.mono (by decide)) gd (takes_of rfl rfl rfl rfl) rfl T.d_law_take.m T.d_law_take.F.kp T.d_law_take.b (ba_cons (be_var 0 (pv 0)) (ba_cons be_int ba_nil))) ba_nil))) rfl))
      (bss_cons (bs_set (i := 8) sc_law_setup.nd rfl (.inl rfl) (be_call (ok_law_take T) (hr.mono (by decide)) gd (takes_of rfl rfl rfl rfl) rfl T.d_law_take.m T.d_law_take.F.kp T.d_law_take.b (ba_cons (be_var 0 (pv 0)) (ba_cons (be_op (ob_mul false) (be_var 5 (pv 5)) (be_var 6 (pv 6))) ba_nil))))
      (bss_one (bs_expr (be_app (be_var 3 (pv 3)) (be_tup (ba_cons (be_var 5 (pv 5)) (ba_cons (be_op (ob_add false) (be_var 5 (pv 5)) (be_call (ok_law_take T) (hr.mono (by decide)) gd (takes_of rfl rfl rfl rfl) rfl T.d_law_take.m T.d_law_take.F.kp T.d_law_take.b (ba_cons (be_var 0 (pv 0)) (ba_cons be_int ba_nil)))) (ba_cons (be_var 7 (pv 7)) (ba_cons (be_op (ob_add false) (be_var 7 (pv 7)) (be_var 8 (pv 8))) (ba_cons (be_var 6 (pv 6)) (ba_cons (be_op (ob_add false) (be_var 6 (pv 6)) (be_call (ok_law_take T) (hr.mono (by decide)) gd (takes_of rfl rfl rfl rfl) rfl T.d_law_take.m T.d_law_take.F.kp T.d_law_take.b (ba_cons (be_var 0 (pv 0)) (ba_cons be_int ba_nil)))) ba_nil))))))) (fun h1 h2 => pe_bm PySem.F.plainAttrs_list PySem.F.slot_list_append PySem.F.type_list_append mt_append h1 (pa_cons h2 pa_nil))))))))
      (bss_one (bs_ret (be_tup (ba_cons (be_callTy cb_tuple rfl T.n_tuple bb_tuple (ba_cons (be_var 3 (pv 3)) ba_nil)) (ba_cons (be_tup (ba_cons be_int (ba_cons (be_op (ob_add false) be_int (be_call (ok_law_take T) (hr.mono (by decide)) gd (takes_of rfl rfl rfl rfl) rfl T.d_law_take.m T.d_law_take.F.kp T.d_law_take.b (ba_cons (be_var 0 (pv 0)) (ba_cons be_int ba_nil)))) ba_nil))) (ba_cons (be_tup (ba_cons (be_tup (ba_cons be_int (ba_cons be_non ba_nil))) ba_nil)) ba_nil))))))))
theorem sc_law_spans : FnScope N_law_spans P_law_spans (defScope s_law_spans) := ⟨rfl, rfl, rfl, by decide +kernel, rfl, by decide +kernel, by decide +kernel⟩
theorem ok_law_spans (T : Txt P K mg base fA fD τ γ) : FnG P w K mg base 1 (fA 3) (fD 3) P_law_spans (spD K mg 2 d_law_spans) := by
  refine fnG_den (k := 0) false T.d_law_spans.F sc_law_spans (by decide) fun cd A outer s H E gd hr => ?_
  exact (bss_cons (bs_asg (be_var 0 (pv 0)) (bg_tup rfl (bgs_cons (bg_name (pg_name (i := 2) sc_law_spans.nd rfl (.inr rfl))) (bgs_cons (bg_name (pg_name (i := 3) sc_law_spans.nd rfl (.inl rfl))) (bgs_cons (bg_name (pg_name (i := 4) sc_law_spans.nd rfl (.inl rfl))) (bgs_cons (bg_name (pg_name (i := 5) sc_law_spans.nd rfl (.inl rfl))) (bgs_cons (bg_name (pg_name (i := 6) sc_law_spans.nd rfl (.inr rfl))) (bgs_cons (bg_name (pg_name (i := 7) sc_law_spans.nd rfl (.inl rfl))) bgs_nil))))))))
      (bss_cons (bs_par (i := 8) (j := 9) rfl sc_law_spans.nd rfl rfl (by decide) rfl rfl (ba_cons (be_lc (own := [("_law_way", 14)]) false rfl sc_law_spans.nd (blkOk_by (N := N_law_spans) (sc := defScope s_law_spans) (by decide +kernel)) (by decide) (bi_range2 rfl T.n_range (be_var 4 (pv 4)) (be_op (ob_add false) (be_var 5 (pv 5)) be_int)) (fun _ _ _ _ _ => (bg_name (pg_name (i := 14) sc_law_spans.nd rfl (by first | exact .inl rfl | exact .inr rfl)))) (fun _ _ _ _ _ => bts_nil) (fun _ _ _ _ _ => (be_op ob_sub be_int (be_var 14 (pv 14))))) (ba_cons (be_lst true (ba_cons be_int ba_nil)) ba_nil)) rfl)
      (bss_cons (bs_for (passes_of rfl) rfl (bi_range1 rfl T.n_range (be_op ob_sub (be_var 1 (pv 1)) be_int)) (bg_name (pg_name (i := 10) sc_law_spans.nd rfl (.inl rfl)))
      (bss_cons (bs_setLc (own := [("_law_sent", 13)]) (i := 11) false rfl sc_law_spans.nd (blkOk_by (N := N_law_spans) (sc := defScope s_law_spans) (by decide +kernel)) (by decide) rfl rfl (sw_true rfl rfl rfl (by decide +kernel)) (bi_seq (be_var 8 (pv 8))) (fun _ _ _ _ _ => (bg_name (pg_name (i := 13) sc_law_spans.nd rfl (by first | exact .inl rfl | exact .inr rfl)))) (fun _ _ _ _ _ => bts_nil) (fun _ _ _ _ _ => (be_op (ob_add false) (be_var 13 (pv 13)) (be_op (ob_mul false) (be_var 2 (pv 2)) (be_var 6 (pv 6))))))
      (bss_cons (bs_set (i := 8) sc_law_spans.nd rfl (.inl rfl) (be_sl false (be_srtSet false rfl rfl T.n_sorted rfl T.n_set (be_op (ob_add false) (be_var 11 (pv 11)) (be_lc (own := [("_law_sent", 13)]) false rfl sc_law_spans.nd (blkOk_by (N := N_law_spans) (sc := defScope s_law_spans) (by decide +kernel)) (by decide) (bi_seq (be_var 11 (pv 11))) (fun _ _ _ _ _ => (bg_name (pg_name (i := 13) sc_law_spans.nd rfl (by first | exact .inl rfl | exact .inr rfl)))) (fun _ _ _ _ _ => bts_nil) (fun _ _ _ _ _ => (be_op (ob_add false) (be_var 13 (pv 13)) be_int))))) bo_none (bo_some be_int)))
      (bss_cons (bs_set (i := 12) sc_law_spans.nd rfl (.inl rfl) (be_lst false ba_nil))
      (bss_cons (bs_for (passes_of rfl) rfl (bi_seq (be_var 8 (pv 8))) (bg_name (pg_name (i := 13) sc_law_spans.nd rfl (.inr rfl)))
      (bss_one (bs_set (i := 12) sc_law_spans.nd rfl (.inl rfl) (be_op (ob_add false) (be_var 12 (pv 12)) (be_lc (own := [("_law_way", 14)]) false rfl sc_law_spans.nd (blkOk_by (N := N_law_spans) (sc := defScope s_law_spans) (by decide +kernel)) (by decide) (bi_range2 rfl T.n_range (be_var 4 (pv 4)) (be_op (ob_add false) (be_var 5 (pv 5)) be_int)) (fun _ _ _ _ _ => (bg_name (pg_name (i := 14) sc_law_spans.nd rfl (by first | exact .inl rfl | exact .inr rfl)))) (fun _ _ _ _ _ => (bts_one (bt_cmp ob_ge (be_op (ob_add false) (be_var 13 (pv 13)) (be_var 14 (pv 14))) be_int (nomark _)))) (fun _ _ _ _ _ => (be_op (ob_add false) (be_var 13 (pv 13)) (be_var 14 (pv 14)))))))))
      (bss_one (bs_expr (be_app (be_var 9 (pv 9)) (be_callB (cb_min rfl) rfl T.n_min bb_min (ba_cons (be_var 12 (pv 12)) ba_nil)) (fun h1 h2 => pe_bm PySem.F.plainAttrs_list PySem.F.slot_list_append PySem.F.type_list_append mt_append h1 (pa_cons h2 pa_nil))))))))))
      (bss_one (bs_ret (be_var 9 (pv 9)))))))
theorem sc_law_most : FnScope N_law_most P_law_most (defScope s_law_most) := ⟨rfl, rfl, rfl, by decide +kernel, rfl, by decide +kernel, by decide +kernel⟩
theorem ok_law_most (T : Txt P K mg base fA fD τ γ) : FnG P w K mg base 2 (fA 4) (fD 4) P_law_most (spD K mg 3 d_law_most) := by
  refine fnG_den (k := 1) false T.d_law_most.F sc_law_most (by decide) fun cd A outer s H E gd hr => ?_
  exact (bss_cons (bs_set (i := 3) sc_law_most.nd rfl (.inr rfl) (be_lc (own := [("_law_source", 4)]) false rfl sc_law_most.nd (blkOk_by (N := N_law_most) (sc := defScope s_law_most) (by decide +kernel)) (by decide) (bi_seq (be_ix (be_var 0 (pv 0)) be_int (fun _ _ => rfl))) (fun _ _ _ _ _ => (bg_name (pg_name (i := 4) sc_law_most.nd rfl (by first | exact .inl rfl | exact .inr rfl)))) (fun _ _ _ _ _ => bts_nil) (fun _ _ _ _ _ => (be_call (ok_law_spans T) (hr.mono (by decide)) gd L2.takes0 rfl T.d_law_spans.m T.d_law_spans.F.kp T.d_law_spans.b (ba_cons (be_var 4 (pv 4)) (ba_cons (be_var 1 (pv 1)) ba_nil))))))
      (bss_one (bs_ret (be_lc (own := [("_law_ticks", 5)]) false rfl sc_law_most.nd (blkOk_by (N := N_law_most) (sc := defScope s_law_most) (by decide +kernel)) (by decide) (bi_range1 rfl T.n_range (be_op (ob_add false) (be_var 2 (pv 2)) be_int)) (fun _ _ _ _ _ => (bg_name (pg_name (i := 5) sc_law_most.nd rfl (by first | exact .inl rfl | exact .inr rfl)))) (fun _ _ _ _ _ => bts_nil) (fun _ _ _ _ _ => (be_callB (cb_sum rfl) rfl T.n_sum bb_sum (ba_cons (be_lc (own := [("_law_line", 6)]) false rfl sc_law_most.nd (blkOk_by (N := N_law_most) (sc := { kind := .function, names := [(".0", .local), ("_law_ticks", .cell), ("sum", .globalImplicit), ("_law_spans_here", .cell)], isGenerator := false, isCoroutine := false }) (by decide +kernel)) (by decide) (bi_seq (be_var 3 (pv 3))) (fun _ _ _ _ _ => (bg_name (pg_name (i := 6) sc_law_most.nd rfl (by first | exact .inl rfl | exact .inr rfl)))) (fun _ _ _ _ _ => bts_nil) (fun _ _ _ _ _ => (be_callB cb_len rfl T.n_len bb_len (ba_cons (be_lc (own := [("_law_one", 7)]) false rfl sc_law_most.nd (blkOk_by (N := N_law_most) (sc := { kind := .function, names := [(".0", .local), ("_law_line", .local), ("len", .globalImplicit), ("_law_ticks", .cell)], isGenerator := false, isCoroutine := false }) (by decide +kernel)) (by decide) (bi_seq (be_var 6 (pv 6))) (fun _ _ _ _ _ => (bg_name (pg_name (i := 7) sc_law_most.nd rfl (by first | exact .inl rfl | exact .inr rfl)))) (fun _ _ _ _ _ => (bts_one (bt_cmp ob_le (be_var 7 (pv 7)) (be_var 5 (pv 5)) (nomark _)))) (fun _ _ _ _ _ => (be_var 7 (pv 7)))) ba_nil)))) ba_nil)))))))
theorem sc_is_sequence : FnScope N_is_sequence P_is_sequence (defScope s_is_sequence) := ⟨rfl, rfl, rfl, by decide +kernel, rfl, by decide +kernel, by decide +kernel⟩
theorem ok_is_sequence (T : Txt P K mg base fA fD τ γ) : FnG P w K mg base 1 (fA 5) (fD 5) P_is_sequence (spD K mg 1 d_is_sequence) := by
  refine fnG_den (k := 0) false T.d_is_sequence.F sc_is_sequence (by decide) fun cd A outer s H E gd hr => ?_
  exact (bss_one (bs_ret (be_isi2 (by decide) (by decide) rfl T.n_isinstance (be_var 0 (pv 0)) (pe_bltn rfl T.n_list bb_list rfl) (pe_bltn rfl T.n_tuple bb_tuple rfl))))
theorem sc_is_integer : FnScope N_is_integer P_is_integer (defScope s_is_integer) := ⟨rfl, rfl, rfl, by decide +kernel, rfl, by decide +kernel, by decide +kernel⟩
theorem ok_is_integer (T : Txt P K mg base fA fD τ γ) : FnG P w K mg base 1 (fA 6) (fD 6) P_is_integer (spD K mg 1 d_is_integer) := by
  refine fnG_den (k := 0) false T.d_is_integer.F sc_is_integer (by decide) fun cd A outer s H E gd hr => ?_
  exact (bss_one (bs_ret (be_and (be_isi1 (by decide) rfl T.n_isinstance (be_var 0 (pv 0)) (pe_bltn rfl T.n_int bb_int rfl)) (be_one (be_not (be_isi1 (by decide) rfl T.n_isinstance (be_var 0 (pv 0)) (pe_bltn rfl T.n_bool bb_bool rfl)))))))
theorem sc_is_span : FnScope N_is_span P_is_span (defScope s_is_span) := ⟨rfl, rfl, rfl, by decide +kernel, rfl, by decide +kernel, by decide +kernel⟩
theorem ok_is_span (T : Txt P K mg base fA fD τ γ) : FnG P w K mg base 2 (fA 7) (fD 7) P_is_span (spD K mg 3 d_is_span) := by
  refine fnG_den (k := 1) false T.d_is_span.F sc_is_span (by decide) fun cd A outer s H E gd hr => ?_
  exact (bss_cons (bs_if (bt_w (bw_or (bt_not (bt_val (be_call (ok_is_sequence T) (hr.mono (by decide)) gd (takes_of rfl rfl rfl rfl) rfl T.d_is_sequence.m T.d_is_sequence.F.kp T.d_is_sequence.b (ba_cons (be_var 0 (pv 0)) ba_nil)))) (bw_or (bt_cmp (ob_ne (hu64 hr)) (be_callB cb_len rfl T.n_len bb_len (ba_cons (be_var 0 (pv 0)) ba_nil)) be_int (nomark _)) (bw_or1 (bt_not (bt_val (be_callB (cb_all rfl) rfl T.n_all bb_all (ba_cons (be_lc (own := [("one", 3)]) false rfl sc_is_span.nd (blkOk_by (N := N_is_span) (sc := defScope s_is_span) (by decide +kernel)) (by decide) (bi_seq (be_var 0 (pv 0))) (fun _ _ _ _ _ => (bg_name (pg_name (i := 3) sc_is_span.nd rfl (by first | exact .inl rfl | exact .inr rfl)))) (fun _ _ _ _ _ => bts_nil) (fun _ _ _ _ _ => (be_call (ok_is_integer T) (hr.mono (by decide)) gd L2.takes0 rfl T.d_is_integer.m T.d_is_integer.F.kp T.d_is_integer.b (ba_cons (be_var 3 (pv 3)) ba_nil)))) ba_nil)))))))) (bss_one (bs_ret be_bl)) bss_nil)
      (bss_one (bs_ret (be_chain3 ob_le ob_le ob_le (be_var 1 (pv 1)) (be_ix (be_var 0 (pv 0)) be_int (fun _ _ => rfl)) (be_ix (be_var 0 (pv 0)) be_int (fun _ _ => rfl)) (be_var 2 (pv 2))))))
theorem sc_is_source : FnScope N_is_source P_is_source (defScope s_is_source) := ⟨rfl, rfl, rfl, by decide +kernel, rfl, by decide +kernel, by decide +kernel⟩
theorem ok_is_source (T : Txt P K mg base fA fD τ γ) : FnG P w K mg base 3 (fA 8) (fD 8) P_is_source (spD K mg 1 d_is_source) := by
  refine fnG_den (k := 2) false T.d_is_source.F sc_is_source (by decide) fun cd A outer s H E gd hr => ?_
  exact (bss_cons (bs_if (bt_w (bw_or (bt_not (bt_val (be_call (ok_is_sequence T) (hr.mono (by decide)) gd (takes_of rfl rfl rfl rfl) rfl T.d_is_sequence.m T.d_is_sequence.F.kp T.d_is_sequence.b (ba_cons (be_var 0 (pv 0)) ba_nil)))) (bw_or (bt_cmp (ob_ne (hu64 hr)) (be_callB cb_len rfl T.n_len bb_len (ba_cons (be_var 0 (pv 0)) ba_nil)) be_int (nomark _)) (bw_or1 (bt_not (bt_val (be_call (ok_is_span T) (hr.mono (by decide)) gd (takes_of rfl rfl rfl rfl) rfl T.d_is_span.m T.d_is_span.F.kp T.d_is_span.b (ba_cons (be_sl false (be_var 0 (pv 0)) bo_none (bo_some be_int)) (ba_cons be_int (ba_cons (be_gint rfl T.c_MOST_TICKS) ba_nil)))))))))) (bss_one (bs_ret be_bl)) bss_nil)
      (bss_cons (bs_if (bt_w (bw_or (bt_not (bt_val (be_call (ok_is_span T) (hr.mono (by decide)) gd (takes_of rfl rfl rfl rfl) rfl T.d_is_span.m T.d_is_span.F.kp T.d_is_span.b (ba_cons (be_sl false (be_var 0 (pv 0)) (bo_some be_int) (bo_some be_int)) (ba_cons be_int (ba_cons (be_gint rfl T.c_MOST_WAY) ba_nil)))))) (bw_or1 (bt_not (bt_val (be_call (ok_is_span T) (hr.mono (by decide)) gd (takes_of rfl rfl rfl rfl) rfl T.d_is_span.m T.d_is_span.F.kp T.d_is_span.b (ba_cons (be_sl false (be_var 0 (pv 0)) (bo_some be_int) bo_none) (ba_cons be_int (ba_cons (be_gint rfl T.c_MOST_PAUSE) ba_nil))))))))) (bss_one (bs_ret be_bl)) bss_nil)
      (bss_one (bs_ret (be_cmp ob_gt (be_op (ob_mul false) (be_ix (be_var 0 (pv 0)) be_int (fun _ _ => rfl)) (be_ix (be_var 0 (pv 0)) be_int (fun _ _ => rfl))) (be_op ob_sub (be_ix (be_var 0 (pv 0)) be_int (fun _ _ => rfl)) (be_ix (be_var 0 (pv 0)) be_int (fun _ _ => rfl))) (nomark _))))))
theorem sc_are_sources : FnScope N_are_sources P_are_sources (defScope s_are_sources) := ⟨rfl, rfl, rfl, by decide +kernel, rfl, by decide +kernel, by decide +kernel⟩
theorem ok_are_sources (T : Txt P K mg base fA fD τ γ) : FnG P w K mg base 4 (fA 9) (fD 9) P_are_sources (spD K mg 1 d_are_sources) := by
  refine fnG_den (k := 3) false T.d_are_sources.F sc_are_sources (by decide) fun cd A outer s H E gd hr => ?_
  exact (bss_one (bs_ret (be_and (be_call (ok_is_sequence T) (hr.mono (by decide)) gd (takes_of rfl rfl rfl rfl) rfl T.d_is_sequence.m T.d_is_sequence.F.kp T.d_is_sequence.b (ba_cons (be_var 0 (pv 0)) ba_nil)) (be_and (be_chain ob_le ob_le be_int (be_callB cb_len rfl T.n_len bb_len (ba_cons (be_var 0 (pv 0)) ba_nil)) (be_gint rfl T.c_MOST_SOURCES)) (be_one (be_callB (cb_all rfl) rfl T.n_all bb_all (ba_cons (be_lc (own := [("one", 1)]) false rfl sc_are_sources.nd (blkOk_by (N := N_are_sources) (sc := defScope s_are_sources) (by decide +kernel)) (by decide) (bi_seq (be_var 0 (pv 0))) (fun _ _ _ _ _ => (bg_name (pg_name (i := 1) sc_are_sources.nd rfl (by first | exact .inl rfl | exact .inr rfl)))) (fun _ _ _ _ _ => bts_nil) (fun _ _ _ _ _ => (be_call (ok_is_source T) (hr.mono (by decide)) gd L2.takes0 rfl T.d_is_source.m T.d_is_source.F.kp T.d_is_source.b (ba_cons (be_var 1 (pv 1)) ba_nil)))) ba_nil)))))))
theorem sc_is_number : FnScope N_is_number P_is_number (defScope s_is_number) := ⟨rfl, rfl, rfl, by decide +kernel, rfl, by decide +kernel, by decide +kernel⟩
theorem ok_is_number (T : Txt P K mg base fA fD τ γ) : FnG P w K mg base 2 (fA 10) (fD 10) P_is_number (spD K mg 1 d_is_number) := by
  refine fnG_den (k := 1) false T.d_is_number.F sc_is_number (by decide) fun cd A outer s H E gd hr => ?_
  exact (bss_one (bs_ret (be_and (be_call (ok_is_integer T) (hr.mono (by decide)) gd (takes_of rfl rfl rfl rfl) rfl T.d_is_integer.m T.d_is_integer.F.kp T.d_is_integer.b (ba_cons (be_var 0 (pv 0)) ba_nil)) (be_one (be_cmp ob_ge (be_var 0 (pv 0)) be_int (nomark _))))))
theorem sc_is_below : FnScope N_is_below P_is_below (defScope s_is_below) := ⟨rfl, rfl, rfl, by decide +kernel, rfl, by decide +kernel, by decide +kernel⟩
theorem ok_is_below (T : Txt P K mg base fA fD τ γ) : FnG P w K mg base 3 (fA 11) (fD 11) P_is_below (spD K mg 2 d_is_below) := by
  refine fnG_den (k := 2) false T.d_is_below.F sc_is_below (by decide) fun cd A outer s H E gd hr => ?_
  exact (bss_one (bs_ret (be_and (be_call (ok_is_number T) (hr.mono (by decide)) gd (takes_of rfl rfl rfl rfl) rfl T.d_is_number.m T.d_is_number.F.kp T.d_is_number.b (ba_cons (be_var 0 (pv 0)) ba_nil)) (be_one (be_cmp ob_lt (be_var 0 (pv 0)) (be_var 1 (pv 1)) (nomark _))))))
theorem sc_is_channel : FnScope N_is_channel P_is_channel (defScope s_is_channel) := ⟨rfl, rfl, rfl, by decide +kernel, rfl, by decide +kernel, by decide +kernel⟩
theorem ok_is_channel (T : Txt P K mg base fA fD τ γ) : FnG P w K mg base 4 (fA 12) (fD 12) P_is_channel (spD K mg 2 d_is_channel) := by
  refine fnG_den (k := 3) false T.d_is_channel.F sc_is_channel (by decide) fun cd A outer s H E gd hr => ?_
  exact (bss_cons (bs_if (bt_w (bw_or (bt_not (bt_val (be_call (ok_is_sequence T) (hr.mono (by decide)) gd (takes_of rfl rfl rfl rfl) rfl T.d_is_sequence.m T.d_is_sequence.F.kp T.d_is_sequence.b (ba_cons (be_var 1 (pv 1)) ba_nil)))) (bw_or (bt_cmp (ob_ne (hu64 hr)) (be_callB cb_len rfl T.n_len bb_len (ba_cons (be_var 1 (pv 1)) ba_nil)) be_int (nomark _)) (bw_or1 (bt_not (bt_val (be_call (ok_is_below T) (hr.mono (by decide)) gd (takes_of rfl rfl rfl rfl) rfl T.d_is_below.m T.d_is_below.F.kp T.d_is_below.b (ba_cons (be_ix (be_var 1 (pv 1)) be_int (fun _ _ => rfl)) (ba_cons (be_callB cb_len rfl T.n_len bb_len (ba_cons (be_var 0 (pv 0)) ba_nil)) ba_nil))))))))) (bss_one (bs_ret be_bl)) bss_nil)
      (bss_one (bs_ret (be_or (be_cmp ob_is (be_ix (be_var 1 (pv 1)) be_int (fun _ _ => rfl)) be_non (nomark _)) (be_one (be_and (be_call (ok_is_below T) (hr.mono (by decide)) gd (takes_of rfl rfl rfl rfl) rfl T.d_is_below.m T.d_is_below.F.kp T.d_is_below.b (ba_cons (be_ix (be_var 1 (pv 1)) be_int (fun _ _ => rfl)) (ba_cons (be_op (ob_add false) (be_gint rfl T.c_MOST_RATE) be_int) ba_nil))) (be_one (be_cmp ob_gt (be_ix (be_var 1 (pv 1)) be_int (fun _ _ => rfl)) be_int (nomark _)))))))))
theorem sc_are_channels : FnScope N_are_channels P_are_channels (defScope s_are_channels) := ⟨rfl, rfl, rfl, by decide +kernel, rfl, by decide +kernel, by decide +kernel⟩
theorem ok_are_channels (T : Txt P K mg base fA fD τ γ) : FnG P w K mg base 5 (fA 13) (fD 13) P_are_channels (spD K mg 2 d_are_channels) := by
  refine fnG_den (k := 4) false T.d_are_channels.F sc_are_channels (by decide) fun cd A outer s H E gd hr => ?_
  exact (bss_cons (bs_if (bt_w (bw_or (bt_not (bt_val (be_call (ok_is_sequence T) (hr.mono (by decide)) gd (takes_of rfl rfl rfl rfl) rfl T.d_is_sequence.m T.d_is_sequence.F.kp T.d_is_sequence.b (ba_cons (be_var 1 (pv 1)) ba_nil)))) (bw_or1 (bt_not (bt_chain ob_le ob_le be_int (be_callB cb_len rfl T.n_len bb_len (ba_cons (be_var 1 (pv 1)) ba_nil)) (be_gint rfl T.c_MOST_CHANNELS)))))) (bss_one (bs_ret be_bl)) bss_nil)
      (bss_one (bs_ret (be_callB (cb_all rfl) rfl T.n_all bb_all (ba_cons (be_lc (own := [("one", 2)]) false rfl sc_are_channels.nd (blkOk_by (N := N_are_channels) (sc := defScope s_are_channels) (by decide +kernel)) (by decide) (bi_seq (be_var 1 (pv 1))) (fun _ _ _ _ _ => (bg_name (pg_name (i := 2) sc_are_channels.nd rfl (by first | exact .inl rfl | exact .inr rfl)))) (fun _ _ _ _ _ => bts_nil) (fun _ _ _ _ _ => (be_call (ok_is_channel T) (hr.mono (by decide)) gd L2.takes0 rfl T.d_is_channel.m T.d_is_channel.F.kp T.d_is_channel.b (ba_cons (be_var 0 (pv 0)) (ba_cons (be_var 2 (pv 2)) ba_nil))))) ba_nil)))))
theorem sc_check_setup : FnScope N_check_setup P_check_setup (defScope s_check_setup) := ⟨rfl, rfl, rfl, by decide +kernel, rfl, by decide +kernel, by decide +kernel⟩
theorem ok_check_setup (T : Txt P K mg base fA fD τ γ) : FnG P w K mg base 6 (fA 14) (fD 14) P_check_setup (spD K mg 1 d_check_setup) := by
  refine fnG_den (k := 5) false T.d_check_setup.F sc_check_setup (by decide) fun cd A outer s H E gd hr => ?_
  exact (bss_cons (bs_if (bt_w (bw_or (bt_not (bt_val (be_call (ok_is_sequence T) (hr.mono (by decide)) gd (takes_of rfl rfl rfl rfl) rfl T.d_is_sequence.m T.d_is_sequence.F.kp T.d_is_sequence.b (ba_cons (be_var 0 (pv 0)) ba_nil)))) (bw_or1 (bt_cmp (ob_ne (hu64 hr)) (be_callB cb_len rfl T.n_len bb_len (ba_cons (be_var 0 (pv 0)) ba_nil)) be_int (nomark _))))) (bss_one (bs_raise rfl (takes_of rfl rfl rfl rfl) T.e_BadSetup (hr.mono (by decide)) rfl (be_neg be_int))) bss_nil)
      (bss_cons (bs_if (bt_not (bt_val (be_call (ok_are_sources T) (hr.mono (by decide)) gd (takes_of rfl rfl rfl rfl) rfl T.d_are_sources.m T.d_are_sources.F.kp T.d_are_sources.b (ba_cons (be_ix (be_var 0 (pv 0)) be_int (fun _ _ => rfl)) ba_nil)))) (bss_one (bs_raise rfl (takes_of rfl rfl rfl rfl) T.e_BadSetup (hr.mono (by decide)) rfl be_int)) bss_nil)
      (bss_cons (bs_if (bt_not (bt_val (be_call (ok_is_span T) (hr.mono (by decide)) gd (takes_of rfl rfl rfl rfl) rfl T.d_is_span.m T.d_is_span.F.kp T.d_is_span.b (ba_cons (be_ix (be_var 0 (pv 0)) be_int (fun _ _ => rfl)) (ba_cons be_int (ba_cons (be_gint rfl T.c_MOST_TICKS) ba_nil)))))) (bss_one (bs_raise rfl (takes_of rfl rfl rfl rfl) T.e_BadSetup (hr.mono (by decide)) rfl be_int)) bss_nil)
      (bss_cons (bs_if (bt_not (bt_val (be_call (ok_are_channels T) (hr.mono (by decide)) gd (takes_of rfl rfl rfl rfl) rfl T.d_are_channels.m T.d_are_channels.F.kp T.d_are_channels.b (ba_cons (be_ix (be_var 0 (pv 0)) be_int (fun _ _ => rfl)) (ba_cons (be_ix (be_var 0 (pv 0)) be_int (fun _ _ => rfl)) ba_nil))))) (bss_one (bs_raise rfl (takes_of rfl rfl rfl rfl) T.e_BadSetup (hr.mono (by decide)) rfl be_int)) bss_nil)
      (bss_cons (bs_asg (be_var 0 (pv 0)) (bg_tup rfl (bgs_cons (bg_name (pg_name (i := 1) sc_check_setup.nd rfl (.inl rfl))) (bgs_cons (bg_name (pg_name (i := 2) sc_check_setup.nd rfl (.inl rfl))) (bgs_cons (bg_name (pg_name (i := 3) sc_check_setup.nd rfl (.inl rfl))) bgs_nil)))))
      (bss_one (bs_ret (be_tup (ba_cons (be_callTy cb_tuple rfl T.n_tuple bb_tuple (ba_cons (be_lc (own := [("one", 4)]) false rfl sc_check_setup.nd (blkOk_by (N := N_check_setup) (sc := defScope s_check_setup) (by decide +kernel)) (by decide) (bi_seq (be_var 1 (pv 1))) (fun _ _ _ _ _ => (bg_name (pg_name (i := 4) sc_check_setup.nd rfl (by first | exact .inl rfl | exact .inr rfl)))) (fun _ _ _ _ _ => bts_nil) (fun _ _ _ _ _ => (be_callTy cb_tuple rfl T.n_tuple bb_tuple (ba_cons (be_var 4 (pv 4)) ba_nil)))) ba_nil)) (ba_cons (be_callTy cb_tuple rfl T.n_tuple bb_tuple (ba_cons (be_var 2 (pv 2)) ba_nil)) (ba_cons (be_callTy cb_tuple rfl T.n_tuple bb_tuple (ba_cons (be_lc (own := [("one", 4)]) false rfl sc_check_setup.nd (blkOk_by (N := N_check_setup) (sc := defScope s_check_setup) (by decide +kernel)) (by decide) (bi_seq (be_var 3 (pv 3))) (fun _ _ _ _ _ => (bg_name (pg_name (i := 4) sc_check_setup.nd rfl (by first | exact .inl rfl | exact .inr rfl)))) (fun _ _ _ _ _ => bts_nil) (fun _ _ _ _ _ => (be_callTy cb_tuple rfl T.n_tuple bb_tuple (ba_cons (be_var 4 (pv 4)) ba_nil)))) ba_nil)) ba_nil)))))))))))
theorem sc_check_fine : FnScope N_check_fine P_check_fine (defScope s_check_fine) := ⟨rfl, rfl, rfl, by decide +kernel, rfl, by decide +kernel, by decide +kernel⟩
theorem ok_check_fine (T : Txt P K mg base fA fD τ γ) : FnG P w K mg base 7 (fA 15) (fD 15) P_check_fine (spD K mg 1 d_check_fine) := by
  refine fnG_den (k := 6) false T.d_check_fine.F sc_check_fine (by decide) fun cd A outer s H E gd hr => ?_
  exact (bss_cons (bs_set (i := 1) sc_check_fine.nd rfl (.inl rfl) (be_call (ok_check_setup T) (hr.mono (by decide)) gd (takes_of rfl rfl rfl rfl) rfl T.d_check_setup.m T.d_check_setup.F.kp T.d_check_setup.b (ba_cons (be_var 0 (pv 0)) ba_nil)))
      (bss_cons (bs_if (bt_cmp (ob_ne (hu64 hr)) (be_ix (be_ix (be_var 1 (pv 1)) be_int (fun _ _ => rfl)) be_int (fun _ _ => rfl)) be_int (nomark _)) (bss_one (bs_raise rfl (takes_of rfl rfl rfl rfl) T.e_Refused (hr.mono (by decide)) rfl (be_var 0 (pv 0)))) bss_nil)
      (bss_one (bs_ret (be_var 1 (pv 1))))))
theorem sc_frame_ticks : FnScope N_frame_ticks P_frame_ticks (defScope s_frame_ticks) := ⟨rfl, rfl, rfl, by decide +kernel, rfl, by decide +kernel, by decide +kernel⟩
theorem ok_frame_ticks (T : Txt P K mg base fA fD τ γ) : FnG P w K mg base 1 (fA 16) (fD 16) P_frame_ticks (spD K mg 1 d_frame_ticks) := by
  refine fnG_den (k := 0) false T.d_frame_ticks.F sc_frame_ticks (by decide) fun cd A outer s H E gd hr => ?_
  exact (bss_one (bs_ret (be_op (ob_mul false) (be_ix (be_var 0 (pv 0)) be_int (fun _ _ => rfl)) (be_ix (be_var 0 (pv 0)) be_int (fun _ _ => rfl)))))
theorem sc_most_of : FnScope N_most_of P_most_of (defScope s_most_of) := ⟨rfl, rfl, rfl, by decide +kernel, rfl, by decide +kernel, by decide +kernel⟩
theorem ok_most_of (T : Txt P K mg base fA fD τ γ) : FnG P w K mg base 2 (fA 17) (fD 17) P_most_of (spD K mg 2 d_most_of) := by
  refine fnG_den (k := 1) false T.d_most_of.F sc_most_of (by decide) fun cd A outer s H E gd hr => ?_
  exact (bss_cons (bs_asg (be_var 0 (pv 0)) (bg_tup rfl (bgs_cons (bg_name (pg_name (i := 2) sc_most_of.nd rfl (.inl rfl))) (bgs_cons (bg_name (pg_name (i := 3) sc_most_of.nd rfl (.inl rfl))) (bgs_cons (bg_name (pg_name (i := 4) sc_most_of.nd rfl (.inl rfl))) (bgs_cons (bg_name (pg_name (i := 5) sc_most_of.nd rfl (.inl rfl))) (bgs_cons (bg_name (pg_name (i := 6) sc_most_of.nd rfl (.inl rfl))) (bgs_cons (bg_name (pg_name (i := 7) sc_most_of.nd rfl (.inl rfl))) bgs_nil))))))))
      (bss_one (bs_ret (be_op (ob_add false) (be_op ob_fdiv (be_op ob_sub (be_op (ob_add false) (be_var 1 (pv 1)) (be_var 5 (pv 5))) (be_var 4 (pv 4))) (be_call (ok_frame_ticks T) (hr.mono (by decide)) gd (takes_of rfl rfl rfl rfl) rfl T.d_frame_ticks.m T.d_frame_ticks.F.kp T.d_frame_ticks.b (ba_cons (be_var 0 (pv 0)) ba_nil))) be_int))))
theorem sc_most_rows : FnScope N_most_rows P_most_rows (defScope s_most_rows) := ⟨rfl, rfl, rfl, by decide +kernel, rfl, by decide +kernel, by decide +kernel⟩
theorem ok_most_rows (T : Txt P K mg base fA fD τ γ) : FnG P w K mg base 8 (fA 18) (fD 18) P_most_rows (spD K mg 2 d_most_rows) := by
  refine fnG_den (k := 7) false T.d_most_rows.F sc_most_rows (by decide) fun cd A outer s H E gd hr => ?_
  exact (bss_cons (bs_set (i := 2) sc_most_rows.nd rfl (.inl rfl) (be_call (ok_check_fine T) (hr.mono (by decide)) gd (takes_of rfl rfl rfl rfl) rfl T.d_check_fine.m T.d_check_fine.F.kp T.d_check_fine.b (ba_cons (be_var 0 (pv 0)) ba_nil)))
      (bss_cons (bs_if (bt_not (bt_val (be_call (ok_is_number T) (hr.mono (by decide)) gd (takes_of rfl rfl rfl rfl) rfl T.d_is_number.m T.d_is_number.F.kp T.d_is_number.b (ba_cons (be_var 1 (pv 1)) ba_nil)))) (bss_one (bs_raise rfl (takes_of rfl rfl rfl rfl) T.e_Refused (hr.mono (by decide)) rfl (be_var 1 (pv 1)))) bss_nil)
      (bss_one (bs_ret (be_callB (cb_sum rfl) rfl T.n_sum bb_sum (ba_cons (be_lc (own := [("source", 3)]) false rfl sc_most_rows.nd (blkOk_by (N := N_most_rows) (sc := defScope s_most_rows) (by decide +kernel)) (by decide) (bi_seq (be_ix (be_var 2 (pv 2)) be_int (fun _ _ => rfl))) (fun _ _ _ _ _ => (bg_name (pg_name (i := 3) sc_most_rows.nd rfl (by first | exact .inl rfl | exact .inr rfl)))) (fun _ _ _ _ _ => bts_nil) (fun _ _ _ _ _ => (be_call (ok_most_of T) (hr.mono (by decide)) gd L2.takes0 rfl T.d_most_of.m T.d_most_of.F.kp T.d_most_of.b (ba_cons (be_var 3 (pv 3)) (ba_cons (be_var 1 (pv 1)) ba_nil))))) ba_nil))))))
theorem sc_need_row_count : FnScope N_need_row_count P_need_row_count (defScope s_need_row_count) := ⟨rfl, rfl, rfl, by decide +kernel, rfl, by decide +kernel, by decide +kernel⟩
theorem ok_need_row_count (T : Txt P K mg base fA fD τ γ) : FnG P w K mg base 4 (fA 19) (fD 19) P_need_row_count (spD K mg 1 d_need_row_count) := by
  refine fnG_den (k := 3) false T.d_need_row_count.F sc_need_row_count (by decide) fun cd A outer s H E gd hr => ?_
  exact (bss_cons (bs_if (bt_w (bw_or (bt_not (bt_val (be_call (ok_is_below T) (hr.mono (by decide)) gd (takes_of rfl rfl rfl rfl) rfl T.d_is_below.m T.d_is_below.F.kp T.d_is_below.b (ba_cons (be_var 0 (pv 0)) (ba_cons (be_op (ob_add false) (be_gint rfl T.c_MOST_ROWS) be_int) ba_nil))))) (bw_or1 (bt_cmp (ob_eq (hu64 hr)) (be_var 0 (pv 0)) be_int (nomark _))))) (bss_one (bs_raise rfl (takes_of rfl rfl rfl rfl) T.e_Refused (hr.mono (by decide)) rfl (be_var 0 (pv 0)))) bss_nil)
      (bss_one (bs_ret (be_var 0 (pv 0)))))
theorem sc_least_ticks : FnScope N_least_ticks P_least_ticks (defScope s_least_ticks) := ⟨rfl, rfl, rfl, by decide +kernel, rfl, by decide +kernel, by decide +kernel⟩
theorem ok_least_ticks (T : Txt P K mg base fA fD τ γ) : FnG P w K mg base 9 (fA 20) (fD 20) P_least_ticks (spD K mg 2 d_least_ticks) := by
  refine fnG_den (k := 8) false T.d_least_ticks.F sc_least_ticks (by decide) fun cd A outer s H E gd hr => ?_
  exact (bss_cons (bs_set (i := 2) sc_least_ticks.nd rfl (.inl rfl) (be_call (ok_check_fine T) (hr.mono (by decide)) gd (takes_of rfl rfl rfl rfl) rfl T.d_check_fine.m T.d_check_fine.F.kp T.d_check_fine.b (ba_cons (be_var 0 (pv 0)) ba_nil)))
      (bss_cons (bs_expr (be_call (ok_need_row_count T) (hr.mono (by decide)) gd (takes_of rfl rfl rfl rfl) rfl T.d_need_row_count.m T.d_need_row_count.F.kp T.d_need_row_count.b (ba_cons (be_var 1 (pv 1)) ba_nil)))
      (bss_cons (bs_par (i := 3) (j := 4) rfl sc_least_ticks.nd rfl rfl (by decide) rfl rfl (ba_cons be_int (ba_cons (be_op (ob_mul false) (be_var 1 (pv 1)) (be_callB (cb_min rfl) rfl T.n_min bb_min (ba_cons (be_lc (own := [("source", 6)]) false rfl sc_least_ticks.nd (blkOk_by (N := N_least_ticks) (sc := defScope s_least_ticks) (by decide +kernel)) (by decide) (bi_seq (be_ix (be_var 2 (pv 2)) be_int (fun _ _ => rfl))) (fun _ _ _ _ _ => (bg_name (pg_name (i := 6) sc_least_ticks.nd rfl (by first | exact .inl rfl | exact .inr rfl)))) (fun _ _ _ _ _ => bts_nil) (fun _ _ _ _ _ => (be_call (ok_frame_ticks T) (hr.mono (by decide)) gd L2.takes0 rfl T.d_frame_ticks.m T.d_frame_ticks.F.kp T.d_frame_ticks.b (ba_cons (be_var 6 (pv 6)) ba_nil)))) ba_nil))) ba_nil)) rfl)
      (bss_cons (bs_while 100000 (passes_of rfl) (bt_cmp ob_lt (be_var 3 (pv 3)) (be_var 4 (pv 4)) (nomark _))
      (bss_cons (bs_set (i := 5) sc_least_ticks.nd rfl (.inl rfl) (be_op ob_fdiv (be_op (ob_add false) (be_var 3 (pv 3)) (be_var 4 (pv 4))) be_int))
      (bss_one (bs_if (bt_cmp ob_ge (be_call (ok_most_rows T) (hr.mono (by decide)) gd (takes_of rfl rfl rfl rfl) rfl T.d_most_rows.m T.d_most_rows.F.kp T.d_most_rows.b (ba_cons (be_var 2 (pv 2)) (ba_cons (be_var 5 (pv 5)) ba_nil))) (be_var 1 (pv 1)) (nomark _)) (bss_one (bs_set (i := 4) sc_least_ticks.nd rfl (.inl rfl) (be_var 5 (pv 5)))) (bss_one (bs_set (i := 3) sc_least_ticks.nd rfl (.inl rfl) (be_op (ob_add false) (be_var 5 (pv 5)) be_int)))))))
      (bss_one (bs_ret (be_var 3 (pv 3))))))))
theorem sc_law_pick : FnScope N_law_pick P_law_pick (defScope s_law_pick) := ⟨rfl, rfl, rfl, by decide +kernel, rfl, by decide +kernel, by decide +kernel⟩
theorem ok_law_pick (T : Txt P K mg base fA fD τ γ) : FnG P w K mg base 2 (fA 21) (fD 21) P_law_pick (spD K mg 2 d_law_pick) := by
  refine fnG_den (k := 1) false T.d_law_pick.F sc_law_pick (by decide) fun cd A outer s H E gd hr => ?_
  exact (bss_one (bs_ret (be_ix (be_var 1 (pv 1)) (be_call (ok_law_take T) (hr.mono (by decide)) gd (takes_of rfl rfl rfl rfl) rfl T.d_law_take.m T.d_law_take.F.kp T.d_law_take.b (ba_cons (be_var 0 (pv 0)) (ba_cons (be_callB cb_len rfl T.n_len bb_len (ba_cons (be_var 1 (pv 1)) ba_nil)) ba_nil))) (fun _ _ => rfl))))
theorem sc_law_bad_setup : FnScope N_law_bad_setup P_law_bad_setup (defScope s_law_bad_setup) := ⟨rfl, rfl, rfl, by decide +kernel, rfl, by decide +kernel, by decide +kernel⟩
theorem ok_law_bad_setup (T : Txt P K mg base fA fD τ γ) : FnG P w K mg base 3 (fA 22) (fD 22) P_law_bad_setup (spD K mg 2 d_law_bad_setup) := by
  refine fnG_den (k := 2) false T.d_law_bad_setup.F sc_law_bad_setup (by decide) fun cd A outer s H E gd hr => ?_
  exact (bss_cons (bs_asg (be_var 1 (pv 1)) (bg_tup rfl (bgs_cons (bg_name (pg_name (i := 2) sc_law_bad_setup.nd rfl (.inl rfl))) (bgs_cons (bg_name (pg_name (i := 3) sc_law_bad_setup.nd rfl (.inl rfl))) (bgs_cons (bg_name (pg_name (i := 4) sc_law_bad_setup.nd rfl (.inl rfl))) bgs_nil)))))
      (bss_cons (bs_set (i := 5) sc_law_bad_setup.nd rfl (.inl rfl) (be_lst false (ba_cons (be_lst false (ba_cons be_non (ba_cons (be_tup (ba_cons be_str (ba_cons (be_op ob_sub be_int be_int) (ba_cons be_bl ba_nil)))) ba_nil))) (ba_cons (be_lst false (ba_cons (be_tup (ba_cons (be_var 2 (pv 2)) (ba_cons (be_var 3 (pv 3)) ba_nil))) (ba_cons (be_tup (ba_cons be_str (ba_cons (be_op ob_sub be_int be_int) (ba_cons be_bl ba_nil)))) ba_nil))) (ba_cons (be_lst false (ba_cons (be_tup (ba_cons (be_tup ba_nil) (ba_cons (be_var 3 (pv 3)) (ba_cons (be_var 4 (pv 4)) ba_nil)))) (ba_cons (be_tup (ba_cons be_str (ba_cons be_int (ba_cons be_bl ba_nil)))) ba_nil))) ba_nil)))))
      (bss_cons (bs_set (i := 5) sc_law_bad_setup.nd rfl (.inl rfl) (be_op (ob_add false) (be_var 5 (pv 5)) (be_lst false (ba_cons (be_lst false (ba_cons (be_tup (ba_cons (be_var 2 (pv 2)) (ba_cons (be_tup (ba_cons be_int (ba_cons be_int ba_nil))) (ba_cons (be_var 4 (pv 4)) ba_nil)))) (ba_cons (be_tup (ba_cons be_str (ba_cons be_int (ba_cons be_bl ba_nil)))) ba_nil))) (ba_cons (be_lst false (ba_cons (be_tup (ba_cons (be_var 2 (pv 2)) (ba_cons (be_var 3 (pv 3)) (ba_cons (be_tup ba_nil) ba_nil)))) (ba_cons (be_tup (ba_cons be_str (ba_cons be_int (ba_cons be_bl ba_nil)))) ba_nil))) ba_nil)))))
      (bss_cons (bs_set (i := 6) sc_law_bad_setup.nd rfl (.inl rfl) (be_tup (ba_cons (be_var 2 (pv 2)) (ba_cons (be_tup (ba_cons be_int (ba_cons be_int ba_nil))) (ba_cons (be_var 4 (pv 4)) ba_nil)))))
      (bss_one (bs_ret (be_call (ok_law_pick T) (hr.mono (by decide)) gd (takes_of rfl rfl rfl rfl) rfl T.d_law_pick.m T.d_law_pick.F.kp T.d_law_pick.b (ba_cons (be_var 0 (pv 0)) (ba_cons (be_op (ob_add false) (be_var 5 (pv 5)) (be_op (ob_mul false) (be_lst false (ba_cons (be_lst false (ba_cons (be_var 6 (pv 6)) (ba_cons (be_tup (ba_cons be_str (ba_cons (be_callB (cb_repr gd (hu65 hr)) rfl T.n_repr bb_repr (ba_cons (be_var 6 (pv 6)) ba_nil)) (ba_cons be_bl ba_nil)))) ba_nil))) ba_nil)) be_int)) ba_nil)))))))))
theorem sc_law : FnScope N_law P_law (defScope s_law) := ⟨rfl, rfl, rfl, by decide +kernel, rfl, by decide +kernel, by decide +kernel⟩
theorem ok_law (T : Txt P K mg base fA fD τ γ) : FnG P w K mg base 12 (fA 23) (fD 23) P_law (spD K mg 1 (d_law τ)) := by
  refine fnG_denC (k := 11) false T.c_law sc_law (by decide) fun A outer s H E gd hr => ?_
  exact (bss_cons (bs_for (passes_of rfl) rfl (bi_range1 rfl T.n_range be_int) (bg_name (pg_name (i := 1) sc_law.nd rfl (.inl rfl)))
      (bss_cons (bs_set (i := 2) sc_law.nd rfl (.inl rfl) (be_call (ok_law_box T) (hr.mono (by decide)) gd (takes_of rfl rfl rfl rfl) rfl T.d_law_box.m T.d_law_box.F.kp T.d_law_box.b (ba_cons (be_var 0 (pv 0)) (ba_cons (be_var 1 (pv 1)) ba_nil))))
      (bss_cons (bs_set (i := 3) sc_law.nd rfl (.inr rfl) (be_call (ok_law_setup T) (hr.mono (by decide)) gd (takes_of rfl rfl rfl rfl) rfl T.d_law_setup.m T.d_law_setup.F.kp T.d_law_setup.b (ba_cons (be_var 2 (pv 2)) (ba_cons be_int (ba_cons be_int ba_nil)))))
      (bss_cons (bs_set (i := 4) sc_law.nd rfl (.inl rfl) (be_lst false (ba_cons (be_lc (own := [("_law_source", 11)]) false rfl sc_law.nd (blkOk_by (N := N_law) (sc := defScope s_law) (by decide +kernel)) (by decide) (bi_seq (be_ix (be_var 3 (pv 3)) be_int (fun _ _ => rfl))) (fun _ _ _ _ _ => (bg_name (pg_name (i := 11) sc_law.nd rfl (by first | exact .inl rfl | exact .inr rfl)))) (fun _ _ _ _ _ => bts_nil) (fun _ _ _ _ _ => (be_callTy (cb_listD false rfl) rfl T.n_list bb_list (ba_cons (be_var 11 (pv 11)) ba_nil)))) (ba_cons (be_callTy (cb_listD false rfl) rfl T.n_list bb_list (ba_cons (be_ix (be_var 3 (pv 3)) be_int (fun _ _ => rfl)) ba_nil)) (ba_cons (be_lc (own := [("_law_channel", 12)]) false rfl sc_law.nd (blkOk_by (N := N_law) (sc := defScope s_law) (by decide +kernel)) (by decide) (bi_seq (be_ix (be_var 3 (pv 3)) be_int (fun _ _ => rfl))) (fun _ _ _ _ _ => (bg_name (pg_name (i := 12) sc_law.nd rfl (by first | exact .inl rfl | exact .inr rfl)))) (fun _ _ _ _ _ => bts_nil) (fun _ _ _ _ _ => (be_callTy (cb_listD false rfl) rfl T.n_list bb_list (ba_cons (be_var 12 (pv 12)) ba_nil)))) ba_nil)))))
      (bss_cons (bs_set (i := 5) sc_law.nd rfl (.inr rfl) (be_call (ok_law_most T) (hr.mono (by decide)) gd (takes_of rfl rfl rfl rfl) rfl T.d_law_most.m T.d_law_most.F.kp T.d_law_most.b (ba_cons (be_var 3 (pv 3)) (ba_cons be_int (ba_cons be_int ba_nil)))))
      (bss_cons (bs_for (passes_of rfl) rfl (bi_range1 rfl T.n_range be_int) (bg_name (pg_name (i := 6) sc_law.nd rfl (.inl rfl)))
      (bss_one (bs_if (bt_cmp (ob_ne (hu64 hr)) (be_callB (cb_repr gd (hu65 hr)) rfl T.n_repr bb_repr (ba_cons (be_lst false (ba_cons (be_call (ok_most_rows T) (hr.mono (by decide)) gd (takes_of rfl rfl rfl rfl) rfl T.d_most_rows.m T.d_most_rows.F.kp T.d_most_rows.b (ba_cons (be_var 3 (pv 3)) (ba_cons (be_var 6 (pv 6)) ba_nil))) (ba_cons (be_callK0 (π := [1, 0]) (ks := ["ticks", "setup"]) (ok_most_rows T) (hr.mono (by decide)) gd (takes_of rfl rfl rfl rfl) rfl T.d_most_rows.m T.d_most_rows.F.kp T.kw_most_rows_0_ticks_setup (bk_cons (be_var 6 (pv 6)) (bk_cons (be_var 4 (pv 4)) bk_nil))) ba_nil))) ba_nil)) (be_callB (cb_repr gd (hu65 hr)) rfl T.n_repr bb_repr (ba_cons (be_op (ob_mul false) (be_lst false (ba_cons (be_ix (be_var 5 (pv 5)) (be_var 6 (pv 6)) (fun _ _ => rfl)) ba_nil)) be_int) ba_nil)) (nomark _)) (bss_one (bs_ret be_bl)) bss_nil)))
      (bss_cons (bs_for (passes_of rfl) rfl (bi_range2 rfl T.n_range be_int (be_op (ob_add false) (be_callB (cb_max rfl) rfl T.n_max bb_max (ba_cons (be_var 5 (pv 5)) ba_nil)) be_int)) (bg_name (pg_name (i := 7) sc_law.nd rfl (.inr rfl)))
      (bss_cons (bs_set (i := 8) sc_law.nd rfl (.inl rfl) (be_ix (be_lc (own := [("_law_ticks", 6)]) false rfl sc_law.nd (blkOk_by (N := N_law) (sc := defScope s_law) (by decide +kernel)) (by decide) (bi_range1 rfl T.n_range be_int) (fun _ _ _ _ _ => (bg_name (pg_name (i := 6) sc_law.nd rfl (by first | exact .inl rfl | exact .inr rfl)))) (fun _ _ _ _ _ => (bts_one (bt_cmp ob_ge (be_ix (be_var 5 (pv 5)) (be_var 6 (pv 6)) (fun _ _ => rfl)) (be_var 7 (pv 7)) (nomark _)))) (fun _ _ _ _ _ => (be_var 6 (pv 6)))) be_int (fun _ _ => rfl)))
      (bss_one (bs_if (bt_cmp (ob_ne (hu64 hr)) (be_callB (cb_repr gd (hu65 hr)) rfl T.n_repr bb_repr (ba_cons (be_lst false (ba_cons (be_call (ok_least_ticks T) (hr.mono (by decide)) gd (takes_of rfl rfl rfl rfl) rfl T.d_least_ticks.m T.d_least_ticks.F.kp T.d_least_ticks.b (ba_cons (be_var 3 (pv 3)) (ba_cons (be_var 7 (pv 7)) ba_nil))) (ba_cons (be_callK0 (π := [1, 0]) (ks := ["many", "setup"]) (ok_least_ticks T) (hr.mono (by decide)) gd (takes_of rfl rfl rfl rfl) rfl T.d_least_ticks.m T.d_least_ticks.F.kp T.kw_least_ticks_0_many_setup (bk_cons (be_var 7 (pv 7)) (bk_cons (be_var 4 (pv 4)) bk_nil))) ba_nil))) ba_nil)) (be_callB (cb_repr gd (hu65 hr)) rfl T.n_repr bb_repr (ba_cons (be_lst false (ba_cons (be_var 8 (pv 8)) (ba_cons (be_var 8 (pv 8)) ba_nil))) ba_nil)) (nomark _)) (bss_one (bs_ret be_bl)) bss_nil))))
      (bss_cons (bs_set (i := 6) sc_law.nd rfl (.inl rfl) (be_call (ok_least_ticks T) (hr.mono (by decide)) gd (takes_of rfl rfl rfl rfl) rfl T.d_least_ticks.m T.d_least_ticks.F.kp T.d_least_ticks.b (ba_cons (be_var 3 (pv 3)) (ba_cons be_int ba_nil))))
      (bss_cons (bs_if (bt_w (bw_or (bt_cmp ob_lt (be_call (ok_most_rows T) (hr.mono (by decide)) gd (takes_of rfl rfl rfl rfl) rfl T.d_most_rows.m T.d_most_rows.F.kp T.d_most_rows.b (ba_cons (be_var 3 (pv 3)) (ba_cons (be_var 6 (pv 6)) ba_nil))) be_int (nomark _)) (bw_or1 (bt_w (bw_and (bt_cmp ob_gt (be_var 6 (pv 6)) be_int (nomark _)) (bw_and1 (bt_cmp ob_ge (be_call (ok_most_rows T) (hr.mono (by decide)) gd (takes_of rfl rfl rfl rfl) rfl T.d_most_rows.m T.d_most_rows.F.kp T.d_most_rows.b (ba_cons (be_var 3 (pv 3)) (ba_cons (be_op ob_sub (be_var 6 (pv 6)) be_int) ba_nil))) be_int (nomark _)))))))) (bss_one (bs_ret be_bl)) bss_nil)
      (bss_cons (bs_asg (be_call (ok_law_bad_setup T) (hr.mono (by decide)) gd (takes_of rfl rfl rfl rfl) rfl T.d_law_bad_setup.m T.d_law_bad_setup.F.kp T.d_law_bad_setup.b (ba_cons (be_var 2 (pv 2)) (ba_cons (be_var 3 (pv 3)) ba_nil))) (bg_tup rfl (bgs_cons (bg_name (pg_name (i := 9) sc_law.nd rfl (.inr rfl))) (bgs_cons (bg_name (pg_name (i := 8) sc_law.nd rfl (.inl rfl))) bgs_nil))))
      (bss_cons (bs_if (bt_cmp (ob_ne (hu64 hr)) (be_lamD (k := 8) (P := τ 0) (c := γ 0) T.d_law_heard sc_law_heard (fun cdv => gv_law_heard T gd) T.t_law (hr.mono (by decide)) gd (lamS_by (sc := defScope s_law) (by decide +kernel)) (fun A outer s H E f c2 gd hr => (be_call (ok_most_rows T) (hr.mono (by decide)) gd (takes_of rfl rfl rfl rfl) rfl T.d_most_rows.m T.d_most_rows.F.kp T.d_most_rows.b (ba_cons (be_var 9 (pv 9)) (ba_cons be_non ba_nil))))) (be_var 8 (pv 8)) (nomark _)) (bss_one (bs_ret be_bl)) bss_nil)
      (bss_cons (bs_if (bt_cmp (ob_ne (hu64 hr)) (be_lamD (k := 9) (P := τ 0) (c := γ 0) T.d_law_heard sc_law_heard (fun cdv => gv_law_heard T gd) T.t_law (hr.mono (by decide)) gd (lamS_by (sc := defScope s_law) (by decide +kernel)) (fun A outer s H E f c2 gd hr => (be_call (ok_least_ticks T) (hr.mono (by decide)) gd (takes_of rfl rfl rfl rfl) rfl T.d_least_ticks.m T.d_least_ticks.F.kp T.d_least_ticks.b (ba_cons (be_var 9 (pv 9)) (ba_cons be_non ba_nil))))) (be_var 8 (pv 8)) (nomark _)) (bss_one (bs_ret be_bl)) bss_nil)
      (bss_cons (bs_set (i := 10) sc_law.nd rfl (.inr rfl) (be_call (ok_law_pick T) (hr.mono (by decide)) gd (takes_of rfl rfl rfl rfl) rfl T.d_law_pick.m T.d_law_pick.F.kp T.d_law_pick.b (ba_cons (be_var 2 (pv 2)) (ba_cons (be_lst false (ba_cons be_non (ba_cons (be_op ob_sub be_int be_int) (ba_cons be_bl (ba_cons be_str ba_nil))))) ba_nil))))
      (bss_cons (bs_if (bt_cmp (ob_ne (hu64 hr)) (be_lamD (k := 8) (P := τ 0) (c := γ 0) T.d_law_heard sc_law_heard (fun cdv => gv_law_heard T gd) T.t_law (hr.mono (by decide)) gd (lamS_by (sc := defScope s_law) (by decide +kernel)) (fun A outer s H E f c2 gd hr => (be_call (ok_most_rows T) (hr.mono (by decide)) gd (takes_of rfl rfl rfl rfl) rfl T.d_most_rows.m T.d_most_rows.F.kp T.d_most_rows.b (ba_cons (be_var 3 (pv 3)) (ba_cons (be_var 10 (pv 10)) ba_nil))))) (be_tup (ba_cons be_str (ba_cons (be_callB (cb_repr gd (hu65 hr)) rfl T.n_repr bb_repr (ba_cons (be_var 10 (pv 10)) ba_nil)) (ba_cons be_bl ba_nil)))) (nomark _)) (bss_one (bs_ret be_bl)) bss_nil)
      (bss_cons (bs_set (i := 10) sc_law.nd rfl (.inr rfl) (be_call (ok_law_pick T) (hr.mono (by decide)) gd (takes_of rfl rfl rfl rfl) rfl T.d_law_pick.m T.d_law_pick.F.kp T.d_law_pick.b (ba_cons (be_var 2 (pv 2)) (ba_cons (be_lst false (ba_cons be_non (ba_cons be_int (ba_cons be_int (ba_cons be_bl (ba_cons be_str ba_nil)))))) ba_nil))))
      (bss_one (bs_if (bt_cmp (ob_ne (hu64 hr)) (be_lamD (k := 9) (P := τ 0) (c := γ 0) T.d_law_heard sc_law_heard (fun cdv => gv_law_heard T gd) T.t_law (hr.mono (by decide)) gd (lamS_by (sc := defScope s_law) (by decide +kernel)) (fun A outer s H E f c2 gd hr => (be_call (ok_least_ticks T) (hr.mono (by decide)) gd (takes_of rfl rfl rfl rfl) rfl T.d_least_ticks.m T.d_least_ticks.F.kp T.d_least_ticks.b (ba_cons (be_var 3 (pv 3)) (ba_cons (be_var 10 (pv 10)) ba_nil))))) (be_tup (ba_cons be_str (ba_cons (be_callB (cb_repr gd (hu65 hr)) rfl T.n_repr bb_repr (ba_cons (be_var 10 (pv 10)) ba_nil)) (ba_cons be_bl ba_nil)))) (nomark _)) (bss_one (bs_ret be_bl)) bss_nil)))))))))))))))))
      (bss_one (bs_ret be_bl)))
end
end K60
namespace K60
open PySem PySem.Spec L2 BV WR
local macro_rules | `(tactic| walk_at "n") => `(tactic| dsimp only [List.set_cons_succ, List.set_cons_zero])
local macro_rules | `(tactic| walk_at "w") => `(tactic| first
  | ((with_reducible refine o_seq ?_); try walk_at "n")
  | ((with_reducible refine o_set ?_); try walk_at "n")
  | ((with_reducible apply w_var); (focus rfl))
  | (with_reducible refine w_c ?_)
  | (with_reducible refine w_f2 ?_)
  | (with_reducible refine w_fA ?_)
  | (with_reducible refine w_cons ?_)
  | (with_reducible refine w_nil ?_)
  | (with_reducible refine w_f1 ?_)
  | ((with_reducible refine w_call ?_ ?_); (focus rfl))
  | ((with_reducible refine o_if ?_); try walk_at "n")
  | ((with_reducible refine o_ret ?_); try dsimp only [rxP, rtP, List.set_cons_succ, List.set_cons_zero])
  | ((with_reducible refine o_expr ?_); try walk_at "n")
  | ((with_reducible refine o_raise ?_); try dsimp only [rxP, rtP, List.set_cons_succ, List.set_cons_zero])
  | ((with_reducible refine o_for ?_); try walk_at "n")
  | ((with_reducible refine o_asg ?_); try walk_at "n")
  | ((with_reducible refine o_par ?_); try walk_at "n")
  | ((with_reducible refine o_par3 ?_); try walk_at "n")
  | ((with_reducible refine o_sto ?_); try walk_at "n")
  | ((with_reducible apply o_aug); (focus rfl); try walk_at "n")
  | ((with_reducible refine o_nil ?_); try walk_at "n")
  | ((with_reducible refine o_retN ?_); try dsimp only [rxP, rtP, List.set_cons_succ, List.set_cons_zero])
  | ((with_reducible refine o_bk ?_); try dsimp only [rxP, rtP, List.set_cons_succ, List.set_cons_zero])
  | ((with_reducible refine o_ct ?_); try dsimp only [rxP, rtP, List.set_cons_succ, List.set_cons_zero])
  | (with_reducible refine w_and ?_)
  | (with_reducible refine w_or ?_)
  | (with_reducible refine w_not ?_)
  | (with_reducible refine w_chain ?_)
  | (with_reducible refine w_chain3 ?_)
  | (with_reducible refine w_yes ?_)
  | (with_reducible refine x_two ?_)
  | (with_reducible refine x_three ?_)
  | ((with_reducible refine x_rg ?_ ?_); (focus (first | omega | (simp only [List.length_map]; omega))))
  | ((with_reducible refine x_rg2 ?_ ?_); (focus (first | omega | (simp only [List.length_map]; omega))))
  | (with_reducible refine x_int ?_)
  | ((with_reducible refine x_tg (tgT2 _) ?_); try walk_at "n")
  | ((with_reducible refine x_tg (tgT3 _) ?_); try walk_at "n")
  | (with_reducible apply w_lenC0; (focus assumption))
  | (with_reducible apply w_tupC0; (focus assumption))
  | (with_reducible apply w_slC0; (focus assumption))
  | (with_reducible apply w_srcC0; (focus assumption))
  | (with_reducible apply x_asL; (focus assumption))
  | (with_reducible apply w_mkD; (focus assumption))
  | (with_reducible apply w_mkD1; (focus assumption))
  | (with_reducible apply w_lenC1; (focus assumption))
  | (with_reducible apply w_tupC1; (focus assumption))
  | (with_reducible apply w_slC1; (focus assumption))
  | (with_reducible apply x_asL1; (focus assumption))
  | (with_reducible refine w_fK0 ?_)
  | (with_reducible refine w_fAK ?_)
  | ((with_reducible apply w_callK0); (focus rfl); (focus (simp only [permL, List.filterMap_cons, List.filterMap_nil, List.getElem?_cons_zero, List.getElem?_cons_succ]; rfl)); (focus rfl))
  | ((with_reducible apply w_callK); (focus rfl); (focus rfl); (focus (simp only [permL, List.cons_append, List.nil_append, List.filterMap_cons, List.filterMap_nil, List.getElem?_cons_zero, List.getElem?_cons_succ]; rfl)); (focus rfl))
  | (with_reducible refine w_mt1 ?_)
  | (with_reducible refine w_sl ?_)
  | (with_reducible refine w_pNo ?_)
  | (with_reducible refine w_pSo ?_)
  | (with_reducible refine w_lc ?_)
  | (with_reducible refine w_src ?_)
  | (with_reducible refine w_srcL ?_)
  | (with_reducible refine w_srcT ?_)
  | (with_reducible refine w_rg1 ?_)
  | (with_reducible refine w_rg2 ?_)
  | (with_reducible refine w_add ?_)
  | (with_reducible refine w_sub ?_)
  | (with_reducible refine w_cmp ?_)
  | (with_reducible refine w_eqi ?_)
  | (with_reducible refine w_nei ?_)
  | (with_reducible refine w_eqs ?_)
  | (with_reducible refine w_nes ?_)
  | (with_reducible refine w_isN ?_)
  | (with_reducible refine w_isNn ?_)
  | (with_reducible refine w_isB ?_)
  | (with_reducible refine w_isBn ?_)
  | (with_reducible refine w_int ?_)
  | (with_reducible refine w_abs ?_)
  | (with_reducible refine w_max ?_)
  | (with_reducible refine w_min ?_)
  | (with_reducible refine w_neg ?_)
  | (with_reducible refine w_mkf ?_)
  | (with_reducible refine w_lenT ?_)
  | (with_reducible refine w_lenL ?_)
  | (with_reducible refine w_lenS ?_)
  | (with_reducible refine w_tupT ?_)
  | (with_reducible refine w_tupL ?_)
  | (with_reducible refine w_slT ?_)
  | (with_reducible refine w_slL ?_)
  | (with_reducible refine w_ix0 ?_)
  | (with_reducible refine w_ix1 ?_)
  | (with_reducible refine w_ix2 ?_)
  | (with_reducible refine w_ix3 ?_)
  | (with_reducible refine w_ixl0 ?_)
  | (with_reducible refine w_ixl1 ?_)
  | (with_reducible refine w_ixl2 ?_)
  | ((with_reducible refine w_lst ?_ ?_); (focus exact Nat.le_of_ble_eq_true rfl))
  | ((with_reducible refine w_tup ?_ ?_); (focus exact Nat.le_of_ble_eq_true rfl))
  | ((with_reducible refine w_mul ?_ ?_); (focus exact cmul_of (by omega)))
  | ((with_reducible refine w_mod ?_ ?_); (focus omega))
  | ((with_reducible refine w_fdiv ?_ ?_); (focus exact And.intro (by omega) (by omega)))
  | (with_reducible refine w_p9 ?_)
  | ((with_reducible refine w_pow ?_ ?_); (focus decide))
  | ((with_reducible apply w_isi); (focus rfl))
  | (with_reducible refine bt_t ?_)
  | (with_reducible refine bt_f ?_)
  | ((with_reducible refine bt_yes ?_ ?_); (focus rfl))
  | ((with_reducible refine bt_nno ?_ ?_); (focus rfl))
  | ((with_reducible refine bt_is ?_ ?_); (focus rfl))
  | ((with_reducible refine bt_isn ?_ ?_); (focus rfl))
  | ((with_reducible refine bt_yes ?_ ?_); (focus omega))
  | ((with_reducible refine bt_no ?_ ?_); (focus omega))
  | ((with_reducible refine bt_eyes ?_ ?_); (focus omega))
  | ((with_reducible refine bt_eno ?_ ?_); (focus omega))
  | ((with_reducible refine bt_neyes ?_ ?_); (focus omega))
  | ((with_reducible refine bt_neno ?_ ?_); (focus omega))
  | (with_reducible apply w_of; (focus assumption)))
local macro_rules | `(tactic| walk_at "g") => `(tactic| repeat walk_at "w")
/-! ### draws -/
def kc : BoxK := ⟨5231, 541, 2147483563, 50159, 2147483563, 58271, 811, 2147483563, 39373, 71, 2147483647, 40692, 37, 2147483563, 2147483629, 8233⟩
theorem tk : Tk d_law_take := takeG (c := kc) (by decide)
theorem pk : Pk d_law_pick := pickG tk
theorem bx : Bx d_law_box := boxG (c := kc) (by decide)
structure SmallS (s : WR.Src) : Prop where
  ok : s.Ok
  l : s.low ≤ 3
  g : s.gap ≤ 3
  e : s.least ≤ 2
structure SmallU (u : Setup) : Prop where
  l0 : 1 ≤ u.S.length
  l1 : u.S.length ≤ 3
  s : ∀ s ∈ u.S, SmallS s
  a : u.a = 1
  b : 1 ≤ u.b ∧ u.b ≤ 3
  k : u.K = [(0, none)]
theorem SmallU.ok {u : Setup} (h : SmallU u) : u.Ok := by
  have l0 := h.l0; have l1 := h.l1; have b := h.b; have a := h.a
  refine ⟨l0, by omega, fun s hs => (h.s s hs).ok, by omega, by omega, by omega, by rw [h.k]; simp, by rw [h.k]; simp, fun c hc => ?_⟩
  rw [h.k] at hc
  simp only [List.mem_singleton] at hc
  subst hc
  exact ⟨Int.le_refl _, by show (0 : Int) < u.S.length; omega, fun i e => by cases e⟩
section
variable {T E C : Cells} {k nn : Nat} {X : XP} {Q : D → Cells → Prop} {u : Setup}
theorem flat_S (S : List WR.Src) : Flat [.lst (S.map sD)] := .one (pures_ok 0 (pures_iff.mpr fun d hd => by
  obtain ⟨s, _, rfl⟩ := List.mem_map.mp hd
  rfl))
theorem w_setup (h : Dn T k nn E) (q : ∀ u E', SmallU u → Dn T k nn E' → Q (setT u) E') : We X Q (d_law_setup [.cel k, .int 3, .int 3] E) := by
  refine w_def [some (.cel k), some (.int 3), some (.int 3), none, none, none, none, none, none] rfl rfl ?_
  unfold b_law_setup
  walk_at "g"
  refine w_takeL tk h (flat_S []) (by decide) (by decide) fun t E1 t0 t1 d1 => ?_
  walk_at "g"
  refine o_range (fun i ρ C => ∃ r4 r5 r6 r7 r8 E, ∃ S : List WR.Src, ρ = [some (.cel k), some (.int 3), some (.int 3), some (.cel nn), r4, r5, r6, r7, r8] ∧ C = E ++ [.lst (S.map sD)] ∧ Dn T k nn E ∧ S.length = i ∧ ∀ s ∈ S, SmallS s) (by omega)
    ⟨_, _, _, _, _, E1, [], rfl, rfl, d1, rfl, by simp⟩ ?_ ?_
  · rintro i ρ C hi ⟨r4, r5, r6, r7, r8, E, S, rfl, rfl, d2, hS, hs⟩
    have F := flat_S S
    walk_at "n"
    walk_at "g"
    refine w_takeL tk d2 F (by decide) (by decide) fun a E3 a0 a1 d3 => ?_
    walk_at "g"
    refine w_takeL tk d3 F (by decide) (by decide) fun b E4 b0 b1 d4 => ?_
    walk_at "g"
    refine w_takeL tk d4 F (by decide) (by decide) fun c E5 c0 c1 d5 => ?_
    walk_at "g"
    have p0 := pos_mul (show 1 ≤ 1 + a by omega) (show 1 ≤ 1 + b by omega)
    have p1 := mul_bd (A := 3) (B := 3) (show 1 ≤ 1 + a by omega) (show 1 ≤ 1 + b by omega) (by omega) (by omega)
    refine w_takeL tk d5 F (by omega) (by omega) fun w E6 w0 w1 d6 => ?_
    walk_at "g"
    refine w_takeL tk d6 F (by decide) (by decide) fun e E7 e0 e1 d7 => ?_
    walk_at "g"
    refine w_takeL tk d7 F (by decide) (by decide) fun f E8 f0 f1 d8 => ?_
    walk_at "g"
    refine w_ap0 d8.l (by simp; omega) ?_
    refine ⟨_, _, _, _, _, E8, S ++ [⟨1 + a, 1 + a + e, c, c + w, 1 + b, 1 + b + f⟩], rfl, by simp, d8, by simp [hS], fun s hs' => ?_⟩
    rcases List.mem_append.mp hs' with z | z
    · exact hs s z
    · simp only [List.mem_singleton] at z
      subst z
      exact ⟨⟨by show 1 ≤ 1 + a; omega, by show 1 + a ≤ 1 + a + e; omega, by show 1 + a + e ≤ 100; omega, c0, by show c ≤ c + w; omega, by show c + w ≤ 1000; omega, by show 1 ≤ 1 + b; omega, by show 1 + b ≤ 1 + b + f; omega, by show 1 + b + f ≤ 1000; omega, by show c + w - c < (1 + a) * (1 + b); omega⟩,
        by show 1 + a ≤ 3; omega, by show 1 + b ≤ 3; omega, by show c ≤ 2; omega⟩
  · rintro ρ C ⟨r4, r5, r6, r7, r8, E, S, rfl, rfl, d2, hS, hs⟩
    have F := flat_S S
    walk_at "g"
    refine w_takeL tk d2 F (by decide) (by decide) fun b E3 b0 b1 d3 => ?_
    walk_at "g"
    have su : SmallU ⟨S, 1, 1 + b, [(0, none)]⟩ := ⟨by show 1 ≤ S.length; omega, by show S.length ≤ 3; omega, hs, rfl, ⟨by show 1 ≤ 1 + b; omega, by show 1 + b ≤ 3; omega⟩, rfl⟩
    exact f_tail d3.fl (by rw [d3.l, h.l]) (pure0_ok _ (sm0_p (setT_sm su.ok))) (q _ _ su d3)
end
end K60
namespace K60
open PySem PySem.Spec L2 BV WR
local macro_rules | `(tactic| walk_at "n") => `(tactic| dsimp only [List.set_cons_succ, List.set_cons_zero])
local macro_rules | `(tactic| walk_at "w") => `(tactic| first
  | ((with_reducible refine o_seq ?_); try walk_at "n")
  | ((with_reducible refine o_set ?_); try walk_at "n")
  | ((with_reducible apply w_var); (focus rfl))
  | (with_reducible refine w_c ?_)
  | (with_reducible refine w_f2 ?_)
  | (with_reducible refine w_fA ?_)
  | (with_reducible refine w_cons ?_)
  | (with_reducible refine w_nil ?_)
  | (with_reducible refine w_f1 ?_)
  | ((with_reducible refine w_call ?_ ?_); (focus rfl))
  | ((with_reducible refine o_if ?_); try walk_at "n")
  | ((with_reducible refine o_ret ?_); try dsimp only [rxP, rtP, List.set_cons_succ, List.set_cons_zero])
  | ((with_reducible refine o_expr ?_); try walk_at "n")
  | ((with_reducible refine o_raise ?_); try dsimp only [rxP, rtP, List.set_cons_succ, List.set_cons_zero])
  | ((with_reducible refine o_for ?_); try walk_at "n")
  | ((with_reducible refine o_asg ?_); try walk_at "n")
  | ((with_reducible refine o_par ?_); try walk_at "n")
  | ((with_reducible refine o_par3 ?_); try walk_at "n")
  | ((with_reducible refine o_sto ?_); try walk_at "n")
  | ((with_reducible apply o_aug); (focus rfl); try walk_at "n")
  | ((with_reducible refine o_nil ?_); try walk_at "n")
  | ((with_reducible refine o_retN ?_); try dsimp only [rxP, rtP, List.set_cons_succ, List.set_cons_zero])
  | ((with_reducible refine o_bk ?_); try dsimp only [rxP, rtP, List.set_cons_succ, List.set_cons_zero])
  | ((with_reducible refine o_ct ?_); try dsimp only [rxP, rtP, List.set_cons_succ, List.set_cons_zero])
  | (with_reducible refine w_and ?_)
  | (with_reducible refine w_or ?_)
  | (with_reducible refine w_not ?_)
  | (with_reducible refine w_chain ?_)
  | (with_reducible refine w_chain3 ?_)
  | (with_reducible refine w_yes ?_)
  | (with_reducible refine x_two ?_)
  | (with_reducible refine x_three ?_)
  | ((with_reducible refine x_rg ?_ ?_); (focus (first | omega | (simp only [List.length_map]; omega))))
  | ((with_reducible refine x_rg2 ?_ ?_); (focus (first | omega | (simp only [List.length_map]; omega))))
  | (with_reducible refine x_int ?_)
  | ((with_reducible refine x_tg (tgT2 _) ?_); try walk_at "n")
  | ((with_reducible refine x_tg (tgT3 _) ?_); try walk_at "n")
  | (with_reducible apply w_lenC0; (focus assumption))
  | (with_reducible apply w_tupC0; (focus assumption))
  | (with_reducible apply w_slC0; (focus assumption))
  | (with_reducible apply w_srcC0; (focus assumption))
  | (with_reducible apply x_asL; (focus assumption))
  | (with_reducible apply w_mkD; (focus assumption))
  | (with_reducible apply w_mkD1; (focus assumption))
  | (with_reducible apply w_lenC1; (focus assumption))
  | (with_reducible apply w_tupC1; (focus assumption))
  | (with_reducible apply w_slC1; (focus assumption))
  | (with_reducible apply x_asL1; (focus assumption))
  | (with_reducible refine w_fK0 ?_)
  | (with_reducible refine w_fAK ?_)
  | ((with_reducible apply w_callK0); (focus rfl); (focus (simp only [permL, List.filterMap_cons, List.filterMap_nil, List.getElem?_cons_zero, List.getElem?_cons_succ]; rfl)); (focus rfl))
  | ((with_reducible apply w_callK); (focus rfl); (focus rfl); (focus (simp only [permL, List.cons_append, List.nil_append, List.filterMap_cons, List.filterMap_nil, List.getElem?_cons_zero, List.getElem?_cons_succ]; rfl)); (focus rfl))
  | (with_reducible refine w_mt1 ?_)
  | (with_reducible refine w_sl ?_)
  | (with_reducible refine w_pNo ?_)
  | (with_reducible refine w_pSo ?_)
  | (with_reducible refine w_lc ?_)
  | (with_reducible refine w_src ?_)
  | (with_reducible refine w_srcL ?_)
  | (with_reducible refine w_srcT ?_)
  | (with_reducible refine w_rg1 ?_)
  | (with_reducible refine w_rg2 ?_)
  | (with_reducible refine w_add ?_)
  | (with_reducible refine w_sub ?_)
  | (with_reducible refine w_cmp ?_)
  | (with_reducible refine w_eqi ?_)
  | (with_reducible refine w_nei ?_)
  | (with_reducible refine w_eqs ?_)
  | (with_reducible refine w_nes ?_)
  | (with_reducible refine w_isN ?_)
  | (with_reducible refine w_isNn ?_)
  | (with_reducible refine w_isB ?_)
  | (with_reducible refine w_isBn ?_)
  | (with_reducible refine w_int ?_)
  | (with_reducible refine w_abs ?_)
  | (with_reducible refine w_max ?_)
  | (with_reducible refine w_min ?_)
  | (with_reducible refine w_neg ?_)
  | (with_reducible refine w_mkf ?_)
  | (with_reducible refine w_lenT ?_)
  | (with_reducible refine w_lenL ?_)
  | (with_reducible refine w_lenS ?_)
  | (with_reducible refine w_tupT ?_)
  | (with_reducible refine w_tupL ?_)
  | (with_reducible refine w_slT ?_)
  | (with_reducible refine w_slL ?_)
  | (with_reducible refine w_ix0 ?_)
  | (with_reducible refine w_ix1 ?_)
  | (with_reducible refine w_ix2 ?_)
  | (with_reducible refine w_ix3 ?_)
  | (with_reducible refine w_ixl0 ?_)
  | (with_reducible refine w_ixl1 ?_)
  | (with_reducible refine w_ixl2 ?_)
  | ((with_reducible refine w_lst ?_ ?_); (focus exact Nat.le_of_ble_eq_true rfl))
  | ((with_reducible refine w_tup ?_ ?_); (focus exact Nat.le_of_ble_eq_true rfl))
  | ((with_reducible refine w_mul ?_ ?_); (focus exact cmul_of (by omega)))
  | ((with_reducible refine w_mod ?_ ?_); (focus omega))
  | ((with_reducible refine w_fdiv ?_ ?_); (focus exact And.intro (by omega) (by omega)))
  | (with_reducible refine w_p9 ?_)
  | ((with_reducible refine w_pow ?_ ?_); (focus decide))
  | ((with_reducible apply w_isi); (focus rfl))
  | (with_reducible refine bt_t ?_)
  | (with_reducible refine bt_f ?_)
  | ((with_reducible refine bt_yes ?_ ?_); (focus rfl))
  | ((with_reducible refine bt_nno ?_ ?_); (focus rfl))
  | ((with_reducible refine bt_is ?_ ?_); (focus rfl))
  | ((with_reducible refine bt_isn ?_ ?_); (focus rfl))
  | ((with_reducible refine bt_yes ?_ ?_); (focus omega))
  | ((with_reducible refine bt_no ?_ ?_); (focus omega))
  | ((with_reducible refine bt_eyes ?_ ?_); (focus omega))
  | ((with_reducible refine bt_eno ?_ ?_); (focus omega))
  | ((with_reducible refine bt_neyes ?_ ?_); (focus omega))
  | ((with_reducible refine bt_neno ?_ ?_); (focus omega))
  | (with_reducible apply w_of; (focus assumption)))
local macro_rules | `(tactic| walk_at "g") => `(tactic| repeat walk_at "w")
/-! ### the law's own spans -/
section
variable {T E C : Cells} {k nn : Nat} {X : XP} {Q : D → Cells → Prop} {u : Setup} {s : WR.Src}
def span (s : WR.Src) (j : Int) : Int := if s.low * s.gap * j - (s.most - s.least) < 0 then 0 else s.low * s.gap * j - (s.most - s.least)
theorem flat_is (L : List Int) : Flat [.lst (L.map .int)] := .one (pures_ok 0 (pures_iff.mpr fun d hd => by
  obtain ⟨i, _, rfl⟩ := List.mem_map.mp hd
  rfl))
/-- lines at a turn: their least is m -/
structure Lines (s : WR.Src) (m : Int) (L : List Int) : Prop where
  len : L.length ≤ 10
  mem : m ∈ L
  least : ∀ x ∈ L, m ≤ x
theorem rise_take {m : Int} {xs : List Int} (hm : m ∈ xs) (hl : ∀ x ∈ xs, m ≤ x) : m ∈ (riseI xs).take 10 ∧ ∀ x ∈ (riseI xs).take 10, m ≤ x := by
  refine ⟨?_, fun x hx => hl x (riseI_mem.mp (List.mem_of_mem_take hx))⟩
  have h1 : m ∈ riseI xs := riseI_mem.mpr hm
  have up := riseI_up xs
  cases e : riseI xs with
  | nil => rw [e] at h1; cases h1
  | cons a as =>
    rw [e] at h1 up
    have : a = m := by
      have h2 := hl a (riseI_mem.mp (by rw [e]; simp))
      rcases List.mem_cons.mp h1 with z | z
      · exact z.symm
      · have := (List.pairwise_cons.mp up).1 m z
        omega
    simp [this]
theorem lines_next {m f : Int} {L : List Int} (hf : 0 ≤ f) (h : Lines s m L) : Lines s (m + f) ((riseI (L.map (· + f) ++ (L.map (· + f)).map (· + 1))).take 10) := by
  have hm : m + f ∈ L.map (· + f) ++ (L.map (· + f)).map (· + 1) := List.mem_append_left _ (List.mem_map.mpr ⟨m, h.mem, rfl⟩)
  have hl : ∀ x ∈ L.map (· + f) ++ (L.map (· + f)).map (· + 1), m + f ≤ x := fun x hx => by
    rcases List.mem_append.mp hx with z | z
    · obtain ⟨y, hy, rfl⟩ := List.mem_map.mp z
      have := h.least y hy
      show m + f ≤ y + f
      omega
    · obtain ⟨y, hy, rfl⟩ := List.mem_map.mp z
      obtain ⟨v, hv, rfl⟩ := List.mem_map.mp hy
      have := h.least v hv
      show m + f ≤ v + f + 1
      omega
  obtain ⟨a, b⟩ := rise_take hm hl
  exact ⟨by rw [List.length_take]; omega, a, b⟩
/-- what is heard of them from 0 on -/
def heardOf (s : WR.Src) (L : List Int) : List Int := L.flatMap fun x => ((rgI s.least (s.most + 1)).filter fun w => decide (0 ≤ x + w)).map (x + ·)
theorem heard_min {m : Int} {L : List Int} (ok : s.Ok) (h : Lines s m L) (hm : -s.most ≤ m) : minI (heardOf s L) = some (if m + s.least < 0 then 0 else m + s.least) := by
  have b1 := ok.b1
  have mem : ∀ y, y ∈ heardOf s L ↔ ∃ x ∈ L, ∃ w, s.least ≤ w ∧ w ≤ s.most ∧ 0 ≤ x + w ∧ y = x + w := fun y => by
    simp only [heardOf, List.mem_flatMap, List.mem_map, List.mem_filter, mem_rgI, decide_eq_true_eq]
    constructor
    · rintro ⟨x, hx, w, ⟨⟨w0, w1⟩, w2⟩, rfl⟩
      exact ⟨x, hx, w, w0, by omega, w2, rfl⟩
    · rintro ⟨x, hx, w, w0, w1, w2, rfl⟩
      exact ⟨x, hx, w, ⟨⟨w0, by omega⟩, w2⟩, rfl⟩
  have hin : (if m + s.least < 0 then 0 else m + s.least) ∈ heardOf s L := by
    rw [mem]
    split
    · exact ⟨m, h.mem, -m, by omega, by omega, by omega, by omega⟩
    · exact ⟨m, h.mem, s.least, by omega, by omega, by omega, rfl⟩
  have hall : ∀ y ∈ heardOf s L, (if m + s.least < 0 then 0 else m + s.least) ≤ y := fun y hy => by
    obtain ⟨x, hx, w, w0, w1, w2, rfl⟩ := (mem y).mp hy
    have := h.least x hx
    split <;> omega
  cases e : minI (heardOf s L) with
  | none =>
    cases e2 : heardOf s L with
    | nil => rw [e2] at hin; cases hin
    | cons a as => rw [e2] at e; cases e
  | some v =>
    obtain ⟨v1, v2⟩ := minI_spec e
    have := v2 _ hin
    have := hall v v1
    congr 1
    omega
theorem heard_len {L : List Int} (hs : SmallS s) (h : L.length ≤ 10) : (heardOf s L).length ≤ 1000 := by
  have a0 := hs.ok.a0; have c0 := hs.ok.c0; have w := hs.ok.w; have b1 := hs.ok.b1
  have p1 := mul_bd a0 c0 hs.l hs.g
  unfold heardOf
  rw [List.length_flatMap]
  have : ∀ (L : List Int), (L.map fun x => (((rgI s.least (s.most + 1)).filter fun w => decide (0 ≤ x + w)).map (x + ·)).length).sum ≤ L.length * 10 := by
    intro L
    induction L with
    | nil => simp
    | cons x L ih =>
      simp only [List.map_cons, List.sum_cons, List.length_map, List.length_cons]
      have := List.length_filter_le (fun w => decide (0 ≤ x + w)) (rgI s.least (s.most + 1))
      rw [len_rgI] at this
      simp only [List.length_map] at ih
      omega
  have := this L
  omega
theorem spans (hC : Flat C) (hs : SmallS s) : d_law_spans [sD s, .int 12] C = .ok (.lst ((List.range 12).map fun (j : Nat) => D.int (span s j))) C := by
  have ok := hs.ok
  have a0 := ok.a0; have c0 := ok.c0; have w := ok.w; have b0 := ok.b0; have b1 := ok.b1; have l3 := hs.l; have g3 := hs.g; have e2 := hs.e
  have p0 := pos_mul a0 c0
  have p1 := mul_bd a0 c0 l3 g3
  refine We.eq (w_def [some (sD s), some (.int 12), none, none, none, none, none, none, none, none, none, none, none, none, none] rfl rfl ?_)
  unfold b_law_spans
  walk_at "g"
  refine ⟨_, rfl, ?_⟩
  walk_at "g"
  rw [rg_I]
  refine w_mapA (fun w => .int (0 - w)) _ (fun _ _ => rfl) (fun w hw => We.eq ?_) ?_
  · walk_at "g"
    exact ⟨rfl, rfl⟩
  refine ⟨by rw [List.length_map, len_rgI]; omega, ?_⟩
  walk_at "g"
  refine w_mkt ?_
  walk_at "g"
  rw [show ((rgI s.least (s.most + 1)).map fun w => D.int (0 - w)) = ((rgI s.least (s.most + 1)).map fun w => 0 - w).map .int by simp]
  refine o_range (fun i ρ C' => ∃ r10 r11 r12 r13 r14, ∃ L : List Int, ρ = [some (sD s), some (.int 12), some (.int s.low), some (.int s.high), some (.int s.least), some (.int s.most), some (.int s.gap), some (.int s.pause), some (.lst (L.map .int)), some (.cel C.length), r10, r11, r12, r13, r14] ∧
      C' = C ++ [.lst ((List.range (i + 1)).map fun (j : Nat) => D.int (span s j))] ∧ Lines s (s.low * s.gap * i - s.most) L) (by omega)
    ⟨_, _, _, _, _, (rgI s.least (s.most + 1)).map (fun w => 0 - w), rfl, by simp [span]; omega, ?_⟩ ?_ ?_
  · refine ⟨by rw [List.length_map, len_rgI]; omega, List.mem_map.mpr ⟨s.most, mem_rgI.mpr (by omega), by simp⟩, fun x hx => ?_⟩
    obtain ⟨y, hy, rfl⟩ := List.mem_map.mp hx
    rw [mem_rgI] at hy
    simp
    omega
  · rintro i ρ C' hi ⟨r10, r11, r12, r13, r14, L, rfl, rfl, hL⟩
    have len := hL.len
    walk_at "n"
    walk_at "g"
    refine w_mapA (fun x => .int (x + s.low * s.gap)) _ (fun _ _ => rfl) (fun x hx => We.eq ?_) ?_
    · walk_at "g"
      exact ⟨rfl, rfl⟩
    refine ⟨by rw [List.length_map]; omega, ?_⟩
    walk_at "g"
    refine w_srtSet ?_
    walk_at "g"
    rw [show (L.map fun x => D.int (x + s.low * s.gap)) = (L.map (· + s.low * s.gap)).map .int by simp]
    refine w_mapA (fun x => .int (x + 1)) _ (fun _ _ => rfl) (fun x hx => We.eq ?_) ?_
    · walk_at "g"
      exact ⟨rfl, rfl⟩
    refine ⟨by rw [List.length_map, List.length_map]; omega, ?_⟩
    walk_at "g"
    refine w_addl (by simp; omega) ?_
    walk_at "g"
    have nx := lines_next (s := s) (f := s.low * s.gap) (by omega) hL
    refine ⟨L.map (· + s.low * s.gap) ++ (L.map (· + s.low * s.gap)).map (· + 1), by simp [asS], by simp; omega, ?_⟩
    walk_at "g"
    rw [cut_take _ (by decide), ← List.map_take]
    rw [show (10 : Int).toNat = 10 from rfl]
    generalize eM : (riseI (L.map (· + s.low * s.gap) ++ (L.map (· + s.low * s.gap)).map (· + 1))).take 10 = M at nx ⊢
    have lM := nx.len
    walk_at "g"
    refine o_each (fun ds ρ C' => C' = C ++ [.lst ((List.range (i + 1)).map fun (j : Nat) => D.int (span s j))] ∧ ∃ r11 r13 r14, ∃ M1 M2 : List Int, M = M1 ++ M2 ∧ ds = M2.map .int ∧
      ρ = [some (sD s), some (.int 12), some (.int s.low), some (.int s.high), some (.int s.least), some (.int s.most), some (.int s.gap), some (.int s.pause), some (.lst (M.map .int)), some (.cel C.length), some (.int i), r11, some (.lst ((heardOf s M1).map .int)), r13, r14]) ?_ ?_ _ _ _
      ⟨rfl, _, _, _, [], M, rfl, rfl, rfl⟩
    · rintro d ds ρ C' ⟨rfl, r11, r13, r14, M1, M2, hM, hd, rfl⟩
      cases M2 with
      | nil => simp at hd
      | cons x M2 =>
        obtain ⟨rfl, rfl⟩ := List.cons.inj hd
        refine ⟨_, rfl, ?_⟩
        have l1 : M1.length ≤ 10 := by rw [hM] at lM; simp at lM; omega
        have l2 := heard_len hs l1
        walk_at "n"
        walk_at "g"
        rw [rg_I]
        refine w_lcA (fun w => .int (x + w)) (fun w => decide (0 ≤ x + w)) _ (fun _ _ => rfl) (fun w hw => We.eq ?_) (fun w hw _ => We.eq ?_) ?_
        · walk_at "g"
          exact ⟨by simp, rfl⟩
        · walk_at "g"
          exact ⟨rfl, rfl⟩
        have l3 : ((rgI s.least (s.most + 1)).filter fun w => decide (0 ≤ x + w)).length ≤ 100 := by
          have := List.length_filter_le (fun w => decide (0 ≤ x + w)) (rgI s.least (s.most + 1))
          rw [len_rgI] at this
          omega
        refine ⟨by rw [List.length_map]; omega, ?_⟩
        walk_at "g"
        refine w_addl (by simp; omega) ?_
        walk_at "g"
        rw [show (heardOf s M1).map D.int ++ ((rgI s.least (s.most + 1)).filter fun w => decide (0 ≤ x + w)).map (fun w => D.int (x + w)) = (heardOf s (M1 ++ [x])).map .int by simp [heardOf, Function.comp_def]]
        exact ⟨rfl, _, _, _, M1 ++ [x], M2, by rw [hM]; simp, rfl, rfl⟩
    · rintro ρ C' ⟨rfl, r11, r13, r14, M1, M2, hM, hd, rfl⟩
      have e : M2 = [] := by cases M2 with | nil => rfl | cons x M2 => simp at hd
      subst e
      rw [List.append_nil] at hM
      subst hM
      have hmin := heard_min ok nx (by have := Int.mul_nonneg (show 0 ≤ s.low * s.gap by omega) (show (0 : Int) ≤ i by omega); omega)
      have em : ∀ K, oMin [.lst ((heardOf s M).map .int)] K = .ok (.int (if s.low * s.gap * i - s.most + s.low * s.gap + s.least < 0 then 0 else s.low * s.gap * i - s.most + s.low * s.gap + s.least)) K := fun K => by
        have : intsC (.lst ((heardOf s M).map .int)) K = some (heardOf s M) := by
          show ints? _ = _
          rw [ints?_map]
        simp only [oMin, this, Option.bind_some, hmin]
      walk_at "g"
      refine ⟨_, asL_celE (ap0 rfl), ?_⟩
      walk_at "g"
      refine w_of (em _) ?_
      walk_at "g"
      refine w_ap0 rfl (by simp; omega) ?_
      refine ⟨_, _, _, _, _, M, rfl, ?_, ?_⟩
      · rw [List.range_succ (n := i + 1), List.map_append]
        congr 3
        simp only [List.map_cons, List.map_nil, span, Int.natCast_add, Int.natCast_one, Int.mul_add, Int.mul_one]
        have : s.low * s.gap * i - s.most + s.low * s.gap + s.least = s.low * s.gap * i + s.low * s.gap - (s.most - s.least) := by omega
        rw [this]
      · have : s.low * s.gap * (i + 1 : Nat) - s.most = s.low * s.gap * i - s.most + s.low * s.gap := by
          simp only [Int.natCast_add, Int.natCast_one, Int.mul_add, Int.mul_one]
          omega
        rw [this]
        exact nx
  · rintro ρ C' ⟨r10, r11, r12, r13, r14, L, rfl, rfl, hL⟩
    walk_at "g"
    refine f_frz hC rfl (Nat.le_refl _) (List.getElem?_concat_length ..) ?_ ⟨rfl, rfl⟩
    exact pures_ok _ (pures_iff.mpr fun d hd => by
      obtain ⟨i, _, rfl⟩ := List.mem_map.mp hd
      rfl)
end
end K60
namespace K60
open PySem PySem.Spec L2 BV WR
local macro_rules | `(tactic| walk_at "n") => `(tactic| dsimp only [List.set_cons_succ, List.set_cons_zero])
local macro_rules | `(tactic| walk_at "w") => `(tactic| first
  | ((with_reducible refine o_seq ?_); try walk_at "n")
  | ((with_reducible refine o_set ?_); try walk_at "n")
  | ((with_reducible apply w_var); (focus rfl))
  | (with_reducible refine w_c ?_)
  | (with_reducible refine w_f2 ?_)
  | (with_reducible refine w_fA ?_)
  | (with_reducible refine w_cons ?_)
  | (with_reducible refine w_nil ?_)
  | (with_reducible refine w_f1 ?_)
  | ((with_reducible refine w_call ?_ ?_); (focus rfl))
  | ((with_reducible refine o_if ?_); try walk_at "n")
  | ((with_reducible refine o_ret ?_); try dsimp only [rxP, rtP, List.set_cons_succ, List.set_cons_zero])
  | ((with_reducible refine o_expr ?_); try walk_at "n")
  | ((with_reducible refine o_raise ?_); try dsimp only [rxP, rtP, List.set_cons_succ, List.set_cons_zero])
  | ((with_reducible refine o_for ?_); try walk_at "n")
  | ((with_reducible refine o_asg ?_); try walk_at "n")
  | ((with_reducible refine o_par ?_); try walk_at "n")
  | ((with_reducible refine o_par3 ?_); try walk_at "n")
  | ((with_reducible refine o_sto ?_); try walk_at "n")
  | ((with_reducible apply o_aug); (focus rfl); try walk_at "n")
  | ((with_reducible refine o_nil ?_); try walk_at "n")
  | ((with_reducible refine o_retN ?_); try dsimp only [rxP, rtP, List.set_cons_succ, List.set_cons_zero])
  | ((with_reducible refine o_bk ?_); try dsimp only [rxP, rtP, List.set_cons_succ, List.set_cons_zero])
  | ((with_reducible refine o_ct ?_); try dsimp only [rxP, rtP, List.set_cons_succ, List.set_cons_zero])
  | (with_reducible refine w_and ?_)
  | (with_reducible refine w_or ?_)
  | (with_reducible refine w_not ?_)
  | (with_reducible refine w_chain ?_)
  | (with_reducible refine w_chain3 ?_)
  | (with_reducible refine w_yes ?_)
  | (with_reducible refine x_two ?_)
  | (with_reducible refine x_three ?_)
  | ((with_reducible refine x_rg ?_ ?_); (focus (first | omega | (simp only [List.length_map]; omega))))
  | ((with_reducible refine x_rg2 ?_ ?_); (focus (first | omega | (simp only [List.length_map]; omega))))
  | (with_reducible refine x_int ?_)
  | ((with_reducible refine x_tg (tgT2 _) ?_); try walk_at "n")
  | ((with_reducible refine x_tg (tgT3 _) ?_); try walk_at "n")
  | (with_reducible apply w_lenC0; (focus assumption))
  | (with_reducible apply w_tupC0; (focus assumption))
  | (with_reducible apply w_slC0; (focus assumption))
  | (with_reducible apply w_srcC0; (focus assumption))
  | (with_reducible apply x_asL; (focus assumption))
  | (with_reducible apply w_mkD; (focus assumption))
  | (with_reducible apply w_mkD1; (focus assumption))
  | (with_reducible apply w_lenC1; (focus assumption))
  | (with_reducible apply w_tupC1; (focus assumption))
  | (with_reducible apply w_slC1; (focus assumption))
  | (with_reducible apply x_asL1; (focus assumption))
  | (with_reducible refine w_fK0 ?_)
  | (with_reducible refine w_fAK ?_)
  | ((with_reducible apply w_callK0); (focus rfl); (focus (simp only [permL, List.filterMap_cons, List.filterMap_nil, List.getElem?_cons_zero, List.getElem?_cons_succ]; rfl)); (focus rfl))
  | ((with_reducible apply w_callK); (focus rfl); (focus rfl); (focus (simp only [permL, List.cons_append, List.nil_append, List.filterMap_cons, List.filterMap_nil, List.getElem?_cons_zero, List.getElem?_cons_succ]; rfl)); (focus rfl))
  | (with_reducible refine w_mt1 ?_)
  | (with_reducible refine w_sl ?_)
  | (with_reducible refine w_pNo ?_)
  | (with_reducible refine w_pSo ?_)
  | (with_reducible refine w_lc ?_)
  | (with_reducible refine w_src ?_)
  | (with_reducible refine w_srcL ?_)
  | (with_reducible refine w_srcT ?_)
  | (with_reducible refine w_rg1 ?_)
  | (with_reducible refine w_rg2 ?_)
  | (with_reducible refine w_add ?_)
  | (with_reducible refine w_sub ?_)
  | (with_reducible refine w_cmp ?_)
  | (with_reducible refine w_eqi ?_)
  | (with_reducible refine w_nei ?_)
  | (with_reducible refine w_eqs ?_)
  | (with_reducible refine w_nes ?_)
  | (with_reducible refine w_isN ?_)
  | (with_reducible refine w_isNn ?_)
  | (with_reducible refine w_isB ?_)
  | (with_reducible refine w_isBn ?_)
  | (with_reducible refine w_int ?_)
  | (with_reducible refine w_abs ?_)
  | (with_reducible refine w_max ?_)
  | (with_reducible refine w_min ?_)
  | (with_reducible refine w_neg ?_)
  | (with_reducible refine w_mkf ?_)
  | (with_reducible refine w_lenT ?_)
  | (with_reducible refine w_lenL ?_)
  | (with_reducible refine w_lenS ?_)
  | (with_reducible refine w_tupT ?_)
  | (with_reducible refine w_tupL ?_)
  | (with_reducible refine w_slT ?_)
  | (with_reducible refine w_slL ?_)
  | (with_reducible refine w_ix0 ?_)
  | (with_reducible refine w_ix1 ?_)
  | (with_reducible refine w_ix2 ?_)
  | (with_reducible refine w_ix3 ?_)
  | (with_reducible refine w_ixl0 ?_)
  | (with_reducible refine w_ixl1 ?_)
  | (with_reducible refine w_ixl2 ?_)
  | ((with_reducible refine w_lst ?_ ?_); (focus exact Nat.le_of_ble_eq_true rfl))
  | ((with_reducible refine w_tup ?_ ?_); (focus exact Nat.le_of_ble_eq_true rfl))
  | ((with_reducible refine w_mul ?_ ?_); (focus exact cmul_of (by omega)))
  | ((with_reducible refine w_mod ?_ ?_); (focus omega))
  | ((with_reducible refine w_fdiv ?_ ?_); (focus exact And.intro (by omega) (by omega)))
  | (with_reducible refine w_p9 ?_)
  | ((with_reducible refine w_pow ?_ ?_); (focus decide))
  | ((with_reducible apply w_isi); (focus rfl))
  | (with_reducible refine bt_t ?_)
  | (with_reducible refine bt_f ?_)
  | ((with_reducible refine bt_yes ?_ ?_); (focus rfl))
  | ((with_reducible refine bt_nno ?_ ?_); (focus rfl))
  | ((with_reducible refine bt_is ?_ ?_); (focus rfl))
  | ((with_reducible refine bt_isn ?_ ?_); (focus rfl))
  | ((with_reducible refine bt_yes ?_ ?_); (focus omega))
  | ((with_reducible refine bt_no ?_ ?_); (focus omega))
  | ((with_reducible refine bt_eyes ?_ ?_); (focus omega))
  | ((with_reducible refine bt_eno ?_ ?_); (focus omega))
  | ((with_reducible refine bt_neyes ?_ ?_); (focus omega))
  | ((with_reducible refine bt_neno ?_ ?_); (focus omega))
  | (with_reducible apply w_of; (focus assumption)))
local macro_rules | `(tactic| walk_at "g") => `(tactic| repeat walk_at "w")
section
variable {T E C : Cells} {k nn : Nat} {X : XP} {Q : D → Cells → Prop} {u : Setup} {s : WR.Src} {v x y : D}
/-! ### how many come by a tick -/
theorem cnt_le : ∀ q, q < 12 → ((List.range 12).filter fun j => decide (j ≤ q)).length = q + 1 := by decide
theorem cnt_most (hs : SmallS s) {t : Int} (t0 : 0 ≤ t) (t1 : t < 8) : (((List.range 12).filter fun (j : Nat) => decide (span s j ≤ t)).length : Int) = mostOf s t := by
  have ok := hs.ok
  have p0 := pos_mul ok.a0 ok.c0
  have w := ok.w; have b1 := ok.b1
  have n0 := Int.ediv_nonneg (show 0 ≤ t + s.most - s.least by omega) (show 0 ≤ s.low * s.gap by omega)
  have n1 : (t + s.most - s.least) / (s.low * s.gap) < 9 := by
    rw [Int.ediv_lt_iff_lt_mul (by omega)]
    omega
  have e : ∀ j : Nat, decide (span s j ≤ t) = decide (j ≤ ((t + s.most - s.least) / (s.low * s.gap)).toNat) := fun j => by
    rw [decide_eq_decide]
    have q := Int.le_ediv_iff_mul_le (a := (j : Int)) (b := t + s.most - s.least) (c := s.low * s.gap) (by omega)
    have c := Int.mul_comm (j : Int) (s.low * s.gap)
    rw [c] at q
    unfold span
    split <;> omega
  rw [show (fun (j : Nat) => decide (span s j ≤ t)) = fun j => decide (j ≤ ((t + s.most - s.least) / (s.low * s.gap)).toNat) from funext e, cnt_le _ (by omega)]
  unfold mostOf
  omega
abbrev dues (S : List WR.Src) : List Int := (rgI 0 8).map fun t => mostRows S t
theorem law_dues (hC : Flat C) (hu : SmallU u) : d_law_most [setT u, .int 12, .int 7] C = .ok (.lst ((dues u.S).map .int)) C := by
  have l1 := hu.l1
  refine We.eq (w_def [some (setT u), some (.int 12), some (.int 7), none, none, none, none, none] rfl rfl ?_)
  unfold b_law_most
  walk_at "g"
  refine w_mapA (fun s => .lst ((List.range 12).map fun (j : Nat) => D.int (span s j))) _ (fun _ _ => rfl) (fun s hs => We.eq ?_) ?_
  · have q := spans hC (hu.s s hs)
    walk_at "g"
    exact ⟨rfl, rfl⟩
  refine ⟨by rw [List.length_map]; omega, ?_⟩
  walk_at "g"
  rw [show (7 : Int) + 1 = 8 from rfl, rg_I]
  refine w_mapA (fun t => .int (mostRows u.S t)) _ (fun _ _ => rfl) (fun t ht => We.eq ?_) ?_
  · rw [mem_rgI] at ht
    walk_at "g"
    refine w_mapA (fun s => .int (mostOf s t)) _ (fun _ _ => rfl) (fun s hs => We.eq ?_) ?_
    · walk_at "g"
      refine w_lcA (fun (j : Nat) => D.int (span s j)) (fun (j : Nat) => decide (span s j ≤ t)) _ (fun _ _ => rfl) (fun j hj => We.eq ?_) (fun j hj _ => We.eq ?_) ?_
      · walk_at "g"
        exact ⟨rfl, rfl⟩
      · walk_at "g"
        exact ⟨rfl, rfl⟩
      have c := cnt_most (hu.s s hs) ht.1 ht.2
      have := mostOf_pos (hu.s s hs).ok ht.1
      have lf := List.length_filter_le (fun (j : Nat) => decide (span s j ≤ t)) (List.range 12)
      rw [List.length_range] at lf
      refine ⟨by rw [List.length_map]; omega, ?_⟩
      walk_at "g"
      exact ⟨by rw [List.length_map, c], rfl⟩
    refine ⟨by rw [List.length_map]; omega, ?_⟩
    walk_at "g"
    exact w_sumA ⟨rfl, rfl⟩
  refine ⟨by rw [List.length_map, len_rgI]; omega, ?_⟩
  walk_at "g"
  refine f_val hC ?_ ⟨by simp [dues, Function.comp_def], rfl⟩
  exact pures_ok _ (pures_iff.mpr fun d hd => by
    obtain ⟨i, _, rfl⟩ := List.mem_map.mp hd
    rfl)
/-! ### what repr tells of a setup -/
theorem gp_i {n : Nat} {i : Int} (h : -2000 < i ∧ i < 2000) : GP n 41 (.int i) := .int (by omega)
theorem setup_gp (h : u.Ok) : GP 3 6400 (setT u) := by
  have l1 := h.l1; have k1 := h.k1; have a0 := h.a0; have a1 := h.a1; have a2 := h.a2
  refine (GP.tup (n := 2) (w := 2100) fun d hd => ?_).mono (by decide) (by simp)
  simp only [List.mem_cons, List.not_mem_nil, or_false] at hd
  rcases hd with rfl | rfl | rfl
  · refine (GP.tup (n := 1) (w := 252) fun d hd => ?_).mono (by decide) (by rw [List.length_map]; omega)
    obtain ⟨s, hs, rfl⟩ := List.mem_map.mp hd
    have o := h.s s hs
    have := o.a0; have := o.a1; have := o.a2; have := o.b0; have := o.b1; have := o.b2; have := o.c0; have := o.c1; have := o.c2
    refine (GP.tup (n := 0) (w := 41) fun d hd => ?_).mono (by decide) (by simp)
    simp only [List.mem_cons, List.not_mem_nil, or_false] at hd
    rcases hd with rfl | rfl | rfl | rfl | rfl | rfl <;> exact gp_i (by omega)
  · refine (GP.tup (n := 0) (w := 41) fun d hd => ?_).mono (by decide) (by simp)
    simp only [List.mem_cons, List.not_mem_nil, or_false] at hd
    rcases hd with rfl | rfl <;> exact gp_i (by omega)
  · refine (GP.tup (n := 1) (w := 84) fun d hd => ?_).mono (by decide) (by rw [List.length_map]; omega)
    obtain ⟨c, hc, rfl⟩ := List.mem_map.mp hd
    obtain ⟨q0, q1, q2⟩ := h.k c hc
    have l1 := h.l1
    refine (GP.tup (n := 0) (w := 41) fun d hd => ?_).mono (by decide) (by simp)
    simp only [List.mem_cons, List.not_mem_nil, or_false] at hd
    rcases hd with rfl | rfl
    · exact gp_i (by omega)
    · cases e : c.2 with
      | none => exact .non
      | some i =>
        have := q2 i e
        exact gp_i (by omega)
/-! ### bad setups -/
abbrev HD : Res D → Res D := hdsD (.shown "told") [("Refused", [.str "refused", .rep, .isi]), ("BadSetup", [.str "setup", .fld, .isi])]
/-- a setup that is refused, and what is heard of it -/
structure Bad (v due : D) : Prop where
  sm : sm0 v = true
  e : ∀ C, Flat C → ∃ c y, d_check_fine [v] C = .ex c y C ∧ pure0 y = true ∧ HD (.ex c y C) = .ok due C
  same : ∀ C, eqD true due due C = .ok (.bl false) C
  pd : pure0 due = true
theorem Bad.of (p : sm0 v = true) {i : Int} (h : faultOf v = some i) (hi : -2000 < i ∧ i < 2000) : Bad v (.tup [.str "setup", .int i, .bl true]) := by
  refine ⟨p, fun C hC => ⟨_, _, fine_x hC p h, rfl, ?_⟩, fun C => ?_, rfl⟩
  · rw [HD, hds_miss (by decide +kernel)]
    exact hds_fld
  · refine same_of (n := 1) (w := 200) ((GP.tup (n := 0) (w := 41) fun d hd => ?_).ga.mono (by decide) (by simp)) (by decide) (fun a z => by cases z)
    simp only [List.mem_cons, List.not_mem_nil, or_false] at hd
    rcases hd with rfl | rfl | rfl
    · exact GP.str (by decide +kernel) (by decide +kernel) (by decide +kernel) (by decide +kernel)
    · exact gp_i hi
    · exact .bl _
abbrev slow (u : Setup) : Setup := { u with a := 2, b := 3 }
theorem slow_ok (h : SmallU u) : (slow u).Ok := by
  have o := h.ok
  exact ⟨o.l0, o.l1, o.s, by show (1 : Int) ≤ 2; decide, by show (2 : Int) ≤ 3; decide, by show (3 : Int) ≤ 100; decide, o.k0, o.k1, o.k⟩
theorem Bad.slow (h : SmallU u) : Bad (setT (slow u)) (.tup [.str "refused", .str (rp (setT (slow u))), .bl true]) := by
  have g := setup_gp (slow_ok h)
  exact ⟨(slow_ok h).T.sm, fun C hC => ⟨_, _, (slow_ok h).T.slow hC (by show (2 : Int) ≠ 1; decide), sm0_p (slow_ok h).T.sm, hds_ref g.ga (by decide) (by decide)⟩, fun C => same_of (GA.refused g low_refused) (by decide) (fun a z => by cases z), rfl⟩
theorem w_bad (hu : SmallU u) (h : Dn T k nn E) (q : ∀ v d E', Bad v d → Dn T k nn E' → Q (.lst [v, d]) E') : We X Q (d_law_bad_setup [.cel k, setT u] E) := by
  have ok := hu.ok
  have sm := ok.T.sm
  have s1 : sm0 (.tup (u.S.map sD)) = true ∧ sm0 (.tup (u.K.map cD)) = true := by
    have : sm0 (setT u) = (decide ([D.tup (u.S.map sD), .tup [.int u.a, .int u.b], .tup (u.K.map cD)].length ≤ 100000) && (sm0 (.tup (u.S.map sD)) && (sm0 (.tup [.int u.a, .int u.b]) && (sm0 (.tup (u.K.map cD)) && true)))) := rfl
    rw [this] at sm
    simp only [Bool.and_eq_true] at sm
    exact ⟨sm.2.1, sm.2.2.2.1⟩
  have no := ok.T.no
  have hb : spanB 1 100 (.tup [.int u.a, .int u.b]) = true := by
    have a0 := ok.a0; have a1 := ok.a1; have a2 := ok.a2
    simp [spanB, seqOf, a0, a1, a2]
  have hsb : sourcesB (.tup (u.S.map sD)) = true := by
    cases e : sourcesB (.tup (u.S.map sD)) with
    | true => rfl
    | false => simp [faultOf, seqOf, e] at no
  refine w_def [some (.cel k), some (setT u), none, none, none, none, none] rfl rfl ?_
  unfold b_law_bad_setup
  walk_at "g"
  refine w_addl (by simp) ?_
  walk_at "g"
  refine w_repr (setup_gp (slow_ok hu)).ga (by decide) (by decide) ?_
  walk_at "g"
  refine w_mull (by decide) (by decide) (by simp) ?_
  walk_at "g"
  refine w_addl (by simp [repN]) ?_
  walk_at "g"
  have key : ∀ d ∈ [D.lst [.non, .tup [.str "setup", .int (0 - 1), .bl true]], .lst [.tup [.tup (u.S.map sD), .tup [.int u.a, .int u.b]], .tup [.str "setup", .int (0 - 1), .bl true]],
      .lst [.tup [.tup [], .tup [.int u.a, .int u.b], .tup (u.K.map cD)], .tup [.str "setup", .int 0, .bl true]]] ++ [.lst [.tup [.tup (u.S.map sD), .tup [.int 2, .int 1], .tup (u.K.map cD)], .tup [.str "setup", .int 1, .bl true]],
      .lst [.tup [.tup (u.S.map sD), .tup [.int u.a, .int u.b], .tup []], .tup [.str "setup", .int 2, .bl true]]] ++ repN 3 [.lst [setT (slow u), .tup [.str "refused", .str (rp (setT (slow u))), .bl true]]],
      ∃ v x, d = .lst [v, x] ∧ Bad v x := by
    intro d hd
    simp only [rep1, show (3 : Int).toNat = 3 from rfl, List.replicate_succ, List.replicate_zero, List.cons_append, List.nil_append, List.mem_cons, List.not_mem_nil, or_false] at hd
    rcases hd with rfl | rfl | rfl | rfl | rfl | rfl | rfl | rfl
    · exact ⟨_, _, rfl, Bad.of rfl rfl (by decide)⟩
    · exact ⟨_, _, rfl, Bad.of (by simp [sm0, sms] at s1 ⊢; exact s1.1) rfl (by decide)⟩
    · exact ⟨_, _, rfl, Bad.of (by simp [sm0, sms] at s1 ⊢; exact s1.2) rfl (by decide)⟩
    · exact ⟨_, _, rfl, Bad.of (by simp [sm0, sms] at s1 ⊢; exact s1) (by simp [faultOf, seqOf, hsb, spanB]) (by decide)⟩
    · exact ⟨_, _, rfl, Bad.of (by simp [sm0, sms] at s1 ⊢; exact s1.1) (by simp [faultOf, seqOf, hsb, hb, channelsB, lenB]) (by decide)⟩
    · exact ⟨_, _, rfl, Bad.slow hu⟩
    · exact ⟨_, _, rfl, Bad.slow hu⟩
    · exact ⟨_, _, rfl, Bad.slow hu⟩
  refine w_pick pk (.inr rfl) h (by simp) (by simp [repN]) (pures_ok _ (pures_iff.mpr fun d hd => ?_)) fun d E1 hd d1 => ?_
  · obtain ⟨v, x, rfl, b⟩ := key d hd
    simp [pure0, pures, sm0_p b.sm, b.pd]
  · obtain ⟨v, x, rfl, b⟩ := key d hd
    exact f_len d1.fl (by rw [d1.l, h.l]) (by
      have : pure0 (.lst [v, x]) = true := by simp [pure0, pures, sm0_p b.sm, b.pd]
      exact pure0_ok _ this) (q v x _ b d1)
end
end K60
namespace K60
open PySem PySem.Spec L2 BV WR
local macro_rules | `(tactic| walk_at "n") => `(tactic| dsimp only [List.set_cons_succ, List.set_cons_zero])
local macro_rules | `(tactic| walk_at "w") => `(tactic| first
  | ((with_reducible refine o_seq ?_); try walk_at "n")
  | ((with_reducible refine o_set ?_); try walk_at "n")
  | ((with_reducible apply w_var); (focus rfl))
  | (with_reducible refine w_c ?_)
  | (with_reducible refine w_f2 ?_)
  | (with_reducible refine w_fA ?_)
  | (with_reducible refine w_cons ?_)
  | (with_reducible refine w_nil ?_)
  | (with_reducible refine w_f1 ?_)
  | ((with_reducible refine w_call ?_ ?_); (focus rfl))
  | ((with_reducible refine o_if ?_); try walk_at "n")
  | ((with_reducible refine o_ret ?_); try dsimp only [rxP, rtP, List.set_cons_succ, List.set_cons_zero])
  | ((with_reducible refine o_expr ?_); try walk_at "n")
  | ((with_reducible refine o_raise ?_); try dsimp only [rxP, rtP, List.set_cons_succ, List.set_cons_zero])
  | ((with_reducible refine o_for ?_); try walk_at "n")
  | ((with_reducible refine o_asg ?_); try walk_at "n")
  | ((with_reducible refine o_par ?_); try walk_at "n")
  | ((with_reducible refine o_par3 ?_); try walk_at "n")
  | ((with_reducible refine o_sto ?_); try walk_at "n")
  | ((with_reducible apply o_aug); (focus rfl); try walk_at "n")
  | ((with_reducible refine o_nil ?_); try walk_at "n")
  | ((with_reducible refine o_retN ?_); try dsimp only [rxP, rtP, List.set_cons_succ, List.set_cons_zero])
  | ((with_reducible refine o_bk ?_); try dsimp only [rxP, rtP, List.set_cons_succ, List.set_cons_zero])
  | ((with_reducible refine o_ct ?_); try dsimp only [rxP, rtP, List.set_cons_succ, List.set_cons_zero])
  | (with_reducible refine w_and ?_)
  | (with_reducible refine w_or ?_)
  | (with_reducible refine w_not ?_)
  | (with_reducible refine w_chain ?_)
  | (with_reducible refine w_chain3 ?_)
  | (with_reducible refine w_yes ?_)
  | (with_reducible refine x_two ?_)
  | (with_reducible refine x_three ?_)
  | ((with_reducible refine x_rg ?_ ?_); (focus (first | omega | (simp only [List.length_map]; omega))))
  | ((with_reducible refine x_rg2 ?_ ?_); (focus (first | omega | (simp only [List.length_map]; omega))))
  | (with_reducible refine x_int ?_)
  | ((with_reducible refine x_tg (tgT2 _) ?_); try walk_at "n")
  | ((with_reducible refine x_tg (tgT3 _) ?_); try walk_at "n")
  | (with_reducible apply w_lenC0; (focus assumption))
  | (with_reducible apply w_tupC0; (focus assumption))
  | (with_reducible apply w_slC0; (focus assumption))
  | (with_reducible apply w_srcC0; (focus assumption))
  | (with_reducible apply x_asL; (focus assumption))
  | (with_reducible apply w_mkD; (focus assumption))
  | (with_reducible apply w_mkD1; (focus assumption))
  | (with_reducible apply w_lenC1; (focus assumption))
  | (with_reducible apply w_tupC1; (focus assumption))
  | (with_reducible apply w_slC1; (focus assumption))
  | (with_reducible apply x_asL1; (focus assumption))
  | (with_reducible refine w_fK0 ?_)
  | (with_reducible refine w_fAK ?_)
  | ((with_reducible apply w_callK0); (focus rfl); (focus (simp only [permL, List.filterMap_cons, List.filterMap_nil, List.getElem?_cons_zero, List.getElem?_cons_succ]; rfl)); (focus rfl))
  | ((with_reducible apply w_callK); (focus rfl); (focus rfl); (focus (simp only [permL, List.cons_append, List.nil_append, List.filterMap_cons, List.filterMap_nil, List.getElem?_cons_zero, List.getElem?_cons_succ]; rfl)); (focus rfl))
  | (with_reducible refine w_mt1 ?_)
  | (with_reducible refine w_sl ?_)
  | (with_reducible refine w_pNo ?_)
  | (with_reducible refine w_pSo ?_)
  | (with_reducible refine w_lc ?_)
  | (with_reducible refine w_src ?_)
  | (with_reducible refine w_srcL ?_)
  | (with_reducible refine w_srcT ?_)
  | (with_reducible refine w_rg1 ?_)
  | (with_reducible refine w_rg2 ?_)
  | (with_reducible refine w_add ?_)
  | (with_reducible refine w_sub ?_)
  | (with_reducible refine w_cmp ?_)
  | (with_reducible refine w_eqi ?_)
  | (with_reducible refine w_nei ?_)
  | (with_reducible refine w_eqs ?_)
  | (with_reducible refine w_nes ?_)
  | (with_reducible refine w_isN ?_)
  | (with_reducible refine w_isNn ?_)
  | (with_reducible refine w_isB ?_)
  | (with_reducible refine w_isBn ?_)
  | (with_reducible refine w_int ?_)
  | (with_reducible refine w_abs ?_)
  | (with_reducible refine w_max ?_)
  | (with_reducible refine w_min ?_)
  | (with_reducible refine w_neg ?_)
  | (with_reducible refine w_mkf ?_)
  | (with_reducible refine w_lenT ?_)
  | (with_reducible refine w_lenL ?_)
  | (with_reducible refine w_lenS ?_)
  | (with_reducible refine w_tupT ?_)
  | (with_reducible refine w_tupL ?_)
  | (with_reducible refine w_slT ?_)
  | (with_reducible refine w_slL ?_)
  | (with_reducible refine w_ix0 ?_)
  | (with_reducible refine w_ix1 ?_)
  | (with_reducible refine w_ix2 ?_)
  | (with_reducible refine w_ix3 ?_)
  | (with_reducible refine w_ixl0 ?_)
  | (with_reducible refine w_ixl1 ?_)
  | (with_reducible refine w_ixl2 ?_)
  | ((with_reducible refine w_lst ?_ ?_); (focus exact Nat.le_of_ble_eq_true rfl))
  | ((with_reducible refine w_tup ?_ ?_); (focus exact Nat.le_of_ble_eq_true rfl))
  | ((with_reducible refine w_mul ?_ ?_); (focus exact cmul_of (by omega)))
  | ((with_reducible refine w_mod ?_ ?_); (focus omega))
  | ((with_reducible refine w_fdiv ?_ ?_); (focus exact And.intro (by omega) (by omega)))
  | (with_reducible refine w_p9 ?_)
  | ((with_reducible refine w_pow ?_ ?_); (focus decide))
  | ((with_reducible apply w_isi); (focus rfl))
  | (with_reducible refine bt_t ?_)
  | (with_reducible refine bt_f ?_)
  | ((with_reducible refine bt_yes ?_ ?_); (focus rfl))
  | ((with_reducible refine bt_nno ?_ ?_); (focus rfl))
  | ((with_reducible refine bt_is ?_ ?_); (focus rfl))
  | ((with_reducible refine bt_isn ?_ ?_); (focus rfl))
  | ((with_reducible refine bt_yes ?_ ?_); (focus omega))
  | ((with_reducible refine bt_no ?_ ?_); (focus omega))
  | ((with_reducible refine bt_eyes ?_ ?_); (focus omega))
  | ((with_reducible refine bt_eno ?_ ?_); (focus omega))
  | ((with_reducible refine bt_neyes ?_ ?_); (focus omega))
  | ((with_reducible refine bt_neno ?_ ?_); (focus omega))
  | (with_reducible apply w_of; (focus assumption)))
local macro_rules | `(tactic| walk_at "g") => `(tactic| repeat walk_at "w")
section
variable {T E C : Cells} {k nn : Nat} {X : XP} {Q : D → Cells → Prop} {u : Setup} {s : WR.Src} {v x y : D} {τ : Nat → Addr}
theorem filter_first {p : Int → Bool} {L : List Int} {a : Int} {r : List Int} (hL : L.Pairwise (· < ·)) (h : L.filter p = a :: r) : a ∈ L ∧ p a = true ∧ ∀ b ∈ L, b < a → p b = false := by
  have m : a ∈ L.filter p := by rw [h]; simp
  rw [List.mem_filter] at m
  refine ⟨m.1, m.2, fun b hb hlt => ?_⟩
  cases e : p b with
  | false => rfl
  | true =>
    have mb : b ∈ L.filter p := List.mem_filter.mpr ⟨hb, e⟩
    have pw := hL.filter p
    rw [h] at mb pw
    rcases List.mem_cons.mp mb with z | z
    · omega
    · have := (List.pairwise_cons.mp pw).1 b z
      omega
theorem mostOf_bd (hs : SmallS s) {t : Int} (t0 : 0 ≤ t) (t1 : t < 8) : 0 ≤ mostOf s t ∧ mostOf s t ≤ 9 := by
  have ok := hs.ok
  have p0 := pos_mul ok.a0 ok.c0
  have w := ok.w
  have n1 : (t + s.most - s.least) / (s.low * s.gap) < 9 := by
    rw [Int.ediv_lt_iff_lt_mul (by omega)]
    omega
  have := mostOf_pos ok t0
  unfold mostOf at *
  omega
theorem sum_bd {α : Type} {f : α → Int} {B : Int} : ∀ {L : List α}, (∀ a ∈ L, 0 ≤ f a ∧ f a ≤ B) → 0 ≤ (L.map f).sum ∧ (L.map f).sum ≤ B * L.length
  | [], _ => ⟨Int.le_refl _, by simp⟩
  | a :: L, h => by
    have := sum_bd (L := L) fun b hb => h b (List.mem_cons_of_mem _ hb)
    have := h a (by simp)
    simp only [List.map_cons, List.sum_cons, List.length_cons, Int.natCast_add, Int.natCast_one, Int.mul_add, Int.mul_one]
    omega
theorem mostRows_bd (hu : SmallU u) {t : Int} (t0 : 0 ≤ t) (t1 : t < 8) : 0 ≤ mostRows u.S t ∧ mostRows u.S t ≤ 27 := by
  have := sum_bd (f := fun s => mostOf s t) (B := 9) (L := u.S) fun s hs => mostOf_bd (hu.s s hs) t0 t1
  have := hu.l1
  unfold mostRows
  omega
theorem dues_at (S : List WR.Src) {t : Int} (t0 : 0 ≤ t) (t1 : t < 8) : ((dues S).map D.int)[t.toNat]? = some (.int (mostRows S t)) := by
  have : t = 0 ∨ t = 1 ∨ t = 2 ∨ t = 3 ∨ t = 4 ∨ t = 5 ∨ t = 6 ∨ t = 7 := by omega
  rcases this with rfl | rfl | rfl | rfl | rfl | rfl | rfl | rfl <;> rfl
theorem two_i {i j : Int} (h : -2000 < i ∧ i < 2000) (h2 : -2000 < j ∧ j < 2000) : GA 1 100 (.lst [.int i, .int j]) := (GP.lst (n := 0) (w := 41) fun d hd => by
  simp only [List.mem_cons, List.not_mem_nil, or_false] at hd
  rcases hd with rfl | rfl
  · exact gp_i h
  · exact gp_i h2).ga.mono (by decide) (by simp)
theorem least_first (hu : SmallU u) {m a : Int} {r : List Int} (h : (rgI 0 8).filter (fun t => decide (m ≤ mostRows u.S t)) = a :: r) : Least u.S m a ∧ 0 ≤ a ∧ a < 8 := by
  obtain ⟨h1, h2, h3⟩ := filter_first (rgI_rise 0 8) h
  rw [mem_rgI] at h1
  refine ⟨⟨h1.1, by simpa using h2, fun b b0 b1 => ?_⟩, h1⟩
  have := h3 b (mem_rgI.mpr (by omega)) b1
  simpa using this
abbrev odd1 : List D := [.non, .int (0 - 1), .bl true, .str "0"]
abbrev odd2 : List D := [.non, .int 0, .int 201, .bl true, .str "1"]
theorem odd1_all {d : D} (h : d ∈ odd1) : pure0 d = true ∧ isNum d = false ∧ GP 1 100 d := by
  simp only [List.mem_cons, List.not_mem_nil, or_false] at h
  rcases h with rfl | rfl | rfl | rfl
  · exact ⟨rfl, rfl, .non⟩
  · exact ⟨rfl, rfl, (gp_i (by decide)).mono (Nat.le_refl _) (by decide)⟩
  · exact ⟨rfl, rfl, .bl _⟩
  · exact ⟨rfl, rfl, GP.str (by decide +kernel) (by decide +kernel) (by decide +kernel) (by decide +kernel)⟩
theorem odd2_all {d : D} (h : d ∈ odd2) : pure0 d = true ∧ cntB d = false ∧ GP 1 100 d := by
  simp only [List.mem_cons, List.not_mem_nil, or_false] at h
  rcases h with rfl | rfl | rfl | rfl | rfl
  · exact ⟨rfl, rfl, .non⟩
  · exact ⟨rfl, rfl, (gp_i (by decide)).mono (Nat.le_refl _) (by decide)⟩
  · exact ⟨rfl, rfl, (gp_i (by decide)).mono (Nat.le_refl _) (by decide)⟩
  · exact ⟨rfl, rfl, .bl _⟩
  · exact ⟨rfl, rfl, GP.str (by decide +kernel) (by decide +kernel) (by decide +kernel) (by decide +kernel)⟩
theorem law_good (τ : Nat → PySem.Addr) : ∀ ns : List Int, ns.length ≤ 63 → ∃ C1, d_law τ [.scr ns] [.tab q_law (τ 0)] = .ok (.bl true) C1 := by
  intro ns hns
  suffices h : We NX (fun d _ => d = .bl true) (d_law τ [.scr ns] [.tab q_law (τ 0)]) by
    obtain ⟨d, C1, e, rfl⟩ := h.ex
    exact ⟨C1, e⟩
  have ht : hasTab q_law (τ 0) [.tab q_law (τ 0)] = true := by simp [hasTab]
  have hT : LawC [.tab q_law (τ 0)] [.tab q_law (τ 0)] := ⟨fun c hc => by simp at hc; subst hc; rfl, fun _ _ h => h, Nat.le_refl _⟩
  generalize hTT : ([.tab q_law (τ 0)] : Cells) = T at ht hT ⊢
  refine w_def [some (.scr ns), none, none, none, none, none, none, none, none, none, none, none, none] rfl rfl ?_
  unfold b_law
  walk_at "g"
  refine o_range (fun i ρ C => ∃ r1 r2 r3 r4 r5 r6 r7 r8 r9 r10 r11 r12, ρ = [some (.scr ns), r1, r2, r3, r4, r5, r6, r7, r8, r9, r10, r11, r12] ∧ LawC T C) (by decide) ⟨_, _, _, _, _, _, _, _, _, _, _, _, rfl, hT⟩ ?_ ?_
  · rintro i ρ C hi ⟨r1, r2, r3, r4, r5, r6, r7, r8, r9, r10, r11, r12, rfl, hL⟩
    walk_at "n"
    walk_at "g"
    refine w_box bx hL (by omega) (by omega) fun k nn E d1 => ?_
    walk_at "g"
    refine w_setup d1 fun u E hu d1 => ?_
    have ok := hu.ok
    have ua := hu.a
    have l1 := hu.l1
    have l0 := hu.l0
    have k1 := ok.k1
    have hC := d1.fl
    walk_at "g"
    refine w_mapA sL _ (fun _ _ => rfl) (fun s hs => We.eq ?_) ?_
    · walk_at "g"
      exact w_of (sv_listD (.inl rfl)) ⟨rfl, rfl⟩
    refine ⟨by rw [List.length_map]; omega, ?_⟩
    walk_at "g"
    refine w_of (sv_listD (.inl rfl)) ?_
    walk_at "g"
    refine w_mapA cL _ (fun _ _ => rfl) (fun c hc => We.eq ?_) ?_
    · walk_at "g"
      exact w_of (sv_listD (.inl rfl)) ⟨rfl, rfl⟩
    refine ⟨by rw [List.length_map]; omega, ?_⟩
    have ld := law_dues hC hu
    walk_at "g"
    refine o_range (fun _ ρ C => C = E ∧ ∃ r6, ρ = [some (.scr ns), some (.int i), some (.cel k), some (setT u), some (setL u), some (.lst ((dues u.S).map .int)), r6, r7, r8, r9, r10, r11, r12]) (by decide) ⟨rfl, _, rfl⟩ ?_ ?_
    · rintro t ρ C htt ⟨rfl, r6, rfl⟩
      have m1 := most_rows (t := (t : Int)) ok.T hC ua (by omega)
      have m2 := most_rows (t := (t : Int)) ok.L hC ua (by omega)
      have bd := mostRows_bd hu (t := (t : Int)) (by omega) (by omega)
      walk_at "n"
      walk_at "g"
      refine w_repr (two_i (by omega) (by omega)) (by decide) (by decide) ?_
      walk_at "g"
      refine w_ix (ds := (dues u.S).map D.int) rfl (by omega) (dues_at u.S (by omega) (by omega)) ?_
      walk_at "g"
      refine w_mull (by decide) (by decide) (by simp) ?_
      walk_at "g"
      refine w_repr (d := .lst [.int (mostRows u.S (t : Int)), .int (mostRows u.S (t : Int))]) (two_i (by omega) (by omega)) (by decide) (by decide) ?_
      walk_at "g"
      exact ⟨rfl, _, rfl⟩
    rintro ρ C ⟨rfl, r6, rfl⟩
    obtain ⟨M, hM⟩ : ∃ M, maxI (dues u.S) = some M := ⟨_, rfl⟩
    obtain ⟨hM1, hM2⟩ := maxI_spec hM
    obtain ⟨tM, htM, eM⟩ := List.mem_map.mp hM1
    rw [mem_rgI] at htM
    have bM := mostRows_bd hu htM.1 htM.2
    rw [eM] at bM
    have em : oMax [.lst ((dues u.S).map .int)] C = .ok (.int M) C := by
      have : intsC (.lst ((dues u.S).map .int)) C = some (dues u.S) := by
        show ints? _ = _
        rw [ints?_map]
      simp only [oMax, this, Option.bind_some, hM]
    walk_at "g"
    rw [rg_I]
    refine o_each (fun ds ρ C' => C' = C ∧ ∃ r6 r7 r8, ∃ L : List Int, ds = L.map .int ∧ (∀ x ∈ L, 1 ≤ x ∧ x ≤ M) ∧ ρ = [some (.scr ns), some (.int i), some (.cel k), some (setT u), some (setL u), some (.lst ((dues u.S).map .int)), r6, r7, r8, r9, r10, r11, r12]) ?_ ?_ _ _ _ ⟨rfl, _, _, _, _, rfl, fun x hx => by rw [mem_rgI] at hx; omega, rfl⟩
    · rintro d ds ρ C' ⟨rfl, r6, r7, r8, L, hd, hx, rfl⟩
      cases L with
      | nil => simp at hd
      | cons m L =>
        obtain ⟨rfl, rfl⟩ := List.cons.inj hd
        have hm := hx m (by simp)
        refine ⟨_, rfl, ?_⟩
        walk_at "n"
        walk_at "g"
        refine w_lcR D.int (fun t => decide (m ≤ mostRows u.S t)) (fun t t0 t1 => We.eq ?_) (fun t t0 t1 _ => We.eq ?_) ?_
        · walk_at "g"
          refine w_ix (ds := (dues u.S).map D.int) rfl (by omega) (dues_at u.S (by omega) (by omega)) ?_
          walk_at "g"
          exact ⟨by simp, rfl⟩
        · walk_at "g"
          exact ⟨rfl, rfl⟩
        cases ef : (rgI 0 8).filter (fun t => decide (m ≤ mostRows u.S t)) with
        | nil =>
          have := List.filter_eq_nil_iff.mp ef tM (mem_rgI.mpr htM)
          simp at this
          omega
        | cons a r =>
          have lf := List.length_filter_le (fun t => decide (m ≤ mostRows u.S t)) (rgI 0 8)
          rw [ef, len_rgI] at lf
          obtain ⟨la, a0, a1⟩ := least_first hu ef
          obtain ⟨b, e1, lb⟩ := least_ticks ok.T hC ua hm.1 (m := m) (by omega)
          obtain ⟨c, e2, lc⟩ := least_ticks ok.L hC ua hm.1 (m := m) (by omega)
          obtain rfl := lb.one la
          obtain rfl := lc.one la
          refine ⟨by rw [List.length_map]; omega, ?_⟩
          rw [List.map_cons]
          walk_at "g"
          refine w_repr (two_i (by omega) (by omega)) (by decide) (by decide) ?_
          walk_at "g"
          refine w_repr (two_i (by omega) (by omega)) (by decide) (by decide) ?_
          walk_at "g"
          exact ⟨rfl, _, _, _, L, rfl, fun x h => hx x (List.mem_cons_of_mem _ h), rfl⟩
    rintro ρ C' ⟨rfl, r6, r7, r8, L, _, _, rfl⟩
    walk_at "g"
    obtain ⟨t, e1, lt⟩ := least_ticks ok.T hC ua (m := 200) (by decide) (by decide)
    have t0 := lt.1
    have q1 := lt.2.1
    have m1 := most_rows (t := t) ok.T hC ua t0
    refine w_of e1 ?_
    refine o_seq (o_if (w_cut (fun d C2 => d = .bl false ∧ C2 = C') ?_ ?_))
    · walk_at "g"
      refine bt_d (fun hp => ?_) (fun hp => ?_)
      · have m2 := most_rows (t := t - 1) ok.T hC ua (by omega)
        have q2 := lt.2.2 (t - 1) (by omega) (by omega)
        walk_at "g"
        exact ⟨by simp; omega, rfl⟩
      · exact ⟨rfl, rfl⟩
    rintro _ _ ⟨rfl, rfl⟩
    walk_at "g"
    refine w_bad hu d1 fun v d E1 bd d2 => ?_
    have hC := d2.fl
    obtain ⟨c, y, ec, py, he⟩ := bd.e _ hC
    walk_at "g"
    refine w_lam (d2.d.tab ht) ((congrArg _ (We.eqx ?_)).trans he) ?_
    · walk_at "g"
      exact w_exr (most_rows_v hC (pure0_ok _ py) ec) ⟨rfl, rfl, rfl⟩
    walk_at "g"
    refine w_of (bd.same _) ?_
    walk_at "g"
    refine w_lam (d2.d.tab ht) ((congrArg _ (We.eqx ?_)).trans he) ?_
    · walk_at "g"
      exact w_exr (least_ticks_v hC (pure0_ok _ py) ec) ⟨rfl, rfl, rfl⟩
    walk_at "g"
    refine w_of (bd.same _) ?_
    walk_at "g"
    refine w_pick pk (.inr rfl) d2 (by simp) (by simp) (pures_ok _ (pures_iff.mpr fun d hd => (odd1_all hd).1)) fun x E2 hx d3 => ?_
    obtain ⟨xp, xn, xg⟩ := odd1_all hx
    have hC := d3.fl
    walk_at "g"
    refine w_lam (d3.d.tab ht) ((congrArg _ (We.eqx ?_)).trans (hds_ref xg.ga (by decide) (by decide))) ?_
    · walk_at "g"
      exact w_exr (most_rows_x ok.T hC ua xp xn) ⟨rfl, rfl, rfl⟩
    walk_at "g"
    refine w_repr xg.ga (by decide) (by decide) ?_
    walk_at "g"
    refine w_of (same_of (GA.refused xg low_refused) (by decide) (fun a z => by cases z)) ?_
    walk_at "g"
    refine w_pick pk (.inr rfl) d3 (by simp) (by simp) (pures_ok _ (pures_iff.mpr fun d hd => (odd2_all hd).1)) fun y E3 hy d4 => ?_
    obtain ⟨yp, yn, yg⟩ := odd2_all hy
    have hC := d4.fl
    walk_at "g"
    refine w_lam (d4.d.tab ht) ((congrArg _ (We.eqx ?_)).trans (hds_ref yg.ga (by decide) (by decide))) ?_
    · walk_at "g"
      exact w_exr (least_ticks_x ok.T hC ua yp yn) ⟨rfl, rfl, rfl⟩
    walk_at "g"
    refine w_repr yg.ga (by decide) (by decide) ?_
    walk_at "g"
    refine w_of (same_of (GA.refused yg low_refused) (by decide) (fun a z => by cases z)) ?_
    walk_at "g"
    exact ⟨_, _, _, _, _, _, _, _, _, _, _, _, rfl, d4.law⟩
  · rintro ρ C ⟨r1, r2, r3, r4, r5, r6, r7, r8, r9, r10, r11, r12, rfl, hL⟩
    walk_at "g"
    have hC : C = C.take T.length ++ C.drop T.length := (List.take_append_drop _ _).symm
    rw [hC]
    exact f_tail (fun c hc => hL.fl c (List.mem_of_mem_take hc)) (by rw [List.length_take]; have := hL.len; omega) rfl rfl
end
end K60
namespace K60
open PySem PySem.Spec PyProof.Rows L2 BV LamX
abbrev s_cls_BadSetup : Stmt := inCls (top 2)
theorem et_BadSetup : ErrT PySem.Challenge.rw_wrecktold_k60_whole_how_many_rows_can_co.prog s_cls_BadSetup "at" "at" "no such setup" := ⟨⟨_, _, _, _, _, _, _, _, _, _, _, rfl, rfl⟩, ⟨_, rfl, rfl⟩, rfl, rfl, rfl, rfl, ⟨by decide, by decide, by decide⟩, by decide +kernel, by decide +kernel, rfl, rfl, rfl, by decide +kernel⟩
abbrev s_cls_Refused : Stmt := inCls (top 3)
theorem et_Refused : ErrT PySem.Challenge.rw_wrecktold_k60_whole_how_many_rows_can_co.prog s_cls_Refused "at" "at" "no such value here" := ⟨⟨_, _, _, _, _, _, _, _, _, _, _, rfl, rfl⟩, ⟨_, rfl, rfl⟩, rfl, rfl, rfl, rfl, ⟨by decide, by decide, by decide⟩, by decide +kernel, by decide +kernel, rfl, rfl, rfl, by decide +kernel⟩
theorem all_mk {l : PySem.W.OpenLaw} {w : World} {K : PySem.W.Frag} {h : Heap} {mg : Str → Option Value} {fa : Addr} {g0 P0 : Addr} (X : K.In h) (G : h.Ns mainGlobals mg) (hfa : mg "law" = some (.ref fa))
    {f0 : Addr} {oc0 kV0 dc0 pm0 cd0 ct0 : Value} {od0 an0 : Option Addr} {sl0 : Array (Option Value)}
    (a0 : PySem.W.nsIn K mainGlobals "_law_box" = some (some (.ref f0))) (l0 : K.lookup f0 = some ⟨oc0, od0, .func (PySem.W.fnOf "_law_box" "_law_box" (defArgs s_law_box) (defBody s_law_box) (defScope s_law_box) .none kV0 dc0 pm0 an0 cd0 ct0), sl0⟩) (c0 : PySem.W.codeIn K cd0 "_law_box" = true) (k0 : PySem.W.keepIn K (.ref f0) = true)
    {f1 : Addr} {oc1 kV1 dc1 pm1 cd1 ct1 : Value} {od1 an1 : Option Addr} {sl1 : Array (Option Value)}
    (a1 : PySem.W.nsIn K mainGlobals "_law_take" = some (some (.ref f1))) (l1 : K.lookup f1 = some ⟨oc1, od1, .func (PySem.W.fnOf "_law_take" "_law_take" (defArgs s_law_take) (defBody s_law_take) (defScope s_law_take) .none kV1 dc1 pm1 an1 cd1 ct1), sl1⟩) (c1 : PySem.W.codeIn K cd1 "_law_take" = true) (k1 : PySem.W.keepIn K (.ref f1) = true)
    {f2 : Addr} {oc2 kV2 dc2 pm2 cd2 ct2 : Value} {od2 an2 : Option Addr} {sl2 : Array (Option Value)}
    (a2 : PySem.W.nsIn K mainGlobals "_law_setup" = some (some (.ref f2))) (l2 : K.lookup f2 = some ⟨oc2, od2, .func (PySem.W.fnOf "_law_setup" "_law_setup" (defArgs s_law_setup) (defBody s_law_setup) (defScope s_law_setup) .none kV2 dc2 pm2 an2 cd2 ct2), sl2⟩) (c2 : PySem.W.codeIn K cd2 "_law_setup" = true) (k2 : PySem.W.keepIn K (.ref f2) = true)
    {f3 : Addr} {oc3 kV3 dc3 pm3 cd3 ct3 : Value} {od3 an3 : Option Addr} {sl3 : Array (Option Value)}
    (a3 : PySem.W.nsIn K mainGlobals "_law_spans" = some (some (.ref f3))) (l3 : K.lookup f3 = some ⟨oc3, od3, .func (PySem.W.fnOf "_law_spans" "_law_spans" (defArgs s_law_spans) (defBody s_law_spans) (defScope s_law_spans) .none kV3 dc3 pm3 an3 cd3 ct3), sl3⟩) (c3 : PySem.W.codeIn K cd3 "_law_spans" = true) (k3 : PySem.W.keepIn K (.ref f3) = true)
    {f4 : Addr} {oc4 kV4 dc4 pm4 cd4 ct4 : Value} {od4 an4 : Option Addr} {sl4 : Array (Option Value)}
    (a4 : PySem.W.nsIn K mainGlobals "_law_most" = some (some (.ref f4))) (l4 : K.lookup f4 = some ⟨oc4, od4, .func (PySem.W.fnOf "_law_most" "_law_most" (defArgs s_law_most) (defBody s_law_most) (defScope s_law_most) .none kV4 dc4 pm4 an4 cd4 ct4), sl4⟩) (c4 : PySem.W.codeIn K cd4 "_law_most" = true) (k4 : PySem.W.keepIn K (.ref f4) = true)
    {f5 : Addr} {oc5 kV5 dc5 pm5 cd5 ct5 : Value} {od5 an5 : Option Addr} {sl5 : Array (Option Value)}
    (a5 : PySem.W.nsIn K mainGlobals "is_sequence" = some (some (.ref f5))) (l5 : K.lookup f5 = some ⟨oc5, od5, .func (PySem.W.fnOf "is_sequence" "is_sequence" (defArgs s_is_sequence) (defBody s_is_sequence) (defScope s_is_sequence) .none kV5 dc5 pm5 an5 cd5 ct5), sl5⟩) (c5 : PySem.W.codeIn K cd5 "is_sequence" = true) (k5 : PySem.W.keepIn K (.ref f5) = true)
    {f6 : Addr} {oc6 kV6 dc6 pm6 cd6 ct6 : Value} {od6 an6 : Option Addr} {sl6 : Array (Option Value)}
    (a6 : PySem.W.nsIn K mainGlobals "is_integer" = some (some (.ref f6))) (l6 : K.lookup f6 = some ⟨oc6, od6, .func (PySem.W.fnOf "is_integer" "is_integer" (defArgs s_is_integer) (defBody s_is_integer) (defScope s_is_integer) .none kV6 dc6 pm6 an6 cd6 ct6), sl6⟩) (c6 : PySem.W.codeIn K cd6 "is_integer" = true) (k6 : PySem.W.keepIn K (.ref f6) = true)
    {f7 : Addr} {oc7 kV7 dc7 pm7 cd7 ct7 : Value} {od7 an7 : Option Addr} {sl7 : Array (Option Value)}
    (a7 : PySem.W.nsIn K mainGlobals "is_span" = some (some (.ref f7))) (l7 : K.lookup f7 = some ⟨oc7, od7, .func (PySem.W.fnOf "is_span" "is_span" (defArgs s_is_span) (defBody s_is_span) (defScope s_is_span) .none kV7 dc7 pm7 an7 cd7 ct7), sl7⟩) (c7 : PySem.W.codeIn K cd7 "is_span" = true) (k7 : PySem.W.keepIn K (.ref f7) = true)
    {f8 : Addr} {oc8 kV8 dc8 pm8 cd8 ct8 : Value} {od8 an8 : Option Addr} {sl8 : Array (Option Value)}
    (a8 : PySem.W.nsIn K mainGlobals "is_source" = some (some (.ref f8))) (l8 : K.lookup f8 = some ⟨oc8, od8, .func (PySem.W.fnOf "is_source" "is_source" (defArgs s_is_source) (defBody s_is_source) (defScope s_is_source) .none kV8 dc8 pm8 an8 cd8 ct8), sl8⟩) (c8 : PySem.W.codeIn K cd8 "is_source" = true) (k8 : PySem.W.keepIn K (.ref f8) = true)
    {f9 : Addr} {oc9 kV9 dc9 pm9 cd9 ct9 : Value} {od9 an9 : Option Addr} {sl9 : Array (Option Value)}
    (a9 : PySem.W.nsIn K mainGlobals "are_sources" = some (some (.ref f9))) (l9 : K.lookup f9 = some ⟨oc9, od9, .func (PySem.W.fnOf "are_sources" "are_sources" (defArgs s_are_sources) (defBody s_are_sources) (defScope s_are_sources) .none kV9 dc9 pm9 an9 cd9 ct9), sl9⟩) (c9 : PySem.W.codeIn K cd9 "are_sources" = true) (k9 : PySem.W.keepIn K (.ref f9) = true)
    {f10 : Addr} {oc10 kV10 dc10 pm10 cd10 ct10 : Value} {od10 an10 : Option Addr} {sl10 : Array (Option Value)}
    (a10 : PySem.W.nsIn K mainGlobals "is_number" = some (some (.ref f10))) (l10 : K.lookup f10 = some ⟨oc10, od10, .func (PySem.W.fnOf "is_number" "is_number" (defArgs s_is_number) (defBody s_is_number) (defScope s_is_number) .none kV10 dc10 pm10 an10 cd10 ct10), sl10⟩) (c10 : PySem.W.codeIn K cd10 "is_number" = true) (k10 : PySem.W.keepIn K (.ref f10) = true)
    {f11 : Addr} {oc11 kV11 dc11 pm11 cd11 ct11 : Value} {od11 an11 : Option Addr} {sl11 : Array (Option Value)}
    (a11 : PySem.W.nsIn K mainGlobals "is_below" = some (some (.ref f11))) (l11 : K.lookup f11 = some ⟨oc11, od11, .func (PySem.W.fnOf "is_below" "is_below" (defArgs s_is_below) (defBody s_is_below) (defScope s_is_below) .none kV11 dc11 pm11 an11 cd11 ct11), sl11⟩) (c11 : PySem.W.codeIn K cd11 "is_below" = true) (k11 : PySem.W.keepIn K (.ref f11) = true)
    {f12 : Addr} {oc12 kV12 dc12 pm12 cd12 ct12 : Value} {od12 an12 : Option Addr} {sl12 : Array (Option Value)}
    (a12 : PySem.W.nsIn K mainGlobals "is_channel" = some (some (.ref f12))) (l12 : K.lookup f12 = some ⟨oc12, od12, .func (PySem.W.fnOf "is_channel" "is_channel" (defArgs s_is_channel) (defBody s_is_channel) (defScope s_is_channel) .none kV12 dc12 pm12 an12 cd12 ct12), sl12⟩) (c12 : PySem.W.codeIn K cd12 "is_channel" = true) (k12 : PySem.W.keepIn K (.ref f12) = true)
    {f13 : Addr} {oc13 kV13 dc13 pm13 cd13 ct13 : Value} {od13 an13 : Option Addr} {sl13 : Array (Option Value)}
    (a13 : PySem.W.nsIn K mainGlobals "are_channels" = some (some (.ref f13))) (l13 : K.lookup f13 = some ⟨oc13, od13, .func (PySem.W.fnOf "are_channels" "are_channels" (defArgs s_are_channels) (defBody s_are_channels) (defScope s_are_channels) .none kV13 dc13 pm13 an13 cd13 ct13), sl13⟩) (c13 : PySem.W.codeIn K cd13 "are_channels" = true) (k13 : PySem.W.keepIn K (.ref f13) = true)
    {f14 : Addr} {oc14 kV14 dc14 pm14 cd14 ct14 : Value} {od14 an14 : Option Addr} {sl14 : Array (Option Value)}
    (a14 : PySem.W.nsIn K mainGlobals "check_setup" = some (some (.ref f14))) (l14 : K.lookup f14 = some ⟨oc14, od14, .func (PySem.W.fnOf "check_setup" "check_setup" (defArgs s_check_setup) (defBody s_check_setup) (defScope s_check_setup) .none kV14 dc14 pm14 an14 cd14 ct14), sl14⟩) (c14 : PySem.W.codeIn K cd14 "check_setup" = true) (k14 : PySem.W.keepIn K (.ref f14) = true)
    {f15 : Addr} {oc15 kV15 dc15 pm15 cd15 ct15 : Value} {od15 an15 : Option Addr} {sl15 : Array (Option Value)}
    (a15 : PySem.W.nsIn K mainGlobals "check_fine" = some (some (.ref f15))) (l15 : K.lookup f15 = some ⟨oc15, od15, .func (PySem.W.fnOf "check_fine" "check_fine" (defArgs s_check_fine) (defBody s_check_fine) (defScope s_check_fine) .none kV15 dc15 pm15 an15 cd15 ct15), sl15⟩) (c15 : PySem.W.codeIn K cd15 "check_fine" = true) (k15 : PySem.W.keepIn K (.ref f15) = true)
    {f16 : Addr} {oc16 kV16 dc16 pm16 cd16 ct16 : Value} {od16 an16 : Option Addr} {sl16 : Array (Option Value)}
    (a16 : PySem.W.nsIn K mainGlobals "frame_ticks" = some (some (.ref f16))) (l16 : K.lookup f16 = some ⟨oc16, od16, .func (PySem.W.fnOf "frame_ticks" "frame_ticks" (defArgs s_frame_ticks) (defBody s_frame_ticks) (defScope s_frame_ticks) .none kV16 dc16 pm16 an16 cd16 ct16), sl16⟩) (c16 : PySem.W.codeIn K cd16 "frame_ticks" = true) (k16 : PySem.W.keepIn K (.ref f16) = true)
    {f17 : Addr} {oc17 kV17 dc17 pm17 cd17 ct17 : Value} {od17 an17 : Option Addr} {sl17 : Array (Option Value)}
    (a17 : PySem.W.nsIn K mainGlobals "most_of" = some (some (.ref f17))) (l17 : K.lookup f17 = some ⟨oc17, od17, .func (PySem.W.fnOf "most_of" "most_of" (defArgs s_most_of) (defBody s_most_of) (defScope s_most_of) .none kV17 dc17 pm17 an17 cd17 ct17), sl17⟩) (c17 : PySem.W.codeIn K cd17 "most_of" = true) (k17 : PySem.W.keepIn K (.ref f17) = true)
    {f18 : Addr} {oc18 kV18 dc18 pm18 cd18 ct18 : Value} {od18 an18 : Option Addr} {sl18 : Array (Option Value)}
    (a18 : PySem.W.nsIn K mainGlobals "most_rows" = some (some (.ref f18))) (l18 : K.lookup f18 = some ⟨oc18, od18, .func (PySem.W.fnOf "most_rows" "most_rows" (defArgs s_most_rows) (defBody s_most_rows) (defScope s_most_rows) .none kV18 dc18 pm18 an18 cd18 ct18), sl18⟩) (c18 : PySem.W.codeIn K cd18 "most_rows" = true) (k18 : PySem.W.keepIn K (.ref f18) = true)
    {f19 : Addr} {oc19 kV19 dc19 pm19 cd19 ct19 : Value} {od19 an19 : Option Addr} {sl19 : Array (Option Value)}
    (a19 : PySem.W.nsIn K mainGlobals "need_row_count" = some (some (.ref f19))) (l19 : K.lookup f19 = some ⟨oc19, od19, .func (PySem.W.fnOf "need_row_count" "need_row_count" (defArgs s_need_row_count) (defBody s_need_row_count) (defScope s_need_row_count) .none kV19 dc19 pm19 an19 cd19 ct19), sl19⟩) (c19 : PySem.W.codeIn K cd19 "need_row_count" = true) (k19 : PySem.W.keepIn K (.ref f19) = true)
    {f20 : Addr} {oc20 kV20 dc20 pm20 cd20 ct20 : Value} {od20 an20 : Option Addr} {sl20 : Array (Option Value)}
    (a20 : PySem.W.nsIn K mainGlobals "least_ticks" = some (some (.ref f20))) (l20 : K.lookup f20 = some ⟨oc20, od20, .func (PySem.W.fnOf "least_ticks" "least_ticks" (defArgs s_least_ticks) (defBody s_least_ticks) (defScope s_least_ticks) .none kV20 dc20 pm20 an20 cd20 ct20), sl20⟩) (c20 : PySem.W.codeIn K cd20 "least_ticks" = true) (k20 : PySem.W.keepIn K (.ref f20) = true)
    {f21 : Addr} {oc21 kV21 dc21 pm21 cd21 ct21 : Value} {od21 an21 : Option Addr} {sl21 : Array (Option Value)}
    (a21 : PySem.W.nsIn K mainGlobals "_law_pick" = some (some (.ref f21))) (l21 : K.lookup f21 = some ⟨oc21, od21, .func (PySem.W.fnOf "_law_pick" "_law_pick" (defArgs s_law_pick) (defBody s_law_pick) (defScope s_law_pick) .none kV21 dc21 pm21 an21 cd21 ct21), sl21⟩) (c21 : PySem.W.codeIn K cd21 "_law_pick" = true) (k21 : PySem.W.keepIn K (.ref f21) = true)
    {f22 : Addr} {oc22 kV22 dc22 pm22 cd22 ct22 : Value} {od22 an22 : Option Addr} {sl22 : Array (Option Value)}
    (a22 : PySem.W.nsIn K mainGlobals "_law_bad_setup" = some (some (.ref f22))) (l22 : K.lookup f22 = some ⟨oc22, od22, .func (PySem.W.fnOf "_law_bad_setup" "_law_bad_setup" (defArgs s_law_bad_setup) (defBody s_law_bad_setup) (defScope s_law_bad_setup) .none kV22 dc22 pm22 an22 cd22 ct22), sl22⟩) (c22 : PySem.W.codeIn K cd22 "_law_bad_setup" = true) (k22 : PySem.W.keepIn K (.ref f22) = true)
    {f23 : Addr} {oc23 kV23 dc23 pm23 ct23 : Value} {od23 an23 : Option Addr} {sl23 : Array (Option Value)}
    (a23 : PySem.W.nsIn K mainGlobals "law" = some (some (.ref f23))) (l23 : K.lookup f23 = some ⟨oc23, od23, .func (PySem.W.fnOf "law" "law" (defArgs s_law) (defBody s_law) (defScope s_law) .none kV23 dc23 pm23 an23 (.ref g0) ct23), sl23⟩) (c23 : PySem.W.codeIn K (.ref g0) "law" = true) (k23 : PySem.W.keepIn K (.ref f23) = true)
    {f24 : Addr} {oc24 kV24 dc24 pm24 cd24 ct24 : Value} {od24 an24 : Option Addr} {sl24 : Array (Option Value)}
    (a24 : PySem.W.nsIn K mainGlobals "_law_heard" = some (some (.ref f24))) (l24 : K.lookup f24 = some ⟨oc24, od24, .func (PySem.W.fnOf "_law_heard" "_law_heard" (defArgs s_law_heard) (defBody s_law_heard) (defScope s_law_heard) .none kV24 dc24 pm24 an24 cd24 ct24), sl24⟩) (c24 : PySem.W.codeIn K cd24 "_law_heard" = true) (k24 : PySem.W.keepIn K (.ref f24) = true)
    (z_abs : PySem.W.nsIn K mainGlobals "abs" = some none)
    (z_all : PySem.W.nsIn K mainGlobals "all" = some none)
    (z_bool : PySem.W.nsIn K mainGlobals "bool" = some none)
    (z_int : PySem.W.nsIn K mainGlobals "int" = some none)
    (z_isinstance : PySem.W.nsIn K mainGlobals "isinstance" = some none)
    (z_len : PySem.W.nsIn K mainGlobals "len" = some none)
    (z_list : PySem.W.nsIn K mainGlobals "list" = some none)
    (z_max : PySem.W.nsIn K mainGlobals "max" = some none)
    (z_min : PySem.W.nsIn K mainGlobals "min" = some none)
    (z_range : PySem.W.nsIn K mainGlobals "range" = some none)
    (z_repr : PySem.W.nsIn K mainGlobals "repr" = some none)
    (z_set : PySem.W.nsIn K mainGlobals "set" = some none)
    (z_sorted : PySem.W.nsIn K mainGlobals "sorted" = some none)
    (z_sum : PySem.W.nsIn K mainGlobals "sum" = some none)
    (z_tuple : PySem.W.nsIn K mainGlobals "tuple" = some none)
    {t_MOST_CHANNELS : Tok} (y_MOST_CHANNELS : PySem.W.nsIn K mainGlobals "MOST_CHANNELS" = some (some (.int (16) t_MOST_CHANNELS)))
    {t_MOST_PAUSE : Tok} (y_MOST_PAUSE : PySem.W.nsIn K mainGlobals "MOST_PAUSE" = some (some (.int (1000) t_MOST_PAUSE)))
    {t_MOST_RATE : Tok} (y_MOST_RATE : PySem.W.nsIn K mainGlobals "MOST_RATE" = some (some (.int (1000) t_MOST_RATE)))
    {t_MOST_ROWS : Tok} (y_MOST_ROWS : PySem.W.nsIn K mainGlobals "MOST_ROWS" = some (some (.int (200) t_MOST_ROWS)))
    {t_MOST_SOURCES : Tok} (y_MOST_SOURCES : PySem.W.nsIn K mainGlobals "MOST_SOURCES" = some (some (.int (8) t_MOST_SOURCES)))
    {t_MOST_TICKS : Tok} (y_MOST_TICKS : PySem.W.nsIn K mainGlobals "MOST_TICKS" = some (some (.int (100) t_MOST_TICKS)))
    {t_MOST_WAY : Tok} (y_MOST_WAY : PySem.W.nsIn K mainGlobals "MOST_WAY" = some (some (.int (1000) t_MOST_WAY)))
    {C_BadSetup : Addr} (n_BadSetup : PySem.W.nsIn K mainGlobals "BadSetup" = some (some (.ref C_BadSetup)))
    {C_Refused : Addr} (n_Refused : PySem.W.nsIn K mainGlobals "Refused" = some (some (.ref C_Refused)))
    {C_WreckError : Addr} (n_WreckError : PySem.W.nsIn K mainGlobals "WreckError" = some (some (.ref C_WreckError)))
    (x_op : PySem.W.nsIn K cStatics "thirdparty.any" = some none) (x_su : PySem.W.nsIn K mainGlobals "super" = some none)
    {fI_BadSetup cc_BadSetup cda_BadSetup : Addr} {qual_BadSetup nm_BadSetup q_BadSetup file_BadSetup : Str} {N_BadSetup : Addr} {bs_BadSetup bm_BadSetup sub_BadSetup : List Value} {sn_BadSetup : List Str} {ab_BadSetup : Bool} {col_BadSetup : Option Bool} {dd_BadSetup an_BadSetup od_BadSetup cdd_BadSetup cld_BadSetup : Option Addr} {k0_BadSetup k1_BadSetup k2_BadSetup k3_BadSetup k5_BadSetup : Option Value} {dV_BadSetup kV_BadSetup doc_BadSetup pm_BadSetup ct_BadSetup oc_BadSetup ccl_BadSetup cl_BadSetup : Value} {osl_BadSetup ccs_BadSetup csl_BadSetup : Array (Option Value)} {vs_BadSetup : Array Value} {tf_BadSetup : Tok}
    (lC_BadSetup : K.lookup C_BadSetup = some (excClassObj nm_BadSetup q_BadSetup C_BadSetup N_BadSetup bs_BadSetup bm_BadSetup true sn_BadSetup sub_BadSetup ab_BadSetup col_BadSetup dd_BadSetup k0_BadSetup k1_BadSetup k2_BadSetup k3_BadSetup k5_BadSetup "ValueError.__new__"))
    (vb_BadSetup : PySem.HandSPX.refsVE bm_BadSetup = true)
    (sa_BadSetup : PySem.W.findIn K (.ref C_BadSetup) "__setattr__" = some (some (.builtin "object.__setattr__")))
    (ex_BadSetup : PySem.W.subIn K (.ref C_BadSetup) (.type "BaseException") = some true)
    (ty_BadSetup : PySem.W.typeIn K (.ref C_BadSetup) = some (.type "type"))
    (kC_BadSetup : PySem.W.keepIn K (.ref C_BadSetup) = true)
    (vB_BadSetup : PySem.W.subIn K (.ref C_BadSetup) (.type "ValueError") = some true)
    (up_BadSetup : PySem.W.ks_superIn K C_BadSetup C_BadSetup "__init__" = some (some (.builtin "ValueError.__init__")))
    (sf_BadSetup : PySem.W.mroIn K C_BadSetup (.ref C_BadSetup) = some true)
    (nF_BadSetup : PySem.W.findIn K (.ref C_BadSetup) "at" = some none)
    (iC_BadSetup : PySem.W.findIn K (.ref C_BadSetup) "__init__" = some (some (.ref fI_BadSetup)))
    (tI_BadSetup : PySem.W.typeIn K (.ref fI_BadSetup) = some (.type "function"))
    (lI_BadSetup : K.lookup fI_BadSetup = some ⟨oc_BadSetup, od_BadSetup, .func (PySem.W.ksFn "__init__" qual_BadSetup (defArgs s_cls_BadSetup) (defBody s_cls_BadSetup) (defScope s_cls_BadSetup) dV_BadSetup kV_BadSetup doc_BadSetup pm_BadSetup an_BadSetup (.ref cda_BadSetup) ct_BadSetup cc_BadSetup), osl_BadSetup⟩)
    (cI_BadSetup : PySem.W.codeIn K (.ref cda_BadSetup) qual_BadSetup = true)
    (ld_BadSetup : K.lookup cda_BadSetup = some ⟨ccl_BadSetup, cdd_BadSetup, .fields vs_BadSetup, ccs_BadSetup⟩)
    (hv_BadSetup : vs_BadSetup[2]? = some (.str file_BadSetup tf_BadSetup))
    (hf_BadSetup : ((l.prog.main.file : Str) == file_BadSetup) = true)
    (lc_BadSetup : K.lookup cc_BadSetup = some ⟨cl_BadSetup, cld_BadSetup, .cell (some (.ref C_BadSetup)), csl_BadSetup⟩)
    (hb_BadSetup : ∀ us : List Value, us.length = ([("self" : Str), "at"] : List Str).length → bindArgs (PySem.W.ksFn "__init__" qual_BadSetup (defArgs s_cls_BadSetup) (defBody s_cls_BadSetup) (defScope s_cls_BadSetup) dV_BadSetup kV_BadSetup doc_BadSetup pm_BadSetup an_BadSetup (.ref cda_BadSetup) ct_BadSetup cc_BadSetup) ⟨us, []⟩ = pure (([("self" : Str), "at"] : List Str).zip us))
    (et_BadSetup : ErrT l.prog s_cls_BadSetup "at" "at" "no such setup")
    {fI_Refused cc_Refused cda_Refused : Addr} {qual_Refused nm_Refused q_Refused file_Refused : Str} {N_Refused : Addr} {bs_Refused bm_Refused sub_Refused : List Value} {sn_Refused : List Str} {ab_Refused : Bool} {col_Refused : Option Bool} {dd_Refused an_Refused od_Refused cdd_Refused cld_Refused : Option Addr} {k0_Refused k1_Refused k2_Refused k3_Refused k5_Refused : Option Value} {dV_Refused kV_Refused doc_Refused pm_Refused ct_Refused oc_Refused ccl_Refused cl_Refused : Value} {osl_Refused ccs_Refused csl_Refused : Array (Option Value)} {vs_Refused : Array Value} {tf_Refused : Tok}
    (lC_Refused : K.lookup C_Refused = some (excClassObj nm_Refused q_Refused C_Refused N_Refused bs_Refused bm_Refused true sn_Refused sub_Refused ab_Refused col_Refused dd_Refused k0_Refused k1_Refused k2_Refused k3_Refused k5_Refused "ValueError.__new__"))
    (vb_Refused : PySem.HandSPX.refsVE bm_Refused = true)
    (sa_Refused : PySem.W.findIn K (.ref C_Refused) "__setattr__" = some (some (.builtin "object.__setattr__")))
    (ex_Refused : PySem.W.subIn K (.ref C_Refused) (.type "BaseException") = some true)
    (ty_Refused : PySem.W.typeIn K (.ref C_Refused) = some (.type "type"))
    (kC_Refused : PySem.W.keepIn K (.ref C_Refused) = true)
    (vB_Refused : PySem.W.subIn K (.ref C_Refused) (.type "ValueError") = some true)
    (up_Refused : PySem.W.ks_superIn K C_Refused C_Refused "__init__" = some (some (.builtin "ValueError.__init__")))
    (sf_Refused : PySem.W.mroIn K C_Refused (.ref C_Refused) = some true)
    (nF_Refused : PySem.W.findIn K (.ref C_Refused) "at" = some none)
    (iC_Refused : PySem.W.findIn K (.ref C_Refused) "__init__" = some (some (.ref fI_Refused)))
    (tI_Refused : PySem.W.typeIn K (.ref fI_Refused) = some (.type "function"))
    (lI_Refused : K.lookup fI_Refused = some ⟨oc_Refused, od_Refused, .func (PySem.W.ksFn "__init__" qual_Refused (defArgs s_cls_Refused) (defBody s_cls_Refused) (defScope s_cls_Refused) dV_Refused kV_Refused doc_Refused pm_Refused an_Refused (.ref cda_Refused) ct_Refused cc_Refused), osl_Refused⟩)
    (cI_Refused : PySem.W.codeIn K (.ref cda_Refused) qual_Refused = true)
    (ld_Refused : K.lookup cda_Refused = some ⟨ccl_Refused, cdd_Refused, .fields vs_Refused, ccs_Refused⟩)
    (hv_Refused : vs_Refused[2]? = some (.str file_Refused tf_Refused))
    (hf_Refused : ((l.prog.main.file : Str) == file_Refused) = true)
    (lc_Refused : K.lookup cc_Refused = some ⟨cl_Refused, cld_Refused, .cell (some (.ref C_Refused)), csl_Refused⟩)
    (hb_Refused : ∀ us : List Value, us.length = ([("self" : Str), "at"] : List Str).length → bindArgs (PySem.W.ksFn "__init__" qual_Refused (defArgs s_cls_Refused) (defBody s_cls_Refused) (defScope s_cls_Refused) dV_Refused kV_Refused doc_Refused pm_Refused an_Refused (.ref cda_Refused) ct_Refused cc_Refused) ⟨us, []⟩ = pure (([("self" : Str), "at"] : List Str).zip us))
    (et_Refused : ErrT l.prog s_cls_Refused "at" "at" "no such value here")
    (nx_BadSetup_Refused : PySem.W.exmOne K (.ref C_BadSetup) (.ref C_Refused) = some false)
    (hno_Refused_WreckError : PySem.W.findIn K (.ref C_Refused) "at" = some none)
    (hex_Refused_WreckError : PySem.W.subIn K (.ref C_Refused) (.type "BaseException") = some true)
    (hcl_Refused_WreckError : (PySem.W.clsIn K C_Refused).isSome = true)
    (hga_Refused_WreckError : PySem.W.findIn K (.ref C_Refused) "__getattribute__" = some (some (.builtin "BaseException.__getattribute__")))
    (hgg_Refused_WreckError : PySem.W.findIn K (.ref C_Refused) "__getattr__" = some none)
    (hhd_Refused_WreckError : PySem.W.hasDictIn K C_Refused = true)
    (hca_Refused_WreckError : PySem.W.findIn K (.ref C_Refused) "__class__" = some (some (.builtin "object.__class__")))
    (hsp_Refused_WreckError : PySem.W.specialIn K (.builtin "object.__class__") "__get__" = some (some (.builtin "getset_descriptor.__get__")))
    (htk_Refused_WreckError : PySem.W.takesIn K (.builtin "object.__class__") = some true)
    (hob_Refused_WreckError : PySem.W.mroIn K C_Refused (.type "object") = some true)
    (hte_Refused_WreckError : PySem.W.exmOne K (.ref C_Refused) (.ref C_Refused) = some true)
    (hki_Refused_WreckError : PySem.W.kitOne K (.ref C_Refused) (.ref C_WreckError) = some true)
    (hno_BadSetup_WreckError : PySem.W.findIn K (.ref C_BadSetup) "at" = some none)
    (hex_BadSetup_WreckError : PySem.W.subIn K (.ref C_BadSetup) (.type "BaseException") = some true)
    (hcl_BadSetup_WreckError : (PySem.W.clsIn K C_BadSetup).isSome = true)
    (hga_BadSetup_WreckError : PySem.W.findIn K (.ref C_BadSetup) "__getattribute__" = some (some (.builtin "BaseException.__getattribute__")))
    (hgg_BadSetup_WreckError : PySem.W.findIn K (.ref C_BadSetup) "__getattr__" = some none)
    (hhd_BadSetup_WreckError : PySem.W.hasDictIn K C_BadSetup = true)
    (hca_BadSetup_WreckError : PySem.W.findIn K (.ref C_BadSetup) "__class__" = some (some (.builtin "object.__class__")))
    (hsp_BadSetup_WreckError : PySem.W.specialIn K (.builtin "object.__class__") "__get__" = some (some (.builtin "getset_descriptor.__get__")))
    (htk_BadSetup_WreckError : PySem.W.takesIn K (.builtin "object.__class__") = some true)
    (hob_BadSetup_WreckError : PySem.W.mroIn K C_BadSetup (.type "object") = some true)
    (hte_BadSetup_WreckError : PySem.W.exmOne K (.ref C_BadSetup) (.ref C_BadSetup) = some true)
    (hki_BadSetup_WreckError : PySem.W.kitOne K (.ref C_BadSetup) (.ref C_WreckError) = some true)
    : ∃ fd : FuncData, (∀ (s : Shared) (v : Value), BindsTo s fd ⟨[v], []⟩ [("_law_script", v)]) ∧ ∀ base : Heap, K.In base → base.Ns mainGlobals mg → (∀ p ∈ [(g0, P0)], LamX.TabB base mg p.1 p.2) → FnG l.prog w K mg base 12 fa fd ["_law_script"] (spD K mg 1 (d_law (fun i => [P0].getD i 0))) := by
  have e := hfa.symm.trans (PySem.W.mg_of X G a23)
  cases e
  have D0 := defAt_mk (ps := P_law_box) X G a0 l0 c0 k0 fun _ _ _ _ _ _ us hl => match us, hl with | [_, _], _ => rfl
  have D1 := defAt_mk (ps := P_law_take) X G a1 l1 c1 k1 fun _ _ _ _ _ _ us hl => match us, hl with | [_, _], _ => rfl
  have D2 := defAt_mk (ps := P_law_setup) X G a2 l2 c2 k2 fun _ _ _ _ _ _ us hl => match us, hl with | [_, _, _], _ => rfl
  have D3 := defAt_mk (ps := P_law_spans) X G a3 l3 c3 k3 fun _ _ _ _ _ _ us hl => match us, hl with | [_, _], _ => rfl
  have D4 := defAt_mk (ps := P_law_most) X G a4 l4 c4 k4 fun _ _ _ _ _ _ us hl => match us, hl with | [_, _, _], _ => rfl
  have D5 := defAt_mk (ps := P_is_sequence) X G a5 l5 c5 k5 fun _ _ _ _ _ _ us hl => match us, hl with | [_], _ => rfl
  have D6 := defAt_mk (ps := P_is_integer) X G a6 l6 c6 k6 fun _ _ _ _ _ _ us hl => match us, hl with | [_], _ => rfl
  have D7 := defAt_mk (ps := P_is_span) X G a7 l7 c7 k7 fun _ _ _ _ _ _ us hl => match us, hl with | [_, _, _], _ => rfl
  have D8 := defAt_mk (ps := P_is_source) X G a8 l8 c8 k8 fun _ _ _ _ _ _ us hl => match us, hl with | [_], _ => rfl
  have D9 := defAt_mk (ps := P_are_sources) X G a9 l9 c9 k9 fun _ _ _ _ _ _ us hl => match us, hl with | [_], _ => rfl
  have D10 := defAt_mk (ps := P_is_number) X G a10 l10 c10 k10 fun _ _ _ _ _ _ us hl => match us, hl with | [_], _ => rfl
  have D11 := defAt_mk (ps := P_is_below) X G a11 l11 c11 k11 fun _ _ _ _ _ _ us hl => match us, hl with | [_, _], _ => rfl
  have D12 := defAt_mk (ps := P_is_channel) X G a12 l12 c12 k12 fun _ _ _ _ _ _ us hl => match us, hl with | [_, _], _ => rfl
  have D13 := defAt_mk (ps := P_are_channels) X G a13 l13 c13 k13 fun _ _ _ _ _ _ us hl => match us, hl with | [_, _], _ => rfl
  have D14 := defAt_mk (ps := P_check_setup) X G a14 l14 c14 k14 fun _ _ _ _ _ _ us hl => match us, hl with | [_], _ => rfl
  have D15 := defAt_mk (ps := P_check_fine) X G a15 l15 c15 k15 fun _ _ _ _ _ _ us hl => match us, hl with | [_], _ => rfl
  have D16 := defAt_mk (ps := P_frame_ticks) X G a16 l16 c16 k16 fun _ _ _ _ _ _ us hl => match us, hl with | [_], _ => rfl
  have D17 := defAt_mk (ps := P_most_of) X G a17 l17 c17 k17 fun _ _ _ _ _ _ us hl => match us, hl with | [_, _], _ => rfl
  have D18 := defAt_mk (ps := P_most_rows) X G a18 l18 c18 k18 fun _ _ _ _ _ _ us hl => match us, hl with | [_, _], _ => rfl
  have D19 := defAt_mk (ps := P_need_row_count) X G a19 l19 c19 k19 fun _ _ _ _ _ _ us hl => match us, hl with | [_], _ => rfl
  have D20 := defAt_mk (ps := P_least_ticks) X G a20 l20 c20 k20 fun _ _ _ _ _ _ us hl => match us, hl with | [_, _], _ => rfl
  have D21 := defAt_mk (ps := P_law_pick) X G a21 l21 c21 k21 fun _ _ _ _ _ _ us hl => match us, hl with | [_, _], _ => rfl
  have D22 := defAt_mk (ps := P_law_bad_setup) X G a22 l22 c22 k22 fun _ _ _ _ _ _ us hl => match us, hl with | [_, _], _ => rfl
  have D23 := defAt_mk (ps := P_law) X G a23 l23 c23 k23 fun _ _ _ _ _ _ us hl => match us, hl with | [_], _ => rfl
  have D24 := defAt_mk (ps := P_law_heard) X G a24 l24 c24 k24 fun _ _ _ _ _ _ us hl => match us, hl with | [_], _ => rfl
  have T : ∀ base : Heap, (∀ p ∈ [(g0, P0)], LamX.TabB base mg p.1 p.2) → Txt l.prog K mg base (fun i => [f0, f1, f2, f3, f4, f5, f6, f7, f8, f9, f10, f11, f12, f13, f14, f15, f16, f17, f18, f19, f20, f21, f22, fa, f24].getD i 0) (fun i => [PySem.W.fnOf "_law_box" "_law_box" (defArgs s_law_box) (defBody s_law_box) (defScope s_law_box) .none kV0 dc0 pm0 an0 cd0 ct0, PySem.W.fnOf "_law_take" "_law_take" (defArgs s_law_take) (defBody s_law_take) (defScope s_law_take) .none kV1 dc1 pm1 an1 cd1 ct1, PySem.W.fnOf "_law_setup" "_law_setup" (defArgs s_law_setup) (defBody s_law_setup) (defScope s_law_setup) .none kV2 dc2 pm2 an2 cd2 ct2, PySem.W.fnOf "_law_spans" "_law_spans" (defArgs s_law_spans) (defBody s_law_spans) (defScope s_law_spans) .none kV3 dc3 pm3 an3 cd3 ct3, PySem.W.fnOf "_law_most" "_law_most" (defArgs s_law_most) (defBody s_law_most) (defScope s_law_most) .none kV4 dc4 pm4 an4 cd4 ct4, PySem.W.fnOf "is_sequence" "is_sequence" (defArgs s_is_sequence) (defBody s_is_sequence) (defScope s_is_sequence) .none kV5 dc5 pm5 an5 cd5 ct5, PySem.W.fnOf "is_integer" "is_integer" (defArgs s_is_integer) (defBody s_is_integer) (defScope s_is_integer) .none kV6 dc6 pm6 an6 cd6 ct6, PySem.W.fnOf "is_span" "is_span" (defArgs s_is_span) (defBody s_is_span) (defScope s_is_span) .none kV7 dc7 pm7 an7 cd7 ct7, PySem.W.fnOf "is_source" "is_source" (defArgs s_is_source) (defBody s_is_source) (defScope s_is_source) .none kV8 dc8 pm8 an8 cd8 ct8, PySem.W.fnOf "are_sources" "are_sources" (defArgs s_are_sources) (defBody s_are_sources) (defScope s_are_sources) .none kV9 dc9 pm9 an9 cd9 ct9, PySem.W.fnOf "is_number" "is_number" (defArgs s_is_number) (defBody s_is_number) (defScope s_is_number) .none kV10 dc10 pm10 an10 cd10 ct10, PySem.W.fnOf "is_below" "is_below" (defArgs s_is_below) (defBody s_is_below) (defScope s_is_below) .none kV11 dc11 pm11 an11 cd11 ct11, PySem.W.fnOf "is_channel" "is_channel" (defArgs s_is_channel) (defBody s_is_channel) (defScope s_is_channel) .none kV12 dc12 pm12 an12 cd12 ct12, PySem.W.fnOf "are_channels" "are_channels" (defArgs s_are_channels) (defBody s_are_channels) (defScope s_are_channels) .none kV13 dc13 pm13 an13 cd13 ct13, PySem.W.fnOf "check_setup" "check_setup" (defArgs s_check_setup) (defBody s_check_setup) (defScope s_check_setup) .none kV14 dc14 pm14 an14 cd14 ct14, PySem.W.fnOf "check_fine" "check_fine" (defArgs s_check_fine) (defBody s_check_fine) (defScope s_check_fine) .none kV15 dc15 pm15 an15 cd15 ct15, PySem.W.fnOf "frame_ticks" "frame_ticks" (defArgs s_frame_ticks) (defBody s_frame_ticks) (defScope s_frame_ticks) .none kV16 dc16 pm16 an16 cd16 ct16, PySem.W.fnOf "most_of" "most_of" (defArgs s_most_of) (defBody s_most_of) (defScope s_most_of) .none kV17 dc17 pm17 an17 cd17 ct17, PySem.W.fnOf "most_rows" "most_rows" (defArgs s_most_rows) (defBody s_most_rows) (defScope s_most_rows) .none kV18 dc18 pm18 an18 cd18 ct18, PySem.W.fnOf "need_row_count" "need_row_count" (defArgs s_need_row_count) (defBody s_need_row_count) (defScope s_need_row_count) .none kV19 dc19 pm19 an19 cd19 ct19, PySem.W.fnOf "least_ticks" "least_ticks" (defArgs s_least_ticks) (defBody s_least_ticks) (defScope s_least_ticks) .none kV20 dc20 pm20 an20 cd20 ct20, PySem.W.fnOf "_law_pick" "_law_pick" (defArgs s_law_pick) (defBody s_law_pick) (defScope s_law_pick) .none kV21 dc21 pm21 an21 cd21 ct21, PySem.W.fnOf "_law_bad_setup" "_law_bad_setup" (defArgs s_law_bad_setup) (defBody s_law_bad_setup) (defScope s_law_bad_setup) .none kV22 dc22 pm22 an22 cd22 ct22, PySem.W.fnOf "law" "law" (defArgs s_law) (defBody s_law) (defScope s_law) .none kV23 dc23 pm23 an23 (.ref g0) ct23, PySem.W.fnOf "_law_heard" "_law_heard" (defArgs s_law_heard) (defBody s_law_heard) (defScope s_law_heard) .none kV24 dc24 pm24 an24 cd24 ct24].getD i (PySem.W.fnOf "law" "law" (defArgs s_law) (defBody s_law) (defScope s_law) .none kV23 dc23 pm23 an23 (.ref g0) ct23)) (fun i => [P0].getD i 0) (fun i => [g0].getD i 0) := fun base TB =>
    { d_law_box := D0
      d_law_take := D1
      d_law_setup := D2
      d_law_spans := D3
      d_law_most := D4
      d_is_sequence := D5
      d_is_integer := D6
      d_is_span := D7
      d_is_source := D8
      d_are_sources := D9
      d_is_number := D10
      d_is_below := D11
      d_is_channel := D12
      d_are_channels := D13
      d_check_setup := D14
      d_check_fine := D15
      d_frame_ticks := D16
      d_most_of := D17
      d_most_rows := D18
      d_need_row_count := D19
      d_least_ticks := D20
      d_law_pick := D21
      d_law_bad_setup := D22
      d_law := D23
      d_law_heard := D24
      c_law := ⟨_, _, _, _, _, _, _, _, rfl, l23, c23⟩
      t_law := TB (g0, P0) (by simp)
      n_abs := PySem.W.mg_none_of X G z_abs
      n_all := PySem.W.mg_none_of X G z_all
      n_bool := PySem.W.mg_none_of X G z_bool
      n_int := PySem.W.mg_none_of X G z_int
      n_isinstance := PySem.W.mg_none_of X G z_isinstance
      n_len := PySem.W.mg_none_of X G z_len
      n_list := PySem.W.mg_none_of X G z_list
      n_max := PySem.W.mg_none_of X G z_max
      n_min := PySem.W.mg_none_of X G z_min
      n_range := PySem.W.mg_none_of X G z_range
      n_repr := PySem.W.mg_none_of X G z_repr
      n_set := PySem.W.mg_none_of X G z_set
      n_sorted := PySem.W.mg_none_of X G z_sorted
      n_sum := PySem.W.mg_none_of X G z_sum
      n_tuple := PySem.W.mg_none_of X G z_tuple
      c_MOST_CHANNELS := ⟨_, PySem.W.mg_of X G y_MOST_CHANNELS⟩
      c_MOST_PAUSE := ⟨_, PySem.W.mg_of X G y_MOST_PAUSE⟩
      c_MOST_RATE := ⟨_, PySem.W.mg_of X G y_MOST_RATE⟩
      c_MOST_ROWS := ⟨_, PySem.W.mg_of X G y_MOST_ROWS⟩
      c_MOST_SOURCES := ⟨_, PySem.W.mg_of X G y_MOST_SOURCES⟩
      c_MOST_TICKS := ⟨_, PySem.W.mg_of X G y_MOST_TICKS⟩
      c_MOST_WAY := ⟨_, PySem.W.mg_of X G y_MOST_WAY⟩
      e_BadSetup := errP_mk (by decide +kernel) X G et_BadSetup n_BadSetup lC_BadSetup vb_BadSetup sa_BadSetup ex_BadSetup ty_BadSetup kC_BadSetup vB_BadSetup up_BadSetup sf_BadSetup nF_BadSetup x_op x_su iC_BadSetup tI_BadSetup lI_BadSetup cI_BadSetup ld_BadSetup hv_BadSetup hf_BadSetup lc_BadSetup hb_BadSetup
      e_Refused := errP_mk (by decide +kernel) X G et_Refused n_Refused lC_Refused vb_Refused sa_Refused ex_Refused ty_Refused kC_Refused vB_Refused up_Refused sf_Refused nF_Refused x_op x_su iC_Refused tI_Refused lI_Refused cI_Refused ld_Refused hv_Refused hf_Refused lc_Refused hb_Refused
      nx_BadSetup_Refused := fun C2 C1 h2 h1 => by rw [PySem.W.mg_of X G n_BadSetup] at h2; rw [PySem.W.mg_of X G n_Refused] at h1; cases h2; cases h1; exact nx_BadSetup_Refused
      h_Refused_WreckError := ⟨C_Refused, .ref C_WreckError, errH_mk (by decide +kernel) X G n_Refused hno_Refused_WreckError hex_Refused_WreckError hcl_Refused_WreckError hga_Refused_WreckError hgg_Refused_WreckError hhd_Refused_WreckError hca_Refused_WreckError hsp_Refused_WreckError htk_Refused_WreckError hob_Refused_WreckError hte_Refused_WreckError, PySem.W.mg_of X G n_WreckError, hki_Refused_WreckError⟩
      h_BadSetup_WreckError := ⟨C_BadSetup, .ref C_WreckError, errH_mk (by decide +kernel) X G n_BadSetup hno_BadSetup_WreckError hex_BadSetup_WreckError hcl_BadSetup_WreckError hga_BadSetup_WreckError hgg_BadSetup_WreckError hhd_BadSetup_WreckError hca_BadSetup_WreckError hsp_BadSetup_WreckError htk_BadSetup_WreckError hob_BadSetup_WreckError hte_BadSetup_WreckError, PySem.W.mg_of X G n_WreckError, hki_BadSetup_WreckError⟩
      kw_most_rows_0_ticks_setup := kOk_mk D18 fun _ _ _ _ _ _ us ws h1 h2 => match us, ws, h1, h2 with | [], [_, _], _, _ => rfl
      kw_least_ticks_0_many_setup := kOk_mk D20 fun _ _ _ _ _ _ us ws h1 h2 => match us, ws, h1, h2 with | [], [_, _], _, _ => rfl }
  exact ⟨_, fun s v => .of_eq rfl, fun base _ _ TB => ok_law (fA := fun i => [f0, f1, f2, f3, f4, f5, f6, f7, f8, f9, f10, f11, f12, f13, f14, f15, f16, f17, f18, f19, f20, f21, f22, fa, f24].getD i 0) (T base TB)⟩
end K60

open PySem PySem.W PyProof.Rows in
theorem PySem.Challenge.cw_wrecktold_k60_whole_how_many_rows_can_co_holds : PySem.Challenge.rw_wrecktold_k60_whole_how_many_rows_can_co.Holds := by
  w_on; o_law; k_head; (case hw => w_witness2)
  k_fill
  refine BV.walkGT (l := PySem.Challenge.rw_wrecktold_k60_whole_how_many_rows_can_co) (k := 12) (x := "_law_script") (den := K60.d_law (fun i => [223].getD i 0)) [(225, 223)] [K60.q_law] rfl rfl ⟨rfl, by decide, by decide⟩ (fun w h Y => PySem.W.km_in_of Y) (fun w h Y => List.forall_mem_cons.mpr ⟨PySem.W.km_tabs_of Y 223 (by k_mem), fun _ h => nomatch h⟩) (fun w => List.forall_mem_cons.mpr ⟨by kernel_rfl, fun _ h => nomatch h⟩) (fun w => List.forall_mem_cons.mpr ⟨by kernel_rfl, fun _ h => nomatch h⟩) (by decide) rfl ?F (K60.law_good _)
  case F =>
    intro w mg fa h KX G hmg
    refine' K60.all_mk (g0 := 225) (P0 := 223) KX G hmg ?a0 ?l0 ?c0 ?k0 ?a1 ?l1 ?c1 ?k1 ?a2 ?l2 ?c2 ?k2 ?a3 ?l3 ?c3 ?k3 ?a4 ?l4 ?c4 ?k4 ?a5 ?l5 ?c5 ?k5 ?a6 ?l6 ?c6 ?k6 ?a7 ?l7 ?c7 ?k7 ?a8 ?l8 ?c8 ?k8 ?a9 ?l9 ?c9 ?k9 ?a10 ?l10 ?c10 ?k10 ?a11 ?l11 ?c11 ?k11 ?a12 ?l12 ?c12 ?k12 ?a13 ?l13 ?c13 ?k13 ?a14 ?l14 ?c14 ?k14 ?a15 ?l15 ?c15 ?k15 ?a16 ?l16 ?c16 ?k16 ?a17 ?l17 ?c17 ?k17 ?a18 ?l18 ?c18 ?k18 ?a19 ?l19 ?c19 ?k19 ?a20 ?l20 ?c20 ?k20 ?a21 ?l21 ?c21 ?k21 ?a22 ?l22 ?c22 ?k22 ?a23 ?l23 ?c23 ?k23 ?a24 ?l24 ?c24 ?k24 ?z_abs ?z_all ?z_bool ?z_int ?z_isinstance ?z_len ?z_list ?z_max ?z_min ?z_range ?z_repr ?z_set ?z_sorted ?z_sum ?z_tuple ?y_MOST_CHANNELS ?y_MOST_PAUSE ?y_MOST_RATE ?y_MOST_ROWS ?y_MOST_SOURCES ?y_MOST_TICKS ?y_MOST_WAY ?n_BadSetup ?n_Refused ?n_WreckError ?x_op ?x_su ?lC_BadSetup ?vb_BadSetup ?sa_BadSetup ?ex_BadSetup ?ty_BadSetup ?kC_BadSetup ?vB_BadSetup ?up_BadSetup ?sf_BadSetup ?nF_BadSetup ?iC_BadSetup ?tI_BadSetup ?lI_BadSetup ?cI_BadSetup ?ld_BadSetup ?hv_BadSetup ?hf_BadSetup ?lc_BadSetup ?hb_BadSetup ?et_BadSetup ?lC_Refused ?vb_Refused ?sa_Refused ?ex_Refused ?ty_Refused ?kC_Refused ?vB_Refused ?up_Refused ?sf_Refused ?nF_Refused ?iC_Refused ?tI_Refused ?lI_Refused ?cI_Refused ?ld_Refused ?hv_Refused ?hf_Refused ?lc_Refused ?hb_Refused ?et_Refused ?nx_BadSetup_Refused ?hno_Refused_WreckError ?hex_Refused_WreckError ?hcl_Refused_WreckError ?hga_Refused_WreckError ?hgg_Refused_WreckError ?hhd_Refused_WreckError ?hca_Refused_WreckError ?hsp_Refused_WreckError ?htk_Refused_WreckError ?hob_Refused_WreckError ?hte_Refused_WreckError ?hki_Refused_WreckError ?hno_BadSetup_WreckError ?hex_BadSetup_WreckError ?hcl_BadSetup_WreckError ?hga_BadSetup_WreckError ?hgg_BadSetup_WreckError ?hhd_BadSetup_WreckError ?hca_BadSetup_WreckError ?hsp_BadSetup_WreckError ?htk_BadSetup_WreckError ?hob_BadSetup_WreckError ?hte_BadSetup_WreckError ?hki_BadSetup_WreckError
    (case a0 => k_is)
    (case l0 => k_is)
    (case c0 => k_is)
    (case k0 => k_is)
    (case a1 => k_is)
    (case l1 => k_is)
    (case c1 => k_is)
    (case k1 => k_is)
    (case a2 => k_is)
    (case l2 => k_is)
    (case c2 => k_is)
    (case k2 => k_is)
    (case a3 => k_is)
    (case l3 => k_is)
    (case c3 => k_is)
    (case k3 => k_is)
    (case a4 => k_is)
    (case l4 => k_is)
    (case c4 => k_is)
    (case k4 => k_is)
    (case a5 => k_is)
    (case l5 => k_is)
    (case c5 => k_is)
    (case k5 => k_is)
    (case a6 => k_is)
    (case l6 => k_is)
    (case c6 => k_is)
    (case k6 => k_is)
    (case a7 => k_is)
    (case l7 => k_is)
    (case c7 => k_is)
    (case k7 => k_is)
    (case a8 => k_is)
    (case l8 => k_is)
    (case c8 => k_is)
    (case k8 => k_is)
    (case a9 => k_is)
    (case l9 => k_is)
    (case c9 => k_is)
    (case k9 => k_is)
    (case a10 => k_is)
    (case l10 => k_is)
    (case c10 => k_is)
    (case k10 => k_is)
    (case a11 => k_is)
    (case l11 => k_is)
    (case c11 => k_is)
    (case k11 => k_is)
    (case a12 => k_is)
    (case l12 => k_is)
    (case c12 => k_is)
    (case k12 => k_is)
    (case a13 => k_is)
    (case l13 => k_is)
    (case c13 => k_is)
    (case k13 => k_is)
    (case a14 => k_is)
    (case l14 => k_is)
    (case c14 => k_is)
    (case k14 => k_is)
    (case a15 => k_is)
    (case l15 => k_is)
    (case c15 => k_is)
    (case k15 => k_is)
    (case a16 => k_is)
    (case l16 => k_is)
    (case c16 => k_is)
    (case k16 => k_is)
    (case a17 => k_is)
    (case l17 => k_is)
    (case c17 => k_is)
    (case k17 => k_is)
    (case a18 => k_is)
    (case l18 => k_is)
    (case c18 => k_is)
    (case k18 => k_is)
    (case a19 => k_is)
    (case l19 => k_is)
    (case c19 => k_is)
    (case k19 => k_is)
    (case a20 => k_is)
    (case l20 => k_is)
    (case c20 => k_is)
    (case k20 => k_is)
    (case a21 => k_is)
    (case l21 => k_is)
    (case c21 => k_is)
    (case k21 => k_is)
    (case a22 => k_is)
    (case l22 => k_is)
    (case c22 => k_is)
    (case k22 => k_is)
    (case a23 => k_is)
    (case l23 => k_is)
    (case c23 => k_is)
    (case k23 => k_is)
    (case a24 => k_is)
    (case l24 => k_is)
    (case c24 => k_is)
    (case k24 => k_is)
    (case z_abs => k_is)
    (case z_all => k_is)
    (case z_bool => k_is)
    (case z_int => k_is)
    (case z_isinstance => k_is)
    (case z_len => k_is)
    (case z_list => k_is)
    (case z_max => k_is)
    (case z_min => k_is)
    (case z_range => k_is)
    (case z_repr => k_is)
    (case z_set => k_is)
    (case z_sorted => k_is)
    (case z_sum => k_is)
    (case z_tuple => k_is)
    (case y_MOST_CHANNELS => k_is)
    (case y_MOST_PAUSE => k_is)
    (case y_MOST_RATE => k_is)
    (case y_MOST_ROWS => k_is)
    (case y_MOST_SOURCES => k_is)
    (case y_MOST_TICKS => k_is)
    (case y_MOST_WAY => k_is)
    (case n_BadSetup => k_is)
    (case n_Refused => k_is)
    (case n_WreckError => k_is)
    (case x_op => k_is)
    (case x_su => k_is)
    (case lC_BadSetup => k_is)
    (case vb_BadSetup => decide +kernel)
    (case sa_BadSetup => k_is)
    (case ex_BadSetup => k_is)
    (case ty_BadSetup => k_is)
    (case kC_BadSetup => k_is)
    (case vB_BadSetup => k_is)
    (case up_BadSetup => kernel_rfl)
    (case sf_BadSetup => k_is)
    (case nF_BadSetup => k_is)
    (case iC_BadSetup => k_is)
    (case tI_BadSetup => k_is)
    (case lI_BadSetup => k_is)
    (case cI_BadSetup => k_is)
    (case ld_BadSetup => k_is)
    (case hv_BadSetup => rfl)
    (case hf_BadSetup => kernel_rfl)
    (case lc_BadSetup => k_is)
    (case hb_BadSetup => exact fun us hl => match us, hl with | [_, _], _ => rfl)
    (case et_BadSetup => exact K60.et_BadSetup)
    (case lC_Refused => k_is)
    (case vb_Refused => decide +kernel)
    (case sa_Refused => k_is)
    (case ex_Refused => k_is)
    (case ty_Refused => k_is)
    (case kC_Refused => k_is)
    (case vB_Refused => k_is)
    (case up_Refused => kernel_rfl)
    (case sf_Refused => k_is)
    (case nF_Refused => k_is)
    (case iC_Refused => k_is)
    (case tI_Refused => k_is)
    (case lI_Refused => k_is)
    (case cI_Refused => k_is)
    (case ld_Refused => k_is)
    (case hv_Refused => rfl)
    (case hf_Refused => kernel_rfl)
    (case lc_Refused => k_is)
    (case hb_Refused => exact fun us hl => match us, hl with | [_, _], _ => rfl)
    (case et_Refused => exact K60.et_Refused)
    (case nx_BadSetup_Refused => kernel_rfl)
    (case hno_Refused_WreckError => k_is)
    (case hex_Refused_WreckError => k_is)
    (case hcl_Refused_WreckError => kernel_rfl)
    (case hga_Refused_WreckError => k_is)
    (case hgg_Refused_WreckError => k_is)
    (case hhd_Refused_WreckError => k_is)
    (case hca_Refused_WreckError => k_is)
    (case hsp_Refused_WreckError => k_is)
    (case htk_Refused_WreckError => k_is)
    (case hob_Refused_WreckError => k_is)
    (case hte_Refused_WreckError => kernel_rfl)
    (case hki_Refused_WreckError => kernel_rfl)
    (case hno_BadSetup_WreckError => k_is)
    (case hex_BadSetup_WreckError => k_is)
    (case hcl_BadSetup_WreckError => kernel_rfl)
    (case hga_BadSetup_WreckError => k_is)
    (case hgg_BadSetup_WreckError => k_is)
    (case hhd_BadSetup_WreckError => k_is)
    (case hca_BadSetup_WreckError => k_is)
    (case hsp_BadSetup_WreckError => k_is)
    (case htk_BadSetup_WreckError => k_is)
    (case hob_BadSetup_WreckError => k_is)
    (case hte_BadSetup_WreckError => kernel_rfl)
    (case hki_BadSetup_WreckError => kernel_rfl)
