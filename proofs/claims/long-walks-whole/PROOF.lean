import PyProof.Rows.All
import Wide.All
import OpenK.AllK
import Wide.FinOn
import HandS.ForMost
import HandS.Wide
import HandS.Deep
import HandS.WideMore
import HandS.IsInst
import KE.GoesEnum
import HandS.Style
import HandS.SortInts
import HandS.ForDict
import KE.KDictKeyed
import KE.KDictCopyH
import KE.KDictList
import KE.KeyNested
import KE.KDictDisplayH
import HandS.DictTup
import HandS.TupSets
import HandS.SetBool
import KE.DatumOrd
import HandS.ExcInit
import HandS.ExcField
import HandS.ExcIs
import HandS.WordsExc
import KE.KExcIs
import KE.KIsAll
import HandS.HotCalls
import PyProof.EqAt
import PyProof.EqKinds
import PyProof.TupleCall
import HandS.Defaults
import PySem.Challenge.RW_firerest_k22_long_walks_whole
set_option Elab.async false
set_option linter.all false
set_option maxRecDepth 100000
/-! Lay1: states by what the slots hold (representations), owned objects, evaluation. -/
namespace Fr
open PySem L2
abbrev Sig := List (Option V)

/-- what a value stands for: kept when more is known -/
structure RP where
  r : Hp → V → Prop
  m : ∀ {G G' : Hp} {v : V}, Same G G' → r G v → r G' v
/-- what an object's content stands for -/
structure OP where
  r : Hp → HO → Prop
  m : ∀ {G G' : Hp} {o : HO}, Same G G' → r G o → r G' o
def Hide (M : List Addr) (H : Hp) : Hp := fun a => if a ∈ M then none else H a
theorem hide_in {M : List Addr} {H : Hp} {a : Addr} (h : a ∈ M) : Hide M H a = none := if_pos h
theorem hide_out {M : List Addr} {H : Hp} {a : Addr} (h : a ∉ M) : Hide M H a = H a := if_neg h
theorem hide_le {M : List Addr} {H : Hp} : Same (Hide M H) H := fun a o e => by
  by_cases h : a ∈ M
  · rw [hide_in h] at e; cases e
  · rw [hide_out h] at e; exact e
theorem hide_mono {M : List Addr} {H H' : Hp} (s : Same H H') : Same (Hide M H) (Hide M H') := fun a o e => by
  by_cases h : a ∈ M
  · rw [hide_in h] at e; cases e
  · rw [hide_out h] at e ⊢; exact s a o e
theorem hide_sub {M M' : List Addr} {H : Hp} (s : ∀ a, a ∈ M' → a ∈ M) : Same (Hide M H) (Hide M' H) := fun a o e => by
  by_cases h : a ∈ M
  · rw [hide_in h] at e; cases e
  · rw [hide_out h] at e
    rw [hide_out fun z => h (s a z)]; exact e
theorem hide_upd {M : List Addr} {H : Hp} {p : Addr} {o : HO} (h : p ∈ M) : Hide M (upd H p o) = Hide M H := by
  funext a
  by_cases ha : a ∈ M
  · rw [hide_in ha, hide_in ha]
  · rw [hide_out ha, hide_out ha, upd_ne (fun z => ha (by rw [z]; exact h))]

/-! ### data -/
theorem seqL_mono {K : PySem.W.Frag} {H H' : Hp} {a : Addr} {xs : List V} (e : Same H H') (h : SqL K H a xs) : SqL K H' a xs := e.seq h
theorem seqT_mono {K : PySem.W.Frag} {H H' : Hp} {a : Addr} {xs : List V} (e : Same H H') (h : SqT K H a xs) : SqT K H' a xs := by
  rcases h with (h | ⟨o, h⟩) | h
  · exact .inl (.inl (e _ _ h))
  · exact .inl (.inr ⟨o, e _ _ h⟩)
  · exact .inr h
mutual
theorem dp_mono {K : PySem.W.Frag} {H H' : Hp} (e : Same H H') : ∀ {d : PyData} {v : V}, Dp K H v d → Dp K H' v d
  | .none, _, h => by cases h; exact .non
  | .bool b, _, h => by cases h; exact .bl b
  | .int i, _, h => by cases h; exact .int i
  | .str x, _, h => by cases h; exact .str x
  | .list ds, _, h => by
    cases h with
    | lst hs ha => exact .lst (seqL_mono e hs) (dpAll_mono e ha)
  | .tuple ds, _, h => by
    cases h with
    | tup hs ha => exact .tup (seqT_mono e hs) (dpAll_mono e ha)
  | .dict _, _, h => by cases h
theorem dpAll_mono {K : PySem.W.Frag} {H H' : Hp} (e : Same H H') : ∀ {ds : List PyData} {vs : List V}, DpAll K H vs ds → DpAll K H' vs ds
  | [], _, h => by cases h; exact .nil
  | d :: ds, _, h => by
    cases h with
    | cons h1 h2 => exact .cons (dp_mono e h1) (dpAll_mono e h2)
end
/-- pure data -/
def D (K : PySem.W.Frag) (d : PyData) : RP := ⟨fun G v => Dp K G v d, fun e h => dp_mono e h⟩
/-- this very value -/
def Vl (x : V) : RP := ⟨fun _ v => v = x, fun _ h => h⟩
/-- some one of them -/
def Exi {α : Type} (P : α → RP) : RP := ⟨fun G v => ∃ x, (P x).r G v, fun e ⟨x, h⟩ => ⟨x, (P x).m e h⟩⟩
/-- nothing known -/
def Any : RP := ⟨fun _ _ => True, fun _ h => h⟩
abbrev I (K : PySem.W.Frag) (n : Int) : RP := D K (.int n)
abbrev B (K : PySem.W.Frag) (b : Bool) : RP := D K (.bool b)
abbrev Sx (K : PySem.W.Frag) (x : Str) : RP := D K (.str x)
abbrev Nn (K : PySem.W.Frag) : RP := D K .none
theorem I_val {K : PySem.W.Frag} {G : Hp} {v : V} {n : Int} (h : (I K n).r G v) : v = .int n := by
  have h' : Dp K G v (.int n) := h
  cases h'; rfl
theorem B_val {K : PySem.W.Frag} {G : Hp} {v : V} {b : Bool} (h : (B K b).r G v) : v = .bl b := by
  have h' : Dp K G v (.bool b) := h
  cases h'; rfl
theorem S_val {K : PySem.W.Frag} {G : Hp} {v : V} {x : Str} (h : (Sx K x).r G v) : v = .str x := by
  have h' : Dp K G v (.str x) := h
  cases h'; rfl
theorem N_val {K : PySem.W.Frag} {G : Hp} {v : V} (h : (Nn K).r G v) : v = .non := by
  have h' : Dp K G v .none := h
  cases h'; rfl
theorem L_val {K : PySem.W.Frag} {G : Hp} {v : V} {ds : List PyData} (h : (D K (.list ds)).r G v) : ∃ a xs, v = .ref a ∧ SqL K G a xs ∧ DpAll K G xs ds := by
  have h' : Dp K G v (.list ds) := h
  cases h' with
  | lst hs ha => exact ⟨_, _, rfl, hs, ha⟩
theorem T_val {K : PySem.W.Frag} {G : Hp} {v : V} {ds : List PyData} (h : (D K (.tuple ds)).r G v) : ∃ a xs, v = .ref a ∧ SqT K G a xs ∧ DpAll K G xs ds := by
  have h' : Dp K G v (.tuple ds) := h
  cases h' with
  | tup hs ha => exact ⟨_, _, rfl, hs, ha⟩
theorem dpAll_len {K : PySem.W.Frag} {G : Hp} : ∀ {ds : List PyData} {vs : List V}, DpAll K G vs ds → vs.length = ds.length
  | [], _, h => by cases h; rfl
  | d :: ds, _, h => by
    cases h with
    | cons h1 h2 => rw [List.length_cons, List.length_cons, dpAll_len h2]
theorem dpAll_get {K : PySem.W.Frag} {G : Hp} : ∀ {ds : List PyData} {vs : List V} {i : Nat} {d : PyData}, DpAll K G vs ds → ds[i]? = some d → ∃ v, vs[i]? = some v ∧ Dp K G v d
  | [], _, _, _, _, e => by simp at e
  | d :: ds, _, i, d', h, e => by
    cases h with
    | @cons v vs _ _ h1 h2 =>
      cases i with
      | zero => simp at e; subst e; exact ⟨v, rfl, h1⟩
      | succ i =>
        obtain ⟨v', a, b⟩ := dpAll_get (i := i) (d := d') h2 (by simpa using e)
        exact ⟨v', by simpa using a, b⟩
theorem dpAll_get' {K : PySem.W.Frag} {G : Hp} : ∀ {ds : List PyData} {vs : List V} {i : Nat} {v : V}, DpAll K G vs ds → vs[i]? = some v → ∃ d, ds[i]? = some d ∧ Dp K G v d
  | [], _, _, _, h, e => by cases h; simp at e
  | d :: ds, _, i, v', h, e => by
    cases h with
    | @cons v vs _ _ h1 h2 =>
      cases i with
      | zero => simp at e; subst e; exact ⟨d, rfl, h1⟩
      | succ i =>
        obtain ⟨d', a, b⟩ := dpAll_get' (i := i) (v := v') h2 (by simpa using e)
        exact ⟨d', by simpa using a, b⟩
theorem dpAll_app {K : PySem.W.Frag} {G : Hp} : ∀ {ds es : List PyData} {vs ws : List V}, DpAll K G vs ds → DpAll K G ws es → DpAll K G (vs ++ ws) (ds ++ es)
  | [], _, _, _, h, k => by cases h; exact k
  | d :: ds, _, _, _, h, k => by
    cases h with
    | cons h1 h2 => exact .cons h1 (dpAll_app h2 k)
theorem dpAll_take {K : PySem.W.Frag} {G : Hp} : ∀ {ds : List PyData} {vs : List V} (n : Nat), DpAll K G vs ds → DpAll K G (vs.take n) (ds.take n)
  | [], _, n, h => by cases h; simp; exact .nil
  | d :: ds, _, 0, h => by simp; exact .nil
  | d :: ds, _, n + 1, h => by
    cases h with
    | cons h1 h2 => exact .cons h1 (dpAll_take n h2)
theorem dpAll_drop {K : PySem.W.Frag} {G : Hp} : ∀ {ds : List PyData} {vs : List V} (n : Nat), DpAll K G vs ds → DpAll K G (vs.drop n) (ds.drop n)
  | [], _, n, h => by cases h; simp; exact .nil
  | d :: ds, _, 0, h => h
  | d :: ds, _, n + 1, h => by
    cases h with
    | cons h1 h2 => exact dpAll_drop n h2
theorem dpAll_set {K : PySem.W.Frag} {G : Hp} {v : V} {d : PyData} (hv : Dp K G v d) : ∀ {ds : List PyData} {vs : List V} (i : Nat), DpAll K G vs ds → DpAll K G (vs.set i v) (ds.set i d)
  | [], _, _, h => by cases h; exact .nil
  | _ :: _, _, 0, h => by
    cases h with
    | cons h1 h2 => exact .cons hv h2
  | _ :: _, _, i + 1, h => by
    cases h with
    | cons h1 h2 => exact .cons h1 (dpAll_set hv i h2)
theorem dpAll_ints {K : PySem.W.Frag} {G : Hp} : ∀ {ns : List Int} {vs : List V}, DpAll K G vs (ns.map .int) ↔ vs = ns.map V.int
  | [], vs => ⟨fun h => by cases h; rfl, fun h => by subst h; exact .nil⟩
  | n :: ns, vs => ⟨fun h => by
      cases h with
      | cons h1 h2 => cases h1; rw [dpAll_ints.mp h2]; rfl,
    fun h => by subst h; exact .cons (.int n) (dpAll_ints.mpr rfl)⟩

/-! ### states -/
abbrev Gam := List (Option RP)
abbrev Del := List (Addr × OP)
/-- a def's entry heap, what its callers own, what is remembered -/
structure Fm where
  H0 : Hp
  M : List Addr
  X : List (V × RP)
def Slots (G : Hp) : List (Option V) → Gam → Prop
  | [], [] => True
  | s :: σ, g :: Γ => (match g with
    | none => True
    | some R => ∃ v, s = some v ∧ R.r G v) ∧ Slots G σ Γ
  | _, _ => False
abbrev dom (Δ : Del) : List Addr := Δ.map (·.1)
abbrev Hid (F : Fm) (Δ : Del) (H : Hp) : Hp := Hide (dom Δ ++ F.M) H
structure Stt (F : Fm) (Γ : Gam) (Δ : Del) (σ : Sig) (H : Hp) : Prop where
  ex : Same F.H0 H
  fr : ∀ p ∈ dom Δ, F.H0 p = none
  lv : ∀ p ∈ F.M, ∃ o, F.H0 p = some o
  nd : (dom Δ).Nodup
  ow : ∀ q ∈ Δ, ∃ o, H q.1 = some o ∧ q.2.r (Hid F Δ H) o
  gh : ∀ g ∈ F.X, g.2.r (Hid F Δ H) g.1
  sl : Slots (Hid F Δ H) σ Γ
theorem Slots.mono {G G' : Hp} (e : Same G G') : ∀ {σ : Sig} {Γ : Gam}, Slots G σ Γ → Slots G' σ Γ
  | [], [], _ => trivial
  | s :: σ, none :: Γ, h => ⟨trivial, Slots.mono e h.2⟩
  | s :: σ, some R :: Γ, h => by
    obtain ⟨⟨v, a, b⟩, h2⟩ := h
    exact ⟨⟨v, a, R.m e b⟩, Slots.mono e h2⟩
  | [], _ :: _, h => h.elim
  | _ :: _, [], h => h.elim
theorem Slots.get {G : Hp} : ∀ {σ : Sig} {Γ : Gam} {i : Nat} {R : RP}, Slots G σ Γ → Γ[i]? = some (some R) → ∃ v, σ[i]? = some (some v) ∧ R.r G v
  | [], [], _, _, _, e => by simp at e
  | s :: σ, g :: Γ, 0, R, h, e => by
    simp at e; subst e
    obtain ⟨⟨v, a, b⟩, _⟩ := h
    exact ⟨v, by simp [a], b⟩
  | s :: σ, g :: Γ, i + 1, R, h, e => by
    obtain ⟨v, a, b⟩ := Slots.get (i := i) (R := R) h.2 (by simpa using e)
    exact ⟨v, by simpa using a, b⟩
  | [], _ :: _, _, _, h, _ => h.elim
  | _ :: _, [], _, _, h, _ => h.elim
theorem Slots.set {G : Hp} {v : V} {R : RP} (hv : R.r G v) : ∀ {σ : Sig} {Γ : Gam} (i : Nat), Slots G σ Γ → Slots G (σ.set i (some v)) (Γ.set i (some R))
  | [], [], _, h => h
  | s :: σ, g :: Γ, 0, h => ⟨⟨v, rfl, hv⟩, h.2⟩
  | s :: σ, g :: Γ, i + 1, h => ⟨h.1, Slots.set hv i h.2⟩
  | [], _ :: _, _, h => h.elim
  | _ :: _, [], _, h => h.elim
theorem Slots.forget {G : Hp} : ∀ {σ : Sig} {Γ : Gam} (i : Nat), Slots G σ Γ → Slots G (σ.set i none) (Γ.set i none)
  | [], [], _, h => h
  | s :: σ, g :: Γ, 0, h => ⟨trivial, h.2⟩
  | s :: σ, g :: Γ, i + 1, h => ⟨h.1, Slots.forget i h.2⟩
  | [], _ :: _, _, h => h.elim
  | _ :: _, [], _, h => h.elim
/-- some of what is known -/
inductive Le : Gam → Gam → Prop
  | nil : Le [] []
  | keep {g : Option RP} {Γ Γ' : Gam} : Le Γ Γ' → Le (g :: Γ) (g :: Γ')
  | drop {g : Option RP} {Γ Γ' : Gam} : Le Γ Γ' → Le (none :: Γ) (g :: Γ')
  | imp {R R' : RP} {Γ Γ' : Gam} (h : ∀ G v, R'.r G v → R.r G v) : Le Γ Γ' → Le (some R :: Γ) (some R' :: Γ')
theorem Le.refl : ∀ Γ : Gam, Le Γ Γ
  | [] => .nil
  | _ :: Γ => .keep (Le.refl Γ)
theorem Slots.le {G : Hp} : ∀ {Γ Γ' : Gam} {σ : Sig}, Le Γ Γ' → Slots G σ Γ' → Slots G σ Γ
  | _, _, σ, .nil, h => h
  | _, _, [], .keep _, h => h.elim
  | _, _, _ :: _, .keep l, h => ⟨h.1, Slots.le l h.2⟩
  | _, _, [], .drop _, h => h.elim
  | _, _, _ :: _, .drop l, h => ⟨trivial, Slots.le l h.2⟩
  | _, _, [], .imp _ _, h => h.elim
  | _, _, _ :: _, .imp i l, h => by
    obtain ⟨⟨v, a, b⟩, h2⟩ := h
    exact ⟨⟨v, a, i _ _ b⟩, Slots.le l h2⟩
section
variable {F : Fm} {Γ Γ' : Gam} {Δ : Del} {σ : Sig} {H H' : Hp}
theorem Stt.mono (s : Stt F Γ Δ σ H) (e : Same H H') : Stt F Γ Δ σ H' :=
  ⟨s.ex.trans e, s.fr, s.lv, s.nd, fun q hq => let ⟨o, a, b⟩ := s.ow q hq; ⟨o, e _ _ a, q.2.m (hide_mono e) b⟩, fun g hg => g.2.m (hide_mono e) (s.gh g hg), s.sl.mono (hide_mono e)⟩
theorem Stt.le (s : Stt F Γ Δ σ H) (l : Le Γ' Γ) : Stt F Γ' Δ σ H := ⟨s.ex, s.fr, s.lv, s.nd, s.ow, s.gh, s.sl.le l⟩
theorem Stt.get (s : Stt F Γ Δ σ H) {i : Nat} {R : RP} (h : Γ[i]? = some (some R)) : ∃ v, σ[i]? = some (some v) ∧ R.r (Hid F Δ H) v := s.sl.get h
theorem Stt.set (s : Stt F Γ Δ σ H) {v : V} {R : RP} (h : R.r (Hid F Δ H) v) (i : Nat) : Stt F (Γ.set i (some R)) Δ (σ.set i (some v)) H := ⟨s.ex, s.fr, s.lv, s.nd, s.ow, s.gh, s.sl.set h i⟩
/-- what is owned or hidden is there -/
theorem Stt.live (s : Stt F Γ Δ σ H) {p : Addr} (h : p ∈ dom Δ ++ F.M) : ∃ o, H p = some o := by
  rcases List.mem_append.mp h with h | h
  · obtain ⟨q, hq, rfl⟩ := List.mem_map.mp h
    obtain ⟨o, a, _⟩ := s.ow q hq
    exact ⟨o, a⟩
  · obtain ⟨o, a⟩ := s.lv p h
    exact ⟨o, s.ex _ _ a⟩
theorem Stt.new (s : Stt F Γ Δ σ H) {p : Addr} (h : H p = none) : p ∉ dom Δ ++ F.M := fun z => by
  obtain ⟨o, a⟩ := s.live z
  rw [h] at a; cases a
theorem same_new {p : Addr} {o : HO} (h : H p = none) : Same H (upd H p o) := fun a u e => by
  rw [upd_ne (ne_of_none e h)]; exact e
/-- a fresh object, frozen -/
theorem Stt.fresh (s : Stt F Γ Δ σ H) {p : Addr} {o : HO} (h : H p = none) : Hid F Δ (upd H p o) p = some o := by
  show Hide _ _ p = _
  rw [hide_out (s.new h), upd_same]
/-- an owned object is written -/
theorem Stt.wr {p : Addr} {O O' : OP} {o : HO} {Δ1 Δ2 : Del} (s : Stt F Γ (Δ1 ++ (p, O) :: Δ2) σ H) (h : O'.r (Hid F (Δ1 ++ (p, O) :: Δ2) H) o) : Stt F Γ (Δ1 ++ (p, O') :: Δ2) σ (upd H p o) := by
  have hd : dom (Δ1 ++ (p, O') :: Δ2) = dom (Δ1 ++ (p, O) :: Δ2) := by simp [dom]
  have hp : p ∈ dom (Δ1 ++ (p, O) :: Δ2) ++ F.M := List.mem_append_left _ (by simp [dom])
  have hh : Hid F (Δ1 ++ (p, O') :: Δ2) (upd H p o) = Hid F (Δ1 ++ (p, O) :: Δ2) H := by
    show Hide (dom (Δ1 ++ (p, O') :: Δ2) ++ F.M) _ = _
    rw [hd]
    exact hide_upd hp
  have hf : F.H0 p = none := s.fr p (by simp [dom])
  refine ⟨fun a u e => ?_, fun q hq => s.fr q (hd ▸ hq), s.lv, hd ▸ s.nd, fun q hq => ?_, fun g hg => by rw [hh]; exact s.gh g hg, by rw [hh]; exact s.sl⟩
  · rw [upd_ne (ne_of_none e hf)]; exact s.ex _ _ e
  · rw [hh]
    have nd := s.nd
    have old : ∀ q, (q ∈ Δ1 ∨ q ∈ Δ2) → ∃ u, upd H p o q.1 = some u ∧ q.2.r (Hid F (Δ1 ++ (p, O) :: Δ2) H) u := fun q hq => by
      have hq' : q ∈ Δ1 ++ (p, O) :: Δ2 := by
        rcases hq with h | h
        · exact List.mem_append_left _ h
        · exact List.mem_append_right _ (List.mem_cons_of_mem _ h)
      obtain ⟨u, a, b⟩ := s.ow q hq'
      refine ⟨u, ?_, b⟩
      rw [upd_ne]
      · exact a
      · intro e
        have nd' : (dom Δ1 ++ p :: dom Δ2).Nodup := by simpa [dom] using nd
        have n2 := List.nodup_append.mp nd'
        rcases hq with h | h
        · exact n2.2.2 q.1 (List.mem_map.mpr ⟨q, h, rfl⟩) p (List.mem_cons_self ..) e
        · exact (List.nodup_cons.mp n2.2.1).1 (e ▸ List.mem_map.mpr ⟨q, h, rfl⟩)
    rcases List.mem_append.mp hq with h1 | h1
    · exact old q (.inl h1)
    · rcases List.mem_cons.mp h1 with h1 | h1
      · subst h1
        exact ⟨o, upd_same, h⟩
      · exact old q (.inr h1)
/-- a fresh object, owned -/
theorem Stt.own {p : Addr} {O : OP} {o : HO} (s : Stt F Γ Δ σ H) (hp : H p = none) (h : ∀ G, Same (Hid F Δ H) G → O.r G o) : Stt F Γ ((p, O) :: Δ) σ (upd H p o) := by
  have up : Same (Hid F Δ H) (Hid F ((p, O) :: Δ) (upd H p o)) := fun a u e => by
    have e' := hide_le _ _ e
    have ne : a ≠ p := ne_of_none e' hp
    have na : a ∉ dom Δ ++ F.M := fun z => by
      rw [show Hid F Δ H a = none from hide_in z] at e; cases e
    show Hide (p :: (dom Δ ++ F.M)) _ a = _
    rw [hide_out (by intro z; rcases List.mem_cons.mp z with z | z; exact ne z; exact na z), upd_ne ne]
    exact e'
  have h0 : F.H0 p = none := s.ex.free hp
  refine ⟨s.ex.trans (same_new hp), fun q hq => ?_, s.lv, ?_, fun q hq => ?_, fun g hg => g.2.m up (s.gh g hg), s.sl.mono up⟩
  · rcases List.mem_cons.mp hq with z | z
    · rw [z]; exact h0
    · exact s.fr q z
  · refine List.nodup_cons.mpr ⟨fun z => s.new hp (List.mem_append_left _ z), s.nd⟩
  · rcases List.mem_cons.mp hq with z | z
    · subst z; exact ⟨o, upd_same, h _ up⟩
    · obtain ⟨u, a, b⟩ := s.ow q z
      exact ⟨u, by rw [upd_ne (ne_of_none a hp)]; exact a, q.2.m up b⟩
/-- the first owned object is given away -/
theorem Stt.drop {p : Addr} {O : OP} {Δ1 Δ2 : Del} (s : Stt F Γ (Δ1 ++ (p, O) :: Δ2) σ H) : Stt F Γ (Δ1 ++ Δ2) σ H := by
  have hs : ∀ a, a ∈ dom (Δ1 ++ Δ2) → a ∈ dom (Δ1 ++ (p, O) :: Δ2) := fun a ha => by
    simp only [dom, List.map_append, List.map_cons, List.mem_append, List.mem_cons] at ha ⊢
    rcases ha with h | h
    · exact .inl h
    · exact .inr (.inr h)
  have up : Same (Hid F (Δ1 ++ (p, O) :: Δ2) H) (Hid F (Δ1 ++ Δ2) H) := hide_sub fun a ha => by
    rcases List.mem_append.mp ha with h | h
    · exact List.mem_append_left _ (hs a h)
    · exact List.mem_append_right _ h
  refine ⟨s.ex, fun q hq => s.fr q (hs q hq), s.lv, ?_, fun q hq => ?_, fun g hg => g.2.m up (s.gh g hg), s.sl.mono up⟩
  · have nd' : (dom Δ1 ++ p :: dom Δ2).Nodup := by simpa [dom] using s.nd
    have : (dom Δ1 ++ dom Δ2).Nodup := by
      refine nd'.sublist ?_
      exact List.Sublist.append (List.Sublist.refl _) (List.sublist_cons_self _ _)
    simpa [dom] using this
  · have hq' : q ∈ Δ1 ++ (p, O) :: Δ2 := by
      rcases List.mem_append.mp hq with h | h
      · exact List.mem_append_left _ h
      · exact List.mem_append_right _ (List.mem_cons_of_mem _ h)
    obtain ⟨o, a, b⟩ := s.ow q hq'
    exact ⟨o, a, q.2.m up b⟩
/-- what the given-away object holds is then frozen -/
theorem Stt.froz {p : Addr} {O : OP} {Δ1 Δ2 : Del} (s : Stt F Γ (Δ1 ++ (p, O) :: Δ2) σ H) : ∃ o, Hid F (Δ1 ++ Δ2) H p = some o ∧ O.r (Hid F (Δ1 ++ Δ2) H) o := by
  have hmem : (p, O) ∈ Δ1 ++ (p, O) :: Δ2 := List.mem_append_right _ (List.mem_cons_self ..)
  obtain ⟨o, a, b⟩ := s.ow _ hmem
  have hs : ∀ a, a ∈ dom (Δ1 ++ Δ2) → a ∈ dom (Δ1 ++ (p, O) :: Δ2) := fun a ha => by
    simp only [dom, List.map_append, List.map_cons, List.mem_append, List.mem_cons] at ha ⊢
    rcases ha with h | h
    · exact .inl h
    · exact .inr (.inr h)
  have up : Same (Hid F (Δ1 ++ (p, O) :: Δ2) H) (Hid F (Δ1 ++ Δ2) H) := hide_sub fun a ha => by
    rcases List.mem_append.mp ha with h | h
    · exact List.mem_append_left _ (hs a h)
    · exact List.mem_append_right _ h
  refine ⟨o, ?_, O.m up b⟩
  have nd' : (dom Δ1 ++ p :: dom Δ2).Nodup := by simpa [dom] using s.nd
  have n2 := List.nodup_append.mp nd'
  have h0 : F.H0 p = none := s.fr p (by simp [dom])
  show Hide _ _ p = _
  rw [hide_out]
  · exact a
  · intro z
    rcases List.mem_append.mp z with z | z
    · simp only [dom, List.map_append, List.mem_append] at z
      rcases z with z | z
      · exact n2.2.2 p z p (List.mem_cons_self ..) rfl
      · exact (List.nodup_cons.mp n2.2.1).1 z
    · obtain ⟨o, e⟩ := s.lv p z
      rw [h0] at e; cases e
/-- something more to remember -/
def Fm.push (F : Fm) (v : V) (R : RP) : Fm := { F with X := (v, R) :: F.X }
theorem Stt.push (s : Stt F Γ Δ σ H) {v : V} {R : RP} (h : R.r (Hid F Δ H) v) : Stt (F.push v R) Γ Δ σ H :=
  ⟨s.ex, s.fr, s.lv, s.nd, s.ow, fun g hg => by
    rcases List.mem_cons.mp hg with e | e
    · subst e; exact h
    · exact s.gh g e, s.sl⟩
theorem Stt.pop {v : V} {R : RP} (s : Stt (F.push v R) Γ Δ σ H) : Stt F Γ Δ σ H := ⟨s.ex, s.fr, s.lv, s.nd, s.ow, fun g hg => s.gh g (List.mem_cons_of_mem _ hg), s.sl⟩
theorem Stt.mem {v : V} {R : RP} (s : Stt (F.push v R) Γ Δ σ H) : R.r (Hid F Δ H) v := s.gh (v, R) (List.mem_cons_self ..)
end
end Fr
set_option Elab.async false
set_option linter.all false
set_option maxRecDepth 100000
/-! Lay2: evaluation to representations: expressions, tests, arguments. -/
namespace Fr
open PySem L2

def AllR (G : Hp) : List V → List RP → Prop
  | [], [] => True
  | v :: vs, R :: Rs => R.r G v ∧ AllR G vs Rs
  | _, _ => False
theorem AllR.mono {G G' : Hp} (e : Same G G') : ∀ {vs : List V} {Rs : List RP}, AllR G vs Rs → AllR G' vs Rs
  | [], [], _ => trivial
  | _ :: _, R :: _, h => ⟨R.m e h.1, AllR.mono e h.2⟩
  | [], _ :: _, h => h.elim
  | _ :: _, [], h => h.elim
theorem AllR.len {G : Hp} : ∀ {vs : List V} {Rs : List RP}, AllR G vs Rs → vs.length = Rs.length
  | [], [], _ => rfl
  | _ :: _, R :: _, h => by rw [List.length_cons, List.length_cons, AllR.len h.2]
  | [], _ :: _, h => h.elim
  | _ :: _, [], h => h.elim
theorem AllR.get {G : Hp} : ∀ {vs : List V} {Rs : List RP} {i : Nat} {R : RP}, AllR G vs Rs → Rs[i]? = some R → ∃ v, vs[i]? = some v ∧ R.r G v
  | [], [], _, _, _, e => by simp at e
  | v :: _, R :: _, 0, _, h, e => by simp at e; subst e; exact ⟨v, rfl, h.1⟩
  | v :: _, R :: _, i + 1, R', h, e => by
    obtain ⟨v', a, b⟩ := AllR.get (i := i) (R := R') h.2 (by simpa using e)
    exact ⟨v', by simpa using a, b⟩
  | [], _ :: _, _, _, h, _ => h.elim
  | _ :: _, [], _, _, h, _ => h.elim
theorem AllR.data {K : PySem.W.Frag} {G : Hp} : ∀ {vs : List V} {ds : List PyData}, AllR G vs (ds.map (D K)) ↔ DpAll K G vs ds
  | [], [] => ⟨fun _ => .nil, fun _ => trivial⟩
  | v :: vs, d :: ds => ⟨fun h => .cons h.1 (AllR.data.mp h.2), fun h => by
      cases h with
      | cons h1 h2 => exact ⟨h1, AllR.data.mpr h2⟩⟩
  | [], d :: ds => ⟨fun h => h.elim, fun h => by cases h⟩
  | v :: vs, [] => ⟨fun h => h.elim, fun h => by cases h⟩
theorem AllR.app {G : Hp} : ∀ {vs ws : List V} {Rs Ss : List RP}, AllR G vs Rs → AllR G ws Ss → AllR G (vs ++ ws) (Rs ++ Ss)
  | [], _, [], _, _, k => k
  | _ :: _, _, _ :: _, _, h, k => ⟨h.1, AllR.app h.2 k⟩
  | [], _, _ :: _, _, h, _ => h.elim
  | _ :: _, _, [], _, h, _ => h.elim

/-! ### judgements -/
def tR (F : Fm) (Γ : Gam) (Δ : Del) (R : RP) : TE := fun σ H Q => Stt F Γ Δ σ H ∧ ∀ v H2, Same H H2 → R.r (Hid F Δ H2) v → Q v H2
def tTb (F : Fm) (Γ : Gam) (Δ : Del) (b : Bool) : TT := fun σ H Q => Stt F Γ Δ σ H ∧ ∀ H2, Same H H2 → Q b H2
def tAs (F : Fm) (Γ : Gam) (Δ : Del) (As : List RP) : TA := fun σ H Q => Stt F Γ Δ σ H ∧ ∀ vs H2, Same H H2 → AllR (Hid F Δ H2) vs As → Q vs H2
def EV (X : Cx) (F : Fm) (Γ : Gam) (Δ : Del) (e : Expr) (R : RP) : Prop := PE X e (tR F Γ Δ R)
def ET (X : Cx) (F : Fm) (Γ : Gam) (Δ : Del) (e : Expr) (b : Bool) : Prop := PT X e (tTb F Γ Δ b)
def EW (X : Cx) (F : Fm) (Γ : Gam) (Δ : Del) (e : Expr) (b : Bool) : Prop := PW X e (tTb F Γ Δ b)
def EA (X : Cx) (F : Fm) (Γ : Gam) (Δ : Del) (es : List Expr) (As : List RP) : Prop := PA X es (tAs F Γ Δ As)
theorem pe_imp {X : Cx} {e : Expr} {t t' : TE} (h : PE X e t) (i : ∀ σ H Q, t' σ H Q → t σ H Q) : PE X e t' := ⟨fun pins s σ H Q I q => h.run pins s σ H Q I (i σ H Q q)⟩
theorem pt_imp {X : Cx} {e : Expr} {t t' : TT} (h : PT X e t) (i : ∀ σ H Q, t' σ H Q → t σ H Q) : PT X e t' := ⟨fun pins s σ H Q I q => h.run pins s σ H Q I (i σ H Q q)⟩
theorem pw_imp {X : Cx} {e : Expr} {t t' : TT} (h : PW X e t) (i : ∀ σ H Q, t' σ H Q → t σ H Q) : PW X e t' := ⟨fun wh pins s σ H Q I q => h.run wh pins s σ H Q I (i σ H Q q)⟩
theorem pa_imp {X : Cx} {e : List Expr} {t t' : TA} (h : PA X e t) (i : ∀ σ H Q, t' σ H Q → t σ H Q) : PA X e t' := ⟨fun pos pins s σ H Q I q => h.run pos pins s σ H Q I (i σ H Q q)⟩
theorem pe_cond {X : Cx} {e : Expr} {t : TE} {p : Prop} (h : p → PE X e t) : PE X e (fun σ H Q => p ∧ t σ H Q) := ⟨fun pins s σ H Q I q => (h q.1).run pins s σ H Q I q.2⟩
theorem pt_cond {X : Cx} {e : Expr} {t : TT} {p : Prop} (h : p → PT X e t) : PT X e (fun σ H Q => p ∧ t σ H Q) := ⟨fun pins s σ H Q I q => (h q.1).run pins s σ H Q I q.2⟩
theorem pw_cond {X : Cx} {e : Expr} {t : TT} {p : Prop} (h : p → PW X e t) : PW X e (fun σ H Q => p ∧ t σ H Q) := ⟨fun wh pins s σ H Q I q => (h q.1).run wh pins s σ H Q I q.2⟩

section
variable {X : Cx} {F : Fm} {Γ : Gam} {Δ : Del} {a b c e : Expr} {es : List Expr} {pos : Pos} {R R' Ra Rb : RP} {i j : Int} {p q : Bool}
theorem ev_le (h : EV X F Γ Δ e R) (l : ∀ G v, R.r G v → R'.r G v) : EV X F Γ Δ e R' := pe_imp h fun _ _ _ ⟨s, k⟩ => ⟨s, fun v H2 e2 r => k v H2 e2 (l _ v r)⟩
theorem ev_is (h : EV X F Γ Δ e R) (l : R = R') : EV X F Γ Δ e R' := l ▸ h
theorem ev_int_is {n m : Int} (h : EV X F Γ Δ e (I X.K n)) (l : n = m) : EV X F Γ Δ e (I X.K m) := l ▸ h
theorem et_is (h : ET X F Γ Δ e p) (l : p = q) : ET X F Γ Δ e q := l ▸ h
theorem ev_var (i : Nat) {x : Str} (h : Γ[i]? = some (some R) := by rfl) (hN : X.N[i]? = some x := by rfl) (hv : Vis X.env.scope x := by first | exact Or.inl rfl | exact Or.inr (Or.inl rfl) | exact Or.inr (Or.inr rfl)) (hd : (x == ("__debug__" : Str)) = false := by decide)
    (hcd : (x == ("__classdict__" : Str)) = false := by decide) : EV X F Γ Δ (.Name x pos) R :=
  pe_imp (pe_var hN hv hd hcd) fun σ H Q ⟨s, k⟩ => by
    obtain ⟨v, a, b⟩ := s.get h
    exact ⟨v, a, k v H (Same.refl H) b⟩
theorem ev_c {t : V} (h : PE X e (tC t)) (hr : ∀ G, R.r G t) : EV X F Γ Δ e R := pe_imp h fun _ H _ ⟨_, k⟩ => k t H (Same.refl H) (hr _)
theorem ev_int {n : Int} {j : Nat} : EV X F Γ Δ (.Constant (.int n) j pos) (I X.K n) := ev_c pe_int fun _ => .int n
theorem ev_bl {n : Bool} {j : Nat} : EV X F Γ Δ (.Constant (.bool n) j pos) (B X.K n) := ev_c pe_bl fun _ => .bl n
theorem ev_str {n : Str} {j : Nat} : EV X F Γ Δ (.Constant (.str n) j pos) (Sx X.K n) := ev_c pe_str fun _ => .str n
theorem ev_non {j : Nat} : EV X F Γ Δ (.Constant .none j pos) (Nn X.K) := ev_c pe_non fun _ => .non
/-! ### arithmetic -/
theorem ev_op {op : Operator} {r : R2} (ho : OpR X (binaryOp op) r) (ha : EV X F Γ Δ a Ra) (hb : EV X F Γ Δ b Rb)
    (hr : ∀ σ H x y, Stt F Γ Δ σ H → Ra.r (Hid F Δ H) x → Rb.r (Hid F Δ H) y → ∀ Q : VK, (∀ v H2, Same H H2 → R.r (Hid F Δ H2) v → Q v H2) → r x y H Q) : EV X F Γ Δ (.BinOp a op b pos) R :=
  pe_imp (pe_op ho ha hb) fun σ H Q ⟨s, k⟩ => ⟨s, fun x H1 e1 r1 => ⟨s.mono e1, fun y H2 e2 r2 => hr σ H2 x y (s.mono (e1.trans e2)) (Ra.m (hide_mono e2) r1) r2 Q fun v H3 e3 r3 => k v H3 ((e1.trans e2).trans e3) r3⟩⟩
theorem ev_opI {op : Operator} {C : Int → Int → Prop} {g : Int → Int → Int} (ho : OpR X (binaryOp op) (rI C fun i j => .int (g i j))) (ha : EV X F Γ Δ a (I X.K i)) (hb : EV X F Γ Δ b (I X.K j)) (hc : C i j) : EV X F Γ Δ (.BinOp a op b pos) (I X.K (g i j)) :=
  ev_op ho ha hb fun σ H x y s ra rb Q k => ⟨i, j, I_val ra, I_val rb, hc, k _ H (Same.refl H) (.int _)⟩
theorem ev_opI0 {op : Operator} {g : Int → Int → Int} (ho : OpR X (binaryOp op) (rI0 fun i j => .int (g i j))) (ha : EV X F Γ Δ a (I X.K i)) (hb : EV X F Γ Δ b (I X.K j)) : EV X F Γ Δ (.BinOp a op b pos) (I X.K (g i j)) :=
  ev_op ho ha hb fun σ H x y s ra rb Q k => ⟨i, j, I_val ra, I_val rb, k _ H (Same.refl H) (.int _)⟩
theorem ev_add (ha : EV X F Γ Δ a (I X.K i)) (hb : EV X F Γ Δ b (I X.K j)) : EV X F Γ Δ (.BinOp a .Add b pos) (I X.K (i + j)) := ev_opI0 (g := fun i j => i + j) op_add ha hb
theorem ev_sub (ha : EV X F Γ Δ a (I X.K i)) (hb : EV X F Γ Δ b (I X.K j)) : EV X F Γ Δ (.BinOp a .Sub b pos) (I X.K (i - j)) := ev_opI0 (g := fun i j => i - j) op_sub ha hb
theorem ev_mul (ha : EV X F Γ Δ a (I X.K i)) (hb : EV X F Γ Δ b (I X.K j)) (hc : CMul i j) : EV X F Γ Δ (.BinOp a .Mult b pos) (I X.K (i * j)) := ev_opI (g := fun i j => i * j) op_mul ha hb hc
theorem ev_mod (ha : EV X F Γ Δ a (I X.K i)) (hb : EV X F Γ Δ b (I X.K j)) (hc : 0 < j) : EV X F Γ Δ (.BinOp a .Mod b pos) (I X.K (i % j)) := ev_opI (C := fun _ j => 0 < j) (g := fun i j => i % j) op_mod ha hb hc
theorem ev_div (ha : EV X F Γ Δ a (I X.K i)) (hb : EV X F Γ Δ b (I X.K j)) (hc : CDivW i j) : EV X F Γ Δ (.BinOp a .FloorDiv b pos) (I X.K (i / j)) := ev_opI (g := fun i j => i / j) op_fdivW ha hb hc
theorem ev_pow (ha : EV X F Γ Δ a (I X.K i)) (hb : EV X F Γ Δ b (I X.K j)) (hc : CPow i j) : EV X F Γ Δ (.BinOp a .Pow b pos) (I X.K (i ^ j.toNat)) := ev_opI (g := fun i j => i ^ j.toNat) op_pow ha hb hc
/-! ### comparisons -/
theorem ev_cmpR {op : CmpOp} {r : R2} (ho : OpR X (compareOp op) r) (ha : EV X F Γ Δ a Ra) (hb : EV X F Γ Δ b Rb)
    (hr : ∀ σ H x y, Stt F Γ Δ σ H → Ra.r (Hid F Δ H) x → Rb.r (Hid F Δ H) y → ∀ Q : VK, (∀ H2, Same H H2 → Q (.bl p) H2) → r x y H Q) (hm : behindInMarks op b = false) : EV X F Γ Δ (.Compare a [op] [b] pos) (B X.K p) :=
  pe_imp (pe_cmpR ho ha hb hm) fun σ H Q ⟨s, k⟩ => ⟨s, fun x H1 e1 r1 => ⟨s.mono e1, fun y H2 e2 r2 => hr σ H2 x y (s.mono (e1.trans e2)) (Ra.m (hide_mono e2) r1) r2 Q fun H3 e3 => k _ H3 ((e1.trans e2).trans e3) (.bl p)⟩⟩
theorem et_cmpR {op : CmpOp} {r : R2} (ho : OpR X (compareOp op) r) (ha : EV X F Γ Δ a Ra) (hb : EV X F Γ Δ b Rb)
    (hr : ∀ σ H x y, Stt F Γ Δ σ H → Ra.r (Hid F Δ H) x → Rb.r (Hid F Δ H) y → ∀ Q : VK, (∀ H2, Same H H2 → Q (.bl p) H2) → r x y H Q) (hm : behindInMarks op b = false) : ET X F Γ Δ (.Compare a [op] [b] pos) p :=
  pt_imp (pt_cmpR ho ha hb hm) fun σ H Q ⟨s, k⟩ => ⟨s, fun x H1 e1 r1 => ⟨s.mono e1, fun y H2 e2 r2 => hr σ H2 x y (s.mono (e1.trans e2)) (Ra.m (hide_mono e2) r1) r2 _ fun H3 e3 => ⟨p, rfl, k H3 ((e1.trans e2).trans e3)⟩⟩⟩
theorem ints_hr {g : Int → Int → Bool} : ∀ σ H x y, Stt F Γ Δ σ H → (I X.K i).r (Hid F Δ H) x → (I X.K j).r (Hid F Δ H) y → ∀ Q : VK, (∀ H2, Same H H2 → Q (.bl (g i j)) H2) → rI0 (fun i j => .bl (g i j)) x y H Q :=
  fun σ H x y s ra rb Q k => ⟨i, j, I_val ra, I_val rb, k H (Same.refl H)⟩
theorem et_lt (ha : EV X F Γ Δ a (I X.K i)) (hb : EV X F Γ Δ b (I X.K j)) : ET X F Γ Δ (.Compare a [.Lt] [b] pos) (decide (i < j)) := et_cmpR op_lt ha hb (ints_hr (g := fun i j => decide (i < j))) (nomark _)
theorem et_le (ha : EV X F Γ Δ a (I X.K i)) (hb : EV X F Γ Δ b (I X.K j)) : ET X F Γ Δ (.Compare a [.LtE] [b] pos) (decide (i ≤ j)) := et_cmpR op_le ha hb (ints_hr (g := fun i j => decide (i ≤ j))) (nomark _)
theorem et_gt (ha : EV X F Γ Δ a (I X.K i)) (hb : EV X F Γ Δ b (I X.K j)) : ET X F Γ Δ (.Compare a [.Gt] [b] pos) (decide (j < i)) := et_cmpR op_gt ha hb (ints_hr (g := fun i j => decide (j < i))) (nomark _)
theorem et_ge (ha : EV X F Γ Δ a (I X.K i)) (hb : EV X F Γ Δ b (I X.K j)) : ET X F Γ Δ (.Compare a [.GtE] [b] pos) (decide (j ≤ i)) := et_cmpR op_ge ha hb (ints_hr (g := fun i j => decide (j ≤ i))) (nomark _)
theorem ev_lt (ha : EV X F Γ Δ a (I X.K i)) (hb : EV X F Γ Δ b (I X.K j)) : EV X F Γ Δ (.Compare a [.Lt] [b] pos) (B X.K (decide (i < j))) := ev_cmpR op_lt ha hb (ints_hr (g := fun i j => decide (i < j))) (nomark _)
theorem ev_gt (ha : EV X F Γ Δ a (I X.K i)) (hb : EV X F Γ Δ b (I X.K j)) : EV X F Γ Δ (.Compare a [.Gt] [b] pos) (B X.K (decide (j < i))) := ev_cmpR op_gt ha hb (ints_hr (g := fun i j => decide (j < i))) (nomark _)
theorem eq_hr : ∀ σ H x y, Stt F Γ Δ σ H → (I X.K i).r (Hid F Δ H) x → (I X.K j).r (Hid F Δ H) y → ∀ Q : VK, (∀ H2, Same H H2 → Q (.bl (decide (i = j))) H2) → rEq x y H Q := fun σ H x y s ra rb Q k => by
  rw [I_val ra, I_val rb]
  refine ⟨rfl, ?_⟩
  have e : decide (V.int i = V.int j) = decide (i = j) := by simp
  rw [e]
  exact k H (Same.refl H)
theorem ne_hr : ∀ σ H x y, Stt F Γ Δ σ H → (I X.K i).r (Hid F Δ H) x → (I X.K j).r (Hid F Δ H) y → ∀ Q : VK, (∀ H2, Same H H2 → Q (.bl (!decide (i = j))) H2) → rNe x y H Q := fun σ H x y s ra rb Q k => by
  rw [I_val ra, I_val rb]
  refine ⟨rfl, ?_⟩
  have e : decide (V.int i = V.int j) = decide (i = j) := by simp
  rw [e]
  exact k H (Same.refl H)
theorem eqs_hr {x' y' : Str} : ∀ σ H x y, Stt F Γ Δ σ H → (Sx X.K x').r (Hid F Δ H) x → (Sx X.K y').r (Hid F Δ H) y → ∀ Q : VK, (∀ H2, Same H H2 → Q (.bl (decide (x' = y'))) H2) → rEq x y H Q := fun σ H x y s ra rb Q k => by
  rw [S_val ra, S_val rb]
  refine ⟨rfl, ?_⟩
  have e : decide (V.str x' = V.str y') = decide (x' = y') := by simp
  rw [e]
  exact k H (Same.refl H)
theorem et_eq (ha : EV X F Γ Δ a (I X.K i)) (hb : EV X F Γ Δ b (I X.K j)) : ET X F Γ Δ (.Compare a [.Eq] [b] pos) (decide (i = j)) := et_cmpR op_eq ha hb eq_hr (nomark _)
theorem et_ne (ha : EV X F Γ Δ a (I X.K i)) (hb : EV X F Γ Δ b (I X.K j)) : ET X F Γ Δ (.Compare a [.NotEq] [b] pos) (!decide (i = j)) := et_cmpR op_ne ha hb ne_hr (nomark _)
theorem et_eqs {x y : Str} (ha : EV X F Γ Δ a (Sx X.K x)) (hb : EV X F Γ Δ b (Sx X.K y)) : ET X F Γ Δ (.Compare a [.Eq] [b] pos) (decide (x = y)) := et_cmpR op_eq ha hb eqs_hr (nomark _)
theorem ev_eq (ha : EV X F Γ Δ a (I X.K i)) (hb : EV X F Γ Δ b (I X.K j)) : EV X F Γ Δ (.Compare a [.Eq] [b] pos) (B X.K (decide (i = j))) := ev_cmpR op_eq ha hb eq_hr (nomark _)
theorem ev_ne (ha : EV X F Γ Δ a (I X.K i)) (hb : EV X F Γ Δ b (I X.K j)) : EV X F Γ Δ (.Compare a [.NotEq] [b] pos) (B X.K (!decide (i = j))) := ev_cmpR op_ne ha hb ne_hr (nomark _)
/-- is None -/
def isNone : PyData → Bool
  | .none => true
  | _ => false
theorem non_iff {K : PySem.W.Frag} {G : Hp} {v : V} {d : PyData} (h : (D K d).r G v) : decide (v = V.non) = isNone d := by
  have h' : Dp K G v d := h
  cases h' <;> simp [isNone]
theorem et_isN {d : PyData} {k : Nat} {pos'} (ha : EV X F Γ Δ a (D X.K d)) : ET X F Γ Δ (.Compare a [.Is] [.Constant .none k pos'] pos) (isNone d) :=
  pt_imp (pt_cmp (pc_isN ha)) fun σ H Q ⟨s, k⟩ => ⟨s, fun v H1 e1 r1 => ⟨isNone d, by rw [non_iff r1], k H1 e1⟩⟩
theorem et_notN {d : PyData} {k : Nat} {pos'} (ha : EV X F Γ Δ a (D X.K d)) : ET X F Γ Δ (.Compare a [.IsNot] [.Constant .none k pos'] pos) (!isNone d) :=
  pt_imp (pt_cmp (pc_notN ha)) fun σ H Q ⟨s, k⟩ => ⟨s, fun v H1 e1 r1 => ⟨!isNone d, by rw [non_iff r1], k H1 e1⟩⟩
/-- lo <= x < hi -/
theorem et_in {n : Int} (ha : EV X F Γ Δ a (I X.K i)) (hb : EV X F Γ Δ b (I X.K n)) (hc : EV X F Γ Δ c (I X.K j)) (hm : lastMarks [.LtE, .Lt] [b, c] = false := by with_unfolding_all rfl) : ET X F Γ Δ (.Compare a [.LtE, .Lt] [b, c] pos) (decide (i ≤ n) && decide (n < j)) :=
  pt_imp (pt_chain op_le op_lt ha hb hc hm) fun σ H Q ⟨s, k⟩ => ⟨s, fun x H1 e1 r1 => ⟨s.mono e1, fun y H2 e2 r2 => ⟨i, n, I_val r1, I_val r2, decide (i ≤ n), rfl, by
    cases h : decide (i ≤ n) with
    | true =>
      refine iteT ⟨s.mono (e1.trans e2), fun z H3 e3 r3 => ⟨n, j, I_val r2, I_val r3, _, rfl, ?_⟩⟩
      rw [h, Bool.true_and] at k
      exact k H3 ((e1.trans e2).trans e3)
    | false =>
      refine iteF ⟨false, rfl, ?_⟩
      rw [h, Bool.false_and] at k
      exact k H2 (e1.trans e2)⟩⟩⟩
/-- a value that is a bool, as a test -/
theorem et_val (h : EV X F Γ Δ e (B X.K p)) (he : ∀ whole, isTrue e X.env whole = (do let v ← whole; standAt e.pos; holding [v] (truthy v)) := by intro _; rfl) : ET X F Γ Δ e p :=
  pt_imp (pt_val h he) fun σ H Q ⟨s, k⟩ => ⟨s, fun v H1 e1 r1 => ⟨p, B_val r1, k H1 e1⟩⟩
/-! ### and, or, not -/
theorem et_not (h : ET X F Γ Δ a p) : ET X F Γ Δ (.UnaryOp .Not a pos) (!p) := pt_imp (pt_not h) fun σ H Q ⟨s, k⟩ => ⟨s, fun H1 e1 => k H1 e1⟩
theorem ew_and1 (h : ET X F Γ Δ a p) : EW X F Γ Δ (.BoolOp .And [a] pos) p := pw_and1 h
theorem ew_or1 (h : ET X F Γ Δ a p) : EW X F Γ Δ (.BoolOp .Or [a] pos) p := pw_or1 h
theorem ew_and {rest : List Expr} (h : ET X F Γ Δ a p) (h2 : p = true → EW X F Γ Δ (.BoolOp .And (b :: rest) pos) q) : EW X F Γ Δ (.BoolOp .And (a :: b :: rest) pos) (p && q) :=
  pw_imp (pw_and h (pw_cond h2)) fun σ H Q ⟨s, k⟩ => ⟨s, fun H1 e1 => by
    cases hp : p with
    | true =>
      subst hp
      rw [Bool.true_and] at k
      exact iteT ⟨rfl, s.mono e1, fun H2 e2 => k H2 (e1.trans e2)⟩
    | false =>
      subst hp
      rw [Bool.false_and] at k
      exact iteF (k H1 e1)⟩
theorem ew_or {rest : List Expr} (h : ET X F Γ Δ a p) (h2 : p = false → EW X F Γ Δ (.BoolOp .Or (b :: rest) pos) q) : EW X F Γ Δ (.BoolOp .Or (a :: b :: rest) pos) (p || q) :=
  pw_imp (pw_or h (pw_cond h2)) fun σ H Q ⟨s, k⟩ => ⟨s, fun H1 e1 => by
    cases hp : p with
    | false =>
      subst hp
      rw [Bool.false_or] at k
      exact iteF ⟨rfl, s.mono e1, fun H2 e2 => k H2 (e1.trans e2)⟩
    | true =>
      subst hp
      rw [Bool.true_or] at k
      exact iteT (k H1 e1)⟩
theorem et_w (h : EW X F Γ Δ e p) : ET X F Γ Δ e p := PW.pt h
theorem ev_one {op : BoolOp} (h : EV X F Γ Δ a R) : EV X F Γ Δ (.BoolOp op [a] pos) R := pe_one h
theorem ev_and {rest : List Expr} (h : EV X F Γ Δ a (B X.K p)) (h2 : p = true → EV X F Γ Δ (.BoolOp .And (b :: rest) pos) (B X.K q)) : EV X F Γ Δ (.BoolOp .And (a :: b :: rest) pos) (B X.K (p && q)) :=
  pe_imp (pe_and h (pe_cond h2)) fun σ H Q ⟨s, k⟩ => ⟨s, fun v H1 e1 r1 => ⟨p, B_val r1, by
    cases hp : p with
    | true =>
      subst hp
      rw [Bool.true_and] at k
      exact iteT ⟨rfl, s.mono e1, fun v H2 e2 r2 => k v H2 (e1.trans e2) r2⟩
    | false =>
      subst hp
      rw [Bool.false_and] at k
      exact iteF (k _ H1 e1 (.bl false))⟩⟩
theorem ev_or {rest : List Expr} (h : EV X F Γ Δ a (B X.K p)) (h2 : p = false → EV X F Γ Δ (.BoolOp .Or (b :: rest) pos) (B X.K q)) : EV X F Γ Δ (.BoolOp .Or (a :: b :: rest) pos) (B X.K (p || q)) :=
  pe_imp (pe_or h (pe_cond h2)) fun σ H Q ⟨s, k⟩ => ⟨s, fun v H1 e1 r1 => ⟨p, B_val r1, by
    cases hp : p with
    | false =>
      subst hp
      rw [Bool.false_or] at k
      exact iteF ⟨rfl, s.mono e1, fun v H2 e2 r2 => k v H2 (e1.trans e2) r2⟩
    | true =>
      subst hp
      rw [Bool.true_or] at k
      exact iteT (k _ H1 e1 (.bl true))⟩⟩
theorem ev_not (h : EV X F Γ Δ a (B X.K p)) : EV X F Γ Δ (.UnaryOp .Not a pos) (B X.K (!p)) := pe_imp (pe_not h) fun σ H Q ⟨s, k⟩ => ⟨s, fun v H1 e1 r1 => ⟨p, B_val r1, k _ H1 e1 (.bl _)⟩⟩
/-! ### arguments, displays -/
theorem ea_nil : EA X F Γ Δ [] [] := pa_imp pa_nil fun σ H Q ⟨s, k⟩ => k [] H (Same.refl H) trivial
theorem ea_cons {As : List RP} (h : EV X F Γ Δ e R) (h2 : EA X F Γ Δ es As) (hs : starEach (e :: es) X.env = (false, eval e X.env) :: starEach es X.env := by rfl) : EA X F Γ Δ (e :: es) (R :: As) :=
  pa_imp (pa_cons h h2 hs) fun σ H Q ⟨s, k⟩ => ⟨s, fun v H1 e1 r1 => ⟨s.mono e1, fun vs H2 e2 r2 => k (v :: vs) H2 (e1.trans e2) ⟨R.m (hide_mono e2) r1, r2⟩⟩⟩
/-- a fresh list (a fresh tuple) that nothing else holds -/
def tNl (F : Fm) (Γ : Gam) (Δ : Del) (As : List RP) : TE := fun σ H Q => Stt F Γ Δ σ H ∧ ∀ p H2 xs, H p = none → Same H H2 → H2 p = some (.lst xs) → AllR (Hide (p :: (dom Δ ++ F.M)) H2) xs As → xs.length ≤ sizeLine → Q (.ref p) H2
def EN (X : Cx) (F : Fm) (Γ : Gam) (Δ : Del) (e : Expr) (As : List RP) : Prop := PE X e (tNl F Γ Δ As)
/-- a plain list -/
def LP (K : PySem.W.Frag) (ds : List PyData) : RP := ⟨fun G v => ∃ a xs, v = .ref a ∧ G a = some (.lst xs) ∧ DpAll K G xs ds, fun e ⟨a, xs, h1, h2, h3⟩ => ⟨a, xs, h1, e _ _ h2, dpAll_mono e h3⟩⟩
/-- a plain list of anything -/
def LR (Rs : List RP) : RP := ⟨fun G v => ∃ a xs, v = .ref a ∧ G a = some (.lst xs) ∧ AllR G xs Rs, fun e ⟨a, xs, h1, h2, h3⟩ => ⟨a, xs, h1, e _ _ h2, AllR.mono e h3⟩⟩
def TR (Rs : List RP) : RP := ⟨fun G v => ∃ a xs, v = .ref a ∧ G a = some (.tup xs) ∧ AllR G xs Rs, fun e ⟨a, xs, h1, h2, h3⟩ => ⟨a, xs, h1, e _ _ h2, AllR.mono e h3⟩⟩
theorem LP_D {K : PySem.W.Frag} {ds : List PyData} (G : Hp) (v : V) (h : (LP K ds).r G v) : (D K (.list ds)).r G v := by
  obtain ⟨a, xs, rfl, h2, h3⟩ := h
  exact Dp.lst (SqL.of h2) h3
theorem LR_LP {K : PySem.W.Frag} {ds : List PyData} (G : Hp) (v : V) (h : (LR (ds.map (D K))).r G v) : (LP K ds).r G v := by
  obtain ⟨a, xs, rfl, h2, h3⟩ := h
  exact ⟨a, xs, rfl, h2, AllR.data.mp h3⟩
theorem LP_LR {K : PySem.W.Frag} {ds : List PyData} (G : Hp) (v : V) (h : (LP K ds).r G v) : (LR (ds.map (D K))).r G v := by
  obtain ⟨a, xs, rfl, h2, h3⟩ := h
  exact ⟨a, xs, rfl, h2, AllR.data.mpr h3⟩
theorem hid_fresh {p : Addr} {H : Hp} : Same (Hide (p :: (dom Δ ++ F.M)) H) (Hid F Δ H) := hide_sub fun a h => List.mem_cons_of_mem _ h
theorem stt_fresh {σ : Sig} {H H2 : Hp} (s : Stt F Γ Δ σ H) {p : Addr} (hp : H p = none) : Hid F Δ H2 p = H2 p := hide_out (s.new hp)
theorem ev_new {As : List RP} (h : EN X F Γ Δ e As) : EV X F Γ Δ e (LR As) := pe_imp h fun σ H Q ⟨s, k⟩ => ⟨s, fun p H2 xs hp e2 h2 ha _ => k _ H2 e2 ⟨p, xs, rfl, by rw [stt_fresh s hp]; exact h2, AllR.mono hid_fresh ha⟩⟩
theorem ev_newP {ds : List PyData} (h : EN X F Γ Δ e (ds.map (D X.K))) : EV X F Γ Δ e (LP X.K ds) := ev_le (ev_new h) fun G v => LR_LP G v
theorem ev_newD {ds : List PyData} (h : EN X F Γ Δ e (ds.map (D X.K))) : EV X F Γ Δ e (D X.K (.list ds)) := ev_le (ev_newP h) fun G v => LP_D G v
theorem hide_cons_upd {p : Addr} {o : HO} {M : List Addr} {H : Hp} (hp : H p = none) : Same (Hide M H) (Hide (p :: M) (upd H p o)) := fun a u e => by
  have e' := hide_le _ _ e
  have ne : a ≠ p := ne_of_none e' hp
  have na : a ∉ M := fun z => by rw [hide_in z] at e; cases e
  rw [hide_out (by intro z; rcases List.mem_cons.mp z with z | z; exact ne z; exact na z), upd_ne ne]
  exact e'
theorem en_lst {As : List RP} (h : EA X F Γ Δ es As) (hl : As.length ≤ 100000) : EN X F Γ Δ (.List es pos) As :=
  pe_imp (pe_lst h) fun σ H Q ⟨s, k⟩ => ⟨s, fun vs H2 e2 r2 => ⟨by rw [r2.len, sizeLine_eq]; omega, fun p hp => k p _ vs (e2.free hp) (e2.trans (same_new hp)) upd_same (AllR.mono (hide_cons_upd hp) r2) (by rw [r2.len, sizeLine_eq]; omega)⟩⟩
theorem ev_tupR {As : List RP} {k : Nat} (h : EA X F Γ Δ es As) (hl : As.length ≤ 100000) : EV X F Γ Δ (.Tuple es k pos) (TR As) :=
  pe_imp (pe_tup h) fun σ H Q ⟨s, k⟩ => ⟨s, fun vs H2 e2 r2 => ⟨by rw [r2.len, sizeLine_eq]; omega, fun p hp => k _ _ (e2.trans (same_new hp)) ⟨p, vs, rfl, by
    rw [stt_fresh s (e2.free hp)]; exact upd_same, AllR.mono (hide_mono (same_new hp)) r2⟩⟩⟩
theorem TR_D {K : PySem.W.Frag} {ds : List PyData} (G : Hp) (v : V) (h : (TR (ds.map (D K))).r G v) : (D K (.tuple ds)).r G v := by
  obtain ⟨a, xs, rfl, h2, h3⟩ := h
  exact Dp.tup (SqT.of h2) (AllR.data.mp h3)
theorem ev_tup {ds : List PyData} {k : Nat} (h : EA X F Γ Δ es (ds.map (D X.K))) (hl : ds.length ≤ 100000) : EV X F Γ Δ (.Tuple es k pos) (D X.K (.tuple ds)) := ev_le (ev_tupR h (by simpa using hl)) fun G v => TR_D G v
/-! ### subscripts, len, tuple(..), list(..) -/
theorem atI_of {K : PySem.W.Frag} {G : Hp} {xs : List V} {ds : List PyData} {i : Int} {d : PyData} (h : DpAll K G xs ds) (e : atI ds i = some d) : ∃ v, atI xs i = some v ∧ Dp K G v d := by
  unfold atI at e ⊢
  rw [dpAll_len h]
  cases hi : ixN ds.length i with
  | none => rw [hi] at e; cases e
  | some j =>
    rw [hi] at e
    obtain ⟨v, a, b⟩ := dpAll_get h (show ds[j]? = some d from e)
    exact ⟨v, a, b⟩
theorem atI_ofR {G : Hp} {xs : List V} {Rs : List RP} {i : Int} {d : RP} (h : AllR G xs Rs) (e : atI Rs i = some d) : ∃ v, atI xs i = some v ∧ d.r G v := by
  unfold atI at e ⊢
  rw [h.len]
  cases hi : ixN Rs.length i with
  | none => rw [hi] at e; cases e
  | some j =>
    rw [hi] at e
    obtain ⟨v, a, b⟩ := h.get (show Rs[j]? = some d from e)
    exact ⟨v, a, b⟩
theorem ev_ix {r : R2} (hi : IxR X r) (ha : EV X F Γ Δ a Ra) (hb : EV X F Γ Δ b Rb)
    (hr : ∀ σ H x y, Stt F Γ Δ σ H → Ra.r (Hid F Δ H) x → Rb.r (Hid F Δ H) y → ∀ Q : VK, (∀ v, R.r (Hid F Δ H) v → Q v H) → r x y H Q) (hs : PlainIx b := by exact fun _ _ => rfl) : EV X F Γ Δ (.Subscript a b pos) R :=
  pe_imp (pe_ix hi ha hb hs) fun σ H Q ⟨s, k⟩ => ⟨s, fun x H1 e1 r1 => ⟨s.mono e1, fun y H2 e2 r2 => hr σ H2 x y (s.mono (e1.trans e2)) (Ra.m (hide_mono e2) r1) r2 Q fun v r3 => k v H2 (e1.trans e2) r3⟩⟩
theorem ev_ixL {ds : List PyData} {d : PyData} (ha : EV X F Γ Δ a (D X.K (.list ds))) (hb : EV X F Γ Δ b (I X.K i)) (h : atI ds i = some d) (hs : PlainIx b := by exact fun _ _ => rfl) : EV X F Γ Δ (.Subscript a b pos) (D X.K d) :=
  ev_ix ix_list ha hb (fun σ H x y s ra rb Q k => by
    obtain ⟨p, xs, rfl, h1, h2⟩ := L_val ra
    obtain ⟨v, e, hv⟩ := atI_of h2 h
    exact ⟨p, xs, i, v, rfl, I_val rb, seqL_mono hide_le h1, e, k v hv⟩) hs
theorem ev_ixT {ds : List PyData} {d : PyData} (ha : EV X F Γ Δ a (D X.K (.tuple ds))) (hb : EV X F Γ Δ b (I X.K i)) (h : atI ds i = some d) (hs : PlainIx b := by exact fun _ _ => rfl) : EV X F Γ Δ (.Subscript a b pos) (D X.K d) :=
  ev_ix ix_tup ha hb (fun σ H x y s ra rb Q k => by
    obtain ⟨p, xs, rfl, h1, h2⟩ := T_val ra
    obtain ⟨v, e, hv⟩ := atI_of h2 h
    exact ⟨p, xs, i, v, rfl, I_val rb, seqT_mono hide_le h1, e, k v hv⟩) hs
theorem ev_ixR {Rs : List RP} (ha : EV X F Γ Δ a (LR Rs)) (hb : EV X F Γ Δ b (I X.K i)) (h : atI Rs i = some R) (hs : PlainIx b := by exact fun _ _ => rfl) : EV X F Γ Δ (.Subscript a b pos) R :=
  ev_ix ix_list ha hb (fun σ H x y s ra rb Q k => by
    obtain ⟨p, xs, rfl, h1, h2⟩ := ra
    obtain ⟨v, e, hv⟩ := atI_ofR h2 h
    exact ⟨p, xs, i, v, rfl, I_val rb, SqL.of (hide_le _ _ h1), e, k v hv⟩) hs
theorem ev_callB {x : Str} {id : String} {r : List V → Hp → VK → Prop} {As : List RP} {p' : Pos} (hc : CallR X (.builtin id) r) (hg : Gl X x) (hm : X.mg x = none) (hv : bootBuiltins x = some (.builtin id)) (ha : EA X F Γ Δ (e :: es) As)
    (hr : ∀ σ H vs, Stt F Γ Δ σ H → AllR (Hid F Δ H) vs As → ∀ Q : VK, (∀ v H2, Same H H2 → R.r (Hid F Δ H2) v → Q v H2) → r vs H Q)
    (hn : x ≠ "__name__" := by decide) (hdb : (x == ("__debug__" : Str)) = false := by decide) (he : starEach (e :: es) X.env = (false, eval e X.env) :: starEach es X.env := by rfl) (hpl : (backTo pos (starEach es X.env)).any (·.1) = false := by rfl) : EV X F Γ Δ (.Call (.Name x p') (e :: es) [] pos) R :=
  pe_imp (pe_callB hc hg hm hv ha hn hdb he hpl) fun σ H Q ⟨s, k⟩ => ⟨s, fun vs H1 e1 r1 => hr σ H1 vs (s.mono e1) r1 Q fun v H2 e2 r2 => k v H2 (e1.trans e2) r2⟩
theorem ev_callTy {x : Str} {T : String} {r : List V → Hp → VK → Prop} {As : List RP} {p' : Pos} (hc : CallR X (.type T) r) (hg : Gl X x) (hm : X.mg x = none) (hv : bootBuiltins x = some (.type T)) (ha : EA X F Γ Δ (e :: es) As)
    (hr : ∀ σ H vs, Stt F Γ Δ σ H → AllR (Hid F Δ H) vs As → ∀ Q : VK, (∀ v H2, Same H H2 → R.r (Hid F Δ H2) v → Q v H2) → r vs H Q)
    (hn : x ≠ "__name__" := by decide) (hdb : (x == ("__debug__" : Str)) = false := by decide) (he : starEach (e :: es) X.env = (false, eval e X.env) :: starEach es X.env := by rfl) (hpl : (backTo pos (starEach es X.env)).any (·.1) = false := by rfl) : EV X F Γ Δ (.Call (.Name x p') (e :: es) [] pos) R :=
  pe_imp (pe_callTy hc hg hm hv ha hn hdb he hpl) fun σ H Q ⟨s, k⟩ => ⟨s, fun vs H1 e1 r1 => hr σ H1 vs (s.mono e1) r1 Q fun v H2 e2 r2 => k v H2 (e1.trans e2) r2⟩
theorem AllR.one {G : Hp} {vs : List V} (h : AllR G vs [R]) : ∃ v, vs = [v] ∧ R.r G v := by
  match vs, h with
  | [v], h => exact ⟨v, rfl, h.1⟩
theorem AllR.two {G : Hp} {vs : List V} (h : AllR G vs [R, R']) : ∃ v w, vs = [v, w] ∧ R.r G v ∧ R'.r G w := by
  match vs, h with
  | [v, w], h => exact ⟨v, w, rfl, h.1, h.2.1⟩
/-- the built-in names that the module leaves as they are -/
structure Bi (mg : Str → Option Value) : Prop where
  len : mg "len" = none
  tuple : mg "tuple" = none
  list : mg "list" = none
  int : mg "int" = none
  bool : mg "bool" = none
  max : mg "max" = none
  min : mg "min" = none
  range : mg "range" = none
  sorted : mg "sorted" = none
  zip : mg "zip" = none
  enumerate : mg "enumerate" = none
  isinstance : mg "isinstance" = none
variable (W : Bi X.mg) {ds : List PyData} {p' : Pos}
include W
theorem ev_lenL (ha : EV X F Γ Δ a (D X.K (.list ds))) (hg : Gl X "len" := by rfl) (he : starEach (a :: []) X.env = (false, eval a X.env) :: starEach [] X.env := by rfl) : EV X F Γ Δ (.Call (.Name "len" p') [a] [] pos) (I X.K ds.length) :=
  ev_callB call_len_seq hg W.len boot_len (ea_cons ha ea_nil he) (fun σ H vs s r Q k => by
    obtain ⟨v, rfl, rv⟩ := r.one
    obtain ⟨p, xs, rfl, h1, h2⟩ := L_val rv
    exact ⟨p, xs, rfl, .inl (seqL_mono hide_le h1), k _ H (Same.refl H) (by rw [dpAll_len h2]; exact Dp.int _)⟩) (by decide) (by decide) he
theorem ev_lenT (ha : EV X F Γ Δ a (D X.K (.tuple ds))) (hg : Gl X "len" := by rfl) (he : starEach (a :: []) X.env = (false, eval a X.env) :: starEach [] X.env := by rfl) : EV X F Γ Δ (.Call (.Name "len" p') [a] [] pos) (I X.K ds.length) :=
  ev_callB call_len_seq hg W.len boot_len (ea_cons ha ea_nil he) (fun σ H vs s r Q k => by
    obtain ⟨v, rfl, rv⟩ := r.one
    obtain ⟨p, xs, rfl, h1, h2⟩ := T_val rv
    exact ⟨p, xs, rfl, .inr (seqT_mono hide_le h1), k _ H (Same.refl H) (by rw [dpAll_len h2]; exact Dp.int _)⟩) (by decide) (by decide) he
theorem ev_tupleL (ha : EV X F Γ Δ a (D X.K (.list ds))) (hg : Gl X "tuple" := by rfl) (he : starEach (a :: []) X.env = (false, eval a X.env) :: starEach [] X.env := by rfl) : EV X F Γ Δ (.Call (.Name "tuple" p') [a] [] pos) (D X.K (.tuple ds)) :=
  ev_callTy call_tuple_of hg W.tuple (by decide +kernel) (ea_cons ha ea_nil he) (fun σ H vs s r Q k => by
    obtain ⟨v, rfl, rv⟩ := r.one
    obtain ⟨p, xs, rfl, h1, h2⟩ := L_val rv
    refine ⟨p, xs, rfl, .inl ⟨seqL_mono hide_le h1, fun l hl => k _ _ (same_new hl) (Dp.tup (SqT.of ?_) (dpAll_mono (hide_mono (same_new hl)) h2))⟩⟩
    rw [stt_fresh s hl]
    exact upd_same) (by decide) (by decide) he
theorem ev_tupleT (ha : EV X F Γ Δ a (D X.K (.tuple ds))) (hg : Gl X "tuple" := by rfl) (he : starEach (a :: []) X.env = (false, eval a X.env) :: starEach [] X.env := by rfl) : EV X F Γ Δ (.Call (.Name "tuple" p') [a] [] pos) (D X.K (.tuple ds)) :=
  ev_callTy call_tuple_of hg W.tuple (by decide +kernel) (ea_cons ha ea_nil he) (fun σ H vs s r Q k => by
    obtain ⟨v, rfl, rv⟩ := r.one
    obtain ⟨p, xs, rfl, h1, h2⟩ := T_val rv
    exact ⟨p, xs, rfl, .inr ⟨seqT_mono hide_le h1, k _ H (Same.refl H) (Dp.tup h1 h2)⟩⟩) (by decide) (by decide) he
theorem ev_listT (ha : EV X F Γ Δ a (D X.K (.tuple ds))) (hg : Gl X "list" := by rfl) (he : starEach (a :: []) X.env = (false, eval a X.env) :: starEach [] X.env := by rfl) : EV X F Γ Δ (.Call (.Name "list" p') [a] [] pos) (D X.K (.list ds)) :=
  ev_callTy call_list_of hg W.list (by decide +kernel) (ea_cons ha ea_nil he) (fun σ H vs s r Q k => by
    obtain ⟨v, rfl, rv⟩ := r.one
    obtain ⟨p, xs, rfl, h1, h2⟩ := T_val rv
    refine ⟨p, xs, rfl, .inr (seqT_mono hide_le h1), fun l hl => k _ _ (same_new hl) (Dp.lst (SqL.of ?_) (dpAll_mono (hide_mono (same_new hl)) h2))⟩
    rw [stt_fresh s hl]
    exact upd_same) (by decide) (by decide) he
theorem ev_intI (ha : EV X F Γ Δ a (I X.K i)) (hg : Gl X "int" := by rfl) (he : starEach (a :: []) X.env = (false, eval a X.env) :: starEach [] X.env := by rfl) : EV X F Γ Δ (.Call (.Name "int" p') [a] [] pos) (I X.K i) :=
  ev_callTy call_int1 hg W.int (by decide +kernel) (ea_cons ha ea_nil he) (fun σ H vs s r Q k => by
    obtain ⟨v, rfl, rv⟩ := r.one
    exact .inl ⟨i, by rw [I_val rv], k _ H (Same.refl H) (.int i)⟩) (by decide) (by decide) he
theorem ev_intB (ha : EV X F Γ Δ a (B X.K p)) (hg : Gl X "int" := by rfl) (he : starEach (a :: []) X.env = (false, eval a X.env) :: starEach [] X.env := by rfl) : EV X F Γ Δ (.Call (.Name "int" p') [a] [] pos) (I X.K (if p then 1 else 0)) :=
  ev_callTy call_int1 hg W.int (by decide +kernel) (ea_cons ha ea_nil he) (fun σ H vs s r Q k => by
    obtain ⟨v, rfl, rv⟩ := r.one
    exact .inr ⟨p, by rw [B_val rv], k _ H (Same.refl H) (.int _)⟩) (by decide) (by decide) he
theorem ev_max2 (hc : X.calm = true) (ha : EV X F Γ Δ a (I X.K i)) (hb : EV X F Γ Δ b (I X.K j)) (hg : Gl X "max" := by rfl) (he : starEach (a :: [b]) X.env = (false, eval a X.env) :: starEach [b] X.env := by rfl) (he2 : starEach (b :: []) X.env = (false, eval b X.env) :: starEach [] X.env := by rfl) (hpl : (backTo pos (starEach [b] X.env)).any (·.1) = false := by rfl) : EV X F Γ Δ (.Call (.Name "max" p') [a, b] [] pos) (I X.K (if j > i then j else i)) :=
  ev_callB (call_max2 hc) hg W.max (by decide +kernel) (ea_cons ha (ea_cons hb ea_nil he2) he) (fun σ H vs s r Q k => by
    obtain ⟨v, w, rfl, rv, rw'⟩ := r.two
    exact ⟨i, j, by rw [I_val rv, I_val rw'], k _ H (Same.refl H) (.int _)⟩) (by decide) (by decide) he hpl
theorem ev_min2 (hc : X.calm = true) (ha : EV X F Γ Δ a (I X.K i)) (hb : EV X F Γ Δ b (I X.K j)) (hg : Gl X "min" := by rfl) (he : starEach (a :: [b]) X.env = (false, eval a X.env) :: starEach [b] X.env := by rfl) (he2 : starEach (b :: []) X.env = (false, eval b X.env) :: starEach [] X.env := by rfl) (hpl : (backTo pos (starEach [b] X.env)).any (·.1) = false := by rfl) : EV X F Γ Δ (.Call (.Name "min" p') [a, b] [] pos) (I X.K (if j < i then j else i)) :=
  ev_callB (call_min2 hc) hg W.min (by decide +kernel) (ea_cons ha (ea_cons hb ea_nil he2) he) (fun σ H vs s r Q k => by
    obtain ⟨v, w, rfl, rv, rw'⟩ := r.two
    exact ⟨i, j, by rw [I_val rv, I_val rw'], k _ H (Same.refl H) (.int _)⟩) (by decide) (by decide) he hpl
end
end Fr
set_option Elab.async false
set_option linter.all false
set_option maxRecDepth 100000
/-! Lay3: statements, calls, promises. -/
namespace Fr
open PySem PySem.Spec PySem.Calls L2

/-! ### statements -/
def Ple (P D : Ends) : Prop := (∀ σ H, P.nx σ H → D.nx σ H) ∧ (∀ v H, P.rt v H → D.rt v H) ∧ (∀ σ H, P.bk σ H → D.bk σ H) ∧ (∀ σ H, P.ct σ H → D.ct σ H)
theorem Ple.refl (P : Ends) : Ple P P := ⟨fun _ _ h => h, fun _ _ h => h, fun _ _ h => h, fun _ _ h => h⟩
def tBK (A : L2.St → Hp → Prop) (P : Ends) : TS := fun D σ H => A σ H ∧ Ple P D
/-- a block, from any state of which A holds -/
def BA (X : Cx) (A : L2.St → Hp → Prop) (sts : List Stmt) (P : Ends) : Prop := PSs X sts (tBK A P)
def BK (X : Cx) (F : Fm) (Γ : Gam) (Δ : Del) (sts : List Stmt) (P : Ends) : Prop := BA X (Stt F Γ Δ) sts P
theorem ps_imp {X : Cx} {st : Stmt} {t t' : TS} (h : PS X st t) (i : ∀ D σ H, t' D σ H → t D σ H) : PS X st t' := ⟨fun pins s σ H D I q => h.run pins s σ H D I (i D σ H q)⟩
theorem pss_imp {X : Cx} {st : List Stmt} {t t' : TS} (h : PSs X st t) (i : ∀ D σ H, t' D σ H → t D σ H) : PSs X st t' := ⟨fun pins s σ H D I q => h.run pins s σ H D I (i D σ H q)⟩
theorem pss_cond {X : Cx} {st : List Stmt} {t : TS} {p : Prop} (h : p → PSs X st t) : PSs X st (fun D σ H => p ∧ t D σ H) := ⟨fun pins s σ H D I q => (h q.1).run pins s σ H D I q.2⟩
theorem ba_or {X : Cx} {A A' : L2.St → Hp → Prop} {sts : List Stmt} {P : Ends} (h : BA X A sts P) (h' : BA X A' sts P) : BA X (fun σ H => A σ H ∨ A' σ H) sts P :=
  ⟨fun pins s σ H D I q => q.1.elim (fun z => h.run pins s σ H D I ⟨z, q.2⟩) fun z => h'.run pins s σ H D I ⟨z, q.2⟩⟩
theorem ba_imp {X : Cx} {A A' : L2.St → Hp → Prop} {sts : List Stmt} {P : Ends} (h : BA X A sts P) (i : ∀ σ H, A' σ H → A σ H) : BA X A' sts P := pss_imp h fun D σ H q => ⟨i _ _ q.1, q.2⟩
theorem ba_cond {X : Cx} {A : L2.St → Hp → Prop} {sts : List Stmt} {P : Ends} {p : Prop} (h : p → BA X A sts P) : BA X (fun σ H => p ∧ A σ H) sts P := ⟨fun pins s σ H D I q => (h q.1.1).run pins s σ H D I ⟨q.1.2, q.2⟩⟩
theorem ba_ex {X : Cx} {α : Sort _} {A : α → L2.St → Hp → Prop} {sts : List Stmt} {P : Ends} (h : ∀ x, BA X (A x) sts P) : BA X (fun σ H => ∃ x, A x σ H) sts P := ⟨fun pins s σ H D I q => by
  obtain ⟨⟨x, q1⟩, q2⟩ := q
  exact (h x).run pins s σ H D I ⟨q1, q2⟩⟩
theorem ba_seq {X : Cx} {A M : L2.St → Hp → Prop} {st : Stmt} {rest : List Stmt} {P : Ends} {t : TS} (h1 : PS X st t) (ht : ∀ D σ H, A σ H → Ple { P with nx := M } D → t D σ H) (h2 : BA X M rest P) : BA X A (st :: rest) P :=
  pss_imp (pss_cons h1 h2) fun D σ H q => ht _ σ H q.1 ⟨fun _ _ m => ⟨m, q.2⟩, q.2.2.1, q.2.2.2.1, q.2.2.2.2⟩
/-- what a def gives back -/
def retP (F : Fm) (R : RP) : V → Hp → Prop := fun v H' => Same F.H0 H' ∧ R.r (Hide F.M H') v
def fnP (F : Fm) (R : RP) : Ends := { nx := fun _ _ => False, rt := retP F R }
section
variable {X : Cx} {F : Fm} {Γ Γ' : Gam} {Δ Δ' : Del} {e : Expr} {rest tb eb : List Stmt} {pos : Pos} {R R' : RP} {P : Ends} {b : Bool}
theorem b_nil (h : ∀ σ H, Stt F Γ Δ σ H → P.nx σ H) : BK X F Γ Δ [] P := pss_imp pss_nil fun D σ H q => q.2.1 _ _ (h σ H q.1)
theorem b_le (h : BK X F Γ' Δ rest P) (l : Le Γ' Γ) : BK X F Γ Δ rest P := ba_imp h fun _ _ s => s.le l
/-- x = e -/
theorem b_set {i : Nat} {x : Str} {pos' : Pos} (hN : X.N.Nodup) (he : EV X F Γ Δ e R) (h : BK X F (Γ.set i (some R)) Δ rest P) (hi : X.N[i]? = some x := by rfl) (hx : Loc X.env.scope x := by first | exact Or.inl rfl | exact Or.inr rfl)
    (hs : swapsWith e (some (.Name x pos')) pos.line X.env = pure false := by rfl) (hf : X.fn x = true ∨ X.env.scope.names.lookup x = some .local := by first | exact .inl rfl | exact .inr rfl) : BK X F Γ Δ (.Assign [.Name x pos'] e pos :: rest) P :=
  ba_seq (ps_set hN hi hx he hs hf) (fun D σ H s ple => ⟨s, fun v H2 e2 r => ple.1 _ _ ((s.mono e2).set r i)⟩) h
/-- x = e, one of many -/
theorem b_setE {α : Type} {Q : α → RP} {i : Nat} {x : Str} {pos' : Pos} (hN : X.N.Nodup) (he : EV X F Γ Δ e (Exi Q)) (h : ∀ y, BK X F (Γ.set i (some (Q y))) Δ rest P) (hi : X.N[i]? = some x := by rfl) (hx : Loc X.env.scope x := by first | exact Or.inl rfl | exact Or.inr rfl)
    (hs : swapsWith e (some (.Name x pos')) pos.line X.env = pure false := by rfl) (hf : X.fn x = true ∨ X.env.scope.names.lookup x = some .local := by first | exact .inl rfl | exact .inr rfl) : BK X F Γ Δ (.Assign [.Name x pos'] e pos :: rest) P :=
  ba_seq (M := fun σ H => ∃ y, Stt F (Γ.set i (some (Q y))) Δ σ H) (ps_set hN hi hx he hs hf) (fun D σ H s ple => ⟨s, fun v H2 e2 r => by
    obtain ⟨y, r⟩ := r
    exact ple.1 _ _ ⟨y, (s.mono e2).set r i⟩⟩) (ba_ex h)
theorem b_drop (he : EV X F Γ Δ e R) (h : BK X F Γ Δ rest P) (hs : swapsWith e none pos.line X.env = pure false := by rfl) : BK X F Γ Δ (.Expr e pos :: rest) P :=
  ba_seq (ps_expr he hs) (fun D σ H s ple => ⟨s, fun v H2 e2 r => ple.1 _ _ (s.mono e2)⟩) h
theorem b_ret (he : EV X F Γ Δ e R) (h : ∀ v H σ, Stt F Γ Δ σ H → R.r (Hid F Δ H) v → P.rt v H) : BK X F Γ Δ (.Return (some e) pos :: rest) P :=
  ba_seq (M := fun _ _ => False) (ps_ret he) (fun D σ H s ple => ⟨s, fun v H2 e2 r => ple.2.1 _ _ (h v H2 σ (s.mono e2) r)⟩) (⟨fun _ _ _ _ _ _ q => q.1.elim⟩)
/-- the def's end -/
theorem b_end {P : Ends} (he : EV X F Γ Δ e R) (hP : P.rt = retP F R) : BK X F Γ Δ (.Return (some e) pos :: rest) P := b_ret he fun v H σ s r => by
  rw [hP]
  exact ⟨s.ex, R.m (hide_sub fun a h => List.mem_append_right _ h) r⟩
theorem b_endL {P : Ends} (he : EV X F Γ Δ e R') (hP : P.rt = retP F R) (l : ∀ G v, R'.r G v → R.r G v) : BK X F Γ Δ (.Return (some e) pos :: rest) P := b_end (ev_le he l) hP
/-- if, told by its two ways -/
theorem b_if {c : Expr} (hc : ET X F Γ Δ c b) (h1 : b = true → ∃ M : L2.St → Hp → Prop, BK X F Γ Δ tb { P with nx := M } ∧ BA X M rest P) (h2 : b = false → ∃ M : L2.St → Hp → Prop, BK X F Γ Δ eb { P with nx := M } ∧ BA X M rest P) : BK X F Γ Δ (.If c tb eb pos :: rest) P := by
  cases b with
  | true =>
    obtain ⟨M, k1, k2⟩ := h1 rfl
    exact ba_seq (M := M) (ps_if hc k1 (pss_never (sts := eb))) (fun D σ H s ple => ⟨s, fun H2 e2 => iteT ⟨s.mono e2, ple⟩⟩) k2
  | false =>
    obtain ⟨M, k1, k2⟩ := h2 rfl
    exact ba_seq (M := M) (ps_if hc (pss_never (sts := tb)) k1) (fun D σ H s ple => ⟨s, fun H2 e2 => iteF ⟨s.mono e2, ple⟩⟩) k2
/-- if c: (leaves); the rest -/
theorem b_ifr {c : Expr} (hc : ET X F Γ Δ c b) (h1 : b = true → BK X F Γ Δ tb { P with nx := fun _ _ => False }) (h2 : b = false → BK X F Γ Δ rest P) : BK X F Γ Δ (.If c tb [] pos :: rest) P :=
  b_if hc (fun hb => ⟨_, h1 hb, ⟨fun _ _ _ _ _ _ q => q.1.elim⟩⟩) fun hb => ⟨Stt F Γ Δ, b_nil fun _ _ s => s, h2 hb⟩
/-- if c: .. (not taken) -/
theorem b_ifF {c : Expr} (hc : ET X F Γ Δ c false) (h2 : BK X F Γ Δ rest P) : BK X F Γ Δ (.If c tb [] pos :: rest) P := b_ifr hc (fun h => nomatch h) fun _ => h2
/-- if c: body; (else body); the rest from Γ' Δ' -/
theorem b_ifm {c : Expr} (hc : ET X F Γ Δ c b) (h1 : b = true → BK X F Γ Δ tb { P with nx := Stt F Γ' Δ' }) (h2 : b = false → BK X F Γ Δ eb { P with nx := Stt F Γ' Δ' }) (h : BK X F Γ' Δ' rest P) : BK X F Γ Δ (.If c tb eb pos :: rest) P :=
  b_if hc (fun hb => ⟨_, h1 hb, h⟩) fun hb => ⟨_, h2 hb, h⟩
theorem b_stt (l : Le Γ' Γ) (hP : P.nx = Stt F Γ' Δ) : BK X F Γ Δ [] P := b_nil fun σ H s => by rw [hP]; exact s.le l
end

/-! ### promises -/
structure FS (α : Type) where
  arg : α → List RP
  pre : α → Prop
  res : α → RP
def Live (M : List Addr) (H : Hp) : Prop := ∀ p ∈ M, ∃ o, H p = some o
def FS.sp {α : Type} (S : FS α) (n : Nat) : Sp := fun vs H Q _ => ∃ (x : α) (M : List Addr), vs.length = n ∧ Live M H ∧ AllR (Hide M H) vs (S.arg x) ∧ S.pre x ∧ ∀ v H', Same H H' → (S.res x).r (Hide M H') v → Q v H'
/-- a def at hand, with its promise -/
structure Df (P : Program) (w : World) (K : PySem.W.Frag) (mg : Str → Option Value) (base : Heap) (x : Str) (k n : Nat) {α : Type} (S : FS α) : Prop where
  ex : ∃ (f : Addr) (fd : FuncData) (ps : List Str), FnOk P w K mg base CX0 k f fd ps (S.sp n) ∧ mg x = some (.ref f) ∧ PySem.W.keepIn K (.ref f) = true ∧ Binds K fd ps []
def argsG (As : List RP) (N : Nat) : Gam := As.map some ++ List.replicate (N - As.length) none
theorem slots_args {G : Hp} : ∀ {vs : List V} {As : List RP} (n : Nat), AllR G vs As → Slots G (vs.map some ++ List.replicate n none) (As.map some ++ List.replicate n none)
  | [], [], 0, _ => trivial
  | [], [], n + 1, h => ⟨trivial, slots_args (vs := []) (As := []) n h⟩
  | v :: vs, R :: As, n, h => ⟨⟨v, rfl, h.1⟩, slots_args n h.2⟩
  | [], _ :: _, _, h => h.elim
  | _ :: _, [], _, h => h.elim
theorem stt_start {H : Hp} {M : List Addr} {vs : List V} {As : List RP} {N : List Str} (hl : Live M H) (h : AllR (Hide M H) vs As) : Stt ⟨H, M, []⟩ (argsG As N.length) [] (L2.start N vs) H :=
  ⟨Same.refl H, fun p z => absurd (show p ∈ ([] : List Addr) from z) (by simp), hl, List.nodup_nil, fun q z => absurd (show q ∈ ([] : Del) from z) (by simp), fun g z => absurd (show g ∈ ([] : List (V × RP)) from z) (by simp), by
    unfold L2.start argsG
    rw [h.len]
    exact slots_args _ h⟩
section
variable {P : Program} {w : World} {K : PySem.W.Frag} {mg : Str → Option Value} {base : Heap}
/-- THE RULE for a def -/
theorem FS.ok {α : Type} (S : FS α) {x qual : Str} {st : Stmt} {f : Addr} {fd : FuncData} {N ps : List Str} {k n : Nat} (Fn : Fun K x qual st f fd) (Sc : FnScope N ps (defScope st)) (hn : ps.length = n)
    (hb : ∀ (cdv : Value) (A : Around) (outer : List Env) (s : Shared) (H : Hp) (E : XK) (M : List Addr) (y : α), Room k (A.deeper (PyProof.Rows.envOfC qual (defScope st) s.heap.objs.size f cdv)) → S.pre y →
      BK (cxOf CX0 P w K mg base N qual (defScope st) f cdv A outer s H E).nox ⟨H, M, []⟩ (argsG (S.arg y) N.length) [] (defBody st) (fnP ⟨H, M, []⟩ (S.res y))) : FnOk P w K mg base CX0 (k + 1) f fd ps (S.sp n) := by
  refine Fn.ok Sc (fun vs H Q E h => ?_) (fun cdv A outer s H vs Q E hr h => ?_)
  · obtain ⟨_, _, h, _⟩ := h
    rw [h, hn]
  · obtain ⟨y, M, _, hl, ha, hp, hq⟩ := h
    exact ⟨_, hb cdv A outer s H E M y hr hp, stt_start hl ha, fun _ _ z => False.elim z, fun v H' z => hq v H' z.1 z.2, fun _ _ z => z.elim, fun _ _ z => z.elim⟩
end
section
variable {X : Cx} {F : Fm} {Γ : Gam} {Δ : Del} {e : Expr} {es : List Expr} {pos p : Pos} {R : RP}
/-- a def called -/
theorem ev_call {α : Type} {S : FS α} {x : Str} {k n : Nat} {As : List RP} (G : Df X.prog X.w X.K X.mg X.base x k n S) (hr : Room k X.A) (ha : EA X F Γ Δ (e :: es) As)
    (h : As.length = n ∧ ∀ G vs, AllR G vs As → ∃ y, AllR G vs (S.arg y) ∧ S.pre y ∧ ∀ G' v, (S.res y).r G' v → R.r G' v) (hg : Gl X x := by rfl)
    (hd : (x == ("__debug__" : Str)) = false := by decide) (he : starEach (e :: es) X.env = (false, eval e X.env) :: starEach es X.env := by rfl) (hpl : (backTo pos (starEach es X.env)).any (·.1) = false := by rfl) : EV X F Γ Δ (.Call (.Name x p) (e :: es) [] pos) R := by
  obtain ⟨f, fd, ps, ok, hm, hk, hb⟩ := G.ex
  refine pe_imp (pe_call ok hr hg hm hk hb .nil pass0 ha hd he hpl) fun σ H Q ⟨s, q⟩ => ⟨s, fun vs H1 e1 r1 => ?_⟩
  obtain ⟨y, a, b, c⟩ := h.2 _ _ r1
  have s1 := s.mono e1
  rw [List.append_nil]
  exact ⟨y, dom Δ ++ F.M, by rw [r1.len, h.1], fun p hp => s1.live hp, a, b, fun v H' e2 r2 => q v H' (e1.trans e2) (c _ _ r2)⟩
theorem ev_call1 {α : Type} {S : FS α} {x : Str} {k n : Nat} (y : α) (G : Df X.prog X.w X.K X.mg X.base x k n S) (hr : Room k X.A) (ha : EA X F Γ Δ (e :: es) (S.arg y)) (hp : S.pre y) (hl : (S.arg y).length = n := by rfl) (hg : Gl X x := by rfl)
    (hd : (x == ("__debug__" : Str)) = false := by decide) (he : starEach (e :: es) X.env = (false, eval e X.env) :: starEach es X.env := by rfl) (hpl : (backTo pos (starEach es X.env)).any (·.1) = false := by rfl) : EV X F Γ Δ (.Call (.Name x p) (e :: es) [] pos) (S.res y) :=
  ev_call G hr ha ⟨hl, fun _ _ r => ⟨y, r, hp, fun _ _ z => z⟩⟩ hg hd he hpl
end
end Fr
set_option Elab.async false
set_option linter.all false
set_option maxRecDepth 100000
/-! Lay4: owned lists, loops, comprehensions. -/
namespace Fr
open PySem PySem.Spec PySem.Calls L2

/-- an owned list -/
def LOR (Rs : List RP) : OP := ⟨fun G o => ∃ xs, o = .lst xs ∧ AllR G xs Rs ∧ xs.length ≤ sizeLine, fun e ⟨xs, h1, h2, h3⟩ => ⟨xs, h1, AllR.mono e h2, h3⟩⟩
abbrev LO (K : PySem.W.Frag) (ds : List PyData) : OP := LOR (ds.map (D K))
theorem split_at {α : Type} : ∀ {l : List α} {k : Nat} {x : α}, l[k]? = some x → l = l.take k ++ x :: l.drop (k + 1)
  | [], _, _, h => by simp at h
  | a :: l, 0, x, h => by simp at h; subst h; rfl
  | a :: l, k + 1, x, h => by
    have ih := split_at (l := l) (k := k) (x := x) (by simpa using h)
    show a :: l = a :: (l.take k ++ x :: l.drop (k + 1))
    rw [← ih]
theorem set_at {α : Type} : ∀ {l : List α} {k : Nat} {x y : α}, l[k]? = some x → l.set k y = l.take k ++ y :: l.drop (k + 1)
  | [], _, _, _, h => by simp at h
  | a :: l, 0, x, y, h => rfl
  | a :: l, k + 1, x, y, h => by
    have ih := set_at (l := l) (k := k) (x := x) (y := y) (by simpa using h)
    show a :: l.set k y = a :: (l.take k ++ y :: l.drop (k + 1))
    rw [ih]
theorem erase_at {α : Type} : ∀ (l : List α) (k : Nat), l.eraseIdx k = l.take k ++ l.drop (k + 1)
  | [], k => by simp
  | a :: l, 0 => rfl
  | a :: l, k + 1 => by
    show a :: l.eraseIdx k = a :: (l.take k ++ l.drop (k + 1))
    rw [erase_at l k]
section
variable {F : Fm} {Γ Γ' : Gam} {Δ : Del} {σ : Sig} {H H' : Hp} {p : Addr} {O O' : OP} {k : Nat}
theorem Stt.wrk {o : HO} (s : Stt F Γ Δ σ H) (hk : Δ[k]? = some (p, O)) (h : O'.r (Hid F Δ H) o) : Stt F Γ (Δ.set k (p, O')) σ (upd H p o) := by
  rw [set_at hk]
  have e := split_at hk
  generalize Δ.take k = Δ1 at e ⊢
  generalize Δ.drop (k + 1) = Δ2 at e ⊢
  subst e
  exact s.wr h
theorem Stt.at (s : Stt F Γ Δ σ H) (hk : Δ[k]? = some (p, O)) : ∃ o, H p = some o ∧ O.r (Hid F Δ H) o := s.ow (p, O) (List.mem_of_getElem? hk)
theorem Stt.erase (s : Stt F Γ Δ σ H) (hk : Δ[k]? = some (p, O)) : Stt F Γ (Δ.eraseIdx k) σ H ∧ ∃ o, Hid F (Δ.eraseIdx k) H p = some o ∧ O.r (Hid F (Δ.eraseIdx k) H) o := by
  rw [erase_at]
  have e := split_at hk
  generalize Δ.take k = Δ1 at e ⊢
  generalize Δ.drop (k + 1) = Δ2 at e ⊢
  subst e
  exact ⟨s.drop, s.froz⟩
theorem Stt.lst {Rs : List RP} (s : Stt F Γ Δ σ H) (hk : Δ[k]? = some (p, LOR Rs)) : ∃ xs, H p = some (.lst xs) ∧ AllR (Hid F Δ H) xs Rs ∧ xs.length ≤ sizeLine := by
  obtain ⟨o, h, xs, rfl, a, b⟩ := s.at hk
  exact ⟨xs, h, a, b⟩
end
section
variable {X : Cx} {F : Fm} {Γ Γ' : Gam} {Δ Δ' : Del} {e a b : Expr} {es : List Expr} {rest : List Stmt} {pos : Pos} {R R' : RP} {P : Ends} {p : Addr} {Rs As : List RP} {k : Nat} {i : Int}
/-- x = (a fresh list), owned -/
theorem b_own {i : Nat} {x : Str} {pos' : Pos} (hN : X.N.Nodup) (he : EN X F Γ Δ e As) (h : ∀ p, BK X F (Γ.set i (some (Vl (.ref p)))) ((p, LOR As) :: Δ) rest P) (hi : X.N[i]? = some x := by rfl) (hx : Loc X.env.scope x := by first | exact Or.inl rfl | exact Or.inr rfl)
    (hs : swapsWith e (some (.Name x pos')) pos.line X.env = pure false := by rfl) (hf : X.fn x = true ∨ X.env.scope.names.lookup x = some .local := by first | exact .inl rfl | exact .inr rfl) : BK X F Γ Δ (.Assign [.Name x pos'] e pos :: rest) P :=
  ba_seq (M := fun σ H => ∃ p, Stt F (Γ.set i (some (Vl (.ref p)))) ((p, LOR As) :: Δ) σ H) (ps_set hN hi hx he hs hf) (fun D σ H s ple => ⟨s, fun p H2 xs hp e2 h2 ha hz => ple.1 _ _ ⟨p, by
    -- the state with p owned
    have s1 : Stt F Γ ((p, LOR As) :: Δ) σ H2 := by
      have up : Same (Hid F Δ H) (Hid F ((p, LOR As) :: Δ) H2) := fun a u e => by
        have e' := hide_le _ _ e
        have ne : a ≠ p := ne_of_none e' hp
        have na : a ∉ dom Δ ++ F.M := fun z => by
          rw [show Hid F Δ H a = none from hide_in z] at e; cases e
        show Hide (p :: (dom Δ ++ F.M)) _ a = _
        rw [hide_out (by intro z; rcases List.mem_cons.mp z with z | z; exact ne z; exact na z)]
        exact e2 _ _ e'
      have h0 : F.H0 p = none := s.ex.free hp
      refine ⟨s.ex.trans e2, fun q hq => ?_, s.lv, List.nodup_cons.mpr ⟨fun z => s.new hp (List.mem_append_left _ z), s.nd⟩, fun q hq => ?_, fun g hg => g.2.m up (s.gh g hg), s.sl.mono up⟩
      · rcases List.mem_cons.mp hq with z | z
        · rw [z]; exact h0
        · exact s.fr q z
      · rcases List.mem_cons.mp hq with z | z
        · subst z; exact ⟨_, h2, xs, rfl, ha, hz⟩
        · obtain ⟨u, c, d⟩ := s.ow q z
          exact ⟨u, e2 _ _ c, q.2.m up d⟩
    exact s1.set (R := Vl (.ref p)) rfl i⟩⟩) (ba_ex h)
/-- x.append(e) -/
theorem b_app {apos : Pos} (ho : EV X F Γ Δ a (Vl (.ref p))) (hk : Δ[k]? = some (p, LOR Rs)) (he : EV X F Γ Δ e R) (hz : Rs.length < 100000) (h : BK X F Γ (Δ.set k (p, LOR (Rs ++ [R]))) rest P)
    (h1 : attributeBase a "append" X.env (eval a X.env) = eval a X.env := by rfl)
    (hfew : ((backTo pos (starEach (e :: []) X.env)).all (fun x => !x.1) && (backToKw pos (keywordEach [] X.env)).all (fun x => x.1.isSome)
      && decide ((e :: ([] : List Expr)).length + ([] : List Keyword).length + (if ([] : List Keyword).isEmpty then 0 else 1) < 30)) = true := by rfl)
    (h2 : (apos.endLine == pos.line) = true := by rfl) {pos2 : Pos} (hst : starEach (e :: []) X.env = (false, eval e X.env) :: starEach [] X.env := by rfl) (hpl : (backTo pos (starEach [] X.env)).any (·.1) = false := by rfl)
    (hs : swapsWith (.Call (.Attribute a "append" apos) [e] [] pos) none pos2.line X.env = pure false := by rfl) : BK X F Γ Δ (.Expr (.Call (.Attribute a "append" apos) [e] [] pos) pos2 :: rest) P :=
  ba_seq (ps_expr (pe_bm PySem.F.plainAttrs_list PySem.F.slot_list_append PySem.F.type_list_append mt_append ho (ea_cons he ea_nil hst) h1 hfew h2 hst hpl) hs) (fun D σ H s ple => ⟨s, fun v H1 e1 hv => by
    have hv : v = .ref p := hv
    subst hv
    have s1 := s.mono e1
    obtain ⟨xs1, g1, _⟩ := s1.lst hk
    refine ⟨Or.inl ⟨rfl, _, Or.inl (Or.inl g1)⟩, s1, fun vs H2 e2 r2 => ?_⟩
    obtain ⟨y, rfl, ry⟩ := r2.one
    have s2 := s1.mono e2
    obtain ⟨xs, g, ga, gz⟩ := s2.lst hk
    refine ⟨p, xs, y, rfl, rfl, g, by rw [ga.len, sizeLine_eq]; omega, ple.1 _ _ (s2.wrk hk ⟨_, rfl, AllR.app ga ⟨ry, trivial⟩, ?_⟩)⟩
    rw [List.length_append, ga.len, sizeLine_eq]
    show Rs.length + 1 ≤ _
    omega⟩) h
/-- owned lists are read -/
theorem ev_ixO {i' : Int} (ha : EV X F Γ Δ a (Vl (.ref p))) (hk : Δ[k]? = some (p, LOR Rs)) (hb : EV X F Γ Δ b (I X.K i')) (h : atI Rs i' = some R) (hs : PlainIx b := by exact fun _ _ => rfl) : EV X F Γ Δ (.Subscript a b pos) R :=
  ev_ix ix_list ha hb (fun σ H x y s ra rb Q k' => by
    have ra : x = .ref p := ra
    subst ra
    obtain ⟨xs, g, ga, _⟩ := s.lst hk
    obtain ⟨v, e, hv⟩ := atI_ofR ga h
    exact ⟨p, xs, i', v, rfl, I_val rb, SqL.of g, e, k' v hv⟩) hs
theorem ev_lenO {p' : Pos} (W : Bi X.mg) (ha : EV X F Γ Δ a (Vl (.ref p))) (hk : Δ[k]? = some (p, LOR Rs)) (hg : Gl X "len" := by rfl) (he : starEach (a :: []) X.env = (false, eval a X.env) :: starEach [] X.env := by rfl) : EV X F Γ Δ (.Call (.Name "len" p') [a] [] pos) (I X.K Rs.length) :=
  ev_callB call_len_seq hg W.len boot_len (ea_cons ha ea_nil he) (fun σ H vs s r Q k' => by
    obtain ⟨v, rfl, rv⟩ := r.one
    have rv : v = .ref p := rv
    subst rv
    obtain ⟨xs, g, ga, _⟩ := s.lst hk
    exact ⟨p, xs, rfl, .inl (SqL.of g), k' _ H (Same.refl H) (by rw [ga.len]; exact Dp.int _)⟩) (by decide) (by decide) he
/-- an owned list is given away -/
theorem b_frz {i : Nat} (hk : Δ[k]? = some (p, LOR Rs)) (hΓ : Γ[i]? = some (some (Vl (.ref p)))) (h : BK X F (Γ.set i (some (LR Rs))) (Δ.eraseIdx k) rest P) : BK X F Γ Δ rest P :=
  ba_imp h fun σ H s => by
    obtain ⟨v, hv, e⟩ := s.get hΓ
    have e : v = .ref p := e
    subst e
    obtain ⟨s1, o, h1, xs, rfl, ha, _⟩ := s.erase hk
    have s2 := s1.set (v := .ref p) (R := LR Rs) ⟨p, xs, rfl, h1, ha⟩ i
    have hl : i < σ.length := (List.getElem?_eq_some_iff.mp hv).1
    have e2 : σ.set i (some (V.ref p)) = σ := by
      apply List.ext_getElem?
      intro j
      by_cases hj : i = j
      · subst hj; rw [List.getElem?_set_self hl, hv]
      · rw [List.getElem?_set_ne hj]
    rw [e2] at s2
    exact s2
/-- .. of data -/
theorem b_frzD {i : Nat} {ds : List PyData} (hk : Δ[k]? = some (p, LO X.K ds)) (hΓ : Γ[i]? = some (some (Vl (.ref p)))) (h : BK X F (Γ.set i (some (LP X.K ds))) (Δ.eraseIdx k) rest P) : BK X F Γ Δ rest P :=
  b_frz hk hΓ (ba_imp h fun σ H s => ⟨s.ex, s.fr, s.lv, s.nd, s.ow, s.gh, by
    have key : ∀ (i : Nat) (Γ : Gam) (σ : Sig) (R R' : RP), (∀ G v, R.r G v → R'.r G v) → Slots (Hid F (Δ.eraseIdx k) H) σ (Γ.set i (some R)) → Slots (Hid F (Δ.eraseIdx k) H) σ (Γ.set i (some R')) := by
      intro i Γ
      induction Γ generalizing i with
      | nil => intro σ R R' _ h; exact h
      | cons g Γ ih =>
        intro σ R R' l h
        cases σ with
        | nil => cases i <;> exact h.elim
        | cons x σ =>
          cases i with
          | zero =>
            obtain ⟨⟨v, e, r⟩, h2⟩ := h
            exact ⟨⟨v, e, l _ _ r⟩, h2⟩
          | succ i => exact ⟨h.1, ih i σ R R' l h.2⟩
    exact key i Γ σ _ _ (fun G v => LR_LP G v) s.sl⟩)
/-- x[i] = e, x owned -/
theorem b_setO {i' : Int} {j : Nat} {spos : Pos} (he : EV X F Γ Δ e R) (ho : EV X F Γ Δ a (Vl (.ref p))) (hk : Δ[k]? = some (p, LOR Rs)) (hi : EV X F Γ Δ b (I X.K i')) (hj : ixN Rs.length i' = some j) (h : BK X F Γ (Δ.set k (p, LOR (Rs.set j R))) rest P)
    (ha : ∀ v, assign (.Subscript a b spos) X.env v = (do
      let ov ← holding [v] (eval a X.env)
      let iv ← holding [v, ov] (eval b X.env)
      standAt spos
      holding [v, ov, iv] (setItem ov iv v)
      release [v, ov, iv] []) := by intro _; rfl)
    (hs : swapsWithSole [.Subscript a b spos] e pos.line X.env = pure false := by rfl) (hw : swappedStores [.Subscript a b spos] e X.env = pure none := by rfl)
    (h1 : (assignEach [.Subscript a b spos] X.env).map (·.2) = [assign (.Subscript a b spos) X.env] := by rfl) : BK X F Γ Δ (.Assign [.Subscript a b spos] e pos :: rest) P :=
  ba_seq (ps_asg he (pg_sub ho hi set_list ha) hs hw h1) (fun D σ H s ple => ⟨s, fun v H1 e1 hv => ⟨s.mono e1, fun o H2 e2 hov => ⟨(s.mono e1).mono e2, fun iv H3 e3 hiv => by
    have ho' : o = .ref p := hov
    subst ho'
    have s3 := ((s.mono e1).mono e2).mono e3
    obtain ⟨xs, g, ga, gz⟩ := s3.lst hk
    refine ⟨p, xs, i', j, rfl, I_val hiv, g, by rw [ga.len]; exact hj, ple.1 _ _ (s3.wrk hk ⟨_, rfl, ?_, by rw [List.length_set]; exact gz⟩)⟩
    have key : ∀ {vs : List V} {Rs : List RP} (j : Nat), AllR (Hid F Δ H3) vs Rs → AllR (Hid F Δ H3) (vs.set j v) (Rs.set j R) := by
      intro vs
      induction vs with
      | nil => intro Rs j h; cases Rs with
        | nil => exact h
        | cons _ _ => exact h.elim
      | cons x vs ih =>
        intro Rs j h
        cases Rs with
        | nil => exact h.elim
        | cons R' Rs =>
          cases j with
          | zero => exact ⟨R.m (hide_mono (e2.trans e3)) hv, h.2⟩
          | succ j => exact ⟨h.1, ih j h.2⟩
    exact key j ga⟩⟩⟩) h
end

/-! ### what is walked -/
/-- wherever the source stands, J yields what stands for ds, one after another -/
def JOk {α : Type} (J : It) (ds : List α) (it : α → RP) (gv : V) (gR : RP) : Prop :=
  ∀ (M : List Addr) (H : Hp), gR.r (Hide M H) gv → Live M H → (∀ (i : Nat) (x : α), ds[i]? = some x → J.go i H ∧ ∀ v H', J.yld i H v H' → Same H H' ∧ (it x).r (Hide M H') v) ∧ J.stop ds.length H
def tIt {α : Type} (F : Fm) (Γ : Gam) (Δ : Del) (ds : List α) (it : α → RP) : TI := fun σ H R => Stt F Γ Δ σ H ∧ ∀ J H1 gv gR, Same H H1 → gR.r (Hid F Δ H1) gv → JOk J ds it gv gR → R J H1
def IT {α : Type} (X : Cx) (F : Fm) (Γ : Gam) (Δ : Del) (tg iter : Expr) (ds : List α) (it : α → RP) : Prop := PI X tg iter (tIt F Γ Δ ds it)
theorem pi_imp {X : Cx} {tg iter : Expr} {t t' : TI} (h : PI X tg iter t) (i : ∀ σ H R, t' σ H R → t σ H R) : PI X tg iter t' := ⟨fun pins s σ H R I q => h.run pins s σ H R I (i σ H R q)⟩
/-- a target takes what R tells; js: its slots -/
def tTg (F : Fm) (Γ : Gam) (Δ : Del) (R : RP) (Γ' : Gam) (js : List Nat) : TG := fun v σ H Q => (Stt F Γ Δ σ H ∧ R.r (Hid F Δ H) v) ∧ ∀ σ', Stt F Γ' Δ σ' H → (∀ vs : List Nat, (∀ j ∈ js, j ∈ vs) → wipe σ' vs = wipe σ vs) → Q σ' H
def TG' (X : Cx) (F : Fm) (Γ : Gam) (Δ : Del) (tg : Expr) (R : RP) (Γ' : Gam) (js : List Nat) : Prop := PG X tg (tTg F Γ Δ R Γ' js)
def tTgs (F : Fm) (Γ : Gam) (Δ : Del) (Rs : List RP) (Γ' : Gam) (js : List Nat) : TGs := fun vs σ H Q => (Stt F Γ Δ σ H ∧ AllR (Hid F Δ H) vs Rs) ∧ ∀ σ', Stt F Γ' Δ σ' H → (∀ ws : List Nat, (∀ j ∈ js, j ∈ ws) → wipe σ' ws = wipe σ ws) → Q σ' H
def TGs' (X : Cx) (F : Fm) (Γ : Gam) (Δ : Del) (tgs : List Expr) (Rs : List RP) (Γ' : Gam) (js : List Nat) : Prop := PGs X tgs (tTgs F Γ Δ Rs Γ' js)
theorem pg_imp {X : Cx} {tg : Expr} {t t' : TG} (h : PG X tg t) (i : ∀ v σ H Q, t' v σ H Q → t v σ H Q) : PG X tg t' := ⟨fun pins s σ H v u Q I r q => h.run pins s σ H v u Q I r (i v σ H Q q)⟩
theorem pgs_imp {X : Cx} {tg : List Expr} {t t' : TGs} (h : PGs X tg t) (i : ∀ v σ H Q, t' v σ H Q → t v σ H Q) : PGs X tg t' := ⟨fun pins s σ H v u Q I r q => h.run pins s σ H v u Q I r (i v σ H Q q)⟩
theorem wipe_set {σ : Sig} {i : Nat} {x : Option V} : ∀ {vs : List Nat}, i ∈ vs → wipe (σ.set i x) vs = wipe σ vs
  | [], h => by cases h
  | v :: vs, h => by
    unfold wipe
    by_cases e : i = v
    · subst e
      by_cases h' : i ∈ vs
      · rw [wipe_set h']
      · have key : ∀ (ws : List Nat) (σ : Sig), i ∉ ws → (wipe (σ.set i x) ws) = (wipe σ ws).set i x := by
          intro ws
          induction ws with
          | nil => intro σ _; rfl
          | cons w ws ih =>
            intro σ hw
            unfold wipe
            rw [ih σ (fun z => hw (List.mem_cons_of_mem _ z)), List.set_comm _ _ (fun z => hw (by rw [z]; exact List.mem_cons_self ..))]
        rw [key vs σ h', List.set_set]
    · rcases List.mem_cons.mp h with h | h
      · exact absurd h e
      · rw [wipe_set h]
section
variable {X : Cx} {F : Fm} {Γ Γ' Γ2 : Gam} {Δ Δ' : Del} {e a b : Expr} {es : List Expr} {rest body : List Stmt} {pos : Pos} {R R' : RP} {P : Ends} {p : Addr} {Rs As : List RP} {js js' : List Nat}
theorem tg_name {i : Nat} {x : Str} (hN : X.N.Nodup) (hi : X.N[i]? = some x := by rfl) (hx : Loc X.env.scope x := by first | exact Or.inl rfl | exact Or.inr rfl) (hf : X.fn x = true ∨ X.env.scope.names.lookup x = some .local := by first | exact .inl rfl | exact .inr rfl) : TG' X F Γ Δ (.Name x pos) R (Γ.set i (some R)) [i] :=
  pg_imp (pg_name hN hi hx hf) fun v σ H Q ⟨⟨s, r⟩, k⟩ => k _ (s.set r i) fun vs h => wipe_set (h i (List.mem_cons_self ..))
theorem tgs_nil : TGs' X F Γ Δ [] [] Γ [] := pgs_imp pgs_nil fun vs σ H Q ⟨⟨s, r⟩, k⟩ => ⟨by cases vs with
  | nil => rfl
  | cons _ _ => exact r.elim, k σ s fun _ _ => rfl⟩
theorem tgs_cons (h1 : TG' X F Γ Δ e R Γ' js) (h2 : TGs' X F Γ' Δ es Rs Γ2 js') (hs : (assignEach (e :: es) X.env).map (·.2) = assign e X.env :: (assignEach es X.env).map (·.2) := by rfl) : TGs' X F Γ Δ (e :: es) (R :: Rs) Γ2 (js ++ js') :=
  pgs_imp (pgs_cons h1 h2 hs) fun vs σ H Q ⟨⟨s, r⟩, k⟩ => by
    cases vs with
    | nil => exact r.elim
    | cons v vs =>
      exact ⟨v, vs, rfl, ⟨s, r.1⟩, fun σ1 s1 w1 => ⟨⟨s1, r.2⟩, fun σ2 s2 w2 => k σ2 s2 fun ws h => (w2 ws fun j hj => h j (List.mem_append_right _ hj)).trans (w1 ws fun j hj => h j (List.mem_append_left _ hj))⟩⟩
theorem tg_tupR {n : Nat} {kk : Nat} (hc : X.calm = true) (h : TGs' X F Γ Δ es Rs Γ' js) (hl : Rs.length = n := by rfl) (hn : (assignEach es X.env).length = n := by rfl) (hst : (assignEach es X.env).findIdx? (·.1) = none := by rfl) : TG' X F Γ Δ (.Tuple es kk pos) (TR Rs) Γ' js :=
  pg_imp (pg_tup hc h hn hst) fun v σ H Q ⟨⟨s, r⟩, k⟩ => by
    obtain ⟨a, xs, rfl, h1, h2⟩ := r
    exact ⟨a, xs, rfl, SqT.of (hide_le _ _ h1), by rw [h2.len, hl], ⟨s, h2⟩, k⟩
theorem tg_tup {n : Nat} {kk : Nat} {ds : List PyData} (hc : X.calm = true) (h : TGs' X F Γ Δ es (ds.map (D X.K)) Γ' js) (hl : ds.length = n := by rfl) (hn : (assignEach es X.env).length = n := by rfl) (hst : (assignEach es X.env).findIdx? (·.1) = none := by rfl) : TG' X F Γ Δ (.Tuple es kk pos) (D X.K (.tuple ds)) Γ' js :=
  pg_imp (pg_tup hc h hn hst) fun v σ H Q ⟨⟨s, r⟩, k⟩ => by
    obtain ⟨a, xs, rfl, h1, h2⟩ := T_val r
    exact ⟨a, xs, rfl, seqT_mono hide_le h1, by rw [dpAll_len h2, hl], ⟨s, AllR.data.mpr h2⟩, k⟩
/-- for tg in iter: body; rest; an invariant with a choice -/
theorem b_forE {α β : Type} {ds : List α} {it : α → RP} {tg iter : Expr} (hc : X.calm = true) (hp : PassesOwn (model X.prog X.w) X.A X.env X.xe) (hit : IT X F Γ Δ tg iter ds it) (C : Nat → β → Prop) (Γi : Nat → β → Gam) (Δi : Nat → β → Del) (Γt : Nat → β → α → Gam) (js : List Nat)
    (h0 : ∃ y, C 0 y ∧ Δi 0 y = Δ ∧ Le (Γi 0 y) Γ)
    (ht : ∀ gv gR i x y, ds[i]? = some x → C i y → TG' X (F.push gv gR) (Γi i y) (Δi i y) tg (it x) (Γt i y x) js)
    (hb : ∀ gv gR i x y, ds[i]? = some x → C i y → BK X (F.push gv gR) (Γt i y x) (Δi i y) body { nx := fun σ H => ∃ y', C (i + 1) y' ∧ Stt (F.push gv gR) (Γi (i + 1) y') (Δi (i + 1) y') σ H, rt := P.rt })
    (hr : ∀ y, C ds.length y → BK X F (Γi ds.length y) (Δi ds.length y) rest P) (hs : ∀ x, foldedSetIterable iter X.env x = pure x := by intro _; rfl) : BK X F Γ Δ (.For tg iter body [] pos :: rest) P := by
  have tgt : PG X tg (fun v σ H Q => ∃ gv gR i x y, ds[i]? = some x ∧ C i y ∧ tTg (F.push gv gR) (Γi i y) (Δi i y) (it x) (Γt i y x) js v σ H Q) := ⟨fun pins s σ H v u Q I r ⟨gv, gR, i, x, y, e, c, q⟩ => (ht gv gR i x y e c).run pins s σ H v u Q I r q⟩
  have bod : PSs X body (fun D σ H => ∃ gv gR i x y, ds[i]? = some x ∧ C i y ∧ tBK (Stt (F.push gv gR) (Γt i y x) (Δi i y)) { nx := fun σ H => ∃ y', C (i + 1) y' ∧ Stt (F.push gv gR) (Γi (i + 1) y') (Δi (i + 1) y') σ H, rt := P.rt } D σ H) :=
    ⟨fun pins s σ H D I ⟨gv, gR, i, x, y, e, c, q⟩ => (hb gv gR i x y e c).run pins s σ H D I q⟩
  refine ba_seq (M := fun σ H => ∃ y, C ds.length y ∧ Stt F (Γi ds.length y) (Δi ds.length y) σ H) (ps_for hp hc hit tgt bod hs) (fun D σ H s ple => ⟨s, fun J H1 gv gR e1 hg ok => ?_⟩) (ba_ex fun y => ba_cond fun c => hr y c)
  have liv : ∀ {Γ' : Gam} {Δ' : Del} {σ' : Sig} {H' : Hp}, Stt (F.push gv gR) Γ' Δ' σ' H' → Live (dom Δ' ++ F.M) H' := fun s' p hp => s'.live hp
  refine ⟨fun i m σ' H' => m = ds.length - i ∧ i ≤ ds.length ∧ ∃ y, C i y ∧ Stt (F.push gv gR) (Γi i y) (Δi i y) σ' H', ⟨ds.length, rfl, Nat.zero_le _, ?_⟩, ?_⟩
  · obtain ⟨y, c, e, l⟩ := h0
    refine ⟨y, c, ?_⟩
    rw [e]
    exact ((s.mono e1).push hg).le l
  · rintro i m σ' H' ⟨rfl, hi, y, c, s'⟩
    obtain ⟨k1, k2⟩ := ok (dom (Δi i y) ++ F.M) H' s'.mem (liv s')
    by_cases hlt : i < ds.length
    · obtain ⟨go, yld⟩ := k1 i ds[i] (List.getElem?_eq_getElem hlt)
      refine .inr ⟨go, fun σ' H' => ∃ y', C (i + 1) y' ∧ Stt (F.push gv gR) (Γi (i + 1) y') (Δi (i + 1) y') σ' H', fun σ2 H2 ⟨y', c', s2⟩ => ⟨ds.length - (i + 1), by omega, rfl, hlt, y', c', s2⟩, fun v H2 hy => ?_⟩
      obtain ⟨e2, rv⟩ := yld v H2 hy
      refine ⟨gv, gR, i, ds[i], y, List.getElem?_eq_getElem hlt, c, ⟨s'.mono e2, rv⟩, fun σ3 s3 _ => ⟨gv, gR, i, ds[i], y, List.getElem?_eq_getElem hlt, c, s3, fun _ _ h => h, ple.2.1, fun _ _ h => h.elim, fun _ _ h => h.elim⟩⟩
    · have e : i = ds.length := by omega
      subst e
      exact .inl ⟨k2, ple.1 _ _ ⟨y, c, s'.pop⟩⟩
end
end Fr
set_option Elab.async false
set_option linter.all false
set_option maxRecDepth 100000
/-! Lay5: what is walked; loops without a choice; while; comprehensions. -/
namespace Fr
open PySem PySem.Spec PySem.Calls L2
section
variable {X : Cx} {F : Fm} {Γ Γ' Γ2 : Gam} {Δ Δ' : Del} {e a b c tg : Expr} {es : List Expr} {rest body : List Stmt} {pos p' : Pos} {R R' : RP} {P : Ends} {p : Addr} {Rs As : List RP} {js js' : List Nat} {ds : List PyData}
theorem jok_list {a : Addr} : JOk (Itl X.K a) ds (D X.K) (.ref a) (D X.K (.list ds)) := fun M H hg hl => by
  obtain ⟨a', xs, e, h1, h2⟩ := L_val hg
  cases e
  have h1' := seqL_mono hide_le h1
  refine ⟨fun i x hx => ?_, xs, h1', by rw [dpAll_len h2]; exact Nat.le_refl _⟩
  obtain ⟨v, hv, dv⟩ := dpAll_get h2 hx
  refine ⟨⟨xs, v, h1', hv⟩, fun w H' hy => ?_⟩
  obtain ⟨rfl, hw⟩ := hy
  have := hw xs h1'
  rw [hv] at this
  cases this
  exact ⟨Same.refl _, dv⟩
theorem jok_tup {a : Addr} : JOk (Itt X.K a) ds (D X.K) (.ref a) (D X.K (.tuple ds)) := fun M H hg hl => by
  obtain ⟨a', xs, e, h1, h2⟩ := T_val hg
  cases e
  have h1' := seqT_mono hide_le h1
  refine ⟨fun i x hx => ?_, xs, h1', by rw [dpAll_len h2]; exact Nat.le_refl _⟩
  obtain ⟨v, hv, dv⟩ := dpAll_get h2 hx
  refine ⟨⟨xs, v, h1', hv⟩, fun w H' hy => ?_⟩
  obtain ⟨rfl, hw⟩ := hy
  have := hw xs h1'
  rw [hv] at this
  cases this
  exact ⟨Same.refl _, dv⟩
theorem it_list (h : EV X F Γ Δ e (D X.K (.list ds))) : IT X F Γ Δ tg e ds (D X.K) := pi_imp (pi_list h) fun σ H R ⟨s, k⟩ => ⟨s, fun v H1 e1 r1 => by
  obtain ⟨a, xs, rfl, h1, h2⟩ := L_val r1
  exact ⟨a, rfl, ⟨xs, seqL_mono hide_le h1⟩, k _ H1 _ _ e1 r1 jok_list⟩⟩
theorem it_tup (h : EV X F Γ Δ e (D X.K (.tuple ds))) : IT X F Γ Δ tg e ds (D X.K) := pi_imp (pi_tup h) fun σ H R ⟨s, k⟩ => ⟨s, fun v H1 e1 r1 => by
  obtain ⟨a, xs, rfl, h1, h2⟩ := T_val r1
  exact ⟨a, rfl, ⟨xs, seqT_mono hide_le h1⟩, k _ H1 _ _ e1 r1 jok_tup⟩⟩
/-- a plain list of anything -/
theorem it_listR (h : EV X F Γ Δ e (LR Rs)) : IT X F Γ Δ tg e Rs (fun R => R) := pi_imp (pi_list h) fun σ H R ⟨s, k⟩ => ⟨s, fun v H1 e1 r1 => by
  obtain ⟨a, xs, rfl, h1, h2⟩ := id r1
  refine ⟨a, rfl, ⟨xs, SqL.of (hide_le _ _ h1)⟩, k _ H1 _ _ e1 r1 fun M H hg hl => ?_⟩
  obtain ⟨a', xs, e, h1, h2⟩ := hg
  cases e
  have h1' : SqL X.K H a xs := SqL.of (hide_le _ _ h1)
  refine ⟨fun i x hx => ?_, xs, h1', by rw [h2.len]; exact Nat.le_refl _⟩
  obtain ⟨v, hv, dv⟩ := h2.get hx
  refine ⟨⟨xs, v, h1', hv⟩, fun w H' hy => ?_⟩
  obtain ⟨rfl, hw⟩ := hy
  have := hw xs h1'
  rw [hv] at this
  cases this
  exact ⟨Same.refl _, dv⟩⟩
theorem jok_rng {lo : Int} {n : Nat} : JOk (Itr lo n) (List.range n) (fun i => I X.K (lo + (i : Nat))) .non Any := fun M H hg hl => by
  refine ⟨fun i x hx => ?_, by rw [List.length_range]; exact Nat.le_refl _⟩
  have hi : i < n := by have := (List.getElem?_eq_some_iff.mp hx).1; simpa using this
  rw [List.getElem?_range hi] at hx
  cases hx
  refine ⟨hi, fun w H' hy => ?_⟩
  obtain ⟨rfl, rfl⟩ := hy
  exact ⟨Same.refl _, .int _⟩
theorem it_rng1 {n : Nat} {i : Int} (W : Bi X.mg) (h : EV X F Γ Δ a (I X.K i)) (hi : i = (n : Int)) (hn : n < 2 ^ 62) (hg : Gl X "range" := by rfl) (hs : starEach [a] X.env = [(false, eval a X.env)] := by rfl) (hs' : starEach (a :: []) X.env = (false, eval a X.env) :: starEach [] X.env := by rfl) :
    IT X F Γ Δ tg (.Call (.Name "range" p') [a] [] pos) (List.range n) (fun i => I X.K (i : Nat)) := pi_imp (pi_range1 hg W.range (ea_cons h ea_nil hs') hs) fun σ H R ⟨s, k⟩ => ⟨s, fun vs H1 e1 r1 => by
  obtain ⟨v, rfl, rv⟩ := r1.one
  refine ⟨i, by rw [I_val rv], by omega, by omega, ?_⟩
  have e : i.toNat = n := by omega
  rw [e]
  refine k _ H1 .non Any e1 trivial fun M H hg hl => ?_
  have j := jok_rng (X := X) (lo := 0) (n := n) M H hg hl
  refine ⟨fun i x hx => ?_, j.2⟩
  obtain ⟨j1, j2⟩ := j.1 i x hx
  refine ⟨j1, fun v H' hy => ?_⟩
  obtain ⟨k1, k2⟩ := j2 v H' hy
  refine ⟨k1, ?_⟩
  have k3 : (I X.K (0 + (x : Nat) : Int)).r (Hide M H') v := k2
  rw [Int.zero_add] at k3
  exact k3⟩
theorem it_rng2 {n : Nat} {i j : Int} (W : Bi X.mg) (h : EV X F Γ Δ a (I X.K i)) (h2 : EV X F Γ Δ b (I X.K j)) (hi : 0 ≤ i ∧ i < 2 ^ 62 ∧ 0 ≤ j ∧ j < 2 ^ 62) (hn : (j - i).toNat = n) (hg : Gl X "range" := by rfl) (hs : starEach [a, b] X.env = [(false, eval a X.env), (false, eval b X.env)] := by rfl) (hs2 : starEach [b] X.env = [(false, eval b X.env)] := by rfl)
    (hs3 : starEach (a :: [b]) X.env = (false, eval a X.env) :: starEach [b] X.env := by rfl) (hs4 : starEach (b :: []) X.env = (false, eval b X.env) :: starEach [] X.env := by rfl) :
    IT X F Γ Δ tg (.Call (.Name "range" p') [a, b] [] pos) (List.range n) (fun k => I X.K (i + (k : Nat))) := pi_imp (pi_range2 hg W.range (ea_cons h (ea_cons h2 ea_nil hs4) hs3) hs hs2) fun σ H R ⟨s, k⟩ => ⟨s, fun vs H1 e1 r1 => by
  obtain ⟨v, w, rfl, rv, rw'⟩ := r1.two
  refine ⟨i, j, by rw [I_val rv, I_val rw'], by omega, ?_⟩
  rw [hn]
  exact k _ H1 .non Any e1 trivial jok_rng⟩
/-- enumerate over a list -/
def Enu (K : PySem.W.Frag) (x : PyData × Nat) : RP := TR [I K (x.2 : Nat), D K x.1]
theorem jok_enuL {a : Addr} : JOk (Ite X.K a) ds.zipIdx (Enu X.K) (.ref a) (D X.K (.list ds)) := fun M H hg hl => by
  obtain ⟨a', xs, e, h1, h2⟩ := L_val hg
  cases e
  have h1' := seqL_mono hide_le h1
  refine ⟨fun i x hx => ?_, xs, h1', by rw [dpAll_len h2, List.length_zipIdx]; exact Nat.le_refl _⟩
  rw [List.getElem?_zipIdx] at hx
  cases hd : ds[i]? with
  | none => rw [hd] at hx; cases hx
  | some d =>
    rw [hd] at hx
    have hx : (d, 0 + i) = x := Option.some.inj hx
    subst hx
    obtain ⟨v, hv, dv⟩ := dpAll_get h2 hd
    refine ⟨⟨xs, v, h1', hv⟩, fun w H' hy => ?_⟩
    obtain ⟨T, y, rfl, hT, rfl, hw⟩ := hy
    have := hw xs h1'
    rw [hv] at this
    cases this
    refine ⟨same_new hT, T, [V.int (i : Nat), v], rfl, ?_, ?_, ?_, trivial⟩
    · have : T ∉ M := fun z => by
        obtain ⟨o, e⟩ := hl T z
        rw [hT] at e; cases e
      rw [hide_out this, upd_same]
    · show Dp _ _ _ _
      rw [Nat.zero_add]
      exact .int _
    · exact dp_mono (hide_mono (same_new hT)) dv
theorem it_enuL {elts : List Expr} {kk : Nat} {tpos : Pos} (W : Bi X.mg) (h : EV X F Γ Δ e (D X.K (.list ds))) (hg : Gl X "enumerate" := by rfl) (hs : starEach [e] X.env = [(false, eval e X.env)] := by rfl) (hs' : starEach (e :: []) X.env = (false, eval e X.env) :: starEach [] X.env := by rfl) :
    IT X F Γ Δ (.Tuple elts kk tpos) (.Call (.Name "enumerate" p') [e] [] pos) ds.zipIdx (Enu X.K) := pi_imp (pi_enum hg W.enumerate (ea_cons h ea_nil hs') hs) fun σ H R ⟨s, k⟩ => ⟨s, fun vs H1 e1 r1 => by
  obtain ⟨v, rfl, rv⟩ := r1.one
  obtain ⟨a, xs, rfl, h1, h2⟩ := L_val rv
  exact ⟨a, xs, rfl, seqL_mono hide_le h1, k _ H1 _ _ e1 rv jok_enuL⟩⟩

/-! ### loops -/
/-- for tg in iter: body; rest; one state a turn -/
theorem b_for {α : Type} {ds : List α} {it : α → RP} {tg iter : Expr} (hc : X.calm = true) (hp : PassesOwn (model X.prog X.w) X.A X.env X.xe) (hit : IT X F Γ Δ tg iter ds it) (Γi : Nat → Gam) (Δi : Nat → Del) (Γt : Nat → α → Gam) (js : List Nat)
    (h0 : Δi 0 = Δ) (h0' : Le (Γi 0) Γ)
    (ht : ∀ gv gR i x, ds[i]? = some x → TG' X (F.push gv gR) (Γi i) (Δi i) tg (it x) (Γt i x) js)
    (hb : ∀ gv gR i x, ds[i]? = some x → BK X (F.push gv gR) (Γt i x) (Δi i) body { nx := Stt (F.push gv gR) (Γi (i + 1)) (Δi (i + 1)), rt := P.rt })
    (hr : BK X F (Γi ds.length) (Δi ds.length) rest P) (hs : ∀ x, foldedSetIterable iter X.env x = pure x := by intro _; rfl) : BK X F Γ Δ (.For tg iter body [] pos :: rest) P :=
  b_forE (β := Unit) hc hp hit (fun _ _ => True) (fun i _ => Γi i) (fun i _ => Δi i) (fun i _ x => Γt i x) js ⟨(), trivial, h0, h0'⟩ (fun gv gR i x _ h _ => ht gv gR i x h)
    (fun gv gR i x _ h _ => pss_imp (hb gv gR i x h) fun D σ H q => ⟨q.1, fun σ' H' s => q.2.1 _ _ ⟨(), trivial, s⟩, q.2.2.1, q.2.2.2.1, q.2.2.2.2⟩) (fun _ _ => hr) hs
/-- while c: body; rest; C with its measure -/
theorem b_while {β : Type} (hp : PassesOwn (model X.prog X.w) X.A X.env X.xe) (C : Nat → β → Prop) (Γi : β → Gam) (Δi : β → Del) (t : β → Bool)
    (h0 : ∃ m y, C m y ∧ Δi y = Δ ∧ Le (Γi y) Γ) (ht : ∀ m y, C m y → ET X F (Γi y) (Δi y) c (t y))
    (hb : ∀ m y, C m y → t y = true → BK X F (Γi y) (Δi y) body { nx := fun σ H => ∃ m' y', m' < m ∧ C m' y' ∧ Stt F (Γi y') (Δi y') σ H, rt := P.rt })
    (hr : ∀ m y, C m y → t y = false → BK X F (Γi y) (Δi y) rest P) : BK X F Γ Δ (.While c body [] pos :: rest) P := by
  have tst : PT X c (fun σ H Q => ∃ m y, C m y ∧ tTb F (Γi y) (Δi y) (t y) σ H Q) := ⟨fun pins s σ H Q I ⟨m, y, h, q⟩ => (ht m y h).run pins s σ H Q I q⟩
  have bod : PSs X body (fun D σ H => ∃ m y, C m y ∧ t y = true ∧ tBK (Stt F (Γi y) (Δi y)) { nx := fun σ H => ∃ m' y', m' < m ∧ C m' y' ∧ Stt F (Γi y') (Δi y') σ H, rt := P.rt } D σ H) := ⟨fun pins s σ H D I ⟨m, y, h, ty, q⟩ => (hb m y h ty).run pins s σ H D I q⟩
  refine ba_seq (M := fun σ H => ∃ m y, (C m y ∧ t y = false) ∧ Stt F (Γi y) (Δi y) σ H) (ps_while hp tst bod) (fun D σ H s ple => ?_) (ba_ex fun m => ba_ex fun y => ba_cond fun c => hr m y c.1 c.2)
  refine ⟨fun m σ' H' => ∃ y, C m y ∧ Stt F (Γi y) (Δi y) σ' H', ?_, fun m σ' H' ⟨y, c, s'⟩ => ⟨m, y, c, s', fun H2 e2 => ?_⟩⟩
  · obtain ⟨m, y, c, e, l⟩ := h0
    exact ⟨m, y, c, by rw [e]; exact s.le l⟩
  · cases hty : t y with
    | true => exact iteT ⟨fun σ' H' => ∃ m' y', m' < m ∧ C m' y' ∧ Stt F (Γi y') (Δi y') σ' H', fun σ2 H3 ⟨m', y', h1, h2, h3⟩ => ⟨m', h1, y', h2, h3⟩, m, y, c, hty, s'.mono e2, fun _ _ h => h, ple.2.1, fun _ _ h => h.elim, fun _ _ h => h.elim⟩
    | false => exact iteF (ple.1 _ _ ⟨m, y, ⟨c, hty⟩, s'.mono e2⟩)

theorem Stt.cast {σ : Sig} {H : Hp} (s : Stt F Γ Δ σ H) (e1 : Le Γ' Γ) (e2 : Δ = Δ') : Stt F Γ' Δ' σ H := e2 ▸ s.le e1
/-- a turn's end -/
theorem b_fin (e1 : Le Γ' Γ) (e2 : Δ = Δ') (hP : P.nx = Stt F Γ' Δ' := by rfl) : BK X F Γ Δ [] P := b_nil fun σ H s => by rw [hP]; exact s.cast e1 e2
theorem lo_app {K : PySem.W.Frag} {ds : List PyData} {d : PyData} : ds.map (D K) ++ [D K d] = (ds ++ [d]).map (D K) := by rw [List.map_append]; rfl
theorem b_appD {k : Nat} {apos : Pos} {d : PyData} (ho : EV X F Γ Δ a (Vl (.ref p))) (hk : Δ[k]? = some (p, LO X.K ds)) (he : EV X F Γ Δ e (D X.K d)) (hz : ds.length < 100000) (h : BK X F Γ (Δ.set k (p, LO X.K (ds ++ [d]))) rest P)
    (h1 : attributeBase a "append" X.env (eval a X.env) = eval a X.env := by rfl)
    (hfew : ((backTo pos (starEach (e :: []) X.env)).all (fun x => !x.1) && (backToKw pos (keywordEach [] X.env)).all (fun x => x.1.isSome)
      && decide ((e :: ([] : List Expr)).length + ([] : List Keyword).length + (if ([] : List Keyword).isEmpty then 0 else 1) < 30)) = true := by rfl)
    (h2 : (apos.endLine == pos.line) = true := by rfl) {pos2 : Pos} (hst : starEach (e :: []) X.env = (false, eval e X.env) :: starEach [] X.env := by rfl) (hpl : (backTo pos (starEach [] X.env)).any (·.1) = false := by rfl)
    (hs : swapsWith (.Call (.Attribute a "append" apos) [e] [] pos) none pos2.line X.env = pure false := by rfl) : BK X F Γ Δ (.Expr (.Call (.Attribute a "append" apos) [e] [] pos) pos2 :: rest) P :=
  b_app ho hk he (by rw [List.length_map]; exact hz) (by rw [lo_app]; exact h) h1 hfew h2 hst hpl hs
/-! ### comprehensions -/
def wipeG (Γ : Gam) : List Nat → Gam
  | [] => Γ
  | v :: vs => (wipeG Γ vs).set v none
theorem slots_wipe {G : Hp} {σ : Sig} {Γ : Gam} (h : Slots G σ Γ) : ∀ vs : List Nat, Slots G (wipe σ vs) (wipeG Γ vs)
  | [] => h
  | v :: vs => (slots_wipe h vs).forget v
def tTs (F : Fm) (Γ : Gam) (Δ : Del) (b : Bool) : TT := tTb F Γ Δ b
def ETs (X : Cx) (F : Fm) (Γ : Gam) (Δ : Del) (ifs : List Expr) (b : Bool) : Prop := PTs X ifs (tTb F Γ Δ b)
theorem pts_imp {X : Cx} {e : List Expr} {t t' : TT} (h : PTs X e t) (i : ∀ σ H Q, t' σ H Q → t σ H Q) : PTs X e t' := ⟨fun pins s σ H Q I q => h.run pins s σ H Q I (i σ H Q q)⟩
theorem ets_nil : ETs X F Γ Δ [] true := pts_imp pts_nil fun σ H Q ⟨s, k⟩ => k H (Same.refl H)
theorem ets_one {b : Bool} (h : ET X F Γ Δ e b) : ETs X F Γ Δ [e] b := pts_one h
/-- what has been made so far -/
def lcAcc {α : Type} (ds : List α) (pr : α → Bool) (f : α → RP) (i : Nat) : List RP := ((ds.take i).filter pr).map f
theorem lcAcc_next {α : Type} {ds : List α} {pr : α → Bool} {f : α → RP} {i : Nat} {x : α} (h : ds[i]? = some x) : lcAcc ds pr f (i + 1) = if pr x then lcAcc ds pr f i ++ [f x] else lcAcc ds pr f i := by
  have e : ds.take (i + 1) = ds.take i ++ [x] := by
    rw [List.take_add_one, h]; rfl
  unfold lcAcc
  rw [e, List.filter_append, List.map_append]
  cases hp : pr x <;> simp [hp]
theorem lcAcc_len {α : Type} {ds : List α} {pr : α → Bool} {f : α → RP} {i : Nat} : (lcAcc ds pr f i).length ≤ ds.length := by
  unfold lcAcc
  rw [List.length_map]
  refine Nat.le_trans (List.length_filter_le _ _) ?_
  rw [List.length_take]; exact Nat.min_le_right _ _
structure LcH {α : Type} (X : Cx) (F : Fm) (Γ : Gam) (Δ : Del) (scope : Scope) (own : List (Str × Nat)) (tg : Expr) (ifs : List Expr) (elt : Expr) (ds : List α) (it : α → RP) (pr : α → Bool) (f : α → RP) (Γt : α → Gam) (js : List Nat) : Prop where
  t : ∀ (s : Shared) (H : Hp) (C : Addr) (cl : List (Str × Addr)) (fp : List Addr) gv gR (D : Addr) (acc : List RP) (x : α), x ∈ ds → TG' (X.blk s H scope (compEnvC scope cl C X.env) fp) (F.push gv gR) (wipeG Γ (own.map (·.2))) ((D, LOR acc) :: Δ) tg (it x) (Γt x) js
  p : ∀ (s : Shared) (H : Hp) (C : Addr) (cl : List (Str × Addr)) (fp : List Addr) gv gR (D : Addr) (acc : List RP) (x : α), x ∈ ds → ETs (X.blk s H scope (compEnvC scope cl C X.env) fp) (F.push gv gR) (Γt x) ((D, LOR acc) :: Δ) ifs (pr x)
  e : ∀ (s : Shared) (H : Hp) (C : Addr) (cl : List (Str × Addr)) (fp : List Addr) gv gR (D : Addr) (acc : List RP) (x : α), x ∈ ds → pr x = true → EV (X.blk s H scope (compEnvC scope cl C X.env) fp) (F.push gv gR) (Γt x) ((D, LOR acc) :: Δ) elt (f x)
  js : ∀ j ∈ js, j ∈ own.map (·.2)
  len : ds.length ≤ 100000
abbrev lcG {α : Type} (F : Fm) (Γ : Gam) (Δ : Del) (own : List (Str × Nat)) (ds : List α) (it : α → RP) (Γt : α → Gam) (js : List Nat) : TG := fun v σ H Q => ∃ gv gR D acc x, x ∈ ds ∧ tTg (F.push gv gR) (wipeG Γ (own.map (·.2))) ((D, LOR acc) :: Δ) (it x) (Γt x) js v σ H Q
abbrev lcT {α : Type} (F : Fm) (Δ : Del) (ds : List α) (pr : α → Bool) (Γt : α → Gam) : TT := fun σ H Q => ∃ gv gR D acc x, x ∈ ds ∧ tTb (F.push gv gR) (Γt x) ((D, LOR acc) :: Δ) (pr x) σ H Q
abbrev lcE {α : Type} (F : Fm) (Δ : Del) (ds : List α) (pr : α → Bool) (f : α → RP) (Γt : α → Gam) : TE := fun σ H Q => ∃ gv gR D acc x, x ∈ ds ∧ pr x = true ∧ tR (F.push gv gR) (Γt x) ((D, LOR acc) :: Δ) (f x) σ H Q
variable {α : Type} {scope : Scope} {own : List (Str × Nat)} {ifs : List Expr} {elt iter : Expr} {xs : List α} {it : α → RP} {pr : α → Bool} {f : α → RP} {Γt : α → Gam}
theorem lc_run (hl : xs.length ≤ 100000) (hj : ∀ j ∈ js, j ∈ own.map (·.2)) {σ : Sig} {H : Hp} {Q : VK} (s : Stt F Γ Δ σ H)
    (k : ∀ p H2 ys, H p = none → Same H H2 → H2 p = some (.lst ys) → AllR (Hide (p :: (dom Δ ++ F.M)) H2) ys ((xs.filter pr).map f) → ys.length ≤ sizeLine → Q (.ref p) H2) :
    tLc (tIt F Γ Δ xs it) (lcG F Γ Δ own xs it Γt js) (lcT F Δ xs pr Γt) (lcE F Δ xs pr f Γt) (own.map (·.2)) σ H Q := by
  refine ⟨s, fun J H1 gv gR e1 hg ok D hD => ?_⟩
  have s1 : Stt (F.push gv gR) (wipeG Γ (own.map (·.2))) Δ (wipe σ (own.map (·.2))) H1 :=
    let z := (s.mono e1).push hg
    ⟨z.ex, z.fr, z.lv, z.nd, z.ow, z.gh, slots_wipe z.sl _⟩
  refine ⟨fun i m H' => m = xs.length - i ∧ i ≤ xs.length ∧ Same H1 H' ∧ Stt (F.push gv gR) (wipeG Γ (own.map (·.2))) ((D, LOR (lcAcc xs pr f i)) :: Δ) (wipe σ (own.map (·.2))) H', ⟨xs.length, rfl, Nat.zero_le _, same_new hD, s1.own (O := LOR (lcAcc xs pr f 0)) hD fun G _ => (⟨[], rfl, trivial, Nat.zero_le _⟩ : ∃ ys, HO.lst [] = HO.lst ys ∧ AllR G ys (lcAcc xs pr f 0) ∧ ys.length ≤ sizeLine)⟩, ?_⟩
  rintro i m H' ⟨rfl, hi, e', s'⟩
  obtain ⟨k1, k2⟩ := ok (dom ((D, LOR (lcAcc xs pr f i)) :: Δ) ++ F.M) H' s'.mem fun p hp => s'.live hp
  by_cases hlt : i < xs.length
  · have hx := List.getElem?_eq_getElem hlt
    have hmem : xs[i] ∈ xs := List.getElem_mem hlt
    generalize xs[i] = x at hx hmem
    obtain ⟨go, yld⟩ := k1 i x hx
    refine .inr ⟨go, fun H' => Same H1 H' ∧ Stt (F.push gv gR) (wipeG Γ (own.map (·.2))) ((D, LOR (lcAcc xs pr f (i + 1))) :: Δ) (wipe σ (own.map (·.2))) H', fun H2 h2 => ⟨xs.length - (i + 1), by omega, rfl, hlt, h2⟩, fun v H2 hy => ?_⟩
    obtain ⟨e2, rv⟩ := yld v H2 hy
    refine ⟨gv, gR, D, _, x, hmem, ⟨s'.mono e2, rv⟩, fun σ3 s3 w3 => ⟨?_, gv, gR, D, _, x, hmem, s3, fun H3 e3 => ?_⟩⟩
    · have w := w3 (own.map (·.2)) hj
      rw [w]
      have idem : ∀ (vs : List Nat) (τ : Sig), wipe (wipe τ vs) vs = wipe τ vs := by
        have out : ∀ (us vs : List Nat) (τ : Sig), (∀ u ∈ us, u ∈ vs) → wipe (wipe τ us) vs = wipe τ vs := by
          intro us
          induction us with
          | nil => intro vs τ _; rfl
          | cons u us ih =>
            intro vs τ h
            show wipe ((wipe τ us).set u none) vs = _
            rw [wipe_set (h u (List.mem_cons_self ..))]
            exact ih vs τ fun z hz => h z (List.mem_cons_of_mem _ hz)
        intro vs τ
        exact out vs vs τ fun _ h => h
      exact idem _ _
    · -- the state of the block's start, at a later heap
      have back : ∀ {H4 : Hp} {acc' : List RP} {o : HO}, Same H2 H4 → Stt (F.push gv gR) (Γt x) ((D, LOR acc') :: Δ) σ3 (upd H4 D o) → Stt (F.push gv gR) (wipeG Γ (own.map (·.2))) ((D, LOR acc') :: Δ) (wipe σ (own.map (·.2))) (upd H4 D o) := fun {H4 acc' o} e4 s4 => by
        refine ⟨s4.ex, s4.fr, s4.lv, s4.nd, s4.ow, s4.gh, ?_⟩
        have hh : Hid (F.push gv gR) ((D, LOR acc') :: Δ) (upd H4 D o) = Hid (F.push gv gR) ((D, LOR (lcAcc xs pr f i)) :: Δ) H4 := hide_upd (List.mem_append_left _ (List.mem_cons_self ..))
        rw [hh]
        exact (s'.sl.mono (hide_mono e2)).mono (hide_mono e4)
      have accn := lcAcc_next (pr := pr) (f := f) hx
      cases hp : pr x with
      | true =>
        rw [hp, if_pos rfl] at accn
        refine iteT ⟨gv, gR, D, _, x, hmem, hp, s3.mono e3, fun y H4 e4 ry => ?_⟩
        have s4 := (s3.mono e3).mono e4
        obtain ⟨ys, g, ga, gz⟩ := s4.lst (k := 0) rfl
        have hlen : ys.length < sizeLine := by
          have : ys.length < xs.length := by
            rw [ga.len]
            have h1 : (lcAcc xs pr f i).length ≤ i := by
              unfold lcAcc
              rw [List.length_map]
              exact Nat.le_trans (List.length_filter_le _ _) (by rw [List.length_take]; exact Nat.min_le_left _ _)
            omega
          rw [sizeLine_eq]; omega
        refine ⟨ys, g, hlen, ?_, ?_⟩
        · intro a u h
          rw [upd_ne (ne_of_none h hD)]
          exact e4 _ _ (e3 _ _ (e2 _ _ (e' _ _ h)))
        · refine back (e3.trans e4) ?_
          rw [accn]
          exact s4.wrk (k := 0) rfl ⟨_, rfl, AllR.app ga ⟨ry, trivial⟩, by rw [List.length_append]; show ys.length + 1 ≤ _; omega⟩
      | false =>
        rw [hp, if_neg (by decide)] at accn
        refine iteF ⟨(e'.trans e2).trans e3, ?_⟩
        rw [accn]
        exact (s'.mono e2).mono e3
  · have ei : i = xs.length := by omega
    subst ei
    refine .inl ⟨k2, ?_⟩
    obtain ⟨ys, g, ga, gz⟩ := s'.lst (k := 0) rfl
    refine k D H' ys (e1.free hD) (e1.trans e') g ?_ gz
    have e3 : lcAcc xs pr f xs.length = (xs.filter pr).map f := by unfold lcAcc; rw [List.take_length]
    rw [e3] at ga
    exact ga
theorem en_lc {kk : Nat} (hc : X.calm = true) (hN : X.N.Nodup) (hit : IT X F Γ Δ tg iter xs it) (ok : BlkOk X.N X.env.scope scope own) (h : LcH X F Γ Δ scope own tg ifs elt xs it pr f Γt js) (hs : ∀ x, foldedSetIterable iter X.env x = pure x := by intro _; rfl) :
    EN X F Γ Δ (.ListComp elt [⟨tg, iter, ifs, 0⟩] scope pos) ((xs.filter pr).map f) :=
  pe_imp (pe_lc (g := lcG F Γ Δ own xs it Γt js) (tt := lcT F Δ xs pr Γt) (te := lcE F Δ xs pr f Γt) hc hN hit ok
    (fun s H C cl fp => ⟨fun pins s' σ H' v u Q I r ⟨gv, gR, D, acc, x, hx, q⟩ => (h.t s H C cl fp gv gR D acc x hx).run pins s' σ H' v u Q I r q⟩)
    (fun s H C cl fp => ⟨fun pins s' σ H' Q I ⟨gv, gR, D, acc, x, hx, q⟩ => (h.p s H C cl fp gv gR D acc x hx).run pins s' σ H' Q I q⟩)
    (fun s H C cl fp => ⟨fun pins s' σ H' Q I ⟨gv, gR, D, acc, x, hx, hp, q⟩ => (h.e s H C cl fp gv gR D acc x hx hp).run pins s' σ H' Q I q⟩) hs) fun σ H Q ⟨s, k⟩ => lc_run h.len h.js s k
/-- x = [..] on one line, x a plain local -/
theorem b_ownLc {i : Nat} {x : Str} {pos' spos : Pos} (hc : X.calm = true) (hN : X.N.Nodup) (hit : IT X F Γ Δ tg iter xs it) (ok : BlkOk X.N X.env.scope scope own) (h : LcH X F Γ Δ scope own tg ifs elt xs it pr f Γt js)
    (hr : ∀ p, BK X F (Γ.set i (some (Vl (.ref p)))) ((p, LOR ((xs.filter pr).map f)) :: Δ) rest P) (hi : X.N[i]? = some x := by rfl) (hyl : X.env.scope.names.lookup x = some .local := by rfl)
    (hsw : swapsWith (.ListComp elt [⟨tg, iter, ifs, 0⟩] scope pos) (some (.Name x pos')) spos.line X.env = pure true := by exact sw_true rfl rfl rfl (by decide +kernel)) (hs : ∀ x, foldedSetIterable iter X.env x = pure x := by intro _; rfl) :
    BK X F Γ Δ (.Assign [.Name x pos'] (.ListComp elt [⟨tg, iter, ifs, 0⟩] scope pos) spos :: rest) P :=
  ba_seq (M := fun σ H => ∃ p, Stt F (Γ.set i (some (Vl (.ref p)))) ((p, LOR ((xs.filter pr).map f)) :: Δ) σ H) (ps_setLc (g := lcG F Γ Δ own xs it Γt js) (tt := lcT F Δ xs pr Γt) (te := lcE F Δ xs pr f Γt) hc hN hi hyl hsw hit ok
    (fun s H C cl fp => ⟨fun pins s' σ H' v u Q I r ⟨gv, gR, D, acc, x, hx, q⟩ => (h.t s H C cl fp gv gR D acc x hx).run pins s' σ H' v u Q I r q⟩)
    (fun s H C cl fp => ⟨fun pins s' σ H' Q I ⟨gv, gR, D, acc, x, hx, q⟩ => (h.p s H C cl fp gv gR D acc x hx).run pins s' σ H' Q I q⟩)
    (fun s H C cl fp => ⟨fun pins s' σ H' Q I ⟨gv, gR, D, acc, x, hx, hp, q⟩ => (h.e s H C cl fp gv gR D acc x hx hp).run pins s' σ H' Q I q⟩) hs)
    (fun D σ H s ple => lc_run h.len h.js s fun p H2 ys hp e2 h2 ha hz => ple.1 _ _ ⟨p, by
      have s1 : Stt F Γ ((p, LOR ((xs.filter pr).map f)) :: Δ) σ H2 := by
        have up : Same (Hid F Δ H) (Hid F ((p, LOR ((xs.filter pr).map f)) :: Δ) H2) := fun a u e => by
          have e' := hide_le _ _ e
          have ne : a ≠ p := ne_of_none e' hp
          have na : a ∉ dom Δ ++ F.M := fun z => by
            rw [show Hid F Δ H a = none from hide_in z] at e; cases e
          show Hide (p :: (dom Δ ++ F.M)) _ a = _
          rw [hide_out (by intro z; rcases List.mem_cons.mp z with z | z; exact ne z; exact na z)]
          exact e2 _ _ e'
        have h0 : F.H0 p = none := s.ex.free hp
        refine ⟨s.ex.trans e2, fun q hq => ?_, s.lv, List.nodup_cons.mpr ⟨fun z => s.new hp (List.mem_append_left _ z), s.nd⟩, fun q hq => ?_, fun g hg => g.2.m up (s.gh g hg), s.sl.mono up⟩
        · rcases List.mem_cons.mp hq with z | z
          · rw [z]; exact h0
          · exact s.fr q z
        · rcases List.mem_cons.mp hq with z | z
          · subst z; exact ⟨_, h2, ys, rfl, ha, hz⟩
          · obtain ⟨u, c, d⟩ := s.ow q z
            exact ⟨u, e2 _ _ c, q.2.m up d⟩
      exact s1.set (R := Vl (.ref p)) rfl i⟩) (ba_ex hr)
/-- data out of data, no test -/
theorem map_D {g : α → PyData} {K : PySem.W.Frag} : ((xs.filter fun _ => true).map fun x => D K (g x)) = (xs.map g).map (D K) := by
  rw [List.filter_eq_self.mpr fun _ _ => rfl, List.map_map]; rfl
theorem filter_D {g : α → PyData} {K : PySem.W.Frag} : ((xs.filter pr).map fun x => D K (g x)) = ((xs.filter pr).map g).map (D K) := by
  rw [List.map_map]; rfl
end
end Fr
set_option Elab.async false
set_option linter.all false
set_option maxRecDepth 100000
/-! Lay6: instances, their making, own operators; isinstance. -/
namespace Fr
open PySem PySem.Spec PySem.Calls L2
abbrev Fds := List (Str × RP)
abbrev vls (fs : Fds) (vs : List V) : List (Str × V) := (fs.map (·.1)).zip vs
/-- an instance of the class at C, frozen -/
def InR (C : Addr) (fs : Fds) : RP where
  r := fun G v => ∃ a dx vs, v = .ref a ∧ G a = some (.ins C dx (vls fs vs)) ∧ AllR G vs (fs.map (·.2))
  m := fun e h => by
    obtain ⟨a, dx, vs, h1, h2, h3⟩ := h
    exact ⟨a, dx, vs, h1, e _ _ h2, AllR.mono e h3⟩
/-- an instance that is owned -/
def InO (C dx : Addr) (fs : Fds) : OP where
  r := fun G o => ∃ vs, o = .ins C dx (vls fs vs) ∧ AllR G vs (fs.map (·.2))
  m := fun e h => by
    obtain ⟨vs, h1, h2⟩ := h
    exact ⟨vs, h1, AllR.mono e h2⟩
theorem vls_look {G : Hp} {f : Str} {R : RP} : ∀ {fs : Fds} {vs : List V}, AllR G vs (fs.map (·.2)) → fs.lookup f = some R → ∃ v, (vls fs vs).lookup f = some v ∧ R.r G v
  | [], _, _, h => by cases h
  | (g, R') :: fs, [], h, _ => h.elim
  | (g, R') :: fs, v :: vs, h, e => by
    show ∃ w, ((g, v) :: vls fs vs).lookup f = some w ∧ _
    rw [List.lookup_cons] at e ⊢
    cases hb : f == g with
    | true =>
      rw [hb] at e
      cases e
      exact ⟨v, rfl, h.1⟩
    | false =>
      rw [hb] at e
      exact vls_look h.2 e
theorem putF_new {f : Str} {y : V} : ∀ {fs : Fds} {vs : List V}, vs.length = fs.length → f ∉ fs.map (·.1) → putF f y (vls fs vs) = ((fs.map (·.1)) ++ [f]).zip (vs ++ [y])
  | [], [], _, _ => rfl
  | (g, R) :: fs, [], h, _ => by simp at h
  | [], v :: vs, h, _ => by simp at h
  | (g, R) :: fs, v :: vs, h, n => by
    have ne : g ≠ f := fun e => n (by rw [e]; simp)
    show putF f y ((g, v) :: vls fs vs) = (g, v) :: ((fs.map (·.1)) ++ [f]).zip (vs ++ [y])
    have ih := putF_new (f := f) (y := y) (fs := fs) (vs := vs) (by simpa using h) (fun z => n (List.mem_cons_of_mem _ z))
    rw [← ih]
    conv => lhs; unfold putF
    exact if_neg ne
section
variable {X : Cx} {F : Fm} {Γ Γ' Γ2 : Gam} {Δ Δ' : Del} {e a b c tg o : Expr} {es : List Expr} {rest body : List Stmt} {pos p' pos' : Pos} {R R' : RP} {P : Ends} {p C dx : Addr} {Rs As : List RP} {fs : Fds} {f : Str} {k : Nat}
theorem ev_fld (he : EV X F Γ Δ e (InR C fs)) (T : Cls X.K C) (hn : NoAttr X.K C f) (hl : fs.lookup f = some R) (hb : attributeBase e f X.env (eval e X.env) = eval e X.env := by rfl) : EV X F Γ Δ (.Attribute e f pos) R :=
  pe_imp (pe_fld he hb) fun σ H Q ⟨s, k⟩ => ⟨s, fun v H1 e1 r1 => by
    obtain ⟨a, dx, vs, rfl, h1, h2⟩ := r1
    obtain ⟨w, l, rw'⟩ := vls_look h2 hl
    exact ⟨a, C, dx, _, w, rfl, hide_le _ _ h1, T, hn, l, k _ H1 e1 rw'⟩⟩
theorem ev_fldO (he : EV X F Γ Δ e (Vl (.ref p))) (hk : Δ[k]? = some (p, InO C dx fs)) (T : Cls X.K C) (hn : NoAttr X.K C f) (hl : fs.lookup f = some R) (hb : attributeBase e f X.env (eval e X.env) = eval e X.env := by rfl) : EV X F Γ Δ (.Attribute e f pos) R :=
  pe_imp (pe_fld he hb) fun σ H Q ⟨s, q⟩ => ⟨s, fun v H1 e1 r1 => by
    have r1 : v = .ref p := r1
    subst r1
    obtain ⟨o, h1, vs, rfl, h2⟩ := (s.mono e1).at hk
    obtain ⟨w, l, rw'⟩ := vls_look h2 hl
    exact ⟨p, C, dx, _, w, rfl, h1, T, hn, l, q _ H1 e1 rw'⟩⟩
/-- o.f = e, f new -/
theorem b_fld (he : EV X F Γ Δ e R) (ho : EV X F Γ Δ o (Vl (.ref p))) (hk : Δ[k]? = some (p, InO C dx fs)) (T : Cls X.K C) (hn : NoAttr X.K C f) (hf : f ∉ fs.map (·.1)) (hz : fs.length < 1000) (h : BK X F Γ (Δ.set k (p, InO C dx (fs ++ [(f, R)]))) rest P)
    (hs : swapsWith e (some (.Attribute o f pos')) pos.line X.env = pure false := by rfl) : BK X F Γ Δ (.Assign [.Attribute o f pos'] e pos :: rest) P :=
  ba_seq (ps_fld ho he hs) (fun D σ H s ple => ⟨s, fun v H1 e1 r1 => ⟨s.mono e1, fun w H2 e2 r2 => by
    have r2 : w = .ref p := r2
    subst r2
    have s2 := (s.mono e1).mono e2
    obtain ⟨o', h1, vs, rfl, h2⟩ := s2.at hk
    have hl : vs.length = fs.length := by have := h2.len; rwa [List.length_map] at this
    refine ⟨p, C, dx, _, rfl, h1, T, hn, by
      show ((fs.map (·.1)).zip vs).length < 1000
      rw [List.length_zip, List.length_map, hl, Nat.min_self]; exact hz, ple.1 _ _ (s2.wrk hk ⟨vs ++ [v], ?_, ?_⟩)⟩
    · rw [putF_new hl hf]
      show HO.ins C dx _ = HO.ins C dx (((fs ++ [(f, R)]).map (·.1)).zip (vs ++ [v]))
      rw [List.map_append]; rfl
    · rw [List.map_append]
      exact AllR.app h2 ⟨R.m (hide_mono e2) r1, trivial⟩⟩⟩) h
end

/-! ### __init__ -/
structure IS (α : Type) where
  arg : α → List RP
  pre : α → Prop
  fds : α → Fds
def IS.sp {α : Type} (S : IS α) (C : Addr) (n : Nat) : Sp := fun vs H Q _ => ∃ (y : α) (M : List Addr) (x dx : Addr) (us : List V), vs = .ref x :: us ∧ vs.length = n ∧ H x = some (.ins C dx []) ∧ x ∉ M ∧ Live M H ∧ AllR (Hide (x :: M) H) us (S.arg y) ∧ S.pre y ∧
  ∀ H' ws, (∀ b o, b ≠ x → H b = some o → H' b = some o) → H' x = some (.ins C dx (vls (S.fds y) ws)) → AllR (Hide (x :: M) H') ws ((S.fds y).map (·.2)) → Q .non H'
/-- a class at hand, with what its __init__ does -/
structure Dc (P : Program) (w : World) (K : PySem.W.Frag) (mg : Str → Option Value) (base : Heap) (x : Str) (C : Addr) (k n : Nat) (dvs : List V) {α : Type} (S : IS α) : Prop where
  ex : ∃ (f : Addr) (fd : FuncData) (ps : List Str) (ds : List Value), Mk K C f ∧ FnOk P w K mg base CX0 k f fd ps (S.sp C n) ∧ mg x = some (.ref C) ∧ Binds K fd ps ds ∧ Vals dvs ds
def ini (H : Hp) (x : Addr) : Hp := Hide [x] H
def initP (H : Hp) (M : List Addr) (C x dx : Addr) (fs : Fds) : Ends := { nx := fun _ H' => Same (ini H x) H' ∧ ∃ ws, H' x = some (.ins C dx (vls fs ws)) ∧ AllR (Hide (x :: M) H') ws (fs.map (·.2)), rt := fun _ _ => False }
section
variable {P : Program} {w : World} {K : PySem.W.Frag} {mg : Str → Option Value} {base : Heap}
theorem IS.ok {α : Type} (S : IS α) {x qual : Str} {st : Stmt} {f C : Addr} {fd : FuncData} {N ps : List Str} {k n : Nat} (Fn : Fun K x qual st f fd) (Sc : FnScope N ps (defScope st)) (hn : ps.length = n)
    (hb : ∀ (cdv : Value) (A : Around) (outer : List Env) (s : Shared) (H : Hp) (E : XK) (M : List Addr) (y : α) (p dx : Addr), Room k (A.deeper (PyProof.Rows.envOfC qual (defScope st) s.heap.objs.size f cdv)) → S.pre y →
      BK (cxOf CX0 P w K mg base N qual (defScope st) f cdv A outer s H E).nox ⟨ini H p, M, []⟩ (some (Vl (.ref p)) :: argsG (S.arg y) (N.length - 1)) [(p, InO C dx [])] (defBody st) (initP H M C p dx (S.fds y))) : FnOk P w K mg base CX0 (k + 1) f fd ps (S.sp C n) := by
  refine Fn.ok Sc (fun vs H Q E h => ?_) (fun cdv A outer s H vs Q E hr h => ?_)
  · obtain ⟨_, _, _, _, _, _, h, _⟩ := h
    rw [h, hn]
  · obtain ⟨y, M, p, dx, us, rfl, _, hx, hxM, hl, ha, hp, hq⟩ := h
    have hH : ini H p p = none := hide_in (List.mem_cons_self ..)
    refine ⟨_, hb cdv A outer s H E M y p dx hr hp, ⟨hide_le, fun q hq' => ?_, fun q hq' => ?_, ?_, fun q hq' => ?_, fun g z => absurd (show g ∈ ([] : List (V × RP)) from z) (by simp), ?_⟩, fun σ H' z => ?_, fun _ _ z => z.elim, fun _ _ z => z.elim, fun _ _ z => z.elim⟩
    · have e : q = p := by simpa using hq'
      rw [e]; exact hH
    · obtain ⟨o, e⟩ := hl q hq'
      refine ⟨o, ?_⟩
      have ne : q ≠ p := fun z => hxM (z ▸ hq')
      show Hide [p] H q = _
      rw [hide_out (by simpa using ne)]; exact e
    · show [p].Nodup
      simp
    · have e : q = (p, InO C dx []) := by simpa using hq'
      subst e
      exact ⟨_, hx, [], rfl, trivial⟩
    · show Slots _ (L2.start N (V.ref p :: us)) _
      unfold L2.start
      refine ⟨⟨_, rfl, rfl⟩, ?_⟩
      have e : N.length - (V.ref p :: us).length = (N.length - 1) - (S.arg y).length := by
        have := ha.len
        simp only [List.length_cons]
        omega
      rw [e]
      exact slots_args _ ha
    · obtain ⟨z1, ws, z2, z3⟩ := z
      exact hq H' ws (fun b o hb' e => z1 b o (by
        show Hide [p] H b = _
        rw [hide_out (by simpa using hb')]; exact e)) z2 z3
end
section
variable {X : Cx} {F : Fm} {Γ Γ' : Gam} {Δ : Del} {e : Expr} {es : List Expr} {pos p : Pos} {R : RP} {C : Addr} {As : List RP} {K : PySem.W.Frag}
theorem b_initEnd {H : Hp} {M : List Addr} {x dx : Addr} {fs : Fds} {P : Ends} (hF : F = ⟨ini H x, M, []⟩) (hP : P = initP H M C x dx fs) (hΔ : Δ = [(x, InO C dx fs)]) : BK X F Γ Δ [] P := b_nil fun σ H' s => by
  subst hF hP hΔ
  refine ⟨s.ex, ?_⟩
  obtain ⟨o, h1, ws, rfl, h2⟩ := s.at (k := 0) rfl
  exact ⟨ws, h1, h2⟩
/-- C(e, ..) -/
theorem ev_make {α : Type} {S : IS α} {x : Str} {k n : Nat} {dvs : List V} (y : α) (G : Dc X.prog X.w X.K X.mg X.base x C k n dvs S) (hr : Room (k + 1) X.A) (ha : EA X F Γ Δ (e :: es) As) (hn : As.length + dvs.length + 1 = n)
    (hd : ∀ G vs, AllR G vs As → AllR G (vs ++ dvs) (S.arg y)) (hp : S.pre y) (hg : Gl X x := by rfl)
    (hdb : (x == ("__debug__" : Str)) = false := by decide) (he : starEach (e :: es) X.env = (false, eval e X.env) :: starEach es X.env := by rfl) (hpl : (backTo pos (starEach es X.env)).any (·.1) = false := by rfl) : EV X F Γ Δ (.Call (.Name x p) (e :: es) [] pos) (InR C (S.fds y)) := by
  obtain ⟨f, fd, ps, ds, M, ok, hm, hb, hv⟩ := G.ex
  refine pe_imp (pe_make M ok hr hg hm hb hv pass0 ha hdb he hpl) fun σ H Q ⟨s, q⟩ => ⟨s, fun vs H1 e1 r1 x dx hx hdx hne => ?_⟩
  have s1 := s.mono e1
  have nx : x ∉ dom Δ ++ F.M := s1.new hx
  have ndx : dx ∉ dom Δ ++ F.M := s1.new hdx
  have st : Same H1 (upd (upd H1 dx (.own x)) x (.ins C dx [])) := fun b o h => by
    rw [upd_ne (ne_of_none h hx), upd_ne (ne_of_none h hdx)]; exact h
  have up : Same (Hid F Δ H1) (Hide (x :: (dom Δ ++ F.M)) (upd (upd H1 dx (.own x)) x (.ins C dx []))) := fun b o h => by
    have h' := hide_le _ _ h
    have nb : b ≠ x := ne_of_none h' hx
    have na : b ∉ dom Δ ++ F.M := fun z => by rw [show Hid F Δ H1 b = none from hide_in z] at h; cases h
    rw [hide_out (by intro z; rcases List.mem_cons.mp z with z | z; exact nb z; exact na z)]
    exact st b o h'
  refine ⟨y, dom Δ ++ F.M, x, dx, vs ++ dvs, rfl, ?_, upd_same, nx, fun p hp => ?_, hd _ _ (AllR.mono up r1), hp, fun H' ws k1 k2 k3 => ⟨rfl, q _ H' (e1.trans fun b o h => k1 b o (ne_of_none h hx) (st b o h)) ?_⟩⟩
  · rw [List.length_cons, List.length_append, r1.len]; omega
  · obtain ⟨o, h⟩ := s1.live hp
    exact ⟨o, st _ _ h⟩
  · refine ⟨x, dx, ws, rfl, ?_, AllR.mono (hide_sub fun a h => List.mem_cons_of_mem _ h) k3⟩
    show Hide _ _ x = _
    rw [hide_out nx]
    exact k2
end

/-! ### own operators -/
section
variable {X : Cx} {F : Fm} {Γ Γ' : Gam} {Δ : Del} {e a b : Expr} {pos p : Pos} {R : RP} {C : Addr}
def rOwn (C : Addr) (sp : Sp) : R2 := fun x y H Q => ∃ p q dx dy fs gs, x = .ref p ∧ y = .ref q ∧ H p = some (.ins C dx fs) ∧ H q = some (.ins C dy gs) ∧ sp [x, y] H Q E0
theorem op_own {op : Operator} {f : Addr} {fd : FuncData} {ps : List Str} {k : Nat} {sp : Sp} (ok : FnOk X.prog X.w X.K X.mg X.base CX0 k f fd ps sp) (hr : Room k X.A) (hb : Binds X.K fd ps []) (T : Cls X.K C) (hsf : PySem.W.selfFirst X.K C = true)
    (hm : PySem.W.findIn X.K (.ref C) (PySem.dunder op.info.2) = some (some (.ref f))) (hfn : PySem.W.isFn X.K (.ref f) = true) : OpR X (binaryOp op) (rOwn C sp) := by
  intro pins s σ H x y v u Q I rx ry h
  obtain ⟨p, q, dx, dy, fs, gs, rfl, rfl, hp, hq, h⟩ := h
  obtain rfl : v = Value.ref p := rx
  obtain rfl : u = Value.ref q := ry
  obtain ⟨mA, O, _⟩ := ins_get I.hok hp
  obtain ⟨od, J, _⟩ := O.look
  obtain ⟨mB, O2, _⟩ := ins_get I.hok hq
  obtain ⟨od2, J2, _⟩ := O2.look
  obtain ⟨m, fr⟩ := I.fr
  refine PySem.W.binop_K (b := .ref q) fr I.ok.mod.kin J J2.type hsf hm hfn ?_
  refine thn (run_fn (us := [.ref p, .ref q]) (vs := [.ref p, .ref q]) ok hr hb .nil pass0 I (.cons rfl (.cons rfl .nil)) (by rw [List.append_nil]; exact h)) fun r s' hr' => ?_
  obtain ⟨z, H', I', rz, qz⟩ := hr'
  have : EP X pins σ Q r s' := ⟨z, H', I', rz, qz⟩
  cases z with
  | non => cases (show r = Value.none from rz); exact this
  | bl b => cases (show r = Value.bool b from rz); exact this
  | int i => obtain ⟨t, rfl⟩ := (show ∃ t, r = Value.int i t from rz); exact this
  | str i => obtain ⟨t, rfl⟩ := (show ∃ t, r = Value.str i t from rz); exact this
  | byt i => obtain ⟨t, rfl⟩ := (show ∃ t, r = Value.bytes i t from rz); exact this
  | flt i => obtain ⟨t, rfl⟩ := (show ∃ t, r = Value.float i t from rz); exact this
  | ref i => cases (show r = Value.ref i from rz); exact this
  | ty i => cases (show r = Value.type i from rz); exact this
theorem ev_own {op : Operator} {f : Addr} {fd : FuncData} {ps : List Str} {k : Nat} {α : Type} {S : FS α} {fs gs : Fds} (y : α) (ok : FnOk X.prog X.w X.K X.mg X.base CX0 k f fd ps (S.sp 2)) (hr : Room k X.A) (hb : Binds X.K fd ps []) (T : Cls X.K C) (hsf : PySem.W.selfFirst X.K C = true)
    (hm : PySem.W.findIn X.K (.ref C) (PySem.dunder op.info.2) = some (some (.ref f))) (hfn : PySem.W.isFn X.K (.ref f) = true) (ha : EV X F Γ Δ a (InR C fs)) (hb' : EV X F Γ Δ b (InR C gs)) (hS : S.arg y = [InR C fs, InR C gs]) (hp : S.pre y) : EV X F Γ Δ (.BinOp a op b pos) (S.res y) :=
  ev_op (op_own ok hr hb T hsf hm hfn) ha hb' fun σ H x z s rx rz Q q => by
    obtain ⟨p, dx, vs, rfl, h1, h2⟩ := id rx
    obtain ⟨p2, dx2, vs2, rfl, h3, h4⟩ := id rz
    refine ⟨p, p2, dx, dx2, _, _, rfl, rfl, hide_le _ _ h1, hide_le _ _ h3, y, dom Δ ++ F.M, rfl, fun p hp => s.live hp, ?_, hp, fun v H' e1 r => q v H' e1 r⟩
    rw [hS]
    exact ⟨rx, rz, trivial⟩
end
end Fr
set_option Elab.async false
set_option linter.all false
set_option maxRecDepth 100000
set_option maxHeartbeats 2000000
/-! Lay7: enumerate over a tuple; zip of a tuple and a list. -/
namespace Fr
open PySem PySem.Spec PySem.Calls PyProof.Rows L2
set_option maxHeartbeats 1000000 in
theorem meets_enumerate_newT (l : Addr) (items : Array Value) (n : Nat) (dct : Option Addr) (sl : Array (Option Value)) :
    Meets (Builtin.«enumerate.__new__» ⟨[.type "enumerate", .ref l], []⟩) (fun _ R s => s.heap.get? l = some { cls := .type "tuple", dict := dct, data := .seq items n, slots := sl } ∧
      R (.ok (.ret (.ref (s.heap.push { cls := .type "tuple_iterator", data := .fields #[.ref l, .int 0 0] }).objs.size)))
        { s with heap := (s.heap.push { cls := .type "tuple_iterator", data := .fields #[.ref l, .int 0 0] }).push { cls := .type "enumerate", data := .fields #[.none, .bool false, .ref s.heap.objs.size, rawInt 0, .none, .none] } }) :=
  .of_wp fun prog w A R s h => by
    obtain ⟨hp, g, d, tk, os⟩ := s; obtain ⟨hl, h⟩ := h
    have hsub := sub_enumerate
    have hL : Heap.IsTuple (Shared.heap ⟨hp, g, d, tk, os⟩) l items := ⟨_, hl, rfl, n, rfl⟩
    wp_walk using AutoSeq1.wpAny_loadPart' hl
    refine wpAny_stack_any fun st => wpAny_pure ?_
    split
    · rename_i c _ _ _ _ _
      cases (c == Value.type "enumerate")
      · wp_walk using AutoSeq1.wpAny_loadPart' hl, wpAny_pyIter_tuple hL
        exact ⟨_, rfl, h⟩
      · wp_walk using AutoSeq1.wpAny_loadPart' hl, wpAny_pyIter_tuple hL
        exact ⟨_, rfl, h⟩
    · wp_walk using AutoSeq1.wpAny_loadPart' hl, wpAny_pyIter_tuple hL
      exact ⟨_, rfl, h⟩
theorem call_enumerate_tup {prog : Program} {w : World} {A : Around} {E : Value → Shared → Prop} {s : Shared} {l : Addr} {items : Array Value} {Q : Value → Shared → Prop} (hL : s.heap.IsTuple l items)
    (h : ∀ h', IsEnum h' (s.heap.objs.size + 1) s.heap.objs.size 0 .none → h'.IsTupleIter s.heap.objs.size l 0 → h'.objs.size = s.heap.objs.size + 2 →
      (∀ b o, s.heap.get? b = some o → h'.get? b = some o) → Q (.ref (s.heap.objs.size + 1)) { s with heap := h' }) :
    wpAny (model prog w) A (call (.type "enumerate") [.ref l]) Q E s := by
  obtain ⟨⟨c, dct, dt, sl⟩, hl, hc, n, hd⟩ := hL
  replace hc : c = .type "tuple" := hc
  replace hd : dt = .seq items n := hd
  subst hc hd
  refine callType_new F.called_enumerate (by decide) (F.typeCall_enumerate_1 _) (F.newCall_enumerate_1 _) (fun obj => F.args_object_init_2 obj _) F.entry_enumerate_new
    (meets_enumerate_newT l items n dct sl) ⟨hl, ?_⟩
  have hz : (s.heap.push { cls := .type "tuple_iterator", data := .fields #[.ref l, .int 0 0] }).objs.size = s.heap.objs.size + 1 := Heap.size_push ..
  show _ ∧ _
  rw [hz]
  have he : IsEnum ((s.heap.push { cls := .type "tuple_iterator", data := .fields #[.ref l, .int 0 0] }).push
      { cls := .type "enumerate", data := .fields #[.none, .bool false, .ref s.heap.objs.size, rawInt 0, .none, .none] }) (s.heap.objs.size + 1) s.heap.objs.size 0 .none := by
    have := Heap.get?_push_size (s.heap.push { cls := .type "tuple_iterator", data := .fields #[.ref l, .int 0 0] })
      (o := { cls := .type "enumerate", data := .fields #[.none, .bool false, .ref s.heap.objs.size, rawInt 0, .none, .none] }) rfl
    rw [hz] at this; exact this
  refine ⟨⟨_, he, rfl⟩, h _ he ⟨_, Heap.get?_push_of_some _ (Heap.get?_push_size _ rfl), rfl, rfl⟩ (by rw [Heap.size_push, hz]) fun b o x => Heap.get?_push_of_some _ (Heap.get?_push_of_some _ x)⟩
/-- the tuple at a, each item in a new pair with its number -/
def IteT (K : PySem.W.Frag) (a : Addr) : It :=
  ⟨fun i H => ∃ (xs : List V) (x : V), SqT K H a xs ∧ xs[i]? = some x, fun i H v H' => ∃ T x, v = .ref T ∧ H T = none ∧ H' = upd H T (.tup [.int (i : Nat), x]) ∧ ∀ xs, SqT K H a xs → xs[i]? = some x, fun i H => ∃ xs : List V, SqT K H a xs ∧ xs.length = i⟩
theorem turn_enumT {P : Program} {w : World} {K : PySem.W.Frag} {elts : List Expr} {kk : Nat} {tpos : Pos} (a e it : Addr) (hae : a ≠ e) (hai : a ≠ it) :
    Turn P w K (.Tuple elts kk tpos) (IteT K a) [e, it] e (fun i h => (∃ old, IsEnum h e it ((i : Nat) : Int) old) ∧ h.IsTupleIter it a i ∧ e ≠ it) where
  mem := by simp
  obj := fun i h st b hb => by
    obtain ⟨⟨old, he⟩, ⟨o, ho, hc, hd⟩, _⟩ := st
    have e' : b = e ∨ b = it := by simpa using hb
    rcases e' with z | z
    · rw [z]; exact ⟨_, he, fun v q => nomatch q⟩
    · rw [z]; exact ⟨o, ho, fun v q => by rw [hd] at q; cases q⟩
  keep := fun i h h' st k => let ⟨⟨old, he⟩, hi, hne⟩ := st; ⟨⟨old, k e (by simp) _ he⟩, hi.at fun o q => k it (by simp) o q, hne⟩
  item := by
    intro X hP hw hK hc i pins s σ H E I hf st hg
    subst hP hw hK
    obtain ⟨⟨old, he⟩, hit, hne⟩ := st
    obtain ⟨xs, x, hq, hx⟩ := hg
    obtain ⟨its, rv, p, hz⟩ := I.tuple hq
    obtain ⟨u, hu, ru⟩ := rv.get hx
    have hel : e < s.heap.objs.size := Heap.lt_size he
    have hil : it < s.heap.objs.size := by obtain ⟨_, q, _⟩ := hit; exact Heap.lt_size q
    have hlt : i < its.toArray.size := by
      have := (List.getElem?_eq_some_iff.mp hu).1
      simpa using this
    refine wpAny_pyNext_enum_itemC (Draws.tuple (prog := X.prog) (w := X.w) (A := X.A.in1) (I.ok.hd hc) it a hai its.toArray) he ⟨hit, p⟩ hlt hne (by simp; exact ⟨hne, Ne.symm hae⟩) fun x' h' tk hx' ho st' hT hsz hk => ?_
    have e1 : x' = u := by
      have h1 : its[i]? = some x' := by simpa using hx'
      rw [hu] at h1; cases h1; rfl
    subst e1
    refine ⟨_, rfl, wpAny_letOwnedTupleGo_enum (s := { s with heap := h', toks := tk + 1 }) ho fun h'' he' sb => ?_⟩
    have hT2 : h''.get? s.heap.objs.size = some { cls := .type "tuple", data := .seq #[.int i tk, x'] } := (sb.2 _ (Nat.ne_of_gt hel)).trans hT
    have new : ObjOk X.prog X.w (upd H s.heap.objs.size (.tup [.int (i : Nat), x])) h'' s.heap.objs.size (.tup [.int (i : Nat), x]) :=
      ⟨by show 2 ≤ sizeLine; decide, [.int i tk, x'], .cons ⟨_, rfl⟩ (.cons ru .nil), ⟨_, hT2, rfl, _, rfl⟩⟩
    have I1 : Inv X pins σ (upd H s.heap.objs.size (.tup [.int (i : Nat), x])) { s with heap := h'', toks := tk + 1 } :=
      I.turnedNew (ch := [e, it]) (fun b ob hb q => (sb.2 b (fun z => hb (by simp [z]))).trans (hk b ob (fun z => hb (by simp [z])) (fun z => hb (by simp [z])) q)) hf (Nat.le_refl _) new
    refine ⟨.ref s.heap.objs.size, _, I1, rfl, ⟨_, x, rfl, I.hok.fresh (Nat.le_refl _), rfl, fun ys hy => by rw [I.tuple_inj hy hq]; exact hx⟩, ⟨⟨x', ?_⟩, st'.1.at fun o q => (sb.2 it (Ne.symm hne)).trans q, hne⟩, fun b hb => ?_⟩
    · have e1 : ((i + 1 : Nat) : Int) = (i : Int) + 1 := by omega
      rw [e1]; exact he'
    · have hb' : b < s.heap.objs.size := by
        have e' : b = e ∨ b = it := by simpa using hb
        rcases e' with z | z
        · rw [z]; exact hel
        · rw [z]; exact hil
      rw [upd_ne (Nat.ne_of_lt hb')]
      exact (hf b hb).1
  done := by
    intro X hP hw hK hc i pins s σ H E I hf st hg
    subst hP hw hK
    obtain ⟨⟨old, he⟩, hit, hne⟩ := st
    obtain ⟨xs, hq, hx⟩ := hg
    obtain ⟨its, rv, p, hz⟩ := I.tuple hq
    obtain ⟨f0, f1, f2, f3, f4, f5⟩ := hf it (by simp)
    have hl := rv.length
    have hi : i = its.toArray.size := by simp; omega
    subst hi
    exact wpAny_pyNext_enum_endD (Draws.tuple (prog := X.prog) (w := X.w) (A := X.A.in1) (I.ok.hd hc) it a hai its.toArray) he ⟨hit, p⟩ fun h' eb => ⟨rfl, I.turned (t' := s.toks) (fun b o hb q => eb b o hb q) f0 f1 f3 f4 f5⟩
  self := fun A i s Q E st h => let ⟨⟨_, he⟩, _⟩ := st; wpAny_pyIter_enum he h
def iEnumT (K : PySem.W.Frag) (ta : TA) : TI := fun σ H R => ta σ H fun vs H1 => ∃ a xs, vs = [.ref a] ∧ SqT K H1 a xs ∧ R (IteT K a) H1
theorem pi_enumT {X : Cx} {e : Expr} {ta : TA} {p pos tpos : Pos} {elts : List Expr} {kk : Nat} (hg : Gl X "enumerate") (hm : X.mg "enumerate" = none) (ha : PA X [e] ta) (hs : starEach [e] X.env = [(false, eval e X.env)] := by rfl) :
    PI X (.Tuple elts kk tpos) (.Call (.Name "enumerate" p) [e] [] pos) (iEnumT X.K ta) := by
  refine ⟨fun pins s σ H R I h => ?_⟩
  refine Call_ (ld_blt I hg hm boot_enumerate (PyProof.Rows.callWith_type1 (thn (ha.run pos pins s σ H _ I h) fun us s1 ⟨vs, H1, I1, r1, q1⟩ => ?_) hs rfl))
  obtain ⟨a, xs, ex, hq, q⟩ := q1
  subst ex
  cases r1 with
  | cons r rr =>
    cases rr
    cases r
    obtain ⟨its, rv, p', hz⟩ := I1.tuple hq
    have hal : a < s1.heap.objs.size := by obtain ⟨o, ho, _⟩ := id p'; exact Heap.lt_size ho
    refine call_enumerate_tup (show s1.heap.IsTuple a its.toArray from p') fun h' he hit hsz hk => wpAny_pyIter_enum he ?_
    have I2 : Inv X pins σ H1 { s1 with heap := h' } := I1.kept (t' := s1.toks) hk
    refine ⟨s1.heap.objs.size + 1, [s1.heap.objs.size + 1, s1.heap.objs.size], _, _, H1, rfl, I2, turn_enumT a (s1.heap.objs.size + 1) s1.heap.objs.size (Nat.ne_of_lt (Nat.lt_succ_of_lt hal)) (Nat.ne_of_lt hal), ⟨⟨.none, he⟩, hit, Nat.succ_ne_self _⟩, fun b hb => ?_, q⟩
    have e' : b = s1.heap.objs.size + 1 ∨ b = s1.heap.objs.size := by simpa using hb
    have hle : s1.heap.objs.size ≤ b := by
      rcases e' with z | z
      · rw [z]; exact Nat.le_add_right _ _
      · rw [z]; exact Nat.le_refl _
    exact I1.fpOk hle (I1.hok.fresh hle)

/-! ### zip of a tuple and a list -/
def ItzM (K : PySem.W.Frag) (a b : Addr) : It :=
  ⟨fun i H => ∃ (xs ys : List V) (x y : V), SqT K H a xs ∧ SqL K H b ys ∧ xs[i]? = some x ∧ ys[i]? = some y,
    fun i H v H' => ∃ T x y, v = .ref T ∧ H T = none ∧ H' = upd H T (.tup [x, y]) ∧ (∀ xs, SqT K H a xs → xs[i]? = some x) ∧ ∀ ys, SqL K H b ys → ys[i]? = some y,
    fun i H => ∃ xs ys : List V, SqT K H a xs ∧ SqL K H b ys ∧ i ≤ xs.length ∧ i ≤ ys.length ∧ (xs.length = i ∨ ys.length = i)⟩
theorem turn_zipM {P : Program} {w : World} {K : PySem.W.Frag} {elts : List Expr} {kk : Nat} {tpos : Pos} {a b z TI TO i1 i2 : Addr} (S : ZipSep2 z TI TO i1 i2 [i1, a] [i2, b]) (h1a : a ≠ i1) (h2b : b ≠ i2) :
    Turn P w K (.Tuple elts kk tpos) (ItzM K a b) [z, TI, TO, i1, i2] z (fun i h => IsZip h z TI TO .none ∧ IsTupOf2 h TI (.ref i1) (.ref i2) ∧ (∃ x y, IsTupOf2 h TO x y) ∧ h.IsTupleIter i1 a i ∧ h.IsListIter i2 b i) where
  mem := by simp
  obj := fun i h st c hc => by
    obtain ⟨hz, hTI, ⟨x, y, hTO⟩, ⟨o1, e1, _, d1⟩, ⟨o2, e2, _, d2⟩⟩ := st
    have e' : c = z ∨ c = TI ∨ c = TO ∨ c = i1 ∨ c = i2 := by simpa using hc
    rcases e' with q | q | q | q | q
    · rw [q]; exact ⟨_, hz, fun v q => nomatch q⟩
    · rw [q]; exact ⟨_, hTI, fun v q => nomatch q⟩
    · rw [q]; exact ⟨_, hTO, fun v q => nomatch q⟩
    · rw [q]; exact ⟨o1, e1, fun v q => by rw [d1] at q; cases q⟩
    · rw [q]; exact ⟨o2, e2, fun v q => by rw [d2] at q; cases q⟩
  keep := fun i h h' st k => by
    obtain ⟨hz, hTI, ⟨x, y, hTO⟩, h1, h2⟩ := st
    exact ⟨k z (by simp) _ hz, k TI (by simp) _ hTI, ⟨x, y, k TO (by simp) _ hTO⟩, h1.at fun o q => k i1 (by simp) o q, h2.at fun o q => k i2 (by simp) o q⟩
  item := by
    intro X hP hw hK hc i pins s σ H E I hf st hg
    subst hP hw hK
    obtain ⟨hz, hTI, ⟨x0, y0, hTO⟩, h1, h2⟩ := st
    obtain ⟨xs, ys, x, y, hqx, hqy, hx, hy⟩ := hg
    obtain ⟨its, rv, p, _⟩ := I.tuple hqx
    obtain ⟨its2, rv2, p2, _⟩ := I.list hqy
    obtain ⟨u, hu, ru⟩ := rv.get hx
    obtain ⟨u2, hu2, ru2⟩ := rv2.get hy
    have hzl : z < s.heap.objs.size := Heap.lt_size hz
    have hl1 : i < its.toArray.size := by have := (List.getElem?_eq_some_iff.mp hu).1; simpa using this
    have hl2 : i < its2.toArray.size := by have := (List.getElem?_eq_some_iff.mp hu2).1; simpa using this
    refine wpAny_pyNext_zipD2_item S (Draws.tuple (prog := X.prog) (w := X.w) (A := X.A.in1) (I.ok.hd hc) i1 a h1a its.toArray) (Draws.list (prog := X.prog) (w := X.w) (A := X.A.in1) (I.ok.hd hc) i2 b h2b its2.toArray) hz hTI hTO ⟨h1, p⟩ ⟨h2, p2.isList⟩ hl1 hl2
      fun x1 x2 h' tk hx1 hx2 z' TO' st1 st2 hT hsz hk => ?_
    have e1 : x1 = u := by
      have h1 : its[i]? = some x1 := by simpa using hx1
      rw [hu] at h1; cases h1; rfl
    have e2 : x2 = u2 := by
      have h1 : its2[i]? = some x2 := by simpa using hx2
      rw [hu2] at h1; cases h1; rfl
    subst e1 e2
    refine ⟨_, rfl, wpAny_letOwnedTupleGo_zip (s := { s with heap := h', toks := tk }) z' fun h'' z'' sb => ?_⟩
    have hT2 : h''.get? s.heap.objs.size = some { cls := .type "tuple", data := .seq #[x1, x2] } := (sb.2 _ (Nat.ne_of_gt hzl)).trans hT
    have new : ObjOk X.prog X.w (upd H s.heap.objs.size (.tup [x, y])) h'' s.heap.objs.size (.tup [x, y]) :=
      ⟨by show 2 ≤ sizeLine; decide, [x1, x2], .cons ru (.cons ru2 .nil), ⟨_, hT2, rfl, _, rfl⟩⟩
    have I1 : Inv X pins σ (upd H s.heap.objs.size (.tup [x, y])) { s with heap := h'', toks := tk } :=
      I.turnedNew (t' := tk) (ch := [z, TI, TO, i1, i2]) (fun c o hb q => (sb.2 c (fun q' => hb (by simp [q']))).trans (hk c o (fun q' => hb (by simp [q'])) (fun q' => hb (by simp [q'])) (fun q' => hb (by simp [q'])) (fun q' => hb (by simp [q'])) q)) hf (Nat.le_refl _) new
    refine ⟨.ref s.heap.objs.size, _, I1, rfl, ⟨_, x, y, rfl, I.hok.fresh (Nat.le_refl _), rfl, fun l hl => by rw [I.tuple_inj hl hqx]; exact hx, fun l hl => by rw [I.list_inj hl hqy]; exact hy⟩, ⟨z'', ?_, ⟨x1, x2, ?_⟩, ?_, ?_⟩, fun c hcm => ?_⟩
    · exact (sb.2 _ S.TIz).trans (hk _ _ S.TIz S.TITO S.TIi1 S.TIi2 hTI)
    · exact (sb.2 _ S.TOz).trans TO'
    · exact st1.1.at fun o q => (sb.2 _ (Ne.symm S.zi1)).trans q
    · exact st2.1.at fun o q => (sb.2 _ (Ne.symm S.zi2)).trans q
    · have hlt : c < s.heap.objs.size := by
        have e' : c = z ∨ c = TI ∨ c = TO ∨ c = i1 ∨ c = i2 := by simpa using hcm
        rcases e' with q | q | q | q | q
        · rw [q]; exact hzl
        · rw [q]; exact Heap.lt_size hTI
        · rw [q]; exact Heap.lt_size hTO
        · rw [q]; obtain ⟨_, e1, _⟩ := h1; exact Heap.lt_size e1
        · rw [q]; obtain ⟨_, e2, _⟩ := h2; exact Heap.lt_size e2
      rw [upd_ne (Nat.ne_of_lt hlt)]
      exact (hf c hcm).1
  done := by
    intro X hP hw hK hc i pins s σ H E I hf st hg
    subst hP hw hK
    obtain ⟨hz, hTI, ⟨x0, y0, hTO⟩, h1, h2⟩ := st
    obtain ⟨xs, ys, hqx, hqy, hle1, hle2, hend⟩ := hg
    obtain ⟨its, rv, p, _⟩ := I.tuple hqx
    obtain ⟨its2, rv2, p2, _⟩ := I.list hqy
    have l1 := rv.length
    have l2 := rv2.length
    refine wpAny_pyNext_zipD2_end S (Draws.tuple (prog := X.prog) (w := X.w) (A := X.A.in1) (I.ok.hd hc) i1 a h1a its.toArray) (Draws.list (prog := X.prog) (w := X.w) (A := X.A.in1) (I.ok.hd hc) i2 b h2b its2.toArray) hz hTI hTO ⟨h1, p⟩ ⟨h2, p2.isList⟩
      (by simp; omega) (by simp; omega) (by simp; omega) fun h' tk hk => ⟨rfl, I.turnedL (t' := tk) (ch := [z, TI, TO, i1, i2]) (fun c o hb q =>
      hk c o (fun q' => hb (by simp [q'])) (fun q' => hb (by simp [q'])) (fun q' => hb (by simp [q'])) (fun q' => hb (by simp [q'])) q) hf⟩
  self := fun A i s Q E st h => wpAny_pyIter_zip st.1 h
def iZipM (K : PySem.W.Frag) (ta : TA) : TI := fun σ H R => ta σ H fun vs H1 => ∃ a b xs ys, vs = [.ref a, .ref b] ∧ SqT K H1 a xs ∧ SqL K H1 b ys ∧ R (ItzM K a b) H1
theorem pi_zipM {X : Cx} {e e2 : Expr} {ta : TA} {p pos tpos : Pos} {elts : List Expr} {kk : Nat} (hg : Gl X "zip") (hm : X.mg "zip" = none) (ha : PA X [e, e2] ta)
    (hs : starEach [e, e2] X.env = (false, eval e X.env) :: starEach [e2] X.env := by rfl) (hpl : (backTo pos (starEach [e2] X.env)).any (·.1) = false := by rfl) :
    PI X (.Tuple elts kk tpos) (.Call (.Name "zip" p) [e, e2] [] pos) (iZipM X.K ta) := by
  refine ⟨fun pins s σ H R I h => ?_⟩
  refine Call_ (ld_blt I hg hm PyProof.Rows.boot_zip (PyProof.Rows.callWith_type1 (thn (ha.run pos pins s σ H _ I h) fun us s1 ⟨vs, H1, I1, r1, q1⟩ => ?_) hs hpl))
  obtain ⟨a, b, xs, ys, ex, hqx, hqy, q⟩ := q1
  subst ex
  cases r1 with
  | cons r rr =>
    cases rr with
    | cons r' rr =>
      cases rr
      cases r
      cases r'
      obtain ⟨its, rv, p1, _⟩ := I1.tuple hqx
      obtain ⟨its2, rv2, p2, _⟩ := I1.list hqy
      have la : a < s1.heap.objs.size := by obtain ⟨o, ho, _⟩ := id p1; exact Heap.lt_size ho
      have lb : b < s1.heap.objs.size := p2.lt
      refine zip_begins2 (begins_tuple a its.toArray) (begins_list b its2.toArray) p1 p2.isList fun h' hz hTI hTO h1 h2 hsz hk => wpAny_pyIter_zip hz ?_
      have I2 : Inv X pins σ H1 { s1 with heap := h' } := I1.kept (t' := s1.toks) hk
      refine ⟨s1.heap.objs.size + 4, [s1.heap.objs.size + 4, s1.heap.objs.size + 2, s1.heap.objs.size + 3, s1.heap.objs.size, s1.heap.objs.size + 1], _, _, H1, rfl, I2,
        turn_zipM (zip_sep2 (fp1 := [a]) (fp2 := [b]) (by simpa using la) (by simpa using lb)) (Nat.ne_of_lt la) (Nat.ne_of_lt (Nat.lt_succ_of_lt lb)), ⟨hz, hTI, ⟨_, _, hTO⟩, ⟨_, h1, rfl, rfl⟩, ⟨_, h2, rfl, rfl⟩⟩, fun c hcm => ?_, q⟩
      have e' : c = s1.heap.objs.size + 4 ∨ c = s1.heap.objs.size + 2 ∨ c = s1.heap.objs.size + 3 ∨ c = s1.heap.objs.size ∨ c = s1.heap.objs.size + 1 := by simpa using hcm
      have hle : s1.heap.objs.size ≤ c := by
        rcases e' with z | z | z | z | z
        · rw [z]; exact Nat.le_add_right _ _
        · rw [z]; exact Nat.le_add_right _ _
        · rw [z]; exact Nat.le_add_right _ _
        · rw [z]; exact Nat.le_refl _
        · rw [z]; exact Nat.le_add_right _ _
      exact I1.fpOk hle (I1.hok.fresh hle)
section
variable {X : Cx} {F : Fm} {Γ : Gam} {Δ : Del} {e a b : Expr} {pos p' : Pos} {ds es : List PyData}
theorem jok_enuT {a : Addr} : JOk (IteT X.K a) ds.zipIdx (Enu X.K) (.ref a) (D X.K (.tuple ds)) := fun M H hg hl => by
  obtain ⟨a', xs, e, h1, h2⟩ := T_val hg
  cases e
  have h1' := seqT_mono hide_le h1
  refine ⟨fun i x hx => ?_, xs, h1', by rw [dpAll_len h2, List.length_zipIdx]⟩
  rw [List.getElem?_zipIdx] at hx
  cases hd : ds[i]? with
  | none => rw [hd] at hx; cases hx
  | some d =>
    rw [hd] at hx
    have hx : (d, 0 + i) = x := Option.some.inj hx
    subst hx
    obtain ⟨v, hv, dv⟩ := dpAll_get h2 hd
    refine ⟨⟨xs, v, h1', hv⟩, fun w H' hy => ?_⟩
    obtain ⟨T, y, rfl, hT, rfl, hw⟩ := hy
    have := hw xs h1'
    rw [hv] at this
    cases this
    refine ⟨same_new hT, T, [V.int (i : Nat), v], rfl, ?_, ?_, ?_, trivial⟩
    · have : T ∉ M := fun z => by
        obtain ⟨o, e⟩ := hl T z
        rw [hT] at e; cases e
      rw [hide_out this, upd_same]
    · show Dp _ _ _ _
      rw [Nat.zero_add]
      exact .int _
    · exact dp_mono (hide_mono (same_new hT)) dv
theorem it_enuT {elts : List Expr} {kk : Nat} {tpos : Pos} (W : Bi X.mg) (h : EV X F Γ Δ e (D X.K (.tuple ds))) (hg : Gl X "enumerate" := by rfl) (hs : starEach [e] X.env = [(false, eval e X.env)] := by rfl) (hs' : starEach (e :: []) X.env = (false, eval e X.env) :: starEach [] X.env := by rfl) :
    IT X F Γ Δ (.Tuple elts kk tpos) (.Call (.Name "enumerate" p') [e] [] pos) ds.zipIdx (Enu X.K) := pi_imp (pi_enumT hg W.enumerate (ea_cons h ea_nil hs') hs) fun σ H R ⟨s, k⟩ => ⟨s, fun vs H1 e1 r1 => by
  obtain ⟨v, rfl, rv⟩ := r1.one
  obtain ⟨a, xs, rfl, h1, h2⟩ := T_val rv
  exact ⟨a, xs, rfl, seqT_mono hide_le h1, k _ H1 _ _ e1 rv jok_enuT⟩⟩
/-- both remembered -/
def Two (v w : V) (R S : RP) : RP := ⟨fun G _ => R.r G v ∧ S.r G w, fun e h => ⟨R.m e h.1, S.m e h.2⟩⟩
def Pr (K : PySem.W.Frag) (x : PyData × PyData) : RP := TR [D K x.1, D K x.2]
theorem zip_get {α β : Type} : ∀ {xs : List α} {ys : List β} {i : Nat} {p : α × β}, (xs.zip ys)[i]? = some p → xs[i]? = some p.1 ∧ ys[i]? = some p.2
  | [], _, _, _, h => by simp at h
  | _ :: _, [], _, _, h => by simp at h
  | x :: xs, y :: ys, 0, p, h => by simp at h; subst h; exact ⟨rfl, rfl⟩
  | x :: xs, y :: ys, i + 1, p, h => by
    have := zip_get (xs := xs) (ys := ys) (i := i) (p := p) (by simpa using h)
    simpa using this
theorem jok_zipM {a b : Addr} : JOk (ItzM X.K a b) (ds.zip es) (Pr X.K) .non (Two (.ref a) (.ref b) (D X.K (.tuple ds)) (D X.K (.list es))) := fun M H hg hl => by
  obtain ⟨g1, g2⟩ := hg
  obtain ⟨a', xs, e, h1, h2⟩ := T_val g1
  cases e
  obtain ⟨b', ys, e, k1, k2⟩ := L_val g2
  cases e
  have h1' := seqT_mono hide_le h1
  have k1' := seqL_mono hide_le k1
  refine ⟨fun i x hx => ?_, xs, ys, h1', k1', ?_, ?_, ?_⟩
  · obtain ⟨x1, x2⟩ := zip_get hx
    obtain ⟨v, hv, dv⟩ := dpAll_get h2 x1
    obtain ⟨v', hv', dv'⟩ := dpAll_get k2 x2
    refine ⟨⟨xs, ys, v, v', h1', k1', hv, hv'⟩, fun w H' hy => ?_⟩
    obtain ⟨T, y, z, rfl, hT, rfl, hw, hw'⟩ := hy
    have q1 := hw xs h1'
    rw [hv] at q1
    cases q1
    have q2 := hw' ys k1'
    rw [hv'] at q2
    cases q2
    refine ⟨same_new hT, T, [v, v'], rfl, ?_, dp_mono (hide_mono (same_new hT)) dv, dp_mono (hide_mono (same_new hT)) dv', trivial⟩
    have : T ∉ M := fun z => by
      obtain ⟨o, e⟩ := hl T z
      rw [hT] at e; cases e
    rw [hide_out this, upd_same]
  · rw [dpAll_len h2, List.length_zip]; exact Nat.min_le_left _ _
  · rw [dpAll_len k2, List.length_zip]; exact Nat.min_le_right _ _
  · rw [dpAll_len h2, dpAll_len k2, List.length_zip]; omega
theorem it_zipM {elts : List Expr} {kk : Nat} {tpos : Pos} (W : Bi X.mg) (h : EV X F Γ Δ a (D X.K (.tuple ds))) (h2 : EV X F Γ Δ b (D X.K (.list es))) (hg : Gl X "zip" := by rfl) (hs : starEach [a, b] X.env = (false, eval a X.env) :: starEach [b] X.env := by rfl) (hpl : (backTo pos (starEach [b] X.env)).any (·.1) = false := by rfl)
    (hs' : starEach (b :: []) X.env = (false, eval b X.env) :: starEach [] X.env := by rfl) :
    IT X F Γ Δ (.Tuple elts kk tpos) (.Call (.Name "zip" p') [a, b] [] pos) (ds.zip es) (Pr X.K) := pi_imp (pi_zipM hg W.zip (ea_cons h (ea_cons h2 ea_nil hs') hs) hs hpl) fun σ H R ⟨s, k⟩ => ⟨s, fun vs H1 e1 r1 => by
  obtain ⟨v, w, rfl, rv, rw'⟩ := r1.two
  obtain ⟨a, xs, rfl, h1, h2⟩ := T_val rv
  obtain ⟨b, ys, rfl, k1, k2⟩ := L_val rw'
  exact ⟨a, b, xs, ys, rfl, seqT_mono hide_le h1, seqL_mono hide_le k1, k _ H1 .non (Two (.ref a) (.ref b) (D X.K (.tuple ds)) (D X.K (.list es))) e1 ⟨rv, rw'⟩ jok_zipM⟩⟩
end
end Fr
set_option Elab.async false
set_option linter.all false
set_option maxRecDepth 100000
/-! Lay8: slices, lists put together, in, sums of lists, sorted. -/
namespace Fr
open PySem PySem.Spec PySem.Calls L2
def srt (ns : List Int) : List Int := ns.mergeSort fun a b => decide (a ≤ b)
theorem srt_mem {ns : List Int} {x : Int} : x ∈ srt ns ↔ x ∈ ns := List.mem_mergeSort
theorem srt_len {ns : List Int} : (srt ns).length = ns.length := (List.mergeSort_perm ns _).length_eq
theorem srt_of {ns ms : List Int} (hp : ms.Perm ns) (hs : ms.Pairwise (· ≤ ·)) : ms = srt ns := by
  have h1 : (srt ns).Pairwise (· ≤ ·) := (List.pairwise_mergeSort (le := fun a b : Int => decide (a ≤ b)) (fun a b c h1 h2 => by simp at *; omega) (fun a b => by simp; omega) ns).imp fun h => of_decide_eq_true h
  exact List.Perm.eq_of_pairwise (fun a b _ _ h h' => Int.le_antisymm h h') hs h1 (hp.trans (List.mergeSort_perm ns _).symm)
section
variable {X : Cx} {F : Fm} {Γ Γ' Γ2 : Gam} {Δ Δ' : Del} {e a b c tg o : Expr} {es : List Expr} {rest body : List Stmt} {pos p' p2 p3 pos' : Pos} {R R' : RP} {P : Ends} {p C dx : Addr} {Rs As Ss : List RP} {k : Nat} {i j : Int} {ds : List PyData}
theorem ev_neg (ha : EV X F Γ Δ a (I X.K i)) : EV X F Γ Δ (.UnaryOp .USub a pos) (I X.K (-i)) := pe_imp (pe_un un_neg ha) fun σ H Q ⟨s, k⟩ => ⟨s, fun v H1 e1 r1 => ⟨i, I_val r1, k _ H1 e1 (Dp.int _)⟩⟩
/-- x op= e, ints -/
theorem b_aug {k : Nat} {x : Str} {op : Operator} {C : Int → Int → Prop} {g : Int → Int → Int} {pos' : Pos} (hp : PIp X op (fun x y H Q => ∃ i j, x = .int i ∧ y = .int j ∧ C i j ∧ Q (.int (g i j)) H)) (hN : X.N.Nodup) (hΓ : Γ[k]? = some (some (I X.K i))) (he : EV X F Γ Δ e (I X.K j)) (hc : C i j)
    (h : BK X F (Γ.set k (some (I X.K (g i j)))) Δ rest P) (hi : X.N[k]? = some x := by rfl) (hx : Loc X.env.scope x := by first | exact Or.inl rfl | exact Or.inr rfl) (hf : X.fn x = true ∨ X.env.scope.names.lookup x = some .local := by first | exact .inl rfl | exact .inr rfl) : BK X F Γ Δ (.AugAssign (.Name x pos') op e pos :: rest) P :=
  ba_seq (ps_aug hN hi hx he hp hf) (fun D σ H s ple => by
    obtain ⟨v, hv, rv⟩ := s.get hΓ
    exact ⟨v, hv, s, fun y H1 e1 ry => ⟨i, j, I_val rv, I_val ry, hc, ple.1 _ _ ((s.mono e1).set (Dp.int _) k)⟩⟩) h
theorem cutV_from (xs : List V) (k : Nat) : cutV xs (some (k : Int)) none = xs.drop k := by
  unfold cutV
  rw [HT.sIx_nat, HT.sIx_none]
  by_cases h : k ≤ xs.length
  · rw [Nat.min_eq_left h, List.take_of_length_le (by rw [List.length_drop]; exact Nat.le_refl _)]
  · rw [Nat.min_eq_right (by omega), Nat.sub_self, List.take_zero, List.drop_eq_nil_of_le (by omega)]
theorem cutV_to (xs : List V) (k : Nat) : cutV xs none (some (k : Int)) = xs.take k := by
  unfold cutV
  rw [HT.sIx_nat, HT.sIx_none, List.drop_zero, Nat.sub_zero]
  by_cases h : k ≤ xs.length
  · rw [Nat.min_eq_left h]
  · rw [Nat.min_eq_right (by omega), List.take_of_length_le (Nat.le_refl _), List.take_of_length_le (by omega)]
/-- xs[k:] -/
theorem en_from {n : Nat} (ha : EV X F Γ Δ a (D X.K (.list ds))) (hb : EV X F Γ Δ b (I X.K i)) (hi : i = (n : Int)) (hz : ds.length ≤ 100000) : EN X F Γ Δ (.Subscript a (.Slice (some b) none none p2) pos) ((ds.drop n).map (D X.K)) :=
  pe_imp (pe_slice sl_list ha (po_some hb) po_none) fun σ H Q ⟨s, k⟩ => ⟨s, fun v H1 e1 r1 => ⟨s.mono e1, fun w H2 e2 r2 => ⟨i, I_val r2, by
    obtain ⟨l, xs, rfl, h1, h2⟩ := L_val ((D X.K (.list ds)).m (hide_mono e2) r1)
    refine ⟨l, xs, rfl, seqL_mono hide_le h1, fun p hp => ?_⟩
    rw [hi, cutV_from]
    refine k p _ _ ((e1.trans e2).free hp) ((e1.trans e2).trans (same_new hp)) upd_same (AllR.data.mpr (dpAll_drop n (dpAll_mono (hide_cons_upd hp) h2))) ?_
    rw [List.length_drop, dpAll_len h2, sizeLine_eq]; omega⟩⟩⟩
/-- xs[:k] -/
theorem en_to {n : Nat} (ha : EV X F Γ Δ a (D X.K (.list ds))) (hb : EV X F Γ Δ b (I X.K i)) (hi : i = (n : Int)) (hz : ds.length ≤ 100000) : EN X F Γ Δ (.Subscript a (.Slice none (some b) none p2) pos) ((ds.take n).map (D X.K)) :=
  pe_imp (pe_slice sl_list ha po_none (po_some hb)) fun σ H Q ⟨s, k⟩ => ⟨s, fun v H1 e1 r1 => ⟨s.mono e1, fun w H2 e2 r2 => ⟨i, I_val r2, by
    obtain ⟨l, xs, rfl, h1, h2⟩ := L_val ((D X.K (.list ds)).m (hide_mono e2) r1)
    refine ⟨l, xs, rfl, seqL_mono hide_le h1, fun p hp => ?_⟩
    rw [hi, cutV_to]
    refine k p _ _ ((e1.trans e2).free hp) ((e1.trans e2).trans (same_new hp)) upd_same (AllR.data.mpr (dpAll_take n (dpAll_mono (hide_cons_upd hp) h2))) ?_
    rw [List.length_take, dpAll_len h2, sizeLine_eq]; omega⟩⟩⟩
/-- t[k:], a part of a tuple -/
theorem ev_fromT {n : Nat} (ha : EV X F Γ Δ a (D X.K (.tuple ds))) (hb : EV X F Γ Δ b (I X.K i)) (hi : i = (n : Int)) (hn : 0 < n) (hl : 0 < ds.length) : EV X F Γ Δ (.Subscript a (.Slice (some b) none none p2) pos) (D X.K (.tuple (ds.drop n))) :=
  pe_imp (pe_slice sl_tup ha (po_some hb) po_none) fun σ H Q ⟨s, k⟩ => ⟨s, fun v H1 e1 r1 => ⟨s.mono e1, fun w H2 e2 r2 => ⟨i, I_val r2, by
    obtain ⟨l, xs, rfl, h1, h2⟩ := T_val ((D X.K (.tuple ds)).m (hide_mono e2) r1)
    refine ⟨l, xs, rfl, seqT_mono hide_le h1, ?_, fun p hp => ?_⟩
    · rw [hi, HT.sIx_nat, dpAll_len h2]
      omega
    · rw [hi, cutV_from]
      refine k _ _ ((e1.trans e2).trans (same_new hp)) (Dp.tup (SqT.of ?_) (dpAll_drop n (dpAll_mono (hide_mono (same_new hp)) h2)))
      rw [stt_fresh ((s.mono e1).mono e2) hp]
      exact upd_same⟩⟩⟩
/-- xs[::-1] -/
theorem dpAll_rev {K : PySem.W.Frag} {G : Hp} : ∀ {ds : List PyData} {vs : List V}, DpAll K G vs ds → DpAll K G vs.reverse ds.reverse
  | [], _, h => by cases h; exact .nil
  | d :: ds, _, h => by
    cases h with
    | cons h1 h2 =>
      rw [List.reverse_cons, List.reverse_cons]
      exact dpAll_app (dpAll_rev h2) (.cons h1 .nil)
theorem en_rev {kk : Nat} {q1 q2 q3 : Pos} (ha : EV X F Γ Δ a (D X.K (.list ds))) (hz : ds.length ≤ 100000) : EN X F Γ Δ (.Subscript a (.Slice none none (some (.UnaryOp .USub (.Constant (.int 1) kk q1) q2)) q3) pos) (ds.reverse.map (D X.K)) :=
  pe_imp (pe_revL ha) fun σ H Q ⟨s, k⟩ => ⟨s, fun v H1 e1 r1 => by
    obtain ⟨l, xs, rfl, h1, h2⟩ := L_val r1
    refine ⟨l, xs, rfl, seqL_mono hide_le h1, fun p hp => k p _ _ (e1.free hp) (e1.trans (same_new hp)) upd_same (AllR.data.mpr (dpAll_rev (dpAll_mono (hide_cons_upd hp) h2))) ?_⟩
    rw [List.length_reverse, dpAll_len h2, sizeLine_eq]; omega⟩
/-- lists put together -/
theorem en_cat (ha : EV X F Γ Δ a (LR Rs)) (hb : EV X F Γ Δ b (LR Ss)) (hz : Rs.length + Ss.length ≤ 100000) : EN X F Γ Δ (.BinOp a .Add b pos) (Rs ++ Ss) :=
  pe_imp (pe_op op_cat ha hb) fun σ H Q ⟨s, k⟩ => ⟨s, fun v H1 e1 r1 => ⟨s.mono e1, fun w H2 e2 r2 => by
    obtain ⟨l, xs, rfl, h1, h2⟩ := (LR Rs).m (hide_mono e2) r1
    obtain ⟨m, ys, rfl, k1, k2⟩ := r2
    have hl : xs.length + ys.length ≤ 100000 := by rw [h2.len, k2.len]; exact hz
    refine ⟨l, m, xs, ys, rfl, rfl, hide_le _ _ h1, hide_le _ _ k1, by rw [sizeLine_eq]; omega, fun p hp => k p _ _ ((e1.trans e2).free hp) ((e1.trans e2).trans (same_new hp)) upd_same (AllR.app (AllR.mono (hide_cons_upd hp) h2) (AllR.mono (hide_cons_upd hp) k2)) ?_⟩
    rw [List.length_append, sizeLine_eq]; omega⟩⟩
theorem allR_rep {G : Hp} {vs : List V} {Rs : List RP} (h : AllR G vs Rs) : ∀ n : Nat, AllR G (List.replicate n vs).flatten (List.replicate n Rs).flatten
  | 0 => trivial
  | n + 1 => by
    rw [List.replicate_succ, List.replicate_succ, List.flatten_cons, List.flatten_cons]
    exact AllR.app h (allR_rep h n)
theorem en_rep {n : Nat} (ha : EV X F Γ Δ a (LR Rs)) (hb : EV X F Γ Δ b (I X.K i)) (hi : i = (n : Int)) (hz : Rs.length * n ≤ 100000) (hn : n < 2 ^ 62) : EN X F Γ Δ (.BinOp a .Mult b pos) (List.replicate n Rs).flatten :=
  pe_imp (pe_op op_rep ha hb) fun σ H Q ⟨s, k⟩ => ⟨s, fun v H1 e1 r1 => ⟨s.mono e1, fun w H2 e2 r2 => by
    obtain ⟨l, xs, rfl, h1, h2⟩ := (LR Rs).m (hide_mono e2) r1
    have hl : xs.length * n ≤ 100000 := by rw [h2.len]; exact hz
    have e : i.toNat = n := by omega
    refine ⟨l, i, xs, rfl, I_val r2, hide_le _ _ h1, by omega, by omega, by rw [e, sizeLine_eq]; omega, fun p hp => ?_⟩
    rw [e]
    refine k p _ _ ((e1.trans e2).free hp) ((e1.trans e2).trans (same_new hp)) upd_same (allR_rep (AllR.mono (hide_cons_upd hp) h2) n) ?_
    rw [PyProof.Rows.lm_len_rep_flat, sizeLine_eq, Nat.mul_comm]; omega⟩⟩
/-! ### in -/
theorem flat_ints : ∀ {ns : List Int}, (ns.map V.int).all flatV = true
  | [] => rfl
  | n :: ns => by rw [List.map_cons, List.all_cons, flat_ints]; rfl
theorem inV_ints {n : Int} : ∀ {ns : List Int}, inV (.int n) (ns.map V.int) = decide (n ∈ ns)
  | [] => rfl
  | m :: ns => by
    have ih := inV_ints (n := n) (ns := ns)
    unfold inV at ih ⊢
    rw [List.map_cons, List.any_cons, ih]
    have e : eqV (V.int m) (V.int n) = decide (m = n) := by
      simp only [eqV]
      rw [Bool.eq_iff_iff]; simp
    rw [e]
    by_cases h : m = n
    · subst h; simp
    · have : ¬ n = m := fun z => h z.symm
      simp [h, this]
theorem in_hr {ns : List Int} {n : Int} {neg : Bool} {d : PyData} (hd : d = .list (ns.map .int) ∨ d = .tuple (ns.map .int)) : ∀ σ H x y, Stt F Γ Δ σ H → (I X.K n).r (Hid F Δ H) x → (D X.K d).r (Hid F Δ H) y → ∀ Q : VK, (∀ H2, Same H H2 → Q (.bl (if neg then !decide (n ∈ ns) else decide (n ∈ ns))) H2) → rIn X.K neg x y H Q := fun σ H x y s ra rb Q k => by
  rw [I_val ra]
  have fin : ∀ p xs, y = .ref p → (SqL X.K H p xs ∨ SqT X.K H p xs) → DpAll X.K (Hid F Δ H) xs (ns.map .int) → rIn X.K neg (.int n) y H Q := fun p xs e h h2 => by
    have e2 := dpAll_ints.mp h2
    subst e2
    refine ⟨p, _, e, h, rfl, flat_ints, ?_⟩
    rw [inV_ints]
    exact k H (Same.refl H)
  rcases hd with rfl | rfl
  · obtain ⟨p, xs, e, h1, h2⟩ := L_val rb
    exact fin p xs e (.inl (seqL_mono hide_le h1)) h2
  · obtain ⟨p, xs, e, h1, h2⟩ := T_val rb
    exact fin p xs e (.inr (seqT_mono hide_le h1)) h2
theorem et_inI {ns : List Int} {n : Int} {d : PyData} (ha : EV X F Γ Δ a (I X.K n)) (hb : EV X F Γ Δ b (D X.K d)) (hd : d = .list (ns.map .int) ∨ d = .tuple (ns.map .int)) (hm : behindInMarks .In b = false := by rfl) : ET X F Γ Δ (.Compare a [.In] [b] pos) (decide (n ∈ ns)) :=
  et_cmpR op_in_seq ha hb (in_hr (neg := false) hd) hm
theorem et_ninI {ns : List Int} {n : Int} {d : PyData} (ha : EV X F Γ Δ a (I X.K n)) (hb : EV X F Γ Δ b (D X.K d)) (hd : d = .list (ns.map .int) ∨ d = .tuple (ns.map .int)) (hm : behindInMarks .NotIn b = false := by rfl) : ET X F Γ Δ (.Compare a [.NotIn] [b] pos) (!decide (n ∈ ns)) :=
  et_cmpR op_notIn_seq ha hb (in_hr (neg := true) hd) hm
theorem ev_inI {ns : List Int} {n : Int} {d : PyData} (ha : EV X F Γ Δ a (I X.K n)) (hb : EV X F Γ Δ b (D X.K d)) (hd : d = .list (ns.map .int) ∨ d = .tuple (ns.map .int)) (hm : behindInMarks .In b = false := by rfl) : EV X F Γ Δ (.Compare a [.In] [b] pos) (B X.K (decide (n ∈ ns))) :=
  ev_cmpR op_in_seq ha hb (in_hr (neg := false) hd) hm
/-- data in a list of data -/
theorem et_inD {d : PyData} (hu : X.A.units + 65 < cLine) (ha : EV X F Γ Δ a (D X.K d)) (hb : EV X F Γ Δ b (D X.K (.list ds))) (h1 : SeqAt.shaped d = true) (h2 : SeqAt.shaped (.list ds) = true) (hm : behindInMarks .In b = false := by rfl) : ET X F Γ Δ (.Compare a [.In] [b] pos) (ds.any fun z => PyData.eqv z d) :=
  et_cmpR (op_inD hu) ha hb (fun σ H x y s ra rb Q k => ⟨d, ds, dp_mono hide_le ra, dp_mono hide_le rb, h1, h2, k H (Same.refl H)⟩) hm
theorem et_neD {d d' : PyData} (hu : X.A.units + 64 < cLine) (ha : EV X F Γ Δ a (D X.K d)) (hb : EV X F Γ Δ b (D X.K d')) (h1 : SeqAt.shaped d = true) (h2 : SeqAt.shaped d' = true) : ET X F Γ Δ (.Compare a [.NotEq] [b] pos) (!PyData.eqv d d') :=
  et_cmpR (op_neD hu) ha hb (fun σ H x y s ra rb Q k => ⟨d, d', dp_mono hide_le ra, dp_mono hide_le rb, h1, h2, k H (Same.refl H)⟩) (nomark _)
/-! ### max, sorted -/

variable (W : Bi X.mg)
include W
theorem ev_maxL {ns : List Int} {m : Int} (hc : X.calm = true) (ha : EV X F Γ Δ a (D X.K (.list (ns.map .int)))) (hm : m ∈ ns) (hmax : ∀ y ∈ ns, y ≤ m) (hg : Gl X "max" := by rfl) (he : starEach (a :: []) X.env = (false, eval a X.env) :: starEach [] X.env := by rfl) : EV X F Γ Δ (.Call (.Name "max" p') [a] [] pos) (I X.K m) :=
  ev_callB (cr_max hc) hg W.max (by decide +kernel) (ea_cons ha ea_nil he) (fun σ H vs s r Q k => by
    obtain ⟨v, rfl, rv⟩ := r.one
    obtain ⟨p, xs, rfl, h1, h2⟩ := L_val rv
    have e2 := dpAll_ints.mp h2
    subst e2
    refine ⟨p, ns, rfl, seqL_mono hide_le h1, List.length_pos_of_mem hm, fun m' h1' h2' => ?_⟩
    have e : m' = m := Int.le_antisymm (hmax m' h1') (h2' m hm)
    rw [e]
    exact k _ H (Same.refl H) (.int m)) (by decide) (by decide) he
theorem ev_sortedI {ns : List Int} (ha : EV X F Γ Δ a (D X.K (.list (ns.map .int)))) (hg : Gl X "sorted" := by rfl) (he : starEach (a :: []) X.env = (false, eval a X.env) :: starEach [] X.env := by rfl) : EV X F Γ Δ (.Call (.Name "sorted" p') [a] [] pos) (LP X.K ((srt ns).map .int)) :=
  ev_callB cr_sortedI hg W.sorted (by decide +kernel) (ea_cons ha ea_nil he) (fun σ H vs s r Q k => by
    obtain ⟨v, rfl, rv⟩ := r.one
    obtain ⟨p, xs, rfl, h1, h2⟩ := L_val rv
    have e2 := dpAll_ints.mp h2
    subst e2
    refine ⟨p, ns, rfl, seqL_mono hide_le h1, ?_⟩
    intro ns' q hp hs hq
    rw [srt_of hp hs]
    refine k _ _ (same_new hq) ⟨q, (srt ns).map V.int, rfl, ?_, dpAll_ints.mpr rfl⟩
    rw [stt_fresh s hq]
    exact upd_same) (by decide) (by decide) he
end
end Fr
set_option Elab.async false
set_option linter.all false
set_option maxRecDepth 100000
/-! Lay9: walks over mapped data, comprehensions of data, lists of fresh owned objects. -/
namespace Fr
open PySem PySem.Spec PySem.Calls L2
theorem jok_map {α β : Type} {J : It} {xs : List α} {g : α → β} {it : β → RP} {gv : V} {gR : RP} (h : JOk J (xs.map g) it gv gR) : JOk J xs (fun x => it (g x)) gv gR := fun M H hg hl => by
  obtain ⟨h1, h2⟩ := h M H hg hl
  rw [List.length_map] at h2
  exact ⟨fun i x hx => h1 i (g x) (by rw [List.getElem?_map, hx]; rfl), h2⟩
section
variable {X : Cx} {F : Fm} {Γ Γ' Γ2 : Gam} {Δ Δ' : Del} {e a b c tg iter elt : Expr} {es ifs : List Expr} {rest body : List Stmt} {pos p' : Pos} {R R' : RP} {P : Ends} {i j : Int} {js : List Nat} {σ : Sig} {H : Hp}
theorem it_of_map {α β : Type} {xs : List α} {g : α → β} {it : β → RP} (h : IT X F Γ Δ tg iter (xs.map g) it) : IT X F Γ Δ tg iter xs (fun x => it (g x)) :=
  pi_imp h fun σ H R ⟨s, k⟩ => ⟨s, fun J H1 gv gR e1 hg ok => k J H1 gv gR e1 hg (jok_map ok)⟩
theorem it_mapL {α : Type} {xs : List α} {g : α → PyData} (h : EV X F Γ Δ e (D X.K (.list (xs.map g)))) : IT X F Γ Δ tg e xs (fun x => D X.K (g x)) := it_of_map (it_list h)
theorem it_mapT {α : Type} {xs : List α} {g : α → PyData} (h : EV X F Γ Δ e (D X.K (.tuple (xs.map g)))) : IT X F Γ Δ tg e xs (fun x => D X.K (g x)) := it_of_map (it_tup h)
theorem zipIdx_map' {α β : Type} (g : α → β) (xs : List α) : (xs.map g).zipIdx = xs.zipIdx.map fun p => (g p.1, p.2) := by
  apply List.ext_getElem?
  intro i
  rw [List.getElem?_zipIdx, List.getElem?_map, List.getElem?_map, List.getElem?_zipIdx]
  cases xs[i]? <;> rfl
variable {α : Type} {scope : Scope} {own : List (Str × Nat)} {xs : List α} {it : α → RP} {pr : α → Bool} {f : α → RP} {Γt : α → Gam} {g : α → PyData}
theorem LcH.all (t : ∀ (s : Shared) (H : Hp) (C : Addr) (cl : List (Str × Addr)) (fp : List Addr) gv gR (D : Addr) (acc : List RP) (x : α), x ∈ xs → TG' (X.blk s H scope (compEnvC scope cl C X.env) fp) (F.push gv gR) (wipeG Γ (own.map (·.2))) ((D, LOR acc) :: Δ) tg (it x) (Γt x) js)
  (e : ∀ (s : Shared) (H : Hp) (C : Addr) (cl : List (Str × Addr)) (fp : List Addr) gv gR (D : Addr) (acc : List RP) (x : α), x ∈ xs → EV (X.blk s H scope (compEnvC scope cl C X.env) fp) (F.push gv gR) (Γt x) ((D, LOR acc) :: Δ) elt (f x))
  (hj : ∀ j ∈ js, j ∈ own.map (·.2)) (len : xs.length ≤ 100000) : LcH X F Γ Δ scope own tg [] elt xs it (fun _ => true) f Γt js :=
  ⟨t, fun _ _ _ _ _ _ _ _ _ _ _ => ets_nil, fun s H C cl fp gv gR D acc x hx _ => e s H C cl fp gv gR D acc x hx, hj, len⟩
/-- [.. for ..] of data -/
theorem en_lcD (hc : X.calm = true) (hN : X.N.Nodup) (hit : IT X F Γ Δ tg iter xs it) (ok : BlkOk X.N X.env.scope scope own) (h : LcH X F Γ Δ scope own tg ifs elt xs it pr (fun x => D X.K (g x)) Γt js) (hs : ∀ x, foldedSetIterable iter X.env x = pure x := by intro _; rfl) :
    EN X F Γ Δ (.ListComp elt [⟨tg, iter, ifs, 0⟩] scope pos) (((xs.filter pr).map g).map (D X.K)) := filter_D (K := X.K) ▸ en_lc (kk := 0) hc hN hit ok h hs
theorem en_lcM (hc : X.calm = true) (hN : X.N.Nodup) (hit : IT X F Γ Δ tg iter xs it) (ok : BlkOk X.N X.env.scope scope own) (h : LcH X F Γ Δ scope own tg ifs elt xs it (fun _ => true) (fun x => D X.K (g x)) Γt js) (hs : ∀ x, foldedSetIterable iter X.env x = pure x := by intro _; rfl) :
    EN X F Γ Δ (.ListComp elt [⟨tg, iter, ifs, 0⟩] scope pos) ((xs.map g).map (D X.K)) := map_D (K := X.K) ▸ en_lc (kk := 0) hc hN hit ok h hs
/-- x = [..] of data, given away at once -/
theorem b_setLc {i : Nat} {x : Str} {pos' spos : Pos} (hc : X.calm = true) (hN : X.N.Nodup) (hit : IT X F Γ Δ tg iter xs it) (ok : BlkOk X.N X.env.scope scope own) (h : LcH X F Γ Δ scope own tg ifs elt xs it pr (fun x => D X.K (g x)) Γt js)
    (hl : i < Γ.length) (hr : BK X F (Γ.set i (some (LP X.K ((xs.filter pr).map g)))) Δ rest P) (hi : X.N[i]? = some x := by rfl) (hyl : X.env.scope.names.lookup x = some .local := by rfl)
    (hsw : swapsWith (.ListComp elt [⟨tg, iter, ifs, 0⟩] scope pos) (some (.Name x pos')) spos.line X.env = pure true := by exact sw_true rfl rfl rfl (by decide +kernel)) (hs : ∀ x, foldedSetIterable iter X.env x = pure x := by intro _; rfl) :
    BK X F Γ Δ (.Assign [.Name x pos'] (.ListComp elt [⟨tg, iter, ifs, 0⟩] scope pos) spos :: rest) P :=
  b_ownLc hc hN hit ok h (fun p => by
    rw [filter_D]
    refine b_frzD (k := 0) (i := i) rfl (by rw [List.getElem?_set_self hl]) ?_
    rw [List.set_set]
    exact hr) hi hyl hsw hs
theorem b_setLcM {i : Nat} {x : Str} {pos' spos : Pos} (hc : X.calm = true) (hN : X.N.Nodup) (hit : IT X F Γ Δ tg iter xs it) (ok : BlkOk X.N X.env.scope scope own) (h : LcH X F Γ Δ scope own tg ifs elt xs it (fun _ => true) (fun x => D X.K (g x)) Γt js)
    (hl : i < Γ.length) (hr : BK X F (Γ.set i (some (LP X.K (xs.map g)))) Δ rest P) (hi : X.N[i]? = some x := by rfl) (hyl : X.env.scope.names.lookup x = some .local := by rfl)
    (hsw : swapsWith (.ListComp elt [⟨tg, iter, ifs, 0⟩] scope pos) (some (.Name x pos')) spos.line X.env = pure true := by exact sw_true rfl rfl rfl (by decide +kernel)) (hs : ∀ x, foldedSetIterable iter X.env x = pure x := by intro _; rfl) :
    BK X F Γ Δ (.Assign [.Name x pos'] (.ListComp elt [⟨tg, iter, ifs, 0⟩] scope pos) spos :: rest) P :=
  b_setLc (pr := fun _ => true) hc hN hit ok h hl (by rw [List.filter_eq_self.mpr fun _ _ => rfl]; exact hr) hi hyl hsw hs
theorem b_ownLcM {i : Nat} {x : Str} {pos' spos : Pos} (hc : X.calm = true) (hN : X.N.Nodup) (hit : IT X F Γ Δ tg iter xs it) (ok : BlkOk X.N X.env.scope scope own) (h : LcH X F Γ Δ scope own tg ifs elt xs it (fun _ => true) (fun x => D X.K (g x)) Γt js)
    (hr : ∀ p, BK X F (Γ.set i (some (Vl (.ref p)))) ((p, LO X.K (xs.map g)) :: Δ) rest P) (hi : X.N[i]? = some x := by rfl) (hyl : X.env.scope.names.lookup x = some .local := by rfl)
    (hsw : swapsWith (.ListComp elt [⟨tg, iter, ifs, 0⟩] scope pos) (some (.Name x pos')) spos.line X.env = pure true := by exact sw_true rfl rfl rfl (by decide +kernel)) (hs : ∀ x, foldedSetIterable iter X.env x = pure x := by intro _; rfl) :
    BK X F Γ Δ (.Assign [.Name x pos'] (.ListComp elt [⟨tg, iter, ifs, 0⟩] scope pos) spos :: rest) P :=
  b_ownLc hc hN hit ok h (fun p => by
    rw [map_D]
    exact hr p) hi hyl hsw hs
theorem ev_callR {α : Type} {S : FS α} {x : Str} {k n : Nat} {p : Pos} (y : α) (G : Df X.prog X.w X.K X.mg X.base x k n S) (hr : Room k X.A) (ha : EA X F Γ Δ (e :: es) (S.arg y)) (hp : S.pre y) (hR : S.res y = R := by rfl) (hl : (S.arg y).length = n := by rfl) (hg : Gl X x := by rfl)
    (hd : (x == ("__debug__" : Str)) = false := by decide) (he : starEach (e :: es) X.env = (false, eval e X.env) :: starEach es X.env := by rfl) (hpl : (backTo pos (starEach es X.env)).any (·.1) = false := by rfl) : EV X F Γ Δ (.Call (.Name x p) (e :: es) [] pos) R :=
  hR ▸ ev_call1 y G hr ha hp hl hg hd he hpl
theorem en_fromM {n : Nat} {p2 : Pos} (ha : EV X F Γ Δ a (D X.K (.list (xs.map g)))) (hb : EV X F Γ Δ b (I X.K i)) (hi : i = (n : Int)) (hz : xs.length ≤ 100000) : EN X F Γ Δ (.Subscript a (.Slice (some b) none none p2) pos) (((xs.drop n).map g).map (D X.K)) := by
  rw [List.map_drop]; exact en_from ha hb hi (by rw [List.length_map]; exact hz)
theorem en_toM {n : Nat} {p2 : Pos} (ha : EV X F Γ Δ a (D X.K (.list (xs.map g)))) (hb : EV X F Γ Δ b (I X.K i)) (hi : i = (n : Int)) (hz : xs.length ≤ 100000) : EN X F Γ Δ (.Subscript a (.Slice none (some b) none p2) pos) (((xs.take n).map g).map (D X.K)) := by
  rw [List.map_take]; exact en_to ha hb hi (by rw [List.length_map]; exact hz)
/-- [.. for .. in []] -/
theorem ev_lc0 {e : Expr} (hc : X.calm = true) (hN : X.N.Nodup) (he : EV X F Γ Δ e (D X.K (.list []))) (ok : BlkOk X.N X.env.scope scope own) (hs : ∀ x, foldedSetIterable e X.env x = pure x := by intro _; rfl) :
    EV X F Γ Δ (.ListComp elt [⟨tg, e, ifs, 0⟩] scope pos) (D X.K (.list [])) :=
  ev_newD (ds := []) (en_lc (kk := 0) (xs := ([] : List PyData)) (it := D X.K) (pr := fun _ => true) (f := D X.K) (Γt := fun _ => Γ) (js := []) hc hN (it_list he) ok
    ⟨fun _ _ _ _ _ _ _ _ _ x h => (by cases h), fun _ _ _ _ _ _ _ _ _ x h => (by cases h), fun _ _ _ _ _ _ _ _ _ x h => (by cases h), fun j h => (by cases h), Nat.zero_le _⟩ hs)
theorem en_lstD {ds : List PyData} (h : EA X F Γ Δ es (ds.map (D X.K))) (hl : ds.length ≤ 100000 := by exact Nat.le_of_ble_eq_true rfl) : EN X F Γ Δ (.List es pos) (ds.map (D X.K)) := en_lst h (by rw [List.length_map]; exact hl)
theorem ev_lstD {ds : List PyData} (h : EA X F Γ Δ es (ds.map (D X.K))) (hl : ds.length ≤ 100000 := by exact Nat.le_of_ble_eq_true rfl) : EV X F Γ Δ (.List es pos) (D X.K (.list ds)) := ev_newD (en_lstD h hl)
theorem ev_tupD {ds : List PyData} {k : Nat} (h : EA X F Γ Δ es (ds.map (D X.K))) (hl : ds.length ≤ 100000 := by exact Nat.le_of_ble_eq_true rfl) : EV X F Γ Δ (.Tuple es k pos) (D X.K (.tuple ds)) := ev_tup h hl
/-! ### the order of what is owned -/
theorem Stt.perm (s : Stt F Γ Δ σ H) (h : Δ.Perm Δ') : Stt F Γ Δ' σ H := by
  have hd : (dom Δ).Perm (dom Δ') := h.map _
  have hh : Hid F Δ' H = Hid F Δ H := by
    funext a
    show Hide _ _ a = Hide _ _ a
    unfold Hide
    have : a ∈ dom Δ' ++ F.M ↔ a ∈ dom Δ ++ F.M := by
      rw [List.mem_append, List.mem_append, hd.mem_iff]
    by_cases q : a ∈ dom Δ ++ F.M
    · rw [if_pos q, if_pos (this.mpr q)]
    · rw [if_neg q, if_neg fun z => q (this.mp z)]
  exact ⟨s.ex, fun p hp => s.fr p (hd.mem_iff.mpr hp), s.lv, hd.nodup_iff.mp s.nd, fun q hq => by rw [hh]; exact s.ow q (h.mem_iff.mpr hq), by rw [hh]; exact s.gh, by rw [hh]; exact s.sl⟩
theorem b_perm (h : Δ.Perm Δ') (k : BK X F Γ Δ' rest P) : BK X F Γ Δ rest P := ba_imp k fun _ _ s => s.perm h
/-! ### fresh objects -/
def tF (F : Fm) (Γ : Gam) (Δ : Del) (O : Addr → OP) : TE := fun σ H Q => Stt F Γ Δ σ H ∧ ∀ p H2 o, H p = none → Same H H2 → H2 p = some o → (O p).r (Hide (p :: (dom Δ ++ F.M)) H2) o → Q (.ref p) H2
def EF (X : Cx) (F : Fm) (Γ : Gam) (Δ : Del) (e : Expr) (O : Addr → OP) : Prop := PE X e (tF F Γ Δ O)
theorem ef_en {As : List RP} (h : EN X F Γ Δ e As) : EF X F Γ Δ e (fun _ => LOR As) := pe_imp h fun σ H Q ⟨s, k⟩ => ⟨s, fun p H2 xs hp e2 h2 ha hz => k p H2 _ hp e2 h2 ⟨xs, rfl, ha, hz⟩⟩
theorem Stt.take {p : Addr} {O : OP} {o : HO} {H2 : Hp} (s : Stt F Γ Δ σ H) (hp : H p = none) (e2 : Same H H2) (h2 : H2 p = some o) (ho : O.r (Hide (p :: (dom Δ ++ F.M)) H2) o) : Stt F Γ ((p, O) :: Δ) σ H2 := by
  have up : Same (Hid F Δ H) (Hid F ((p, O) :: Δ) H2) := fun a u e => by
    have e' := hide_le _ _ e
    have ne : a ≠ p := ne_of_none e' hp
    have na : a ∉ dom Δ ++ F.M := fun z => by
      rw [show Hid F Δ H a = none from hide_in z] at e; cases e
    show Hide (p :: (dom Δ ++ F.M)) _ a = _
    rw [hide_out (by intro z; rcases List.mem_cons.mp z with z | z; exact ne z; exact na z)]
    exact e2 _ _ e'
  have h0 : F.H0 p = none := s.ex.free hp
  refine ⟨s.ex.trans e2, fun q hq => ?_, s.lv, List.nodup_cons.mpr ⟨fun z => s.new hp (List.mem_append_left _ z), s.nd⟩, fun q hq => ?_, fun g hg => g.2.m up (s.gh g hg), s.sl.mono up⟩
  · rcases List.mem_cons.mp hq with z | z
    · rw [z]; exact h0
    · exact s.fr q z
  · rcases List.mem_cons.mp hq with z | z
    · subst z; exact ⟨_, h2, ho⟩
    · obtain ⟨u, c, d⟩ := s.ow q z
      exact ⟨u, e2 _ _ c, q.2.m up d⟩
/-- x = (a fresh object), owned -/
theorem b_ownF {O : Addr → OP} {i : Nat} {x : Str} {pos' : Pos} (hN : X.N.Nodup) (he : EF X F Γ Δ e O) (h : ∀ p, BK X F (Γ.set i (some (Vl (.ref p)))) ((p, O p) :: Δ) rest P) (hi : X.N[i]? = some x := by rfl) (hx : Loc X.env.scope x := by first | exact Or.inl rfl | exact Or.inr rfl)
    (hs : swapsWith e (some (.Name x pos')) pos.line X.env = pure false := by rfl) (hf : X.fn x = true ∨ X.env.scope.names.lookup x = some .local := by first | exact .inl rfl | exact .inr rfl) : BK X F Γ Δ (.Assign [.Name x pos'] e pos :: rest) P :=
  ba_seq (M := fun σ H => ∃ p, Stt F (Γ.set i (some (Vl (.ref p)))) ((p, O p) :: Δ) σ H) (ps_set hN hi hx he hs hf) (fun D σ H s ple => ⟨s, fun p H2 o hp e2 h2 ho => ple.1 _ _ ⟨p, (s.take hp e2 h2 ho).set (R := Vl (.ref p)) rfl i⟩⟩) (ba_ex h)
/-- what stands for references -/
abbrev Vp (ps : List Addr) : List RP := ps.map fun p => Vl (.ref p)
abbrev owns (ps : List Addr) (O : Addr → OP) : Del := ps.map fun p => (p, O p)
abbrev lfG (F : Fm) (Γ : Gam) (Δ : Del) (O : Addr → OP) (own : List (Str × Nat)) (xs : List α) (it : α → RP) (Γt : α → Gam) (js : List Nat) : TG := fun v σ H Q => ∃ gv gR D ps x, x ∈ xs ∧ tTg (F.push gv gR) (wipeG Γ (own.map (·.2))) ((D, LOR (Vp ps)) :: (owns ps O ++ Δ)) (it x) (Γt x) js v σ H Q
abbrev lfT (F : Fm) (Δ : Del) (O : Addr → OP) (xs : List α) (Γt : α → Gam) : TT := fun σ H Q => ∃ gv gR D ps x, x ∈ xs ∧ tTb (F.push gv gR) (Γt x) ((D, LOR (Vp ps)) :: (owns ps O ++ Δ)) true σ H Q
abbrev lfE (F : Fm) (Δ : Del) (O : Addr → OP) (xs : List α) (Γt : α → Gam) : TE := fun σ H Q => ∃ gv gR D ps x, x ∈ xs ∧ tF (F.push gv gR) (Γt x) ((D, LOR (Vp ps)) :: (owns ps O ++ Δ)) O σ H Q
theorem wipe_idem (vs : List Nat) (τ : Sig) : wipe (wipe τ vs) vs = wipe τ vs := by
  have out : ∀ (us vs : List Nat) (τ : Sig), (∀ u ∈ us, u ∈ vs) → wipe (wipe τ us) vs = wipe τ vs := by
    intro us
    induction us with
    | nil => intro vs τ _; rfl
    | cons u us ih =>
      intro vs τ h
      show wipe ((wipe τ us).set u none) vs = _
      rw [wipe_set (h u (List.mem_cons_self ..))]
      exact ih vs τ fun z hz => h z (List.mem_cons_of_mem _ hz)
  exact out vs vs τ fun _ h => h
/-- x = [(a fresh object) for ..], each owned, the list given away -/
theorem b_ownLcF {O : Addr → OP} {i : Nat} {x : Str} {pos' spos : Pos} (hc : X.calm = true) (hN : X.N.Nodup) (hit : IT X F Γ Δ tg iter xs it) (ok : BlkOk X.N X.env.scope scope own)
    (ht : ∀ (s : Shared) (H : Hp) (C : Addr) (cl : List (Str × Addr)) (fp : List Addr) gv gR (D : Addr) (ps : List Addr) (x : α), x ∈ xs → TG' (X.blk s H scope (compEnvC scope cl C X.env) fp) (F.push gv gR) (wipeG Γ (own.map (·.2))) ((D, LOR (Vp ps)) :: (owns ps O ++ Δ)) tg (it x) (Γt x) js)
    (he : ∀ (s : Shared) (H : Hp) (C : Addr) (cl : List (Str × Addr)) (fp : List Addr) gv gR (D : Addr) (ps : List Addr) (x : α), x ∈ xs → EF (X.blk s H scope (compEnvC scope cl C X.env) fp) (F.push gv gR) (Γt x) ((D, LOR (Vp ps)) :: (owns ps O ++ Δ)) elt O)
    (hj : ∀ j ∈ js, j ∈ own.map (·.2)) (hl : xs.length ≤ 100000) (hil : i < Γ.length)
    (hr : ∀ ps, ps.length = xs.length → BK X F (Γ.set i (some (LR (Vp ps)))) (owns ps O ++ Δ) rest P) (hi : X.N[i]? = some x := by rfl) (hyl : X.env.scope.names.lookup x = some .local := by rfl)
    (hsw : swapsWith (.ListComp elt [⟨tg, iter, [], 0⟩] scope pos) (some (.Name x pos')) spos.line X.env = pure true := by exact sw_true rfl rfl rfl (by decide +kernel)) (hs : ∀ x, foldedSetIterable iter X.env x = pure x := by intro _; rfl) :
    BK X F Γ Δ (.Assign [.Name x pos'] (.ListComp elt [⟨tg, iter, [], 0⟩] scope pos) spos :: rest) P :=
  ba_seq (M := fun σ H => ∃ ps, ps.length = xs.length ∧ Stt F (Γ.set i (some (LR (Vp ps)))) (owns ps O ++ Δ) σ H) (ps_setLc (g := lfG F Γ Δ O own xs it Γt js) (tt := lfT F Δ O xs Γt) (te := lfE F Δ O xs Γt) hc hN hi hyl hsw hit ok
    (fun s H C cl fp => ⟨fun pins s' σ H' v u Q I r ⟨gv, gR, D, ps, x, hx, q⟩ => (ht s H C cl fp gv gR D ps x hx).run pins s' σ H' v u Q I r q⟩)
    (fun s H C cl fp => ⟨fun pins s' σ H' Q I ⟨gv, gR, D, ps, x, hx, q⟩ => ets_nil.run pins s' σ H' Q I q⟩)
    (fun s H C cl fp => ⟨fun pins s' σ H' Q I ⟨gv, gR, D, ps, x, hx, q⟩ => (he s H C cl fp gv gR D ps x hx).run pins s' σ H' Q I q⟩) hs)
    (fun D0 σ H s ple => by
      refine ⟨s, fun J H1 gv gR e1 hg ok D hD => ?_⟩
      have s1 : Stt (F.push gv gR) (wipeG Γ (own.map (·.2))) Δ (wipe σ (own.map (·.2))) H1 :=
        let z := (s.mono e1).push hg
        ⟨z.ex, z.fr, z.lv, z.nd, z.ow, z.gh, slots_wipe z.sl _⟩
      -- the callers' slots are kept beside
      refine ⟨fun n m H' => m = xs.length - n ∧ n ≤ xs.length ∧ ∃ ps : List Addr, ps.length = n ∧ (∀ p ∈ ps, H1 p = none) ∧ Same H1 H' ∧ Stt (F.push gv gR) (wipeG Γ (own.map (·.2))) ((D, LOR (Vp ps)) :: (owns ps O ++ Δ)) (wipe σ (own.map (·.2))) H', ?_, ?_⟩
      · refine ⟨xs.length, rfl, Nat.zero_le _, [], rfl, (fun p h => by cases h), same_new hD, ?_⟩
        exact s1.own (O := LOR []) hD fun G _ => (⟨[], rfl, trivial, Nat.zero_le _⟩ : ∃ ys, HO.lst [] = HO.lst ys ∧ AllR G ys [] ∧ ys.length ≤ sizeLine)
      rintro n m H' ⟨rfl, hn, ps, hps, hpn, e', s'⟩
      obtain ⟨k1, k2⟩ := ok (dom ((D, LOR (Vp ps)) :: (owns ps O ++ Δ)) ++ F.M) H' s'.mem fun p hp => s'.live hp
      by_cases hlt : n < xs.length
      · have hx := List.getElem?_eq_getElem hlt
        have hmem : xs[n] ∈ xs := List.getElem_mem hlt
        generalize xs[n] = x at hx hmem
        obtain ⟨go, yld⟩ := k1 n x hx
        refine .inr ⟨go, fun H' => ∃ ps : List Addr, ps.length = n + 1 ∧ (∀ p ∈ ps, H1 p = none) ∧ Same H1 H' ∧ Stt (F.push gv gR) (wipeG Γ (own.map (·.2))) ((D, LOR (Vp ps)) :: (owns ps O ++ Δ)) (wipe σ (own.map (·.2))) H', fun H2 h2 => ⟨xs.length - (n + 1), by omega, rfl, hlt, h2⟩, fun v H2 hy => ?_⟩
        obtain ⟨e2, rv⟩ := yld v H2 hy
        refine ⟨gv, gR, D, ps, x, hmem, ⟨s'.mono e2, rv⟩, fun σ3 s3 w3 => ⟨by rw [w3 (own.map (·.2)) hj]; exact wipe_idem _ _, gv, gR, D, ps, x, hmem, s3, fun H3 e3 => ?_⟩⟩
        refine iteT ⟨gv, gR, D, ps, x, hmem, s3.mono e3, fun p H4 o hp e4 h4 ho => ?_⟩
        have s4 := (s3.mono e3).take hp e4 h4 ho
        have s5 := ((s'.mono e2).mono e3).take (O := O p) hp e4 h4 ho
        obtain ⟨ys, g, ga, gz⟩ := s4.lst (k := 1) rfl
        have hlen : ys.length < sizeLine := by
          rw [ga.len, sizeLine_eq]; simp; omega
        refine ⟨ys, g, hlen, ps ++ [p], by simp [hps], ?_, ?_, ?_⟩
        · intro q hq
          rcases List.mem_append.mp hq with h | h
          · exact hpn q h
          · rw [List.mem_singleton.mp h]
            exact ((e'.trans e2).trans e3).free hp
        · intro a u h
          rw [upd_ne (ne_of_none h hD)]
          exact e4 _ _ (e3 _ _ (e2 _ _ (e' _ _ h)))
        · have s6 := s5.wrk (k := 1) (O' := LOR (Vp (ps ++ [p]))) (o := .lst (ys ++ [.ref p])) rfl ⟨_, rfl, by
            rw [show Vp (ps ++ [p]) = Vp ps ++ [Vl (.ref p)] from by simp [Vp]]
            exact AllR.app ga ⟨rfl, trivial⟩, by rw [List.length_append]; show ys.length + 1 ≤ _; omega⟩
          refine s6.perm ?_
          show ((p, O p) :: (D, LOR (Vp (ps ++ [p]))) :: (owns ps O ++ Δ)).Perm _
          refine (List.Perm.swap _ _ _).trans (List.Perm.cons _ ?_)
          have : owns (ps ++ [p]) O ++ Δ = owns ps O ++ ((p, O p) :: Δ) := by simp [owns]
          rw [this]
          exact List.perm_middle.symm
      · have ei : n = xs.length := by omega
        subst ei
        refine .inl ⟨k2, ?_⟩
        obtain ⟨s2, o, h1, ys, rfl, ha, _⟩ := s'.erase (k := 0) (p := D) (O := LOR (Vp ps)) rfl
        have s2 : Stt (F.push gv gR) (wipeG Γ (own.map (·.2))) (owns ps O ++ Δ) (wipe σ (own.map (·.2))) H' := s2
        have up : Same (Hid F Δ H) (Hid (F.push gv gR) (owns ps O ++ Δ) H') := fun a u h => by
          have h' := hide_le _ _ h
          have na : a ∉ dom Δ ++ F.M := fun z => by rw [show Hid F Δ H a = none from hide_in z] at h; cases h
          show Hide _ _ a = _
          rw [hide_out]
          · exact e' _ _ (e1 _ _ h')
          · intro z
            rcases List.mem_append.mp z with z | z
            · simp only [dom, owns, List.map_append, List.mem_append, List.map_map] at z
              rcases z with z | z
              · obtain ⟨q, hq, rfl⟩ := List.mem_map.mp z
                have h2 : H1 q = some u := e1 _ _ h'
                rw [hpn q hq] at h2
                cases h2
              · exact na (List.mem_append_left _ z)
            · exact na (List.mem_append_right _ z)
        have s3 : Stt F Γ (owns ps O ++ Δ) σ H' := ⟨s2.ex, s2.fr, s2.lv, s2.nd, s2.ow, fun g hg => s2.gh g (List.mem_cons_of_mem _ hg), s.sl.mono up⟩
        exact ple.1 _ _ ⟨ps, hps, s3.set (R := LR (Vp ps)) ⟨D, ys, rfl, h1, ha⟩ i⟩) (ba_ex fun ps => ba_cond fun h => hr ps h)
/-- what is owned, row by row -/
abbrev rowsO (K : PySem.W.Frag) (ps : List Addr) (cs : List (List PyData)) : Del := List.zipWith (fun p c => (p, LO K c)) ps cs
theorem rowsO_nil {K : PySem.W.Frag} : ∀ (ps : List Addr), rowsO K ps (List.replicate ps.length []) = owns ps (fun _ => LOR [])
  | [] => rfl
  | p :: ps => by
    show (p, LO K []) :: rowsO K ps (List.replicate ps.length []) = _
    rw [rowsO_nil ps]; rfl
theorem zipWith_set {α β γ : Type} {f : α → β → γ} : ∀ {ps : List α} {cs : List β} {k : Nat} {p : α} {c : β}, ps[k]? = some p → (List.zipWith f ps cs).set k (f p c) = List.zipWith f ps (cs.set k c)
  | [], _, _, _, _, h => by simp at h
  | p :: ps, [], k, _, _, h => by simp
  | p :: ps, c :: cs, 0, _, _, h => by simp at h; subst h; rfl
  | p :: ps, c :: cs, k + 1, q, d, h => by
    have ih := zipWith_set (f := f) (ps := ps) (cs := cs) (k := k) (p := q) (c := d) (by simpa using h)
    show f p c :: (List.zipWith f ps cs).set k _ = f p c :: List.zipWith f ps (cs.set k _)
    rw [ih]
theorem rowsO_get {K : PySem.W.Frag} {ps : List Addr} {cs : List (List PyData)} {k : Nat} {p : Addr} {c : List PyData} (h1 : ps[k]? = some p) (h2 : cs[k]? = some c) : (rowsO K ps cs)[k]? = some (p, LO K c) := by
  rw [List.getElem?_zipWith, h1, h2]
theorem Stt.dropA : ∀ {A : Del}, Stt F Γ (A ++ Δ) σ H → Stt F Γ Δ σ H ∧ ∀ q ∈ A, ∃ o, Hid F Δ H q.1 = some o ∧ q.2.r (Hid F Δ H) o
  | [], s => ⟨s, fun q h => by cases h⟩
  | (p, O) :: A, s => by
    have s1 : Stt F Γ (A ++ Δ) σ H := Stt.drop (Δ1 := []) s
    obtain ⟨o, h1, h2⟩ := Stt.froz (Δ1 := []) s
    obtain ⟨s2, h3⟩ := Stt.dropA s1
    have up : Same (Hid F ([] ++ (A ++ Δ)) H) (Hid F Δ H) := hide_sub fun a ha => by
      rcases List.mem_append.mp ha with h | h
      · exact List.mem_append_left _ (by simp only [dom, List.nil_append, List.map_append, List.mem_append]; exact .inr h)
      · exact List.mem_append_right _ h
    refine ⟨s2, fun q hq => ?_⟩
    rcases List.mem_cons.mp hq with h | h
    · subst h
      exact ⟨o, up _ _ h1, O.m up h2⟩
    · exact h3 q h
/-- the rows are given away -/
theorem b_frzRows {i : Nat} {ps : List Addr} {cs : List (List PyData)} (hl : ps.length = cs.length) (hΓ : Γ[i]? = some (some (LR (Vp ps)))) (h : BK X F (Γ.set i (some (LP X.K (cs.map .list)))) Δ rest P) : BK X F Γ (rowsO X.K ps cs ++ Δ) rest P :=
  ba_imp h fun σ H s => by
    obtain ⟨s1, k⟩ := s.dropA
    obtain ⟨v, hv, a, xs, rfl, h1, h2⟩ := s1.get hΓ
    have key : ∀ (ps : List Addr) (cs : List (List PyData)) (xs : List V), ps.length = cs.length → (∀ q ∈ rowsO X.K ps cs, ∃ o, Hid F Δ H q.1 = some o ∧ q.2.r (Hid F Δ H) o) → AllR (Hid F Δ H) xs (Vp ps) → DpAll X.K (Hid F Δ H) xs (cs.map .list) := by
      intro ps
      induction ps with
      | nil =>
        intro cs xs hl k ha
        cases cs with
        | nil => cases xs with
          | nil => exact .nil
          | cons _ _ => exact ha.elim
        | cons _ _ => simp at hl
      | cons p ps ih =>
        intro cs xs hl k ha
        cases cs with
        | nil => simp at hl
        | cons c cs =>
          cases xs with
          | nil => exact ha.elim
          | cons x xs =>
            obtain ⟨o, g1, ys, rfl, g2, _⟩ := k (p, LO X.K c) (List.mem_cons_self ..)
            have hx : x = .ref p := ha.1
            subst hx
            exact .cons (Dp.lst (SqL.of g1) (AllR.data.mp g2)) (ih cs xs (by simpa using hl) (fun q hq => k q (List.mem_cons_of_mem _ hq)) ha.2)
    have s2 := s1.set (v := .ref a) (R := LP X.K (cs.map .list)) ⟨a, xs, rfl, h1, key ps cs xs hl k h2⟩ i
    have hl2 : i < σ.length := (List.getElem?_eq_some_iff.mp hv).1
    have e2 : σ.set i (some (V.ref a)) = σ := by
      apply List.ext_getElem?
      intro j
      by_cases hj : i = j
      · subst hj; rw [List.getElem?_set_self hl2, hv]
      · rw [List.getElem?_set_ne hj]
    rw [e2] at s2
    exact s2
end
end Fr
set_option Elab.async false
set_option linter.all false
set_option maxRecDepth 100000
/-! Lay10: two ways that meet again; small helpers. -/
namespace Fr
open PySem PySem.Spec PySem.Calls L2
theorem getD_get {α : Type} {l : List α} {k : Nat} {d : α} (h : k < l.length) : l[k]? = some (l.getD k d) := by
  rw [List.getD_eq_getElem?_getD, List.getElem?_eq_getElem h]; rfl
theorem atI_mapN {α β : Type} {f : α → β} {l : List α} {k : Nat} {d : α} (h : k < l.length) : atI (l.map f) (k : Int) = some (f (l.getD k d)) := by
  refine atI_nat ?_
  rw [List.getElem?_map, getD_get (d := d) h]; rfl
theorem atI_map {α β : Type} {f : α → β} {l : List α} {i : Int} {d : α} (h : 0 ≤ i ∧ i < l.length) : atI (l.map f) i = some (f (l.getD i.toNat d)) := by
  have e : i = ((i.toNat : Nat) : Int) := by omega
  have h' : i.toNat < l.length := by omega
  have := atI_mapN (f := f) (d := d) h'
  rw [← e] at this
  exact this
theorem room65 {k : Nat} {A : Around} (r : Room k A) : A.units + 65 < cLine := by have := r.un; omega
theorem room64 {k : Nat} {A : Around} (r : Room k A) : A.units + 64 < cLine := by have := r.un; omega
theorem layAll_map {α : Type} {g : α → PyData} (h : ∀ x, (g x).canLay0 = true) : ∀ l : List α, PyData.canLayAll0 (l.map g) = true
  | [] => rfl
  | x :: r => by simp [PyData.canLayAll0, h x, layAll_map h r]
theorem depthAll_map {α : Type} {g : α → PyData} {n : Nat} (h : ∀ x, (g x).depth ≤ n) : ∀ l : List α, PyData.depthAll (l.map g) ≤ n
  | [] => Nat.zero_le _
  | x :: r => by
    have h1 := h x
    have h2 := depthAll_map h r
    simp [PyData.depthAll]; omega
theorem shaped_map {α : Type} {g : α → PyData} {n : Nat} (h : ∀ x, (g x).canLay0 = true) (h2 : ∀ x, (g x).depth ≤ n) (hn : n < 60) (l : List α) : SeqAt.shaped (.list (l.map g)) = true := by
  have := depthAll_map h2 l
  simp [SeqAt.shaped, PyData.canLay0, PyData.depth, layAll_map h]
  omega
/-- a figure of a short list -/
theorem at_pick {l : List Int} {i : Int} {p : Int → Prop} (h : 0 ≤ i ∧ i < l.length) (hp : ∀ x ∈ l, p x) : ∃ z, atI (l.map PyData.int) i = some (.int z) ∧ p z :=
  ⟨_, atI_map (f := PyData.int) (d := 0) h, hp _ (List.mem_of_getElem? (getD_get (d := 0) (by omega)))⟩
section
variable {X : Cx} {F : Fm} {Γ Γ' : Gam} {Δ Δ' : Del} {e c : Expr} {rest tb eb : List Stmt} {pos : Pos} {R R' : RP} {P : Ends} {b : Bool}
theorem b_ifE {β : Type} (C : β → Prop) (Γi : β → Gam) (Δi : β → Del) (hc : ET X F Γ Δ c b) (h1 : b = true → BK X F Γ Δ tb { P with nx := fun σ H => ∃ y, C y ∧ Stt F (Γi y) (Δi y) σ H }) (h2 : b = false → BK X F Γ Δ eb { P with nx := fun σ H => ∃ y, C y ∧ Stt F (Γi y) (Δi y) σ H })
    (h : ∀ y, C y → BK X F (Γi y) (Δi y) rest P) : BK X F Γ Δ (.If c tb eb pos :: rest) P :=
  b_if hc (fun hb => ⟨_, h1 hb, ba_ex fun y => ba_cond fun k => h y k⟩) fun hb => ⟨_, h2 hb, ba_ex fun y => ba_cond fun k => h y k⟩
/-- the end of a way, or of a turn -/
theorem b_one {β : Type} {C : β → Prop} {Γi : β → Gam} {Δi : β → Del} (y : β) (k : C y) (l : Le (Γi y) Γ) (e2 : Δ = Δi y) (hP : P.nx = fun σ H => ∃ y, C y ∧ Stt F (Γi y) (Δi y) σ H := by rfl) : BK X F Γ Δ [] P := b_nil fun σ H s => by
  rw [hP]; exact ⟨y, k, s.cast l e2⟩
theorem ev_exi {α : Type} {Q : α → RP} (y : α) (h : EV X F Γ Δ e (Q y)) : EV X F Γ Δ e (Exi Q) := ev_le h fun G v r => ⟨y, r⟩
theorem b_endE {α : Type} {Q : α → RP} (y : α) (he : EV X F Γ Δ e (Q y)) (hP : P.rt = retP F (Exi Q)) : BK X F Γ Δ (.Return (some e) pos :: rest) P := b_end (ev_exi y he) hP
theorem b_eqD (h : Δ = Δ') (k : BK X F Γ Δ' rest P) : BK X F Γ Δ rest P := h ▸ k
/-- what is known is weakened at one place -/
theorem b_seeE {α : Type} {Q : α → RP} {i : Nat} (hΓ : Γ[i]? = some (some (Exi Q))) (h : ∀ y, BK X F (Γ.set i (some (Q y))) Δ rest P) : BK X F Γ Δ rest P :=
  ba_imp (ba_ex h) fun σ H s => by
    obtain ⟨v, hv, y, r⟩ := s.get hΓ
    have s2 := s.set (v := v) (R := Q y) r i
    have hl2 : i < σ.length := (List.getElem?_eq_some_iff.mp hv).1
    have e2 : σ.set i (some v) = σ := by
      apply List.ext_getElem?
      intro j
      by_cases hj : i = j
      · subst hj; rw [List.getElem?_set_self hl2, hv]
      · rw [List.getElem?_set_ne hj]
    rw [e2] at s2
    exact ⟨y, s2⟩
end
end Fr
set_option Elab.async false
set_option linter.all false
set_option maxRecDepth 100000
/-! LayD: dicts whose keys are data (tuples, nested). -/
namespace Fr
open PySem PySem.Spec PySem.Calls L2
abbrev NK := PySem.NestedKey
mutual
def keyOf : PyData → NK
  | .int i => .num i
  | .str x => .text x
  | .tuple ds => .tup (keysOf ds)
  | .none => .none
  | .bool b => .num (if b then 1 else 0)
  | .list _ => .none
  | .dict _ => .none
def keysOf : List PyData → List NK
  | [] => []
  | d :: ds => keyOf d :: keysOf ds
end
mutual
def keyable : PyData → Bool
  | .int _ => true
  | .str _ => true
  | .tuple ds => keyables ds
  | .none => true
  | .bool _ => false
  | .list _ => false
  | .dict _ => false
def keyables : List PyData → Bool
  | [] => true
  | d :: ds => keyable d && keyables ds
end
section
variable {X : Cx} {pins : List (Addr × Obj)} {σ : L2.St} {H : Hp} {s : Shared}
mutual
theorem key_is (I : Inv X pins σ H s) : ∀ {d : PyData} {v : V} {u : Value}, Dp X.K H v d → RelV v u → keyable d = true → NestedIs s.heap (keyOf d) u
  | .int i, v, u, h, r, _ => by
    cases h
    obtain ⟨t, rfl⟩ := (show ∃ t, u = Value.int i t from r)
    exact .int i t
  | .str x, v, u, h, r, _ => by
    cases h
    obtain ⟨t, rfl⟩ := (show ∃ t, u = Value.str x t from r)
    exact .text x t
  | .none, v, u, h, r, _ => by
    cases h
    obtain rfl : u = Value.none := r
    exact .none
  | .tuple ds, v, u, h, r, k => by
    cases h with
    | @tup a xs _ hs ha =>
      obtain rfl : u = Value.ref a := r
      obtain ⟨its, rv, ⟨o, ho, hc, n, hd⟩, _⟩ := I.tuple hs
      exact .tup ho hc hd (by rw [show its.toArray.toList = its from rfl]; exact keys_are I ha rv k)
  | .bool _, _, _, _, _, k => by cases k
  | .list _, _, _, _, _, k => by cases k
  | .dict _, _, _, _, _, k => by cases k
theorem keys_are (I : Inv X pins σ H s) : ∀ {ds : List PyData} {vs : List V} {us : List Value}, DpAll X.K H vs ds → Vals vs us → keyables ds = true → NestedAll s.heap (keysOf ds) us
  | [], _, _, h, r, _ => by cases h; cases r; exact .nil
  | d :: ds, _, _, h, r, k => by
    cases h with
    | cons h1 h2 =>
      cases r with
      | cons r1 r2 =>
        have k' : (keyable d && keyables ds) = true := k
        rw [Bool.and_eq_true] at k'
        exact .cons (key_is I h1 r1 k'.1) (keys_are I h2 r2 k'.2)
end
/-- at b stands the key k -/
def KR (K : PySem.W.Frag) (H : Hp) (k : NK) (b : Addr) : Prop := ∃ e : PyData, keyable e = true ∧ keyOf e = k ∧ k.depth ≤ 8 ∧ Dp K H (.ref b) e
theorem KR.mono {K : PySem.W.Frag} {H H' : Hp} {k : NK} {b : Addr} (e : Same H H') (h : KR K H k b) : KR K H' k b := by
  obtain ⟨d, h1, h2, h3, h4⟩ := h
  exact ⟨d, h1, h2, h3, dp_mono e h4⟩
theorem KR.is (I : Inv X pins σ H s) {k : NK} {b : Addr} (h : KR X.K H k b) : (nestedKind X.prog X.w).is s.heap k b := by
  obtain ⟨d, h1, rfl, h3, h4⟩ := h
  exact ⟨key_is I h4 rfl h1, h3⟩
/-- this very object -/
def dphi (d : Addr) (o : Obj) : Heap → Prop := fun h => h.get? d = some o
/-- it is a dict with these entries -/
def IsD (P : Program) (w : World) (o : Obj) (xs : List (NK × Addr × Value)) : Prop := ∃ es ep, o.ExactDict ∧ o.data = .dict es ep ∧ es.toList = xs.map (entryOfKey (nestedKind P w))
/-- at d stands a dict with these entries -/
structure Di (P : Program) (w : World) (K : PySem.W.Frag) (H : Hp) (d : Addr) (xs : List (NK × Addr × Value)) : Prop where
  obj : ∃ o, H d = some (.ext (dphi d o)) ∧ IsD P w o xs
  sys : (d == sysModules) = false
  keys : ∀ x ∈ xs, KR K H x.1 x.2.1
  nod : (xs.map (·.1)).Nodup
  len : xs.length ≤ sizeLine
theorem Di.mono {P : Program} {w : World} {K : PySem.W.Frag} {H H' : Hp} {d : Addr} {xs : List (NK × Addr × Value)} (e : Same H H') (h : Di P w K H d xs) : Di P w K H' d xs := ⟨let ⟨o, h1, h2⟩ := h.obj; ⟨o, e _ _ h1, h2⟩, h.sys, fun x hx => (h.keys x hx).mono e, h.nod, h.len⟩
theorem Di.dict (I : Inv X pins σ H s) {d : Addr} {xs : List (NK × Addr × Value)} (h : Di X.prog X.w X.K H d xs) : s.heap.DictOfH (nestedKind X.prog X.w) d xs := by
  obtain ⟨o, h1, es, ep, h2, h3, h4⟩ := h.obj
  obtain ⟨h5, _⟩ := (I.hok d _ h1 : ObjOk X.prog X.w H s.heap d (.ext _))
  exact ⟨o, es, ep, h5, h2, h3, h4, fun x hx => (h.keys x hx).is I, h.nod⟩
theorem Di.type (I : Inv X pins σ H s) {d : Addr} {xs : List (NK × Addr × Value)} (h : Di X.prog X.w X.K H d xs) : s.TypeIs (.ref d) "dict" := (h.dict I).typeIs
theorem Di.plain (I : Inv X pins σ H s) {d : Addr} {xs : List (NK × Addr × Value)} (h : Di X.prog X.w X.K H d xs) : ∀ b, Value.ref d = .ref b → ∃ ob, s.heap.get? b = some ob ∧ ob.dict = none := fun b q => by
  cases q
  obtain ⟨ob, _, _, h1, h2, _⟩ := h.dict I
  exact ⟨ob, h1, h2.2.1⟩
theorem nk_room {A : Around} {k : Nat} (hr : Room k A) : (nestedKind X.prog X.w).room A.in1 := by
  have h := hr.un
  show A.in1.units + 8 < cLine
  show A.units + 1 + 8 < cLine
  omega
theorem dphi_ok {P : Program} {w : World} {H : Hp} {h : Heap} {d : Addr} {o : Obj} (x : h.get? d = some o) : ObjOk P w H h d (.ext (dphi d o)) :=
  ⟨x, ⟨o, x⟩, fun g1 g2 h1 k => k o h1⟩
theorem di_write {h' : Heap} {t' : Nat} {d : Addr} {xs xs' : List (NK × Addr × Value)} (I : Inv X pins σ H s) (D : Di X.prog X.w X.K H d xs) (dd : h'.DictOfH (nestedKind X.prog X.w) d xs') (hs : Heap.SameBut d s.heap h') : ∃ o', IsD X.prog X.w o' xs' ∧ Inv X pins σ (upd H d (.ext (dphi d o'))) { s with heap := h', toks := t' } := by
  obtain ⟨o, es, ep, h1, h2, h3, h4, _⟩ := dd
  obtain ⟨o0, e0, _⟩ := D.obj
  exact ⟨o, ⟨es, ep, h2, h3, h4⟩, d_write I (by rw [e0]; exact True.intro) hs ⟨o, h1⟩ (dphi_ok h1)⟩
end
/-! ### steps -/
section
variable {X : Cx} {o i e f value : Expr} {pos pos' apos cpos : Pos} {td ty tv : TE} {k : Nat}
def tInN (X : Cx) (ty td : TE) : TE := fun σ H Q => ty σ H fun y H1 => td σ H1 fun x H2 => ∃ (d : Addr) (xs : List (NK × Addr × Value)) (q : NK) (b : Addr), x = .ref d ∧ y = .ref b ∧ Di X.prog X.w X.K H2 d xs ∧ KR X.K H2 q b ∧ Q (.bl (atKey xs q).isSome) H2
theorem pc_inN (hr : Room k X.A) (hi : PE X i ty) (ho : PE X o td) : PC X .In i o (tInN X ty td) := by
  refine ⟨fun pins s σ H Q I h => ?_⟩
  refine thn (hi.run pins s σ H _ I h) fun iv s1 ⟨y, H1, I1, ry, q1⟩ => thn (ho.run pins s1 σ H1 _ I1 q1) fun u s2 ⟨x, H2, I2, rx, d, xs, q, b, ex, ey, D, kr, q2⟩ => ?_
  subst ex ey
  obtain rfl : u = Value.ref d := rx
  obtain rfl : iv = Value.ref b := ry
  exact wpAny_in_heap (nk_room (X := X) hr) (kr.is I2) D.sys (D.dict I2) ⟨.bl (atKey xs q).isSome, H2, I2.tok _, rfl, q2⟩
def tGetN (X : Cx) (td ty : TE) : TE := fun σ H Q => td σ H fun x H1 => ty σ H1 fun y H2 => ∃ (d : Addr) (xs : List (NK × Addr × Value)) (q : NK) (b : Addr) (p : Addr × Value) (v : V), x = .ref d ∧ y = .ref b ∧ Di X.prog X.w X.K H2 d xs ∧ KR X.K H2 q b ∧ atKey xs q = some p ∧ RelV v p.2 ∧ Q v H2
theorem pe_getN (hr : Room k X.A) (ho : PE X o td) (hi : PE X i ty) (hs : NoSl i) : PE X (.Subscript o i pos) (tGetN X td ty) := by
  refine ⟨fun pins s σ H Q I h => ?_⟩
  refine subD_of PySem.F.slot_dict_getitem.lookup hs (thn (ho.run pins s σ H _ I h) fun u s1 ⟨x, H1, I1, rx, q1⟩ => thn (hi.run pins s1 σ H1 _ I1 q1) fun iv s2 ⟨y, H2, I2, ry, d, xs, q, b, p, v, ex, ey, D, kr, hp, rv, q2⟩ => ?_)
  subst ex ey
  obtain rfl : u = Value.ref d := rx
  obtain rfl : iv = Value.ref b := ry
  exact ⟨D.type I2, wpAny_getItem_heap (nk_room (X := X) hr) (kr.is I2) (D.dict I2) hp ⟨v, H2, I2.tok _, rv, q2⟩⟩
def sPutN (X : Cx) (td ty tv : TE) : TS := fun D σ H => tv σ H fun v H1 => td σ H1 fun x H2 => ty σ H2 fun y H3 => ∃ (d : Addr) (xs : List (NK × Addr × Value)) (q : NK) (b : Addr), x = .ref d ∧ y = .ref b ∧ Di X.prog X.w X.K H3 d xs ∧ KR X.K H3 q b ∧
  ∀ u, RelV v u → ∀ o', IsD X.prog X.w o' (storedH xs q b u) → D.nx σ (upd H3 d (.ext (dphi d o')))
theorem ps_putN (hr : Room k X.A) (ho : PE X o td) (hi : PE X i ty) (hv : PE X value tv) (hs : swapsWith value (some (.Subscript o i pos')) pos.line X.env = pure false) : PS X (.Assign [.Subscript o i pos'] value pos) (sPutN X td ty tv) := by
  refine ⟨fun pins s σ H D I h => ?_⟩
  refine wpAny_Assign_Subscript (thn (hv.run pins s σ H _ I h) fun r s1 ⟨v, H1, I1, rv, q1⟩ => thn (ho.run pins s1 σ H1 _ I1 q1) fun u s2 ⟨x, H2, I2, rx, q2⟩ => thn (hi.run pins s2 σ H2 _ I2 q2) fun iv s3 ⟨y, H3, I3, ry, d, xs, q, b, ex, ey, D, kr, q3⟩ => ?_) hs
  subst ex ey
  obtain rfl : u = Value.ref d := rx
  obtain rfl : iv = Value.ref b := ry
  exact wpAny_setItem_heap (hsz := D.len) (nk_room (X := X) hr) (kr.is I3) (D.dict I3) fun h' dd hs => let ⟨o', io, I4⟩ := di_write I3 D dd hs; ⟨σ, _, I4, q3 r rv o' io⟩
/-- d.setdefault(k, v) -/
def tSdN (X : Cx) (to : TE) (t : TA) : TE := fun σ H Q => to σ H fun x H1 => (∃ (d : Addr) (xs : List (NK × Addr × Value)), x = .ref d ∧ Di X.prog X.w X.K H1 d xs) ∧ t σ H1 fun vs H2 => ∃ (d : Addr) (xs : List (NK × Addr × Value)) (q : NK) (b : Addr) (v : V), x = .ref d ∧ vs = [.ref b, v] ∧ Di X.prog X.w X.K H2 d xs ∧ KR X.K H2 q b ∧
  (∀ p, atKey xs q = some p → ∃ z, RelV z p.2 ∧ Q z H2) ∧ (atKey xs q = none → ∀ u, RelV v u → ∀ o', IsD X.prog X.w o' (storedH xs q b u) → Q v (upd H2 d (.ext (dphi d o'))))
theorem pe_sdN {es : List Expr} {t : TA} (hr : Room k X.A) (ho : PE X o td) (ha : PA X (e :: es) t)
    (hbase : attributeBase o "setdefault" X.env (eval o X.env) = eval o X.env := by rfl)
    (hfew : ((backTo cpos (starEach (e :: es) X.env)).all (fun x => !x.1) && (backToKw cpos (keywordEach [] X.env)).all (fun x => x.1.isSome)
      && decide ((e :: es).length + ([] : List Keyword).length + (if ([] : List Keyword).isEmpty then 0 else 1) < 30)) = true := by rfl)
    (hline : (apos.endLine == cpos.line) = true := by rfl) (hs : starEach (e :: es) X.env = (false, eval e X.env) :: starEach es X.env := by rfl) (hplain : (backTo cpos (starEach es X.env)).any (·.1) = false := by rfl) :
    PE X (.Call (.Attribute o "setdefault" apos) (e :: es) [] cpos) (tSdN X td t) := by
  refine ⟨fun pins s σ H Q I h => ?_⟩
  refine wpAny_Call_method_late hbase hfew hline rfl (thn (ho.run pins s σ H _ I h) fun v s1 ⟨x, H1, I1, r1, ⟨d, xs, ex, D⟩, q1⟩ => ?_)
  subst ex
  obtain rfl : v = Value.ref d := r1
  refine ⟨"dict", "dict.setdefault", PySem.F.plainAttrs_dict, PySem.F.slot_dict_setdefault, PySem.F.type_dict_setdefault, D.type I1, D.plain I1, ?_⟩
  have hA := ha.run cpos pins s1 σ H1 _ I1 q1
  rw [hs] at hA ⊢
  refine Calls.callWith_builtin (by show (false || (backTo cpos (starEach es X.env)).any (·.1)) = false; rw [hplain] <;> rfl) (Calls.evalArgs_plain ?_)
  refine thn hA fun us s2 ⟨vs, H2, I2, r2, d', xs', q, b, v, ex, ev, D2, kr, k1, k2⟩ => ?_
  cases ex
  subst ev
  obtain ⟨u1, u2, rfl, g1, g2⟩ := vals2 r2
  obtain rfl : u1 = Value.ref b := g1
  refine call_setdefault_heap (hsz := D2.len) (nk_room (X := X) hr) (kr.is I2) D2.sys (D2.dict I2) (fun p hp => ?_) fun hn h' dd hs => ?_
  · obtain ⟨z, rz, k1⟩ := k1 p hp
    exact ⟨z, H2, I2.tok _, rz, k1⟩
  · obtain ⟨o', io, I4⟩ := di_write I2 D2 dd hs
    exact ⟨v, _, I4, g2, k2 hn u2 g2 o' io⟩
/-- {} -/
def tNewN (X : Cx) : TE := fun _ H Q => ∀ p, H p = none → (p == sysModules) = false → ∀ o', IsD X.prog X.w o' [] → Q (.ref p) (upd H p (.ext (dphi p o')))
theorem isD_new {P : Program} {w : World} : IsD P w { cls := .type "dict", data := .dict #[] } [] := ⟨#[], 0, ⟨rfl, rfl, rfl⟩, rfl, rfl⟩
theorem pe_newN : PE X (.Dict [] [] pos) (tNewN X) := ⟨fun pins s σ H Q I h =>
  wpAny_Dict_empty ⟨.ref s.heap.objs.size, _, I.laid (a := s.heap.objs.size) (o := .ext (dphi s.heap.objs.size { cls := .type "dict", data := .dict #[] })) (t' := s.toks) (fun _ _ q => Heap.get?_push_of_some _ q) (Nat.le_refl _) (dphi_ok (Heap.get?_push_size _ rfl)), rfl, h _ (I.hok.fresh (Nat.le_refl _)) (beq_eq_false_iff_ne.mpr (Ne.symm (Nat.ne_of_lt I.big))) _ isD_new⟩⟩
/-- list(d): its keys -/
def rListN (X : Cx) : List V → Hp → VK → Prop := fun vs H Q => ∃ (d : Addr) (xs : List (NK × Addr × Value)), vs = [.ref d] ∧ Di X.prog X.w X.K H d xs ∧ ∀ l, H l = none → Q (.ref l) (upd H l (.lst (xs.map fun x => V.ref x.2.1)))
theorem call_listN (hc : X.calm = true) : CallR X (.type "list") (rListN X) := by
  intro pins s σ H vs us Q I rxs h
  obtain ⟨d, xs, rfl, D, q⟩ := h
  obtain ⟨u, rfl, rx⟩ := vals1 rxs
  obtain rfl : u = Value.ref d := rx
  obtain ⟨o, es, ep, h1, h2, h3, h4, h5, h6⟩ := D.dict I
  have hes : es.size = xs.length := size_of_entries h4
  refine PySem.W.kdl_call (PySem.KdlSrc.rawDict D.sys) (I.ok.hd hc) (⟨o, h1, h2, h3⟩ : s.heap.DictRaw d es ep) (by rw [hes]; exact D.len) fun h' tk acc' c' kp e hi => ?_
  have hv : Vals (xs.map fun x => V.ref x.2.1) acc'.toList := by
    have key : ∀ (ys : List (NK × Addr × Value)) (us : List Value), us.length = ys.length → (∀ (j : Nat) (y : NK × Addr × Value), ys[j]? = some y → us[j]? = some (Value.ref y.2.1)) → Vals (ys.map fun x => V.ref x.2.1) us := by
      intro ys
      induction ys with
      | nil => intro us hl _; cases us with
        | nil => exact .nil
        | cons _ _ => simp at hl
      | cons y ys ih =>
        intro us hl hj
        cases us with
        | nil => simp at hl
        | cons u us =>
          have e0 := hj 0 y rfl
          simp at e0
          refine .cons e0 (ih us (by simpa using hl) fun j z hz => by simpa using hj (j + 1) z (by simpa using hz))
    refine key xs acc'.toList (by rw [Array.length_toList, hi.1, hes]) fun j y hy => ?_
    have hjl : j < acc'.size := by rw [hi.1, hes]; exact (List.getElem?_eq_some_iff.mp hy).1
    have e1 : acc'[j]? = some acc'[j] := Array.getElem?_eq_getElem hjl
    obtain ⟨hj2, e2⟩ := hi.2 j _ e1
    have e3 := entry_at h4 j
    rw [hy, Array.getElem?_eq_getElem hj2] at e3
    have e4 : es[j] = entryOfKey (nestedKind X.prog X.w) y := by simpa using e3
    rw [Array.getElem?_toList, e1, e2, e4]; rfl
  refine ⟨.ref s.heap.objs.size, _, I.laid (t' := tk) kp (Nat.le_refl _) (show ObjOk X.prog X.w _ h' _ (.lst (xs.map fun x => V.ref x.2.1)) from ⟨by rw [List.length_map]; exact D.len, acc'.toList, c', hv, ?_⟩), rfl, q _ (I.hok.fresh (Nat.le_refl _))⟩
  rw [Array.toArray_toList]
  exact e
end
end Fr
set_option Elab.async false
set_option linter.all false
set_option maxRecDepth 100000
/-! LayE: rules for dicts whose keys are data. -/
namespace Fr
open PySem PySem.Spec PySem.Calls L2
structure En (κ : Type) where
  enc : κ → PyData
  ok : ∀ k, keyable (enc k) = true
  dep : ∀ k, (keyOf (enc k)).depth ≤ 8
  inj : ∀ k k', keyOf (enc k) = keyOf (enc k') → k = k'
  tup : ∀ k, ∃ ds, enc k = .tuple ds
section
variable {κ : Type} [DecidableEq κ] (E : En κ) {K : PySem.W.Frag} {G G' : Hp}
inductive EntR (K : PySem.W.Frag) (G : Hp) : List (κ × RP) → List (NK × Addr × Value) → Prop
  | nil : EntR K G [] []
  | cons {k : κ} {R : RP} {a : Addr} {v : V} {u : Value} {kvs : List (κ × RP)} {xs : List (NK × Addr × Value)} : Dp K G (.ref a) (E.enc k) → R.r G v → RelV v u → EntR K G kvs xs → EntR K G ((k, R) :: kvs) ((keyOf (E.enc k), a, u) :: xs)
def getK (kvs : List (κ × RP)) (k : κ) : Option RP := (kvs.find? fun p => decide (p.1 = k)).map (·.2)
def putE (kvs : List (κ × RP)) (k : κ) (R : RP) : List (κ × RP) := if (getK kvs k).isSome then kvs.map (fun p => if p.1 = k then (p.1, R) else p) else kvs ++ [(k, R)]
variable {E}
theorem EntR.mono (e : Same G G') : ∀ {kvs : List (κ × RP)} {xs : List (NK × Addr × Value)}, EntR E K G kvs xs → EntR E K G' kvs xs
  | _, _, .nil => .nil
  | _, _, .cons (R := R) h1 h2 h3 h4 => .cons (dp_mono e h1) (R.m e h2) h3 (EntR.mono e h4)
theorem EntR.len {kvs : List (κ × RP)} {xs : List (NK × Addr × Value)} (h : EntR E K G kvs xs) : kvs.length = xs.length := by
  induction h with
  | nil => rfl
  | cons _ _ _ _ ih => simp [ih]
theorem EntR.keys {kvs : List (κ × RP)} {xs : List (NK × Addr × Value)} (h : EntR E K G kvs xs) : ∀ x ∈ xs, KR K G x.1 x.2.1 := by
  induction h with
  | nil => intro x hx; cases hx
  | @cons k R a v u kvs xs h1 h2 h3 h4 ih =>
    intro x hx
    rcases List.mem_cons.mp hx with e | e
    · subst e; exact ⟨E.enc k, E.ok k, rfl, E.dep k, h1⟩
    · exact ih x e
theorem EntR.fst {kvs : List (κ × RP)} {xs : List (NK × Addr × Value)} (h : EntR E K G kvs xs) : xs.map (·.1) = (kvs.map (·.1)).map fun k => keyOf (E.enc k) := by
  induction h with
  | nil => rfl
  | cons _ _ _ _ ih => simp [ih]
theorem EntR.nod {kvs : List (κ × RP)} {xs : List (NK × Addr × Value)} (h : EntR E K G kvs xs) (hn : (kvs.map (·.1)).Nodup) : (xs.map (·.1)).Nodup := by
  rw [h.fst]
  refine List.Pairwise.map _ ?_ hn
  intro a b hab e
  exact hab (E.inj _ _ e)
theorem dec_key {k k' : κ} : decide (keyOf (E.enc k) = keyOf (E.enc k')) = decide (k = k') := by
  by_cases h : k = k'
  · subst h; simp
  · have : keyOf (E.enc k) ≠ keyOf (E.enc k') := fun e => h (E.inj _ _ e)
    simp [h, this]
theorem EntR.got {kvs : List (κ × RP)} {xs : List (NK × Addr × Value)} (h : EntR E K G kvs xs) {k : κ} {R : RP} (e : getK kvs k = some R) : ∃ p v, atKey xs (keyOf (E.enc k)) = some p ∧ R.r G v ∧ RelV v p.2 := by
  induction h with
  | nil => cases e
  | @cons k' R' a v u kvs xs h1 h2 h3 h4 ih =>
    unfold getK at e ih
    unfold atKey at ih ⊢
    rw [List.find?_cons] at e ⊢
    show ∃ p v, Option.map _ (match decide (keyOf (E.enc k') = keyOf (E.enc k)) with | true => _ | false => _) = _ ∧ _
    rw [dec_key]
    cases hd : decide (k' = k) with
    | true =>
      simp only [hd] at e
      cases e
      exact ⟨_, v, rfl, h2, h3⟩
    | false =>
      simp only [hd] at e
      exact ih e
theorem EntR.isSome {kvs : List (κ × RP)} {xs : List (NK × Addr × Value)} (h : EntR E K G kvs xs) (k : κ) : (atKey xs (keyOf (E.enc k))).isSome = (getK kvs k).isSome := by
  induction h with
  | nil => rfl
  | @cons k' R' a v u kvs xs h1 h2 h3 h4 ih =>
    unfold getK atKey at ih ⊢
    rw [List.find?_cons, List.find?_cons]
    show (Option.map _ (match decide (keyOf (E.enc k') = keyOf (E.enc k)) with | true => _ | false => _)).isSome = (Option.map _ (match decide (k' = k) with | true => _ | false => _)).isSome
    rw [dec_key]
    cases hd : decide (k' = k) with
    | true => rfl
    | false => exact ih
theorem EntR.app {kvs kvs' : List (κ × RP)} {xs xs' : List (NK × Addr × Value)} (h : EntR E K G kvs xs) (h' : EntR E K G kvs' xs') : EntR E K G (kvs ++ kvs') (xs ++ xs') := by
  induction h with
  | nil => exact h'
  | cons h1 h2 h3 _ ih => exact .cons h1 h2 h3 ih
theorem EntR.put {kvs : List (κ × RP)} {xs : List (NK × Addr × Value)} (h : EntR E K G kvs xs) {k : κ} {R : RP} {b : Addr} {v : V} {u : Value} (hb : Dp K G (.ref b) (E.enc k)) (hv : R.r G v) (hu : RelV v u) : EntR E K G (putE kvs k R) (storedH xs (keyOf (E.enc k)) b u) := by
  unfold putE storedH
  rw [h.isSome k]
  by_cases hs : (getK kvs k).isSome = true
  · rw [if_pos hs, if_pos hs]
    clear hs
    induction h with
    | nil => exact .nil
    | @cons k' R' a v' u' kvs xs h1 h2 h3 h4 ih =>
      rw [List.map_cons, List.map_cons]
      by_cases e : k' = k
      · subst e
        rw [if_pos rfl]
        show EntR E K G _ ((if _ then _ else _) :: _)
        rw [if_pos rfl]
        exact .cons h1 hv hu ih
      · rw [if_neg (show ¬ (k', R').1 = k from e)]
        show EntR E K G _ ((if _ then _ else _) :: _)
        rw [if_neg (fun z => e (E.inj _ _ z))]
        exact .cons h1 h2 h3 ih
  · rw [if_neg hs, if_neg hs]
    exact h.app (.cons hb hv hu .nil)
theorem putE_fst {kvs : List (κ × RP)} {k : κ} {R : RP} : (putE kvs k R).map (·.1) = if (getK kvs k).isSome then kvs.map (·.1) else kvs.map (·.1) ++ [k] := by
  unfold putE
  split
  · rw [List.map_map]
    refine List.map_congr_left fun p _ => ?_
    show (if p.1 = k then (p.1, R) else p).1 = p.1
    split <;> rfl
  · simp
theorem getK_none {kvs : List (κ × RP)} {k : κ} (h : ¬ (getK kvs k).isSome = true) : k ∉ kvs.map (·.1) := fun z => by
  obtain ⟨p, hp, rfl⟩ := List.mem_map.mp z
  apply h
  unfold getK
  rw [Option.isSome_map, List.find?_isSome]
  exact ⟨p, hp, by simp⟩
theorem putE_nod {kvs : List (κ × RP)} {k : κ} {R : RP} (h : (kvs.map (·.1)).Nodup) : ((putE kvs k R).map (·.1)).Nodup := by
  rw [putE_fst]
  split
  · exact h
  · rename_i hs
    rw [List.nodup_append]
    refine ⟨h, by simp, fun a ha b hb => ?_⟩
    have : b = k := by simpa using hb
    subst this
    exact fun e => getK_none hs (e ▸ ha)
theorem putE_len {kvs : List (κ × RP)} {k : κ} {R : RP} : (putE kvs k R).length ≤ kvs.length + 1 := by
  unfold putE
  split
  · rw [List.length_map]; omega
  · simp
/-- an owned dict -/
def DO (P : Program) (w : World) (K : PySem.W.Frag) (E : En κ) (kvs : List (κ × RP)) (d : Addr) : OP where
  r := fun G ob => ∃ xs o, ob = .ext (dphi d o) ∧ IsD P w o xs ∧ (d == sysModules) = false ∧ (kvs.map (·.1)).Nodup ∧ kvs.length ≤ sizeLine ∧ EntR E K G kvs xs
  m := fun e h => by
    obtain ⟨xs, o, h1, h1', h2, h3, h4, h5⟩ := h
    exact ⟨xs, o, h1, h1', h2, h3, h4, h5.mono e⟩
/-- a dict that is given away -/
def DR (P : Program) (w : World) (K : PySem.W.Frag) (E : En κ) (kvs : List (κ × RP)) : RP where
  r := fun G v => ∃ d o, v = .ref d ∧ G d = some o ∧ (DO P w K E kvs d).r G o
  m := fun e h => by
    obtain ⟨d, o, h1, h2, h3⟩ := h
    exact ⟨d, o, h1, e _ _ h2, (DO P w K E kvs d).m e h3⟩
theorem DO.di {P : Program} {w : World} {H : Hp} {M : List Addr} {kvs : List (κ × RP)} {d : Addr} {o : HO} (h : (DO P w K E kvs d).r (Hide M H) o) (hd : H d = some o) : ∃ xs, Di P w K H d xs ∧ EntR E K (Hide M H) kvs xs := by
  obtain ⟨xs, ob, rfl, h1, h2, h3, h4, h5⟩ := h
  have h6 := h5.mono (hide_le (M := M) (H := H))
  exact ⟨xs, ⟨⟨ob, hd, h1⟩, h2, h6.keys, h6.nod h3, by rw [← h6.len]; exact h4⟩, h5⟩
end
/-! ### expressions -/
section
variable {κ : Type} [DecidableEq κ] {E : En κ} {X : Cx} {F : Fm} {Γ Γ' : Gam} {Δ Δ' : Del} {a b c e o : Expr} {es : List Expr} {rest : List Stmt} {pos pos' p' apos : Pos} {R R' : RP} {P : Ends} {p : Addr} {kvs : List (κ × RP)} {k : κ} {j n : Nat}
/-- an expression that tells a dict, owned or given away -/
def EDi (X : Cx) (F : Fm) (Γ : Gam) (Δ : Del) (E : En κ) (e : Expr) (kvs : List (κ × RP)) : Prop :=
  PE X e (fun σ H Q => Stt F Γ Δ σ H ∧ ∀ d H2 xs, Same H H2 → Di X.prog X.w X.K H2 d xs → EntR E X.K (Hid F Δ H2) kvs xs → Q (.ref d) H2)
theorem edi_own (he : EV X F Γ Δ e (Vl (.ref p))) (hk : Δ[j]? = some (p, DO X.prog X.w X.K E kvs p)) : EDi X F Γ Δ E e kvs := pe_imp he fun σ H Q ⟨s, q⟩ => ⟨s, fun v H2 e2 r2 => by
  have r2 : v = .ref p := r2
  subst r2
  obtain ⟨o, h1, h2⟩ := (s.mono e2).at hk
  obtain ⟨xs, D, g⟩ := DO.di h2 h1
  exact q p H2 xs e2 D g⟩
theorem edi_fro (he : EV X F Γ Δ e (DR X.prog X.w X.K E kvs)) : EDi X F Γ Δ E e kvs := pe_imp he fun σ H Q ⟨s, q⟩ => ⟨s, fun v H2 e2 r2 => by
  obtain ⟨d, o, rfl, h1, h2⟩ := r2
  obtain ⟨xs, D, g⟩ := DO.di h2 (hide_le _ _ h1)
  exact q d H2 xs e2 D g⟩
theorem key_ref {K : PySem.W.Frag} {G : Hp} {v : V} (h : Dp K G v (E.enc k)) : ∃ b, v = .ref b ∧ Dp K G (.ref b) (E.enc k) := by
  obtain ⟨ds, e⟩ := E.tup k
  rw [e] at h ⊢
  cases h with
  | @tup b xs _ hs ha => exact ⟨b, rfl, .tup hs ha⟩
theorem key_KR {K : PySem.W.Frag} {H : Hp} {b : Addr} (h : Dp K H (.ref b) (E.enc k)) : KR K H (keyOf (E.enc k)) b := ⟨E.enc k, E.ok k, rfl, E.dep k, h⟩
/-- k in d -/
theorem et_inN (hr : Room n X.A) (ha : EV X F Γ Δ a (D X.K (E.enc k))) (hb : EDi X F Γ Δ E b kvs) (hm : behindInMarks .In b = false := by rfl) : ET X F Γ Δ (.Compare a [.In] [b] pos) (getK kvs k).isSome :=
  pt_imp (pt_cmp (pc_inN hr ha hb) (h1 := hm)) fun σ H Q ⟨s, q⟩ => ⟨s, fun v H1 e1 r1 => ⟨s.mono e1, fun d H2 xs e2 Di2 g => by
    obtain ⟨b', rfl, h1⟩ := key_ref r1
    refine ⟨d, xs, _, b', rfl, rfl, Di2, key_KR (dp_mono (hide_le.trans e2) h1), (getK kvs k).isSome, ?_, q H2 (e1.trans e2)⟩
    rw [g.isSome k]⟩⟩
/-- d[k] -/
theorem ev_getN (hr : Room n X.A) (ha : EDi X F Γ Δ E a kvs) (hb : EV X F Γ Δ b (D X.K (E.enc k))) (hk : getK kvs k = some R) (hs : NoSl b := by exact fun _ _ => rfl) : EV X F Γ Δ (.Subscript a b pos) R :=
  pe_imp (pe_getN hr ha hb hs) fun σ H Q ⟨s, q⟩ => ⟨s, fun d H1 xs e1 D1 g1 => ⟨s.mono e1, fun v H2 e2 r2 => by
    obtain ⟨b', rfl, h1⟩ := key_ref r2
    have g2 := g1.mono (hide_mono e2)
    obtain ⟨p, v, h3, h4, h5⟩ := g2.got hk
    exact ⟨d, xs, _, b', p, v, rfl, rfl, D1.mono e2, key_KR (dp_mono hide_le h1), h3, h5, q v H2 (e1.trans e2) h4⟩⟩⟩
/-- d[k] = e -/
theorem b_putN (hr : Room n X.A) (he : EV X F Γ Δ e R) (ho : EV X F Γ Δ a (Vl (.ref p))) (hk : Δ[j]? = some (p, DO X.prog X.w X.K E kvs p)) (hb : EV X F Γ Δ b (D X.K (E.enc k))) (hz : kvs.length < 100000) (h : BK X F Γ (Δ.set j (p, DO X.prog X.w X.K E (putE kvs k R) p)) rest P)
    (hs : swapsWith e (some (.Subscript a b pos')) pos.line X.env = pure false := by rfl) : BK X F Γ Δ (.Assign [.Subscript a b pos'] e pos :: rest) P :=
  ba_seq (ps_putN hr ho hb he hs) (fun D0 σ H s ple => ⟨s, fun v H1 e1 r1 => ⟨s.mono e1, fun d H2 e2 r2 => ⟨(s.mono e1).mono e2, fun y H3 e3 r3 => by
    have r2 : d = .ref p := r2
    subst r2
    obtain ⟨b', rfl, h1⟩ := key_ref r3
    have s3 := ((s.mono e1).mono e2).mono e3
    obtain ⟨o, h2, h3⟩ := s3.at hk
    obtain ⟨xs, D3, g3⟩ := DO.di h3 h2
    obtain ⟨xs', o', ex, _, hsys, hnod, hlen, g4⟩ := h3
    refine ⟨p, xs, _, b', rfl, rfl, D3, key_KR (dp_mono hide_le h1), fun u ru o' io => ple.1 _ _ (s3.wrk hk ⟨_, o', rfl, io, hsys, putE_nod hnod, ?_, g3.put h1 (R.m (hide_mono (e2.trans e3)) r1) ru⟩)⟩
    have := putE_len (kvs := kvs) (k := k) (R := R)
    rw [sizeLine_eq]; omega⟩⟩⟩) h
/-- d.setdefault(k, e) -/
theorem b_sdN (hr : Room n X.A) (ho : EV X F Γ Δ a (Vl (.ref p))) (hk : Δ[j]? = some (p, DO X.prog X.w X.K E kvs p)) (hb : EV X F Γ Δ b (D X.K (E.enc k))) (he : EV X F Γ Δ e R) (hz : kvs.length < 100000) (h : BK X F Γ (Δ.set j (p, DO X.prog X.w X.K E (if (getK kvs k).isSome then kvs else kvs ++ [(k, R)]) p)) rest P)
    (h1 : attributeBase a "setdefault" X.env (eval a X.env) = eval a X.env := by rfl)
    (hfew : ((backTo pos (starEach (b :: [e]) X.env)).all (fun x => !x.1) && (backToKw pos (keywordEach [] X.env)).all (fun x => x.1.isSome)
      && decide ((b :: [e]).length + ([] : List Keyword).length + (if ([] : List Keyword).isEmpty then 0 else 1) < 30)) = true := by rfl)
    (h2 : (apos.endLine == pos.line) = true := by rfl) {pos2 : Pos} (hst : starEach (b :: [e]) X.env = (false, eval b X.env) :: starEach [e] X.env := by rfl) (hst2 : starEach (e :: []) X.env = (false, eval e X.env) :: starEach [] X.env := by rfl) (hpl : (backTo pos (starEach [e] X.env)).any (·.1) = false := by rfl)
    (hs : swapsWith (.Call (.Attribute a "setdefault" apos) [b, e] [] pos) none pos2.line X.env = pure false := by rfl) : BK X F Γ Δ (.Expr (.Call (.Attribute a "setdefault" apos) [b, e] [] pos) pos2 :: rest) P :=
  ba_seq (ps_expr (pe_sdN hr ho (ea_cons hb (ea_cons he ea_nil hst2) hst) h1 hfew h2 hst hpl) hs) (fun D0 σ H s ple => ⟨s, fun v H1 e1 r1 => by
    have r1 : v = .ref p := r1
    subst r1
    have s1 := s.mono e1
    obtain ⟨o, g1, g2⟩ := s1.at hk
    obtain ⟨xs, D1, _⟩ := DO.di g2 g1
    refine ⟨⟨p, xs, rfl, D1⟩, s1, fun vs H2 e2 r2 => ?_⟩
    obtain ⟨y, z, rfl, r3, r4⟩ := r2.two
    obtain ⟨b', rfl, h3⟩ := key_ref r3
    have s2 := s1.mono e2
    obtain ⟨o2, g3, g4⟩ := s2.at hk
    obtain ⟨xs2, D2, g5⟩ := DO.di g4 g3
    obtain ⟨_, _, _, _, hsys, hnod, hlen, _⟩ := g4
    have is := g5.isSome k
    refine ⟨p, xs2, _, b', z, rfl, rfl, D2, key_KR (dp_mono hide_le h3), fun q hq => ?_, fun hn u ru o' io => ple.1 _ _ (s2.wrk hk ⟨_, o', rfl, io, hsys, ?_, ?_, ?_⟩)⟩
    · rw [hq] at is
      have his : (getK kvs k).isSome = true := is.symm
      obtain ⟨R', hR'⟩ := Option.isSome_iff_exists.mp his
      obtain ⟨q', v', k1, k2, k3⟩ := g5.got hR'
      rw [hq] at k1
      cases k1
      refine ⟨v', k3, ple.1 _ _ ?_⟩
      rw [if_pos his]
      have : Δ.set j (p, DO X.prog X.w X.K E kvs p) = Δ := by
        apply List.ext_getElem?
        intro i
        by_cases hj : j = i
        · subst hj; rw [List.getElem?_set_self (List.getElem?_eq_some_iff.mp hk).1, hk]
        · rw [List.getElem?_set_ne hj]
      rw [this]
      exact s2
    · rw [hn] at is
      have his : ¬ (getK kvs k).isSome = true := by rw [← is]; simp
      have := putE_nod (k := k) (R := R) hnod
      unfold putE at this
      rw [if_neg his] at this ⊢
      exact this
    · split
      · exact hlen
      · rw [List.length_append, sizeLine_eq]; simp; omega
    · rw [hn] at is
      have his : ¬ (getK kvs k).isSome = true := by rw [← is]; simp
      have := g5.put h3 r4 ru
      unfold putE at this
      rw [if_neg his] at this ⊢
      exact this⟩) h
/-- {} -/
theorem ef_newN : EF X F Γ Δ (.Dict [] [] pos) (DO X.prog X.w X.K E []) := pe_imp pe_newN fun σ H Q ⟨s, q⟩ p hp hsys o' io => q p _ _ hp (same_new hp) upd_same ⟨[], o', rfl, io, hsys, List.nodup_nil, Nat.zero_le _, .nil⟩
/-- list(d) -/
theorem en_listN (W : Bi X.mg) (hc : X.calm = true) (ha : EDi X F Γ Δ E a kvs) (hz : kvs.length ≤ 100000) (hg : Gl X "list" := by rfl) (he : starEach (a :: []) X.env = (false, eval a X.env) :: starEach [] X.env := by rfl) : EN X F Γ Δ (.Call (.Name "list" p') [a] [] pos) (kvs.map fun q => D X.K (E.enc q.1)) :=
  pe_imp (pe_callTy (call_listN hc) hg W.list (by decide +kernel) (pa_cons ha pa_nil he) (by decide) (by decide) he) fun σ H Q ⟨s, q⟩ => ⟨s, fun d H1 xs e1 D1 g1 => ⟨d, xs, rfl, D1, fun l hl => by
    refine q l _ _ (e1.free hl) (e1.trans (same_new hl)) upd_same ?_ ?_
    · have key : ∀ {kvs : List (κ × RP)} {xs : List (NK × Addr × Value)} {G : Hp}, EntR E X.K G kvs xs → AllR G (xs.map fun x => V.ref x.2.1) (kvs.map fun q => D X.K (E.enc q.1)) := by
        intro kvs xs G g
        induction g with
        | nil => trivial
        | cons h1 _ _ _ ih => exact ⟨h1, ih⟩
      exact AllR.mono (hide_cons_upd hl) (key g1)
    · rw [List.length_map, ← g1.len, sizeLine_eq]; omega⟩⟩
end
end Fr
set_option Elab.async false
set_option linter.all false
set_option maxRecDepth 100000
/-! LayF: dict displays, items, rows of dicts. -/
namespace Fr
open PySem PySem.Spec PySem.Calls L2
/-! ### a display with one pair -/
def tDisp1 (X : Cx) (tk tv : TE) : TE := fun σ H Q => ∀ p, H p = none → (p == sysModules) = false → ∀ o0, IsD X.prog X.w o0 [] → tk σ (upd H p (.ext (dphi p o0))) fun x H1 => tv σ H1 fun y H2 => ∃ (q : NK) (b : Addr), x = .ref b ∧ KR X.K H2 q b ∧ Di X.prog X.w X.K H2 p [] ∧
  ∀ u, RelV y u → ∀ o', IsD X.prog X.w o' [(q, b, u)] → Q (.ref p) (upd H2 p (.ext (dphi p o')))
theorem pe_disp1 {X : Cx} {a b : Expr} {pos : Pos} {tk tv : TE} {n : Nat} (hr : Room n X.A) (ha : PE X a tk) (hb : PE X b tv) : PE X (.Dict [some a] [b] pos) (tDisp1 X tk tv) := by
  refine ⟨fun pins s σ H Q I h => ?_⟩
  rw [arm_eval_Dict, zip_pairTrees [some a] [b] X.env pos rfl rfl, dictDisplay_pairs (pairTrees [some a] [b] X.env pos) (by intro z; cases z) (by show (1 : Nat) < 17; decide)]
  have I1 := I.laid (a := s.heap.objs.size) (o := .ext (dphi s.heap.objs.size { cls := .type "dict", data := .dict #[] })) (h' := s.heap.push { cls := .type "dict", data := .dict #[] }) (t' := s.toks) (fun _ _ q => Heap.get?_push_of_some _ q) (Nat.le_refl _) (dphi_ok (Heap.get?_push_size _ rfl))
  have h1 := h s.heap.objs.size (I.hok.fresh (Nat.le_refl _)) (beq_eq_false_iff_ne.mpr (Ne.symm (Nat.ne_of_lt I.big))) _ isD_new
  refine wpAny_bind (wpAny_standAt (wpAny_bind (wpAny_subDictH (knd := nestedKind X.prog X.w) (Q := fun d s' => wpAny (model X.prog X.w) X.A (pure (Value.ref d)) (EP X pins σ Q) X.xe s') ?_ (by show (1 : Nat) ≤ 15; decide) ?_)))
  · have := hr.un
    show X.A.units + 8 < cLine
    omega
  refine pairTrees_cons_walk (thn (ha.run pins _ σ _ _ I1 h1) fun u s1 ⟨x, H1, I2, rx, q1⟩ => thn (hb.run pins s1 σ H1 _ I2 q1) fun v s2 ⟨y, H2, I3, ry, q, b', ex, kr, D, q2⟩ => pairTrees_nil_walk ?_)
  subst ex
  obtain rfl : u = Value.ref b' := rx
  refine ⟨[(q, b', v)], ⟨rfl, rfl, kr.is I3, trivial⟩, D.dict I3, fun h' tk dd hs => wpAny_pure ?_⟩
  obtain ⟨o', io, I4⟩ := di_write (t' := tk) I3 D dd hs
  exact ⟨.ref s.heap.objs.size, _, I4, rfl, q2 v ry o' io⟩
section
variable {κ : Type} [DecidableEq κ] {E : En κ} {X : Cx} {F : Fm} {Γ Γ' : Gam} {Δ Δ' : Del} {a b c e o : Expr} {es : List Expr} {rest : List Stmt} {pos pos' p' apos cpos tpos : Pos} {R R' : RP} {P : Ends} {p : Addr} {kvs : List (κ × RP)} {k : κ} {j n : Nat}
theorem ef_disp1 (hr : Room n X.A) (ha : ∀ p, EV X F Γ ((p, DO X.prog X.w X.K E [] p) :: Δ) a (D X.K (E.enc k))) (hb : ∀ p, EV X F Γ ((p, DO X.prog X.w X.K E [] p) :: Δ) b R) : EF X F Γ Δ (.Dict [some a] [b] pos) (DO X.prog X.w X.K E [(k, R)]) := by
  have pa : PE X a (fun σ H Q => ∃ p, tR F Γ ((p, DO X.prog X.w X.K E [] p) :: Δ) (D X.K (E.enc k)) σ H Q) := ⟨fun pins s σ H Q I ⟨p, h⟩ => (ha p).run pins s σ H Q I h⟩
  have pb : PE X b (fun σ H Q => ∃ p, tR F Γ ((p, DO X.prog X.w X.K E [] p) :: Δ) R σ H Q) := ⟨fun pins s σ H Q I ⟨p, h⟩ => (hb p).run pins s σ H Q I h⟩
  refine pe_imp (pe_disp1 hr pa pb) fun σ H Q ⟨s, q⟩ p hp hsys o0 io0 => ?_
  have s1 : Stt F Γ ((p, DO X.prog X.w X.K E [] p) :: Δ) σ (upd H p (.ext (dphi p o0))) := s.own hp fun G _ => ⟨[], o0, rfl, io0, hsys, List.nodup_nil, Nat.zero_le _, .nil⟩
  refine ⟨p, s1, fun v H1 e1 r1 => ⟨p, s1.mono e1, fun y H2 e2 r2 => ?_⟩⟩
  have s2 := (s1.mono e1).mono e2
  obtain ⟨b', rfl, h1⟩ := key_ref r1
  obtain ⟨o, g1, g2⟩ := s2.at (k := 0) rfl
  obtain ⟨xs, D2, g⟩ := DO.di g2 g1
  cases g
  refine ⟨keyOf (E.enc k), b', rfl, key_KR (dp_mono (hide_le.trans e2) h1), D2, fun u ru o' io => ?_⟩
  have hh : Hide (p :: (dom Δ ++ F.M)) (upd H2 p (.ext (dphi p o'))) = Hide (p :: (dom Δ ++ F.M)) H2 := hide_upd (List.mem_cons_self ..)
  refine q p _ _ hp (fun c u' h => ?_) upd_same ⟨[(keyOf (E.enc k), b', u)], o', rfl, io, hsys, by simp, by rw [sizeLine_eq]; simp, ?_⟩
  · rw [upd_ne (ne_of_none h hp)]
    exact e2 _ _ (e1 _ _ (by rw [upd_ne (ne_of_none h hp)]; exact h))
  · rw [hh]
    exact .cons (dp_mono (hide_mono e2) h1) r2 ru .nil
end
/-! ### for .. in d.items() -/
def Itd (d : Addr) (o : Obj) (xs : List (NK × Addr × Value)) (ws : List V) : It :=
  ⟨fun i H => H d = some (.ext (dphi d o)) ∧ i < xs.length, fun i H v H' => ∃ T k a u w, xs[i]? = some (k, a, u) ∧ ws[i]? = some w ∧ v = .ref T ∧ H T = none ∧ H' = upd H T (.tup [.ref a, w]), fun i H => H d = some (.ext (dphi d o)) ∧ i = xs.length⟩
theorem turn_itemsN {P : Program} {w : World} {K : PySem.W.Frag} {elts : List Expr} {kk : Nat} {tpos : Pos} {d : Addr} {o : Obj} {xs : List (NK × Addr × Value)} {ws : List V} {es : Array DictEntry} {ep : Nat} (it : Addr) (hx : o.ExactDict) (hdat : o.data = .dict es ep) (hes : es.toList = xs.map (entryOfKey (nestedKind P w))) (hw : Vals ws (xs.map (·.2.2))) :
    Turn P w K (.Tuple elts kk tpos) (Itd d o xs ws) [it] it (fun i h => ∃ ok ov, IsItemIter h it d i es.size ep ok ov) where
  mem := by simp
  obj := fun i h st b hb => by
    have e : b = it := by simpa using hb
    subst e
    obtain ⟨ok, ov, e⟩ := st
    exact ⟨_, e, fun v z => nomatch z⟩
  keep := fun i h h' st k => let ⟨ok, ov, e⟩ := st; ⟨ok, ov, k it (by simp) _ e⟩
  item := by
    intro X hP hw' hK hc i pins s σ H E I hf st hg
    subst hP hw' hK
    obtain ⟨hd, hi⟩ := hg
    obtain ⟨ho, _⟩ := (I.hok d _ hd : ObjOk X.prog X.w H s.heap d (.ext _))
    have hm : s.heap.DictRaw d es ep := ⟨o, ho, hx, hdat⟩
    have hsz : es.size = xs.length := size_of_entries hes
    obtain ⟨⟨k, a, u⟩, hxi⟩ : ∃ y, xs[i]? = some y := ⟨_, List.getElem?_eq_getElem hi⟩
    have hie : i < es.size := by rw [hsz]; exact hi
    have e3 := entry_at hes i
    rw [hxi, Array.getElem?_eq_getElem hie] at e3
    have e4 : es[i] = entryOfKey (nestedKind X.prog X.w) (k, a, u) := by simpa using e3
    have hui : (xs.map (·.2.2))[i]? = some u := by rw [List.getElem?_map, hxi]; rfl
    obtain ⟨v, hv, rv⟩ : ∃ v, ws[i]? = some v ∧ RelV v u := by
      have hwl : ws.length = xs.length := by have := hw.length; rwa [List.length_map] at this
      have hv := List.getElem?_eq_getElem (show i < ws.length by omega)
      obtain ⟨u', hu', ru⟩ := hw.get hv
      rw [hui] at hu'
      cases hu'
      exact ⟨_, hv, ru⟩
    obtain ⟨ok, ov, he⟩ := st
    have hlt : it < s.heap.objs.size := Heap.lt_size he
    refine wpAny_pyNext_items_item_raw he hm hie fun h' ho' hT hz hk => ?_
    refine ⟨_, rfl, wpAny_letOwnedTupleGo_items (s := { s with heap := h' }) ho' fun h'' he' sb => ?_⟩
    have hT2 : h''.get? s.heap.objs.size = some { cls := .type "tuple", data := .seq #[.ref a, u] } := by
      have := (sb.2 _ (Nat.ne_of_gt hlt)).trans hT
      rw [e4] at this
      exact this
    have new : ObjOk X.prog X.w (upd H s.heap.objs.size (.tup [.ref a, v])) h'' s.heap.objs.size (.tup [.ref a, v]) :=
      ⟨by show 2 ≤ sizeLine; decide, [.ref a, u], .cons rfl (.cons rv .nil), ⟨_, hT2, rfl, _, rfl⟩⟩
    have I1 : Inv X pins σ (upd H s.heap.objs.size (.tup [.ref a, v])) { s with heap := h'' } :=
      I.turnedNew (t' := s.toks) (ch := [it]) (fun b ob hb e => (sb.2 b (by simpa using hb)).trans (hk b ob (by simpa using hb) e)) hf (Nat.le_refl _) new
    refine ⟨.ref s.heap.objs.size, _, I1, rfl, ⟨_, k, a, u, v, hxi, hv, rfl, I.hok.fresh (Nat.le_refl _), rfl⟩, ⟨_, _, he'⟩, fun b hb => ?_⟩
    have e : b = it := by simpa using hb
    rw [e, upd_ne (Nat.ne_of_lt hlt)]
    exact (hf it (by simp)).1
  done := by
    intro X hP hw' hK hc i pins s σ H E I hf st hg
    subst hP hw' hK
    obtain ⟨hd, hi⟩ := hg
    obtain ⟨f0, f1, f2, f3, f4, f5⟩ := hf it (by simp)
    obtain ⟨ho, _⟩ := (I.hok d _ hd : ObjOk X.prog X.w H s.heap d (.ext _))
    have hm : s.heap.DictRaw d es ep := ⟨o, ho, hx, hdat⟩
    have hsz : es.size = xs.length := size_of_entries hes
    obtain ⟨ok, ov, he⟩ := st
    exact wpAny_pyNext_items_end_raw (I.ok.hd hc) he hm (by omega) fun h' eb => ⟨rfl, I.turned (t' := s.toks) (fun b ob hb e => eb b ob hb e) f0 f1 f3 f4 f5⟩
  self := fun A i s Q E st h => let ⟨_, _, e⟩ := st; PySem.W.kcp_self e h
def iItN (X : Cx) (td : TE) : TI := fun σ H R => td σ H fun x H1 => ∃ (d : Addr) (o : Obj) (xs : List (NK × Addr × Value)) (ws : List V), x = .ref d ∧ (d == sysModules) = false ∧ H1 d = some (.ext (dphi d o)) ∧ IsD X.prog X.w o xs ∧ Vals ws (xs.map (·.2.2)) ∧ R (Itd d o xs ws) H1
theorem pi_itemsN {X : Cx} {e : Expr} {td : TE} {apos cpos tpos : Pos} {elts : List Expr} {kk : Nat} (he : PE X e td) (hbase : attributeBase e "items" X.env (eval e X.env) = eval e X.env := by rfl) (hline : (apos.endLine == cpos.line) = true := by rfl) :
    PI X (.Tuple elts kk tpos) (.Call (.Attribute e "items" apos) [] [] cpos) (iItN X td) := by
  refine ⟨fun pins s σ H R I h => ?_⟩
  refine wpAny_Call_method0_late hbase hline (thn (he.run pins s σ H _ I h) fun u s1 ⟨x, H1, I1, rx, d, o, xs, ws, ex, hsys, hd, ⟨es, ep, hx, hdat, hes⟩, hws, q⟩ => ?_)
  subst ex
  obtain rfl : u = Value.ref d := rx
  obtain ⟨ho, _⟩ := (I1.hok d _ hd : ObjOk X.prog X.w H1 s1.heap d (.ext _))
  have hm : DT.Raw s1.heap d es ep := ⟨o, ho, hx, hdat⟩
  refine ⟨"dict", "dict.items", PySem.F.plainAttrs_dict, PySem.F.slot_dict_items, PySem.F.type_dict_items, hm.typeIs, fun b z => by cases z; exact ⟨o, ho, hx.2.1⟩, Calls.callWith_builtin rfl (PySem.evalArgs_none (DT.callItems hsys hm ?_))⟩
  have I2 : Inv X pins σ H1 { s1 with heap := s1.heap.push { cls := .type "dict_items", data := .fields #[.ref d] } } := I1.kept (t' := s1.toks) fun b ob q => Heap.get?_push_of_some _ q
  refine DT.iterI (d := d) (es := es) (ep := ep) ⟨_, Heap.get?_push_size _ rfl, rfl, rfl⟩ (hm.push _) (pi_one (tk := s1.toks) I2 _ (turn_itemsN _ hx hdat hes hws) ⟨_, _, Heap.get?_push_size _ rfl⟩ q)
section
variable {κ : Type} [DecidableEq κ] {E : En κ} {X : Cx} {F : Fm} {Γ Γ' : Gam} {Δ Δ' : Del} {a b c e o : Expr} {es elts : List Expr} {rest : List Stmt} {pos pos' p' apos cpos tpos : Pos} {R R' : RP} {P : Ends} {p : Addr} {kvs : List (κ × RP)} {k : κ} {j n kk : Nat}
/-- a pair of a dict's key and value -/
def Itm (K : PySem.W.Frag) (E : En κ) (x : κ × RP) : RP := TR [D K (E.enc x.1), x.2]
/-- this very dict -/
def DV (P : Program) (w : World) (K : PySem.W.Frag) (E : En κ) (kvs : List (κ × RP)) (d : Addr) (ob : Obj) (xs : List (NK × Addr × Value)) (ws : List V) : RP where
  r := fun G v => v = .ref d ∧ G d = some (.ext (dphi d ob)) ∧ EntR E K G kvs xs ∧ AllR G ws (kvs.map fun q : κ × RP => q.2)
  m := fun e h => by
    obtain ⟨h1, h2, h3, h4⟩ := h
    exact ⟨h1, e _ _ h2, h3.mono e, AllR.mono e h4⟩
theorem EntR.vals {K : PySem.W.Frag} {G : Hp} {kvs : List (κ × RP)} {xs : List (NK × Addr × Value)} (h : EntR E K G kvs xs) : ∃ ws, Vals ws (xs.map (·.2.2)) ∧ AllR G ws (kvs.map fun q : κ × RP => q.2) := by
  induction h with
  | nil => exact ⟨[], .nil, trivial⟩
  | cons _ h2 h3 _ ih =>
    obtain ⟨ws, i1, i2⟩ := ih
    exact ⟨_ :: ws, .cons h3 i1, h2, i2⟩
theorem EntR.at {K : PySem.W.Frag} {G : Hp} {kvs : List (κ × RP)} {xs : List (NK × Addr × Value)} (h : EntR E K G kvs xs) : ∀ {i : Nat} {x : κ × RP} {y : NK × Addr × Value}, kvs[i]? = some x → xs[i]? = some y → Dp K G (.ref y.2.1) (E.enc x.1) := by
  induction h with
  | nil => intro i x y h; cases h
  | cons h1 _ _ _ ih =>
    intro i x y hx hy
    cases i with
    | zero => simp at hx hy; subst hx hy; exact h1
    | succ i => exact ih (by simpa using hx) (by simpa using hy)
theorem jok_itd {d : Addr} {ob : Obj} {xs : List (NK × Addr × Value)} {ws : List V} : JOk (Itd d ob xs ws) kvs (Itm X.K E) (.ref d) (DV X.prog X.w X.K E kvs d ob xs ws) := fun M H hg hl => by
  obtain ⟨_, h1, h2, h3⟩ := hg
  refine ⟨fun i x hx => ?_, hide_le _ _ h1, h2.len⟩
  have hi : i < xs.length := by rw [← h2.len]; exact (List.getElem?_eq_some_iff.mp hx).1
  refine ⟨⟨hide_le _ _ h1, hi⟩, fun v H' hy => ?_⟩
  obtain ⟨T, k, a, u, w, e1, e2, rfl, hT, rfl⟩ := hy
  have g1 := h2.at hx e1
  obtain ⟨w', e3, g2⟩ := h3.get (show (kvs.map fun q : κ × RP => q.2)[i]? = some x.2 by rw [List.getElem?_map, hx]; rfl)
  rw [e2] at e3
  cases e3
  refine ⟨same_new hT, T, [V.ref a, w], rfl, ?_, dp_mono (hide_mono (same_new hT)) g1, x.2.m (hide_mono (same_new hT)) g2, trivial⟩
  have : T ∉ M := fun z => by
    obtain ⟨o, e⟩ := hl T z
    rw [hT] at e; cases e
  rw [hide_out this, upd_same]
theorem it_itemsN (h : EV X F Γ Δ e (DR X.prog X.w X.K E kvs)) (hbase : attributeBase e "items" X.env (eval e X.env) = eval e X.env := by rfl) (hline : (apos.endLine == cpos.line) = true := by rfl) : IT X F Γ Δ (.Tuple elts kk tpos) (.Call (.Attribute e "items" apos) [] [] cpos) kvs (Itm X.K E) :=
  pi_imp (pi_itemsN h hbase hline) fun σ H R ⟨s, q⟩ => ⟨s, fun v H1 e1 r1 => by
    obtain ⟨d, ob, rfl, h1, xs, o, rfl, io, hsys, hnod, hlen, g⟩ := r1
    obtain ⟨ws, hw, ha⟩ := g.vals
    exact ⟨d, o, xs, ws, rfl, hsys, hide_le _ _ h1, io, hw, q _ H1 _ (DV X.prog X.w X.K E kvs d o xs ws) e1 ⟨rfl, h1, g, ha⟩ jok_itd⟩⟩
/-! ### rows of owned objects -/
abbrev rowsG {β : Type} (O : Addr → β → OP) (ps : List Addr) (cs : List β) : Del := List.zipWith (fun p c => (p, O p c)) ps cs
theorem rowsG_rep {β : Type} {O : Addr → β → OP} {c : β} : ∀ (ps : List Addr), rowsG O ps (List.replicate ps.length c) = owns ps (fun p => O p c)
  | [] => rfl
  | p :: ps => by
    show (p, O p c) :: rowsG O ps (List.replicate ps.length c) = _
    rw [rowsG_rep ps]; rfl
theorem rowsG_get {β : Type} {O : Addr → β → OP} {ps : List Addr} {cs : List β} {k : Nat} {p : Addr} {c : β} (h1 : ps[k]? = some p) (h2 : cs[k]? = some c) : (rowsG O ps cs)[k]? = some (p, O p c) := by
  rw [List.getElem?_zipWith, h1, h2]
theorem rowsG_set {β : Type} {O : Addr → β → OP} {ps : List Addr} {cs : List β} {k : Nat} {p : Addr} {c : β} (h : ps[k]? = some p) : (rowsG O ps cs).set k (p, O p c) = rowsG O ps (cs.set k c) := zipWith_set (f := fun p c => (p, O p c)) h
theorem b_frzG {β : Type} {O : Addr → β → OP} {Rf : β → RP} {i : Nat} {ps : List Addr} {cs : List β} (cv : ∀ G p c o, G p = some o → (O p c).r G o → (Rf c).r G (.ref p)) (hl : ps.length = cs.length) (hΓ : Γ[i]? = some (some (LR (Vp ps)))) (h : BK X F (Γ.set i (some (LR (cs.map Rf)))) Δ rest P) : BK X F Γ (rowsG O ps cs ++ Δ) rest P :=
  ba_imp h fun σ H s => by
    obtain ⟨s1, k⟩ := s.dropA
    obtain ⟨v, hv, a, xs, rfl, h1, h2⟩ := s1.get hΓ
    have key : ∀ (ps : List Addr) (cs : List β) (xs : List V), ps.length = cs.length → (∀ q ∈ rowsG O ps cs, ∃ o, Hid F Δ H q.1 = some o ∧ q.2.r (Hid F Δ H) o) → AllR (Hid F Δ H) xs (Vp ps) → AllR (Hid F Δ H) xs (cs.map Rf) := by
      intro ps
      induction ps with
      | nil =>
        intro cs xs hl k ha
        cases cs with
        | nil => exact ha
        | cons _ _ => simp at hl
      | cons p ps ih =>
        intro cs xs hl k ha
        cases cs with
        | nil => simp at hl
        | cons c cs =>
          cases xs with
          | nil => exact ha.elim
          | cons x xs =>
            obtain ⟨o, g1, g2⟩ := k (p, O p c) (List.mem_cons_self ..)
            have hx : x = .ref p := ha.1
            subst hx
            exact ⟨cv _ _ _ _ g1 g2, ih cs xs (by simpa using hl) (fun q hq => k q (List.mem_cons_of_mem _ hq)) ha.2⟩
    have s2 := s1.set (v := .ref a) (R := LR (cs.map Rf)) ⟨a, xs, rfl, h1, key ps cs xs hl k h2⟩ i
    have hl2 : i < σ.length := (List.getElem?_eq_some_iff.mp hv).1
    have e2 : σ.set i (some (V.ref a)) = σ := by
      apply List.ext_getElem?
      intro j
      by_cases hj : i = j
      · subst hj; rw [List.getElem?_set_self hl2, hv]
      · rw [List.getElem?_set_ne hj]
    rw [e2] at s2
    exact s2
theorem DO_DR {P : Program} {w : World} {K : PySem.W.Frag} : ∀ G p (kvs : List (κ × RP)) o, G p = some o → (DO P w K E kvs p).r G o → (DR P w K E kvs).r G (.ref p) := fun G p kvs o h1 h2 => ⟨p, o, rfl, h1, h2⟩
/-- an owned dict is given away -/
theorem b_frzN {i : Nat} (hk : Δ[j]? = some (p, DO X.prog X.w X.K E kvs p)) (hΓ : Γ[i]? = some (some (Vl (.ref p)))) (h : BK X F (Γ.set i (some (DR X.prog X.w X.K E kvs))) (Δ.eraseIdx j) rest P) : BK X F Γ Δ rest P :=
  ba_imp h fun σ H s => by
    obtain ⟨v, hv, e⟩ := s.get hΓ
    have e : v = .ref p := e
    subst e
    obtain ⟨s1, o, h1, ha⟩ := s.erase hk
    have s2 := s1.set (v := .ref p) (R := DR X.prog X.w X.K E kvs) ⟨p, o, rfl, h1, ha⟩ i
    have hl : i < σ.length := (List.getElem?_eq_some_iff.mp hv).1
    have e2 : σ.set i (some (V.ref p)) = σ := by
      apply List.ext_getElem?
      intro j
      by_cases hj : i = j
      · subst hj; rw [List.getElem?_set_self hl, hv]
      · rw [List.getElem?_set_ne hj]
    rw [e2] at s2
    exact s2
end
end Fr
set_option Elab.async false
set_option linter.all false
set_option maxRecDepth 100000
/-! LayS: sets of tuples of ints: the comprehension, sorted. -/
namespace Fr
open PySem PySem.Spec PySem.Calls L2 PyProof.Rows
/-! ### one more member -/
section
variable {X : Cx} {pins : List (Addr × Obj)} {σ : L2.St} {H : Hp} {s : Shared}
theorem add_tup {E : Value → Shared → Prop} {Q : Value → Shared → Prop} {D b : Addr} {k : List Int} {L : List (Addr × List Int)} (I : Inv X pins σ H s) (hD : H D = some (SetTO X.prog X.w D L)) (hb : SqT X.K H b (k.map V.int)) (hL : ∀ p ∈ L, SqT X.K H p.1 (p.2.map V.int)) (few : L.length + 1 < 64) (hu : X.A.units + 65 < cLine)
    (q : ∀ L' s', (k ∈ L.map (·.2) → L' = L) → (k ∉ L.map (·.2) → L'.Perm ((b, k) :: L)) → Inv X pins σ (upd H D (SetTO X.prog X.w D L')) s' → Q .none s') : wpAny (model X.prog X.w) X.A (call (.builtin "set.add") [.ref D, .ref b]) Q E s := by
  obtain ⟨R0, _⟩ := (I.hok D _ hD : ObjOk X.prog X.w H s.heap D (.ext _))
  obtain ⟨es, ep, t, R⟩ := SetT0.full R0 fun p hp => Inv.isT I (hL p hp)
  have tb := Inv.isT I hb
  obtain ⟨o, ho, hex, _⟩ := R.ob
  refine wpAny_call_entry F.slot_set_add (⟨o, ho, hex.1⟩ : s.TypeIs (.ref D) "set") F.entry_set_add ?_ (F.args_set_add_2 _ _)
  unfold Builtin.«set.add» Builtin.Frozenset.oneOther
  simp only [List.isEmpty_nil, bind_assoc]
  unfold Builtin.Frozenset.addrOf setAdd
  repeat' first | refine wpAny_bind (wpAny_pure ?_) | dsimp only
  refine wpAny_bind (wpAny_holding (wpAny_bind ((TK X.prog X.w).pyHash (k := k) ?_ tb ?_)))
  · exact tupleKind_room_in1 (by omega)
  · have R' : SetTR X.prog X.w ({ s with toks := s.toks + (TK X.prog X.w).draws k } : Shared).heap D L es ep t := R
    refine add_at R' tb (by show X.A.units + 1 < cLine; omega) few fun y h' L' es' ep' t' sb R2 c1 c2 => wpAny_pure ⟨.none, rfl, ?_⟩
    refine q L' _ c1 c2 (I.write (x := D) (e := D) (t' := s.toks + (TK X.prog X.w).draws k) (by rw [hD]; exact True.intro) (.inl rfl) (fun c u hc e => (sb.2 c hc).trans e) ?_ (setTO_new R2.t0))
    obtain ⟨o2, ho2, _⟩ := R2.ob
    exact ⟨o2, ho2⟩
end
/-! ### inside a comprehension's block -/
section
variable {X : Cx} {u : Shared} {J0 : Hp} {scope : Scope} {cenv : Env} {fp : List Addr}
theorem blk_apart {τ : L2.St} {G : Hp} {t : Shared} (B : Inv (X.blk u J0 scope cenv fp) [] τ G t) (free : ∀ b ∈ fp, G b = none) (b : Addr) (hb : b ∈ fp) : FpOk (X.blk u J0 scope cenv fp) [] G b :=
  have z := B.ok.exf b hb
  ⟨free b hb, z.1, B.ok.exfs b hb, Or.inl hb, z.2, fun p hp => nomatch (show p ∈ ([] : List (Addr × Obj)) from hp)⟩
/-- behind the element: the pins are taken off, the block's names wiped -/
theorem blk_turned {τ τ0 : L2.St} {G : Hp} {t : Shared} {vs : List Nat} {h7 : Heap} (there : ∀ b ∈ fp, ∃ o, h7.get? b = some o ∧ ∀ v, o.data ≠ .cell v) (B : Inv (X.blk u J0 scope cenv fp) ([] ++ pinsAt fp h7) τ G t) (w : wipe τ vs = wipe τ0 vs) :
    Inv (X.blk u J0 scope cenv fp) [] (wipe τ0 vs) G t ∧ (∀ b ∈ fp, ∀ o, h7.get? b = some o → t.heap.get? b = some o) ∧ ∀ b ∈ fp, G b = none := by
  have pin : ∀ b ∈ fp, ∀ o, h7.get? b = some o → t.heap.get? b = some o ∧ G b = none := fun b hb o e => by
    have z := B.pin (b, o) (List.mem_append_right _ (List.mem_append_right _ (mem_pinsAt hb e)))
    exact ⟨z.1, z.2.1⟩
  refine ⟨(B.unpinned (pins := [])).weak (by rw [← w]; exact wipe_length _ _) fun j v e => ?_, fun b hb o e => (pin b hb o e).1, fun b hb => ?_⟩
  · exact (wipe_some (w.symm ▸ e)).1
  · obtain ⟨o, e, _⟩ := there b hb
    exact (pin b hb o e).2
end
/-- {elt for tg in iter}, elt a tuple of ints -/
def tSt (X : Cx) (wi : TI) (g : TG) (te : TE) (vs : List Nat) : TE := fun σ H Q => wi σ H fun J H1 => ∀ D, H1 D = none → ∃ W : Nat → Nat → Hp → Prop, (∃ m, W 0 m (upd H1 D (SetTO X.prog X.w D []))) ∧ ∀ i m G, W i m G →
  (J.stop i G ∧ Q (.ref D) G) ∨ (J.go i G ∧ ∀ x G1, J.yld i G x G1 → g x (wipe σ vs) G1 fun τ G2 => wipe τ vs = wipe σ vs ∧ te τ G2 fun y G3 => ∃ (b : Addr) (k : List Int) (L : List (Addr × List Int)), y = .ref b ∧ SqT X.K G3 b (k.map V.int) ∧ G3 D = some (SetTO X.prog X.w D L) ∧
    (∀ p ∈ L, SqT X.K G3 p.1 (p.2.map V.int)) ∧ L.length + 1 < 64 ∧ ∀ L', (k ∈ L.map (·.2) → L' = L) → (k ∉ L.map (·.2) → L'.Perm ((b, k) :: L)) → ∃ m', m' < m ∧ W (i + 1) m' (upd G3 D (SetTO X.prog X.w D L')))
theorem pe_st {X : Cx} {elt tg iter : Expr} {scope : Scope} {own : List (PySem.Str × Nat)} {pos : Pos} {wi : TI} {g : TG} {te : TE} (calm : X.calm = true) (hu : X.A.units + 65 < cLine) (nd : X.N.Nodup) (src : PI X tg iter wi) (bk : BlkOk X.N X.env.scope scope own)
    (hg : ∀ (u : Shared) (J : Hp) (C : Addr) (cl : List (PySem.Str × Addr)) (fp : List Addr), PG (X.blk u J scope (compEnvC scope cl C X.env) fp) tg g)
    (he : ∀ (u : Shared) (J : Hp) (C : Addr) (cl : List (PySem.Str × Addr)) (fp : List Addr), PE (X.blk u J scope (compEnvC scope cl C X.env) fp) elt te)
    (fold : ∀ x, foldedSetIterable iter X.env x = pure x := by intro _; rfl) : PE X (.SetComp elt [⟨tg, iter, [], 0⟩] scope pos) (tSt X wi g te (own.map (·.2))) := by
  refine ⟨fun pins s σ H Q I h => ?_⟩
  have clo : ∀ y ∈ scope.names, y.2 = .free → ∃ c, X.env.cells.lookup y.1 = some c := by
    intro y hy e
    exact I.ok.has _ (bk.free y hy e)
  rw [PpSet.eval_SetComp]
  refine wpAny_comprehension_free (use := none) rfl fold (closure_ok clo) bk.kind (fun y hy e => (bk.uniq y hy).trans (congrArg some e)) (thn (src.run pins s σ H _ I h) fun xv s1 q1 => thn q1 fun itv t0 q2 => ?_)
  obtain ⟨it, fp, tn, J, H1, rfl, I1, T, n0, apart, q⟩ := q2
  refine PpSet.newSet_ok (newEnv_comp ?_)
  -- the new set, at D
  obtain ⟨W, ⟨m0, w0⟩, turns⟩ := q t0.heap.objs.size (I1.hok.fresh (Nat.le_refl _))
  have I2 := I1.laid (h' := t0.heap.push { cls := .type "set", dict := none, data := .set #[] 0 (.fresh 0 0 (!X.w.params.followText "set-order")) }) (a := t0.heap.objs.size) (o := SetTO X.prog X.w t0.heap.objs.size []) (t' := t0.toks) (fun _ _ e => Heap.get?_push_of_some _ e) (Nat.le_refl _)
    (setTO_new (SetTR.t0 (setTR_fresh (P := X.prog) (w := X.w) (Heap.get?_push_size _ rfl))))
  have small : ∀ b ∈ fp, b < t0.heap.objs.size := fun b hb => let ⟨_, e, _⟩ := T.obj _ _ n0 b hb; Heap.lt_size e
  generalize hD : t0.heap.objs.size = D at *
  generalize hG : upd H1 D (SetTO X.prog X.w D []) = G0 at *
  have G0n : ∀ b ∈ fp, G0 b = none := fun b hb => by
    rw [← hG, upd_ne (Nat.ne_of_lt (small b hb))]
    exact (apart b hb).1
  have n1 : tn 0 (t0.heap.push { cls := .type "set", dict := none, data := .set #[] 0 (.fresh 0 0 (!X.w.params.followText "set-order")) }) := T.keep _ _ _ n0 fun _ _ _ e => Heap.get?_push_of_some _ e
  generalize ht : ({ t0 with heap := t0.heap.push { cls := .type "set", dict := none, data := .set #[] 0 (.fresh 0 0 (!X.w.params.followText "set-order")) } } : Shared) = t1
  have ht' : t1.heap = t0.heap.push { cls := .type "set", dict := none, data := .set #[] 0 (.fresh 0 0 (!X.w.params.followText "set-order")) } := by rw [← ht]
  have I3 : Inv X pins σ G0 t1 := by rw [← ht]; exact I2
  have n2 : tn 0 t1.heap := by rw [ht']; exact n1
  have ap1 : ∀ b ∈ fp, FpOk X pins G0 b ∧ b < t1.heap.objs.size := fun b hb => ⟨⟨G0n b hb, (apart b hb).2⟩, by rw [ht', Heap.size_push, hD]; exact Nat.lt_succ_of_lt (small b hb)⟩
  have I4 := block_start I3 bk nd ap1
  generalize hce : compEnvC scope (cellsFrom (t1.heap.objs.size + 1) scope.names (cloFrom X.env.cells scope.names [])) t1.heap.objs.size X.env = cenv at I4
  have loc : cenv.locals = t1.heap.objs.size := by rw [← hce]; rfl
  have pg : PG (X.blk t1 G0 scope cenv fp) tg g := by rw [← hce]; exact hg _ _ _ _ _
  have pel : PE (X.blk t1 G0 scope cenv fp) elt te := by rw [← hce]; exact he _ _ _ _ _
  generalize ht2 : ({ t1 with heap := pushCells (t1.heap.push { cls := .type "dict", data := .dict #[] }) scope.names } : Shared) = t2 at I4
  have n4 : tn 0 t2.heap := by
    rw [← ht2]
    exact T.keep _ _ _ n2 fun _ _ _ e => pushCells_keeps _ _ _ _ (Heap.get?_push_of_some _ e)
  have lup : codeAny (model X.prog X.w) X.A (.compLoop (.SetComp elt [⟨tg, iter, [], 0⟩] scope pos) 0 (.ref it) (.ref D) cenv) (compPost (model X.prog X.w) X.A X.xe none (EP X pins σ Q) (.ref D) t1.heap.objs.size) t2 := by
    refine PpSet.compLoopS_any (fun m t => ∃ i G, Inv (X.blk t1 G0 scope cenv fp) [] (wipe σ (own.map (·.2))) G t ∧ tn i t.heap ∧ (∀ b ∈ fp, G b = none) ∧ W i m G) (fun m t3 ⟨i, G3, B3, n3, f3, w3⟩ => ?_) m0 ⟨0, G0, I4, n4, G0n, w0⟩
    rcases turns i m G3 w3 with ⟨over, fine⟩ | ⟨goes, turn⟩
    · refine thnF (T.done (X.blk t1 G0 scope cenv fp) rfl rfl rfl calm i [] t3 _ G3 (fun _ _ => False) B3 (blk_apart B3 f3) n3 over) fun r t4 ⟨hr, B4⟩ => ?_
      subst hr
      have back : Inv X pins σ G3 t4 := I3.call' (ch := fp) B4.os B4.base B4.hok B4.bare fun b hb =>
        let ⟨⟨_, p1, p2, p3, p4, p5⟩, _⟩ := ap1 b hb
        ⟨p3, p1, p4, p5⟩
      obtain ⟨mm, hmm, _⟩ := B4.loc
      have hmm : t4.heap.Ns cenv.locals mm := hmm
      have gone : G3 cenv.locals = none := B4.free
      rw [loc] at hmm gone
      obtain ⟨a0, a1, _, a3, a4, a5⟩ := I3.fpOk (Nat.le_refl _) gone
      exact ⟨mm, hmm, fun h2 sb => ⟨.ref D, G3, back.turned (t' := t4.toks) (fun b o hb e => (sb.2 b hb).trans e) a0 a1 a3 a4 a5, rfl, fine⟩⟩
    · refine thnF (T.item (X.blk t1 G0 scope cenv fp) rfl rfl rfl calm i [] t3 _ G3 (fun _ _ => False) B3 (blk_apart B3 f3) n3 goes) fun r t4 ⟨uv, hr, q4⟩ => ?_
      subst hr
      refine thnF q4 fun _ t5 ⟨x, G5, B5, r5, y5, n5, f5⟩ => ?_
      refine thnF (pg.run _ t5 _ G5 x uv _ (B5.pinned (blk_apart B5 f5) (T.obj _ _ n5)) r5 (turn x G5 y5)) fun _ t6 ⟨τ, G6, B6, wi6, q6⟩ => ?_
      refine wpAny_mono (Q := fun (ok : Bool) t => ok = true ∧ t = t6) (wpAny_pure ⟨rfl, rfl⟩) (fun ok t7 ht7 => ?_) fun _ _ z => z
      obtain ⟨rfl, rfl⟩ := ht7
      rw [if_pos rfl]
      refine thnF (pel.run _ t7 τ G6 _ B6 q6) fun z t8 ⟨yv, G8, B8, r8, b, k, L, ey, hb, hDL, hL, few, nx⟩ => ?_
      subst ey
      obtain rfl : z = Value.ref b := r8
      refine add_tup (X := X.blk t1 G0 scope cenv fp) B8 hDL hb hL few hu fun L' t9 c1 c2 B9 => ?_
      obtain ⟨m', hm', w'⟩ := nx L' c1 c2
      obtain ⟨B10, kp, f10⟩ := blk_turned (T.obj _ _ n5) B9 wi6
      exact ⟨m', hm', i + 1, _, B10, T.keep _ _ _ n5 kp, f10, w'⟩
  subst hce ht2
  exact PpSet.codeAny_compStart_set lup (T.self X.A 0 _ _ _ n4 lup)
/-! ### in Fr's words -/
theorem take_snoc' {α : Type} {l : List α} {i : Nat} {x : α} (h : l[i]? = some x) : l.take (i + 1) = l.take i ++ [x] := by
  rw [List.take_add_one, h]; rfl
/-- a set of tuples of ints, owned, with the members ks -/
def StO (P : Program) (w : World) (K : PySem.W.Frag) (ks : List (List Int)) (D : Addr) : OP where
  r := fun G o => ∃ L, o = SetTO P w D L ∧ (∀ p ∈ L, SqT K G p.1 (p.2.map V.int)) ∧ (∀ k, k ∈ L.map (fun p => p.2) ↔ k ∈ ks) ∧ L.length ≤ ks.length
  m := fun e h => by
    obtain ⟨L, h1, h2, h3, h4⟩ := h
    exact ⟨L, h1, fun p hp => seqT_mono e (h2 p hp), h3, h4⟩
/-- given away -/
def StR (P : Program) (w : World) (K : PySem.W.Frag) (ks : List (List Int)) : RP where
  r := fun G v => ∃ D o, v = .ref D ∧ G D = some o ∧ (StO P w K ks D).r G o
  m := fun e h => by
    obtain ⟨D, o, h1, h2, h3⟩ := h
    exact ⟨D, o, h1, e _ _ h2, (StO P w K ks D).m e h3⟩
section
variable {X : Cx} {F : Fm} {Γ Γ' : Gam} {Δ Δ' : Del} {e a b c elt tg iter : Expr} {es : List Expr} {rest tb eb : List Stmt} {pos p p' p2 : Pos} {R R' : RP} {P : Ends} {js : List Nat} {n : Nat}
theorem ev_setC {α : Type} {scope : Scope} {own : List (Str × Nat)} {xs : List α} {it : α → RP} {Γt : α → Gam} {f : α → List Int} (hc : X.calm = true) (hr : Room n X.A) (nd : X.N.Nodup) (hit : IT X F Γ Δ tg iter xs it) (ok : BlkOk X.N X.env.scope scope own)
    (ht : ∀ (s : Shared) (H : Hp) (C : Addr) (cl : List (Str × Addr)) (fp : List Addr) gv gR (D : Addr) (ks : List (List Int)) (x : α), x ∈ xs → TG' (X.blk s H scope (compEnvC scope cl C X.env) fp) (F.push gv gR) (wipeG Γ (own.map (·.2))) ((D, StO X.prog X.w X.K ks D) :: Δ) tg (it x) (Γt x) js)
    (he : ∀ (s : Shared) (H : Hp) (C : Addr) (cl : List (Str × Addr)) (fp : List Addr) gv gR (DD : Addr) (ks : List (List Int)) (x : α), x ∈ xs → EV (X.blk s H scope (compEnvC scope cl C X.env) fp) (F.push gv gR) (Γt x) ((DD, StO X.prog X.w X.K ks DD) :: Δ) elt (D X.K (.tuple ((f x).map .int))))
    (hj : ∀ j ∈ js, j ∈ own.map (·.2)) (hl : xs.length < 63) (hs : ∀ x, foldedSetIterable iter X.env x = pure x := by intro _; rfl) : EV X F Γ Δ (.SetComp elt [⟨tg, iter, [], 0⟩] scope pos) (StR X.prog X.w X.K (xs.map f)) := by
  refine pe_imp (pe_st (g := fun v σ H Q => ∃ gv gR D ks x, x ∈ xs ∧ tTg (F.push gv gR) (wipeG Γ (own.map (·.2))) ((D, StO X.prog X.w X.K ks D) :: Δ) (it x) (Γt x) js v σ H Q) (te := fun σ H Q => ∃ gv gR DD ks x, x ∈ xs ∧ tR (F.push gv gR) (Γt x) ((DD, StO X.prog X.w X.K ks DD) :: Δ) (D X.K (.tuple ((f x).map .int))) σ H Q) hc (room65 hr) nd hit ok
    (fun s H C cl fp => ⟨fun pins s' σ H' v u Q I r ⟨gv, gR, D, ks, x, hx, q⟩ => (ht s H C cl fp gv gR D ks x hx).run pins s' σ H' v u Q I r q⟩)
    (fun s H C cl fp => ⟨fun pins s' σ H' Q I ⟨gv, gR, D, ks, x, hx, q⟩ => (he s H C cl fp gv gR D ks x hx).run pins s' σ H' Q I q⟩) hs) fun σ H Q ⟨s, k⟩ => ⟨s, fun J H1 gv gR e1 hg okJ D hD => ?_⟩
  have s1 : Stt (F.push gv gR) (wipeG Γ (own.map (·.2))) Δ (wipe σ (own.map (·.2))) H1 :=
    let z := (s.mono e1).push hg
    ⟨z.ex, z.fr, z.lv, z.nd, z.ow, z.gh, slots_wipe z.sl _⟩
  refine ⟨fun i m H' => m = xs.length - i ∧ i ≤ xs.length ∧ Same H1 H' ∧ Stt (F.push gv gR) (wipeG Γ (own.map (·.2))) ((D, StO X.prog X.w X.K ((xs.take i).map f) D) :: Δ) (wipe σ (own.map (·.2))) H', ⟨xs.length, rfl, Nat.zero_le _, same_new hD, s1.own (O := StO X.prog X.w X.K [] D) hD fun G _ => ⟨[], rfl, fun p hp => (nomatch hp), fun _ => Iff.rfl, Nat.le_refl _⟩⟩, ?_⟩
  rintro i m H' ⟨rfl, hi, e', s'⟩
  obtain ⟨k1, k2⟩ := okJ (dom ((D, StO X.prog X.w X.K ((xs.take i).map f) D) :: Δ) ++ F.M) H' s'.mem fun p hp => s'.live hp
  by_cases hlt : i < xs.length
  · have hx := List.getElem?_eq_getElem hlt
    have hmem : xs[i] ∈ xs := List.getElem_mem hlt
    generalize xs[i] = x at hx hmem
    obtain ⟨go, yld⟩ := k1 i x hx
    refine .inr ⟨go, fun v H2 hy => ?_⟩
    obtain ⟨e2, rv⟩ := yld v H2 hy
    refine ⟨gv, gR, D, _, x, hmem, ⟨s'.mono e2, rv⟩, fun σ3 s3 w3 => ⟨by rw [w3 (own.map (·.2)) hj]; exact wipe_idem _ _, gv, gR, D, _, x, hmem, s3, fun y H3 e3 ry => ?_⟩⟩
    obtain ⟨b', ys, rfl, h1, h2⟩ := T_val ry
    rw [dpAll_ints.mp h2] at h1
    have s4 := s3.mono e3
    have s5 := (s'.mono e2).mono e3
    obtain ⟨o, g1, L, rfl, g2, g3, g4⟩ := s4.at (k := 0) rfl
    have hlk : L.length ≤ i := by
      rw [List.length_map, List.length_take] at g4
      omega
    refine ⟨b', f x, L, rfl, seqT_mono hide_le h1, g1, fun p hp => seqT_mono hide_le (g2 p hp), by omega, fun L' c1 c2 => ⟨xs.length - (i + 1), by omega, rfl, hlt, ?_, ?_⟩⟩
    · intro a u h
      rw [upd_ne (ne_of_none h hD)]
      exact e3 _ _ (e2 _ _ (e' _ _ h))
    · refine s5.wrk (k := 0) rfl ⟨L', rfl, ?_, ?_, ?_⟩
      all_goals try rw [take_snoc' hx, List.map_append]
      all_goals by_cases hk : f x ∈ L.map (fun p => p.2)
      · rw [c1 hk]; exact g2
      · intro p hp
        rcases List.mem_cons.mp ((c2 hk).mem_iff.mp hp) with z | z
        · subst z; exact h1
        · exact g2 p z
      · rw [c1 hk]
        intro k
        rw [g3, List.mem_append]
        refine ⟨.inl, fun z => z.elim id fun z => ?_⟩
        rw [List.mem_singleton.mp z]
        exact (g3 _).mp hk
      · intro k
        rw [((c2 hk).map (fun p => p.2)).mem_iff, List.map_cons, List.mem_cons, g3, List.mem_append]
        constructor
        · rintro (z | z)
          · right; rw [z]; exact List.mem_singleton.mpr rfl
          · exact .inl z
        · rintro (z | z)
          · exact .inr z
          · exact .inl (List.mem_singleton.mp z)
      · rw [c1 hk, List.length_append]; exact Nat.le_trans g4 (Nat.le_add_right _ _)
      · rw [(c2 hk).length_eq, List.length_cons, List.length_append]
        exact Nat.succ_le_succ g4
  · have ei : i = xs.length := by omega
    subst ei
    rw [List.take_length] at s'
    obtain ⟨s2, o, h1, h2⟩ := s'.erase (k := 0) (p := D) rfl
    exact .inl ⟨k2, k _ _ (e1.trans e') ⟨D, o, rfl, h1, h2⟩⟩
/-- lists with the same members -/
abbrev SameAs (ks : List (List Int)) : Type := {ls : List (List Int) // (∀ k, k ∈ ls ↔ k ∈ ks) ∧ ls.length ≤ 64}
abbrev dTs (ls : List (List Int)) : List PyData := ls.map fun k => .tuple (k.map .int)
variable (W : Bi X.mg)
include W
theorem ev_sortedT {ks : List (List Int)} {d : Nat} {B : Int} (hc : X.calm = true) (ha : EV X F Γ Δ a (StR X.prog X.w X.K ks)) (hd : 1 ≤ d) (hB : ∀ k ∈ ks, k.length = d ∧ ∀ m ∈ k, 0 ≤ m ∧ m < B) (hg : Gl X "sorted" := by rfl) (he : starEach (a :: []) X.env = (false, eval a X.env) :: starEach [] X.env := by rfl) :
    EV X F Γ Δ (.Call (.Name "sorted" p') [a] [] pos) (Exi fun ls : SameAs ks => LP X.K (dTs ls.1)) :=
  ev_callB (cr_sortedT hc) hg W.sorted (by decide +kernel) (ea_cons ha ea_nil he) (fun σ H vs s r Q k => by
    obtain ⟨v, rfl, D, o, rfl, h1, L, rfl, h2, h3, h4⟩ := r.one
    refine ⟨D, L, d, B, rfl, hide_le _ _ h1, fun p hp => seqT_mono hide_le (h2 p hp), hd, fun p hp => ?_, fun L' q pm _ h64 _ hq => ?_⟩
    · exact hB _ ((h3 _).mp (List.mem_map.mpr ⟨p, hp, rfl⟩))
    · refine k _ _ (same_new hq) ⟨⟨L'.map (fun p => p.2), fun kk => ?_, by rw [List.length_map]; omega⟩, q, _, rfl, by rw [stt_fresh s hq]; exact upd_same, ?_⟩
      · rw [(pm.map (fun p => p.2)).mem_iff]; exact h3 kk
      · have key : ∀ (l : List (Addr × List Int)) (G : Hp), (∀ p ∈ l, SqT X.K G p.1 (p.2.map V.int)) → DpAll X.K G (l.map fun p => V.ref p.1) (dTs (l.map fun p => p.2)) := by
          intro l G
          induction l with
          | nil => intro _; exact .nil
          | cons x l ih =>
            intro h
            exact .cons (.tup (h x (List.mem_cons_self ..)) (dpAll_ints.mpr rfl)) (ih fun p hp => h p (List.mem_cons_of_mem _ hp))
        refine key L' _ fun p hp => seqT_mono (hide_mono (same_new hq)) (h2 p (pm.mem_iff.mp hp))) (by decide) (by decide) he
theorem ev_tupleE {β : Type} {g : β → List PyData} (ha : EV X F Γ Δ a (Exi fun y => LP X.K (g y))) (hg : Gl X "tuple" := by rfl) (he : starEach (a :: []) X.env = (false, eval a X.env) :: starEach [] X.env := by rfl) : EV X F Γ Δ (.Call (.Name "tuple" p') [a] [] pos) (Exi fun y => D X.K (.tuple (g y))) :=
  ev_callTy call_tuple_of hg W.tuple (by decide +kernel) (ea_cons ha ea_nil he) (fun σ H vs s r Q k => by
    obtain ⟨v, rfl, y, rv⟩ := r.one
    obtain ⟨p, xs, rfl, h1, h2⟩ := rv
    refine ⟨p, xs, rfl, .inl ⟨SqL.of (hide_le _ _ h1), fun l hl => k _ _ (same_new hl) ⟨y, Dp.tup (SqT.of ?_) (dpAll_mono (hide_mono (same_new hl)) h2)⟩⟩⟩
    rw [stt_fresh s hl]
    exact upd_same) (by decide) (by decide) he
end
end Fr
set_option Elab.async false
set_option linter.all false
set_option maxRecDepth 100000
/-! Lay11: isinstance, min and max of a pair. -/
namespace Fr
open PySem PySem.Spec PySem.Calls L2
def tyNm : PyData → String
  | .none => "NoneType"
  | .bool _ => "bool"
  | .int _ => "int"
  | .str _ => "str"
  | .list _ => "list"
  | .tuple _ => "tuple"
  | .dict _ => "dict"
theorem D_ty {K : PySem.W.Frag} {H : Hp} : ∀ {d : PyData} {v : V}, Dp K H v d → TyX K H v (.type (tyNm d))
  | .none, _, h => by cases h; exact .base .non
  | .bool _, _, h => by cases h; exact .base (.bl _)
  | .int _, _, h => by cases h; exact .base (.int _)
  | .str _, _, h => by cases h; exact .base (.str _)
  | .list _, _, h => by
    cases h with
    | lst hs _ =>
      rcases hs with (h | ⟨o, h⟩) | ⟨o, its, n, h, hc, _⟩
      · exact .base (.lst h)
      · exact .base (.frz h)
      · exact .kList h hc
  | .tuple _, _, h => by
    cases h with
    | tup hs _ =>
      rcases hs with (h | ⟨o, h⟩) | ⟨o, its, n, h, hc, _⟩
      · exact .base (.tup h)
      · exact .fTuple h
      · exact .kTuple h hc
  | .dict _, _, h => by cases h
section
variable {X : Cx} {F : Fm} {Γ Γ' : Gam} {Δ Δ' : Del} {e a b c : Expr} {es : List Expr} {rest tb eb : List Stmt} {pos p p' p2 : Pos} {R R' : RP} {P : Ends}
theorem ev_ty {x : Str} {T : String} (hm : X.mg x = none) (hv : bootBuiltins x = some (.type T)) (hg : Gl X x := by rfl) (hn : x ≠ "__name__" := by decide) (hdb : (x == ("__debug__" : Str)) = false := by decide) : EV X F Γ Δ (.Name x p) (Vl (.ty T)) :=
  ev_c (t := .ty T) ⟨fun pins s σ H Q I h => ld_blt I hg hm hv ⟨.ty T, H, I, rfl, h⟩ hn hdb⟩ fun _ => rfl
/-- a name of the module -/
theorem ev_glo {x : Str} {a : Addr} (hm : X.mg x = some (.ref a)) (hg : Gl X x := by rfl) (hdb : (x == ("__debug__" : Str)) = false := by decide) : EV X F Γ Δ (.Name x p) (Vl (.ref a)) :=
  ev_c (t := .ref a) ⟨fun pins s σ H Q I h => ld_glob I hg hm ⟨.ref a, H, I, rfl, h⟩ hdb⟩ fun _ => rfl
variable (W : Bi X.mg)
include W
/-- isinstance(e, T) -/
theorem ev_isi {d : PyData} {T : String} {r : Bool} (ha : EV X F Γ Δ a (D X.K d)) (hb : EV X F Γ Δ b (Vl (.ty T))) (hk : kitB (tyNm d) T = some r) (hg : Gl X "isinstance" := by rfl) (he : starEach (a :: [b]) X.env = (false, eval a X.env) :: starEach [b] X.env := by rfl) (he2 : starEach (b :: []) X.env = (false, eval b X.env) :: starEach [] X.env := by rfl) (hpl : (backTo pos (starEach [b] X.env)).any (·.1) = false := by rfl) :
    EV X F Γ Δ (.Call (.Name "isinstance" p') [a, b] [] pos) (B X.K r) :=
  ev_callB call_isi hg W.isinstance (by decide +kernel) (ea_cons ha (ea_cons hb ea_nil he2) he) (fun σ H vs s rr Q k => by
    obtain ⟨v, w, rfl, rv, rw'⟩ := rr.two
    have rw' : w = .ty T := rw'
    subst rw'
    exact ⟨v, _, _, _, r, rfl, .ty T, D_ty (dp_mono hide_le rv), kit_ty hk, k _ H (Same.refl H) (.bl _)⟩) (by decide) (by decide) he hpl
/-- isinstance(e, (T, U)) -/
theorem ev_isi2 {d : PyData} {T U : String} {r : Bool} (ha : EV X F Γ Δ a (D X.K d)) (hb : EV X F Γ Δ b (TR [Vl (.ty T), Vl (.ty U)])) (hk : PySem.W.kitAny X.K (.type (tyNm d)) [.type T, .type U] = some r) (hg : Gl X "isinstance" := by rfl) (he : starEach (a :: [b]) X.env = (false, eval a X.env) :: starEach [b] X.env := by rfl) (he2 : starEach (b :: []) X.env = (false, eval b X.env) :: starEach [] X.env := by rfl) (hpl : (backTo pos (starEach [b] X.env)).any (·.1) = false := by rfl) :
    EV X F Γ Δ (.Call (.Name "isinstance" p') [a, b] [] pos) (B X.K r) :=
  ev_callB call_isiT hg W.isinstance (by decide +kernel) (ea_cons ha (ea_cons hb ea_nil he2) he) (fun σ H vs s rr Q k => by
    obtain ⟨v, w, rfl, rv, tp, xs, rfl, h1, h2⟩ := rr.two
    obtain ⟨x, y, rfl, hx, hy⟩ := h2.two
    have hx : x = .ty T := hx
    have hy : y = .ty U := hy
    subst hx hy
    exact ⟨v, tp, _, _, _, r, rfl, hide_le _ _ h1, .cons (.ty T) (.cons (.ty U) .nil), D_ty (dp_mono hide_le rv), hk, k _ H (Same.refl H) (.bl _)⟩) (by decide) (by decide) he hpl
omit W
/-! ### min, max of a pair -/
def rMM (K : PySem.W.Frag) (f : Int → Int → Int) : List V → Hp → VK → Prop := fun vs H Q => ∃ (a : Addr) (i j : Int), vs = [V.ref a] ∧ SqT K H a [.int i, .int j] ∧ Q (.int (f i j)) H
theorem reads_int {h : Heap} {v : Value} {n : Int} (H : PySem.W.Holds h v n) : ∃ t, v = .int n t := by
  obtain ⟨as, r⟩ := H
  cases r with
  | int i t => exact ⟨_, rfl⟩
theorem cr_minT (hc : X.calm = true) (hu : X.A.units + 65 < cLine) : CallR X (.builtin "min") (rMM X.K fun i j => if j < i then j else i) := by
  intro pins s σ H vs us Q I r h
  obtain ⟨a, i, j, rfl, hs, q⟩ := h
  obtain ⟨its, rv, ht, _⟩ := I.tuple hs
  rw [Vals.ref1 r]
  obtain ⟨u1, u2, rfl, ⟨t1, rfl⟩, t2, rfl⟩ := vals2 rv
  refine PySem.W.min_tuple_datum (α := Int) (x := i) (xs := [j]) (I.ok.hd hc) ht (PySem.W.HoldAll.cons (PySem.W.holds_int i t1) (PySem.W.HoldAll.cons (PySem.W.holds_int j t2) PySem.W.HoldAll.nil)) (by show X.A.units + 1 + 0 < cLine; omega) fun k v h' tk hv hh hk => ?_
  obtain ⟨t, rfl⟩ := reads_int hh
  refine ⟨.int (if j < i then j else i), H, I.kept hk, ⟨t, ?_⟩, q⟩
  congr 1
  show (if (decide (j < i)) = true then j else i) = _
  by_cases h : j < i
  · rw [if_pos h, if_pos (decide_eq_true h)]
  · rw [if_neg h, if_neg (by simpa using h)]
theorem cr_maxT (hc : X.calm = true) (hu : X.A.units + 65 < cLine) : CallR X (.builtin "max") (rMM X.K fun i j => if i < j then j else i) := by
  intro pins s σ H vs us Q I r h
  obtain ⟨a, i, j, rfl, hs, q⟩ := h
  obtain ⟨its, rv, ht, _⟩ := I.tuple hs
  rw [Vals.ref1 r]
  obtain ⟨u1, u2, rfl, ⟨t1, rfl⟩, t2, rfl⟩ := vals2 rv
  refine PySem.W.max_tuple_datum (α := Int) (x := i) (xs := [j]) (I.ok.hd hc) ht (PySem.W.HoldAll.cons (PySem.W.holds_int i t1) (PySem.W.HoldAll.cons (PySem.W.holds_int j t2) PySem.W.HoldAll.nil)) (by show X.A.units + 1 + 0 < cLine; omega) fun k v h' tk hv hh hk => ?_
  obtain ⟨t, rfl⟩ := reads_int hh
  refine ⟨.int (if i < j then j else i), H, I.kept hk, ⟨t, ?_⟩, q⟩
  congr 1
  show (if (decide (i < j)) = true then j else i) = _
  by_cases h : i < j
  · rw [if_pos h, if_pos (decide_eq_true h)]
  · rw [if_neg h, if_neg (by simpa using h)]
variable (W : Bi X.mg) {n : Nat} {i j : Int}
include W
theorem ev_minT (hc : X.calm = true) (hr : Room n X.A) (ha : EV X F Γ Δ a (D X.K (.tuple [.int i, .int j]))) (hg : Gl X "min" := by rfl) (he : starEach (a :: []) X.env = (false, eval a X.env) :: starEach [] X.env := by rfl) : EV X F Γ Δ (.Call (.Name "min" p') [a] [] pos) (I X.K (if j < i then j else i)) :=
  ev_callB (cr_minT hc (room65 hr)) hg W.min (by decide +kernel) (ea_cons ha ea_nil he) (fun σ H vs s r Q k => by
    obtain ⟨v, rfl, rv⟩ := r.one
    obtain ⟨q, xs, rfl, h1, h2⟩ := T_val rv
    have e2 := dpAll_ints (ns := [i, j]).mp h2
    subst e2
    exact ⟨q, i, j, rfl, seqT_mono hide_le h1, k _ H (Same.refl H) (.int _)⟩) (by decide) (by decide) he
theorem ev_maxT (hc : X.calm = true) (hr : Room n X.A) (ha : EV X F Γ Δ a (D X.K (.tuple [.int i, .int j]))) (hg : Gl X "max" := by rfl) (he : starEach (a :: []) X.env = (false, eval a X.env) :: starEach [] X.env := by rfl) : EV X F Γ Δ (.Call (.Name "max" p') [a] [] pos) (I X.K (if i < j then j else i)) :=
  ev_callB (cr_maxT hc (room65 hr)) hg W.max (by decide +kernel) (ea_cons ha ea_nil he) (fun σ H vs s r Q k => by
    obtain ⟨v, rfl, rv⟩ := r.one
    obtain ⟨q, xs, rfl, h1, h2⟩ := T_val rv
    have e2 := dpAll_ints (ns := [i, j]).mp h2
    subst e2
    exact ⟨q, i, j, rfl, seqT_mono hide_le h1, k _ H (Same.refl H) (.int _)⟩) (by decide) (by decide) he
end
end Fr
set_option Elab.async false
set_option linter.all false
set_option maxRecDepth 100000
/-! Lay12: an owned list lent to a def. -/
namespace Fr
open PySem PySem.Spec PySem.Calls L2
def scal : PyData → Bool
  | .none => true
  | .bool _ => true
  | .int _ => true
  | .str _ => true
  | _ => false
def flatD : PyData → Bool
  | .tuple ds => ds.all scal
  | d => scal d
theorem scal_any {K : PySem.W.Frag} {G G' : Hp} : ∀ {d : PyData} {v : V}, scal d = true → Dp K G v d → Dp K G' v d
  | .none, _, _, h => by cases h; exact .non
  | .bool b, _, _, h => by cases h; exact .bl b
  | .int b, _, _, h => by cases h; exact .int b
  | .str b, _, _, h => by cases h; exact .str b
  | .list _, _, s, _ => nomatch s
  | .tuple _, _, s, _ => nomatch s
  | .dict _, _, s, _ => nomatch s
theorem scals_any {K : PySem.W.Frag} {G G' : Hp} : ∀ {ds : List PyData} {vs : List V}, ds.all scal = true → DpAll K G vs ds → DpAll K G' vs ds
  | [], _, _, h => by cases h; exact .nil
  | d :: ds, _, s, h => by
    rw [List.all_cons, Bool.and_eq_true] at s
    cases h with
    | cons h1 h2 => exact .cons (scal_any s.1 h1) (scals_any s.2 h2)
theorem flat_hide {K : PySem.W.Frag} {M M' : List Addr} {H : Hp} {p : Addr} {xs : List V} {d : PyData} {v : V} (hM : ∀ a, a ∈ M → a ∈ M' ∨ a = p) (hp : H p = some (.lst xs)) (hf : flatD d = true) (h : Dp K (Hide M' H) v d) : Dp K (Hide M H) v d := by
  have up : ∀ {a : Addr} {o : HO}, (∀ ys, o ≠ .lst ys) → Hide M' H a = some o → Hide M H a = some o := fun {a o} hn e => by
    have e1 := hide_le _ _ e
    have n1 : a ∉ M' := fun z => by rw [hide_in z] at e; cases e
    have n2 : a ≠ p := fun z => by
      rw [z, hp] at e1
      exact hn xs (Option.some.inj e1).symm
    rw [hide_out fun z => (hM a z).elim n1 n2]
    exact e1
  cases d with
  | tuple ds =>
    cases h with
    | tup hs ha =>
      refine .tup ?_ (scals_any hf ha)
      rcases hs with (h | ⟨o, h⟩) | h
      · exact .inl (.inl (up (fun ys z => nomatch z) h))
      · exact .inl (.inr ⟨o, up (fun ys z => nomatch z) h⟩)
      · exact .inr h
  | none => exact scal_any hf h
  | bool b => exact scal_any hf h
  | int b => exact scal_any hf h
  | str b => exact scal_any hf h
  | list ds => cases hf
  | dict ds => cases hf
section
variable {X : Cx} {F : Fm} {Γ : Gam} {Δ : Del} {e : Expr} {es : List Expr} {pos p' : Pos} {R : RP} {p : Addr} {ds : List PyData} {d : PyData} {j : Nat}
/-- a def called with an owned list; it gives back flat data -/
theorem ev_lend {α : Type} {S : FS α} {x : Str} {k n : Nat} {As : List RP} (y : α) (G : Df X.prog X.w X.K X.mg X.base x k n S) (hr : Room k X.A) (hk : Δ[j]? = some (p, LO X.K ds)) (ha : EA X F Γ Δ (e :: es) As)
    (h : ∀ G vs, (D X.K (.list ds)).r G (.ref p) → AllR G vs As → AllR G vs (S.arg y)) (hn : As.length = n) (hp : S.pre y) (hR : S.res y = D X.K d) (hf : flatD d = true) (hg : Gl X x := by rfl)
    (hd : (x == ("__debug__" : Str)) = false := by decide) (he : starEach (e :: es) X.env = (false, eval e X.env) :: starEach es X.env := by rfl) (hpl : (backTo pos (starEach es X.env)).any (·.1) = false := by rfl) : EV X F Γ Δ (.Call (.Name x p') (e :: es) [] pos) (D X.K d) := by
  obtain ⟨f, fd, ps, ok, hm, hkp, hb⟩ := G.ex
  refine pe_imp (pe_call ok hr hg hm hkp hb .nil pass0 ha hd he hpl) fun σ H Q ⟨s, q⟩ => ⟨s, fun vs H1 e1 r1 => ?_⟩
  have s1 := s.mono e1
  obtain ⟨s2, o, h1, xs, rfl, h2, _⟩ := s1.erase hk
  obtain ⟨_, g1, _⟩ := s1.lst hk
  have sub : ∀ a, a ∈ dom (Δ.eraseIdx j) → a ∈ dom Δ := fun a ha' => by
    obtain ⟨q, hq, rfl⟩ := List.mem_map.mp ha'
    exact List.mem_map.mpr ⟨q, List.mem_of_mem_eraseIdx hq, rfl⟩
  have up : Same (Hid F Δ H1) (Hid F (Δ.eraseIdx j) H1) := hide_sub fun a ha' => by
    rcases List.mem_append.mp ha' with z | z
    · exact List.mem_append_left _ (sub a z)
    · exact List.mem_append_right _ z
  show S.sp n (vs ++ []) H1 Q E0
  rw [List.append_nil]
  refine ⟨y, dom (Δ.eraseIdx j) ++ F.M, by rw [r1.len, hn], fun a ha' => s2.live ha', h _ _ ?_ (AllR.mono up r1), hp, fun v H' e2 r2 => q v H' (e1.trans e2) ?_⟩
  · exact Dp.lst (SqL.of h1) (AllR.data.mp h2)
  · rw [hR] at r2
    refine flat_hide (M' := dom (Δ.eraseIdx j) ++ F.M) (fun a ha' => ?_) (e2 _ _ g1) hf r2
    rcases List.mem_append.mp ha' with z | z
    · obtain ⟨q', hq, rfl⟩ := List.mem_map.mp z
      by_cases e3 : q'.1 = p
      · exact .inr e3
      · left
        refine List.mem_append_left _ (List.mem_map.mpr ⟨q', ?_, rfl⟩)
        obtain ⟨i, hi⟩ := List.mem_iff_getElem?.mp hq
        refine List.mem_eraseIdx_iff_getElem?.mpr ⟨i, ?_, hi⟩
        intro z
        subst z
        rw [hk] at hi
        cases hi
        exact e3 rfl
    · exact .inl (List.mem_append_right _ z)
end
end Fr
set_option Elab.async false
set_option linter.all false
set_option maxRecDepth 100000
/-! Lay13: an instance made, its fields chosen; the last of a list. -/
namespace Fr
open PySem PySem.Spec PySem.Calls L2
theorem atI_last {α : Type} {l : List α} {x : α} : atI (l ++ [x]) (-1) = some x := by
  unfold atI
  have e : ixN (l ++ [x]).length (-1) = some l.length := by
    rw [List.length_append, List.length_singleton]
    unfold ixN
    rw [if_neg (by decide), if_pos (by omega)]
    congr 1
    omega
  rw [e]
  simp
section
variable {X : Cx} {F : Fm} {Γ Γ' : Gam} {Δ : Del} {e : Expr} {es : List Expr} {pos p : Pos} {R : RP} {C : Addr} {As : List RP} {K : PySem.W.Frag}
theorem ev_makeE {α : Type} {S : IS α} {x : Str} {k n : Nat} {dvs : List V} (G : Dc X.prog X.w X.K X.mg X.base x C k n dvs S) (hr : Room (k + 1) X.A) (ha : EA X F Γ Δ (e :: es) As) (hn : As.length + dvs.length + 1 = n)
    (hd : ∀ G vs, AllR G vs As → ∃ y, AllR G (vs ++ dvs) (S.arg y) ∧ S.pre y ∧ ∀ G' v, (InR C (S.fds y)).r G' v → R.r G' v) (hg : Gl X x := by rfl)
    (hdb : (x == ("__debug__" : Str)) = false := by decide) (he : starEach (e :: es) X.env = (false, eval e X.env) :: starEach es X.env := by rfl) (hpl : (backTo pos (starEach es X.env)).any (·.1) = false := by rfl) : EV X F Γ Δ (.Call (.Name x p) (e :: es) [] pos) R := by
  obtain ⟨f, fd, ps, ds, M, ok, hm, hb, hv⟩ := G.ex
  refine pe_imp (pe_make M ok hr hg hm hb hv pass0 ha hdb he hpl) fun σ H Q ⟨s, q⟩ => ⟨s, fun vs H1 e1 r1 x dx hx hdx hne => ?_⟩
  have s1 := s.mono e1
  have nx : x ∉ dom Δ ++ F.M := s1.new hx
  have ndx : dx ∉ dom Δ ++ F.M := s1.new hdx
  have st : Same H1 (upd (upd H1 dx (.own x)) x (.ins C dx [])) := fun b o h => by
    rw [upd_ne (ne_of_none h hx), upd_ne (ne_of_none h hdx)]; exact h
  have up : Same (Hid F Δ H1) (Hide (x :: (dom Δ ++ F.M)) (upd (upd H1 dx (.own x)) x (.ins C dx []))) := fun b o h => by
    have h' := hide_le _ _ h
    have nb : b ≠ x := ne_of_none h' hx
    have na : b ∉ dom Δ ++ F.M := fun z => by rw [show Hid F Δ H1 b = none from hide_in z] at h; cases h
    rw [hide_out (by intro z; rcases List.mem_cons.mp z with z | z; exact nb z; exact na z)]
    exact st b o h'
  obtain ⟨y, hy, hp, hR⟩ := hd _ _ (AllR.mono up r1)
  refine ⟨y, dom Δ ++ F.M, x, dx, vs ++ dvs, rfl, ?_, upd_same, nx, fun p hp => ?_, hy, hp, fun H' ws k1 k2 k3 => ⟨rfl, q _ H' (e1.trans fun b o h => k1 b o (ne_of_none h hx) (st b o h)) (hR _ _ ?_)⟩⟩
  · rw [List.length_cons, List.length_append, r1.len]; omega
  · obtain ⟨o, h⟩ := s1.live hp
    exact ⟨o, st _ _ h⟩
  · refine ⟨x, dx, ws, rfl, ?_, AllR.mono (hide_sub fun a h => List.mem_cons_of_mem _ h) k3⟩
    show Hide _ _ x = _
    rw [hide_out nx]
    exact k2
end
end Fr
set_option Elab.async false
set_option linter.all false
set_option maxRecDepth 100000
/-! Lay14: ranges with a step; enumerate over a list of anything. -/
namespace Fr
open PySem PySem.Spec PySem.Calls L2
section
variable {X : Cx} {F : Fm} {Γ Γ' : Gam} {Δ : Del} {a b c e tg : Expr} {pos p' : Pos} {Rs : List RP}
theorem jok_rngC {lo c : Int} {n : Nat} : JOk (Itc lo c n) (List.range n) (fun i => I X.K (lo + (i : Nat) * c)) .non Any := fun M H hg hl => by
  refine ⟨fun i x hx => ?_, by rw [List.length_range]; exact Nat.le_refl _⟩
  have hi : i < n := by have := (List.getElem?_eq_some_iff.mp hx).1; simpa using this
  rw [List.getElem?_range hi] at hx
  cases hx
  refine ⟨hi, fun w H' hy => ?_⟩
  obtain ⟨rfl, rfl⟩ := hy
  exact ⟨Same.refl _, .int _⟩
theorem it_rng3 {i j k : Int} {n : Nat} (W : Bi X.mg) (h : EV X F Γ Δ a (I X.K i)) (h2 : EV X F Γ Δ b (I X.K j)) (h3 : EV X F Γ Δ c (I X.K k)) (hr : RgC i j k n) (hg : Gl X "range" := by rfl)
    (hs : starEach [a, b, c] X.env = (false, eval a X.env) :: starEach [b, c] X.env := by rfl) (hpl : (backTo pos (starEach [b, c] X.env)).any (·.1) = false := by rfl) (hs2 : starEach (b :: [c]) X.env = (false, eval b X.env) :: starEach [c] X.env := by rfl) (hs3 : starEach (c :: []) X.env = (false, eval c X.env) :: starEach [] X.env := by rfl) :
    IT X F Γ Δ tg (.Call (.Name "range" p') [a, b, c] [] pos) (List.range n) (fun t => I X.K (i + (t : Nat) * k)) := pi_imp (pi_range3 hg W.range (ea_cons h (ea_cons h2 (ea_cons h3 ea_nil hs3) hs2) hs) hs hpl) fun σ H R ⟨s, q⟩ => ⟨s, fun vs H1 e1 r1 => by
  match vs, r1 with
  | [u, v, w], r1 =>
    obtain ⟨g1, g2, g3, _⟩ := r1
    exact ⟨i, j, k, n, by rw [I_val g1, I_val g2, I_val g3], hr, q _ H1 .non Any e1 trivial jok_rngC⟩⟩
/-- enumerate over a list of anything -/
def EnuR (K : PySem.W.Frag) (x : RP × Nat) : RP := TR [I K (x.2 : Nat), x.1]
theorem jok_enuLR {a : Addr} : JOk (Ite X.K a) Rs.zipIdx (EnuR X.K) (.ref a) (LR Rs) := fun M H hg hl => by
  obtain ⟨a', xs, e, h1, h2⟩ := hg
  cases e
  have h1' : SqL X.K H a xs := SqL.of (hide_le _ _ h1)
  refine ⟨fun i x hx => ?_, xs, h1', by rw [h2.len, List.length_zipIdx]; exact Nat.le_refl _⟩
  rw [List.getElem?_zipIdx] at hx
  cases hd : Rs[i]? with
  | none => rw [hd] at hx; cases hx
  | some R =>
    rw [hd] at hx
    have hx : (R, 0 + i) = x := Option.some.inj hx
    subst hx
    obtain ⟨v, hv, dv⟩ := h2.get hd
    refine ⟨⟨xs, v, h1', hv⟩, fun w H' hy => ?_⟩
    obtain ⟨T, y, rfl, hT, rfl, hw⟩ := hy
    have := hw xs h1'
    rw [hv] at this
    cases this
    refine ⟨same_new hT, T, [V.int (i : Nat), v], rfl, ?_, ?_, ?_, trivial⟩
    · have : T ∉ M := fun z => by
        obtain ⟨o, e⟩ := hl T z
        rw [hT] at e; cases e
      rw [hide_out this, upd_same]
    · show Dp _ _ _ _
      rw [Nat.zero_add]
      exact .int _
    · exact R.m (hide_mono (same_new hT)) dv
theorem it_enuLR {elts : List Expr} {kk : Nat} {tpos : Pos} (W : Bi X.mg) (h : EV X F Γ Δ e (LR Rs)) (hg : Gl X "enumerate" := by rfl) (hs : starEach [e] X.env = [(false, eval e X.env)] := by rfl) (hs' : starEach (e :: []) X.env = (false, eval e X.env) :: starEach [] X.env := by rfl) :
    IT X F Γ Δ (.Tuple elts kk tpos) (.Call (.Name "enumerate" p') [e] [] pos) Rs.zipIdx (EnuR X.K) := pi_imp (pi_enum hg W.enumerate (ea_cons h ea_nil hs') hs) fun σ H R ⟨s, k⟩ => ⟨s, fun vs H1 e1 r1 => by
  obtain ⟨v, rfl, rv⟩ := r1.one
  obtain ⟨a, xs, rfl, h1, h2⟩ := id rv
  exact ⟨a, xs, rfl, SqL.of (hide_le _ _ h1), k _ H1 _ _ e1 rv jok_enuLR⟩⟩
theorem ev_lenR (W : Bi X.mg) (ha : EV X F Γ Δ a (LR Rs)) (hg : Gl X "len" := by rfl) (he : starEach (a :: []) X.env = (false, eval a X.env) :: starEach [] X.env := by rfl) : EV X F Γ Δ (.Call (.Name "len" p') [a] [] pos) (I X.K Rs.length) :=
  ev_callB call_len_seq hg W.len boot_len (ea_cons ha ea_nil he) (fun σ H vs s r Q k => by
    obtain ⟨v, rfl, p, xs, rfl, h1, h2⟩ := r.one
    exact ⟨p, xs, rfl, .inl (SqL.of (hide_le _ _ h1)), k _ H (Same.refl H) (by rw [h2.len]; exact Dp.int _)⟩) (by decide) (by decide) he
end
end Fr
set_option Elab.async false
set_option linter.all false
set_option maxRecDepth 100000
/-! Lay15: defs without a return; defs that give a list away; x, y = e. -/
namespace Fr
open PySem PySem.Spec PySem.Calls L2
section
variable {P : Program} {w : World} {K : PySem.W.Frag} {mg : Str → Option Value} {base : Heap}
def endN (F : Fm) : Ends := { nx := fun _ H' => Same F.H0 H', rt := fun _ _ => False }
/-- a def that ends without a return -/
theorem FS.okN {α : Type} (S : FS α) {x qual : Str} {st : Stmt} {f : Addr} {fd : FuncData} {N ps : List Str} {k n : Nat} (Fn : Fun K x qual st f fd) (Sc : FnScope N ps (defScope st)) (hn : ps.length = n) (hN : ∀ y, S.res y = Nn K)
    (hb : ∀ (cdv : Value) (A : Around) (outer : List Env) (s : Shared) (H : Hp) (E : XK) (M : List Addr) (y : α), Room k (A.deeper (PyProof.Rows.envOfC qual (defScope st) s.heap.objs.size f cdv)) → S.pre y →
      BK (cxOf CX0 P w K mg base N qual (defScope st) f cdv A outer s H E).nox ⟨H, M, []⟩ (argsG (S.arg y) N.length) [] (defBody st) (endN ⟨H, M, []⟩)) : FnOk P w K mg base CX0 (k + 1) f fd ps (S.sp n) := by
  refine Fn.ok Sc (fun vs H Q E h => ?_) (fun cdv A outer s H vs Q E hr h => ?_)
  · obtain ⟨_, _, h, _⟩ := h
    rw [h, hn]
  · obtain ⟨y, M, _, hl, ha, hp, hq⟩ := h
    exact ⟨_, hb cdv A outer s H E M y hr hp, stt_start hl ha, fun σ H' z => hq .non H' z (by rw [hN]; exact .non), fun v H' z => z.elim, fun _ _ z => z.elim, fun _ _ z => z.elim⟩
theorem b_endN {X : Cx} {F : Fm} {Γ : Gam} {Δ : Del} {P : Ends} (hP : P.nx = (endN F).nx) : BK X F Γ Δ [] P := b_nil fun σ H s => by
  rw [hP]; exact s.ex
/-! ### a list is given away -/
structure FO (α β : Type) where
  arg : α → List RP
  pre : α → Prop
  rows : α → β → List RP
  res : α → β → Addr → RP
  ok : α → β → Prop
def FO.sp {α β : Type} (S : FO α β) (n : Nat) : Sp := fun vs H Q _ => ∃ (x : α) (M : List Addr), vs.length = n ∧ Live M H ∧ AllR (Hide M H) vs (S.arg x) ∧ S.pre x ∧ ∀ v H' p y xs, Same H H' → S.ok x y → H p = none → H' p = some (.lst xs) → AllR (Hide (p :: M) H') xs (S.rows x y) → xs.length ≤ sizeLine → (S.res x y p).r (Hide (p :: M) H') v → Q v H'
structure Dfo (P : Program) (w : World) (K : PySem.W.Frag) (mg : Str → Option Value) (base : Heap) (x : Str) (k n : Nat) {α β : Type} (S : FO α β) : Prop where
  ex : ∃ (f : Addr) (fd : FuncData) (ps : List Str), FnOk P w K mg base CX0 k f fd ps (S.sp n) ∧ mg x = some (.ref f) ∧ PySem.W.keepIn K (.ref f) = true ∧ Binds K fd ps []
def retO {α β : Type} (S : FO α β) (F : Fm) (x : α) : Ends := { nx := fun _ _ => False, rt := fun v H' => Same F.H0 H' ∧ ∃ p y xs, S.ok x y ∧ F.H0 p = none ∧ H' p = some (.lst xs) ∧ AllR (Hide (p :: F.M) H') xs (S.rows x y) ∧ xs.length ≤ sizeLine ∧ (S.res x y p).r (Hide (p :: F.M) H') v }
theorem FO.okO {α β : Type} (S : FO α β) {x qual : Str} {st : Stmt} {f : Addr} {fd : FuncData} {N ps : List Str} {k n : Nat} (Fn : Fun K x qual st f fd) (Sc : FnScope N ps (defScope st)) (hn : ps.length = n)
    (hb : ∀ (cdv : Value) (A : Around) (outer : List Env) (s : Shared) (H : Hp) (E : XK) (M : List Addr) (y : α), Room k (A.deeper (PyProof.Rows.envOfC qual (defScope st) s.heap.objs.size f cdv)) → S.pre y →
      BK (cxOf CX0 P w K mg base N qual (defScope st) f cdv A outer s H E).nox ⟨H, M, []⟩ (argsG (S.arg y) N.length) [] (defBody st) (retO S ⟨H, M, []⟩ y)) : FnOk P w K mg base CX0 (k + 1) f fd ps (S.sp n) := by
  refine Fn.ok Sc (fun vs H Q E h => ?_) (fun cdv A outer s H vs Q E hr h => ?_)
  · obtain ⟨_, _, h, _⟩ := h
    rw [h, hn]
  · obtain ⟨y, M, _, hl, ha, hp, hq⟩ := h
    refine ⟨_, hb cdv A outer s H E M y hr hp, stt_start hl ha, fun σ H' z => z.elim, fun v H' z => ?_, fun _ _ z => z.elim, fun _ _ z => z.elim⟩
    obtain ⟨z1, p, yy, xs, z2, z3, z4, z5, z6, z7⟩ := z
    exact hq v H' p yy xs z1 z2 z3 z4 z5 z6 z7
end
section
variable {X : Cx} {F : Fm} {Γ Γ' : Gam} {Δ : Del} {e tg : Expr} {es : List Expr} {rest : List Stmt} {pos p' : Pos} {R : RP} {P : Ends} {As : List RP}
theorem b_endO {α β : Type} {S : FO α β} {x : α} {P : Ends} {p : Addr} (y : β) (hP : P.rt = (retO S F x).rt) (hΔ : Δ = [(p, LOR (S.rows x y))]) (he : EV X F Γ Δ e (S.res x y p)) (hk : S.ok x y) : BK X F Γ Δ (.Return (some e) pos :: rest) P := b_ret he fun v H σ s r => by
  subst hΔ
  rw [hP]
  obtain ⟨xs, h1, h2, h3⟩ := s.lst (k := 0) rfl
  exact ⟨s.ex, p, y, xs, hk, s.fr p (List.mem_cons_self ..), h1, h2, h3, r⟩
/-- x, y = f(e, ..), a fresh list among what it gives -/
theorem b_asgO {α β : Type} {S : FO α β} {x : Str} {k n : Nat} (y : α) {Γ2 : β → Addr → Gam} {js : List Nat} (G : Dfo X.prog X.w X.K X.mg X.base x k n S) (hr : Room k X.A) (ha : EA X F Γ Δ (e :: es) As)
    (h : As.length = n ∧ ∀ G vs, AllR G vs As → AllR G vs (S.arg y)) (hpre : S.pre y) (ht : ∀ z p, TG' X F Γ ((p, LOR (S.rows y z)) :: Δ) tg (S.res y z p) (Γ2 z p) js) (hb' : ∀ z p, S.ok y z → BK X F (Γ2 z p) ((p, LOR (S.rows y z)) :: Δ) rest P) {pos2 : Pos}
    (hs : swapsWithSole [tg] (.Call (.Name x p') (e :: es) [] pos) pos2.line X.env = pure false := by rfl) (hw : swappedStores [tg] (.Call (.Name x p') (e :: es) [] pos) X.env = pure none := by rfl)
    (h1 : (assignEach [tg] X.env).map (·.2) = [assign tg X.env] := by rfl) (hg : Gl X x := by rfl)
    (hd : (x == ("__debug__" : Str)) = false := by decide) (he : starEach (e :: es) X.env = (false, eval e X.env) :: starEach es X.env := by rfl) (hpl : (backTo pos (starEach es X.env)).any (·.1) = false := by rfl) : BK X F Γ Δ (.Assign [tg] (.Call (.Name x p') (e :: es) [] pos) pos2 :: rest) P := by
  obtain ⟨f, fd, ps, ok, hm, hk, hbd⟩ := G.ex
  have tgt : PG X tg (fun v σ H Q => ∃ z p, tTg F Γ ((p, LOR (S.rows y z)) :: Δ) (S.res y z p) (Γ2 z p) js v σ H Q) := ⟨fun pins s σ H v u Q I r ⟨z, p, q⟩ => (ht z p).run pins s σ H v u Q I r q⟩
  refine ba_seq (M := fun σ H => ∃ z p, S.ok y z ∧ Stt F (Γ2 z p) ((p, LOR (S.rows y z)) :: Δ) σ H) (ps_asg (pe_call ok hr hg hm hk hbd .nil pass0 ha hd he hpl) tgt hs hw h1) (fun D0 σ H s ple => ⟨s, fun vs H1 e1 r1 => ?_⟩) (ba_ex fun z => ba_ex fun p => ba_cond fun c => hb' z p c)
  have s1 := s.mono e1
  show S.sp n (vs ++ []) H1 _ E0
  rw [List.append_nil]
  refine ⟨y, dom Δ ++ F.M, by rw [r1.len, h.1], fun p hp => s1.live hp, h.2 _ _ r1, hpre, fun v H' p z xs e2 hz hp hx ha' hsz hres => ⟨z, p, ⟨s1.take hp e2 hx ⟨xs, rfl, ha', hsz⟩, hres⟩, fun σ' s' _ => ple.1 _ _ ⟨z, p, hz, s'⟩⟩⟩
end
end Fr
set_option Elab.async false
set_option linter.all false
set_option maxRecDepth 100000
/-! Lay16: x, y = f(e, ..), with an argument that is one of many. -/
namespace Fr
open PySem PySem.Spec PySem.Calls L2
section
variable {X : Cx} {F : Fm} {Γ Γ' : Gam} {Δ : Del} {e tg : Expr} {es : List Expr} {rest : List Stmt} {pos p' : Pos} {R : RP} {P : Ends} {As : List RP}
theorem b_asgOE {α β : Type} {S : FO α β} {x : Str} {k n : Nat} (C : α → Prop) {Γ2 : α → β → Addr → Gam} {js : List Nat} (G : Dfo X.prog X.w X.K X.mg X.base x k n S) (hr : Room k X.A) (ha : EA X F Γ Δ (e :: es) As)
    (h1 : As.length = n) (h : ∀ G vs, AllR G vs As → ∃ y, AllR G vs (S.arg y) ∧ S.pre y ∧ C y) (ht : ∀ y z p, TG' X F Γ ((p, LOR (S.rows y z)) :: Δ) tg (S.res y z p) (Γ2 y z p) js) (hb' : ∀ y z p, C y → S.ok y z → BK X F (Γ2 y z p) ((p, LOR (S.rows y z)) :: Δ) rest P) {pos2 : Pos}
    (hs : swapsWithSole [tg] (.Call (.Name x p') (e :: es) [] pos) pos2.line X.env = pure false := by rfl) (hw : swappedStores [tg] (.Call (.Name x p') (e :: es) [] pos) X.env = pure none := by rfl)
    (h2 : (assignEach [tg] X.env).map (·.2) = [assign tg X.env] := by rfl) (hg : Gl X x := by rfl)
    (hd : (x == ("__debug__" : Str)) = false := by decide) (he : starEach (e :: es) X.env = (false, eval e X.env) :: starEach es X.env := by rfl) (hpl : (backTo pos (starEach es X.env)).any (·.1) = false := by rfl) : BK X F Γ Δ (.Assign [tg] (.Call (.Name x p') (e :: es) [] pos) pos2 :: rest) P := by
  obtain ⟨f, fd, ps, ok, hm, hk, hbd⟩ := G.ex
  have tgt : PG X tg (fun v σ H Q => ∃ y z p, tTg F Γ ((p, LOR (S.rows y z)) :: Δ) (S.res y z p) (Γ2 y z p) js v σ H Q) := ⟨fun pins s σ H v u Q I r ⟨y, z, p, q⟩ => (ht y z p).run pins s σ H v u Q I r q⟩
  refine ba_seq (M := fun σ H => ∃ y z p, (C y ∧ S.ok y z) ∧ Stt F (Γ2 y z p) ((p, LOR (S.rows y z)) :: Δ) σ H) (ps_asg (pe_call ok hr hg hm hk hbd .nil pass0 ha hd he hpl) tgt hs hw h2) (fun D0 σ H s ple => ⟨s, fun vs H1 e1 r1 => ?_⟩) (ba_ex fun y => ba_ex fun z => ba_ex fun p => ba_cond fun c => hb' y z p c.1 c.2)
  have s1 := s.mono e1
  show S.sp n (vs ++ []) H1 _ E0
  rw [List.append_nil]
  obtain ⟨y, q1, q2, q3⟩ := h _ _ r1
  refine ⟨y, dom Δ ++ F.M, by rw [r1.len, h1], fun p hp => s1.live hp, q1, q2, fun v H' p z xs e2 hz hp hx ha' hsz hres => ⟨y, z, p, ⟨s1.take hp e2 hx ⟨xs, rfl, ha', hsz⟩, hres⟩, fun σ' s' _ => ple.1 _ _ ⟨y, z, p, ⟨q3, hz⟩, s'⟩⟩⟩
end
end Fr
set_option Elab.async false
set_option linter.all false
set_option maxRecDepth 100000
/-! Lay17: x.extend(e). -/
namespace Fr
open PySem PySem.Spec PySem.Calls L2
section
variable {X : Cx} {F : Fm} {Γ Γ' : Gam} {Δ Δ' : Del} {e a b : Expr} {es : List Expr} {rest : List Stmt} {pos : Pos} {R R' : RP} {P : Ends} {p : Addr} {Rs As : List RP} {k : Nat} {i : Int}
theorem b_ext {apos : Pos} (ho : EV X F Γ Δ a (Vl (.ref p))) (hk : Δ[k]? = some (p, LOR Rs)) (he : EV X F Γ Δ e (LR As)) (hz : Rs.length + As.length < 100000) (h : BK X F Γ (Δ.set k (p, LOR (Rs ++ As))) rest P)
    (h1 : attributeBase a "extend" X.env (eval a X.env) = eval a X.env := by rfl)
    (hfew : ((backTo pos (starEach (e :: []) X.env)).all (fun x => !x.1) && (backToKw pos (keywordEach [] X.env)).all (fun x => x.1.isSome)
      && decide ((e :: ([] : List Expr)).length + ([] : List Keyword).length + (if ([] : List Keyword).isEmpty then 0 else 1) < 30)) = true := by rfl)
    (h2 : (apos.endLine == pos.line) = true := by rfl) {pos2 : Pos} (hst : starEach (e :: []) X.env = (false, eval e X.env) :: starEach [] X.env := by rfl) (hpl : (backTo pos (starEach [] X.env)).any (·.1) = false := by rfl)
    (hs : swapsWith (.Call (.Attribute a "extend" apos) [e] [] pos) none pos2.line X.env = pure false := by rfl) : BK X F Γ Δ (.Expr (.Call (.Attribute a "extend" apos) [e] [] pos) pos2 :: rest) P :=
  ba_seq (ps_expr (pe_bm PySem.F.plainAttrs_list PySem.F.slot_list_extend PySem.F.type_list_extend mt_extend ho (ea_cons he ea_nil hst) h1 hfew h2 hst hpl) hs) (fun D σ H s ple => ⟨s, fun v H1 e1 hv => by
    have hv : v = .ref p := hv
    subst hv
    have s1 := s.mono e1
    obtain ⟨xs1, g1, _⟩ := s1.lst hk
    refine ⟨Or.inl ⟨rfl, _, Or.inl (Or.inl g1)⟩, s1, fun vs H2 e2 r2 => ?_⟩
    obtain ⟨y, rfl, ry⟩ := r2.one
    obtain ⟨q, zs, rfl, hq, hall⟩ := ry
    have s2 := s1.mono e2
    obtain ⟨xs, g, ga, gz⟩ := s2.lst hk
    refine ⟨p, q, xs, zs, rfl, rfl, g, hide_le _ _ hq, by rw [ga.len, hall.len, sizeLine_eq]; omega, ple.1 _ _ (s2.wrk hk ⟨_, rfl, AllR.app ga hall, ?_⟩)⟩
    rw [List.length_append, ga.len, hall.len, sizeLine_eq]
    omega⟩) h
theorem b_extD {k : Nat} {apos : Pos} {ds ds' : List PyData} (ho : EV X F Γ Δ a (Vl (.ref p))) (hk : Δ[k]? = some (p, LO X.K ds)) (he : EV X F Γ Δ e (LR (ds'.map (D X.K)))) (hz : ds.length + ds'.length < 100000) (h : BK X F Γ (Δ.set k (p, LO X.K (ds ++ ds'))) rest P)
    (h1 : attributeBase a "extend" X.env (eval a X.env) = eval a X.env := by rfl)
    (hfew : ((backTo pos (starEach (e :: []) X.env)).all (fun x => !x.1) && (backToKw pos (keywordEach [] X.env)).all (fun x => x.1.isSome)
      && decide ((e :: ([] : List Expr)).length + ([] : List Keyword).length + (if ([] : List Keyword).isEmpty then 0 else 1) < 30)) = true := by rfl)
    (h2 : (apos.endLine == pos.line) = true := by rfl) {pos2 : Pos} (hst : starEach (e :: []) X.env = (false, eval e X.env) :: starEach [] X.env := by rfl) (hpl : (backTo pos (starEach [] X.env)).any (·.1) = false := by rfl)
    (hs : swapsWith (.Call (.Attribute a "extend" apos) [e] [] pos) none pos2.line X.env = pure false := by rfl) : BK X F Γ Δ (.Expr (.Call (.Attribute a "extend" apos) [e] [] pos) pos2 :: rest) P :=
  b_ext (Rs := ds.map (D X.K)) (As := ds'.map (D X.K)) ho hk he (by rw [List.length_map, List.length_map]; exact hz) (by rw [← List.map_append]; exact h) h1 hfew h2 hst hpl hs
end
end Fr
set_option Elab.async false
set_option linter.all false
set_option maxRecDepth 100000
/-! Lay18: x = [(a fresh object) for ..], x a cell. -/
namespace Fr
open PySem PySem.Spec PySem.Calls L2
section
variable {α : Type} {X : Cx} {F : Fm} {Γ Γ' : Gam} {Δ Δ' : Del} {e a b : Expr} {es : List Expr} {rest : List Stmt} {pos : Pos} {R R' : RP} {P : Ends} {p : Addr} {Rs As : List RP} {k : Nat} {i : Int} {scope : Scope} {own : List (Str × Nat)} {ifs : List Expr} {elt iter tg : Expr} {xs : List α} {it : α → RP} {pr : α → Bool} {f : α → RP} {Γt : α → Gam} {js : List Nat} {σ : Sig} {H : Hp}
theorem lf_run {O : Addr → OP} {Q : VK} (hj : ∀ j ∈ js, j ∈ own.map (·.2)) (hl : xs.length ≤ 100000) (s : Stt F Γ Δ σ H)
    (kk : ∀ ps D H', ps.length = xs.length → Stt F Γ (owns ps O ++ Δ) σ H' → (LR (Vp ps)).r (Hid F (owns ps O ++ Δ) H') (.ref D) → Q (.ref D) H') :
    tLc (tIt F Γ Δ xs it) (lfG F Γ Δ O own xs it Γt js) (lfT F Δ O xs Γt) (lfE F Δ O xs Γt) (own.map (·.2)) σ H Q := by
  refine ⟨s, fun J H1 gv gR e1 hg ok D hD => ?_⟩
  have s1 : Stt (F.push gv gR) (wipeG Γ (own.map (·.2))) Δ (wipe σ (own.map (·.2))) H1 :=
    let z := (s.mono e1).push hg
    ⟨z.ex, z.fr, z.lv, z.nd, z.ow, z.gh, slots_wipe z.sl _⟩
  -- the callers' slots are kept beside
  refine ⟨fun n m H' => m = xs.length - n ∧ n ≤ xs.length ∧ ∃ ps : List Addr, ps.length = n ∧ (∀ p ∈ ps, H1 p = none) ∧ Same H1 H' ∧ Stt (F.push gv gR) (wipeG Γ (own.map (·.2))) ((D, LOR (Vp ps)) :: (owns ps O ++ Δ)) (wipe σ (own.map (·.2))) H', ?_, ?_⟩
  · refine ⟨xs.length, rfl, Nat.zero_le _, [], rfl, (fun p h => by cases h), same_new hD, ?_⟩
    exact s1.own (O := LOR []) hD fun G _ => (⟨[], rfl, trivial, Nat.zero_le _⟩ : ∃ ys, HO.lst [] = HO.lst ys ∧ AllR G ys [] ∧ ys.length ≤ sizeLine)
  rintro n m H' ⟨rfl, hn, ps, hps, hpn, e', s'⟩
  obtain ⟨k1, k2⟩ := ok (dom ((D, LOR (Vp ps)) :: (owns ps O ++ Δ)) ++ F.M) H' s'.mem fun p hp => s'.live hp
  by_cases hlt : n < xs.length
  · have hx := List.getElem?_eq_getElem hlt
    have hmem : xs[n] ∈ xs := List.getElem_mem hlt
    generalize xs[n] = x at hx hmem
    obtain ⟨go, yld⟩ := k1 n x hx
    refine .inr ⟨go, fun H' => ∃ ps : List Addr, ps.length = n + 1 ∧ (∀ p ∈ ps, H1 p = none) ∧ Same H1 H' ∧ Stt (F.push gv gR) (wipeG Γ (own.map (·.2))) ((D, LOR (Vp ps)) :: (owns ps O ++ Δ)) (wipe σ (own.map (·.2))) H', fun H2 h2 => ⟨xs.length - (n + 1), by omega, rfl, hlt, h2⟩, fun v H2 hy => ?_⟩
    obtain ⟨e2, rv⟩ := yld v H2 hy
    refine ⟨gv, gR, D, ps, x, hmem, ⟨s'.mono e2, rv⟩, fun σ3 s3 w3 => ⟨by rw [w3 (own.map (·.2)) hj]; exact wipe_idem _ _, gv, gR, D, ps, x, hmem, s3, fun H3 e3 => ?_⟩⟩
    refine iteT ⟨gv, gR, D, ps, x, hmem, s3.mono e3, fun p H4 o hp e4 h4 ho => ?_⟩
    have s4 := (s3.mono e3).take hp e4 h4 ho
    have s5 := ((s'.mono e2).mono e3).take (O := O p) hp e4 h4 ho
    obtain ⟨ys, g, ga, gz⟩ := s4.lst (k := 1) rfl
    have hlen : ys.length < sizeLine := by
      rw [ga.len, sizeLine_eq]; simp; omega
    refine ⟨ys, g, hlen, ps ++ [p], by simp [hps], ?_, ?_, ?_⟩
    · intro q hq
      rcases List.mem_append.mp hq with h | h
      · exact hpn q h
      · rw [List.mem_singleton.mp h]
        exact ((e'.trans e2).trans e3).free hp
    · intro a u h
      rw [upd_ne (ne_of_none h hD)]
      exact e4 _ _ (e3 _ _ (e2 _ _ (e' _ _ h)))
    · have s6 := s5.wrk (k := 1) (O' := LOR (Vp (ps ++ [p]))) (o := .lst (ys ++ [.ref p])) rfl ⟨_, rfl, by
        rw [show Vp (ps ++ [p]) = Vp ps ++ [Vl (.ref p)] from by simp [Vp]]
        exact AllR.app ga ⟨rfl, trivial⟩, by rw [List.length_append]; show ys.length + 1 ≤ _; omega⟩
      refine s6.perm ?_
      show ((p, O p) :: (D, LOR (Vp (ps ++ [p]))) :: (owns ps O ++ Δ)).Perm _
      refine (List.Perm.swap _ _ _).trans (List.Perm.cons _ ?_)
      have : owns (ps ++ [p]) O ++ Δ = owns ps O ++ ((p, O p) :: Δ) := by simp [owns]
      rw [this]
      exact List.perm_middle.symm
  · have ei : n = xs.length := by omega
    subst ei
    refine .inl ⟨k2, ?_⟩
    obtain ⟨s2, o, h1, ys, rfl, ha, _⟩ := s'.erase (k := 0) (p := D) (O := LOR (Vp ps)) rfl
    have s2 : Stt (F.push gv gR) (wipeG Γ (own.map (·.2))) (owns ps O ++ Δ) (wipe σ (own.map (·.2))) H' := s2
    have up : Same (Hid F Δ H) (Hid (F.push gv gR) (owns ps O ++ Δ) H') := fun a u h => by
      have h' := hide_le _ _ h
      have na : a ∉ dom Δ ++ F.M := fun z => by rw [show Hid F Δ H a = none from hide_in z] at h; cases h
      show Hide _ _ a = _
      rw [hide_out]
      · exact e' _ _ (e1 _ _ h')
      · intro z
        rcases List.mem_append.mp z with z | z
        · simp only [dom, owns, List.map_append, List.mem_append, List.map_map] at z
          rcases z with z | z
          · obtain ⟨q, hq, rfl⟩ := List.mem_map.mp z
            have h2 : H1 q = some u := e1 _ _ h'
            rw [hpn q hq] at h2
            cases h2
          · exact na (List.mem_append_left _ z)
        · exact na (List.mem_append_right _ z)
    have s3 : Stt F Γ (owns ps O ++ Δ) σ H' := ⟨s2.ex, s2.fr, s2.lv, s2.nd, s2.ow, fun g hg => s2.gh g (List.mem_cons_of_mem _ hg), s.sl.mono up⟩
    exact kk ps D H' hps s3 ⟨D, ys, rfl, h1, ha⟩
theorem b_ownLcFc {O : Addr → OP} {i : Nat} {x : Str} {pos' spos : Pos} (hc : X.calm = true) (hN : X.N.Nodup) (hit : IT X F Γ Δ tg iter xs it) (ok : BlkOk X.N X.env.scope scope own)
    (ht : ∀ (s : Shared) (H : Hp) (C : Addr) (cl : List (Str × Addr)) (fp : List Addr) gv gR (D : Addr) (ps : List Addr) (x : α), x ∈ xs → TG' (X.blk s H scope (compEnvC scope cl C X.env) fp) (F.push gv gR) (wipeG Γ (own.map (·.2))) ((D, LOR (Vp ps)) :: (owns ps O ++ Δ)) tg (it x) (Γt x) js)
    (he : ∀ (s : Shared) (H : Hp) (C : Addr) (cl : List (Str × Addr)) (fp : List Addr) gv gR (D : Addr) (ps : List Addr) (x : α), x ∈ xs → EF (X.blk s H scope (compEnvC scope cl C X.env) fp) (F.push gv gR) (Γt x) ((D, LOR (Vp ps)) :: (owns ps O ++ Δ)) elt O)
    (hj : ∀ j ∈ js, j ∈ own.map (·.2)) (hl : xs.length ≤ 100000) (hil : i < Γ.length)
    (hr : ∀ ps, ps.length = xs.length → BK X F (Γ.set i (some (LR (Vp ps)))) (owns ps O ++ Δ) rest P) (hi : X.N[i]? = some x := by rfl) (hx : Loc X.env.scope x := by first | exact Or.inl rfl | exact Or.inr rfl)
    (hsw : swapsWith (.ListComp elt [⟨tg, iter, [], 0⟩] scope pos) (some (.Name x pos')) spos.line X.env = pure false := by rfl) (hf : X.fn x = true ∨ X.env.scope.names.lookup x = some .local := by first | exact .inl rfl | exact .inr rfl) (hs : ∀ x, foldedSetIterable iter X.env x = pure x := by intro _; rfl) :
    BK X F Γ Δ (.Assign [.Name x pos'] (.ListComp elt [⟨tg, iter, [], 0⟩] scope pos) spos :: rest) P :=
  ba_seq (M := fun σ H => ∃ ps, ps.length = xs.length ∧ Stt F (Γ.set i (some (LR (Vp ps)))) (owns ps O ++ Δ) σ H) (ps_set hN hi hx (pe_lc (g := lfG F Γ Δ O own xs it Γt js) (tt := lfT F Δ O xs Γt) (te := lfE F Δ O xs Γt) hc hN hit ok
    (fun s H C cl fp => ⟨fun pins s' σ H' v u Q I r ⟨gv, gR, D, ps, x, hx, q⟩ => (ht s H C cl fp gv gR D ps x hx).run pins s' σ H' v u Q I r q⟩)
    (fun s H C cl fp => ⟨fun pins s' σ H' Q I ⟨gv, gR, D, ps, x, hx, q⟩ => ets_nil.run pins s' σ H' Q I q⟩)
    (fun s H C cl fp => ⟨fun pins s' σ H' Q I ⟨gv, gR, D, ps, x, hx, q⟩ => (he s H C cl fp gv gR D ps x hx).run pins s' σ H' Q I q⟩) hs) hsw hf)
    (fun D0 σ H s ple => lf_run hj hl s fun ps D H' hps s3 r => ple.1 _ _ ⟨ps, hps, s3.set (R := LR (Vp ps)) r i⟩) (ba_ex fun ps => ba_cond fun h => hr ps h)
end
end Fr
set_option Elab.async false
set_option linter.all false
set_option maxRecDepth 100000
/-! Lay19: an own error raised, caught, read. -/
namespace Fr
open PySem PySem.Spec PySem.Calls L2
/-- isinstance(e, (C, ..)), e the exception that the suite holds -/
def rIsET (K : PySem.W.Frag) (D a : Addr) : List V → Hp → VK → Prop := fun xs H Q => ∃ (tp : Addr) (Cs : List Addr) (b : Bool), xs = [.ref a, .ref tp] ∧ H tp = some (.tup (Cs.map V.ref)) ∧ PySem.W.kitAny K (.ref D) (Cs.map Value.ref) = some b ∧ Q (.bl b) H
theorem vals_refs : ∀ {Cs : List Addr} {us : List Value}, Vals (Cs.map V.ref) us → us = Cs.map Value.ref
  | [], us, r => by cases r; rfl
  | c :: Cs, us, r => by
    cases r with
    | cons r1 r2 =>
      have e1 := vals_refs r2
      subst e1
      cases r1
      rfl
section
variable {X : Cx} {a D : Addr} {oe : Obj} {d : Option Addr} {pn : List (Addr × Obj)}
theorem kit_exc {K : PySem.W.Frag} {od : Option Obj} (C : ExcC K D) : PySem.W.KitX K (.ref a) (.ref D) (fun h => PySem.W.InstAt h a oe D od) :=
  PySem.W.kitx_exc (by obtain ⟨cd, hc, _⟩ := PySem.W.any_some C.hd; rw [hc]; rfl) C.hg C.hk C.hs C.ha C.hn C.ht C.hm
/-- the exception stands on the heap, its dict beside -/
theorem inst_of {pins : List (Addr × Obj)} {σ : St} {H : Hp} {s : Shared} {dd : Addr} {fs : List (Str × V)} (I : Inv (X.suite a ((a, oe) :: pn)) pins σ H s) (hz : Zc (.ref D) (some dd) oe) (hf : ∃ vs, oe.data = .fields vs) (hd : H dd = some (.xd fs)) : ∃ od, PySem.W.InstAt s.heap a oe D (some od) := by
  obtain ⟨ha, _⟩ := I.pin (a, oe) (List.mem_append_left _ List.mem_cons_self)
  obtain ⟨vs, hv⟩ := hf
  have hx : ObjOk X.prog X.w H s.heap dd (.xd fs) := I.hok dd _ hd
  obtain ⟨mA, hns, hr⟩ := hx
  obtain ⟨od, ho, hl⟩ := lookIn_ns hns
  exact ⟨od, ha, hz.1, by unfold PySem.W.notCls; rw [hv] <;> rfl, by rw [hz.2]; exact ho⟩
/-- .. with its dict told -/
def rIsEx (K : PySem.W.Frag) (D a dd : Addr) : List V → Hp → VK → Prop := fun xs H Q => (∃ fs, H dd = some (.xd fs)) ∧ ((∃ (tp : Addr) (Cs : List Addr) (b : Bool), xs = [.ref a, .ref tp] ∧ H tp = some (.tup (Cs.map V.ref)) ∧ PySem.W.kitAny K (.ref D) (Cs.map Value.ref) = some b ∧ Q (.bl b) H) ∨ (∃ (C : Addr) (b : Bool), xs = [.ref a, .ref C] ∧ PySem.W.kitOne K (.ref D) (.ref C) = some b ∧ Q (.bl b) H))
theorem call_isEx {dd : Addr} (C : ExcC X.K D) (hz : Zc (.ref D) (some dd) oe) (hf : ∃ vs, oe.data = .fields vs) : CallR (X.suite a ((a, oe) :: pn)) (.builtin "isinstance") (rIsEx X.K D a dd) := by
  intro pins s σ H xs us Q I r h
  obtain ⟨⟨fs, hd⟩, h⟩ := h
  obtain ⟨od, J⟩ := inst_of I hz hf hd
  have kin : X.K.In s.heap := I.kIn
  rcases h with ⟨tp, Cs, b, rfl, hT, e, q⟩ | ⟨E, b, rfl, e, q⟩
  · obtain ⟨u1, u2, rfl, r1, r2⟩ := vals2 r
    cases (show u2 = Value.ref tp from r2)
    cases (show u1 = Value.ref a from r1)
    obtain ⟨_, its, rv, o, h1, h2, n, h3⟩ := (show ObjOk X.prog X.w H s.heap tp (.tup (Cs.map V.ref)) from I.hok tp _ hT)
    have e3 := vals_refs rv
    subst e3
    obtain ⟨oc, od', dt, sl⟩ := o
    simp only at h2 h3
    subst h2 h3
    exact PySem.W.kia_tup (kit_exc C) kin J h1 e (fun z => nomatch z) fun tk => ⟨.bl b, H, I.tok tk, rfl, q⟩
  · obtain ⟨u1, u2, rfl, r1, r2⟩ := vals2 r
    cases (show u2 = Value.ref E from r2)
    cases (show u1 = Value.ref a from r1)
    exact PySem.W.kia_one (kit_exc C) kin J e (fun z => nomatch z) fun tk => ⟨.bl b, H, I.tok tk, rfl, q⟩
end
end Fr
set_option Elab.async false
set_option linter.all false
set_option maxRecDepth 100000
/-! Lay20: an own error in the suite that caught it. -/
namespace Fr
open PySem PySem.Spec PySem.Calls L2
/-- a dict of an exception -/
def Xd (dd : Addr) (fs : List (Str × V)) : RP := ⟨fun G _ => G dd = some (.xd fs), fun e h => e _ _ h⟩
theorem allR_refs {G : Hp} : ∀ {Cs : List Addr} {xs : List V}, AllR G xs (Cs.map fun c => Vl (.ref c)) → xs = Cs.map V.ref
  | [], [], _ => rfl
  | c :: Cs, x :: xs, h => by
    have h1 : x = .ref c := h.1
    rw [h1, allR_refs h.2]; rfl
  | [], _ :: _, h => h.elim
  | _ :: _, [], h => h.elim
section
variable {X : Cx} {a C dd : Addr} {oe : Obj} {fs : List (Str × V)} {pn : List (Addr × Obj)} {F : Fm} {Γ : Gam} {Δ : Del} {e e2 : Expr} {pos p' : Pos} {R : RP} {v : V} {n : Str} {b : Bool}
theorem ev_xf (T : XfC X.K C) (hno : PySem.W.findIn X.K (.ref C) n = some none) (hz : Zc (.ref C) (some dd) oe) (hf : ∃ vs, oe.data = .fields vs) (he : EV (X.suite a ((a, oe) :: pn)) (F.push (.ref dd) (Xd dd fs)) Γ Δ e (Vl (.ref a))) (hl : fs.lookup n = some v) (hR : ∀ G, R.r G v) (hb : attributeBase e n X.env (eval e X.env) = eval e X.env := by rfl) :
    EV (X.suite a ((a, oe) :: pn)) (F.push (.ref dd) (Xd dd fs)) Γ Δ (.Attribute e n pos) R :=
  pe_imp (pe_xf T hno hz hf he hb) fun σ H Q ⟨s, k⟩ => ⟨s, fun x H1 e1 r1 => by
    have hd : (Xd dd fs).r (Hid (F.push (.ref dd) (Xd dd fs)) Δ H1) (.ref dd) := (s.mono e1).mem
    exact ⟨r1, rfl, dd, fs, v, rfl, hide_le _ _ hd, hl, k v H1 e1 (hR _)⟩⟩
theorem ev_isEx (W : Bi X.mg) (T : ExcC X.K C) (hz : Zc (.ref C) (some dd) oe) (hf : ∃ vs, oe.data = .fields vs) {Cs : List Addr} (he : EV (X.suite a ((a, oe) :: pn)) (F.push (.ref dd) (Xd dd fs)) Γ Δ e (Vl (.ref a))) (he2 : EV (X.suite a ((a, oe) :: pn)) (F.push (.ref dd) (Xd dd fs)) Γ Δ e2 (TR (Cs.map fun c => Vl (.ref c)))) (hk : PySem.W.kitAny X.K (.ref C) (Cs.map Value.ref) = some b)
    (hg : Gl X "isinstance" := by rfl) (h1 : starEach (e :: [e2]) X.env = (false, eval e X.env) :: starEach [e2] X.env := by rfl) (h2 : starEach (e2 :: []) X.env = (false, eval e2 X.env) :: starEach [] X.env := by rfl) (hpl : (backTo pos (starEach [e2] X.env)).any (·.1) = false := by rfl) :
    EV (X.suite a ((a, oe) :: pn)) (F.push (.ref dd) (Xd dd fs)) Γ Δ (.Call (.Name "isinstance" p') [e, e2] [] pos) (B X.K b) :=
  ev_callB (X := X.suite a ((a, oe) :: pn)) (call_isEx (pn := pn) (dd := dd) T hz hf) hg W.isinstance (by decide +kernel) (ea_cons he (ea_cons he2 ea_nil h2) h1) (fun σ H vs s r Q k => by
    obtain ⟨x, y, rfl, rx, tp, xs, rfl, g1, g2⟩ := r.two
    have rx : x = .ref a := rx
    subst rx
    have ex := allR_refs g2
    subst ex
    have hd : (Xd dd fs).r (Hid (F.push (.ref dd) (Xd dd fs)) Δ H) (.ref dd) := s.mem
    exact ⟨⟨fs, hide_le _ _ hd⟩, .inl ⟨tp, Cs, b, rfl, hide_le _ _ g1, hk, k _ H (Same.refl H) (.bl b)⟩⟩) (by decide) (by decide) h1 hpl
theorem ev_isEx1 (W : Bi X.mg) (T : ExcC X.K C) (hz : Zc (.ref C) (some dd) oe) (hf : ∃ vs, oe.data = .fields vs) {D : Addr} (he : EV (X.suite a ((a, oe) :: pn)) (F.push (.ref dd) (Xd dd fs)) Γ Δ e (Vl (.ref a))) (he2 : EV (X.suite a ((a, oe) :: pn)) (F.push (.ref dd) (Xd dd fs)) Γ Δ e2 (Vl (.ref D))) (hk : PySem.W.kitOne X.K (.ref C) (.ref D) = some b)
    (hg : Gl X "isinstance" := by rfl) (h1 : starEach (e :: [e2]) X.env = (false, eval e X.env) :: starEach [e2] X.env := by rfl) (h2 : starEach (e2 :: []) X.env = (false, eval e2 X.env) :: starEach [] X.env := by rfl) (hpl : (backTo pos (starEach [e2] X.env)).any (·.1) = false := by rfl) :
    EV (X.suite a ((a, oe) :: pn)) (F.push (.ref dd) (Xd dd fs)) Γ Δ (.Call (.Name "isinstance" p') [e, e2] [] pos) (B X.K b) :=
  ev_callB (X := X.suite a ((a, oe) :: pn)) (call_isEx (pn := pn) (dd := dd) T hz hf) hg W.isinstance (by decide +kernel) (ea_cons he (ea_cons he2 ea_nil h2) h1) (fun σ H vs s r Q k => by
    obtain ⟨x, y, rfl, rx, ry⟩ := r.two
    have rx : x = .ref a := rx
    have ry : y = .ref D := ry
    subst rx ry
    have hd : (Xd dd fs).r (Hid (F.push (.ref dd) (Xd dd fs)) Δ H) (.ref dd) := s.mem
    exact ⟨⟨fs, hide_le _ _ hd⟩, .inr ⟨D, b, rfl, hk, k _ H (Same.refl H) (.bl b)⟩⟩) (by decide) (by decide) h1 hpl
end
end Fr
set_option Elab.async false
set_option linter.all false
set_option maxRecDepth 100000
/-! Lay21: an own error without a context; defs called in the suite that caught it. -/
/-! An own error is made: after skel/42 (own_error_by_import), its context told too. -/
namespace PySem
namespace NpX
open PySem.W PySem.Calls PyProof.Rows PySem.HandSPX
/-! ### the text of __init__ -/
def iA (p1 p2 : Pos) : Arguments := { posonlyargs := [], args := [{ arg := "self", annotation := none, pos := p1 }, { arg := "place", annotation := none, pos := p2 }], vararg := none, kwonlyargs := [], kw_defaults := [], kwarg := none, defaults := [] }
def iB (q1 q2 q3 q4 : Pos) : List Stmt := [.Assign [.Attribute (.Name "self" q1) "place" q2] (.Name "place" q3) q4]
def iS : Scope := { kind := .function, names := [(PySem.Str.ofString "self", .local), (PySem.Str.ofString "place", .local)], isGenerator := false, isCoroutine := false, more := [] }
/-- what the written part says of Low, at C, and of its __init__, at fI -/
structure NpTxt (K : Frag) (mg : Str → Option Value) (C fI : Addr) : Prop where
  gC : mg "NoPlace" = some (.ref C)
  cls : ∃ nm q N bs bm sn sub ab col dd k0 k1 k2 k3 k5, K.lookup C = some (excClassObj nm q C N bs bm true sn sub ab col dd k0 k1 k2 k3 k5 "ValueError.__new__") ∧ refsVE bm = true
  sa : findIn K (.ref C) "__setattr__" = some (some (.builtin "object.__setattr__"))
  ga : findIn K (.ref C) "__getattribute__" = some (some (.builtin "BaseException.__getattribute__"))
  gg : findIn K (.ref C) "__getattr__" = some none
  noN : findIn K (.ref C) "place" = some none
  iC : findIn K (.ref C) "__init__" = some (some (.ref fI))
  tC : typeIn K (.ref fI) = some (.type "function")
  kC : keepIn K (.ref C) = true
  exC : subIn K (.ref C) (.type "BaseException") = some true
  tyC : typeIn K (.ref C) = some (.type "type")
  hdC : hasDictIn K C = true
  te : exmOne K (.ref C) (.ref C) = some true
  fn : ∃ (oc : Value) (od : Option Addr) (doc pm : Value) (an : Option Addr) (cdv ct : Value) (osl : Array (Option Value)) (p1 p2 q1 q2 q3 q4 : Pos),
    K.lookup fI = some ⟨oc, od, .func (fnOf "__init__" "NoPlace.__init__" (iA p1 p2) (iB q1 q2 q3 q4) iS .none .none doc pm an cdv ct), osl⟩ ∧ codeIn K cdv "NoPlace.__init__" = true
theorem one_size (v : Value) : [v].length ≤ sizeLine := by
  rw [sizeLine_eq]
  exact (by decide : 1 ≤ 16777216)
theorem kept_but {K : Frag} {h h' : Heap} {x : Addr} (X : K.In h) (hx : K.lookup x = none) (k : ∀ b o, b ≠ x → h.get? b = some o → h'.get? b = some o) : K.In h' := fun a o e =>
  k a o (fun z => by rw [z, hx] at e; cases e) (X a o e)
theorem ldC {M : Model} {s : Shared} {name : Str} {scope : Scope} {L a : Addr} {cd : Value} {m : Str → Option Value} {x : Str} {pos : Pos} {v : Value} {Q : Value → Shared → Prop} {A : Around} {E : Value → Shared → Prop} (hn : s.heap.Ns L m) (hv : m x = some v) (h : Q v s)
    (hk : scope.kind = .function := by rfl) (hl : (envOfC name scope L a cd).kindOf x = some .local := by rfl) (hd : (x == ("__debug__" : Str)) = false := by decide) :
    wpAny M A (eval (.Name x pos) (envOfC name scope L a cd)) Q E s := wpAny_Name (wpAny_loadName_local hk hl hn hv h) hd
/-- what __init__ leaves of a fresh exception at x -/
structure InitEnd (h h' : Heap) (x C dx t1 : Addr) (v : Value) : Prop where
  keep : ∀ b o, b ≠ x → h.get? b = some o → h'.get? b = some o
  obj : h'.get? x = some { cls := .ref C, dict := some dx, data := .fields #[.ref t1, .none, .none, .none, .bool false, .none] }
  dbig : h.objs.size ≤ dx
  dne : dx ≠ x
  ns : h'.Ns1 dx (fun y => if y = "place" then some v else none)
/-- a made Low -/
structure OwnMade (h h' : Heap) (e C d : Addr) (v : Value) : Prop where
  keep : ∀ b o, h.get? b = some o → h'.get? b = some o
  new : h.objs.size ≤ e
  obj : ∃ oe vs, h'.get? e = some oe ∧ oe.cls = .ref C ∧ oe.dict = some d ∧ oe.data = .fields vs ∧ vs[1]? = some .none ∧ vs[2]? = some .none
  dbig : h.objs.size ≤ d
  dne : d ≠ e
  ns : h'.Ns1 d (fun y => if y = "place" then some v else none)
section
variable {prog : Program} {w : World} {A : Around} {E : Value → Shared → Prop} {R : Result → Shared → Prop} {s : Shared} {K : Frag} {mg : Str → Option Value} {C fI : Addr}
theorem np_init (T : NpTxt K mg C fI) {x t0 : Addr} {v : Value} (X : K.In s.heap) (hlim : s.heap.NoLimit) (hx : s.heap.get? x = some (excO C t0)) (hnx : K.lookup x = none) (hroom : A.depth < recursionLimit)
    (hq : ∀ h' tk dx, InitEnd s.heap h' x C dx t0 v → R (.ok (.ret .none)) { s with heap := h', toks := tk }) :
    codeAny (model prog w) A (.call (.ref fI) ⟨[.ref x, v], []⟩) R s := by
  obtain ⟨oc, od, doc, pm, an, cdv, ct, osl, p1, p2, q1, q2, q3, q4, ho, hcd⟩ := T.fn
  obtain ⟨nm, q, N, bs, bm, sn, sub, ab, col, dd, k0, k1, k2, k3, k5, hC, hbm⟩ := T.cls
  have hcl : clsIn K C = some { name := nm, bases := bs, mro := .ref C :: bm, ns := N, qualname := q, hasDict := true, slotNames := sn, subclasses := sub, abstract := ab, collection := col, hasDel := false } := by unfold clsIn; rw [hC] <;> rfl
  refine Att.call_fn (binds := [("self", .ref x), ("place", v)]) X hlim ho hcd hroom (BindsTo.of_eq (by first | rfl | with_unfolding_all rfl)) (by first | rfl | decide | with_unfolding_all rfl) (fun s₁ IC => ?_) rfl rfl rfl
  obtain ⟨h₁, tk₁, rfl⟩ := IC.toInCall.same
  have k : ∀ b o, s.heap.get? b = some o → h₁.get? b = some o := IC.toInCall.keep
  have hn := IC.toInCall.ns
  have hxL : s.heap.objs.size ≠ x := Nat.ne_of_gt (Heap.lt_size hx)
  have X₁ : K.In h₁ := X.keeps k
  have hx₁ := k _ _ hx
  -- self.by = by
  show wpAny _ _ (execs _ _) _ _ _
  refine wpAny_execs_cons (plainObj_wpAny_Assign_Attribute ?_)
  refine ldC (v := v) hn (by first | rfl | with_unfolding_all rfl | kernel_rfl) (ldC (v := .ref x) hn (by first | rfl | with_unfolding_all rfl | kernel_rfl) ?_)
  refine set_plain X₁ (ox := excO C t0) (od := none) ⟨hx₁, rfl, rfl, trivial⟩ T.sa ?_
  refine exc_osa X₁ hx₁ hcl (show refsVE (.ref C :: bm) = true from hbm) rfl T.noN (fun h₃ tk₃ dx k₃ dn dne hx₃ hn₃ => ?_)
  show wpAny _ _ (execs _ _) _ _ _
  have z : s.heap.objs.size < h₁.objs.size := hn.lt
  exact wpAny_execs_nil (hq h₃ tk₃ dx ⟨fun b o hb e => k₃ b o hb (k b o e), hx₃, Nat.le_of_lt (Nat.lt_of_lt_of_le z dn), dne, hn₃⟩)
theorem np_made (T : NpTxt K mg C fI) {v : Value} (X : K.In s.heap) (hlim : s.heap.NoLimit) (hroom : A.depth + 1 < recursionLimit)
    (hq : ∀ h' tk e d, OwnMade s.heap h' e C d v → R (.ok (.ret (.ref e))) { s with heap := h', toks := tk }) :
    codeAny (model prog w) A (.call (.ref C) ⟨[v], []⟩) R s := by
  obtain ⟨nm, q, N, bs, bm, sn, sub, ab, col, dd, k0, k1, k2, k3, k5, hC, hbm⟩ := T.cls
  obtain ⟨hp, g, dr, tk, os⟩ := s
  have k : ∀ b o, hp.get? b = some o → ((hp.push (kdv_tup [v])).push (excO C hp.objs.size)).get? b = some o := fun b o e => Heap.get?_push_of_some _ (Heap.get?_push_of_some _ e)
  have hget : ((hp.push (kdv_tup [v])).push (excO C hp.objs.size)).get? (hp.objs.size + 1) = some (excO C hp.objs.size) := by heap_get
  have hnx : K.lookup (hp.objs.size + 1) = none := by
    cases e : K.lookup (hp.objs.size + 1) with
    | none => rfl
    | some o =>
      have z : hp.get? (hp.objs.size + 1) = some o := X _ _ e
      exact absurd (Nat.lt_of_succ_lt (Heap.lt_size z)) (Nat.lt_irrefl _)
  refine call_own F.excBase_ValueError (fun X => refsVE_contains X bm hbm) (X _ _ hC) (looks_findIn X T.iC) (fun self => bind_fn X self T.tC) (one_size v) ?_
  refine np_init (s := ⟨(hp.push (kdv_tup [v])).push (excO C hp.objs.size), g, dr, tk, os⟩) T (X.keeps k) (hlim.keeps k) hget hnx ?_ fun h' tk' dx ⟨k', hx, dn, dne, hns⟩ => ?_
  · show A.depth + 1 < recursionLimit
    exact hroom
  · have old : ∀ b o, hp.get? b = some o → h'.get? b = some o := fun b o e => k' b o (Nat.ne_of_lt (Nat.lt_succ_of_lt (Heap.lt_size e))) (k b o e)
    have z : hp.objs.size + 1 + 1 ≤ dx := by
      first
        | (simpa only [Heap.size_push] using dn)
        | exact dn
        | (have q := dn; rw [Heap.size_push, Heap.size_push] at q; exact q)
    exact ⟨rfl, hq h' tk' (hp.objs.size + 1) dx ⟨old, Nat.le_succ _, ⟨_, _, hx, rfl, rfl, rfl, rfl, rfl⟩, Nat.le_trans (Nat.le_trans (Nat.le_succ _) (Nat.le_succ _)) z, dne, hns⟩⟩
end
end NpX
end PySem
namespace L2
open PySem PySem.Spec PyProof.Rows
theorem relO_np {v : V} {v' : Value} (r : RelV v v') (f : Str) : RelO (List.lookup f [(("place" : Str), v)]) (if f = "place" then some v' else none) := by
  by_cases hw : f = "place"
  · subst hw
    rw [if_pos rfl]
    have q : List.lookup ("place" : Str) [(("place" : Str), v)] = some v := by simp [List.lookup]
    rw [q]
    exact r
  · rw [if_neg hw]
    have qw : (f == ("place" : Str)) = false := by simpa using hw
    have q2 : List.lookup f [(("place" : Str), v)] = none := by simp [List.lookup, qw]
    rw [q2]
    trivial
section
variable {X : Cx} {C fI : Addr}
/-- NoPlace(e) -/
def tMkNp (C : Addr) (ta : TA) : St → Hp → XK → Prop := fun σ H Q => ta σ H fun vs H1 => ∃ v, vs = [v] ∧ ∀ d, H1 d = none → Q (.ref C) (some d) (upd H1 d (.xd [(("place" : Str), v)]))
theorem pmk_np {a : Expr} {ta : TA} {p pos : Pos} {k : Nat} (T : PySem.NpX.NpTxt X.K X.mg C fI) (hr : Room k X.A) (ha : PA X [a] ta) (hg : Gl X "NoPlace" := by rfl)
    (he : starEach (a :: []) X.env = (false, eval a X.env) :: starEach [] X.env := by rfl) (hpl : (backTo pos (starEach [] X.env)).any (·.1) = false := by rfl) :
    L2N.PMk X (.Call (.Name "NoPlace" p) [a] [] pos) (tMkNp C ta) := by
  intro pins s σ H Q I h
  refine wpAny_Call_Name_kw (ld_glob I hg T.gC ?_)
  refine PySem.W.callWith_K (h₀ := X.base) I.ok.mod.kin T.kC (thn (ha.run pos pins s σ H _ I h) fun us s1 hh => ?_) he hpl
  obtain ⟨vs, H1, I1, r1, v, ev, q1⟩ := hh
  subst ev
  refine ⟨I1.kIn, ?_⟩
  cases r1 with
  | cons rv rn =>
    rename_i v' us'
    cases rn
    show wpAny _ _ (call (.ref C) [v']) _ _ _
    have hlim := I1.nolimit
    obtain ⟨hp, g, dr, tk, os⟩ := s1
    refine wpAny_call (PySem.NpX.np_made T I1.kIn hlim (by have := hr.dp; omega) fun h' tk' e d M => ?_)
    show L2N.MkP X pins σ Q (.ref e) ⟨h', g, dr, tk', os⟩
    obtain ⟨oe, fv, hoe, hc, hd, hdat, h1, h2⟩ := M.obj
    have hns := M.ns
    obtain ⟨G', g1, g2⟩ := restrict h' fun b => decide (b ≠ e)
    have gk : ∀ b, b ≠ e → G'.get? b = h'.get? b := fun b hb => g1 b (decide_eq_true hb)
    have ge : G'.get? e = none := g2 e (by simp)
    have old : ∀ b o, hp.get? b = some o → G'.get? b = some o := fun b o q => (gk b (Nat.ne_of_lt (Nat.lt_of_lt_of_le (Heap.lt_size q) M.new))).trans (M.keep b o q)
    have ob : ObjOk X.prog X.w (upd H1 d (.xd [(("place" : Str), v)])) G' d (.xd [(("place" : Str), v)]) :=
      ⟨_, hns.at (fun o q => (gk d M.dne).trans q), fun f => relO_np rv f⟩
    have J : Inv X pins σ (upd H1 d (.xd [(("place" : Str), v)])) ⟨G', g, dr, tk', os⟩ := I1.laid (t' := tk') old M.dbig ob
    refine ⟨e, oe, fv, ⟨G', g, dr, tk', os⟩, _, .ref C, some d, rfl, J, fun b o q => ?_, ge, hoe, ⟨hc, hd, fun ws hw => by rw [hdat] at hw; cases hw; exact h2⟩, hdat, h1, ?_, rfl, I1.bare, raises_own T.exC T.tyC, q1 d (I1.hok.fresh M.dbig)⟩
    · by_cases hb : b = e
      · have q' : G'.get? b = some o := q
        rw [hb, ge] at q'; cases q'
      · exact (gk b hb).symm.trans q
    · rw [upd_ne (Ne.symm M.dne)]
      exact I1.hok.fresh M.new
end
end L2
namespace Fr
open PySem PySem.Spec PySem.Calls L2
theorem passN {X : Cx} : Passes (L2N.CX X.prog X.w) X E0 := fun _ _ _ _ _ _ _ h => by
  obtain ⟨_, _, _, _, _, _, _, _, _, _, _, _, z⟩ := h
  exact z.elim
section
variable {P : Program} {w : World} {K : PySem.W.Frag} {mg : Str → Option Value} {base : Heap}
/-- a def under any contract about exceptions -/
theorem okCX {CX : CXT} {x qual : Str} {st : Stmt} {f : Addr} {fd : FuncData} {N ps : List Str} {k : Nat} {sp : Sp} (F : Fun K x qual st f fd) (S : FnScope N ps (defScope st)) (len : ∀ vs H Q E, sp vs H Q E → vs.length = ps.length)
    (hbody : ∀ (cdv : Value) (A : Around) (outer : List Env) (s : Shared) (H : Hp) (vs : List V) (Q : VK) (E : XK), Room k (A.deeper (PyProof.Rows.envOfC qual (defScope st) s.heap.objs.size f cdv)) → sp vs H Q E →
      ∃ t, PSs (cxOf CX P w K mg base N qual (defScope st) f cdv A outer s H E) (defBody st) t ∧ t { nx := fun _ H' => Q .non H', rt := Q } (start N vs) H) : FnOk P w K mg base CX (k + 1) f fd ps sp := by
  obtain ⟨oc, od, kV, doc, pm, an, cdv, ct, osl, rfl, lk, hcd⟩ := F.ex
  exact fn_of lk hcd S len fun A outer s H vs Q E hr hsp => hbody cdv A outer s H vs Q E hr hsp
/-- a def for calls where an error is handled -/
theorem okHot {CX : CXT} {x qual : Str} {st : Stmt} {f : Addr} {fd : FuncData} {N ps : List Str} {k n : Nat} {α : Type} (S : FS α) (Fn : Fun K x qual st f fd) (Sc : FnScope N ps (defScope st)) (hn : ps.length = n)
    (hb : ∀ (cdv : Value) (A : Around) (outer : List Env) (s : Shared) (H : Hp) (E : XK) (p : Addr × Obj) (M : List Addr) (y : α), S.pre y →
      BK (L2H.cxH CX P w K mg base N qual (defScope st) f cdv A outer s H E p).nox ⟨H, M, []⟩ (argsG (S.arg y) N.length) [] (defBody st) (fnP ⟨H, M, []⟩ (S.res y))) : L2H.FnH P w K mg base CX (k + 1) f fd ps (S.sp n) := by
  obtain ⟨oc, od, kV, doc, pm, an, cdv, ct, osl, rfl, lk, hcd⟩ := Fn.ex
  refine L2H.fn_ofH lk hcd Sc (fun vs H Q E h => ?_) fun A outer s H vs Q E p hot hr h => ?_
  · obtain ⟨_, _, h, _⟩ := h
    rw [h, hn]
  · obtain ⟨y, M, _, hl, ha, hp, hq⟩ := h
    exact ⟨_, (hb cdv A outer s H E p M y hp).nox, stt_start hl ha, fun _ _ z => False.elim z, fun v H' z => hq v H' z.1 z.2, fun _ _ z => z.elim, fun _ _ z => z.elim⟩
structure DfH (P : Program) (w : World) (K : PySem.W.Frag) (mg : Str → Option Value) (base : Heap) (x : Str) (k n : Nat) {α : Type} (S : FS α) : Prop where
  ex : ∃ (f : Addr) (fd : FuncData) (ps : List Str), L2H.FnH P w K mg base CX0 k f fd ps (S.sp n) ∧ mg x = some (.ref f) ∧ PySem.W.keepIn K (.ref f) = true ∧ Binds K fd ps []
end
section
variable {X : Cx} {F : Fm} {Γ : Gam} {Δ : Del} {e : Expr} {es : List Expr} {pos p : Pos} {R : RP}
theorem passAt0 {X : Cx} (σ : L2.St) : PassesAt CX0 X σ ((fun _ => E0 : L2.St → XK) σ) := fun _ _ _ _ _ _ h => h.elim
theorem ev_callH {α : Type} {S : FS α} {x : Str} {k n : Nat} (y : α) (G : DfH X.prog X.w X.K X.mg X.base x k n S) (hr : L2H.RoomH k X.A) (hc : L2H.HotC X) (ha : EA X F Γ Δ (e :: es) (S.arg y)) (hp : S.pre y) (hR : S.res y = R := by rfl) (hl : (S.arg y).length = n := by rfl) (hg : Gl X x := by rfl)
    (hd : (x == ("__debug__" : Str)) = false := by decide) (he : starEach (e :: es) X.env = (false, eval e X.env) :: starEach es X.env := by rfl) (hpl : (backTo pos (starEach es X.env)).any (·.1) = false := by rfl) : EV X F Γ Δ (.Call (.Name x p) (e :: es) [] pos) R := by
  subst hR
  obtain ⟨f, fd, ps, ok, hm, hk, hb⟩ := G.ex
  refine pe_imp (L2H.pe_callH (E := fun _ => E0) ok hr hc hg hm hk hb (fun σ => passAt0 σ) ha hd he hpl) fun σ H Q ⟨s, q⟩ => ⟨s, fun vs H1 e1 r1 => ?_⟩
  have s1 := s.mono e1
  exact ⟨y, dom Δ ++ F.M, by rw [r1.len, hl], fun p hp => s1.live hp, r1, hp, fun v H' e2 r2 => q v H' (e1.trans e2) r2⟩
end
end Fr
set_option Elab.async false
set_option linter.all false
set_option maxRecDepth 100000
/-! Lay22: an __init__ that has defaults. -/
namespace Fr
open PySem PySem.Spec PySem.Calls L2
section
variable {P : Program} {w : World} {K : PySem.W.Frag} {mg : Str → Option Value} {base : Heap}
theorem IS.okD {dvs : List V} {α : Type} (S : IS α) {x qual : Str} {st : Stmt} {f C : Addr} {fd : FuncData} {N ps : List Str} {k n : Nat} (Fn : FunD K x qual (defArgs st) (defBody st) (defScope st) dvs [] f fd) (Sc : FnScope N ps (defScope st)) (hn : ps.length = n)
    (hb : ∀ (cdv : Value) (A : Around) (outer : List Env) (s : Shared) (H : Hp) (E : XK) (M : List Addr) (y : α) (p dx : Addr), Room k (A.deeper (PyProof.Rows.envOfC qual (defScope st) s.heap.objs.size f cdv)) → S.pre y →
      BK (cxOf CX0 P w K mg base N qual (defScope st) f cdv A outer s H E).nox ⟨ini H p, M, []⟩ (some (Vl (.ref p)) :: argsG (S.arg y) (N.length - 1)) [(p, InO C dx [])] (defBody st) (initP H M C p dx (S.fds y))) : FnOk P w K mg base CX0 (k + 1) f fd ps (S.sp C n) := by
  refine FunD.ok Fn Sc (fun vs H Q E h => ?_) (fun cdv A outer s H vs Q E hr h => ?_)
  · obtain ⟨_, _, _, _, _, _, h, _⟩ := h
    rw [h, hn]
  · obtain ⟨y, M, p, dx, us, rfl, _, hx, hxM, hl, ha, hp, hq⟩ := h
    have hH : ini H p p = none := hide_in (List.mem_cons_self ..)
    refine ⟨_, (hb cdv A outer s H E M y p dx hr hp).nox, ⟨hide_le, fun q hq' => ?_, fun q hq' => ?_, ?_, fun q hq' => ?_, fun g z => absurd (show g ∈ ([] : List (V × RP)) from z) (by simp), ?_⟩, fun σ H' z => ?_, fun _ _ z => z.elim, fun _ _ z => z.elim, fun _ _ z => z.elim⟩
    · have e : q = p := by simpa using hq'
      rw [e]; exact hH
    · obtain ⟨o, e⟩ := hl q hq'
      refine ⟨o, ?_⟩
      have ne : q ≠ p := fun z => hxM (z ▸ hq')
      show Hide [p] H q = _
      rw [hide_out (by simpa using ne)]; exact e
    · show [p].Nodup
      simp
    · have e : q = (p, InO C dx []) := by simpa using hq'
      subst e
      exact ⟨_, hx, [], rfl, trivial⟩
    · show Slots _ (L2.start N (V.ref p :: us)) _
      unfold L2.start
      refine ⟨⟨_, rfl, rfl⟩, ?_⟩
      have e : N.length - (V.ref p :: us).length = (N.length - 1) - (S.arg y).length := by
        have := ha.len
        simp only [List.length_cons]
        omega
      rw [e]
      exact slots_args _ ha
    · obtain ⟨z1, ws, z2, z3⟩ := z
      exact hq H' ws (fun b o hb' e => z1 b o (by
        show Hide [p] H b = _
        rw [hide_out (by simpa using hb')]; exact e)) z2 z3
end
end Fr
set_option Elab.async false
set_option linter.all false
set_option maxRecDepth 100000
/-! Txt: the defs of the text by their places, their names by slot (printed by gen_txt.py). -/
namespace Fr
open PySem L2
def top (i : Nat) : Stmt := PySem.Challenge.pw_firerest_k22_long_walks_whole.main.body.getD i (.Pass ⟨0, 0, 0, 0⟩)
abbrev s_NoPlace_init : Stmt := inClass (top 3) 0
abbrev N_NoPlace_init : List Str := ["self", "place"]
theorem sc_NoPlace_init : FnScope N_NoPlace_init ["self", "place"] (defScope s_NoPlace_init) := ⟨rfl, rfl, rfl, by decide +kernel, rfl, by decide +kernel, by decide +kernel⟩
abbrev s_frozen : Stmt := top 20
abbrev N_frozen : List Str := ["value", "item"]
theorem sc_frozen : FnScope N_frozen ["value"] (defScope s_frozen) := ⟨rfl, rfl, rfl, by decide +kernel, rfl, by decide +kernel, by decide +kernel⟩
abbrev s_Web_init : Stmt := inClass (top 22) 0
abbrev N_Web_init : List Str := ["self", "size", "lines"]
theorem sc_Web_init : FnScope N_Web_init ["self", "size", "lines"] (defScope s_Web_init) := ⟨rfl, rfl, rfl, by decide +kernel, rfl, by decide +kernel, by decide +kernel⟩
abbrev s_checked_lines : Stmt := top 23
abbrev N_checked_lines : List Str := ["size", "pairs", "index", "a", "b"]
theorem sc_checked_lines : FnScope N_checked_lines ["size", "pairs"] (defScope s_checked_lines) := ⟨rfl, rfl, rfl, by decide +kernel, rfl, by decide +kernel, by decide +kernel⟩
abbrev s_neighbour_rows : Stmt := top 24
abbrev N_neighbour_rows : List Str := ["size", "lines", "rows", "a", "b", "place", "row"]
theorem sc_neighbour_rows : FnScope N_neighbour_rows ["size", "lines"] (defScope s_neighbour_rows) := ⟨rfl, rfl, rfl, by decide +kernel, rfl, by decide +kernel, by decide +kernel⟩
abbrev s_check_place : Stmt := top 25
abbrev N_check_place : List Str := ["web", "place"]
theorem sc_check_place : FnScope N_check_place ["web", "place"] (defScope s_check_place) := ⟨rfl, rfl, rfl, by decide +kernel, rfl, by decide +kernel, by decide +kernel⟩
abbrev s_state_lead : Stmt := top 27
abbrev N_state_lead : List Str := ["one", "other"]
theorem sc_state_lead : FnScope N_state_lead ["one", "other"] (defScope s_state_lead) := ⟨rfl, rfl, rfl, by decide +kernel, rfl, by decide +kernel, by decide +kernel⟩
abbrev s_Scene_init : Stmt := inClass (top 29) 0
abbrev N_Scene_init : List Str := ["self", "web", "picture", "states", "index"]
theorem sc_Scene_init : FnScope N_Scene_init ["self", "web", "picture"] (defScope s_Scene_init) := ⟨rfl, rfl, rfl, by decide +kernel, rfl, by decide +kernel, by decide +kernel⟩
abbrev s_Table_init : Stmt := inClass (top 31) 0
abbrev N_Table_init : List Str := ["self", "rows", "entries", "index", "row"]
theorem sc_Table_init : FnScope N_Table_init ["self", "rows"] (defScope s_Table_init) := ⟨rfl, rfl, rfl, by decide +kernel, rfl, by decide +kernel, by decide +kernel⟩
abbrev s_Table_mul : Stmt := inClass (top 31) 2
abbrev N_Table_mul : List Str := ["self", "other", "columns", "index", "row", "column"]
theorem sc_Table_mul : FnScope N_Table_mul ["self", "other"] (defScope s_Table_mul) := ⟨rfl, rfl, rfl, by decide +kernel, rfl, by decide +kernel, by decide +kernel⟩
abbrev s_greatest_sum : Stmt := top 32
abbrev N_greatest_sum : List Str := ["row", "column", "best", "one", "two"]
theorem sc_greatest_sum : FnScope N_greatest_sum ["row", "column"] (defScope s_greatest_sum) := ⟨rfl, rfl, rfl, by decide +kernel, rfl, by decide +kernel, by decide +kernel⟩
abbrev s_binary_digits : Stmt := top 34
abbrev N_binary_digits : List Str := ["times", "digits", "left"]
theorem sc_binary_digits : FnScope N_binary_digits ["times"] (defScope s_binary_digits) := ⟨rfl, rfl, rfl, by decide +kernel, rfl, by decide +kernel, by decide +kernel⟩
abbrev s_doubled : Stmt := top 35
abbrev N_doubled : List Str := ["table", "times", "powers", "_"]
theorem sc_doubled : FnScope N_doubled ["table", "times"] (defScope s_doubled) := ⟨rfl, rfl, rfl, by decide +kernel, rfl, by decide +kernel, by decide +kernel⟩
abbrev s_lead_table : Stmt := top 37
abbrev N_lead_table : List Str := ["scene", "rows", "a", "row", "b"]
theorem sc_lead_table : FnScope N_lead_table ["scene"] (defScope s_lead_table) := ⟨rfl, rfl, rfl, by decide +kernel, rfl, by decide +kernel, by decide +kernel⟩
abbrev s_led_through : Stmt := top 38
abbrev N_led_through : List Str := ["table", "numbers", "led", "row", "entry", "number"]
theorem sc_led_through : FnScope N_led_through ["table", "numbers"] (defScope s_led_through) := ⟨rfl, rfl, rfl, by decide +kernel, rfl, by decide +kernel, by decide +kernel⟩
abbrev s_row_fact : Stmt := top 40
abbrev N_row_fact : List Str := ["scene", "facts", "row", "size", "one", "two"]
theorem sc_row_fact : FnScope N_row_fact ["scene", "facts", "row"] (defScope s_row_fact) := ⟨rfl, rfl, rfl, by decide +kernel, rfl, by decide +kernel, by decide +kernel⟩
abbrev s_row_facts : Stmt := top 41
abbrev N_row_facts : List Str := ["scene", "rows", "facts", "index", "row", "fact"]
theorem sc_row_facts : FnScope N_row_facts ["scene", "rows"] (defScope s_row_facts) := ⟨rfl, rfl, rfl, by decide +kernel, rfl, by decide +kernel, by decide +kernel⟩
abbrev s_middle : Stmt := top 42
abbrev N_middle : List Str := ["table", "a", "b", "best", "place", "other", "one", "two"]
theorem sc_middle : FnScope N_middle ["table", "a", "b"] (defScope s_middle) := ⟨rfl, rfl, rfl, by decide +kernel, rfl, by decide +kernel, by decide +kernel⟩
abbrev s_stops : Stmt := top 43
abbrev N_stops : List Str := ["powers", "levels", "place", "ahead", "level", "places", "index", "behind", "goal", "entries", "fitting", "other", "entry"]
theorem sc_stops : FnScope N_stops ["powers", "levels", "place"] (defScope s_stops) := ⟨rfl, rfl, rfl, by decide +kernel, rfl, by decide +kernel, by decide +kernel⟩
abbrev s_needed_entries : Stmt := top 44
abbrev N_needed_entries : List Str := ["powers", "levels", "places", "needed", "index", "level", "a", "b", "between", "_"]
theorem sc_needed_entries : FnScope N_needed_entries ["powers", "levels", "places"] (defScope s_needed_entries) := ⟨rfl, rfl, rfl, by decide +kernel, rfl, by decide +kernel, by decide +kernel⟩
abbrev s_entry_rows : Stmt := top 45
abbrev N_entry_rows : List Str := ["needed", "rows", "indexes", "level", "entries", "a", "b", "between"]
theorem sc_entry_rows : FnScope N_entry_rows ["needed"] (defScope s_entry_rows) := ⟨rfl, rfl, rfl, by decide +kernel, rfl, by decide +kernel, by decide +kernel⟩
abbrev s_long_walk : Stmt := top 46
abbrev N_long_walk : List Str := ["scene", "place", "beats", "powers", "levels", "places", "rows", "indexes", "last", "index", "level", "digit"]
theorem sc_long_walk : FnScope N_long_walk ["scene", "place", "beats"] (defScope s_long_walk) := ⟨rfl, rfl, rfl, by decide +kernel, rfl, by decide +kernel, by decide +kernel⟩
abbrev s_l_whole : Stmt := top 48
abbrev N_l_whole : List Str := ["_law_value"]
theorem sc_l_whole : FnScope N_l_whole ["_law_value"] (defScope s_l_whole) := ⟨rfl, rfl, rfl, by decide +kernel, rfl, by decide +kernel, by decide +kernel⟩
abbrev s_l_cell : Stmt := top 49
abbrev N_l_cell : List Str := ["_law_script", "_law_k", "_law_seed", "_law_cell_here"]
theorem sc_l_cell : FnScope N_l_cell ["_law_script", "_law_k"] (defScope s_l_cell) := ⟨rfl, rfl, rfl, by decide +kernel, rfl, by decide +kernel, by decide +kernel⟩
abbrev s_l_digits : Stmt := top 50
abbrev N_l_digits : List Str := ["_law_cell_here", "_law_sizes", "_law_row_here", "_law_rest", "_law_size", "_law_seed", "_law_k", "_law_twice"]
theorem sc_l_digits : FnScope N_l_digits ["_law_cell_here", "_law_sizes"] (defScope s_l_digits) := ⟨rfl, rfl, rfl, by decide +kernel, rfl, by decide +kernel, by decide +kernel⟩
abbrev s_l_web : Stmt := top 51
abbrev N_l_web : List Str := ["_law_row_here", "_law_most", "_law_size", "_law_known", "_law_k", "_law_mate", "_law_a", "_law_b", "_law_lines"]
theorem sc_l_web : FnScope N_l_web ["_law_row_here", "_law_most"] (defScope s_l_web) := ⟨rfl, rfl, rfl, by decide +kernel, rfl, by decide +kernel, by decide +kernel⟩
abbrev s_l_picture : Stmt := top 52
abbrev N_l_picture : List Str := ["_law_row_here", "_law_size", "_law_k"]
theorem sc_l_picture : FnScope N_l_picture ["_law_row_here", "_law_size"] (defScope s_l_picture) := ⟨rfl, rfl, rfl, by decide +kernel, rfl, by decide +kernel, by decide +kernel⟩
abbrev s_l_scene : Stmt := top 53
abbrev N_l_scene : List Str := ["_law_script", "_law_at", "_law_most", "_law_web_here", "_law_picture_here"]
theorem sc_l_scene : FnScope N_l_scene ["_law_script", "_law_at", "_law_most"] (defScope s_l_scene) := ⟨rfl, rfl, rfl, by decide +kernel, rfl, by decide +kernel, by decide +kernel⟩
abbrev s_l_near : Stmt := top 54
abbrev N_l_near : List Str := ["_law_size", "_law_lines", "_law_near_here", "_law_line", "_law_k", "_law_row_here"]
theorem sc_l_near : FnScope N_l_near ["_law_size", "_law_lines"] (defScope s_l_near) := ⟨rfl, rfl, rfl, by decide +kernel, rfl, by decide +kernel, by decide +kernel⟩
abbrev s_l_mixed : Stmt := top 55
abbrev N_l_mixed : List Str := ["_law_groups", "_law_numbers", "_law_size", "_law_place", "_law_k", "_law_lines", "_law_picture_here", "_law_at", "_law_group", "_law_line"]
theorem sc_l_mixed : FnScope N_l_mixed ["_law_groups"] (defScope s_l_mixed) := ⟨rfl, rfl, rfl, by decide +kernel, rfl, by decide +kernel, by decide +kernel⟩
abbrev s_l_step : Stmt := top 56
abbrev N_l_step : List Str := ["_law_near_here", "_law_picture_here", "_law_poked", "_law_later", "_law_place", "_law_state", "_law_heard", "_law_other"]
theorem sc_l_step : FnScope N_l_step ["_law_near_here", "_law_picture_here", "_law_poked"] (defScope s_l_step) := ⟨rfl, rfl, rfl, by decide +kernel, rfl, by decide +kernel, by decide +kernel⟩
abbrev s_l_film : Stmt := top 57
abbrev N_l_film : List Str := ["_law_near_here", "_law_picture_here", "_law_beats", "_law_pokes", "_law_shots", "_law_beat", "_law_poke"]
theorem sc_l_film : FnScope N_l_film ["_law_near_here", "_law_picture_here", "_law_beats", "_law_pokes"] (defScope s_l_film) := ⟨rfl, rfl, rfl, by decide +kernel, rfl, by decide +kernel, by decide +kernel⟩
abbrev s_l_counts : Stmt := top 58
abbrev N_l_counts : List Str := ["_law_shots", "_law_place", "_law_picture_here"]
theorem sc_l_counts : FnScope N_l_counts ["_law_shots"] (defScope s_l_counts) := ⟨rfl, rfl, rfl, by decide +kernel, rfl, by decide +kernel, by decide +kernel⟩
abbrev s_l_lead : Stmt := top 59
abbrev N_l_lead : List Str := ["_law_one", "_law_other"]
theorem sc_l_lead : FnScope N_l_lead ["_law_one", "_law_other"] (defScope s_l_lead) := ⟨rfl, rfl, rfl, by decide +kernel, rfl, by decide +kernel, by decide +kernel⟩
abbrev s_l_round : Stmt := top 60
abbrev N_l_round : List Str := ["_law_near_here", "_law_picture_here", "_law_period", "_law_pokes", "_law_shots", "_law_known", "_law_beat", "_law_later", "_law_key", "_law_poke"]
theorem sc_l_round : FnScope N_l_round ["_law_near_here", "_law_picture_here", "_law_period", "_law_pokes"] (defScope s_l_round) := ⟨rfl, rfl, rfl, by decide +kernel, rfl, by decide +kernel, by decide +kernel⟩
abbrev s_l_far : Stmt := top 61
abbrev N_l_far : List Str := ["_law_turn", "_law_beats", "_law_first", "_law_rounds", "_law_left", "_law_before", "_law_once", "_law_behind", "_law_sums", "_law_k"]
theorem sc_l_far : FnScope N_l_far ["_law_turn", "_law_beats"] (defScope s_l_far) := ⟨rfl, rfl, rfl, by decide +kernel, rfl, by decide +kernel, by decide +kernel⟩
abbrev s_l_row : Stmt := top 62
abbrev N_l_row : List Str := ["_law_value", "_law_many", "_law_x"]
theorem sc_l_row : FnScope N_l_row ["_law_value", "_law_many"] (defScope s_l_row) := ⟨rfl, rfl, rfl, by decide +kernel, rfl, by decide +kernel, by decide +kernel⟩
abbrev s_l_fact : Stmt := top 63
abbrev N_l_fact : List Str := ["_law_near_here", "_law_picture_here", "_law_facts_here", "_law_row_here", "_law_first", "_law_one", "_law_two", "_law_x"]
theorem sc_l_fact : FnScope N_l_fact ["_law_near_here", "_law_picture_here", "_law_facts_here", "_law_row_here"] (defScope s_l_fact) := ⟨rfl, rfl, rfl, by decide +kernel, rfl, by decide +kernel, by decide +kernel⟩
abbrev s_l_facts : Stmt := top 64
abbrev N_l_facts : List Str := ["_law_near_here", "_law_picture_here", "_law_rows", "_law_facts_here", "_law_k", "_law_fact_here"]
theorem sc_l_facts : FnScope N_l_facts ["_law_near_here", "_law_picture_here", "_law_rows"] (defScope s_l_facts) := ⟨rfl, rfl, rfl, by decide +kernel, rfl, by decide +kernel, by decide +kernel⟩
abbrev s_l_power : Stmt := top 65
abbrev N_l_power : List Str := ["_law_many", "_law_number", "_law_k"]
theorem sc_l_power : FnScope N_l_power ["_law_many"] (defScope s_l_power) := ⟨rfl, rfl, rfl, by decide +kernel, rfl, by decide +kernel, by decide +kernel⟩
abbrev s_l_asked : Stmt := top 66
abbrev N_l_asked : List Str := ["_law_scene_here", "_law_near_here", "_law_picture_here", "_law_place", "_law_beats", "_law_due", "_law_rows", "_law_found", "_law_last", "_law_told", "_law_fact_here"]
theorem sc_l_asked : FnScope N_l_asked ["_law_scene_here", "_law_near_here", "_law_picture_here", "_law_place", "_law_beats", "_law_due"] (defScope s_l_asked) := ⟨rfl, rfl, rfl, by decide +kernel, rfl, by decide +kernel, by decide +kernel⟩
abbrev s_l_refused : Stmt := top 67
abbrev N_l_refused : List Str := ["_law_scene_here", "_law_bad", "_law_beats", "e"]
theorem sc_l_refused : FnScope N_l_refused ["_law_scene_here", "_law_bad", "_law_beats"] (defScope s_l_refused) := ⟨rfl, rfl, rfl, by decide +kernel, rfl, by decide +kernel, by decide +kernel⟩
abbrev s_l_wide : Stmt := top 68
abbrev N_l_wide : List Str := ["_law_script", "_law_drawn", "_law_beats", "_law_whole_here", "_law_near_here", "_law_scene_here", "_law_sums", "_law_place"]
theorem sc_l_wide : FnScope N_l_wide ["_law_script", "_law_drawn", "_law_beats"] (defScope s_l_wide) := ⟨rfl, rfl, rfl, by decide +kernel, rfl, by decide +kernel, by decide +kernel⟩
abbrev s_law : Stmt := top 69
abbrev N_law : List Str := ["_law_script", "_law_row_here", "_law_drawn", "_law_near_here", "_law_web_here", "_law_scene_here", "_law_turn", "_law_beats", "_law_sums", "_law_other", "_law_far_here", "_law_place", "_law_mirrored", "_law_state"]
theorem sc_law : FnScope N_law ["_law_script"] (defScope s_law) := ⟨rfl, rfl, rfl, by decide +kernel, rfl, by decide +kernel, by decide +kernel⟩
end Fr
set_option linter.all false
/-! Math1: firings, leads, walks (plain Lean). -/
namespace Fr
/-- the lead from a place with state a to a neighbour with state b -/
def ld (a b : Int) : Int := if a = 0 ∧ b = 1 then 1 else if a = 1 ∧ b = 0 then -1 else 0
/-- one beat of one place -/
def nxt (s : Int) (hears : Bool) : Int := if 0 < s then (if s = 1 then 2 else 0) else if hears then 1 else 0
def stepL (near : List (List Int)) (pic : List Int) : List Int :=
  (List.range pic.length).map fun v => nxt (pic.getD v 0) ((near.getD v []).any fun w => decide (pic.getD w.toNat 0 = 1))
def runL (near : List (List Int)) (pic : List Int) : Nat → List Int
  | 0 => pic
  | t + 1 => stepL near (runL near pic t)
/-- how often place v is fired at the beats 1 .. t -/
def fires (near : List (List Int)) (pic : List Int) (v : Nat) : Nat → Int
  | 0 => 0
  | t + 1 => fires near pic v t + if (runL near pic (t + 1)).getD v 0 = 1 then 1 else 0
/-- a web of n places with the states pic -/
structure Sc (n : Nat) (near : List (List Int)) (pic : List Int) : Prop where
  nl : near.length = n
  pl : pic.length = n
  st : ∀ s ∈ pic, s = 0 ∨ s = 1 ∨ s = 2
  nb : ∀ (v : Nat) (w : Int), w ∈ near.getD v [] → 0 ≤ w ∧ w < n ∧ w ≠ v
  sy : ∀ (v w : Nat), v < n → w < n → ((w : Int) ∈ near.getD v [] ↔ (v : Int) ∈ near.getD w [])
def adj (near : List (List Int)) (v w : Nat) : Prop := (w : Int) ∈ near.getD v []
instance (near : List (List Int)) (v w : Nat) : Decidable (adj near v w) := inferInstanceAs (Decidable (_ ∈ _))
section
variable {n : Nat} {near : List (List Int)} {pic : List Int}
theorem stepL_len : (stepL near pic).length = pic.length := by simp [stepL]
theorem stepL_get {v : Nat} (h : v < pic.length) : (stepL near pic).getD v 0 = nxt (pic.getD v 0) ((near.getD v []).any fun w => decide (pic.getD w.toNat 0 = 1)) := by
  unfold stepL
  rw [List.getD_eq_getElem?_getD, List.getElem?_map, List.getElem?_range h]
  rfl
theorem nxt_st (s : Int) (b : Bool) : nxt s b = 0 ∨ nxt s b = 1 ∨ nxt s b = 2 := by
  unfold nxt
  split
  · split <;> simp
  · split <;> simp
theorem Sc.step (S : Sc n near pic) : Sc n near (stepL near pic) := by
  refine ⟨S.nl, by rw [stepL_len, S.pl], fun s hs => ?_, S.nb, S.sy⟩
  unfold stepL at hs
  obtain ⟨v, _, rfl⟩ := List.mem_map.mp hs
  exact nxt_st _ _
theorem Sc.run (S : Sc n near pic) : ∀ t, Sc n near (runL near pic t)
  | 0 => S
  | t + 1 => (Sc.run S t).step
theorem Sc.get (S : Sc n near pic) (v : Nat) : pic.getD v 0 = 0 ∨ pic.getD v 0 = 1 ∨ pic.getD v 0 = 2 := by
  by_cases h : v < pic.length
  · rw [List.getD_eq_getElem?_getD, List.getElem?_eq_getElem h]
    exact S.st _ (List.getElem_mem h)
  · left
    rw [List.getD_eq_getElem?_getD, List.getElem?_eq_none (by omega)]
    rfl
def hear (near : List (List Int)) (pic : List Int) (v : Nat) : Bool := (near.getD v []).any fun w => decide (pic.getD w.toNat 0 = 1)
theorem step_get {v : Nat} (h : v < pic.length) : (stepL near pic).getD v 0 = nxt (pic.getD v 0) (hear near pic v) := stepL_get h
theorem hear_of (S : Sc n near pic) {v w : Nat} (ha : adj near v w) (hp : pic.getD w 0 = 1) : hear near pic v = true :=
  List.any_eq_true.mpr ⟨(w : Int), ha, by rw [Int.toNat_natCast]; exact decide_eq_true hp⟩
theorem of_hear (S : Sc n near pic) {v : Nat} (h : hear near pic v = true) : ∃ w, w < n ∧ adj near v w ∧ pic.getD w 0 = 1 := by
  obtain ⟨w, hw, hp⟩ := List.any_eq_true.mp h
  have hp := of_decide_eq_true hp
  obtain ⟨h1, h2, _⟩ := S.nb v w hw
  refine ⟨w.toNat, by omega, ?_, hp⟩
  show ((w.toNat : Nat) : Int) ∈ _
  rw [Int.toNat_of_nonneg h1]
  exact hw
theorem lead_all (s t : Int) (b c : Bool) (hs : s = 0 ∨ s = 1 ∨ s = 2) (ht : t = 0 ∨ t = 1 ∨ t = 2) (h1 : t = 1 → b = true) (h2 : s = 1 → c = true) :
    ld (nxt s b) (nxt t c) = ld s t + (if nxt t c = 1 then 1 else 0) - (if nxt s b = 1 then 1 else 0) := by
  rcases hs with rfl | rfl | rfl <;> rcases ht with rfl | rfl | rfl <;> cases b <;> cases c <;> first | decide | (exfalso; simp at h1 h2)
/-- leads are kept -/
theorem lead_step (S : Sc n near pic) {v w : Nat} (hv : v < n) (hw : w < n) (ha : adj near v w) :
    ld ((stepL near pic).getD v 0) ((stepL near pic).getD w 0) = ld (pic.getD v 0) (pic.getD w 0) + (if (stepL near pic).getD w 0 = 1 then 1 else 0) - (if (stepL near pic).getD v 0 = 1 then 1 else 0) := by
  have ha' : adj near w v := (S.sy v w hv hw).mp ha
  rw [step_get (by rw [S.pl]; exact hv), step_get (by rw [S.pl]; exact hw)]
  exact lead_all _ _ _ _ (S.get v) (S.get w) (fun h => hear_of S ha h) (fun h => hear_of S ha' h)
theorem lead_run (S : Sc n near pic) {v w : Nat} (hv : v < n) (hw : w < n) (ha : adj near v w) :
    ∀ t, ld ((runL near pic t).getD v 0) ((runL near pic t).getD w 0) = ld (pic.getD v 0) (pic.getD w 0) + fires near pic w t - fires near pic v t
  | 0 => by simp [runL, fires]
  | t + 1 => by
    have ih := lead_run S hv hw ha t
    have h := lead_step (S.run t) hv hw ha
    show ld ((stepL near (runL near pic t)).getD v 0) _ = _
    rw [show runL near pic (t + 1) = stepL near (runL near pic t) from rfl, h, ih]
    simp only [fires, runL]
    omega
/-- the table of steps and stays -/
def tab (near : List (List Int)) (pic : List Int) (v w : Nat) : Option Int := if v = w then some 0 else if adj near v w then some (ld (pic.getD v 0) (pic.getD w 0)) else none
theorem fires_up (S : Sc n near pic) {v w : Nat} (hv : v < n) (hw : w < n) {e : Int} (he : tab near pic v w = some e) (t : Nat) : e + fires near pic w t ≤ fires near pic v (t + 1) := by
  unfold tab at he
  have hf : fires near pic v (t + 1) = fires near pic v t + if (runL near pic (t + 1)).getD v 0 = 1 then 1 else 0 := rfl
  split at he
  · rename_i e'
    subst e'
    cases he
    rw [hf]
    split <;> omega
  · split at he
    · rename_i ha
      cases he
      have h := lead_run S hv hw ha t
      have st := S.run t
      have e1 : (runL near pic (t + 1)).getD v 0 = nxt ((runL near pic t).getD v 0) (hear near (runL near pic t) v) := step_get (by rw [st.pl]; exact hv)
      rw [hf, e1]
      -- the lead at beat t is 1 only if v fires now
      have key : ld ((runL near pic t).getD v 0) ((runL near pic t).getD w 0) ≤ if nxt ((runL near pic t).getD v 0) (hear near (runL near pic t) v) = 1 then 1 else 0 := by
        have hh : (runL near pic t).getD w 0 = 1 → hear near (runL near pic t) v = true := fun q => hear_of st ha q
        rcases st.get v with h0 | h0 | h0 <;> rcases st.get w with h1 | h1 | h1 <;> rw [h0, h1] <;> rw [h1] at hh
        all_goals first
          | (rw [hh rfl]; decide)
          | (cases hear near (runL near pic t) v <;> decide)
      omega
    · cases he
theorem fires_at (S : Sc n near pic) {v : Nat} (hv : v < n) (t : Nat) : ∃ w e, w < n ∧ tab near pic v w = some e ∧ e + fires near pic w t = fires near pic v (t + 1) := by
  have hf : fires near pic v (t + 1) = fires near pic v t + if (runL near pic (t + 1)).getD v 0 = 1 then 1 else 0 := rfl
  have st := S.run t
  have e1 : (runL near pic (t + 1)).getD v 0 = nxt ((runL near pic t).getD v 0) (hear near (runL near pic t) v) := step_get (by rw [st.pl]; exact hv)
  by_cases hx : (runL near pic (t + 1)).getD v 0 = 1
  · -- it fires: a neighbour is fired
    have h0 : (runL near pic t).getD v 0 = 0 ∧ hear near (runL near pic t) v = true := by
      rw [e1] at hx
      rcases st.get v with h | h | h <;> rw [h] at hx ⊢
      · cases hh : hear near (runL near pic t) v with
        | true => exact ⟨rfl, rfl⟩
        | false => rw [hh] at hx; exact absurd hx (by decide)
      · exact absurd hx (by cases hear near (runL near pic t) v <;> decide)
      · exact absurd hx (by cases hear near (runL near pic t) v <;> decide)
    obtain ⟨w, hw, ha, hp⟩ := of_hear st h0.2
    have h := lead_run S hv hw ha t
    rw [h0.1, hp] at h
    have hl : ld 0 1 = 1 := by decide
    rw [hl] at h
    have nvw : v ≠ w := by
      intro e; subst e
      rw [h0.1] at hp; exact absurd hp (by decide)
    refine ⟨w, ld (pic.getD v 0) (pic.getD w 0), hw, ?_, ?_⟩
    · unfold tab
      rw [if_neg nvw, if_pos ha]
    · rw [hf, if_pos hx]
      omega
  · refine ⟨v, 0, hv, by unfold tab; rw [if_pos rfl], ?_⟩
    rw [hf, if_neg hx]
    omega
/-- walks of t steps and stays, with what they gain -/
inductive Wk (n : Nat) (T : Nat → Nat → Option Int) : Nat → Nat → Nat → Int → Prop
  | nil {v : Nat} : v < n → Wk n T 0 v v 0
  | cons {t v w u : Nat} {e g : Int} : v < n → w < n → T v w = some e → Wk n T t w u g → Wk n T (t + 1) v u (e + g)
theorem Wk.app {T : Nat → Nat → Option Int} {s t v w u : Nat} {g h : Int} (k1 : Wk n T s v w g) (k : Wk n T t w u h) : Wk n T (s + t) v u (g + h) := by
  induction k1 with
  | nil _ => rw [Nat.zero_add, Int.zero_add]; exact k
  | cons a b c d ih =>
    rw [Nat.add_right_comm, Int.add_assoc]
    exact .cons a b c (ih k)
theorem Wk.split {T : Nat → Nat → Option Int} : ∀ {s t v u : Nat} {g : Int}, Wk n T (s + t) v u g → ∃ w g1 g2, Wk n T s v w g1 ∧ Wk n T t w u g2 ∧ g = g1 + g2
  | 0, t, v, u, g, k => by
    rw [Nat.zero_add] at k
    have hv : v < n := by cases k <;> assumption
    exact ⟨v, 0, g, .nil hv, k, by omega⟩
  | s + 1, t, v, u, g, k => by
    rw [Nat.add_right_comm] at k
    cases k with
    | cons a b c d =>
      obtain ⟨w', g1, g2, h1, h2, e⟩ := Wk.split d
      exact ⟨w', _, g2, .cons a b c h1, h2, by omega⟩
theorem Wk.lt {T : Nat → Nat → Option Int} : ∀ {t v u : Nat} {g : Int}, Wk n T t v u g → v < n ∧ u < n
  | _, _, _, _, .nil h => ⟨h, h⟩
  | _, _, _, _, .cons a _ _ d => ⟨a, (Wk.lt d).2⟩
theorem wk_up (S : Sc n near pic) : ∀ {t v u : Nat} {g : Int}, Wk n (tab near pic) t v u g → g ≤ fires near pic v t
  | _, _, _, _, .nil _ => Int.le_refl _
  | t + 1, v, u, _, .cons a b c d => by
    have h1 := wk_up S d
    have h2 := fires_up S a b c t
    omega
theorem wk_at (S : Sc n near pic) : ∀ (t : Nat) {v : Nat}, v < n → ∃ u, Wk n (tab near pic) t v u (fires near pic v t)
  | 0, v, h => ⟨v, .nil h⟩
  | t + 1, v, h => by
    obtain ⟨w, e, hw, ht, he⟩ := fires_at S h t
    obtain ⟨u, k⟩ := wk_at S t hw
    exact ⟨u, he ▸ .cons h hw ht k⟩
end
/-- a table tells the best gains of walks of t steps and stays -/
def Best (n : Nat) (T : Nat → Nat → Option Int) (t : Nat) (A : Nat → Nat → Option Int) : Prop :=
  ∀ v u, v < n → u < n → (∀ g, Wk n T t v u g → ∃ e, A v u = some e ∧ g ≤ e) ∧ ∀ e, A v u = some e → Wk n T t v u e
/-- the best of the sums -/
def IsMax (S : Int → Prop) (o : Option Int) : Prop := (∀ g, S g → ∃ e, o = some e ∧ g ≤ e) ∧ ∀ e, o = some e → S e
theorem best_one {n : Nat} {T : Nat → Nat → Option Int} : Best n T 1 T := fun v u hv hu => by
  refine ⟨fun g k => ?_, fun e he => ?_⟩
  · cases k with
    | cons a b c d =>
      cases d with
      | nil _ => exact ⟨_, c, by omega⟩
  · have := Wk.cons hv hu he (.nil hu)
    rw [Int.add_zero] at this
    exact this
theorem best_mul {n : Nat} {T A B C : Nat → Nat → Option Int} {s t : Nat} (hA : Best n T s A) (hB : Best n T t B)
    (hC : ∀ v u, v < n → u < n → IsMax (fun g => ∃ w e f, w < n ∧ A v w = some e ∧ B w u = some f ∧ g = e + f) (C v u)) : Best n T (s + t) C := fun v u hv hu => by
  obtain ⟨h1, h2⟩ := hC v u hv hu
  refine ⟨fun g k => ?_, fun e he => ?_⟩
  · obtain ⟨w, g1, g2, k1, k2, e⟩ := k.split
    have hw := k1.lt.2
    obtain ⟨e1, a1, b1⟩ := (hA v w hv hw).1 g1 k1
    obtain ⟨e2, a2, b2⟩ := (hB w u hw hu).1 g2 k2
    obtain ⟨e3, a3, b3⟩ := h1 (e1 + e2) ⟨w, e1, e2, hw, a1, a2, rfl⟩
    exact ⟨e3, a3, by omega⟩
  · obtain ⟨w, e1, e2, hw, a1, a2, rfl⟩ := h2 e he
    exact ((hA v w hv hw).2 e1 a1).app ((hB w u hw hu).2 e2 a2)
/-- led through a table: the firings that many beats later -/
theorem led_fires {n : Nat} {near : List (List Int)} {pic : List Int} {s t : Nat} {A : Nat → Nat → Option Int} (S : Sc n near pic) (hA : Best n (tab near pic) s A) {v : Nat} (hv : v < n) :
    (∀ w e, w < n → A v w = some e → e + fires near pic w t ≤ fires near pic v (s + t)) ∧ ∃ w e, w < n ∧ A v w = some e ∧ e + fires near pic w t = fires near pic v (s + t) := by
  have up : ∀ w e, w < n → A v w = some e → e + fires near pic w t ≤ fires near pic v (s + t) := fun w e hw he => by
    obtain ⟨u, k⟩ := wk_at S t hw
    exact wk_up S (((hA v w hv hw).2 e he).app k)
  refine ⟨up, ?_⟩
  obtain ⟨u, k⟩ := wk_at S (s + t) hv
  obtain ⟨w, g1, g2, k1, k2, e⟩ := k.split
  have hw := k1.lt.2
  obtain ⟨e1, a1, b1⟩ := (hA v w hv hw).1 g1 k1
  have h2 := wk_up S k2
  have h3 := up w e1 hw a1
  exact ⟨w, e1, hw, a1, by omega⟩
end Fr
set_option linter.all false
/-! Math2: rounds, counts (plain Lean). -/
namespace Fr
def allP : Nat → List (List Int)
  | 0 => [[]]
  | n + 1 => (allP n).flatMap fun p => [0 :: p, 1 :: p, 2 :: p]
theorem allP_len : ∀ n, (allP n).length = 3 ^ n
  | 0 => rfl
  | n + 1 => by
    have ih := allP_len n
    have key : ∀ l : List (List Int), (l.flatMap fun p => [(0 : Int) :: p, 1 :: p, 2 :: p]).length = 3 * l.length := by
      intro l
      induction l with
      | nil => rfl
      | cons a l ih => rw [List.flatMap_cons, List.length_append, ih]; simp; omega
    show ((allP n).flatMap _).length = _
    rw [key, ih, Nat.pow_succ]; omega
theorem allP_mem : ∀ (n : Nat) (p : List Int), p.length = n → (∀ s ∈ p, s = 0 ∨ s = 1 ∨ s = 2) → p ∈ allP n
  | 0, p, hl, _ => by
    have : p = [] := List.length_eq_zero_iff.mp hl
    subst this; simp [allP]
  | n + 1, p, hl, hs => by
    cases p with
    | nil => simp at hl
    | cons a p =>
      have ih := allP_mem n p (by simpa using hl) fun s h => hs s (List.mem_cons_of_mem _ h)
      show a :: p ∈ (allP n).flatMap _
      rw [List.mem_flatMap]
      refine ⟨p, ih, ?_⟩
      rcases hs a (List.mem_cons_self ..) with h | h | h <;> subst h <;> simp
/-- more pictures than there are: two are the same -/
theorem pigeon {f : Nat → List Int} {n m : Nat} (hl : ∀ t, (f t).length = n) (hs : ∀ t, ∀ s ∈ f t, s = 0 ∨ s = 1 ∨ s = 2) (hm : 3 ^ n < m) (hd : ∀ a b, a < b → b < m → f a ≠ f b) : False := by
  have nd : ((List.range m).map f).Nodup := by
    rw [List.Nodup, List.pairwise_map]
    refine List.Pairwise.imp_of_mem (R := fun a b => a < b) (fun {a b} ha hb hab => hd a b hab (List.mem_range.mp hb)) List.pairwise_lt_range
  have sub : (List.range m).map f ⊆ allP n := fun p hp => by
    obtain ⟨t, _, rfl⟩ := List.mem_map.mp hp
    exact allP_mem n _ (hl t) (hs t)
  have := nd.length_le_of_subset sub
  rw [List.length_map, List.length_range, allP_len] at this
  omega
/-! what is counted -/
theorem runL_per {near : List (List Int)} {pic : List Int} {f p : Nat} (h : runL near pic (f + p) = runL near pic f) : ∀ t, runL near pic (f + p + t) = runL near pic (f + t)
  | 0 => h
  | t + 1 => by
    show stepL near (runL near pic (f + p + t)) = stepL near (runL near pic (f + t))
    rw [runL_per h t]
theorem runL_pers {near : List (List Int)} {pic : List Int} {f p : Nat} (h : runL near pic (f + p) = runL near pic f) (t : Nat) : ∀ q : Nat, runL near pic (f + q * p + t) = runL near pic (f + t)
  | 0 => by rw [Nat.zero_mul, Nat.add_zero]
  | q + 1 => by
    have e : f + (q + 1) * p + t = f + p + (q * p + t) := by rw [Nat.succ_mul]; omega
    rw [e, runL_per h, ← Nat.add_assoc, runL_pers h t q]
theorem fires_more {near : List (List Int)} {pic : List Int} {v f p : Nat} (h : runL near pic (f + p) = runL near pic f) : ∀ t, fires near pic v (f + p + t) = fires near pic v (f + p) + (fires near pic v (f + t) - fires near pic v f)
  | 0 => by simp
  | t + 1 => by
    have ih := fires_more (v := v) h t
    have e := runL_per h (t + 1)
    have e' : runL near pic (f + p + t + 1) = runL near pic (f + t + 1) := e
    have f1 : fires near pic v (f + p + (t + 1)) = fires near pic v (f + p + t) + if (runL near pic (f + p + t + 1)).getD v 0 = 1 then 1 else 0 := rfl
    have f2 : fires near pic v (f + (t + 1)) = fires near pic v (f + t) + if (runL near pic (f + t + 1)).getD v 0 = 1 then 1 else 0 := rfl
    rw [f1, f2, ih, e']
    omega
/-- firings after whole rounds -/
theorem fires_rounds {near : List (List Int)} {pic : List Int} {v f p : Nat} (h : runL near pic (f + p) = runL near pic f) (t : Nat) : ∀ q : Nat, fires near pic v (f + q * p + t) = fires near pic v (f + t) + (q : Int) * (fires near pic v (f + p) - fires near pic v f)
  | 0 => by simp
  | q + 1 => by
    have ih := fires_rounds (v := v) h t q
    have e : f + (q + 1) * p + t = f + p + (q * p + t) := by rw [Nat.succ_mul]; omega
    rw [e, fires_more h, ← Nat.add_assoc, ih]
    have : ((q + 1 : Nat) : Int) = (q : Int) + 1 := by omega
    rw [this, Int.add_mul]
    omega
theorem fires_nonneg {near : List (List Int)} {pic : List Int} {v : Nat} : ∀ t, 0 ≤ fires near pic v t ∧ fires near pic v t ≤ t
  | 0 => by simp [fires]
  | t + 1 => by
    have ih := fires_nonneg (near := near) (pic := pic) (v := v) t
    show 0 ≤ fires near pic v t + _ ∧ fires near pic v t + _ ≤ _
    split <;> omega
theorem fires_mono {near : List (List Int)} {pic : List Int} {v s : Nat} : ∀ t, fires near pic v s ≤ fires near pic v (s + t)
  | 0 => by simp
  | t + 1 => by
    have ih := fires_mono (near := near) (pic := pic) (v := v) (s := s) t
    show _ ≤ fires near pic v (s + t) + _
    split <;> omega
end Fr
set_option linter.all false
/-! Math3: rows and what they tell (plain Lean). -/
namespace Fr
inductive Row where
  | stay (a : Nat)
  | step (a b : Nat)
  | both (i j : Nat)
structure Fact where
  a : Nat
  b : Nat
  t : Nat
  g : Int
/-- what a row tells, rows before it telling facts -/
def okRow (n : Nat) (A : Nat → Nat → Prop) (pic : List Int) (facts : List Fact) : Row → Fact → Prop
  | .stay a, f => a < n ∧ f = ⟨a, a, 1, 0⟩
  | .step a b, f => a < n ∧ b < n ∧ A a b ∧ f = ⟨a, b, 1, ld (pic.getD a 0) (pic.getD b 0)⟩
  | .both i j, f => ∃ p q, facts[i]? = some p ∧ facts[j]? = some q ∧ p.b = q.a ∧ f = ⟨p.a, q.b, p.t + q.t, p.g + q.g⟩
structure RowsOk (n : Nat) (A : Nat → Nat → Prop) (pic : List Int) (rows : List Row) (facts : List Fact) : Prop where
  len : rows.length = facts.length
  ok : ∀ (k : Nat) (r : Row) (f : Fact), rows[k]? = some r → facts[k]? = some f → okRow n A pic (facts.take k) r f
theorem rows_nil {n : Nat} {A : Nat → Nat → Prop} {pic : List Int} : RowsOk n A pic [] [] := ⟨rfl, fun k r f h => by simp at h⟩
theorem rows_app {n : Nat} {A : Nat → Nat → Prop} {pic : List Int} {rows : List Row} {facts : List Fact} {r : Row} {f : Fact} (h : RowsOk n A pic rows facts) (hr : okRow n A pic facts r f) : RowsOk n A pic (rows ++ [r]) (facts ++ [f]) := by
  refine ⟨by simp [h.len], fun k r' f' e1 e2 => ?_⟩
  by_cases hk : k < facts.length
  · rw [List.getElem?_append_left (by rw [h.len]; exact hk)] at e1
    rw [List.getElem?_append_left hk] at e2
    rw [List.take_append_of_le_length (Nat.le_of_lt hk)]
    exact h.ok k r' f' e1 e2
  · have hl := (List.getElem?_eq_some_iff.mp e2).1
    rw [List.length_append] at hl
    simp at hl
    have ek : k = facts.length := by omega
    subst ek
    rw [List.getElem?_append_right (Nat.le_refl _)] at e2
    rw [← h.len, List.getElem?_append_right (Nat.le_refl _)] at e1
    simp at e1 e2
    subst e1 e2
    rw [List.take_append_of_le_length (Nat.le_refl _), List.take_length]
    exact hr
theorem rows_take {n : Nat} {A : Nat → Nat → Prop} {pic : List Int} {rows : List Row} {facts : List Fact} (h : RowsOk n A pic rows facts) (m : Nat) : RowsOk n A pic (rows.take m) (facts.take m) := by
  refine ⟨by rw [List.length_take, List.length_take, h.len], fun k r f e1 e2 => ?_⟩
  have hk : k < m := by
    have := (List.getElem?_eq_some_iff.mp e1).1
    rw [List.length_take] at this
    omega
  rw [List.getElem?_take_of_lt hk] at e1 e2
  rw [List.take_take, Nat.min_eq_left (Nat.le_of_lt hk)]
  exact h.ok k r f e1 e2
/-- another reading of the same neighbours -/
theorem RowsOk.imp {n : Nat} {A A' : Nat → Nat → Prop} {pic : List Int} {rows : List Row} {facts : List Fact} (h : RowsOk n A pic rows facts) (i : ∀ a b, a < n → b < n → A a b → A' a b) : RowsOk n A' pic rows facts := by
  refine ⟨h.len, fun k r f e1 e2 => ?_⟩
  have := h.ok k r f e1 e2
  cases r with
  | stay a => exact this
  | step a b => exact ⟨this.1, this.2.1, i a b this.1 this.2.1 this.2.2.1, this.2.2.2⟩
  | both p q => exact this
/-- the places of facts are places -/
theorem RowsOk.lt {n : Nat} {A : Nat → Nat → Prop} {pic : List Int} {rows : List Row} {facts : List Fact} (h : RowsOk n A pic rows facts) : ∀ (k : Nat) (f : Fact), facts[k]? = some f → f.a < n ∧ f.b < n := by
  intro k
  induction k using Nat.strongRecOn with
  | _ k ih =>
    intro f e
    have hl := (List.getElem?_eq_some_iff.mp e).1
    obtain ⟨r, er⟩ : ∃ r, rows[k]? = some r := ⟨_, List.getElem?_eq_getElem (show k < rows.length by rw [h.len]; exact hl)⟩
    have := h.ok k _ f er e
    cases r with
    | stay a => obtain ⟨h1, rfl⟩ := this; exact ⟨h1, h1⟩
    | step a b => obtain ⟨h1, h2, _, rfl⟩ := this; exact ⟨h1, h2⟩
    | both i j =>
      obtain ⟨p, q, e1, e2, _, rfl⟩ := this
      have g : ∀ (m : Nat) (x : Fact), (facts.take k)[m]? = some x → m < k ∧ facts[m]? = some x := fun m x hx => by
        have hm := (List.getElem?_eq_some_iff.mp hx).1
        rw [List.length_take] at hm
        have hk : m < k := by omega
        rw [List.getElem?_take_of_lt hk] at hx
        exact ⟨hk, hx⟩
      obtain ⟨g1, g2⟩ := g _ _ e1
      obtain ⟨g3, g4⟩ := g _ _ e2
      exact ⟨(ih _ g1 _ g2).1, (ih _ g3 _ g4).2⟩
end Fr
set_option linter.all false
/-! Math4: tables as lists, their powers (plain Lean). -/
namespace Fr
def gsf (best : Option Int) (p : Option Int × Option Int) : Option Int :=
  match p.1, p.2 with
  | some x, some y => match best with
    | none => some (x + y)
    | some m => if m < x + y then some (x + y) else some m
  | _, _ => best
theorem gs_max (l : List (Option Int × Option Int)) : ∀ best : Option Int, IsMax (fun g => best = some g ∨ ∃ x y, (some x, some y) ∈ l ∧ g = x + y) (l.foldl gsf best) := by
  induction l with
  | nil =>
    intro best
    refine ⟨fun g h => ?_, fun e h => .inl h⟩
    rcases h with h | ⟨x, y, h, _⟩
    · exact ⟨g, h, Int.le_refl _⟩
    · cases h
  | cons p l ih =>
    intro best
    obtain ⟨h1, h2⟩ := ih (gsf best p)
    obtain ⟨a, b⟩ := p
    rw [List.foldl_cons]
    refine ⟨fun g h => ?_, fun e h => ?_⟩
    · -- what was the best, or is a sum
      have key : ∃ g', g ≤ g' ∧ (gsf best (a, b) = some g' ∨ ∃ x y, (some x, some y) ∈ l ∧ g' = x + y) := by
        rcases h with h | ⟨x, y, h, e⟩
        · subst h
          cases a with
          | none => exact ⟨g, Int.le_refl _, .inl rfl⟩
          | some a =>
            cases b with
            | none => exact ⟨g, Int.le_refl _, .inl rfl⟩
            | some b =>
              by_cases hlt : g < a + b
              · exact ⟨a + b, by omega, .inl (if_pos hlt)⟩
              · exact ⟨g, Int.le_refl _, .inl (if_neg hlt)⟩
        · rcases List.mem_cons.mp h with h | h
          · injection h with ha hb
            subst ha hb
            subst e
            cases best with
            | none => exact ⟨x + y, Int.le_refl _, .inl rfl⟩
            | some m =>
              by_cases hlt : m < x + y
              · exact ⟨x + y, Int.le_refl _, .inl (if_pos hlt)⟩
              · exact ⟨m, by omega, .inl (if_neg hlt)⟩
          · exact ⟨g, Int.le_refl _, .inr ⟨x, y, h, e⟩⟩
      obtain ⟨g', hg, k⟩ := key
      obtain ⟨e, he, hle⟩ := h1 g' k
      exact ⟨e, he, by omega⟩
    · rcases h2 e h with k | ⟨x, y, k, hk⟩
      · cases a with
        | none => exact .inl k
        | some a =>
          cases b with
          | none => exact .inl k
          | some b =>
            cases best with
            | none =>
              have k : some (a + b) = some e := k
              cases k
              exact .inr ⟨a, b, List.mem_cons_self .., rfl⟩
            | some m =>
              have k : (if m < a + b then some (a + b) else some m) = some e := k
              split at k
              · cases k
                exact .inr ⟨a, b, List.mem_cons_self .., rfl⟩
              · exact .inl k
      · exact .inr ⟨x, y, List.mem_cons_of_mem _ k, hk⟩
abbrev Tb := List (List (Option Int))
def gsum (r c : List (Option Int)) : Option Int := (r.zip c).foldl gsf none
structure Sq (n : Nat) (t : Tb) : Prop where
  len : t.length = n
  row : ∀ r ∈ t, r.length = n
  nz : n ≤ 60
def colT (t : Tb) (j : Nat) : List (Option Int) := t.map fun r => r.getD j none
def mulT (n : Nat) (a b : Tb) : Tb := a.map fun r => (List.range n).map fun j => gsum r (colT b j)
theorem mul_sq {n : Nat} {a b : Tb} (ha : Sq n a) : Sq n (mulT n a b) := by
  refine ⟨by unfold mulT; rw [List.length_map, ha.len], fun r hr => ?_, ha.nz⟩
  obtain ⟨x, _, rfl⟩ := List.mem_map.mp hr
  rw [List.length_map, List.length_range]
def powT (n : Nat) (t : Tb) : Nat → Tb
  | 0 => t
  | i + 1 => mulT n (powT n t i) (powT n t i)
theorem pow_sq {n : Nat} {t : Tb} (h : Sq n t) : ∀ i, Sq n (powT n t i)
  | 0 => h
  | i + 1 => mul_sq (pow_sq h i)
def leadT (n : Nat) (cs : List (List Int)) (pic : List Int) : Tb := (List.range n).map fun a => (List.range n).map fun b => tab cs pic a b
theorem lead_sq {n : Nat} {cs : List (List Int)} {pic : List Int} (h : n ≤ 60) : Sq n (leadT n cs pic) := ⟨by unfold leadT; rw [List.length_map, List.length_range], fun r hr => by
  obtain ⟨a, _, rfl⟩ := List.mem_map.mp hr
  rw [List.length_map, List.length_range], h⟩
theorem getD_map_range {α : Type} {n k : Nat} {f : Nat → α} {d : α} (h : k < n) : ((List.range n).map f).getD k d = f k := by
  rw [List.getD_eq_getElem?_getD, List.getElem?_map, List.getElem?_range h]; rfl
theorem getD_map {α β : Type} {l : List α} {k : Nat} {f : α → β} {d : β} {d' : α} (h : k < l.length) : (l.map f).getD k d = f (l.getD k d') := by
  rw [List.getD_eq_getElem?_getD, List.getElem?_map, List.getD_eq_getElem?_getD, List.getElem?_eq_getElem h]; rfl
abbrev ent (t : Tb) (v u : Nat) : Option Int := (t.getD v []).getD u none
theorem ent_lead {n : Nat} {cs : List (List Int)} {pic : List Int} {v u : Nat} (hv : v < n) (hu : u < n) : ent (leadT n cs pic) v u = tab cs pic v u := by
  unfold ent leadT
  rw [getD_map_range hv, getD_map_range hu]
theorem ent_mul {n : Nat} {a b : Tb} (ha : Sq n a) {v u : Nat} (hv : v < n) (hu : u < n) : ent (mulT n a b) v u = gsum (a.getD v []) (colT b u) := by
  unfold ent mulT
  rw [getD_map (d' := []) (by rw [ha.len]; exact hv), getD_map_range hu]
theorem zip_at {n : Nat} {a b : Tb} (ha : Sq n a) (hb : Sq n b) {v u c : Nat} (hv : v < n) (hc : c < n) : ((a.getD v []).zip (colT b u))[c]? = some (ent a v c, ent b c u) := by
  have h1 : (a.getD v []).length = n := ha.row _ (by
    rw [List.getD_eq_getElem?_getD, List.getElem?_eq_getElem (by rw [ha.len]; exact hv)]
    exact List.getElem_mem _)
  rw [List.getElem?_zip_eq_some]
  refine ⟨?_, ?_⟩
  · unfold ent
    rw [List.getD_eq_getElem?_getD (l := a.getD v []), List.getElem?_eq_getElem (by rw [h1]; exact hc)]; rfl
  · unfold colT ent
    rw [List.getElem?_map, List.getElem?_eq_getElem (by rw [hb.len]; exact hc), List.getD_eq_getElem?_getD (l := b), List.getElem?_eq_getElem (by rw [hb.len]; exact hc)]; rfl
theorem zip_len {n : Nat} {a b : Tb} (ha : Sq n a) (hb : Sq n b) {v u : Nat} (hv : v < n) : ((a.getD v []).zip (colT b u)).length = n := by
  have h1 : (a.getD v []).length = n := ha.row _ (by
    rw [List.getD_eq_getElem?_getD, List.getElem?_eq_getElem (by rw [ha.len]; exact hv)]
    exact List.getElem_mem _)
  rw [List.length_zip, h1]
  unfold colT
  rw [List.length_map, hb.len, Nat.min_self]
theorem mul_max {n : Nat} {a b : Tb} (ha : Sq n a) (hb : Sq n b) {v u : Nat} (hv : v < n) (hu : u < n) : IsMax (fun g => ∃ w e f, w < n ∧ ent a v w = some e ∧ ent b w u = some f ∧ g = e + f) (ent (mulT n a b) v u) := by
  rw [ent_mul ha hv hu]
  obtain ⟨h1, h2⟩ := gs_max ((a.getD v []).zip (colT b u)) none
  refine ⟨fun g ⟨w, e, f, hw, e1, e2, hg⟩ => h1 g (.inr ⟨e, f, ?_, hg⟩), fun e he => ?_⟩
  · have := zip_at (u := u) ha hb hv hw
    rw [e1, e2] at this
    exact List.mem_of_getElem? this
  · rcases h2 e he with k | ⟨x, y, k, hk⟩
    · cases k
    · obtain ⟨c, hc⟩ := List.mem_iff_getElem?.mp k
      have hcn : c < n := by have := (List.getElem?_eq_some_iff.mp hc).1; rwa [zip_len ha hb hv] at this
      rw [zip_at ha hb hv hcn] at hc
      injection hc with hc
      injection hc with e1 e2
      exact ⟨c, x, y, hcn, e1, e2, hk⟩
/-- the powers are best gains -/
theorem best_pow {n : Nat} {cs : List (List Int)} {pic : List Int} (hn : n ≤ 60) : ∀ i, Best n (tab cs pic) (2 ^ i) (ent (powT n (leadT n cs pic) i))
  | 0 => fun v u hv hu => by
    have := best_one (n := n) (T := tab cs pic) v u hv hu
    show (∀ g, Wk n (tab cs pic) 1 v u g → ∃ e, ent (leadT n cs pic) v u = some e ∧ g ≤ e) ∧ ∀ e, ent (leadT n cs pic) v u = some e → Wk n (tab cs pic) 1 v u e
    rw [ent_lead hv hu]
    exact this
  | i + 1 => by
    have ih := best_pow (cs := cs) (pic := pic) hn i
    have sq := pow_sq (lead_sq (cs := cs) (pic := pic) hn) i
    have e : 2 ^ (i + 1) = 2 ^ i + 2 ^ i := by rw [Nat.pow_succ]; omega
    rw [e]
    exact best_mul ih ih fun v u hv hu => mul_max sq sq hv hu
end Fr
set_option linter.all false
/-! Math5: the entries that are needed (plain Lean). -/
namespace Fr
structure MidOk (n : Nat) (t : Tb) (a b c : Nat) : Prop where
  lt : c < n
  ex : ∃ x y, (t.getD a []).getD c none = some x ∧ (t.getD c []).getD b none = some y ∧ gsum (t.getD a []) (colT t b) = some (x + y)
abbrev Ent := (Nat × Nat) × Option Nat
abbrev Lvl := List Ent
abbrev keysL (ks : Lvl) : List (Nat × Nat) := ks.map fun e => e.1
def setE (ks : Lvl) (k : Nat × Nat) (o : Option Nat) : Lvl := if k ∈ keysL ks then ks.map (fun e => if e.1 = k then (e.1, o) else e) else ks ++ [(k, o)]
def addE (ks : Lvl) (k : Nat × Nat) : Lvl := if k ∈ keysL ks then ks else ks ++ [(k, none)]
theorem setE_keys {ks : Lvl} {k : Nat × Nat} {o : Option Nat} : keysL (setE ks k o) = if k ∈ keysL ks then keysL ks else keysL ks ++ [k] := by
  unfold setE
  split
  · unfold keysL
    rw [List.map_map]
    refine List.map_congr_left fun e _ => ?_
    show (if e.1 = k then (e.1, o) else e).1 = e.1
    split <;> rfl
  · simp [keysL]
theorem addE_keys {ks : Lvl} {k : Nat × Nat} : keysL (addE ks k) = if k ∈ keysL ks then keysL ks else keysL ks ++ [k] := by
  unfold addE
  split
  · rfl
  · simp [keysL]
theorem addE_sub {ks : Lvl} {k k' : Nat × Nat} (h : k' ∈ keysL ks) : k' ∈ keysL (addE ks k) := by
  rw [addE_keys]
  split
  · exact h
  · exact List.mem_append_left _ h
theorem addE_self {ks : Lvl} {k : Nat × Nat} : k ∈ keysL (addE ks k) := by
  rw [addE_keys]
  split
  · assumption
  · simp
theorem addE_mem {ks : Lvl} {k : Nat × Nat} {e : Ent} (h : e ∈ addE ks k) : e ∈ ks ∨ e = (k, none) := by
  unfold addE at h
  split at h
  · exact .inl h
  · rcases List.mem_append.mp h with h | h
    · exact .inl h
    · exact .inr (List.mem_singleton.mp h)
theorem nodup_snoc {l : List (Nat × Nat)} {k : Nat × Nat} (h : l.Nodup) (hk : k ∉ l) : (l ++ [k]).Nodup := by
  rw [List.nodup_append]
  refine ⟨h, by simp, fun a ha b hb => ?_⟩
  have : b = k := by simpa using hb
  subst this
  exact fun e => hk (e ▸ ha)
def Vld (n : Nat) (t : Tb) (k : Nat × Nat) : Prop := k.1 < n ∧ k.2 < n ∧ (ent t k.1 k.2).isSome = true
/-- a level's entries: keys are told once, and are entries of the table -/
structure LvOk (n : Nat) (t : Tb) (ks : Lvl) : Prop where
  nd : (keysL ks).Nodup
  vd : ∀ k ∈ keysL ks, Vld n t k
theorem lv_add {n : Nat} {t : Tb} {ks : Lvl} {k : Nat × Nat} (h : LvOk n t ks) (hv : Vld n t k) : LvOk n t (addE ks k) := by
  refine ⟨?_, fun k' hk' => ?_⟩
  · rw [addE_keys]
    split
    · exact h.nd
    · exact nodup_snoc h.nd (by assumption)
  · rw [addE_keys] at hk'
    split at hk'
    · exact h.vd k' hk'
    · rcases List.mem_append.mp hk' with z | z
      · exact h.vd k' z
      · rw [List.mem_singleton.mp z]; exact hv
theorem lv_set {n : Nat} {t : Tb} {ks : Lvl} {k : Nat × Nat} {o : Option Nat} (h : LvOk n t ks) (hv : Vld n t k) : LvOk n t (setE ks k o) := by
  refine ⟨?_, fun k' hk' => ?_⟩
  · rw [setE_keys]
    split
    · exact h.nd
    · exact nodup_snoc h.nd (by assumption)
  · rw [setE_keys] at hk'
    split at hk'
    · exact h.vd k' hk'
    · rcases List.mem_append.mp hk' with z | z
      · exact h.vd k' z
      · rw [List.mem_singleton.mp z]; exact hv
/-- what is known of an entry's middle -/
def FinE (n : Nat) (T : Nat → Tb) (kss : List Lvl) (y : Nat) (e : Ent) : Prop := ∃ c, e.2 = some c ∧ MidOk n (T (y - 1)) e.1.1 e.1.2 c ∧ (e.1.1, c) ∈ keysL (kss.getD (y - 1) []) ∧ (c, e.1.2) ∈ keysL (kss.getD (y - 1) [])
/-- the entries of some levels are done: those from x on -/
structure Needs (n L : Nat) (T : Nat → Tb) (x : Nat) (kss : List Lvl) : Prop where
  len : kss.length = L
  ok : ∀ y, y < L → LvOk n (T y) (kss.getD y [])
  raw : ∀ y, y < x → y < L → ∀ e ∈ kss.getD y [], e.2 = none
  fin : ∀ y, x ≤ y → y < L → ∀ e ∈ kss.getD y [], FinE n T kss y e
theorem getD_set2 {α : Type} {l : List α} {i j : Nat} {x d : α} (h : i < l.length) : (l.set i x).getD j d = if i = j then x else l.getD j d := by
  rw [List.getD_eq_getElem?_getD, List.getD_eq_getElem?_getD, List.getElem?_set]
  by_cases e : i = j
  · rw [if_pos e, if_pos e, if_pos (e ▸ h)]; rfl
  · rw [if_neg e, if_neg e]
/-- one more raw key at level y -/
theorem needs_add {n L x y : Nat} {T : Nat → Tb} {kss : List Lvl} {k : Nat × Nat} (h : Needs n L T x kss) (hy : y < L) (hyx : y < x) (hv : Vld n (T y) k) : Needs n L T x (kss.set y (addE (kss.getD y []) k)) := by
  have hl := h.len
  have g : ∀ j, (kss.set y (addE (kss.getD y []) k)).getD j [] = if y = j then addE (kss.getD y []) k else kss.getD j [] := fun j => getD_set2 (by omega)
  have keys : ∀ j k', k' ∈ keysL (kss.getD j []) → k' ∈ keysL ((kss.set y (addE (kss.getD y []) k)).getD j []) := fun j k' hk' => by
    rw [g]
    split
    · rename_i e; subst e; exact addE_sub hk'
    · exact hk'
  refine ⟨by rw [List.length_set, hl], fun j hj => ?_, fun j hj hjL e he => ?_, fun j hj hjL e he => ?_⟩
  · rw [g]
    split
    · rename_i e; subst e; exact lv_add (h.ok _ hj) hv
    · exact h.ok j hj
  · rw [g] at he
    split at he
    · rename_i e'; subst e'
      rcases addE_mem he with z | z
      · exact h.raw _ hj hjL e z
      · rw [z]
    · exact h.raw j hj hjL e he
  · rw [g, if_neg (by omega)] at he
    obtain ⟨c, h1, h2, h3, h4⟩ := h.fin j hj hjL e he
    exact ⟨c, h1, h2, keys _ _ h3, keys _ _ h4⟩
/-- the entry at k of level x gets its middle; those before it have theirs -/
structure Half (n L : Nat) (T : Nat → Tb) (x j : Nat) (snap : List (Nat × Nat)) (kss : List Lvl) : Prop where
  len : kss.length = L
  ok : ∀ y, y < L → LvOk n (T y) (kss.getD y [])
  raw : ∀ y, y < x → ∀ e ∈ kss.getD y [], e.2 = none
  fin : ∀ y, x < y → y < L → ∀ e ∈ kss.getD y [], FinE n T kss y e
  keys : keysL (kss.getD x []) = snap
  half : ∀ t e, t < j → (kss.getD x [])[t]? = some e → FinE n T kss x e
theorem half_start {n L x : Nat} {T : Nat → Tb} {kss : List Lvl} (hx : x < L) (h : Needs n L T (x + 1) kss) : Half n L T x 0 (keysL (kss.getD x [])) kss :=
  ⟨h.len, h.ok, fun y hy => h.raw y (by omega) (by omega), fun y hy hyL => h.fin y (by omega) hyL, rfl, fun t e ht => by omega⟩
theorem half_end {n L x : Nat} {T : Nat → Tb} {kss : List Lvl} {snap : List (Nat × Nat)} (h : Half n L T x snap.length snap kss) : Needs n L T x kss := by
  refine ⟨h.len, h.ok, fun y hy _ => h.raw y hy, fun y hy hyL e he => ?_⟩
  by_cases hxy : x = y
  · subst hxy
    obtain ⟨t, ht⟩ := List.mem_iff_getElem?.mp he
    refine h.half t e ?_ ht
    have h1 := (List.getElem?_eq_some_iff.mp ht).1
    have h2 : (keysL (kss.getD x [])).length = snap.length := by rw [h.keys]
    rw [List.length_map] at h2
    omega
  · exact h.fin y (by omega) hyL e he
/-- the keys of kss are keys of kss' -/
def Grow (kss kss' : List Lvl) : Prop := ∀ y k, k ∈ keysL (kss.getD y []) → k ∈ keysL (kss'.getD y [])
theorem half_turn {n L x j : Nat} {T : Nat → Tb} {kss : List Lvl} {snap : List (Nat × Nat)} {a b c : Nat} (hx : x + 1 < L) (h : Half n L T (x + 1) j snap kss) (hs : snap[j]? = some (a, b)) (hm : MidOk n (T x) a b c) (v1 : Vld n (T x) (a, c)) (v2 : Vld n (T x) (c, b)) :
    ∀ kss1 kss2 kss3, kss1 = kss.set (x + 1) (setE (kss.getD (x + 1) []) (a, b) (some c)) → kss2 = kss1.set x (addE (kss1.getD x []) (a, c)) → kss3 = kss2.set x (addE (kss2.getD x []) (c, b)) → Half n L T (x + 1) (j + 1) snap kss3 ∧ Grow kss kss3 := by
  intro kss1 kss2 kss3 e1 e2 e3
  have hl := h.len
  have l1 : kss1.length = L := by rw [e1, List.length_set, hl]
  have l2 : kss2.length = L := by rw [e2, List.length_set, l1]
  have l3 : kss3.length = L := by rw [e3, List.length_set, l2]
  have hin : (a, b) ∈ keysL (kss.getD (x + 1) []) := by rw [h.keys]; exact List.mem_of_getElem? hs
  have g1 : ∀ y, kss1.getD y [] = if x + 1 = y then setE (kss.getD (x + 1) []) (a, b) (some c) else kss.getD y [] := fun y => by rw [e1]; exact getD_set2 (by omega)
  have g2 : ∀ y, kss2.getD y [] = if x = y then addE (kss1.getD x []) (a, c) else kss1.getD y [] := fun y => by rw [e2]; exact getD_set2 (by omega)
  have g3 : ∀ y, kss3.getD y [] = if x = y then addE (kss2.getD x []) (c, b) else kss2.getD y [] := fun y => by rw [e3]; exact getD_set2 (by omega)
  have x1 : kss1.getD x [] = kss.getD x [] := by rw [g1, if_neg (by omega)]
  have x2 : kss2.getD x [] = addE (kss.getD x []) (a, c) := by rw [g2, if_pos rfl, x1]
  have x3 : kss3.getD x [] = addE (addE (kss.getD x []) (a, c)) (c, b) := by rw [g3, if_pos rfl, x2]
  have t3 : kss3.getD (x + 1) [] = setE (kss.getD (x + 1) []) (a, b) (some c) := by rw [g3, if_neg (by omega), g2, if_neg (by omega), g1, if_pos rfl]
  have o3 : ∀ y, y ≠ x → y ≠ x + 1 → kss3.getD y [] = kss.getD y [] := fun y h1 h2 => by rw [g3, if_neg (fun z => h1 z.symm), g2, if_neg (fun z => h1 z.symm), g1, if_neg (fun z => h2 z.symm)]
  have kx : keysL (kss3.getD (x + 1) []) = snap := by rw [t3, setE_keys, if_pos hin, h.keys]
  have grow : Grow kss kss3 := fun y k hk => by
    by_cases h1 : y = x
    · subst h1; rw [x3]; exact addE_sub (addE_sub hk)
    · by_cases h2 : y = x + 1
      · subst h2; rw [kx, ← h.keys]; exact hk
      · rw [o3 y h1 h2]; exact hk
  refine ⟨⟨l3, fun y hy => ?_, fun y hy e he => ?_, fun y hy hyL e he => ?_, kx, fun t e ht he => ?_⟩, grow⟩
  · by_cases h1 : y = x
    · subst h1; rw [x3]; exact lv_add (lv_add (h.ok y hy) v1) v2
    · by_cases h2 : y = x + 1
      · subst h2; rw [t3]; exact lv_set (h.ok _ hy) ((h.ok _ hy).vd _ hin)
      · rw [o3 y h1 h2]; exact h.ok y hy
  · by_cases h1 : y = x
    · subst h1
      rw [x3] at he
      rcases addE_mem he with z | z
      · rcases addE_mem z with z | z
        · exact h.raw _ hy e z
        · rw [z]
      · rw [z]
    · rw [o3 y h1 (by omega)] at he
      exact h.raw y hy e he
  · rw [o3 y (by omega) (by omega)] at he
    obtain ⟨c', q1, q2, q3, q4⟩ := h.fin y hy hyL e he
    exact ⟨c', q1, q2, grow _ _ q3, grow _ _ q4⟩
  · rw [t3] at he
    unfold setE at he
    rw [if_pos hin, List.getElem?_map] at he
    cases he0 : (kss.getD (x + 1) [])[t]? with
    | none => rw [he0] at he; cases he
    | some e0 =>
      rw [he0] at he
      have he : (if e0.1 = (a, b) then (e0.1, some c) else e0) = e := Option.some.inj he
      have hk0 : snap[t]? = some e0.1 := by rw [← h.keys, List.getElem?_map, he0]; rfl
      by_cases hk : e0.1 = (a, b)
      · rw [if_pos hk] at he
        subst he
        refine ⟨c, rfl, ?_, ?_, ?_⟩
        · rw [hk]; exact hm
        · show (e0.1.1, c) ∈ keysL (kss3.getD x [])
          rw [x3, hk]; exact addE_sub addE_self
        · show (c, e0.1.2) ∈ keysL (kss3.getD x [])
          rw [x3, hk]; exact addE_self
      · rw [if_neg hk] at he
        subst he
        have htj : t < j := by
          have : t ≠ j := fun z => by subst z; rw [hs] at hk0; exact hk (Option.some.inj hk0).symm
          omega
        obtain ⟨c', q1, q2, q3, q4⟩ := h.half t e0 htj he0
        exact ⟨c', q1, q2, grow _ _ q3, grow _ _ q4⟩
theorem mid_vld {n : Nat} {t : Tb} {a b c : Nat} (ha : a < n) (hb : b < n) (h : MidOk n t a b c) : Vld n t (a, c) ∧ Vld n t (c, b) := by
  obtain ⟨hc, x, y, e1, e2, _⟩ := h
  exact ⟨⟨ha, hc, by show (ent t a c).isSome = true; unfold ent; rw [e1]; rfl⟩, ⟨hc, hb, by show (ent t c b).isSome = true; unfold ent; rw [e2]; rfl⟩⟩
def allPairs (n : Nat) : List (Nat × Nat) := (List.range n).flatMap fun a => (List.range n).map fun b => (a, b)
theorem allPairs_len (n : Nat) : (allPairs n).length = n * n := by
  unfold allPairs
  have key : ∀ l : List Nat, (l.flatMap fun a => (List.range n).map fun b => (a, b)).length = l.length * n := by
    intro l
    induction l with
    | nil => simp
    | cons a l ih => rw [List.flatMap_cons, List.length_append, ih, List.length_map, List.length_range, List.length_cons, Nat.succ_mul]; omega
  rw [key, List.length_range]
theorem lv_len {n : Nat} {t : Tb} {ks : Lvl} (h : LvOk n t ks) : ks.length ≤ n * n := by
  have sub : keysL ks ⊆ allPairs n := fun k hk => by
    obtain ⟨h1, h2, _⟩ := h.vd k hk
    refine List.mem_flatMap.mpr ⟨k.1, List.mem_range.mpr h1, List.mem_map.mpr ⟨k.2, List.mem_range.mpr h2, rfl⟩⟩
  have := h.nd.length_le_of_subset sub
  rw [allPairs_len, List.length_map] at this
  exact this
theorem setE_raw {ks : Lvl} {k : Nat × Nat} (h : ∀ e ∈ ks, e.2 = none) : setE ks k none = addE ks k := by
  unfold setE addE
  split
  · have : ks.map (fun e => if e.1 = k then (e.1, none) else e) = ks.map id := by
      refine List.map_congr_left fun e he => ?_
      split
      · have := h e he
        obtain ⟨k', o⟩ := e
        have this : o = none := this
        rw [this]; rfl
      · rfl
    rw [this, List.map_id]
  · rfl
end Fr
set_option linter.all false
/-! Math6: entries become rows (plain Lean). -/
namespace Fr
abbrev K3 := Nat × Nat × Nat
abbrev Idx := List (K3 × Nat)
def setI (idx : Idx) (k : K3) (i : Nat) : Idx := if k ∈ idx.map (fun e => e.1) then idx.map (fun e => if e.1 = k then (e.1, i) else e) else idx ++ [(k, i)]
theorem setI_keys {idx : Idx} {k k' : K3} {i : Nat} : k' ∈ (setI idx k i).map (fun e => e.1) ↔ k' = k ∨ k' ∈ idx.map (fun e => e.1) := by
  unfold setI
  split
  · rename_i h
    rw [List.map_map]
    have : idx.map ((fun e => e.1) ∘ fun e => if e.1 = k then (e.1, i) else e) = idx.map fun e => e.1 := List.map_congr_left fun e _ => by
      show (if e.1 = k then (e.1, i) else e).1 = e.1
      split <;> rfl
    rw [this]
    exact ⟨.inr, fun z => z.elim (fun z => z ▸ h) id⟩
  · rw [List.map_append, List.mem_append]
    simp [or_comm]
theorem setI_mem {idx : Idx} {k : K3} {i : Nat} {e : K3 × Nat} (h : e ∈ setI idx k i) : e = (k, i) ∨ e ∈ idx := by
  unfold setI at h
  split at h
  · obtain ⟨x, hx, rfl⟩ := List.mem_map.mp h
    show (if x.1 = k then (x.1, i) else x) = (k, i) ∨ _
    split
    · rename_i e; left; rw [e]
    · right; exact hx
  · rcases List.mem_append.mp h with h | h
    · exact .inr h
    · exact .inl (List.mem_singleton.mp h)
theorem setI_len {idx : Idx} {k : K3} {i : Nat} : (setI idx k i).length ≤ idx.length + 1 := by
  unfold setI
  split
  · rw [List.length_map]; omega
  · simp
/-- how many entries the first levels have -/
def cnt (kss : List Lvl) (i : Nat) : Nat := ((kss.take i).map List.length).sum
theorem cnt_succ {kss : List Lvl} {i : Nat} {ks : Lvl} (h : kss[i]? = some ks) : cnt kss (i + 1) = cnt kss i + ks.length := by
  unfold cnt
  rw [List.take_add_one, h]
  simp
theorem cnt_le {n L x : Nat} {T : Nat → Tb} {kss : List Lvl} (h : Needs n L T x kss) : ∀ i, i ≤ L → cnt kss i ≤ i * (n * n)
  | 0, _ => by simp [cnt]
  | i + 1, hi => by
    have ih := cnt_le h i (by omega)
    have hl := h.len
    obtain ⟨ks, hk⟩ : ∃ ks, kss[i]? = some ks := ⟨_, List.getElem?_eq_getElem (by omega)⟩
    have h1 := lv_len (h.ok i (by omega))
    have e : kss.getD i [] = ks := by rw [List.getD_eq_getElem?_getD, hk]; rfl
    rw [e] at h1
    rw [cnt_succ hk, Nat.succ_mul]
    omega
abbrev adjC (cs : List (List Int)) (v w : Nat) : Prop := (w : Int) ∈ cs.getD v []
structure Er (n : Nat) (cs : List (List Int)) (pic : List Int) (kss : List Lvl) (i j : Nat) (y : List Row × List Fact × Idx) : Prop where
  rk : RowsOk n (adjC cs) pic y.1 y.2.1
  fa : ∀ l a b m, ((l, a, b), m) ∈ y.2.2 → ∃ g, y.2.1[m]? = some ⟨a, b, 2 ^ l, g⟩ ∧ ent (powT n (leadT n cs pic) l) a b = some g
  don : ∀ x, x < i → ∀ k ∈ keysL (kss.getD x []), (x, k.1, k.2) ∈ y.2.2.map (fun e => e.1)
  part : ∀ t k, t < j → (keysL (kss.getD i []))[t]? = some k → (i, k.1, k.2) ∈ y.2.2.map (fun e => e.1)
  len : y.1.length = cnt kss i + j
  il : y.2.2.length ≤ y.1.length
theorem er_turn {n : Nat} {cs : List (List Int)} {pic : List Int} {kss : List Lvl} {i j : Nat} {rows : List Row} {facts : List Fact} {idx : Idx} (h : Er n cs pic kss i j (rows, facts, idx)) {a b : Nat} {g : Int} {r : Row} (hk : (keysL (kss.getD i []))[j]? = some (a, b)) (hr : okRow n (adjC cs) pic facts r ⟨a, b, 2 ^ i, g⟩) (hg : ent (powT n (leadT n cs pic) i) a b = some g) :
    Er n cs pic kss i (j + 1) (rows ++ [r], facts ++ [⟨a, b, 2 ^ i, g⟩], setI idx (i, a, b) rows.length) := by
  have hl : rows.length = facts.length := h.rk.len
  refine ⟨rows_app h.rk hr, fun l a' b' m hm => ?_, fun x hx k hk' => setI_keys.mpr (.inr (h.don x hx k hk')), fun t k ht hk' => ?_, ?_, ?_⟩
  · rcases setI_mem hm with e | e
    · injection e with e1 e2
      injection e1 with e1 e3
      injection e3 with e3 e4
      subst e1 e2 e3 e4
      refine ⟨g, ?_, hg⟩
      show (facts ++ [_])[rows.length]? = _
      rw [hl, List.getElem?_append_right (Nat.le_refl _)]
      simp
    · obtain ⟨g', h1, h2⟩ := h.fa l a' b' m e
      refine ⟨g', ?_, h2⟩
      have h1 : facts[m]? = _ := h1
      show (facts ++ [_])[m]? = _
      rw [List.getElem?_append_left (List.getElem?_eq_some_iff.mp h1).1]
      exact h1
  · by_cases htj : t < j
    · exact setI_keys.mpr (.inr (h.part t k htj hk'))
    · have : t = j := by omega
      subst this
      rw [hk] at hk'
      cases hk'
      exact setI_keys.mpr (.inl rfl)
  · have : rows.length = cnt kss i + j := h.len
    show (rows ++ [r]).length = _
    rw [List.length_append, List.length_singleton]; omega
  · have h1 : idx.length ≤ rows.length := h.il
    have h2 := setI_len (idx := idx) (k := (i, a, b)) (i := rows.length)
    show (setI idx (i, a, b) rows.length).length ≤ (rows ++ [r]).length
    rw [List.length_append, List.length_singleton]; omega
theorem er_level {n : Nat} {cs : List (List Int)} {pic : List Int} {kss : List Lvl} {i : Nat} {ks : Lvl} {y : List Row × List Fact × Idx} (hk : kss[i]? = some ks) (h : Er n cs pic kss i ks.length y) : Er n cs pic kss (i + 1) 0 y := by
  have e : kss.getD i [] = ks := by rw [List.getD_eq_getElem?_getD, hk]; rfl
  refine ⟨h.rk, h.fa, fun x hx k hk' => ?_, fun t k ht => by omega, ?_, h.il⟩
  · by_cases hxi : x < i
    · exact h.don x hxi k hk'
    · have : x = i := by omega
      subst this
      obtain ⟨t, ht⟩ := List.mem_iff_getElem?.mp hk'
      have hl := (List.getElem?_eq_some_iff.mp ht).1
      rw [e, List.length_map] at hl
      exact h.part t k hl ht
  · rw [cnt_succ hk, h.len]; omega
theorem er_zero {n : Nat} {cs : List (List Int)} {pic : List Int} {kss : List Lvl} : Er n cs pic kss 0 0 ([], [], []) :=
  ⟨rows_nil, fun l a b m h => (nomatch h), fun x hx => (by omega), fun t k ht => (by omega), rfl, Nat.le_refl _⟩
/-- the row of an entry of the lowest level -/
theorem ok_low {n : Nat} {cs : List (List Int)} {pic : List Int} {a b : Nat} (ha : a < n) (hb : b < n) (h : (ent (leadT n cs pic) a b).isSome = true) (facts : List Fact) :
    (a = b → ent (leadT n cs pic) a b = some 0 ∧ okRow n (adjC cs) pic facts (.stay a) ⟨a, b, 1, 0⟩) ∧ (a ≠ b → ∃ g, ent (leadT n cs pic) a b = some g ∧ okRow n (adjC cs) pic facts (.step a b) ⟨a, b, 1, g⟩) := by
  rw [ent_lead ha hb] at h ⊢
  unfold tab at h ⊢
  refine ⟨fun e => ?_, fun e => ?_⟩
  · subst e
    rw [if_pos rfl]
    exact ⟨rfl, ha, rfl⟩
  · rw [if_neg e] at h ⊢
    by_cases hadj : adj cs a b
    · rw [if_pos hadj]
      exact ⟨_, rfl, ha, hb, hadj, rfl⟩
    · rw [if_neg hadj] at h; cases h
/-- the row of an entry that has a middle -/
theorem ok_high {n : Nat} {cs : List (List Int)} {pic : List Int} {l a b c : Nat} (hn : n ≤ 60) (ha : a < n) (hb : b < n) (hm : MidOk n (powT n (leadT n cs pic) l) a b c) {facts : List Fact} {i j : Nat} {x y : Int} (h1 : facts[i]? = some ⟨a, c, 2 ^ l, x⟩) (h2 : facts[j]? = some ⟨c, b, 2 ^ l, y⟩)
    (e1 : ent (powT n (leadT n cs pic) l) a c = some x) (e2 : ent (powT n (leadT n cs pic) l) c b = some y) : ent (powT n (leadT n cs pic) (l + 1)) a b = some (x + y) ∧ okRow n (adjC cs) pic facts (.both i j) ⟨a, b, 2 ^ (l + 1), x + y⟩ := by
  obtain ⟨_, x', y', k1, k2, k3⟩ := hm
  have k1 : ent (powT n (leadT n cs pic) l) a c = some x' := k1
  have k2 : ent (powT n (leadT n cs pic) l) c b = some y' := k2
  rw [e1] at k1
  rw [e2] at k2
  cases k1
  cases k2
  refine ⟨?_, _, _, h1, h2, rfl, ?_⟩
  · show ent (mulT n _ _) a b = _
    rw [ent_mul (pow_sq (lead_sq hn) l) ha hb]
    exact k3
  · have e : 2 ^ (l + 1) = 2 ^ l + 2 ^ l := by rw [Nat.pow_succ]; omega
    show (⟨a, b, 2 ^ (l + 1), x + y⟩ : Fact) = ⟨a, b, 2 ^ l + 2 ^ l, x + y⟩
    rw [e]
end Fr
set_option Elab.async false
set_option linter.all false
set_option maxRecDepth 100000
set_option maxHeartbeats 4000000
namespace Fr
open PySem PySem.Spec PySem.Calls L2
def bits (n : Nat) : List Nat := if h : n = 0 then [] else n % 2 :: bits (n / 2)
decreasing_by omega
theorem bits_len : ∀ {k n : Nat}, n < 2 ^ k → (bits n).length ≤ k
  | 0, n, h => by
    have : n = 0 := by simpa using h
    subst this
    unfold bits
    simp
  | k + 1, n, h => by
    unfold bits
    split
    · simp
    · have h2 : n / 2 < 2 ^ k := by
        rw [Nat.pow_succ] at h
        omega
      have := bits_len h2
      simp only [List.length_cons]
      omega
theorem bits_pos {n : Nat} (h : 0 < n) : bits n = n % 2 :: bits (n / 2) := by
  rw [bits, dif_neg (by omega)]
abbrev dI (n : Nat) : PyData := .int (n : Int)
def fsBits (K : PySem.W.Frag) : FS Nat := ⟨fun n => [I K (n : Int)], fun n => n < 2 ^ 1000, fun n => LP K ((bits n).map dI)⟩
section
variable {P : Program} {w : World} {K : PySem.W.Frag} {mg : Str → Option Value} {base : Heap}
theorem ok_binary_digits {f : Addr} {fd : FuncData} (Fn : Fun K "binary_digits" "binary_digits" s_binary_digits f fd) : FnOk P w K mg base CX0 1 f fd ["times"] ((fsBits K).sp 1) := by
  refine FS.ok (fsBits K) Fn sc_binary_digits rfl fun cdv A outer s H E M n hr hp => ?_
  have nd := sc_binary_digits.nd
  refine b_own (i := 1) nd (en_lst ea_nil (by decide)) fun p => ?_
  refine b_set (i := 2) nd (ev_var 0) ?_
  refine b_while PassesOwn.never (β := Nat × List Nat) (fun m y => m = y.1 ∧ y.2 ++ bits y.1 = bits n) (fun y => [some (I K (n : Int)), some (Vl (.ref p)), some (I K (y.1 : Int))]) (fun y => [(p, LO K (y.2.map dI))]) (fun y => decide ((0 : Int) < (y.1 : Int)))
    ⟨n, (n, []), ⟨rfl, rfl⟩, rfl, Le.refl _⟩ (fun m y h => et_gt (ev_var 2) ev_int) (fun m y h ht => ?_) (fun m y h ht => ?_)
  · obtain ⟨l, acc⟩ := y
    obtain ⟨rfl, h⟩ := h
    have hl : 0 < m := by simpa using ht
    have hlen : acc.length ≤ 1000 := by
      have h : acc ++ bits m = bits n := h
      have h1 := congrArg List.length h
      rw [List.length_append] at h1
      have h2 : (bits n).length ≤ 1000 := bits_len hp
      omega
    refine b_appD (k := 0) (ev_var 1) rfl (ev_mod (ev_var 2) ev_int (by decide)) (by simp; omega) ?_
    refine b_aug (k := 2) (g := fun i j => i / j) (C := CDivW) iop_fdivW nd rfl ev_int ⟨by decide, by decide⟩ ?_
    refine b_nil fun σ H s => ⟨m / 2, (m / 2, acc ++ [m % 2]), Nat.div_lt_self hl (by decide), ⟨rfl, ?_⟩, ?_⟩
    · rw [bits_pos hl] at h
      simpa using h
    · exact s.cast (Le.refl _) (by rw [List.map_append]; rfl)
  · obtain ⟨l, acc⟩ := y
    obtain ⟨rfl, h⟩ := h
    have hl : m = 0 := by
      have : ¬ (0 : Int) < (m : Int) := by simpa using ht
      omega
    subst hl
    have e : acc = bits n := by
      rw [← h]; unfold bits; simp
    subst e
    refine b_frzD (k := 0) (i := 1) rfl rfl ?_
    exact b_end (ev_var 1) rfl
/-! _law_power -/
def fsPower (K : PySem.W.Frag) : FS Nat := ⟨fun n => [I K (n : Int)], fun n => n < 1000, fun n => I K ((2 ^ n : Nat) : Int)⟩
theorem ok_l_power {f : Addr} {fd : FuncData} (W : Bi mg) (Fn : Fun K "_law_power" "_law_power" s_l_power f fd) : FnOk P w K mg base CX0 1 f fd ["_law_many"] ((fsPower K).sp 1) := by
  refine FS.ok (fsPower K) Fn sc_l_power rfl fun cdv A outer s H E M n hr hp => ?_
  have nd := sc_l_power.nd
  refine b_set (i := 1) nd ev_int ?_
  refine b_for rfl PassesOwn.never (it_rng1 (n := n) W (ev_var 0) rfl (by have : n < 1000 := hp; omega)) (fun i => [some (I K (n : Int)), some (I K ((2 ^ i : Nat) : Int)), none]) (fun _ => []) (fun i x => [some (I K (n : Int)), some (I K ((2 ^ i : Nat) : Int)), some (I K (x : Nat))]) [2] rfl (.keep (.keep (.drop .nil)))
    (fun gv gR i x h => tg_name (i := 2) nd) (fun gv gR i x h => ?_) ?_
  · refine b_set (i := 1) nd (ev_mul (ev_var 1) ev_int (.inr ⟨by decide, by decide⟩)) ?_
    refine b_nil fun σ H s => s.le (.keep (.imp (fun G v h => ?_) (.drop .nil)))
    have e : ((2 ^ (i + 1) : Nat) : Int) = ((2 ^ i : Nat) : Int) * 2 := by rw [Nat.pow_succ]; simp
    rw [e]
    exact h
  · rw [List.length_range]
    exact b_end (ev_var 1) rfl
end
end Fr
set_option Elab.async false
set_option linter.all false
set_option maxRecDepth 100000
set_option maxHeartbeats 4000000
namespace Fr
open PySem PySem.Spec PySem.Calls L2
/-! ### encodings -/
def dL (ns : List Int) : PyData := .list (ns.map .int)
def dT (ns : List Int) : PyData := .tuple (ns.map .int)
def dN (near : List (List Int)) : PyData := .list (near.map dL)
def dS (shots : List (List Int)) : PyData := .list (shots.map dT)
theorem getD_mem' {α : Type} {l : List α} {k : Nat} {d : α} (h : k < l.length) : l.getD k d ∈ l := List.mem_of_getElem? (getD_get h)
theorem any_filter {α : Type} (p : α → Bool) : ∀ l : List α, decide ((0 : Int) < ((l.filter p).length : Nat)) = l.any p
  | [] => rfl
  | x :: l => by
    rw [List.filter_cons, List.any_cons]
    cases h : p x with
    | true => simp
    | false => simpa using any_filter p l
section
variable {P : Program} {w : World} {K : PySem.W.Frag} {mg : Str → Option Value} {base : Heap}
def fsLead (K : PySem.W.Frag) : FS (Int × Int) := ⟨fun x => [I K x.1, I K x.2], fun _ => True, fun x => I K (ld x.1 x.2)⟩
theorem ok_l_lead {f : Addr} {fd : FuncData} (W : Bi mg) (Fn : Fun K "_law_lead" "_law_lead" s_l_lead f fd) : FnOk P w K mg base CX0 1 f fd ["_law_one", "_law_other"] ((fsLead K).sp 2) := by
  refine FS.ok (fsLead K) Fn sc_l_lead rfl fun cdv A outer s H E M y hr hp => ?_
  obtain ⟨a, b⟩ := y
  refine b_end (ev_int_is (ev_sub (ev_intB W (ev_and (ev_eq (ev_var 0) ev_int) fun _ => ev_one (ev_eq (ev_var 1) ev_int))) (ev_intB W (ev_and (ev_eq (ev_var 0) ev_int) fun _ => ev_one (ev_eq (ev_var 1) ev_int)))) ?_) rfl
  show _ = ld a b
  unfold ld
  by_cases h1 : a = 0 ∧ b = 1
  · obtain ⟨rfl, rfl⟩ := h1; decide
  · rw [if_neg h1]
    by_cases h2 : a = 1 ∧ b = 0
    · obtain ⟨rfl, rfl⟩ := h2; decide
    · rw [if_neg h2]
      have e1 : (decide (a = 0) && decide (b = 1)) = false := by simpa using h1
      have e2 : (decide (a = 1) && decide (b = 0)) = false := by simpa using h2
      show (if (decide (a = 0) && decide (b = 1)) = true then (1 : Int) else 0) - (if (decide (a = 1) && decide (b = 0)) = true then (1 : Int) else 0) = 0
      rw [e1, e2]; rfl
/-- rows and states that fit -/
structure Pf (near : List (List Int)) (pic : List Int) : Prop where
  nl : near.length = pic.length
  st : ∀ s ∈ pic, s = 0 ∨ s = 1 ∨ s = 2
  nb : ∀ row ∈ near, ∀ w ∈ row, 0 ≤ w ∧ w < (pic.length : Int)
  sz : pic.length ≤ 100
  rz : ∀ row ∈ near, row.length ≤ 1000
def fsStep (K : PySem.W.Frag) : FS (List (List Int) × List Int) := ⟨fun x => [D K (dN x.1), D K (dT x.2), D K (.list [])], fun x => Pf x.1 x.2, fun x => D K (dT (stepL x.1 x.2))⟩
theorem ok_l_step {f : Addr} {fd : FuncData} (W : Bi mg) (Fn : Fun K "_law_step" "_law_step" s_l_step f fd) : FnOk P w K mg base CX0 1 f fd ["_law_near_here", "_law_picture_here", "_law_poked"] ((fsStep K).sp 3) := by
  refine FS.ok (fsStep K) Fn sc_l_step rfl fun cdv A outer s H E M y hr hp => ?_
  obtain ⟨near, pic⟩ := y
  have hp : Pf near pic := hp
  have nd := sc_l_step.nd
  refine b_own (i := 3) nd (en_lst ea_nil (by decide)) fun p => ?_
  refine b_for rfl PassesOwn.never (it_rng1 (n := pic.length) W (ev_lenT W (ev_var 1)) (by rw [List.length_map]) (by have := hp.sz; omega))
    (fun i => [some (D K (dN near)), some (D K (dT pic)), some (D K (.list [])), some (Vl (.ref p)), none, none, none, none])
    (fun i => [(p, LO K (((stepL near pic).take i).map .int))])
    (fun i x => [some (D K (dN near)), some (D K (dT pic)), some (D K (.list [])), some (Vl (.ref p)), some (I K (x : Nat)), none, none, none]) [4] rfl
    (.keep (.keep (.keep (.keep (.drop (.drop (.drop (.drop .nil))))))))
    (fun gv gR i x h => tg_name (i := 4) nd) (fun gv gR i v h => ?_) ?_
  · have hv : i < pic.length ∧ v = i := by
      have h1 := (List.getElem?_eq_some_iff.mp h).1
      have h1 : i < pic.length := by simpa using h1
      rw [List.getElem?_range h1] at h
      exact ⟨h1, (Option.some.inj h).symm⟩
    obtain ⟨hv, rfl⟩ := hv
    have hst : pic.getD v 0 = 0 ∨ pic.getD v 0 = 1 ∨ pic.getD v 0 = 2 := by
      rw [List.getD_eq_getElem?_getD, List.getElem?_eq_getElem hv]
      exact hp.st _ (List.getElem_mem hv)
    have hnext : (stepL near pic).take (v + 1) = (stepL near pic).take v ++ [nxt (pic.getD v 0) (hear near pic v)] := by
      rw [List.take_add_one, getD_get (d := 0) (by rw [stepL_len]; exact hv), step_get hv]; rfl
    have hlen : ((stepL near pic).take v).length ≤ 100 := by
      rw [List.length_take, stepL_len]; have := hp.sz; omega
    refine b_set (i := 5) nd (ev_ixT (ev_var 1) (ev_var 4) (atI_mapN (d := 0) hv)) ?_
    have ix : atI ([0, 2, 0].map PyData.int) (pic.getD v 0) = some (.int (if pic.getD v 0 = 1 then 2 else 0)) := by
      rcases hst with h | h | h <;> rw [h] <;> rfl
    refine b_if (et_gt (ev_var 5) ev_int) (fun hb => ⟨_, b_appD (k := 0) (d := .int (nxt (pic.getD v 0) (hear near pic v))) (ev_var 3) rfl ?_ (by rw [List.length_map]; omega) (b_nil fun _ _ s => s), ?_⟩) (fun hb => ⟨_, b_setLc (i := 6) (own := [("_law_other", 7)]) (g := .int) (pr := fun w => decide (pic.getD w.toNat 0 = 1)) (js := [7]) (Γt := fun w => [some (D K (dN near)), some (D K (dT pic)), some (D K (.list [])), some (Vl (.ref p)), some (I K (v : Nat)), some (I K (pic.getD v 0)), none, some (I K w)]) rfl nd (it_mapL (xs := near.getD v []) (ev_ixL (ev_var 0) (ev_var 4) (atI_mapN (d := []) (by rw [hp.nl]; exact hv)))) (blkOk_by (N := N_l_step) (sc := defScope s_l_step) (by decide +kernel))
      ⟨fun _ _ _ _ _ _ _ _ _ w hw => tg_name (i := 7) nd, fun _ _ _ _ _ _ _ _ _ w hw => ets_one (et_eq (ev_ixT (ev_var 1) (ev_var 7) (atI_map (d := 0) ?_)) ev_int), fun _ _ _ _ _ _ _ _ _ w hw _ => ev_var 7, fun j hj => hj, ?_⟩ (by show 6 < 8; decide) (b_appD (k := 0) (d := .int (nxt (pic.getD v 0) (hear near pic v))) (ev_var 3) rfl ?_ (by rw [List.length_map]; omega) (b_nil fun _ _ s => s)), ?_⟩)
    · refine ev_int_is (ev_ixL (ev_lstD (ds := [0, 2, 0].map PyData.int) (ea_cons ev_int (ea_cons ev_int (ea_cons ev_int ea_nil)))) (ev_var 5) ix) ?_
      have hb : 0 < pic.getD v 0 := of_decide_eq_true hb
      unfold nxt
      rw [if_pos hb]
    · exact b_nil fun σ H s => s.cast (.keep (.keep (.keep (.keep (.drop (.drop (.drop (.drop .nil)))))))) (by rw [hnext, List.map_append]; rfl)
    · have := hp.nb _ (getD_mem' (l := near) (k := v) (d := []) (by rw [hp.nl]; exact hv)) w hw
      exact this
    · have := hp.rz _ (getD_mem' (l := near) (k := v) (d := []) (by rw [hp.nl]; exact hv))
      omega
    · refine ev_int_is (ev_intB W (ev_or (ev_gt (ev_lenL W (ev_le (ev_var 6) LP_D)) ev_int) fun _ => ev_one (ev_inI (ns := []) (ev_var 4) (ev_var 2) (.inl rfl)))) ?_
      have hb : ¬ 0 < pic.getD v 0 := of_decide_eq_false hb
      unfold nxt
      rw [if_neg hb]
      have e : (decide ((0 : Int) < ((((near.getD v []).filter fun w => decide (pic.getD w.toNat 0 = 1)).map PyData.int).length : Nat)) || decide ((v : Int) ∈ ([] : List Int))) = hear near pic v := by
        rw [List.length_map]
        show (_ || false) = _
        rw [Bool.or_false]
        exact any_filter _ _
      rw [e]
    · exact b_nil fun σ H s => s.cast (.keep (.keep (.keep (.keep (.drop (.drop (.drop (.drop .nil)))))))) (by rw [hnext, List.map_append]; rfl)
  · rw [List.length_range]
    rw [List.take_of_length_le (by rw [stepL_len]; exact Nat.le_refl _)]
    refine b_frzD (k := 0) (i := 3) rfl rfl ?_
    exact b_end (ev_tupleL W (ev_le (ev_var 3) LP_D)) rfl
end
end Fr
set_option Elab.async false
set_option linter.all false
set_option maxRecDepth 100000
set_option maxHeartbeats 4000000
namespace Fr
open PySem PySem.Spec PySem.Calls L2
section
variable {P : Program} {w : World} {K : PySem.W.Frag} {mg : Str → Option Value} {base : Heap}
theorem range_at {n i v : Nat} (h : (List.range n)[i]? = some v) : i < n ∧ v = i := by
  have h1 := (List.getElem?_eq_some_iff.mp h).1
  have h1 : i < n := by simpa using h1
  rw [List.getElem?_range h1] at h
  exact ⟨h1, (Option.some.inj h).symm⟩
theorem runL_len {near : List (List Int)} {pic : List Int} : ∀ t, (runL near pic t).length = pic.length
  | 0 => rfl
  | t + 1 => by
    show (stepL near (runL near pic t)).length = _
    rw [stepL_len, runL_len t]
theorem Pf.run {near : List (List Int)} {pic : List Int} (h : Pf near pic) : ∀ t, Pf near (runL near pic t)
  | 0 => h
  | t + 1 => by
    have ih := Pf.run h t
    have l : (runL near pic (t + 1)).length = pic.length := runL_len (t + 1)
    refine ⟨by rw [l, h.nl], fun s hs => ?_, fun row hr w hw => by rw [l]; exact h.nb row hr w hw, by rw [l]; exact h.sz, h.rz⟩
    obtain ⟨v, _, rfl⟩ := List.mem_map.mp (show s ∈ stepL near (runL near pic t) from hs)
    exact nxt_st _ _
def shotsL (near : List (List Int)) (pic : List Int) (n : Nat) : List (List Int) := (List.range n).map (runL near pic)
def fsFilm (K : PySem.W.Frag) : FS (List (List Int) × List Int × Nat) := ⟨fun x => [D K (dN x.1), D K (dT x.2.1), I K (x.2.2 : Nat), D K (.list [])], fun x => Pf x.1 x.2.1 ∧ x.2.2 ≤ 1000, fun x => D K (dS (shotsL x.1 x.2.1 (x.2.2 + 1)))⟩
theorem ok_l_film {f : Addr} {fd : FuncData} (W : Bi mg) (G : Df P w K mg base "_law_step" 1 3 (fsStep K)) (Fn : Fun K "_law_film" "_law_film" s_l_film f fd) : FnOk P w K mg base CX0 2 f fd ["_law_near_here", "_law_picture_here", "_law_beats", "_law_pokes"] ((fsFilm K).sp 4) := by
  refine FS.ok (fsFilm K) Fn sc_l_film rfl fun cdv A outer s H E M y hr hp => ?_
  obtain ⟨near, pic, n⟩ := y
  have hp : Pf near pic ∧ n ≤ 1000 := hp
  obtain ⟨hp, hn⟩ := hp
  have nd := sc_l_film.nd
  refine b_own (i := 4) nd (en_lstD (ds := (shotsL near pic 1).map dT) (ea_cons (ev_tupleT W (ev_var 1)) ea_nil)) fun p => ?_
  refine b_for rfl PassesOwn.never (it_rng1 (n := n) W (ev_var 2) rfl (by omega))
    (fun i => [some (D K (dN near)), some (D K (dT pic)), some (I K (n : Nat)), some (D K (.list [])), some (Vl (.ref p)), none, none])
    (fun i => [(p, LO K ((shotsL near pic (i + 1)).map dT))])
    (fun i x => [some (D K (dN near)), some (D K (dT pic)), some (I K (n : Nat)), some (D K (.list [])), some (Vl (.ref p)), some (I K (x : Nat)), none]) [5] rfl
    (.keep (.keep (.keep (.keep (.keep (.drop (.drop .nil)))))))
    (fun gv gR i x h => tg_name (i := 5) nd) (fun gv gR i v h => ?_) ?_
  · obtain ⟨hv, rfl⟩ := range_at h
    refine b_appD (k := 0) (d := dT (stepL near (runL near pic v))) (ev_var 4) rfl (ev_callR (near, runL near pic v) G hr (ea_cons (ev_var 0) (ea_cons (ev_ixO (ev_var 4) (k := 0) rfl (ev_var 5) ?_) (ea_cons (ev_lc0 (own := [("_law_poke", 6)]) rfl nd (ev_var 3) (blkOk_by (N := N_l_film) (sc := defScope s_l_film) (by decide +kernel))) ea_nil))) (hp.run v)) ?_ ?_
    · have : ((shotsL near pic (v + 1)).map dT)[v]? = some (dT (runL near pic v)) := by
        unfold shotsL
        rw [List.getElem?_map, List.getElem?_map, List.getElem?_range (by omega)]; rfl
      refine atI_nat ?_
      rw [List.getElem?_map, this]; rfl
    · rw [List.length_map]; unfold shotsL; rw [List.length_map, List.length_range]; omega
    · refine b_nil fun σ H s => s.cast (.keep (.keep (.keep (.keep (.keep (.drop (.drop .nil))))))) ?_
      have e : shotsL near pic (v + 1 + 1) = shotsL near pic (v + 1) ++ [stepL near (runL near pic v)] := by
        unfold shotsL
        rw [List.range_succ, List.map_append]; rfl
      rw [e, List.map_append]; rfl
  · rw [List.length_range]
    refine b_frzD (k := 0) (i := 4) rfl rfl ?_
    exact b_endL (ev_var 4) rfl LP_D
def countL (shots : List (List Int)) (v : Nat) : Int := (((shots.drop 1).filter fun p => decide (p.getD v 0 = 1)).length : Nat)
def countsL (shots : List (List Int)) : List Int := (List.range ((shots.getD 0 []).length)).map (countL shots)
structure Even (shots : List (List Int)) (n : Nat) : Prop where
  ne : 0 < shots.length
  le : shots.length ≤ 50000
  al : ∀ p ∈ shots, p.length = n
  nz : n ≤ 1000
def fsCounts (K : PySem.W.Frag) : FS (List (List Int) × Nat) := ⟨fun x => [D K (dS x.1)], fun x => Even x.1 x.2, fun x => LP K ((countsL x.1).map .int)⟩
abbrev scC_counts : Scope := match defBody s_l_counts with
  | [.Return (some (.ListComp _ _ sc _)) _] => sc
  | _ => defScope s_l_counts
theorem ok_l_counts {f : Addr} {fd : FuncData} (W : Bi mg) (Fn : Fun K "_law_counts" "_law_counts" s_l_counts f fd) : FnOk P w K mg base CX0 1 f fd ["_law_shots"] ((fsCounts K).sp 1) := by
  refine FS.ok (fsCounts K) Fn sc_l_counts rfl fun cdv A outer s H E M y hr hp => ?_
  obtain ⟨shots, n⟩ := y
  have hp : Even shots n := hp
  have nd := sc_l_counts.nd
  have h0 : (shots.getD 0 []).length = n := hp.al _ (getD_mem' hp.ne)
  refine b_end (ev_newP (ds := (countsL shots).map .int) ?_) rfl
  have ec : (countsL shots).map PyData.int = (List.range n).map (fun v => PyData.int (countL shots v)) := by
    unfold countsL; rw [h0, List.map_map]; rfl
  rw [ec]
  refine en_lcM (own := [("_law_place", 1)]) (xs := List.range n) (it := fun i => I K (i : Nat)) (js := [1]) (Γt := fun i => [some (D K (dS shots)), some (I K (i : Nat)), none]) rfl nd (it_rng1 W (ev_lenT W (ev_ixL (ev_var 0) ev_int (atI_mapN (f := dT) (l := shots) (d := []) hp.ne))) (by rw [List.length_map, h0]) (by have := hp.nz; omega)) (blkOk_by (N := N_l_counts) (sc := defScope s_l_counts) (by decide +kernel))
    (LcH.all (fun _ _ _ _ _ _ _ _ _ x hx => tg_name (i := 1) nd) (fun _ _ _ _ _ _ _ _ _ x hx => ?_) (fun j h => h) (by rw [List.length_range]; have := hp.nz; omega))
  have hx : x < n := List.mem_range.mp hx
  refine ev_int_is (ev_lenL W (ev_newD (en_lcD (own := [("_law_picture_here", 2)]) (xs := shots.drop 1) (it := fun p => D K (dT p)) (g := dT) (pr := fun p => decide (p.getD x 0 = 1)) (js := [2]) (Γt := fun p => [some (D K (dS shots)), some (I K (x : Nat)), some (D K (dT p))]) rfl nd (it_mapL (ev_newD (en_fromM (n := 1) (ev_var 0) ev_int rfl ?_))) (blkOk_by (N := N_l_counts) (sc := relS scC_counts (defScope s_l_counts)) (by decide +kernel)) ⟨fun _ _ _ _ _ _ _ _ _ x hx => tg_name (i := 2) nd, fun _ _ _ _ _ _ _ _ _ q hq => ets_one (et_eq (ev_ixT (ev_var 2) (ev_var 1) (atI_mapN (d := 0) ?_)) ev_int), fun _ _ _ _ _ _ _ _ _ q hq _ => ev_var 2, fun j h => h, ?_⟩))) ?_
  · have := hp.le; omega
  · rw [hp.al _ (List.mem_of_mem_drop hq)]; exact hx
  · rw [List.length_drop]; have := hp.le; omega
  · rw [List.length_map]; rfl
end
end Fr
set_option Elab.async false
set_option linter.all false
set_option maxRecDepth 100000
set_option maxHeartbeats 4000000
namespace Fr
open PySem PySem.Spec PySem.Calls L2
section
variable {P : Program} {w : World} {K : PySem.W.Frag} {mg : Str → Option Value} {base : Heap}
def fsCell (K : PySem.W.Frag) : FS (List Int × Nat) := ⟨fun x => [D K (dL x.1), I K (x.2 : Nat)], fun x => x.2 < 100 ∧ x.1.length < 2 ^ 40, fun _ => Exi fun n : Int => I K n⟩
theorem ok_l_cell {f : Addr} {fd : FuncData} (W : Bi mg) (Fn : Fun K "_law_cell" "_law_cell" s_l_cell f fd) : FnOk P w K mg base CX0 1 f fd ["_law_script", "_law_k"] ((fsCell K).sp 2) := by
  refine FS.ok (fsCell K) Fn sc_l_cell rfl fun cdv A outer s H E M y hr hp => ?_
  obtain ⟨ns, k⟩ := y
  have hp : k < 100 ∧ ns.length < 2 ^ 40 := hp
  have nd := sc_l_cell.nd
  refine b_ifr (et_lt (ev_var 1) (ev_lenL W (ds := ns.map .int) (ev_var 0))) (fun hb => ?_) (fun hb => ?_)
  · have hk : k < ns.length := by
      have := of_decide_eq_true hb
      rw [List.length_map] at this
      omega
    exact b_endE (Q := fun n : Int => I K n) _ (ev_ixL (ev_var 0) (ev_var 1) (atI_mapN (f := PyData.int) (l := ns) (d := 0) hk)) rfl
  · refine b_set (i := 2) nd ev_int ?_
    refine b_forE rfl PassesOwn.never (it_mapL (xs := ns) (g := .int) (ev_var 0)) (fun _ (y : Int) => 0 ≤ y ∧ y < 1000003) (fun _ y => [some (D K (dL ns)), some (I K (k : Nat)), some (I K y), none]) (fun _ _ => []) (fun _ y x => [some (D K (dL ns)), some (I K (k : Nat)), some (I K y), some (I K x)]) [3]
      ⟨17, by decide, rfl, .keep (.keep (.keep (.drop .nil)))⟩ (fun gv gR i x y h c => tg_name (i := 3) nd) (fun gv gR i x y h c => ?_) (fun y c => ?_)
    · refine b_set (i := 2) nd (ev_mod (ev_intI W (ev_add (ev_mul (ev_var 2) ev_int (.inr ⟨by decide, by decide⟩)) (ev_mod (ev_intI W (ev_var 3)) ev_int (by decide)))) ev_int (by decide)) ?_
      exact b_nil fun σ H s => ⟨_, ⟨Int.emod_nonneg _ (by decide), Int.emod_lt_of_pos _ (by decide)⟩, s.cast (.keep (.keep (.keep (.drop .nil)))) rfl⟩
    · exact b_endE (Q := fun n : Int => I K n) _ (ev_mod (ev_intI W (ev_mul (ev_mul (ev_add (ev_var 2) ev_int) (ev_add (ev_var 1) ev_int) (.inr ⟨by omega, by omega⟩)) ev_int (.inr ⟨by decide, by decide⟩))) ev_int (by decide)) rfl
/-- drawn figures -/
def Dig (sizes r : List Int) : Prop := ∀ (i : Nat) (x : Int), r[i]? = some x → ∃ s, sizes[i]? = some s ∧ 0 ≤ x ∧ x < s
structure Sizes (sizes : List Int) : Prop where
  pos : ∀ s ∈ sizes, 0 < s ∧ s < 2 ^ 140
  len : sizes.length ≤ 1000
abbrev Digs (sizes : List Int) : Type := {r : List Int // r.length = sizes.length ∧ Dig sizes r}
def fsDigits (K : PySem.W.Frag) : FS (Int × List Int) := ⟨fun x => [I K x.1, D K (dL x.2)], fun x => Sizes x.2, fun x => Exi fun r : Digs x.2 => LP K (r.1.map .int)⟩
theorem dig_nil {sizes : List Int} : Dig sizes [] := fun i x h => by simp at h
theorem dig_app {sizes r : List Int} {n : Nat} {x s : Int} (h : Dig sizes r) (hl : r.length = n) (hs : sizes[n]? = some s) (h0 : 0 ≤ x) (h1 : x < s) : Dig sizes (r ++ [x]) := fun i y hy => by
  by_cases hi : i < r.length
  · rw [List.getElem?_append_left hi] at hy
    exact h i y hy
  · have hl2 := (List.getElem?_eq_some_iff.mp hy).1
    have e : i = r.length := by rw [List.length_append] at hl2; simp at hl2; omega
    subst e
    rw [List.getElem?_append_right (Nat.le_refl _)] at hy
    simp at hy
    subst hy
    exact ⟨s, by rw [hl]; exact hs, h0, h1⟩
theorem sizes_div {s : Int} (h : 0 < s ∧ s < 2 ^ 140) (i : Int) : CDivW i s := ⟨h.1, by
  have : s.natAbs < 2 ^ 140 := by omega
  have h0 : s.natAbs ≠ 0 := by omega
  have := (Nat.log2_lt h0).mpr this
  omega⟩
theorem ok_l_digits {f : Addr} {fd : FuncData} (W : Bi mg) (Fn : Fun K "_law_digits" "_law_digits" s_l_digits f fd) : FnOk P w K mg base CX0 1 f fd ["_law_cell_here", "_law_sizes"] ((fsDigits K).sp 2) := by
  refine FS.ok (fsDigits K) Fn sc_l_digits rfl fun cdv A outer s H E M y hr hp => ?_
  obtain ⟨n, sizes⟩ := y
  have hp : Sizes sizes := hp
  have nd := sc_l_digits.nd
  refine b_own (i := 2) nd (en_lstD (ds := []) ea_nil) fun p => ?_
  refine b_set (i := 3) nd (ev_intI W (ev_var 0)) ?_
  refine b_ifr (et_ge (ev_var 3) (ev_pow ev_int ev_int ⟨by decide, by decide, by decide⟩)) (fun hb => ?_) (fun hb => ?_)
  · refine b_set (i := 3) nd (ev_sub (ev_var 3) (ev_pow ev_int ev_int ⟨by decide, by decide, by decide⟩)) ?_
    refine b_forE rfl PassesOwn.never (it_mapL (xs := sizes) (g := .int) (ev_var 1)) (fun i (y : List Int × Int) => y.1.length = i ∧ Dig sizes y.1) (fun _ y => [some (I K n), some (D K (dL sizes)), some (Vl (.ref p)), some (I K y.2), none, none, none, none]) (fun _ y => [(p, LO K (y.1.map .int))]) (fun _ y x => [some (I K n), some (D K (dL sizes)), some (Vl (.ref p)), some (I K y.2), some (I K x), none, none, none]) [4]
      ⟨([], _), ⟨rfl, dig_nil⟩, rfl, .keep (.keep (.keep (.keep (.drop (.drop (.drop (.drop .nil)))))))⟩ (fun gv gR i x y h c => tg_name (i := 4) nd) (fun gv gR i x y h c => ?_) (fun y c => ?_)
    · obtain ⟨r, q⟩ := y
      obtain ⟨c1, c2⟩ := c
      have hx := hp.pos x (List.mem_of_getElem? h)
      have hi := (List.getElem?_eq_some_iff.mp h).1
      refine b_appD (k := 0) (ev_var 2) rfl (ev_mod (ev_intI W (ev_var 3)) (ev_var 4) hx.1) (by rw [List.length_map]; have := hp.len; omega) ?_
      refine b_set (i := 3) nd (ev_div (ev_intI W (ev_var 3)) (ev_var 4) (sizes_div hx _)) ?_
      exact b_nil fun σ H s => ⟨(r ++ [q % x], q / x), ⟨by simp [c1], dig_app c2 c1 h (Int.emod_nonneg _ (by omega)) (Int.emod_lt_of_pos _ hx.1)⟩, s.cast (.keep (.keep (.keep (.keep (.drop (.drop (.drop (.drop .nil)))))))) (by rw [List.map_append]; rfl)⟩
    · refine b_frzD (k := 0) (i := 2) rfl rfl ?_
      exact b_endE (Q := fun r : Digs sizes => LP K (r.1.map .int)) ⟨y.1, c⟩ (ev_var 2) rfl
  · refine b_set (i := 5) nd (ev_mod (ev_intI W (ev_var 3)) ev_int (by decide)) ?_
    refine b_forE rfl PassesOwn.never (it_rng1 (n := sizes.length) W (ev_lenL W (ds := sizes.map .int) (ev_var 1)) (by rw [List.length_map]) (by have := hp.len; omega)) (fun i (y : List Int × Int) => y.1.length = i ∧ Dig sizes y.1 ∧ 0 ≤ y.2 ∧ y.2 < 2147483647) (fun _ y => [some (I K n), some (D K (dL sizes)), some (Vl (.ref p)), some (I K n), none, some (I K y.2), none, none]) (fun _ y => [(p, LO K (y.1.map .int))]) (fun _ y x => [some (I K n), some (D K (dL sizes)), some (Vl (.ref p)), some (I K n), none, some (I K y.2), some (I K (x : Nat)), none]) [6]
      ⟨([], _), ⟨rfl, dig_nil, Int.emod_nonneg _ (by decide), Int.lt_trans (Int.emod_lt_of_pos _ (by decide)) (by decide)⟩, rfl, .keep (.keep (.keep (.keep (.keep (.keep (.drop (.drop .nil)))))))⟩ (fun gv gR i x y h c => tg_name (i := 6) nd) (fun gv gR i x y h c => ?_) (fun y c => ?_)
    · obtain ⟨r, q⟩ := y
      obtain ⟨c1, c2, c3, c4⟩ := c
      obtain ⟨hi, rfl⟩ := range_at h
      have c3 : 0 ≤ q := c3
      have c4 : q < 2147483647 := c4
      have hsz := getD_get (d := (0 : Int)) hi
      have hx := hp.pos _ (List.mem_of_getElem? hsz)
      refine b_set (i := 5) nd (ev_mod (ev_intI W (ev_add (ev_add (ev_mul (ev_var 5) ev_int (.inr ⟨by decide, by decide⟩)) (ev_mul ev_int (ev_var 6) (.inl ⟨by decide, by decide⟩))) ev_int)) ev_int (by decide)) ?_
      have g0 : ∀ z : Int, 0 ≤ z % 2147483647 ∧ z % 2147483647 < 2147483647 := fun z => ⟨Int.emod_nonneg _ (by decide), Int.emod_lt_of_pos _ (by decide)⟩
      have g := g0 (q * 48271 + 974711 * (x : Nat) + 12345)
      generalize hz : (q * 48271 + 974711 * (x : Nat) + 12345) % 2147483647 = z at g ⊢
      refine b_set (i := 7) nd (ev_mod (ev_intI W (ev_mul (ev_var 5) (ev_add (ev_div (ev_var 5) ev_int ⟨by decide, by decide⟩) ev_int) (.inl ⟨by omega, by omega⟩))) ev_int (by decide)) ?_
      refine b_appD (k := 0) (ev_var 2) rfl (ev_mod (ev_div (ev_var 7) ev_int ⟨by decide, by decide⟩) (ev_ixL (ev_var 1) (ev_var 6) (atI_mapN (f := PyData.int) (l := sizes) (d := 0) hi)) hx.1) (by rw [List.length_map]; have := hp.len; omega) ?_
      exact b_nil fun σ H s => ⟨(r ++ [_], z), ⟨by simp [c1], dig_app c2 c1 hsz (Int.emod_nonneg _ (by omega)) (Int.emod_lt_of_pos _ hx.1), g.1, g.2⟩, s.cast (.keep (.keep (.keep (.keep (.drop (.keep (.drop (.drop .nil)))))))) (by rw [List.map_append]; rfl)⟩
    · refine b_frzD (k := 0) (i := 2) rfl rfl ?_
      exact b_endE (Q := fun r : Digs sizes => LP K (r.1.map .int)) ⟨y.1, by rw [c.1, List.length_range], c.2.1⟩ (ev_var 2) rfl
end
end Fr
set_option Elab.async false
set_option linter.all false
set_option maxRecDepth 100000
set_option maxHeartbeats 4000000
namespace Fr
open PySem PySem.Spec PySem.Calls L2
section
variable {P : Program} {w : World} {K : PySem.W.Frag} {mg : Str → Option Value} {base : Heap}
/-- a pair of places -/
def dP (p : Nat × Nat) : PyData := .tuple [.int (p.1 : Nat), .int (p.2 : Nat)]
def dLs (ls : List (Nat × Nat)) : PyData := .list (ls.map dP)
structure LinesOk (n : Nat) (ls : List (Nat × Nat)) : Prop where
  lt : ∀ p ∈ ls, p.1 < p.2 ∧ p.2 < n
  le : ls.length ≤ 60
def webSizes : List Int := [12, 20, 6, 20, 6, 20, 6, 20, 6, 20, 6, 20, 6, 8, 8, 8, 8, 8, 8, 8]
theorem webSizes_ok : Sizes webSizes := ⟨by decide, by decide⟩
/-- pairs so far -/
def Tn (n : Nat) : Nat → Nat
  | 0 => 0
  | i + 1 => Tn n i + (n - (i + 1))
theorem Tn_le : ∀ n, n < 8 → ∀ x, x < 8 → Tn n x ≤ 42 := by decide
theorem Tn_end : ∀ n, n < 8 → Tn n n ≤ 21 := by decide
structure Drawn (most : Nat) (y : Nat × List (Nat × Nat)) : Prop where
  pos : 0 < y.1
  le : y.1 ≤ most
  ok : LinesOk y.1 y.2
  few : y.2.length ≤ 21
def dPi (p : Int × Int) : PyData := .tuple [.int p.1, .int p.2]
theorem shaped_dPi (l : List (Int × Int)) : SeqAt.shaped (.list (l.map dPi)) = true := shaped_map (n := 1) (fun _ => rfl) (fun _ => by simp [dPi, PyData.depth, PyData.depthAll]) (by decide) l
theorem web_even : ∀ x, x < 6 → webSizes[2 * (1 + x)]? = some 6 := by decide
theorem web_odd : ∀ x, x < 6 → webSizes[2 * (1 + x) - 1]? = some 20 := by decide
def fsWeb (K : PySem.W.Frag) : FS (Digs webSizes × Nat) := ⟨fun x => [D K (dL x.1.1), I K (x.2 : Nat)], fun x => 0 < x.2 ∧ x.2 ≤ 7, fun x => Exi fun y : {y : Nat × List (Nat × Nat) // Drawn x.2 y} => D K (.list [.int (y.1.1 : Nat), dLs y.1.2])⟩
theorem ok_l_web {f : Addr} {fd : FuncData} (W : Bi mg) (Fn : Fun K "_law_web" "_law_web" s_l_web f fd) : FnOk P w K mg base CX0 1 f fd ["_law_row_here", "_law_most"] ((fsWeb K).sp 2) := by
  refine FS.ok (fsWeb K) Fn sc_l_web rfl fun cdv A outer s H E M y hr hp => ?_
  obtain ⟨⟨r, hr1, hr2⟩, most⟩ := y
  have hp : 0 < most ∧ most ≤ 7 := hp
  have nd := sc_l_web.nd
  have hl : r.length = 20 := hr1
  -- the drawn figures
  have fig : ∀ i : Nat, i < 20 → ∃ s, webSizes[i]? = some s ∧ 0 ≤ r.getD i 0 ∧ r.getD i 0 < s := fun i hi => hr2 i _ (getD_get (by omega))
  have at_ : ∀ (k : Int) (i : Nat), k = i → i < 20 → atI (r.map PyData.int) k = some (.int (r.getD i 0)) := fun k i e hi => by
    subst e; exact atI_mapN (f := PyData.int) (l := r) (d := 0) (by omega)
  -- the size
  have h0 := fig 0 (by decide)
  obtain ⟨s0, e0, h00, h01⟩ := h0
  cases e0
  obtain ⟨z', hz', hz0'⟩ := at_pick (l := [5, 4, 6, 3, 5, 7, 4, 6, 2, 5, 1, 6]) (i := r.getD 0 0) (p := fun x => 0 < x) ⟨h00, h01⟩ (by decide)
  obtain ⟨z, rfl⟩ : ∃ z : Nat, z' = (z : Nat) := ⟨z'.toNat, by omega⟩
  have hz := hz'
  have hz0 : 0 < z := by omega
  refine b_set (i := 2) nd (ev_int_is (m := ((min most z : Nat) : Int)) (ev_min2 W rfl (ev_var 1) (ev_ixL (ev_lstD (ds := [5, 4, 6, 3, 5, 7, 4, 6, 2, 5, 1, 6].map PyData.int) (ea_cons ev_int (ea_cons ev_int (ea_cons ev_int (ea_cons ev_int (ea_cons ev_int (ea_cons ev_int (ea_cons ev_int (ea_cons ev_int (ea_cons ev_int (ea_cons ev_int (ea_cons ev_int (ea_cons ev_int ea_nil))))))))))))) (ev_ixL (ev_var 0) ev_int (at_ 0 0 rfl (by decide))) hz)) (by show (if ((z : Nat) : Int) < (most : Nat) then _ else _) = _; split <;> omega)) ?_
  have hn : 0 < min most z ∧ min most z ≤ most ∧ min most z ≤ 7 := by omega
  generalize min most z = n at hn ⊢
  refine b_own (i := 3) nd (en_lstD (ds := []) ea_nil) fun p => ?_
  have nx : (n : Int) - 1 = ((n - 1 : Nat) : Int) := by omega
  refine b_forE rfl PassesOwn.never (it_rng2 (n := n - 1) W ev_int (ev_var 2) (by omega) (by omega)) (fun i (y : List (Int × Int)) => y.length ≤ i) (fun _ y => [some (D K (dL r)), some (I K (most : Nat)), some (I K (n : Nat)), some (Vl (.ref p)), none, none, none, none, none]) (fun _ y => [(p, LO K (y.map dPi))]) (fun _ y x => [some (D K (dL r)), some (I K (most : Nat)), some (I K (n : Nat)), some (Vl (.ref p)), some (I K (1 + (x : Int))), none, none, none, none]) [4]
    ⟨[], Nat.le_refl _, rfl, .keep (.keep (.keep (.keep (.drop (.drop (.drop (.drop (.drop .nil))))))))⟩ (fun gv gR i x y h c => tg_name (i := 4) nd) (fun gv gR i x y h c => ?_) (fun y c => ?_)
  · obtain ⟨hx, rfl⟩ := range_at h
    have hx6 : x < 6 := by omega
    obtain ⟨s1, e1, g1, g2⟩ := fig (2 * (1 + x)) (by omega)
    rw [web_even x hx6] at e1
    cases e1
    obtain ⟨m, hm, _⟩ := at_pick (l := [1 + (x : Int) - 1, 1 + (x : Int) - 1, 1 + (x : Int) - 1, 0, (1 + (x : Int)) / 2, 0]) (i := r.getD (2 * (1 + x)) 0) (p := fun _ => True) ⟨g1, g2⟩ (fun _ _ => trivial)
    refine b_set (i := 5) nd (ev_ixL (ev_lstD (ds := [1 + (x : Int) - 1, 1 + (x : Int) - 1, 1 + (x : Int) - 1, 0, (1 + (x : Int)) / 2, 0].map PyData.int) (ea_cons (ev_sub (ev_var 4) ev_int) (ea_cons (ev_sub (ev_var 4) ev_int) (ea_cons (ev_sub (ev_var 4) ev_int) (ea_cons ev_int (ea_cons (ev_div (ev_var 4) ev_int ⟨by decide, by decide⟩) (ea_cons ev_int ea_nil))))))) (ev_ixL (ev_var 0) (ev_mul ev_int (ev_var 4) (.inl ⟨by decide, by decide⟩)) (at_ _ (2 * (1 + x)) (by omega) (by omega))) hm) ?_
    refine b_ifE (fun _ => True) (fun m => [some (D K (dL r)), some (I K (most : Nat)), some (I K (n : Nat)), some (Vl (.ref p)), some (I K (1 + (x : Int))), some (I K m), none, none, none]) (fun _ => [(p, LO K (y.map dPi))]) (et_lt (ev_ixL (ev_var 0) ev_int (at_ _ 13 rfl (by decide))) ev_int) (fun _ => b_set (i := 5) nd (ev_sub (ev_var 4) ev_int) ?_) (fun _ => b_nil fun σ H s => ⟨_, trivial, s⟩) fun m _ => ?_
    · exact b_nil fun σ H s => ⟨_, trivial, s⟩
    refine b_ifE (fun z : List (Int × Int) => z.length ≤ x + 1) (fun _ => [some (D K (dL r)), some (I K (most : Nat)), some (I K (n : Nat)), some (Vl (.ref p)), some (I K (1 + (x : Int))), some (I K m), none, none, none]) (fun z => [(p, LO K (z.map dPi))]) (et_lt (ev_ixL (ev_var 0) (ev_sub (ev_mul ev_int (ev_var 4) (.inl ⟨by decide, by decide⟩)) ev_int) (at_ _ (2 * (1 + x) - 1) (by omega) (by omega))) ev_int)
      (fun _ => b_appD (k := 0) (d := dPi (m, 1 + (x : Int))) (ev_var 3) rfl (ev_tupD (ea_cons (ev_var 5) (ea_cons (ev_var 4) ea_nil))) (by rw [List.length_map]; omega) ?_) (fun _ => b_nil fun σ H s => ⟨y, by omega, s⟩) fun z hz => ?_
    · exact b_nil fun σ H s => ⟨y ++ [(m, 1 + (x : Int))], by simp; exact c, s.cast (Le.refl _) (by rw [List.map_append]; rfl)⟩
    exact b_nil fun σ H s => ⟨z, hz, s.cast (.keep (.keep (.keep (.keep (.drop (.drop (.drop (.drop (.drop .nil))))))))) rfl⟩
  have c : y.length ≤ n - 1 := by have c' := c; rw [List.length_range] at c'; exact c'
  refine b_ifE (fun z : List (Int × Int) => z.length ≤ n) (fun _ => [some (D K (dL r)), some (I K (most : Nat)), some (I K (n : Nat)), some (Vl (.ref p)), none, none, none, none, none]) (fun z => [(p, LO K (z.map dPi))]) (et_w (ew_and (et_gt (ev_var 2) ev_int) fun _ => ew_and1 (et_lt (ev_ixL (ev_var 0) ev_int (at_ _ 13 rfl (by decide))) ev_int)))
    (fun _ => b_appD (k := 0) (d := dPi (0, (n : Int) - 1)) (ev_var 3) rfl (ev_tupD (ea_cons ev_int (ea_cons (ev_sub (ev_var 2) ev_int) ea_nil))) (by rw [List.length_map]; omega) ?_) (fun _ => b_nil fun σ H s => ⟨y, by omega, s⟩) fun y2 c2 => ?_
  · exact b_nil fun σ H s => ⟨y ++ [(0, (n : Int) - 1)], by simp; omega, s.cast (Le.refl _) (by rw [List.map_append]; rfl)⟩
  -- three more pairs
  refine b_forE rfl PassesOwn.never (it_rng1 (n := 3) W ev_int rfl (by decide)) (fun i (y : List (Int × Int)) => y.length ≤ n + i) (fun _ y => [some (D K (dL r)), some (I K (most : Nat)), some (I K (n : Nat)), some (Vl (.ref p)), none, none, none, none, none]) (fun _ y => [(p, LO K (y.map dPi))]) (fun _ y x => [some (D K (dL r)), some (I K (most : Nat)), some (I K (n : Nat)), some (Vl (.ref p)), some (I K (x : Nat)), none, none, none, none]) [4]
    ⟨y2, c2, rfl, Le.refl _⟩ (fun gv gR i x y h c => tg_name (i := 4) nd) (fun gv gR i x y h c => ?_) (fun y3 c3 => ?_)
  · obtain ⟨hx, rfl⟩ := range_at h
    have c : y.length ≤ n + x := c
    refine b_set (i := 6) nd (ev_mod (ev_ixL (ev_var 0) (ev_add ev_int (ev_mul ev_int (ev_var 4) (.inl ⟨by decide, by decide⟩))) (at_ _ (14 + 2 * x) (by omega) (by omega))) (ev_var 2) (by omega)) ?_
    refine b_set (i := 7) nd (ev_mod (ev_ixL (ev_var 0) (ev_add ev_int (ev_mul ev_int (ev_var 4) (.inl ⟨by decide, by decide⟩))) (at_ _ (15 + 2 * x) (by omega) (by omega))) (ev_var 2) (by omega)) ?_
    generalize r.getD (14 + 2 * x) 0 % (n : Nat) = a
    generalize r.getD (15 + 2 * x) 0 % (n : Nat) = b
    refine b_ifE (fun z : List (Int × Int) => z.length ≤ n + (x + 1)) (fun _ => [some (D K (dL r)), some (I K (most : Nat)), some (I K (n : Nat)), some (Vl (.ref p)), some (I K (x : Nat)), none, some (I K a), some (I K b), none]) (fun z => [(p, LO K (z.map dPi))]) (et_w (ew_and (et_lt (ev_var 6) (ev_var 7)) fun _ => ew_and1 (et_gt (ev_ixL (ev_var 0) (ev_add ev_int (ev_mul ev_int (ev_var 4) (.inl ⟨by decide, by decide⟩))) (at_ _ (15 + 2 * x) (by omega) (by omega))) ev_int)))
      (fun _ => b_appD (k := 0) (d := dPi (a, b)) (ev_var 3) rfl (ev_tupD (ea_cons (ev_var 6) (ea_cons (ev_var 7) ea_nil))) (by rw [List.length_map]; omega) ?_) (fun _ => b_nil fun σ H s => ⟨y, by omega, s⟩) fun z hz => ?_
    · exact b_nil fun σ H s => ⟨y ++ [(a, b)], by simp; omega, s.cast (Le.refl _) (by rw [List.map_append]; rfl)⟩
    · exact b_nil fun σ H s => ⟨z, hz, s.cast (.keep (.keep (.keep (.keep (.drop (.drop (.drop (.drop (.drop .nil))))))))) rfl⟩
  have c3 : y3.length ≤ n + 3 := c3
  -- the lines
  refine b_frzD (k := 0) (i := 3) rfl rfl ?_
  refine b_own (i := 8) nd (en_lstD (ds := []) ea_nil) fun q => ?_
  refine b_forE rfl PassesOwn.never (it_rng1 (n := n) W (ev_var 2) rfl (by omega)) (fun i (y : List (Nat × Nat)) => y.length ≤ Tn n i ∧ ∀ p ∈ y, p.1 < p.2 ∧ p.2 < n) (fun _ y => [some (D K (dL r)), some (I K (most : Nat)), some (I K (n : Nat)), some (LP K (y3.map dPi)), none, none, none, none, some (Vl (.ref q))]) (fun _ y => [(q, LO K (y.map dP))]) (fun _ y x => [some (D K (dL r)), some (I K (most : Nat)), some (I K (n : Nat)), some (LP K (y3.map dPi)), none, none, some (I K (x : Nat)), none, some (Vl (.ref q))]) [6]
    ⟨[], ⟨Nat.zero_le _, fun p h => by cases h⟩, rfl, Le.refl _⟩ (fun gv gR i x y h c => tg_name (i := 6) nd) (fun gv gR i x y h c => ?_) (fun y4 c4 => ?_)
  · obtain ⟨hx, rfl⟩ := range_at h
    obtain ⟨c, cc⟩ := c
    have hxn := Tn_le n (by omega) x (by omega)
    refine b_forE rfl PassesOwn.never (it_rng2 (n := n - (x + 1)) W (ev_add (ev_var 6) ev_int) (ev_var 2) (by omega) (by omega)) (fun i (y : List (Nat × Nat)) => y.length ≤ Tn n x + i ∧ ∀ p ∈ y, p.1 < p.2 ∧ p.2 < n) (fun _ y => [some (D K (dL r)), some (I K (most : Nat)), some (I K (n : Nat)), some (LP K (y3.map dPi)), none, none, some (I K (x : Nat)), none, some (Vl (.ref q))]) (fun _ y => [(q, LO K (y.map dP))]) (fun _ y z => [some (D K (dL r)), some (I K (most : Nat)), some (I K (n : Nat)), some (LP K (y3.map dPi)), none, none, some (I K (x : Nat)), some (I K ((x + 1 + z : Nat))), some (Vl (.ref q))]) [7]
      ⟨y, ⟨c, cc⟩, rfl, Le.refl _⟩ (fun gv gR i z y h c => ?_) (fun gv gR i z y h c => ?_) (fun y5 c5 => ?_)
    · have e : ((x + 1 + z : Nat) : Int) = (x : Nat) + 1 + (z : Nat) := by omega
      rw [e]
      exact tg_name (i := 7) nd
    · obtain ⟨hz, rfl⟩ := range_at h
      obtain ⟨c, cc⟩ := c
      refine b_ifE (fun w : List (Nat × Nat) => w.length ≤ Tn n x + (z + 1) ∧ ∀ p ∈ w, p.1 < p.2 ∧ p.2 < n) (fun _ => [some (D K (dL r)), some (I K (most : Nat)), some (I K (n : Nat)), some (LP K (y3.map dPi)), none, none, some (I K (x : Nat)), some (I K ((x + 1 + z : Nat))), some (Vl (.ref q))]) (fun w => [(q, LO K (w.map dP))]) (et_inD (room65 hr) (d := dP (x, x + 1 + z)) (ds := y3.map dPi) (ev_tupD (ea_cons (ev_var 6) (ea_cons (ev_var 7) ea_nil))) (ev_le (ev_var 3) LP_D) rfl (shaped_dPi _))
        (fun _ => b_appD (k := 0) (d := dP (x, x + 1 + z)) (ev_var 8) rfl (ev_tupD (ea_cons (ev_var 6) (ea_cons (ev_var 7) ea_nil))) (by rw [List.length_map]; omega) ?_) (fun _ => b_nil fun σ H s => ⟨y, ⟨by omega, cc⟩, s⟩) fun w hw => ?_
      · exact b_nil fun σ H s => ⟨y ++ [(x, x + 1 + z)], ⟨by simp; omega, fun p hp => by
          rcases List.mem_append.mp hp with h | h
          · exact cc p h
          · rw [List.mem_singleton.mp h]
            exact ⟨by show x < x + 1 + z; omega, by show x + 1 + z < n; omega⟩⟩, s.cast (Le.refl _) (by rw [List.map_append]; rfl)⟩
      · exact b_nil fun σ H s => ⟨w, hw, s.cast (.keep (.keep (.keep (.keep (.keep (.keep (.keep (.drop (.keep .nil))))))))) rfl⟩
    · exact b_nil fun σ H s => ⟨y5, ⟨by
        have := c5.1
        rw [List.length_range] at this
        exact this, c5.2⟩, s.cast (.keep (.keep (.keep (.keep (.keep (.keep (.drop (.drop (.keep .nil))))))))) rfl⟩
  · refine b_frzD (k := 0) (i := 8) rfl rfl ?_
    have c4' : y4.length ≤ 21 := by
      have := c4.1
      rw [List.length_range] at this
      exact Nat.le_trans this (Tn_end n (by omega))
    exact b_endE (Q := fun y : {y : Nat × List (Nat × Nat) // Drawn most y} => D K (.list [.int (y.1.1 : Nat), dLs y.1.2])) ⟨(n, y4), hn.1, hn.2.1, ⟨c4.2, by show y4.length ≤ 60; omega⟩, c4'⟩ (ev_lstD (ea_cons (ev_var 2) (ea_cons (ev_le (ev_var 8) LP_D) ea_nil))) rfl
end
end Fr
set_option Elab.async false
set_option linter.all false
set_option maxRecDepth 100000
set_option maxHeartbeats 4000000
namespace Fr
open PySem PySem.Spec PySem.Calls L2
section
variable {P : Program} {w : World} {K : PySem.W.Frag} {mg : Str → Option Value} {base : Heap}
theorem dT_map {α : Type} (xs : List α) (f : α → Int) : dT (xs.map f) = .tuple (xs.map fun k => .int (f k)) := by
  unfold dT; rw [List.map_map]; rfl
theorem dL_map {α : Type} (xs : List α) (f : α → Int) : dL (xs.map f) = .list (xs.map fun k => .int (f k)) := by
  unfold dL; rw [List.map_map]; rfl
def picSizes : List Int := [10, 3, 3, 3, 3, 3, 3, 3, 3]
theorem picSizes_ok : Sizes picSizes := ⟨by decide, by decide⟩
structure PicOk (n : Nat) (pic : List Int) : Prop where
  len : pic.length = n
  st : ∀ s ∈ pic, s = 0 ∨ s = 1 ∨ s = 2
theorem picOk_map {n : Nat} {f : Nat → Int} (h : ∀ k, k < n → f k = 0 ∨ f k = 1 ∨ f k = 2) : PicOk n ((List.range n).map f) := ⟨by simp, fun s hs => by
  obtain ⟨k, hk, rfl⟩ := List.mem_map.mp hs
  exact h k (List.mem_range.mp hk)⟩
def fsPicture (K : PySem.W.Frag) : FS (Digs picSizes × Nat) := ⟨fun x => [D K (dL x.1.1), I K (x.2 : Nat)], fun x => x.2 ≤ 7, fun x => Exi fun y : {y : List Int // PicOk x.2 y} => D K (dT y.1)⟩
theorem pic_fig0 : ∀ i, i < 8 → picSizes[i + 1]? = some 3 := by decide
theorem pic_fig (i : Nat) (h : 0 < i) (h2 : i < 9) : picSizes[i]? = some 3 := by
  have := pic_fig0 (i - 1) (by omega)
  rwa [Nat.sub_add_cancel h] at this
theorem ok_l_picture {f : Addr} {fd : FuncData} (W : Bi mg) (Fn : Fun K "_law_picture" "_law_picture" s_l_picture f fd) : FnOk P w K mg base CX0 1 f fd ["_law_row_here", "_law_size"] ((fsPicture K).sp 2) := by
  refine FS.ok (fsPicture K) Fn sc_l_picture rfl fun cdv A outer s H E M y hr hp => ?_
  obtain ⟨⟨r, hr1, hr2⟩, n⟩ := y
  have hp : n ≤ 7 := hp
  have nd := sc_l_picture.nd
  have hl : r.length = 9 := hr1
  have fig : ∀ i : Nat, i < 9 → ∃ s, picSizes[i]? = some s ∧ 0 ≤ r.getD i 0 ∧ r.getD i 0 < s := fun i hi => hr2 i _ (getD_get (by omega))
  have at_ : ∀ (k : Int) (i : Nat), k = i → i < 9 → atI (r.map PyData.int) k = some (.int (r.getD i 0)) := fun k i e hi => by
    subst e; exact atI_mapN (f := PyData.int) (l := r) (d := 0) (by omega)
  refine b_ifr (et_w (ew_and (et_ge (ev_ixL (ev_var 0) ev_int (at_ _ 0 rfl (by decide))) ev_int) fun _ => ew_and1 (et_le (ev_ixL (ev_var 0) ev_int (at_ _ 0 rfl (by decide))) ev_int))) (fun hb => ?_) (fun hb => ?_)
  · refine b_endE (Q := fun y : {y : List Int // PicOk n y} => D K (dT y.1)) ⟨(List.range n).map fun k : Nat => ((k : Int) + r.getD 1 0) % 3, picOk_map fun k _ => by omega⟩ ?_ rfl
    show EV _ _ _ _ _ (D K (dT ((List.range n).map fun k : Nat => ((k : Int) + r.getD 1 0) % 3)))
    rw [dT_map]
    exact ev_tupleL W (ev_newD (en_lcM (own := [("_law_k", 2)]) (xs := List.range n) (it := fun i => I K (i : Nat)) (js := [2]) (Γt := fun i => [some (D K (dL r)), some (I K (n : Nat)), some (I K (i : Nat))]) rfl nd (it_rng1 W (ev_var 1) rfl (by omega)) (blkOk_by (N := N_l_picture) (sc := defScope s_l_picture) (by decide +kernel))
      (LcH.all (fun _ _ _ _ _ _ _ _ _ x hx => tg_name (i := 2) nd) (fun _ _ _ _ _ _ _ _ _ x hx => ev_mod (ev_intI W (ev_add (ev_var 2) (ev_ixL (ev_var 0) ev_int (at_ _ 1 rfl (by decide))))) ev_int (by decide)) (fun j h => h) (by rw [List.length_range]; omega))))
  refine b_ifr (et_eq (ev_ixL (ev_var 0) ev_int (at_ _ 0 rfl (by decide))) ev_int) (fun hb => ?_) (fun hb => ?_)
  · refine b_endE (Q := fun y : {y : List Int // PicOk n y} => D K (dT y.1)) ⟨(List.range n).map fun k : Nat => ((k : Int) + r.getD 1 0) % 3 * (if (!decide ((k : Int) = r.getD 2 0 + 1)) = true then 1 else 0), picOk_map fun k _ => by split <;> omega⟩ ?_ rfl
    show EV _ _ _ _ _ (D K (dT ((List.range n).map fun k : Nat => ((k : Int) + r.getD 1 0) % 3 * (if (!decide ((k : Int) = r.getD 2 0 + 1)) = true then 1 else 0))))
    rw [dT_map]
    exact ev_tupleL W (ev_newD (en_lcM (own := [("_law_k", 2)]) (xs := List.range n) (it := fun i => I K (i : Nat)) (js := [2]) (Γt := fun i => [some (D K (dL r)), some (I K (n : Nat)), some (I K (i : Nat))]) rfl nd (it_rng1 W (ev_var 1) rfl (by omega)) (blkOk_by (N := N_l_picture) (sc := defScope s_l_picture) (by decide +kernel))
      (LcH.all (fun _ _ _ _ _ _ _ _ _ x hx => tg_name (i := 2) nd) (fun _ _ _ _ _ _ _ _ _ x hx => ev_mul (ev_mod (ev_intI W (ev_add (ev_var 2) (ev_ixL (ev_var 0) ev_int (at_ _ 1 rfl (by decide))))) ev_int (by decide)) (ev_intB W (ev_ne (ev_var 2) (ev_add (ev_ixL (ev_var 0) ev_int (at_ _ 2 rfl (by decide))) ev_int))) (.inr (by split <;> decide))) (fun j h => h) (by rw [List.length_range]; omega))))
  refine b_ifr (et_eq (ev_ixL (ev_var 0) ev_int (at_ _ 0 rfl (by decide))) ev_int) (fun hb => ?_) (fun hb => ?_)
  · refine b_endE (Q := fun y : {y : List Int // PicOk n y} => D K (dT y.1)) ⟨(List.range n).map fun k : Nat => (if (decide ((k : Int) = r.getD 1 0)) = true then 1 else 0), picOk_map fun k _ => by split <;> omega⟩ ?_ rfl
    show EV _ _ _ _ _ (D K (dT ((List.range n).map fun k : Nat => (if (decide ((k : Int) = r.getD 1 0)) = true then 1 else 0))))
    rw [dT_map]
    exact ev_tupleL W (ev_newD (en_lcM (own := [("_law_k", 2)]) (xs := List.range n) (it := fun i => I K (i : Nat)) (js := [2]) (Γt := fun i => [some (D K (dL r)), some (I K (n : Nat)), some (I K (i : Nat))]) rfl nd (it_rng1 W (ev_var 1) rfl (by omega)) (blkOk_by (N := N_l_picture) (sc := defScope s_l_picture) (by decide +kernel))
      (LcH.all (fun _ _ _ _ _ _ _ _ _ x hx => tg_name (i := 2) nd) (fun _ _ _ _ _ _ _ _ _ x hx => ev_intB W (ev_eq (ev_var 2) (ev_ixL (ev_var 0) ev_int (at_ _ 1 rfl (by decide))))) (fun j h => h) (by rw [List.length_range]; omega))))
  · refine b_endE (Q := fun y : {y : List Int // PicOk n y} => D K (dT y.1)) ⟨(List.range n).map fun k : Nat => r.getD (2 + k) 0, picOk_map fun k hk => by
      obtain ⟨s, e, g1, g2⟩ := fig (2 + k) (by omega)
      rw [pic_fig (2 + k) (by omega) (by omega)] at e
      cases e
      omega⟩ ?_ rfl
    show EV _ _ _ _ _ (D K (dT ((List.range n).map fun k : Nat => r.getD (2 + k) 0)))
    rw [dT_map]
    exact ev_tupleL W (ev_newD (en_lcM (own := [("_law_k", 2)]) (xs := List.range n) (it := fun i => I K (i : Nat)) (js := [2]) (Γt := fun i => [some (D K (dL r)), some (I K (n : Nat)), some (I K (i : Nat))]) rfl nd (it_rng1 W (ev_var 1) rfl (by omega)) (blkOk_by (N := N_l_picture) (sc := defScope s_l_picture) (by decide +kernel))
      (LcH.all (fun _ _ _ _ _ _ _ _ _ x hx => tg_name (i := 2) nd) (fun _ _ _ _ _ _ _ _ _ x hx => ev_ixL (ev_var 0) (ev_add ev_int (ev_var 2)) (at_ _ (2 + x) (by omega) (by have := List.mem_range.mp hx; omega))) (fun j h => h) (by rw [List.length_range]; omega))))
/-! the scene -/
structure SceneOk (most : Nat) (y : (Nat × List (Nat × Nat)) × List Int) : Prop where
  dr : Drawn most y.1
  pc : PicOk y.1.1 y.2
def dSc (y : (Nat × List (Nat × Nat)) × List Int) : PyData := .list [.int (y.1.1 : Nat), dLs y.1.2, dT y.2]
def fsScene (K : PySem.W.Frag) : FS (List Int × Nat × Nat) := ⟨fun x => [D K (dL x.1), I K (x.2.1 : Nat), I K (x.2.2 : Nat)], fun x => x.1.length < 2 ^ 40 ∧ x.2.1 < 50 ∧ 0 < x.2.2 ∧ x.2.2 ≤ 7, fun x => Exi fun y : {y : (Nat × List (Nat × Nat)) × List Int // SceneOk x.2.2 y} => D K (dSc y.1)⟩
theorem ok_l_scene {f : Addr} {fd : FuncData} (W : Bi mg) (Gc : Df P w K mg base "_law_cell" 1 2 (fsCell K)) (Gd : Df P w K mg base "_law_digits" 1 2 (fsDigits K)) (Gw : Df P w K mg base "_law_web" 1 2 (fsWeb K)) (Gp : Df P w K mg base "_law_picture" 1 2 (fsPicture K))
    (Fn : Fun K "_law_scene" "_law_scene" s_l_scene f fd) : FnOk P w K mg base CX0 2 f fd ["_law_script", "_law_at", "_law_most"] ((fsScene K).sp 3) := by
  refine FS.ok (fsScene K) Fn sc_l_scene rfl fun cdv A outer s H E M y hr hp => ?_
  obtain ⟨ns, i, most⟩ := y
  have hp : ns.length < 2 ^ 40 ∧ i < 50 ∧ 0 < most ∧ most ≤ 7 := hp
  have nd := sc_l_scene.nd
  refine b_setE (i := 3) (Q := fun y : {y : Nat × List (Nat × Nat) // Drawn most y} => D K (.list [.int (y.1.1 : Nat), dLs y.1.2])) nd (ev_call (As := [Exi fun r : Digs webSizes => LP K (r.1.map .int), I K (most : Nat)]) Gw hr (ea_cons (ev_call (As := [Exi fun n : Int => I K n, D K (dL webSizes)]) Gd hr (ea_cons (ev_callR (ns, i) Gc hr (ea_cons (ev_var 0) (ea_cons (ev_var 1) ea_nil)) ⟨by omega, hp.1⟩) (ea_cons ?_ ea_nil)) ⟨rfl, ?_⟩) (ea_cons (ev_var 2) ea_nil)) ⟨rfl, ?_⟩) ?_
  · exact ev_newD (ds := webSizes.map PyData.int) (en_cat (Rs := (webSizes.take 14).map fun n => I K n) (Ss := (webSizes.drop 14).map fun n => I K n) (ev_new (en_cat (Rs := (webSizes.take 13).map fun n => I K n) (Ss := [I K 8]) (ev_new (en_cat (Rs := [I K 12]) (Ss := ((webSizes.take 13).drop 1).map fun n => I K n) (ev_new (en_lst (ea_cons ev_int ea_nil) (Nat.le_of_ble_eq_true rfl))) (ev_new (en_rep (n := 6) (Rs := [I K 20, I K 6]) (ev_new (en_lst (ea_cons ev_int (ea_cons ev_int ea_nil)) (Nat.le_of_ble_eq_true rfl))) ev_int rfl (Nat.le_of_ble_eq_true rfl) (by decide))) (Nat.le_of_ble_eq_true rfl))) (ev_new (en_lst (ea_cons ev_int ea_nil) (Nat.le_of_ble_eq_true rfl))) (Nat.le_of_ble_eq_true rfl))) (ev_new (en_rep (n := 3) (Rs := [I K 8, I K 8]) (ev_new (en_lst (ea_cons ev_int (ea_cons ev_int ea_nil)) (Nat.le_of_ble_eq_true rfl))) ev_int rfl (Nat.le_of_ble_eq_true rfl) (by decide))) (Nat.le_of_ble_eq_true rfl))
  · intro G vs ha
    obtain ⟨v, w, rfl, ⟨n, h1⟩, h2⟩ := ha.two
    exact ⟨(n, webSizes), ⟨h1, h2, trivial⟩, webSizes_ok, fun _ _ z => z⟩
  · intro G vs ha
    obtain ⟨v, w, rfl, ⟨r, h1⟩, h2⟩ := ha.two
    exact ⟨(r, most), ⟨LP_D _ _ h1, h2, trivial⟩, hp.2.2, fun _ _ z => z⟩
  intro ⟨⟨n, ls⟩, dr⟩
  refine b_setE (i := 4) (Q := fun y : {y : List Int // PicOk n y} => D K (dT y.1)) nd (ev_call (As := [Exi fun r : Digs picSizes => LP K (r.1.map .int), I K (n : Nat)]) Gp hr (ea_cons (ev_call (As := [Exi fun n : Int => I K n, D K (dL picSizes)]) Gd hr (ea_cons (ev_callR (ns, i + 1) Gc hr (ea_cons (ev_var 0) (ea_cons (ev_int_is (ev_add (ev_var 1) ev_int) (show ((i : Nat) : Int) + 1 = ((i + 1 : Nat) : Int) from by omega)) ea_nil)) ⟨by omega, hp.1⟩) (ea_cons ?_ ea_nil)) ⟨rfl, ?_⟩) (ea_cons (ev_ixL (ds := [.int (n : Nat), dLs ls]) (ev_var 3) ev_int rfl) ea_nil)) ⟨rfl, ?_⟩) ?_
  · exact ev_newD (ds := picSizes.map PyData.int) (en_cat (Rs := [I K 10, I K 3]) (Ss := (picSizes.drop 2).map fun n => I K n) (ev_new (en_lst (ea_cons ev_int (ea_cons ev_int ea_nil)) (Nat.le_of_ble_eq_true rfl))) (ev_new (en_rep (n := 7) (Rs := [I K 3]) (ev_new (en_lst (ea_cons ev_int ea_nil) (Nat.le_of_ble_eq_true rfl))) ev_int rfl (Nat.le_of_ble_eq_true rfl) (by decide))) (Nat.le_of_ble_eq_true rfl))
  · intro G vs ha
    obtain ⟨v, w, rfl, ⟨n, h1⟩, h2⟩ := ha.two
    exact ⟨(n, picSizes), ⟨h1, h2, trivial⟩, picSizes_ok, fun _ _ z => z⟩
  · intro G vs ha
    obtain ⟨v, w, rfl, ⟨r, h1⟩, h2⟩ := ha.two
    exact ⟨(r, n), ⟨LP_D _ _ h1, h2, trivial⟩, Nat.le_trans dr.le hp.2.2.2, fun _ _ z => z⟩
  intro ⟨pic, hpic⟩
  exact b_endE (Q := fun y : {y : (Nat × List (Nat × Nat)) × List Int // SceneOk most y} => D K (dSc y.1)) ⟨((n, ls), pic), dr, hpic⟩ (ev_lstD (ea_cons (ev_ixL (ds := [.int (n : Nat), dLs ls]) (ev_var 3) ev_int rfl) (ea_cons (ev_ixL (ds := [.int (n : Nat), dLs ls]) (ev_var 3) ev_int rfl) (ea_cons (ev_var 4) ea_nil)))) rfl
end
end Fr
set_option Elab.async false
set_option linter.all false
set_option maxRecDepth 100000
set_option maxHeartbeats 4000000
namespace Fr
open PySem PySem.Spec PySem.Calls L2
section
variable {P : Program} {w : World} {K : PySem.W.Frag} {mg : Str → Option Value} {base : Heap}
theorem getD_set {α : Type} {l : List α} {i j : Nat} {x d : α} (h : i < l.length) : (l.set i x).getD j d = if i = j then x else l.getD j d := by
  rw [List.getD_eq_getElem?_getD, List.getD_eq_getElem?_getD, List.getElem?_set]
  by_cases e : i = j
  · rw [if_pos e, if_pos e, if_pos (e ▸ h)]; rfl
  · rw [if_neg e, if_neg e]
/-- rows of neighbours, out of the lines -/
structure NearOf (n : Nat) (ls : List (Nat × Nat)) (cs : List (List Int)) : Prop where
  len : cs.length = n
  mem : ∀ (v : Nat) (w : Int), w ∈ cs.getD v [] ↔ ∃ u : Nat, w = (u : Nat) ∧ ((v, u) ∈ ls ∨ (u, v) ∈ ls)
  sz : ∀ row ∈ cs, row.length ≤ 2 * ls.length
def addL (cs : List (List Int)) (a b : Nat) : List (List Int) := cs.set a (cs.getD a [] ++ [(b : Int)])
theorem nearOf_nil {n : Nat} : NearOf n [] (List.replicate n []) := by
  refine ⟨by simp, fun v w => ?_, fun row h => ?_⟩
  · constructor
    · intro h
      exfalso
      rw [List.getD_eq_getElem?_getD, List.getElem?_replicate] at h
      split at h <;> simp at h
    · rintro ⟨u, _, h⟩
      simp at h
  · rw [(List.mem_replicate.mp h).2]; simp
theorem nearOf_add {n : Nat} {ls : List (Nat × Nat)} {cs : List (List Int)} {a b : Nat} (h : NearOf n ls cs) (ha : a < n) (hb : b < n) (hab : a ≠ b) : NearOf n (ls ++ [(a, b)]) (addL (addL cs a b) b a) := by
  have l1 : (addL cs a b).length = n := by unfold addL; rw [List.length_set, h.len]
  have g1 : ∀ j, (addL cs a b).getD j [] = if a = j then cs.getD a [] ++ [(b : Int)] else cs.getD j [] := fun j => getD_set (by rw [h.len]; exact ha)
  have g2 : ∀ j, (addL (addL cs a b) b a).getD j [] = if b = j then cs.getD b [] ++ [(a : Int)] else if a = j then cs.getD a [] ++ [(b : Int)] else cs.getD j [] := fun j => by
    unfold addL
    rw [getD_set (by rw [List.length_set, h.len]; exact hb)]
    have := g1 b
    unfold addL at this
    rw [this, if_neg hab]
    have := g1 j
    unfold addL at this
    rw [this]
  refine ⟨by unfold addL; rw [List.length_set, List.length_set, h.len], fun v w => ?_, fun row hr => ?_⟩
  · rw [g2]
    by_cases e1 : b = v
    · subst e1
      rw [if_pos rfl, List.mem_append, h.mem]
      constructor
      · rintro (⟨u, e, k⟩ | e)
        · exact ⟨u, e, by rcases k with k | k <;> simp [k]⟩
        · exact ⟨a, by simpa using e, by simp⟩
      · rintro ⟨u, e, k⟩
        rcases k with k | k
        · rcases List.mem_append.mp k with k | k
          · exact .inl ⟨u, e, .inl k⟩
          · have : b = a ∧ u = b := by simpa using k
            exact absurd this.1.symm hab
        · rcases List.mem_append.mp k with k | k
          · exact .inl ⟨u, e, .inr k⟩
          · have : u = a := by simpa using k
            subst this
            exact .inr (by simp [e])
    · rw [if_neg e1]
      by_cases e2 : a = v
      · subst e2
        rw [if_pos rfl, List.mem_append, h.mem]
        constructor
        · rintro (⟨u, e, k⟩ | e)
          · exact ⟨u, e, by rcases k with k | k <;> simp [k]⟩
          · exact ⟨b, by simpa using e, by simp⟩
        · rintro ⟨u, e, k⟩
          rcases k with k | k
          · rcases List.mem_append.mp k with k | k
            · exact .inl ⟨u, e, .inl k⟩
            · have : u = b := by simpa using k
              subst this
              exact .inr (by simp [e])
          · rcases List.mem_append.mp k with k | k
            · exact .inl ⟨u, e, .inr k⟩
            · have : u = a ∧ a = b := by simpa using k
              exact absurd this.2 hab
      · rw [if_neg e2, h.mem]
        constructor
        · rintro ⟨u, e, k⟩
          exact ⟨u, e, by rcases k with k | k <;> simp [k]⟩
        · rintro ⟨u, e, k⟩
          refine ⟨u, e, ?_⟩
          rcases k with k | k
          · rcases List.mem_append.mp k with k | k
            · exact .inl k
            · have : v = a ∧ u = b := by simpa using k
              exact absurd this.1.symm e2
          · rcases List.mem_append.mp k with k | k
            · exact .inr k
            · have : u = a ∧ v = b := by simpa using k
              exact absurd this.2.symm e1
  · rw [List.length_append]
    obtain ⟨j, hj⟩ := List.mem_iff_getElem?.mp hr
    have hjl := (List.getElem?_eq_some_iff.mp hj).1
    have hj2 : row = (addL (addL cs a b) b a).getD j [] := by rw [List.getD_eq_getElem?_getD, hj]; rfl
    have old : ∀ j, (cs.getD j []).length ≤ 2 * ls.length := fun j => by
      by_cases hj : j < cs.length
      · exact h.sz _ (getD_mem' hj)
      · rw [List.getD_eq_getElem?_getD, List.getElem?_eq_none (by omega)]; simp
    rw [hj2, g2]
    have o1 := old a
    have o2 := old b
    have o3 := old j
    split
    · simp only [List.length_append, List.length_cons, List.length_nil]; omega
    · split
      · simp only [List.length_append, List.length_cons, List.length_nil]; omega
      · simp only [List.length_cons, List.length_nil]; omega
theorem nearOf_srt {n : Nat} {ls : List (Nat × Nat)} {cs : List (List Int)} (h : NearOf n ls cs) : NearOf n ls (cs.map srt) := by
  refine ⟨by rw [List.length_map, h.len], fun v w => ?_, fun row hr => ?_⟩
  · have e : (cs.map srt).getD v [] = srt (cs.getD v []) := by
      rw [List.getD_eq_getElem?_getD, List.getElem?_map, List.getD_eq_getElem?_getD]
      cases cs[v]? with
      | none => show [] = srt []; simp [srt]
      | some c => rfl
    rw [e, srt_mem, h.mem]
  · obtain ⟨c, hc, rfl⟩ := List.mem_map.mp hr
    rw [srt_len]
    exact h.sz c hc
def cI (cs : List (List Int)) : List (List PyData) := cs.map fun c => c.map .int
theorem cI_get {cs : List (List Int)} {k : Nat} (h : k < cs.length) : (cI cs)[k]? = some ((cs.getD k []).map .int) := by
  unfold cI
  rw [List.getElem?_map, getD_get (d := []) h]; rfl
theorem cI_add {cs : List (List Int)} {a b : Nat} : (cI cs).set a (((cs.getD a []).map .int) ++ [.int (b : Int)]) = cI (addL cs a b) := by
  unfold cI addL
  rw [List.map_set, List.map_append]; rfl
theorem take_snoc {α : Type} {l : List α} {i : Nat} {x : α} (h : l[i]? = some x) : l.take (i + 1) = l.take i ++ [x] := by
  rw [List.take_add_one, h]; rfl
def fsNear (K : PySem.W.Frag) : FS (Nat × List (Nat × Nat)) := ⟨fun x => [I K (x.1 : Nat), D K (dLs x.2)], fun x => LinesOk x.1 x.2 ∧ x.1 ≤ 100, fun x => Exi fun cs : {cs : List (List Int) // NearOf x.1 x.2 cs} => D K (dN cs.1)⟩
theorem ok_l_near {f : Addr} {fd : FuncData} (W : Bi mg) (Fn : Fun K "_law_near" "_law_near" s_l_near f fd) : FnOk P w K mg base CX0 1 f fd ["_law_size", "_law_lines"] ((fsNear K).sp 2) := by
  refine FS.ok (fsNear K) Fn sc_l_near rfl fun cdv A outer s H E M y hr hp => ?_
  obtain ⟨n, ls⟩ := y
  have hp : LinesOk n ls ∧ n ≤ 100 := hp
  have nd := sc_l_near.nd
  have hls : ls.length ≤ 10000 := Nat.le_trans hp.1.le (by decide)
  refine b_ownLcF (i := 2) (O := fun _ => LOR []) (own := [("_law_k", 4)]) (xs := List.range n) (it := fun i => I K (i : Nat)) (js := [4]) (Γt := fun i => [some (I K (n : Nat)), some (D K (dLs ls)), none, none, some (I K (i : Nat)), none]) rfl nd (it_rng1 W (ev_var 0) rfl (by omega)) (blkOk_by (N := N_l_near) (sc := defScope s_l_near) (by decide +kernel))
    (fun _ _ _ _ _ _ _ _ _ x hx => tg_name (i := 4) nd) (fun _ _ _ _ _ _ _ _ _ x hx => ef_en (en_lst ea_nil (Nat.zero_le _))) (fun j h => h) (by rw [List.length_range]; omega) (by show 2 < 6; decide) fun ps hps => ?_
  rw [List.length_range] at hps
  refine b_forE rfl PassesOwn.never (it_mapL (xs := ls) (g := dP) (ev_var 1)) (fun i (cs : List (List Int)) => NearOf n (ls.take i) cs) (fun _ _ => [some (I K (n : Nat)), some (D K (dLs ls)), some (LR (Vp ps)), none, none, none]) (fun _ cs => rowsO K ps (cI cs)) (fun _ cs x => [some (I K (n : Nat)), some (D K (dLs ls)), some (LR (Vp ps)), some (D K (dP x)), none, none]) [3]
    ⟨List.replicate n [], nearOf_nil, by
      have : cI (List.replicate n []) = List.replicate ps.length [] := by unfold cI; rw [List.map_replicate, hps]; rfl
      rw [this, rowsO_nil, List.append_nil], Le.refl _⟩ (fun gv gR i x y h c => tg_name (i := 3) nd) (fun gv gR i x cs h c => ?_) (fun cs c => ?_)
  · obtain ⟨a, b⟩ := x
    have hlt := hp.1.lt (a, b) (List.mem_of_getElem? h)
    have hlt : a < b ∧ b < n := hlt
    have ixp : ∀ j, j < n → atI (Vp ps) (j : Int) = some (Vl (.ref (ps.getD j 0))) := fun j hj => atI_mapN (f := fun p => Vl (.ref p)) (l := ps) (d := 0) (by omega)
    have hl1 : (addL cs a b).length = n := by unfold addL; rw [List.length_set, c.len]
    have bnd : ∀ j, (cs.getD j []).length ≤ 20000 := fun j => by
      by_cases hj : j < cs.length
      · have := c.sz _ (getD_mem' (d := []) hj)
        have h2 : (ls.take i).length ≤ ls.length := by rw [List.length_take]; exact Nat.min_le_right _ _
        omega
      · rw [List.getD_eq_getElem?_getD, List.getElem?_eq_none (by omega)]; simp
    refine b_appD (k := a) (p := ps.getD a 0) (d := .int (b : Int)) (ev_ixR (ev_var 2) (ev_ixT (ds := [.int (a : Nat), .int (b : Nat)]) (ev_var 3) ev_int rfl) (ixp a (by omega))) (rowsO_get (getD_get (by omega)) (cI_get (by rw [c.len]; omega))) (ev_ixT (ds := [.int (a : Nat), .int (b : Nat)]) (ev_var 3) ev_int rfl) (by rw [List.length_map]; have := bnd a; omega) ?_
    refine b_eqD (Δ' := rowsO K ps (cI (addL cs a b))) ((zipWith_set (f := fun p c => (p, LO K c)) (getD_get (by omega))).trans (by rw [cI_add])) ?_
    refine b_appD (k := b) (p := ps.getD b 0) (d := .int (a : Int)) (ev_ixR (ev_var 2) (ev_ixT (ds := [.int (a : Nat), .int (b : Nat)]) (ev_var 3) ev_int rfl) (ixp b (by omega))) (rowsO_get (getD_get (by omega)) (cI_get (by rw [hl1]; omega))) (ev_ixT (ds := [.int (a : Nat), .int (b : Nat)]) (ev_var 3) ev_int rfl) (by
      rw [List.length_map]
      unfold addL
      rw [getD_set (by rw [c.len]; omega), if_neg (by omega)]
      have := bnd b; omega) ?_
    refine b_eqD (Δ' := rowsO K ps (cI (addL (addL cs a b) b a))) ((zipWith_set (f := fun p c => (p, LO K c)) (getD_get (by omega))).trans (by rw [cI_add])) ?_
    refine b_nil fun σ H s => ⟨addL (addL cs a b) b a, by rw [take_snoc h]; exact nearOf_add c (by omega) (by omega) (by omega), s.cast (.keep (.keep (.keep (.drop (.drop (.drop .nil)))))) rfl⟩
  · have c : NearOf n ls cs := by have c' := c; rw [List.take_length] at c'; exact c'
    rw [← List.append_nil (rowsO K ps (cI cs))]
    refine b_frzRows (i := 2) (by unfold cI; rw [List.length_map, c.len, hps]) rfl ?_
    refine b_endE (Q := fun cs : {cs : List (List Int) // NearOf n ls cs} => D K (dN cs.1)) ⟨cs.map srt, nearOf_srt c⟩ ?_ rfl
    show EV _ _ _ _ _ (D K (dN (cs.map srt)))
    have e : dN (cs.map srt) = .list (cs.map fun c => dL (srt c)) := by unfold dN; rw [List.map_map]; rfl
    rw [e]
    have e2 : (cI cs).map PyData.list = cs.map dL := by unfold cI; rw [List.map_map]; rfl
    rw [e2]
    exact ev_newD (en_lcM (own := [("_law_row_here", 5)]) (xs := cs) (it := fun c => D K (dL c)) (js := [5]) (Γt := fun c => [some (I K (n : Nat)), some (D K (dLs ls)), some (LP K (cs.map dL)), none, none, some (D K (dL c))]) rfl nd (it_mapL (ev_le (ev_var 2) LP_D)) (blkOk_by (N := N_l_near) (sc := defScope s_l_near) (by decide +kernel))
      (LcH.all (fun _ _ _ _ _ _ _ _ _ x hx => tg_name (i := 5) nd) (fun _ _ _ _ _ _ _ _ _ x hx => ev_le (ev_sortedI W (ev_var 5)) LP_D) (fun j h => h) (by rw [c.len]; omega)))
end
end Fr
set_option Elab.async false
set_option linter.all false
set_option maxRecDepth 100000
set_option maxHeartbeats 4000000
namespace Fr
open PySem PySem.Spec PySem.Calls L2
section
variable {P : Program} {w : World} {K : PySem.W.Frag} {mg : Str → Option Value} {base : Heap}
theorem keysOf_ints : ∀ ns : List Int, keysOf (ns.map PyData.int) = ns.map NestedKey.num
  | [] => rfl
  | n :: ns => by
    show keyOf (.int n) :: keysOf (ns.map PyData.int) = _
    rw [keysOf_ints ns]; rfl
theorem keyables_ints : ∀ ns : List Int, keyables (ns.map PyData.int) = true
  | [] => rfl
  | n :: ns => by
    show (keyable (.int n) && keyables (ns.map PyData.int)) = true
    rw [keyables_ints ns]; rfl
theorem num_inj : ∀ {a b : List Int}, a.map NestedKey.num = b.map NestedKey.num → a = b
  | [], [], _ => rfl
  | [], _ :: _, h => by simp at h
  | _ :: _, [], h => by simp at h
  | x :: a, y :: b, h => by
    simp only [List.map_cons, List.cons.injEq] at h
    obtain ⟨h1, h2⟩ := h
    cases h1
    rw [num_inj h2]
theorem depth_nums : ∀ ns : List Int, NestedKey.depthAll (ns.map NestedKey.num) = 0
  | [] => rfl
  | n :: ns => by
    show max (NestedKey.depth (.num n)) (NestedKey.depthAll (ns.map NestedKey.num)) = 0
    rw [depth_nums ns]; rfl
theorem keyOf_dT (ns : List Int) : keyOf (dT ns) = .tup (ns.map NestedKey.num) := by
  show NestedKey.tup (keysOf (ns.map PyData.int)) = _
  rw [keysOf_ints]
/-- keys (picture, 0) -/
def enPic : En (List Int) where
  enc := fun ns => .tuple [dT ns, .int 0]
  ok := fun ns => by
    show (keyables (ns.map PyData.int) && (true && true)) = true
    rw [keyables_ints]; rfl
  dep := fun ns => by
    show NestedKey.depth (.tup [keyOf (dT ns), .num 0]) ≤ 8
    rw [keyOf_dT]
    show max (NestedKey.depthAll (ns.map NestedKey.num) + 1) (max 0 0) + 1 ≤ 8
    rw [depth_nums]; decide
  inj := fun a b h => by
    have h' : NestedKey.tup [keyOf (dT a), .num 0] = NestedKey.tup [keyOf (dT b), .num 0] := h
    rw [keyOf_dT, keyOf_dT] at h'
    injection h' with h'
    injection h' with h1 _
    injection h1 with h1
    exact num_inj h1
  tup := fun ns => ⟨_, rfl⟩
theorem getK_map {κ α : Type} [DecidableEq κ] {f : α → κ} {g : α → RP} {k : κ} : ∀ {l : List α}, (∃ t ∈ l, f t = k ∧ getK (l.map fun t => (f t, g t)) k = some (g t)) ∨ ((getK (l.map fun t => (f t, g t)) k) = none ∧ ∀ t ∈ l, f t ≠ k)
  | [] => .inr ⟨rfl, fun t h => by cases h⟩
  | a :: l => by
    have ih := getK_map (f := f) (g := g) (k := k) (l := l)
    unfold getK at ih ⊢
    rw [List.map_cons, List.find?_cons]
    by_cases h : f a = k
    · left
      refine ⟨a, List.mem_cons_self .., h, ?_⟩
      simp [h]
    · have hd : decide (f a = k) = false := by simp [h]
      simp only [hd]
      rcases ih with ⟨t, ht, e, r⟩ | ⟨r, hn⟩
      · exact .inl ⟨t, List.mem_cons_of_mem _ ht, e, r⟩
      · refine .inr ⟨r, fun t ht => ?_⟩
        rcases List.mem_cons.mp ht with e | e
        · subst e; exact h
        · exact hn t e
/-- a round of the film -/
structure TurnOk (near : List (List Int)) (pic : List Int) (t : Nat × Nat) : Prop where
  pos : 0 < t.2
  le : t.1 + t.2 ≤ 20000
  per : runL near pic (t.1 + t.2) = runL near pic t.1
def rpTurn (K : PySem.W.Frag) (near : List (List Int)) (pic : List Int) (t : Nat × Nat) : RP := LR [I K (t.1 : Nat), I K (t.2 : Nat), LP K ((shotsL near pic (t.1 + t.2)).map dT)]
def fsRound (K : PySem.W.Frag) : FS (List (List Int) × List Int) := ⟨fun x => [D K (dN x.1), D K (dT x.2), I K 1, D K (.list [])], fun x => Pf x.1 x.2 ∧ x.2.length ≤ 7, fun x => Exi fun t : {t : Nat × Nat // TurnOk x.1 x.2 t} => rpTurn K x.1 x.2 t.1⟩
theorem shotsL_succ {near : List (List Int)} {pic : List Int} (n : Nat) : shotsL near pic (n + 1) = shotsL near pic n ++ [runL near pic n] := by
  unfold shotsL
  rw [List.range_succ, List.map_append]; rfl
theorem ok_l_round {f : Addr} {fd : FuncData} (W : Bi mg) (G : Df P w K mg base "_law_step" 1 3 (fsStep K)) (Fn : Fun K "_law_round" "_law_round" s_l_round f fd) : FnOk P w K mg base CX0 2 f fd ["_law_near_here", "_law_picture_here", "_law_period", "_law_pokes"] ((fsRound K).sp 4) := by
  refine FS.ok (fsRound K) Fn sc_l_round rfl fun cdv A outer s H E M y hr hp => ?_
  obtain ⟨near, pic⟩ := y
  have hp : Pf near pic ∧ pic.length ≤ 7 := hp
  obtain ⟨hp, h7⟩ := hp
  have nd := sc_l_round.nd
  refine b_own (i := 4) nd (en_lstD (ds := (shotsL near pic 1).map dT) (ea_cons (ev_tupleT W (ev_var 1)) ea_nil)) fun p => ?_
  refine b_ownF (i := 5) (O := DO P w K enPic [(pic, I K 0)]) nd (ef_disp1 hr (fun q => ev_tupD (ds := [dT pic, .int 0]) (ea_cons (ev_tupleT W (ev_var 1)) (ea_cons ev_int ea_nil))) (fun q => ev_int)) fun q => ?_
  refine b_forE rfl PassesOwn.never (it_rng1 (n := 20000) W ev_int rfl (by decide)) (fun i (_ : Unit) => ∀ a b, a < b → b ≤ i → runL near pic a ≠ runL near pic b)
    (fun i _ => [some (D K (dN near)), some (D K (dT pic)), some (I K 1), some (D K (.list [])), some (Vl (.ref p)), some (Vl (.ref q)), none, none, none, none])
    (fun i _ => [(q, DO P w K enPic ((List.range (i + 1)).map fun t => (runL near pic t, I K (t : Nat))) q), (p, LO K ((shotsL near pic (i + 1)).map dT))])
    (fun i _ x => [some (D K (dN near)), some (D K (dT pic)), some (I K 1), some (D K (.list [])), some (Vl (.ref p)), some (Vl (.ref q)), some (I K (x : Nat)), none, none, none]) [6]
    ⟨(), (fun a b h1 h2 => by omega), rfl, Le.refl _⟩ (fun gv gR i x y h c => tg_name (i := 6) nd) (fun gv gR i v y h c => ?_) (fun y c => ?_)
  · obtain ⟨hv, rfl⟩ := range_at h
    have hix : atI (((shotsL near pic (v + 1)).map dT).map (D K)) (v : Int) = some (D K (dT (runL near pic v))) := by
      refine atI_nat ?_
      unfold shotsL
      rw [List.getElem?_map, List.getElem?_map, List.getElem?_map, List.getElem?_range (by omega)]; rfl
    refine b_set (i := 7) (R := D K (dT (runL near pic (v + 1)))) nd (ev_callR (near, runL near pic v) G hr (ea_cons (ev_var 0) (ea_cons (ev_ixO (ev_var 4) (k := 1) rfl (ev_var 6) hix) (ea_cons (ev_lc0 (own := [("_law_poke", 9)]) rfl nd (ev_var 3) (blkOk_by (N := N_l_round) (sc := defScope s_l_round) (by decide +kernel))) ea_nil))) (hp.run v)) ?_
    have e1 : (((v : Nat) : Int) + 1) % 1 = 0 := by omega
    refine b_set (i := 8) (R := D K (enPic.enc (runL near pic (v + 1)))) nd (ev_tupD (ds := [dT (runL near pic (v + 1)), .int 0]) (ea_cons (ev_var 7) (ea_cons (ev_int_is (ev_mod (ev_intI W (ev_add (ev_var 6) ev_int)) (ev_var 2) (by decide)) e1) ea_nil))) ?_
    rcases getK_map (f := runL near pic) (g := fun t => I K (t : Nat)) (k := runL near pic (v + 1)) (l := List.range (v + 1)) with ⟨t, ht, et, eg⟩ | ⟨eg, hn⟩
    · refine b_ifr (b := true) (et_is (et_inN (E := enPic) (k := runL near pic (v + 1)) hr (ev_var 8) (edi_own (ev_var 5) (j := 0) rfl)) (by rw [eg]; rfl)) (fun _ => ?_) (fun hb => nomatch hb)
      have ht : t < v + 1 := List.mem_range.mp ht
      refine b_frzD (k := 1) (i := 4) rfl rfl ?_
      have e2 : ((v : Nat) : Int) + 1 - (t : Nat) = ((v + 1 - t : Nat) : Int) := by omega
      have e3 : t + (v + 1 - t) = v + 1 := by omega
      refine b_endE (Q := fun t : {t : Nat × Nat // TurnOk near pic t} => rpTurn K near pic t.1) ⟨(t, v + 1 - t), by show 0 < v + 1 - t; omega, by show t + (v + 1 - t) ≤ 20000; omega, by show runL near pic (t + (v + 1 - t)) = _; rw [e3]; exact et.symm⟩ ?_ rfl
      show EV _ _ _ _ _ (LR [I K (t : Nat), I K ((v + 1 - t : Nat)), LP K ((shotsL near pic (t + (v + 1 - t))).map dT)])
      rw [e3]
      exact ev_new (en_lst (ea_cons (ev_getN (E := enPic) (k := runL near pic (v + 1)) hr (edi_own (ev_var 5) (j := 0) rfl) (ev_var 8) eg) (ea_cons (ev_int_is (ev_sub (ev_add (ev_var 6) ev_int) (ev_getN (E := enPic) (k := runL near pic (v + 1)) hr (edi_own (ev_var 5) (j := 0) rfl) (ev_var 8) eg)) e2) (ea_cons (ev_var 4) ea_nil))) (Nat.le_of_ble_eq_true rfl))
    · refine b_ifr (b := false) (et_is (et_inN (E := enPic) (k := runL near pic (v + 1)) hr (ev_var 8) (edi_own (ev_var 5) (j := 0) rfl)) (by rw [eg]; rfl)) (fun hb => nomatch hb) (fun _ => ?_)
      refine b_putN (E := enPic) (j := 0) (k := runL near pic (v + 1)) hr (ev_add (ev_var 6) ev_int) (ev_var 5) rfl (ev_var 8) (by rw [List.length_map, List.length_range]; omega) ?_
      refine b_appD (k := 1) (ev_var 4) rfl (ev_var 7) (by rw [List.length_map]; unfold shotsL; rw [List.length_map, List.length_range]; omega) ?_
      refine b_nil fun σ H s => ⟨(), fun a b h1 h2 => ?_, s.cast (.keep (.keep (.keep (.keep (.keep (.keep (.drop (.drop (.drop (.drop .nil)))))))))) ?_⟩
      · by_cases hb : b ≤ v
        · exact c a b h1 hb
        · have : b = v + 1 := by omega
          subst this
          exact hn a (List.mem_range.mpr (by omega))
      · have e4 : putE ((List.range (v + 1)).map fun t => (runL near pic t, I K (t : Nat))) (runL near pic (v + 1)) (I K ((v : Nat) + 1)) = (List.range (v + 1 + 1)).map fun t => (runL near pic t, I K (t : Nat)) := by
          unfold putE
          rw [eg, if_neg (by simp), List.range_succ (n := v + 1), List.map_append]
          have : (((v + 1 : Nat)) : Int) = ((v : Nat) : Int) + 1 := by omega
          simp [this]
        have e5 : (shotsL near pic (v + 1)).map dT ++ [dT (runL near pic (v + 1))] = (shotsL near pic (v + 1 + 1)).map dT := by
          rw [shotsL_succ (v + 1), List.map_append]; rfl
        exact congr (congrArg (fun a b => [(q, DO P w K enPic a q), (p, LO K b)]) e4) e5
  · exfalso
    rw [List.length_range] at c
    refine pigeon (f := runL near pic) (n := pic.length) (m := 20001) (fun t => runL_len t) (fun t s hs => (hp.run t).st s hs) ?_ fun a b h1 h2 => c a b h1 (by omega)
    have : 3 ^ pic.length ≤ 3 ^ 7 := Nat.pow_le_pow_right (by decide) h7
    omega
end
end Fr
set_option Elab.async false
set_option linter.all false
set_option maxRecDepth 100000
set_option maxHeartbeats 4000000
namespace Fr
open PySem PySem.Spec PySem.Calls L2
section
variable {P : Program} {w : World} {K : PySem.W.Frag} {mg : Str → Option Value} {base : Heap}
def sumsL (near : List (List Int)) (pic : List Int) (t : Nat) : List Int := (List.range pic.length).map fun v => fires near pic v t
theorem count_fires {near : List (List Int)} {pic : List Int} (v : Nat) : ∀ t, countL (shotsL near pic (t + 1)) v = fires near pic v t
  | 0 => rfl
  | t + 1 => by
    have ih := count_fires (near := near) (pic := pic) v t
    unfold countL at ih ⊢
    rw [shotsL_succ (t + 1), List.drop_append_of_le_length (by unfold shotsL; rw [List.length_map, List.length_range]; omega), List.filter_append, List.length_append]
    show _ = fires near pic v t + _
    rw [← ih]
    by_cases h : (runL near pic (t + 1)).getD v 0 = 1
    · have e : [runL near pic (t + 1)].filter (fun p => decide (p.getD v 0 = 1)) = [runL near pic (t + 1)] := by rw [List.filter_cons, if_pos (decide_eq_true h)]; rfl
      rw [if_pos h, e, Int.natCast_add]; rfl
    · have e : [runL near pic (t + 1)].filter (fun p => decide (p.getD v 0 = 1)) = [] := by rw [List.filter_cons, if_neg (by simpa using h)]; rfl
      rw [if_neg h, e, Int.natCast_add]; rfl
theorem counts_sums {near : List (List Int)} {pic : List Int} (t : Nat) : countsL (shotsL near pic (t + 1)) = sumsL near pic t := by
  unfold countsL sumsL
  have e : (shotsL near pic (t + 1)).getD 0 [] = pic := by
    unfold shotsL
    rw [List.getD_eq_getElem?_getD, List.getElem?_map, List.getElem?_range (by omega)]; rfl
  rw [e]
  exact List.map_congr_left fun v _ => count_fires v t
theorem shotsL_take {near : List (List Int)} {pic : List Int} {m n : Nat} (h : m ≤ n) : (shotsL near pic n).take m = shotsL near pic m := by
  unfold shotsL
  rw [← List.map_take, List.take_range, Nat.min_eq_left h]
theorem shotsL_len {near : List (List Int)} {pic : List Int} {n : Nat} : (shotsL near pic n).length = n := by unfold shotsL; rw [List.length_map, List.length_range]
theorem shotsL_get {near : List (List Int)} {pic : List Int} {n k : Nat} (h : k < n) : (shotsL near pic n).getD k [] = runL near pic k := by
  unfold shotsL
  rw [List.getD_eq_getElem?_getD, List.getElem?_map, List.getElem?_range h]; rfl
theorem shots_even {near : List (List Int)} {pic : List Int} {n : Nat} (h : 0 < n) (h2 : n ≤ 50000) (hz : pic.length ≤ 1000) : Even (shotsL near pic n) pic.length :=
  ⟨by rw [shotsL_len]; exact h, by rw [shotsL_len]; exact h2, fun p hp => by
    obtain ⟨t, _, rfl⟩ := List.mem_map.mp hp
    exact runL_len t, hz⟩
theorem sumsL_len {near : List (List Int)} {pic : List Int} {t : Nat} : (sumsL near pic t).length = pic.length := by unfold sumsL; rw [List.length_map, List.length_range]
theorem sumsL_get {near : List (List Int)} {pic : List Int} {t k : Nat} (h : k < pic.length) : (sumsL near pic t).getD k 0 = fires near pic k t := by
  unfold sumsL
  rw [List.getD_eq_getElem?_getD, List.getElem?_map, List.getElem?_range h]; rfl
def fsFar (K : PySem.W.Frag) : FS (List (List Int) × List Int × (Nat × Nat) × Nat) := ⟨fun x => [rpTurn K x.1 x.2.1 x.2.2.1, I K (x.2.2.2 : Nat)], fun x => TurnOk x.1 x.2.1 x.2.2.1 ∧ x.2.1.length ≤ 7, fun x => LR [D K (dT (runL x.1 x.2.1 x.2.2.2)), LP K ((sumsL x.1 x.2.1 x.2.2.2).map .int)]⟩
theorem ok_l_far {f : Addr} {fd : FuncData} (W : Bi mg) (G : Df P w K mg base "_law_counts" 1 1 (fsCounts K)) (Fn : Fun K "_law_far" "_law_far" s_l_far f fd) : FnOk P w K mg base CX0 2 f fd ["_law_turn", "_law_beats"] ((fsFar K).sp 2) := by
  refine FS.ok (fsFar K) Fn sc_l_far rfl fun cdv A outer s H E M y hr hp => ?_
  obtain ⟨near, pic, ⟨fi, pe⟩, b⟩ := y
  have hp : TurnOk near pic (fi, pe) ∧ pic.length ≤ 7 := hp
  obtain ⟨⟨h0, hle, hper⟩, h7⟩ := hp
  have h0 : 0 < pe := h0
  have hle : fi + pe ≤ 20000 := hle
  have hper : runL near pic (fi + pe) = runL near pic fi := hper
  have nd := sc_l_far.nd
  have t0 : atI [I K (fi : Nat), I K (pe : Nat), LP K ((shotsL near pic (fi + pe)).map dT)] 0 = some (I K (fi : Nat)) := rfl
  have t1 : atI [I K (fi : Nat), I K (pe : Nat), LP K ((shotsL near pic (fi + pe)).map dT)] 1 = some (I K (pe : Nat)) := rfl
  have t2 : atI [I K (fi : Nat), I K (pe : Nat), LP K ((shotsL near pic (fi + pe)).map dT)] 2 = some (LP K ((shotsL near pic (fi + pe)).map dT)) := rfl
  have cnt : ∀ m, m < 49999 → (shotsL near pic (m + 1)) = shotsL near pic (m + 1) ∧ Even (shotsL near pic (m + 1)) pic.length := fun m hm => ⟨rfl, shots_even (by omega) (by omega) (by omega)⟩
  refine b_set (i := 2) nd (ev_ixR (ev_var 0) ev_int t0) ?_
  refine b_ifr (et_lt (ev_var 1) (ev_lenL W (ev_le (ev_ixR (ev_var 0) ev_int t2) LP_D))) (fun hb => ?_) (fun hb => ?_)
  · have hlt : b < fi + pe := by
      have := of_decide_eq_true hb
      rw [List.length_map, shotsL_len] at this
      have this : ((b : Nat) : Int) < ((fi + pe : Nat) : Int) := this
      omega
    refine b_end (R := LR [D K (dT (runL near pic b)), LP K ((sumsL near pic b).map .int)]) (ev_new (en_lst (ea_cons (R := D K (dT (runL near pic b))) ?_ (ea_cons (R := LP K ((sumsL near pic b).map .int)) ?_ ea_nil)) (Nat.le_of_ble_eq_true rfl))) rfl
    · have := atI_mapN (f := dT) (l := shotsL near pic (fi + pe)) (d := []) (k := b) (by rw [shotsL_len]; exact hlt)
      rw [shotsL_get hlt] at this
      exact ev_ixL (ev_le (ev_ixR (ev_var 0) ev_int t2) LP_D) (ev_var 1) this
    · rw [← counts_sums b]
      refine ev_callR (shotsL near pic (b + 1), pic.length) G hr (ea_cons ?_ ea_nil) (cnt b (by omega)).2
      show EV _ _ _ _ _ (D K (.list ((shotsL near pic (b + 1)).map dT)))
      rw [← shotsL_take (show b + 1 ≤ fi + pe by omega)]
      exact ev_newD (en_toM (ev_le (ev_ixR (ev_var 0) ev_int t2) LP_D) (ev_add (ev_var 1) ev_int) (show ((b : Nat) : Int) + 1 = ((b + 1 : Nat) : Int) by omega) (by rw [shotsL_len]; omega))
  · have hge : fi + pe ≤ b := by
      have := of_decide_eq_false hb
      rw [List.length_map, shotsL_len] at this
      have this : ¬ ((b : Nat) : Int) < ((fi + pe : Nat) : Int) := this
      omega
    have hsub : ((b : Nat) : Int) - (fi : Nat) = ((b - fi : Nat) : Int) := by omega
    have hlp : (b - fi) % pe < pe := Nat.mod_lt _ h0
    have hb : b = fi + (b - fi) / pe * pe + (b - fi) % pe := by
      have := Nat.div_add_mod (b - fi) pe
      rw [Nat.mul_comm] at this
      omega
    generalize hq : (b - fi) / pe = q at hb
    generalize hr' : (b - fi) % pe = r at hb hlp
    have eq : (((b : Nat) : Int) - (fi : Nat)) / (pe : Nat) = (q : Nat) := by
      rw [hsub, ← hq]; norm_cast
    have er : (fi : Int) + (((b : Nat) : Int) - (fi : Nat)) % (pe : Nat) = ((fi + r : Nat) : Int) := by
      rw [hsub, ← hr']; norm_cast
    refine b_set (i := 3) nd (ev_int_is (ev_div (ev_intI W (ev_sub (ev_var 1) (ev_var 2))) (ev_ixR (ev_var 0) ev_int t1) (sizes_div ⟨by omega, by omega⟩ _)) eq) ?_
    refine b_set (i := 4) nd (ev_int_is (ev_add (ev_var 2) (ev_mod (ev_intI W (ev_sub (ev_var 1) (ev_var 2))) (ev_ixR (ev_var 0) ev_int t1) (by omega))) er) ?_
    have tk : ∀ (m : Nat) (i : Int), m < fi + pe → i = (m : Nat) → True := fun _ _ _ _ => trivial
    refine b_set (i := 5) (R := LP K ((sumsL near pic fi).map .int)) nd ?_ ?_
    · rw [← counts_sums fi]
      refine ev_callR (shotsL near pic (fi + 1), pic.length) G hr (ea_cons ?_ ea_nil) (cnt fi (by omega)).2
      show EV _ _ _ _ _ (D K (.list ((shotsL near pic (fi + 1)).map dT)))
      rw [← shotsL_take (show fi + 1 ≤ fi + pe by omega)]
      exact ev_newD (en_toM (ev_le (ev_ixR (ev_var 0) ev_int t2) LP_D) (ev_add (ev_var 2) ev_int) (show ((fi : Nat) : Int) + 1 = ((fi + 1 : Nat) : Int) by omega) (by rw [shotsL_len]; omega))
    refine b_set (i := 6) (R := LP K ((sumsL near pic (fi + pe)).map .int)) nd ?_ ?_
    · rw [← counts_sums (fi + pe)]
      refine ev_callR (shotsL near pic (fi + pe + 1), pic.length) G hr (ea_cons ?_ ea_nil) (cnt (fi + pe) (by omega)).2
      show EV _ _ _ _ _ (D K (.list ((shotsL near pic (fi + pe + 1)).map dT)))
      rw [shotsL_succ (fi + pe), List.map_append, hper]
      refine ev_newD (ds := (shotsL near pic (fi + pe)).map dT ++ [dT (runL near pic fi)]) ?_
      rw [List.map_append]
      have := atI_mapN (f := dT) (l := shotsL near pic (fi + pe)) (d := []) (k := fi) (by rw [shotsL_len]; omega)
      rw [shotsL_get (by omega)] at this
      exact en_cat (ev_le (ev_ixR (ev_var 0) ev_int t2) LP_LR) (ev_new (en_lst (As := [D K (dT (runL near pic fi))]) (ea_cons (ev_ixL (ev_le (ev_ixR (ev_var 0) ev_int t2) LP_D) (ev_var 2) this) ea_nil) (Nat.le_of_ble_eq_true rfl))) (by rw [List.length_map, List.length_map, shotsL_len]; simp; omega)
    refine b_set (i := 7) (R := LP K ((sumsL near pic (fi + r)).map .int)) nd ?_ ?_
    · rw [← counts_sums (fi + r)]
      refine ev_callR (shotsL near pic (fi + r + 1), pic.length) G hr (ea_cons ?_ ea_nil) (cnt (fi + r) (by omega)).2
      show EV _ _ _ _ _ (D K (.list ((shotsL near pic (fi + r + 1)).map dT)))
      rw [← shotsL_take (show fi + r + 1 ≤ fi + pe by omega)]
      exact ev_newD (en_toM (ev_le (ev_ixR (ev_var 0) ev_int t2) LP_D) (ev_add (ev_var 4) ev_int) (show ((fi + r : Nat) : Int) + 1 = ((fi + r + 1 : Nat) : Int) by omega) (by rw [shotsL_len]; omega))
    have es : (sumsL near pic b).map PyData.int = (List.range pic.length).map (fun v => PyData.int (fires near pic v (fi + r) + (q : Nat) * (fires near pic v (fi + pe) - fires near pic v fi))) := by
      unfold sumsL
      rw [List.map_map]
      refine List.map_congr_left fun v _ => ?_
      show PyData.int (fires near pic v b) = _
      rw [hb, fires_rounds hper r q]
    have ix : ∀ t k, k < pic.length → atI ((sumsL near pic t).map PyData.int) (k : Nat) = some (.int (fires near pic k t)) := fun t k hk => by
      rw [atI_mapN (f := PyData.int) (l := sumsL near pic t) (d := 0) (by rw [sumsL_len]; exact hk), sumsL_get hk]
    refine b_setLcM (i := 8) (own := [("_law_k", 9)]) (xs := List.range pic.length) (it := fun i => I K (i : Nat)) (g := fun v => PyData.int (fires near pic v (fi + r) + (q : Nat) * (fires near pic v (fi + pe) - fires near pic v fi))) (js := [9]) (Γt := fun k => [some (rpTurn K near pic (fi, pe)), some (I K (b : Nat)), some (I K (fi : Nat)), some (I K (q : Nat)), some (I K ((fi + r : Nat))), some (LP K ((sumsL near pic fi).map .int)), some (LP K ((sumsL near pic (fi + pe)).map .int)), some (LP K ((sumsL near pic (fi + r)).map .int)), none, some (I K (k : Nat))]) rfl nd
      (it_rng1 W (ev_lenL W (ev_le (ev_var 7) LP_D)) (by rw [List.length_map, sumsL_len]) (by omega)) (blkOk_by (N := N_l_far) (sc := defScope s_l_far) (by decide +kernel))
      (LcH.all (fun _ _ _ _ _ _ _ _ _ x hx => tg_name (i := 9) nd) (fun _ _ _ _ _ _ _ _ _ k hk => ?_) (fun j h => h) (by rw [List.length_range]; omega)) (by show 8 < 10; decide) ?_
    · have hk := List.mem_range.mp hk
      have f1 := fires_nonneg (near := near) (pic := pic) (v := k) (fi + pe)
      have f2 := fires_mono (near := near) (pic := pic) (v := k) (s := fi) pe
      have f3 := fires_nonneg (near := near) (pic := pic) (v := k) fi
      exact ev_add (ev_ixL (ev_le (ev_var 7) LP_D) (ev_var 9) (ix _ k hk)) (ev_mul (ev_var 3) (ev_sub (ev_ixL (ev_le (ev_var 6) LP_D) (ev_var 9) (ix _ k hk)) (ev_ixL (ev_le (ev_var 5) LP_D) (ev_var 9) (ix _ k hk))) (.inr ⟨by omega, by omega⟩))
    rw [← es]
    refine b_end (R := LR [D K (dT (runL near pic b)), LP K ((sumsL near pic b).map .int)]) (ev_new (en_lst (ea_cons (R := D K (dT (runL near pic b))) ?_ (ea_cons (ev_var 8) ea_nil)) (Nat.le_of_ble_eq_true rfl))) rfl
    have eb : runL near pic b = runL near pic (fi + r) := by rw [hb]; exact runL_pers hper r q
    rw [eb]
    have := atI_mapN (f := dT) (l := shotsL near pic (fi + pe)) (d := []) (k := fi + r) (by rw [shotsL_len]; omega)
    rw [shotsL_get (by omega)] at this
    exact ev_ixL (ev_le (ev_ixR (ev_var 0) ev_int t2) LP_D) (ev_var 4) this
end
end Fr
set_option Elab.async false
set_option linter.all false
set_option maxRecDepth 100000
set_option maxHeartbeats 4000000
namespace Fr
open PySem PySem.Spec PySem.Calls L2
section
variable {P : Program} {w : World} {K : PySem.W.Frag} {mg : Str → Option Value} {base : Heap}
theorem kII : kitB "int" "int" = some true := by decide +kernel
theorem kIB : kitB "int" "bool" = some false := by decide +kernel
theorem kTT : kitB "tuple" "tuple" = some true := by decide +kernel
def fsWhole (K : PySem.W.Frag) : FS Int := ⟨fun n => [I K n], fun _ => True, fun _ => B K true⟩
theorem ok_l_whole {f : Addr} {fd : FuncData} (W : Bi mg) (Fn : Fun K "_law_whole" "_law_whole" s_l_whole f fd) : FnOk P w K mg base CX0 1 f fd ["_law_value"] ((fsWhole K).sp 1) := by
  refine FS.ok (fsWhole K) Fn sc_l_whole rfl fun cdv A outer s H E M y hr hp => ?_
  have nd := sc_l_whole.nd
  exact b_end (ev_is (ev_and (p := true) (q := true) (ev_isi W (d := .int y) (T := "int") (r := true) (ev_var 0) (ev_ty W.int (by decide +kernel)) kII) fun _ => ev_one (ev_not (p := false) (ev_isi W (d := .int y) (T := "bool") (r := false) (ev_var 0) (ev_ty W.bool (by decide +kernel)) kIB))) rfl) rfl
def fsRow (K : PySem.W.Frag) : FS (List Int × Nat) := ⟨fun x => [D K (dT x.1), I K (x.2 : Nat)], fun x => x.1.length = x.2 ∧ x.2 ≤ 100, fun _ => B K true⟩
theorem filter_false {α : Type} (xs : List α) : (xs.filter fun _ => false) = [] := by
  induction xs with
  | nil => rfl
  | cons x xs ih => rw [List.filter_cons]; exact ih
theorem ok_l_row {f : Addr} {fd : FuncData} (W : Bi mg) (G : Df P w K mg base "_law_whole" 1 1 (fsWhole K)) (Fn : Fun K "_law_row" "_law_row" s_l_row f fd) : FnOk P w K mg base CX0 2 f fd ["_law_value", "_law_many"] ((fsRow K).sp 2) := by
  refine FS.ok (fsRow K) Fn sc_l_row rfl fun cdv A outer s H E M y hr hp => ?_
  obtain ⟨ns, n⟩ := y
  have hp : ns.length = n ∧ n ≤ 100 := hp
  have nd := sc_l_row.nd
  refine b_end (ev_is (ev_and (p := true) (q := true) (ev_isi W (d := dT ns) (T := "tuple") (r := true) (ev_var 0) (ev_ty W.tuple (by decide +kernel)) kTT) fun _ => ev_is (R := B _ (decide (((ns.map PyData.int).length : Int) = (n : Nat)) && true)) (ev_and (q := true) (ev_eq (ev_lenT W (ev_var 0)) (ev_var 1)) fun _ => ev_one (ev_is (R := B _ (decide ((((ns.filter fun _ => false).map PyData.int).length : Nat) = (0 : Int)))) (ev_eq (ev_lenL W (ev_newD (en_lcD (own := [("_law_x", 2)]) (xs := ns) (it := fun x => I K x) (g := PyData.int) (pr := fun _ => false) (js := [2]) (Γt := fun x => [some (D K (dT ns)), some (I K (n : Nat)), some (I K x)]) rfl nd (it_mapT (g := PyData.int) (ev_var 0)) (blkOk_by (N := N_l_row) (sc := defScope s_l_row) (by decide +kernel))
    ⟨fun _ _ _ _ _ _ _ _ _ x hx => tg_name (i := 2) nd, fun _ _ _ _ _ _ _ _ _ x hx => ets_one (et_is (et_not (et_val (ev_callR x G hr (ea_cons (ev_var 2) ea_nil) trivial))) rfl), fun _ _ _ _ _ _ _ _ _ x hx h => (nomatch h), fun j h => h, ?_⟩))) ev_int) ?_)) ?_) rfl) rfl
  · omega
  · rw [filter_false]; rfl
  · rw [List.length_map, hp.1]; simp
/-! rows and facts as data -/
def nmR : Row → Str
  | .stay _ => "stay"
  | .step _ _ => "step"
  | .both _ _ => "both"
def arR : Row → List Int
  | .stay a => [(a : Int)]
  | .step a b => [(a : Int), (b : Int)]
  | .both a b => [(a : Int), (b : Int)]
def encR (r : Row) : PyData := .tuple (.str (nmR r) :: (arR r).map .int)
def inF (f : Fact) : List Int := [(f.a : Int), (f.b : Int), (f.t : Int), f.g]
def encF (f : Fact) : PyData := dT (inF f)
abbrev adjI (near : List (List Int)) (v w : Nat) : Prop := (w : Int) ∈ near.getD v []
structure FactArg (n : Nat) (near : List (List Int)) (pic : List Int) (facts : List Fact) (r : Row) (f : Fact) : Prop where
  nl : near.length = n
  pl : pic.length = n
  fl : facts.length ≤ 90000
  ok : okRow n (adjI near) pic facts r f
def fsFact (K : PySem.W.Frag) : FS (Nat × List (List Int) × List Int × List Fact × Row × Fact) := ⟨fun x => [D K (dN x.2.1), D K (dT x.2.2.1), D K (.list (x.2.2.2.1.map encF)), D K (encR x.2.2.2.2.1)], fun x => FactArg x.1 x.2.1 x.2.2.1 x.2.2.2.1 x.2.2.2.2.1 x.2.2.2.2.2, fun x => D K (encF x.2.2.2.2.2)⟩
theorem fact_at {facts : List Fact} {i : Nat} {p : Fact} (h : facts[i]? = some p) : atI (facts.map encF) (i : Int) = some (encF p) := by
  refine atI_nat ?_
  rw [List.getElem?_map, h]; rfl
theorem ok_l_fact {f : Addr} {fd : FuncData} (W : Bi mg) (G : Df P w K mg base "_law_whole" 1 1 (fsWhole K)) (Gl' : Df P w K mg base "_law_lead" 1 2 (fsLead K)) (Fn : Fun K "_law_fact" "_law_fact" s_l_fact f fd) : FnOk P w K mg base CX0 2 f fd ["_law_near_here", "_law_picture_here", "_law_facts_here", "_law_row_here"] ((fsFact K).sp 4) := by
  refine FS.ok (fsFact K) Fn sc_l_fact rfl fun cdv A outer s H E M y hr hp => ?_
  obtain ⟨n, near, pic, facts, r, fa⟩ := y
  have hp : FactArg n near pic facts r fa := hp
  obtain ⟨hnl, hpl, hfl, hok⟩ := hp
  have nd := sc_l_fact.nd
  have hal : 0 < (arR r).length ∧ (arR r).length ≤ 2 := by cases r <;> exact ⟨Nat.le_of_ble_eq_true rfl, Nat.le_of_ble_eq_true rfl⟩
  refine b_ifF (et_is (et_w (ew_or (p := false) (et_not (p := true) (et_val (ev_isi W (d := encR r) (T := "tuple") (r := true) (ev_var 3) (ev_ty W.tuple (by decide +kernel)) kTT))) fun _ => ew_or (q := false) (et_lt (ev_lenT W (ds := .str (nmR r) :: (arR r).map .int) (ev_var 3)) ev_int) fun _ => ew_or1 (et_is (q := false) (et_gt (ev_lenL W (ev_newD (en_lcD (own := [("_law_x", 7)]) (xs := arR r) (it := fun x => I K x) (g := PyData.int) (pr := fun _ => false) (js := [7]) (Γt := fun x => [some (D K (dN near)), some (D K (dT pic)), some (D K (.list (facts.map encF))), some (D K (encR r)), none, none, none, some (I K x)]) rfl nd (it_mapT (g := PyData.int) (ev_fromT (ds := .str (nmR r) :: (arR r).map .int) (n := 1) (ev_var 3) ev_int rfl (by decide) (Nat.succ_pos _))) (blkOk_by (N := N_l_fact) (sc := defScope s_l_fact) (by decide +kernel))
    ⟨fun _ _ _ _ _ _ _ _ _ x hx => tg_name (i := 7) nd, fun _ _ _ _ _ _ _ _ _ x hx => ets_one (et_is (et_not (et_val (ev_callR x G hr (ea_cons (ev_var 7) ea_nil) trivial))) rfl), fun _ _ _ _ _ _ _ _ _ x hx h => (nomatch h), fun j h => h, ?_⟩))) ev_int) ?_))) ?_) ?_
  · omega
  · rw [filter_false]; rfl
  · have : decide ((((PyData.str (nmR r) :: (arR r).map PyData.int).length : Nat) : Int) < 2) = false := by
      rw [List.length_cons, List.length_map]
      simp
      omega
    rw [this]; rfl
  have hne1 : decide (("step" : Str) = "stay") = false := by decide +kernel
  have hne2 : decide (("both" : Str) = "stay") = false := by decide +kernel
  have hne3 : decide (("both" : Str) = "step") = false := by decide +kernel
  have and0 : ∀ {x y : Bool}, x = false → (x && y) = false := fun h => by rw [h]; rfl
  have not0 : ∀ {x : Bool} {p : Prop}, x = false → x = true → p := fun h1 h2 => by rw [h1] at h2; cases h2
  cases r with
  | stay a =>
    obtain ⟨ha, rfl⟩ := (hok : a < n ∧ fa = ⟨a, a, 1, 0⟩)
    refine b_set (i := 4) nd (ev_ixT (ds := [.str "stay", .int (a : Nat)]) (ev_var 3) ev_int rfl) ?_
    refine b_ifr (b := true) (et_is (et_w (ew_and (et_eqs (ev_ixT (ds := [.str "stay", .int (a : Nat)]) (ev_var 3) ev_int rfl) ev_str) fun _ => ew_and (et_eq (ev_lenT W (ds := [.str "stay", .int (a : Nat)]) (ev_var 3)) ev_int) fun _ => ew_and (et_ge (ev_var 4) ev_int) fun _ => ew_and1 (et_lt (ev_var 4) (ev_lenL W (ev_var 0))))) ?_) (fun _ => ?_) (fun h => nomatch h)
    · rw [List.length_map, hnl]
      simp
      omega
    · exact b_end (R := D K (encF ⟨a, a, 1, 0⟩)) (ev_tupD (ds := (inF ⟨a, a, 1, 0⟩).map PyData.int) (ea_cons (ev_var 4) (ea_cons (ev_var 4) (ea_cons ev_int (ea_cons ev_int ea_nil))))) rfl
  | step a b =>
    obtain ⟨ha, hb, hab, rfl⟩ := (hok : a < n ∧ b < n ∧ adjI near a b ∧ fa = ⟨a, b, 1, ld (pic.getD a 0) (pic.getD b 0)⟩)
    have d3 : atI [PyData.str "step", .int (a : Nat), .int (b : Nat)] 2 = some (.int (b : Nat)) := rfl
    refine b_set (i := 4) nd (ev_ixT (ds := [.str "step", .int (a : Nat), .int (b : Nat)]) (ev_var 3) ev_int rfl) ?_
    refine b_ifF (et_is (et_w (ew_and (q := false) (et_eqs (ev_ixT (ds := [.str "step", .int (a : Nat), .int (b : Nat)]) (ev_var 3) ev_int rfl) ev_str) fun h => not0 hne1 h)) (and0 hne1)) ?_
    refine b_ifr (b := true) (et_is (et_w (ew_and (et_eqs (ev_ixT (ds := [.str "step", .int (a : Nat), .int (b : Nat)]) (ev_var 3) ev_int rfl) ev_str) fun _ => ew_and (et_eq (ev_lenT W (ds := [.str "step", .int (a : Nat), .int (b : Nat)]) (ev_var 3)) ev_int) fun _ => ew_and (et_ge (ev_var 4) ev_int) fun _ => ew_and (et_lt (ev_var 4) (ev_lenL W (ev_var 0))) fun _ => ew_and1 (et_inI (ns := near.getD a []) (ev_ixT (ev_var 3) ev_int d3) (ev_ixL (ev_var 0) (ev_var 4) (atI_mapN (f := dL) (l := near) (d := []) (by rw [hnl]; exact ha))) (.inl rfl)))) ?_) (fun _ => ?_) (fun h => nomatch h)
    · have : decide (((b : Nat) : Int) ∈ near.getD a []) = true := decide_eq_true hab
      rw [List.length_map, hnl, this]
      simp
      omega
    · exact b_end (R := D K (encF ⟨a, b, 1, ld (pic.getD a 0) (pic.getD b 0)⟩)) (ev_tupD (ds := (inF ⟨a, b, 1, ld (pic.getD a 0) (pic.getD b 0)⟩).map PyData.int) (ea_cons (ev_var 4) (ea_cons (ev_ixT (ev_var 3) ev_int d3) (ea_cons ev_int (ea_cons (ev_callR (pic.getD a 0, pic.getD b 0) Gl' hr (ea_cons (ev_ixT (ev_var 1) (ev_var 4) (atI_mapN (f := PyData.int) (l := pic) (d := 0) (by rw [hpl]; exact ha))) (ea_cons (ev_ixT (ev_var 1) (ev_ixT (ev_var 3) ev_int d3) (atI_mapN (f := PyData.int) (l := pic) (d := 0) (by rw [hpl]; exact hb))) ea_nil)) trivial) ea_nil))))) rfl
  | both i j =>
    obtain ⟨p, q, e1, e2, hpq, rfl⟩ := (hok : ∃ p q, facts[i]? = some p ∧ facts[j]? = some q ∧ p.b = q.a ∧ fa = ⟨p.a, q.b, p.t + q.t, p.g + q.g⟩)
    have hi := (List.getElem?_eq_some_iff.mp e1).1
    have hj := (List.getElem?_eq_some_iff.mp e2).1
    have d3 : atI [PyData.str "both", .int (i : Nat), .int (j : Nat)] 2 = some (.int (j : Nat)) := rfl
    refine b_set (i := 4) nd (ev_ixT (ds := [.str "both", .int (i : Nat), .int (j : Nat)]) (ev_var 3) ev_int rfl) ?_
    refine b_ifF (et_is (et_w (ew_and (q := false) (et_eqs (ev_ixT (ds := [.str "both", .int (i : Nat), .int (j : Nat)]) (ev_var 3) ev_int rfl) ev_str) fun h => not0 hne2 h)) (and0 hne2)) ?_
    refine b_ifF (et_is (et_w (ew_and (q := false) (et_eqs (ev_ixT (ds := [.str "both", .int (i : Nat), .int (j : Nat)]) (ev_var 3) ev_int rfl) ev_str) fun h => not0 hne3 h)) (and0 hne3)) ?_
    refine b_if (b := true) (et_is (et_w (ew_and (et_eqs (ev_ixT (ds := [.str "both", .int (i : Nat), .int (j : Nat)]) (ev_var 3) ev_int rfl) ev_str) fun _ => ew_and (et_eq (ev_lenT W (ds := [.str "both", .int (i : Nat), .int (j : Nat)]) (ev_var 3)) ev_int) fun _ => ew_and (et_ge (ev_minT W rfl hr (ev_fromT (ds := [.str "both", .int (i : Nat), .int (j : Nat)]) (n := 1) (ev_var 3) ev_int rfl (by decide) (Nat.succ_pos _))) ev_int) fun _ => ew_and1 (et_lt (ev_maxT W rfl hr (ev_fromT (ds := [.str "both", .int (i : Nat), .int (j : Nat)]) (n := 1) (ev_var 3) ev_int rfl (by decide) (Nat.succ_pos _))) (ev_lenL W (ev_var 2))))) ?_) (fun _ => ⟨fun _ _ => False, ?_, ⟨fun _ _ _ _ _ _ q => q.1.elim⟩⟩) (fun h => nomatch h)
    · rw [List.length_map]
      simp
      omega
    · refine b_set (i := 5) nd (ev_ixL (ev_var 2) (ev_var 4) (fact_at e1)) ?_
      refine b_set (i := 6) nd (ev_ixL (ev_var 2) (ev_ixT (ev_var 3) ev_int d3) (fact_at e2)) ?_
      have x0 : ∀ g : Fact, atI ((inF g).map PyData.int) 0 = some (.int (g.a : Nat)) := fun g => rfl
      have x1 : ∀ g : Fact, atI ((inF g).map PyData.int) 1 = some (.int (g.b : Nat)) := fun g => rfl
      have x2 : ∀ g : Fact, atI ((inF g).map PyData.int) 2 = some (.int (g.t : Nat)) := fun g => rfl
      have x3 : ∀ g : Fact, atI ((inF g).map PyData.int) 3 = some (.int g.g) := fun g => rfl
      refine b_ifr (b := true) (et_is (et_eq (ev_ixT (ev_var 5) ev_int (x1 p)) (ev_ixT (ev_var 6) ev_int (x0 q))) (by rw [hpq]; simp)) (fun _ => ?_) (fun h => nomatch h)
      have et : ((p.t + q.t : Nat) : Int) = (p.t : Nat) + (q.t : Nat) := by omega
      refine b_end (R := D K (encF ⟨p.a, q.b, p.t + q.t, p.g + q.g⟩)) (ev_tupD (ds := (inF ⟨p.a, q.b, p.t + q.t, p.g + q.g⟩).map PyData.int) (ea_cons (ev_ixT (ev_var 5) ev_int (x0 p)) (ea_cons (ev_ixT (ev_var 6) ev_int (x1 q)) (ea_cons (ev_int_is (ev_add (ev_ixT (ev_var 5) ev_int (x2 p)) (ev_ixT (ev_var 6) ev_int (x2 q))) et.symm) (ea_cons (ev_add (ev_ixT (ev_var 5) ev_int (x3 p)) (ev_ixT (ev_var 6) ev_int (x3 q))) ea_nil))))) rfl
end
end Fr
set_option Elab.async false
set_option linter.all false
set_option maxRecDepth 100000
set_option maxHeartbeats 4000000
namespace Fr
open PySem PySem.Spec PySem.Calls L2
section
variable {P : Program} {w : World} {K : PySem.W.Frag} {mg : Str → Option Value} {base : Heap}
structure FactsArg (n : Nat) (near : List (List Int)) (pic : List Int) (rows : List Row) (facts : List Fact) : Prop where
  nl : near.length = n
  pl : pic.length = n
  rl : rows.length ≤ 90000
  ok : RowsOk n (adjI near) pic rows facts
def rpFacts (K : PySem.W.Frag) (facts : List Fact) : RP := LR [LP K (facts.map encF), Nn K]
def fsFacts (K : PySem.W.Frag) : FS (Nat × List (List Int) × List Int × List Row × List Fact) := ⟨fun x => [D K (dN x.2.1), D K (dT x.2.2.1), D K (.tuple (x.2.2.2.1.map encR))], fun x => FactsArg x.1 x.2.1 x.2.2.1 x.2.2.2.1 x.2.2.2.2, fun x => rpFacts K x.2.2.2.2⟩
theorem ok_l_facts {f : Addr} {fd : FuncData} (W : Bi mg) (G : Df P w K mg base "_law_fact" 2 4 (fsFact K)) (Fn : Fun K "_law_facts" "_law_facts" s_l_facts f fd) : FnOk P w K mg base CX0 3 f fd ["_law_near_here", "_law_picture_here", "_law_rows"] ((fsFacts K).sp 3) := by
  refine FS.ok (fsFacts K) Fn sc_l_facts rfl fun cdv A outer s H E M y hr hp => ?_
  obtain ⟨n, near, pic, rows, facts⟩ := y
  have hp : FactsArg n near pic rows facts := hp
  obtain ⟨hnl, hpl, hrl, hok⟩ := hp
  have nd := sc_l_facts.nd
  refine b_own (i := 3) nd (en_lstD (ds := []) ea_nil) fun p => ?_
  refine b_for rfl PassesOwn.never (it_rng1 (n := rows.length) W (ev_lenT W (ds := rows.map encR) (ev_var 2)) (by rw [List.length_map]) (by omega))
    (fun i => [some (D K (dN near)), some (D K (dT pic)), some (D K (.tuple (rows.map encR))), some (Vl (.ref p)), none, none])
    (fun i => [(p, LO K ((facts.take i).map encF))])
    (fun i x => [some (D K (dN near)), some (D K (dT pic)), some (D K (.tuple (rows.map encR))), some (Vl (.ref p)), some (I K (x : Nat)), none]) [4] rfl
    (Le.refl _) (fun gv gR i x h => tg_name (i := 4) nd) (fun gv gR i v h => ?_) ?_
  · obtain ⟨hv, rfl⟩ := range_at h
    obtain ⟨r, er⟩ : ∃ r, rows[v]? = some r := ⟨_, List.getElem?_eq_getElem hv⟩
    obtain ⟨fa, ef⟩ : ∃ f, facts[v]? = some f := ⟨_, List.getElem?_eq_getElem (by rw [← hok.len]; exact hv)⟩
    have hk := hok.ok v r fa er ef
    have hl : (facts.take v).length ≤ 90000 := by rw [List.length_take, ← hok.len]; omega
    have ix : atI (rows.map encR) (v : Nat) = some (encR r) := by
      refine atI_nat ?_
      rw [List.getElem?_map, er]; rfl
    refine b_set (i := 5) (R := D K (encF fa)) nd (ev_lend (j := 0) (p := p) (ds := (facts.take v).map encF) (As := [D K (dN near), D K (dT pic), Vl (.ref p), D K (encR r)]) (n, near, pic, facts.take v, r, fa) G hr rfl (ea_cons (ev_var 0) (ea_cons (ev_var 1) (ea_cons (ev_var 3) (ea_cons (ev_ixT (ev_var 2) (ev_var 4) ix) ea_nil)))) (fun G vs h1 h2 => ?_) rfl ⟨hnl, hpl, hl, hk⟩ rfl rfl) ?_
    · match vs, h2 with
      | [a, b, c, d], h2 =>
        obtain ⟨h3, h4, h5, h6, _⟩ := h2
        have h5 : c = .ref p := h5
        subst h5
        exact ⟨h3, h4, h1, h6, trivial⟩
    · refine b_ifF (et_is (et_isN (ev_var 5)) rfl) ?_
      refine b_appD (k := 0) (ev_var 3) rfl (ev_var 5) (by rw [List.length_map]; omega) ?_
      exact b_nil fun σ H s => s.cast (.keep (.keep (.keep (.keep (.drop (.drop .nil)))))) (by rw [take_snoc ef, List.map_append]; rfl)
  · rw [List.length_range, hok.len, List.take_length]
    refine b_frzD (k := 0) (i := 3) rfl rfl ?_
    exact b_end (R := rpFacts K facts) (ev_new (en_lst (ea_cons (ev_var 3) (ea_cons ev_non ea_nil)) (Nat.le_of_ble_eq_true rfl))) rfl
end
end Fr
set_option Elab.async false
set_option linter.all false
set_option maxRecDepth 100000
set_option maxHeartbeats 4000000
namespace Fr
open PySem PySem.Spec PySem.Calls L2
section
variable {P : Program} {w : World} {K : PySem.W.Frag} {mg : Str → Option Value} {base : Heap}
/-! frozen -/
def fit : Nat → PyData → Prop
  | 0, d => scal d = true
  | m + 1, .list ds => ds.length ≤ 100000 ∧ ∀ x ∈ ds, fit m x
  | m + 1, .tuple ds => ds.length ≤ 100000 ∧ ∀ x ∈ ds, fit m x
  | _ + 1, d => scal d = true
def frz : Nat → PyData → PyData
  | 0, d => d
  | m + 1, .list ds => .tuple (ds.map (frz m))
  | m + 1, .tuple ds => .tuple (ds.map (frz m))
  | _ + 1, d => d
theorem kitScal {d : PyData} (h : scal d = true) : PySem.W.kitAny K (.type (tyNm d)) [.type "list", .type "tuple"] = some false := by
  cases d with
  | none => exact kitAny_cons (kit_ty (by decide +kernel : kitB "NoneType" "list" = some false)) (fun _ => kitAny_cons (kit_ty (by decide +kernel : kitB "NoneType" "tuple" = some false)) (fun _ => kitAny_nil) (fun h => nomatch h)) (fun h => nomatch h)
  | bool b => exact kitAny_cons (kit_ty (by decide +kernel : kitB "bool" "list" = some false)) (fun _ => kitAny_cons (kit_ty (by decide +kernel : kitB "bool" "tuple" = some false)) (fun _ => kitAny_nil) (fun h => nomatch h)) (fun h => nomatch h)
  | int b => exact kitAny_cons (kit_ty (by decide +kernel : kitB "int" "list" = some false)) (fun _ => kitAny_cons (kit_ty (by decide +kernel : kitB "int" "tuple" = some false)) (fun _ => kitAny_nil) (fun h => nomatch h)) (fun h => nomatch h)
  | str b => exact kitAny_cons (kit_ty (by decide +kernel : kitB "str" "list" = some false)) (fun _ => kitAny_cons (kit_ty (by decide +kernel : kitB "str" "tuple" = some false)) (fun _ => kitAny_nil) (fun h => nomatch h)) (fun h => nomatch h)
  | list ds => cases h
  | tuple ds => cases h
  | dict ds => cases h
theorem kitLst : PySem.W.kitAny K (.type "list") [.type "list", .type "tuple"] = some true := kitAny_cons (kit_ty (by decide +kernel : kitB "list" "list" = some true)) (fun h => nomatch h) (fun _ => rfl)
theorem kitTup : PySem.W.kitAny K (.type "tuple") [.type "list", .type "tuple"] = some true := kitAny_cons (kit_ty (by decide +kernel : kitB "tuple" "list" = some false)) (fun _ => kitAny_cons (kit_ty (by decide +kernel : kitB "tuple" "tuple" = some true)) (fun h => nomatch h) (fun _ => rfl)) (fun h => nomatch h)
def fsFrozen (K : PySem.W.Frag) (m : Nat) : FS PyData := ⟨fun d => [D K d], fun d => fit m d, fun d => D K (frz m d)⟩
theorem ok_frozen {f : Addr} {fd : FuncData} (W : Bi mg) (hm : mg "frozen" = some (.ref f)) (hk : PySem.W.keepIn K (.ref f) = true) (hb : Binds K fd ["value"] []) (Fn : Fun K "frozen" "frozen" s_frozen f fd) : ∀ m, FnOk P w K mg base CX0 (m + 1) f fd ["value"] ((fsFrozen K m).sp 1)
  | 0 => by
    refine FS.ok (fsFrozen K 0) Fn sc_frozen rfl fun cdv A outer s H E M d hr hp => ?_
    have hp : scal d = true := hp
    exact b_ifF (et_val (ev_isi2 W (d := d) (ev_var 0) (ev_tupR (ea_cons (ev_ty W.list (by decide +kernel)) (ea_cons (ev_ty W.tuple (by decide +kernel)) ea_nil)) (Nat.le_of_ble_eq_true rfl)) (kitScal hp))) (b_end (ev_var 0) rfl)
  | m + 1 => by
    have ih := ok_frozen W hm hk hb Fn m
    have G : Df P w K mg base "frozen" (m + 1) 1 (fsFrozen K m) := ⟨f, fd, _, ih, hm, hk, hb⟩
    refine FS.ok (fsFrozen K (m + 1)) Fn sc_frozen rfl fun cdv A outer s H E M d hr hp => ?_
    have nd := sc_frozen.nd
    have scl : scal d = true → frz (m + 1) d = d → BK (cxOf CX0 P w K mg base N_frozen "frozen" (defScope s_frozen) f cdv A outer s H E).nox ⟨H, M, []⟩ (argsG ((fsFrozen K (m + 1)).arg d) N_frozen.length) [] (defBody s_frozen) (fnP ⟨H, M, []⟩ ((fsFrozen K (m + 1)).res d)) := fun hs he => by
      refine b_ifF (et_val (ev_isi2 W (d := d) (ev_var 0) (ev_tupR (ea_cons (ev_ty W.list (by decide +kernel)) (ea_cons (ev_ty W.tuple (by decide +kernel)) ea_nil)) (Nat.le_of_ble_eq_true rfl)) (kitScal hs))) (b_end (R := D K (frz (m + 1) d)) ?_ rfl)
      rw [he]
      exact ev_var 0
    cases d with
    | none => exact scl rfl rfl
    | bool b => exact scl rfl rfl
    | int b => exact scl rfl rfl
    | str b => exact scl rfl rfl
    | dict ds => cases hp
    | list ds =>
      have hp : ds.length ≤ 100000 ∧ ∀ x ∈ ds, fit m x := hp
      refine b_ifr (et_val (ev_isi2 W (d := .list ds) (ev_var 0) (ev_tupR (ea_cons (ev_ty W.list (by decide +kernel)) (ea_cons (ev_ty W.tuple (by decide +kernel)) ea_nil)) (Nat.le_of_ble_eq_true rfl)) kitLst)) (fun _ => ?_) (fun h => nomatch h)
      exact b_end (R := D K (.tuple (ds.map (frz m)))) (ev_tupleL W (ev_newD (en_lcM (own := [("item", 1)]) (xs := ds) (it := D K) (g := frz m) (js := [1]) (Γt := fun x => [some (D K (.list ds)), some (D K x)]) rfl nd (it_list (ev_var 0)) (blkOk_by (N := N_frozen) (sc := defScope s_frozen) (by decide +kernel))
        (LcH.all (fun _ _ _ _ _ _ _ _ _ x hx => tg_name (i := 1) nd) (fun _ _ _ _ _ _ _ _ _ x hx => ev_callR x G hr (ea_cons (ev_var 1) ea_nil) (hp.2 x hx)) (fun j h => h) hp.1)))) rfl
    | tuple ds =>
      have hp : ds.length ≤ 100000 ∧ ∀ x ∈ ds, fit m x := hp
      refine b_ifr (et_val (ev_isi2 W (d := .tuple ds) (ev_var 0) (ev_tupR (ea_cons (ev_ty W.list (by decide +kernel)) (ea_cons (ev_ty W.tuple (by decide +kernel)) ea_nil)) (Nat.le_of_ble_eq_true rfl)) kitTup)) (fun _ => ?_) (fun h => nomatch h)
      exact b_end (R := D K (.tuple (ds.map (frz m)))) (ev_tupleL W (ev_newD (en_lcM (own := [("item", 1)]) (xs := ds) (it := D K) (g := frz m) (js := [1]) (Γt := fun x => [some (D K (.tuple ds)), some (D K x)]) rfl nd (it_tup (ev_var 0)) (blkOk_by (N := N_frozen) (sc := defScope s_frozen) (by decide +kernel))
        (LcH.all (fun _ _ _ _ _ _ _ _ _ x hx => tg_name (i := 1) nd) (fun _ _ _ _ _ _ _ _ _ x hx => ev_callR x G hr (ea_cons (ev_var 1) ea_nil) (hp.2 x hx)) (fun j h => h) hp.1)))) rfl
end
end Fr
set_option Elab.async false
set_option linter.all false
set_option maxRecDepth 100000
set_option maxHeartbeats 4000000
namespace Fr
open PySem PySem.Spec PySem.Calls L2
section
variable {P : Program} {w : World} {K : PySem.W.Frag} {mg : Str → Option Value} {base : Heap}
/-! checked_lines -/
structure LsOk (n : Nat) (ls : List (Nat × Nat)) : Prop where
  ok : LinesOk n ls
  nz : n ≤ 60
abbrev SameLs (ls : List (Nat × Nat)) : Type := {ls' : List (Nat × Nat) // (∀ p, p ∈ ls' ↔ p ∈ ls) ∧ ls'.length ≤ 64}
def dLT (ls : List (Nat × Nat)) : PyData := .tuple (ls.map dP)
def fsChecked (K : PySem.W.Frag) : FS (Nat × List (Nat × Nat)) := ⟨fun x => [I K (x.1 : Nat), D K (dLT x.2)], fun x => LsOk x.1 x.2, fun x => Exi fun l : SameLs x.2 => D K (dLT l.1)⟩
def pI (p : Nat × Nat) : List Int := [(p.1 : Int), (p.2 : Int)]
def ipL (k : List Int) : Nat × Nat := ((k.getD 0 0).toNat, (k.getD 1 0).toNat)
theorem ip_pI (p : Nat × Nat) : ipL (pI p) = p := by
  obtain ⟨a, b⟩ := p
  show (((a : Int)).toNat, ((b : Int)).toNat) = _
  rw [Int.toNat_natCast, Int.toNat_natCast]
theorem ok_checked_lines {f : Addr} {fd : FuncData} (W : Bi mg) (Fn : Fun K "checked_lines" "checked_lines" s_checked_lines f fd) : FnOk P w K mg base CX0 1 f fd ["size", "pairs"] ((fsChecked K).sp 2) := by
  refine FS.ok (fsChecked K) Fn sc_checked_lines rfl fun cdv A outer s H E M y hr hp => ?_
  obtain ⟨n, ls⟩ := y
  have hp : LsOk n ls := hp
  have nd := sc_checked_lines.nd
  have hlt : ∀ p ∈ ls, p.1 < p.2 ∧ p.2 < n := hp.ok.lt
  have hle := hp.ok.le
  refine b_for rfl PassesOwn.never (ds := ls.zipIdx) (it := fun p : (Nat × Nat) × Nat => Enu K (dP p.1, p.2)) (it_of_map (g := fun p : (Nat × Nat) × Nat => (dP p.1, p.2)) (by rw [← zipIdx_map' dP]; exact it_enuT W (ds := ls.map dP) (ev_var 1)))
    (fun _ => [some (I K (n : Nat)), some (D K (dLT ls)), none, none, none]) (fun _ => []) (fun _ x => [some (I K (n : Nat)), some (D K (dLT ls)), some (I K (x.2 : Nat)), some (I K (x.1.1 : Nat)), some (I K (x.1.2 : Nat))]) ([2] ++ (([3] ++ ([4] ++ [])) ++ [])) rfl (Le.refl _)
    (fun gv gR i x h => tg_tupR rfl (tgs_cons (tg_name (i := 2) nd) (tgs_cons (tg_tup (ds := [.int (x.1.1 : Nat), .int (x.1.2 : Nat)]) rfl (tgs_cons (tg_name (i := 3) nd) (tgs_cons (tg_name (i := 4) nd) tgs_nil))) tgs_nil))) (fun gv gR i x h => ?_) ?_
  · obtain ⟨⟨a, b⟩, j⟩ := x
    have hm : (a, b) ∈ ls := by
      have := List.mem_of_getElem? h
      exact (List.mem_zipIdx this).2.2 ▸ List.getElem_mem _
    obtain ⟨h1, h2⟩ := hlt _ hm
    have h1 : a < b := h1
    have h2 : b < n := h2
    refine b_ifF (et_is (et_w (ew_or (et_eq (ev_var 3) (ev_var 4)) fun _ => ew_or (et_not (et_in ev_int (ev_var 3) (ev_var 0))) fun _ => ew_or1 (et_not (et_in ev_int (ev_var 4) (ev_var 0))))) ?_) ?_
    · simp
      omega
    · exact b_nil fun σ H s => s.le (.keep (.keep (.drop (.drop (.drop .nil)))))
  · have he : ∀ (y : SameAs (ls.map pI)), (∀ p, p ∈ y.1.map ipL ↔ p ∈ ls) ∧ (y.1.map ipL).length ≤ 64 ∧ .tuple (dTs y.1) = dLT (y.1.map ipL) := fun ⟨l, h1, h2⟩ => by
      have hk : ∀ k ∈ l, pI (ipL k) = k := fun k hk => by
        obtain ⟨p, _, rfl⟩ := List.mem_map.mp ((h1 k).mp hk)
        rw [ip_pI]
      refine ⟨fun p => ?_, by rw [List.length_map]; exact h2, ?_⟩
      · constructor
        · intro h
          obtain ⟨k, hk1, rfl⟩ := List.mem_map.mp h
          obtain ⟨q, hq, e⟩ := List.mem_map.mp ((h1 k).mp hk1)
          rw [← e, ip_pI]; exact hq
        · intro h
          refine List.mem_map.mpr ⟨pI p, (h1 _).mpr (List.mem_map.mpr ⟨p, h, rfl⟩), ip_pI p⟩
      · unfold dLT dTs
        rw [List.map_map]
        congr 1
        refine List.map_congr_left fun k hk' => ?_
        show PyData.tuple (k.map .int) = .tuple ((pI (ipL k)).map .int)
        rw [hk k hk']
    refine b_endL (R' := Exi fun l : SameAs (ls.map pI) => D K (.tuple (dTs l.1))) (ev_tupleE W (ev_sortedT W (d := 2) (B := 64) rfl (ev_setC (own := [("a", 3), ("b", 4)]) (xs := ls) (it := fun p => D K (dP p)) (f := pI) (js := [3] ++ ([4] ++ [])) (Γt := fun p => [some (I K (n : Nat)), some (D K (dLT ls)), none, some (I K (p.1 : Nat)), some (I K (p.2 : Nat))]) rfl hr nd (it_mapT (ev_var 1)) (blkOk_by (N := N_checked_lines) (sc := defScope s_checked_lines) (by decide +kernel))
      (fun _ _ _ _ _ _ _ _ _ p hp => tg_tup (ds := [.int (p.1 : Nat), .int (p.2 : Nat)]) rfl (tgs_cons (tg_name (i := 3) nd) (tgs_cons (tg_name (i := 4) nd) tgs_nil)))
      (fun _ _ _ _ _ _ _ _ _ p hp => ?_) (fun j h => h) (by omega)) (by decide) ?_)) rfl (fun G v r => by
      obtain ⟨y, r⟩ := r
      refine ⟨⟨y.1.map ipL, (he y).1, (he y).2.1⟩, ?_⟩
      show (D K (dLT (y.1.map ipL))).r G v
      rw [← (he y).2.2]
      exact r)
    · have h1 := hlt p hp
      refine ev_tupD (ds := [.int (p.1 : Nat), .int (p.2 : Nat)]) (ea_cons (ev_int_is (ev_min2 W rfl (ev_var 3) (ev_var 4)) (if_neg (by omega))) (ea_cons (ev_int_is (ev_max2 W rfl (ev_var 3) (ev_var 4)) (if_pos (by omega))) ea_nil))
    · intro k hk
      obtain ⟨p, hp', rfl⟩ := List.mem_map.mp hk
      have h1 := hlt p hp'
      have h2 := hp.nz
      refine ⟨rfl, fun m hm => ?_⟩
      have : m = (p.1 : Int) ∨ m = (p.2 : Int) := by simpa [pI] using hm
      rcases this with rfl | rfl <;> omega
/-! neighbour_rows -/
structure AroOf (n : Nat) (ls : List (Nat × Nat)) (cs : List (List Int)) : Prop where
  len : cs.length = n
  mem : ∀ (v : Nat) (w : Int), w ∈ cs.getD v [] ↔ ∃ u : Nat, w = (u : Nat) ∧ ((v, u) ∈ ls ∨ (u, v) ∈ ls)
def dNT (cs : List (List Int)) : PyData := .tuple (cs.map dT)
structure RowsArg (n : Nat) (ls : List (Nat × Nat)) : Prop where
  lt : ∀ p ∈ ls, p.1 < p.2 ∧ p.2 < n
  le : ls.length ≤ 64
  nz : n ≤ 60
def fsRows (K : PySem.W.Frag) : FS (Nat × List (Nat × Nat)) := ⟨fun x => [I K (x.1 : Nat), D K (dLT x.2)], fun x => RowsArg x.1 x.2, fun x => Exi fun cs : {cs : List (List Int) // AroOf x.1 x.2 cs} => D K (dNT cs.1)⟩
theorem ok_neighbour_rows {f : Addr} {fd : FuncData} (W : Bi mg) (Fn : Fun K "neighbour_rows" "neighbour_rows" s_neighbour_rows f fd) : FnOk P w K mg base CX0 1 f fd ["size", "lines"] ((fsRows K).sp 2) := by
  refine FS.ok (fsRows K) Fn sc_neighbour_rows rfl fun cdv A outer s H E M y hr hp => ?_
  obtain ⟨n, ls⟩ := y
  have hp : RowsArg n ls := hp
  have nd := sc_neighbour_rows.nd
  have hnz := hp.nz
  have hle := hp.le
  refine b_ownLcF (i := 2) (O := fun _ => LOR []) (own := [("place", 5)]) (xs := List.range n) (it := fun i => I K (i : Nat)) (js := [5]) (Γt := fun i => [some (I K (n : Nat)), some (D K (dLT ls)), none, none, none, some (I K (i : Nat)), none]) rfl nd (it_rng1 W (ev_var 0) rfl (by omega)) (blkOk_by (N := N_neighbour_rows) (sc := defScope s_neighbour_rows) (by decide +kernel))
    (fun _ _ _ _ _ _ _ _ _ x hx => tg_name (i := 5) nd) (fun _ _ _ _ _ _ _ _ _ x hx => ef_en (en_lst ea_nil (Nat.zero_le _))) (fun j h => h) (by rw [List.length_range]; omega) (by show 2 < 7; decide) fun ps hps => ?_
  rw [List.length_range] at hps
  refine b_forE rfl PassesOwn.never (it_mapT (xs := ls) (g := dP) (ev_var 1)) (fun i (cs : List (List Int)) => NearOf n (ls.take i) cs) (fun _ _ => [some (I K (n : Nat)), some (D K (dLT ls)), some (LR (Vp ps)), none, none, none, none]) (fun _ cs => rowsO K ps (cI cs)) (fun _ cs x => [some (I K (n : Nat)), some (D K (dLT ls)), some (LR (Vp ps)), some (I K (x.1 : Nat)), some (I K (x.2 : Nat)), none, none]) ([3] ++ ([4] ++ []))
    ⟨List.replicate n [], nearOf_nil, by
      have : cI (List.replicate n []) = List.replicate ps.length [] := by unfold cI; rw [List.map_replicate, hps]; rfl
      rw [this, rowsO_nil, List.append_nil], Le.refl _⟩ (fun gv gR i x y h c => tg_tup (ds := [.int (x.1 : Nat), .int (x.2 : Nat)]) rfl (tgs_cons (tg_name (i := 3) nd) (tgs_cons (tg_name (i := 4) nd) tgs_nil))) (fun gv gR i x cs h c => ?_) (fun cs c => ?_)
  · obtain ⟨a, b⟩ := x
    have hlt := hp.lt (a, b) (List.mem_of_getElem? h)
    have hlt : a < b ∧ b < n := hlt
    have ixp : ∀ j, j < n → atI (Vp ps) (j : Int) = some (Vl (.ref (ps.getD j 0))) := fun j hj => atI_mapN (f := fun p => Vl (.ref p)) (l := ps) (d := 0) (by omega)
    have hl1 : (addL cs a b).length = n := by unfold addL; rw [List.length_set, c.len]
    have bnd : ∀ j, (cs.getD j []).length ≤ 20000 := fun j => by
      by_cases hj : j < cs.length
      · have := c.sz _ (getD_mem' (d := []) hj)
        have h2 : (ls.take i).length ≤ ls.length := by rw [List.length_take]; exact Nat.min_le_right _ _
        omega
      · rw [List.getD_eq_getElem?_getD, List.getElem?_eq_none (by omega)]; simp
    refine b_appD (k := a) (p := ps.getD a 0) (d := .int (b : Int)) (ev_ixR (ev_var 2) (ev_var 3) (ixp a (by omega))) (rowsO_get (getD_get (by omega)) (cI_get (by rw [c.len]; omega))) (ev_var 4) (by rw [List.length_map]; have := bnd a; omega) ?_
    refine b_eqD (Δ' := rowsO K ps (cI (addL cs a b))) ((zipWith_set (f := fun p c => (p, LO K c)) (getD_get (by omega))).trans (by rw [cI_add])) ?_
    refine b_appD (k := b) (p := ps.getD b 0) (d := .int (a : Int)) (ev_ixR (ev_var 2) (ev_var 4) (ixp b (by omega))) (rowsO_get (getD_get (by omega)) (cI_get (by rw [hl1]; omega))) (ev_var 3) (by
      rw [List.length_map]
      unfold addL
      rw [getD_set (by rw [c.len]; omega), if_neg (by omega)]
      have := bnd b; omega) ?_
    refine b_eqD (Δ' := rowsO K ps (cI (addL (addL cs a b) b a))) ((zipWith_set (f := fun p c => (p, LO K c)) (getD_get (by omega))).trans (by rw [cI_add])) ?_
    refine b_nil fun σ H s => ⟨addL (addL cs a b) b a, by rw [take_snoc h]; exact nearOf_add c (by omega) (by omega) (by omega), s.cast (.keep (.keep (.keep (.drop (.drop (.drop (.drop .nil))))))) rfl⟩
  · have c : NearOf n ls cs := by have c' := c; rw [List.take_length] at c'; exact c'
    have c' := nearOf_srt c
    rw [← List.append_nil (rowsO K ps (cI cs))]
    refine b_frzRows (i := 2) (by unfold cI; rw [List.length_map, c.len, hps]) rfl ?_
    refine b_endE (Q := fun cs : {cs : List (List Int) // AroOf n ls cs} => D K (dNT cs.1)) ⟨cs.map srt, c'.len, c'.mem⟩ ?_ rfl
    show EV _ _ _ _ _ (D K (dNT (cs.map srt)))
    have e : dNT (cs.map srt) = .tuple (cs.map fun c => dT (srt c)) := by unfold dNT; rw [List.map_map]; rfl
    rw [e]
    have e2 : (cI cs).map PyData.list = cs.map dL := by unfold cI; rw [List.map_map]; rfl
    rw [e2]
    exact ev_tupleL W (ev_newD (en_lcM (own := [("row", 6)]) (xs := cs) (it := fun c => D K (dL c)) (js := [6]) (Γt := fun c => [some (I K (n : Nat)), some (D K (dLT ls)), some (LP K (cs.map dL)), none, none, none, some (D K (dL c))]) rfl nd (it_mapL (ev_le (ev_var 2) LP_D)) (blkOk_by (N := N_neighbour_rows) (sc := defScope s_neighbour_rows) (by decide +kernel))
      (LcH.all (fun _ _ _ _ _ _ _ _ _ x hx => tg_name (i := 6) nd) (fun _ _ _ _ _ _ _ _ _ x hx => ev_tupleL W (ev_le (ev_sortedI W (ev_var 6)) LP_D)) (fun j h => h) (by rw [c.len]; omega))))
end
end Fr
set_option Elab.async false
set_option linter.all false
set_option maxRecDepth 100000
set_option maxHeartbeats 4000000
namespace Fr
open PySem PySem.Spec PySem.Calls L2
section
variable {P : Program} {w : World} {K : PySem.W.Frag} {mg : Str → Option Value} {base : Heap}
/-! the Web -/
def webF (K : PySem.W.Frag) (n : Nat) (ls : List (Nat × Nat)) : Fds := [("size", I K (n : Nat)), ("lines", Exi fun l : SameLs ls => D K (dLT l.1)), ("around", Exi fun cs : {cs : List (List Int) // AroOf n ls cs} => D K (dNT cs.1))]
structure WebArg (n : Nat) (ls : List (Nat × Nat)) (d : PyData) : Prop where
  ok : LsOk n ls
  ft : fit 2 d
  fz : frz 2 d = dLT ls
def isWeb (K : PySem.W.Frag) : IS (Nat × List (Nat × Nat) × PyData) := ⟨fun x => [I K (x.1 : Nat), D K x.2.2], fun x => WebArg x.1 x.2.1 x.2.2, fun x => webF K x.1 x.2.1⟩
theorem ok_Web_init {f C : Addr} {fd : FuncData} (W : Bi mg) (T : Cls K C) (n1 : NoAttr K C "size") (n2 : NoAttr K C "lines") (n3 : NoAttr K C "around") (Gf : Df P w K mg base "frozen" 3 1 (fsFrozen K 2)) (Gc : Df P w K mg base "checked_lines" 1 2 (fsChecked K)) (Gr : Df P w K mg base "neighbour_rows" 1 2 (fsRows K))
    {dvs : List V} (Fn : FunD K "__init__" "Web.__init__" (defArgs s_Web_init) (defBody s_Web_init) (defScope s_Web_init) dvs [] f fd) : FnOk P w K mg base CX0 4 f fd ["self", "size", "lines"] ((isWeb K).sp C 3) := by
  refine IS.okD (isWeb K) Fn sc_Web_init rfl fun cdv A outer s H E M y p dx hr hp => ?_
  obtain ⟨n, ls, d⟩ := y
  have hp : WebArg n ls d := hp
  have nd := sc_Web_init.nd
  refine b_fld (k := 0) (ev_var 1) (ev_var 0) rfl T n1 (by decide) (by decide) ?_
  refine b_fld (k := 0) (R := Exi fun l : SameLs ls => D K (dLT l.1)) (ev_callR (n, ls) Gc (hr.mono (by decide)) (ea_cons (ev_var 1) (ea_cons (ev_callR d Gf hr (ea_cons (ev_var 2) ea_nil) hp.ft (by show D K (frz 2 d) = D K (dLT ls); rw [hp.fz])) ea_nil)) hp.ok) (ev_var 0) rfl T n2 (show ¬ ("lines" : Str) ∈ (["size"] : List Str) from by decide +kernel) (Nat.le_of_ble_eq_true rfl) ?_
  refine b_fld (k := 0) (R := Exi fun cs : {cs : List (List Int) // AroOf n ls cs} => D K (dNT cs.1)) (ev_call (As := [I K (n : Nat), Exi fun l : SameLs ls => D K (dLT l.1)]) Gr (hr.mono (by decide)) (ea_cons (ev_var 1) (ea_cons (ev_fldO (k := 0) (ev_var 0) rfl T n2 rfl) ea_nil)) ⟨rfl, fun G vs h => ?_⟩) (ev_var 0) rfl T n3 (show ¬ ("around" : Str) ∈ (["size", "lines"] : List Str) from by decide +kernel) (Nat.le_of_ble_eq_true rfl) ?_
  · obtain ⟨v, u, rfl, h1, ⟨l, hl1, hl2⟩, h2⟩ := h.two
    refine ⟨(n, l), ⟨h1, h2, trivial⟩, ⟨fun p hp' => hp.ok.ok.lt p ((hl1 p).mp hp'), hl2, hp.ok.nz⟩, fun G' v' r => ?_⟩
    obtain ⟨⟨cs, c1, c2⟩, r⟩ := r
    refine ⟨⟨cs, c1, fun v w => ?_⟩, r⟩
    rw [c2]
    constructor
    · rintro ⟨q, e, k⟩
      exact ⟨q, e, k.imp (hl1 _).mp (hl1 _).mp⟩
    · rintro ⟨q, e, k⟩
      exact ⟨q, e, k.imp (hl1 _).mpr (hl1 _).mpr⟩
  · exact b_initEnd rfl rfl rfl
/-- its fields, chosen -/
def webG (K : PySem.W.Frag) (n : Nat) (l : List (Nat × Nat)) (cs : List (List Int)) : Fds := [("size", I K (n : Nat)), ("lines", D K (dLT l)), ("around", D K (dNT cs))]
abbrev WebCh (n : Nat) (ls : List (Nat × Nat)) : Type := {y : List (Nat × Nat) × List (List Int) // AroOf n ls y.2}
theorem webF_E {C : Addr} {n : Nat} {ls : List (Nat × Nat)} (G : Hp) (v : V) (h : (InR C (webF K n ls)).r G v) : (Exi fun y : WebCh n ls => InR C (webG K n y.1.1 y.1.2)).r G v := by
  obtain ⟨a, dx, vs, e, h1, h2⟩ := h
  match vs, h2 with
  | [x, y, z], h2 =>
    obtain ⟨g1, ⟨l, g2⟩, ⟨cs, g3⟩, _⟩ := h2
    exact ⟨⟨(l.1, cs.1), cs.2⟩, a, dx, [x, y, z], e, h1, g1, g2, g3, trivial⟩
/-! the Scene -/
def scnF (K : PySem.W.Frag) (Cw : Addr) (n : Nat) (l : List (Nat × Nat)) (cs : List (List Int)) (pic : List Int) : Fds := [("web", InR Cw (webG K n l cs)), ("picture", D K (dT pic))]
structure ScnArg (n : Nat) (pic : List Int) (d : PyData) : Prop where
  pc : PicOk n pic
  nz : n ≤ 60
  ft : fit 1 d
  fz : frz 1 d = dT pic
def isScn (K : PySem.W.Frag) (Cw : Addr) : IS (Nat × List (Nat × Nat) × List (List Int) × List Int × PyData) := ⟨fun x => [InR Cw (webG K x.1 x.2.1 x.2.2.1), D K x.2.2.2.2], fun x => ScnArg x.1 x.2.2.2.1 x.2.2.2.2, fun x => scnF K Cw x.1 x.2.1 x.2.2.1 x.2.2.2.1⟩
theorem ok_Scene_init {f C Cw : Addr} {fd : FuncData} (W : Bi mg) (T : Cls K C) (n1 : NoAttr K C "web") (n2 : NoAttr K C "picture") (Tw : Cls K Cw) (m1 : NoAttr K Cw "size") (Gf : Df P w K mg base "frozen" 2 1 (fsFrozen K 1))
    (Fn : Fun K "__init__" "Scene.__init__" s_Scene_init f fd) : FnOk P w K mg base CX0 3 f fd ["self", "web", "picture"] ((isScn K Cw).sp C 3) := by
  refine IS.ok (isScn K Cw) Fn sc_Scene_init rfl fun cdv A outer s H E M y p dx hr hp => ?_
  obtain ⟨n, l, cs, pic, d⟩ := y
  have hp : ScnArg n pic d := hp
  have nd := sc_Scene_init.nd
  have hl := hp.pc.len
  have hnz := hp.nz
  refine b_set (i := 3) (R := D K (dT pic)) nd (ev_callR d Gf hr (ea_cons (ev_var 2) ea_nil) hp.ft (by show D K (frz 1 d) = D K (dT pic); rw [hp.fz])) ?_
  have mx : (if ((pic.map PyData.int).length : Int) > (n : Nat) then ((pic.map PyData.int).length : Int) else (n : Nat)) = (n : Nat) := by
    rw [List.length_map, hl]; simp
  refine b_for rfl PassesOwn.never (it_rng1 (n := n) W (ev_max2 W rfl (ev_fld (ev_var 1) Tw m1 rfl) (ev_lenT W (ev_var 3))) mx (by omega)) (fun _ => [some (Vl (.ref p)), some (InR Cw (webG K n l cs)), some (D K d), some (D K (dT pic)), none]) (fun _ => [(p, InO C dx [])]) (fun _ x => [some (Vl (.ref p)), some (InR Cw (webG K n l cs)), some (D K d), some (D K (dT pic)), some (I K (x : Nat))]) [4] rfl (Le.refl _)
    (fun gv gR i x h => tg_name (i := 4) nd) (fun gv gR i v h => ?_) ?_
  · obtain ⟨hv, rfl⟩ := range_at h
    have hs : pic.getD v 0 = 0 ∨ pic.getD v 0 = 1 ∨ pic.getD v 0 = 2 := hp.pc.st _ (getD_mem' (by rw [hl]; exact hv))
    refine b_ifF (et_is (et_w (ew_or (et_ge (ev_var 4) (ev_fld (ev_var 1) Tw m1 rfl)) fun _ => ew_or (et_ge (ev_var 4) (ev_lenT W (ev_var 3))) fun _ => ew_or1 (et_ninI (ns := [0, 1, 2]) (ev_ixT (ev_var 3) (ev_var 4) (atI_mapN (f := PyData.int) (l := pic) (d := 0) (by rw [hl]; exact hv))) (ev_tupD (ds := [0, 1, 2].map PyData.int) (ea_cons ev_int (ea_cons ev_int (ea_cons ev_int ea_nil)))) (.inr rfl)))) ?_) ?_
    · have e3 : decide (pic.getD v 0 ∈ ([0, 1, 2] : List Int)) = true := by
        rcases hs with h | h | h <;> rw [h] <;> rfl
      rw [List.length_map, hl, e3]
      simp
      omega
    · exact b_nil fun σ H s => s.le (.keep (.keep (.keep (.keep (.drop .nil)))))
  · refine b_fld (k := 0) (ev_var 1) (ev_var 0) rfl T n1 (by decide) (by decide) ?_
    refine b_fld (k := 0) (ev_var 3) (ev_var 0) rfl T n2 (show ¬ ("picture" : Str) ∈ (["web"] : List Str) from by decide +kernel) (Nat.le_of_ble_eq_true rfl) ?_
    exact b_initEnd rfl rfl rfl
/-! the Table -/
def oD : Option Int → PyData
  | none => .none
  | some i => .int i
def dRow (r : List (Option Int)) : PyData := .tuple (r.map oD)
def dRowL (r : List (Option Int)) : PyData := .list (r.map oD)
def dTb (t : Tb) : PyData := .tuple (t.map dRow)
def dTbL (t : Tb) : PyData := .list (t.map dRowL)
def tabF (K : PySem.W.Frag) (t : Tb) : Fds := [("rows", D K (dTb t)), ("size", I K (t.length : Nat))]
def isTab (K : PySem.W.Frag) : IS (Nat × Tb) := ⟨fun x => [D K (dTbL x.2)], fun x => Sq x.1 x.2, fun x => tabF K x.2⟩
theorem frz_row (r : List (Option Int)) : frz 1 (dRowL r) = dRow r := by
  show PyData.tuple ((r.map oD).map (frz 0)) = .tuple (r.map oD)
  rw [List.map_map]; rfl
theorem frz_tb (t : Tb) : frz 2 (dTbL t) = dTb t := by
  show PyData.tuple ((t.map dRowL).map (frz 1)) = .tuple (t.map dRow)
  rw [List.map_map]
  congr 1
  exact List.map_congr_left fun r _ => frz_row r
theorem scal_oD (o : Option Int) : scal (oD o) = true := by cases o <;> rfl
theorem fit_tb {n : Nat} {t : Tb} (h : Sq n t) : fit 2 (dTbL t) := by
  have hnz := h.nz
  have hl := h.len
  refine ⟨by rw [List.length_map]; omega, fun x hx => ?_⟩
  obtain ⟨r, hr, rfl⟩ := List.mem_map.mp hx
  have := h.row r hr
  refine ⟨by rw [List.length_map]; omega, fun y hy => ?_⟩
  obtain ⟨o, _, rfl⟩ := List.mem_map.mp hy
  exact scal_oD o
theorem ok_Table_init {f C : Addr} {fd : FuncData} (W : Bi mg) (T : Cls K C) (n1 : NoAttr K C "rows") (n2 : NoAttr K C "size") (Gf : Df P w K mg base "frozen" 3 1 (fsFrozen K 2))
    (Fn : Fun K "__init__" "Table.__init__" s_Table_init f fd) : FnOk P w K mg base CX0 4 f fd ["self", "rows"] ((isTab K).sp C 2) := by
  refine IS.ok (isTab K) Fn sc_Table_init rfl fun cdv A outer s H E M y p dx hr hp => ?_
  obtain ⟨n, t⟩ := y
  have hp : Sq n t := hp
  have nd := sc_Table_init.nd
  have hl := hp.len
  have hnz := hp.nz
  refine b_set (i := 2) (R := D K (dTb t)) nd (ev_callR (dTbL t) Gf hr (ea_cons (ev_var 1) ea_nil) (fit_tb hp) (by show D K (frz 2 (dTbL t)) = D K (dTb t); rw [frz_tb])) ?_
  refine b_for rfl PassesOwn.never (ds := t.zipIdx) (it := fun p : List (Option Int) × Nat => Enu K (dRow p.1, p.2)) (it_of_map (g := fun p : List (Option Int) × Nat => (dRow p.1, p.2)) (by rw [← zipIdx_map' dRow]; exact it_enuT W (ds := t.map dRow) (ev_var 2)))
    (fun _ => [some (Vl (.ref p)), some (D K (dTbL t)), some (D K (dTb t)), none, none]) (fun _ => [(p, InO C dx [])]) (fun _ x => [some (Vl (.ref p)), some (D K (dTbL t)), some (D K (dTb t)), some (I K (x.2 : Nat)), some (D K (dRow x.1))]) ([3] ++ ([4] ++ [])) rfl (Le.refl _)
    (fun gv gR i x h => tg_tupR rfl (tgs_cons (tg_name (i := 3) nd) (tgs_cons (tg_name (i := 4) nd) tgs_nil))) (fun gv gR i x h => ?_) ?_
  · obtain ⟨r, j⟩ := x
    have hm : r ∈ t := by
      have := List.mem_of_getElem? h
      exact (List.mem_zipIdx this).2.2 ▸ List.getElem_mem _
    refine b_ifF (et_is (et_ne (ev_lenT W (ds := r.map oD) (ev_var 4)) (ev_lenT W (ds := t.map dRow) (ev_var 2))) ?_) ?_
    · rw [List.length_map, List.length_map, hp.row r hm, hl]; simp
    · exact b_nil fun σ H s => s.le (.keep (.keep (.keep (.drop (.drop .nil)))))
  · refine b_fld (k := 0) (ev_var 2) (ev_var 0) rfl T n1 (by decide) (by decide) ?_
    refine b_fld (k := 0) (ev_int_is (ev_lenT W (ds := t.map dRow) (ev_var 2)) (by rw [List.length_map])) (ev_var 0) rfl T n2 (show ¬ ("size" : Str) ∈ (["rows"] : List Str) from by decide +kernel) (Nat.le_of_ble_eq_true rfl) ?_
    exact b_initEnd rfl rfl rfl
end
end Fr
set_option Elab.async false
set_option linter.all false
set_option maxRecDepth 100000
set_option maxHeartbeats 4000000
namespace Fr
open PySem PySem.Spec PySem.Calls L2
section
variable {P : Program} {w : World} {K : PySem.W.Frag} {mg : Str → Option Value} {base : Heap}
/-! state_lead -/
def fsStateLead (K : PySem.W.Frag) : FS (Int × Int) := ⟨fun x => [I K x.1, I K x.2], fun _ => True, fun x => I K (ld x.1 x.2)⟩
theorem ok_state_lead {f : Addr} {fd : FuncData} (Fn : Fun K "state_lead" "state_lead" s_state_lead f fd) : FnOk P w K mg base CX0 1 f fd ["one", "other"] ((fsStateLead K).sp 2) := by
  refine FS.ok (fsStateLead K) Fn sc_state_lead rfl fun cdv A outer s H E M y hr hp => ?_
  obtain ⟨a, b⟩ := y
  refine b_ifr (et_w (ew_and (et_eq (ev_var 0) ev_int) fun _ => ew_and1 (et_eq (ev_var 1) ev_int))) (fun hb => ?_) (fun hb => ?_)
  · have h1 : a = 0 ∧ b = 1 := by simpa using hb
    refine b_end (ev_int_is ev_int ?_) rfl
    show 1 = ld a b
    unfold ld
    rw [if_pos h1]
  · have h1 : ¬ (a = 0 ∧ b = 1) := by simpa using hb
    refine b_ifr (et_w (ew_and (et_eq (ev_var 0) ev_int) fun _ => ew_and1 (et_eq (ev_var 1) ev_int))) (fun hb2 => ?_) (fun hb2 => ?_)
    · have h2 : a = 1 ∧ b = 0 := by simpa using hb2
      refine b_end (ev_int_is (ev_neg ev_int) ?_) rfl
      show -1 = ld a b
      unfold ld
      rw [if_neg h1, if_pos h2]
    · have h2 : ¬ (a = 1 ∧ b = 0) := by simpa using hb2
      refine b_end (ev_int_is ev_int ?_) rfl
      show 0 = ld a b
      unfold ld
      rw [if_neg h1, if_neg h2]
/-! greatest_sum -/
def fsGs (K : PySem.W.Frag) : FS (List (Option Int) × List (Option Int)) := ⟨fun x => [D K (dRow x.1), D K (dRowL x.2)], fun _ => True, fun x => D K (oD (gsum x.1 x.2))⟩
theorem zip_map' {α β : Type} (g : α → β) (xs ys : List α) : (xs.map g).zip (ys.map g) = (xs.zip ys).map fun p => (g p.1, g p.2) := by
  induction xs generalizing ys with
  | nil => rfl
  | cons x xs ih => cases ys with
    | nil => rfl
    | cons y ys => simp [ih]
theorem foldl_take {α β : Type} {g : β → α → β} {b : β} {l : List α} {i : Nat} {x : α} (h : l[i]? = some x) : (l.take (i + 1)).foldl g b = g ((l.take i).foldl g b) x := by
  rw [take_snoc h, List.foldl_append]; rfl
theorem ok_greatest_sum {f : Addr} {fd : FuncData} (W : Bi mg) (Fn : Fun K "greatest_sum" "greatest_sum" s_greatest_sum f fd) : FnOk P w K mg base CX0 1 f fd ["row", "column"] ((fsGs K).sp 2) := by
  refine FS.ok (fsGs K) Fn sc_greatest_sum rfl fun cdv A outer s H E M y hr hp => ?_
  obtain ⟨r, c⟩ := y
  have nd := sc_greatest_sum.nd
  refine b_set (i := 2) nd ev_non ?_
  refine b_for rfl PassesOwn.never (ds := r.zip c) (it := fun p : Option Int × Option Int => Pr K (oD p.1, oD p.2)) (it_of_map (g := fun p : Option Int × Option Int => (oD p.1, oD p.2)) (by rw [← zip_map' oD]; exact it_zipM W (ds := r.map oD) (es := c.map oD) (ev_var 0) (ev_var 1)))
    (fun i => [some (D K (dRow r)), some (D K (dRowL c)), some (D K (oD (((r.zip c).take i).foldl gsf none))), none, none]) (fun _ => []) (fun i x => [some (D K (dRow r)), some (D K (dRowL c)), some (D K (oD (((r.zip c).take i).foldl gsf none))), some (D K (oD x.1)), some (D K (oD x.2))]) ([3] ++ ([4] ++ [])) rfl (Le.refl _)
    (fun gv gR i x h => tg_tupR rfl (tgs_cons (tg_name (i := 3) nd) (tgs_cons (tg_name (i := 4) nd) tgs_nil))) (fun gv gR i x h => ?_) ?_
  · have next := foldl_take (g := gsf) (b := none) h
    generalize ((r.zip c).take i).foldl gsf none = best at next ⊢
    rw [next]
    obtain ⟨a, b⟩ := x
    cases a with
    | none =>
      refine b_ifF (et_is (et_w (ew_and (q := false) (et_notN (d := .none) (ev_var 3)) fun h => nomatch h)) rfl) ?_
      exact b_nil fun σ H s => s.le (.keep (.keep (.keep (.drop (.drop .nil)))))
    | some a =>
      cases b with
      | none =>
        refine b_ifF (et_is (et_w (ew_and (q := false) (et_notN (d := .int a) (ev_var 3)) fun h => ew_and (q := false) (et_notN (d := .none) (ev_var 4)) fun h => nomatch h)) rfl) ?_
        exact b_nil fun σ H s => s.le (.keep (.keep (.keep (.drop (.drop .nil)))))
      | some b =>
        cases best with
        | none =>
          refine b_ifm (Γ' := [some (D K (dRow r)), some (D K (dRowL c)), some (D K (oD (gsf none (some a, some b)))), none, none]) (Δ' := []) (b := true) (et_is (et_w (ew_and (et_notN (d := .int a) (ev_var 3)) fun h => ew_and (et_notN (d := .int b) (ev_var 4)) fun h => ew_and1 (et_w (ew_or (q := false) (et_isN (d := .none) (ev_var 2)) fun h => nomatch h)))) rfl) (fun _ => b_set (i := 2) (R := I K (a + b)) nd (ev_add (ev_var 3) (ev_var 4)) (b_nil fun σ H s => s.le (.keep (.keep (.keep (.drop (.drop .nil))))))) (fun h => nomatch h) (b_nil fun σ H s => s)
        | some m =>
          refine b_ifm (Γ' := [some (D K (dRow r)), some (D K (dRowL c)), some (D K (oD (gsf (some m) (some a, some b)))), none, none]) (Δ' := []) (b := decide (m < a + b)) (et_is (et_w (ew_and (et_notN (d := .int a) (ev_var 3)) fun h => ew_and (et_notN (d := .int b) (ev_var 4)) fun h => ew_and1 (et_w (ew_or (et_isN (d := .int m) (ev_var 2)) fun h => ew_or1 (et_gt (ev_add (ev_var 3) (ev_var 4)) (ev_var 2)))))) (by simp [isNone])) (fun hb => ?_) (fun hb => ?_) (b_nil fun σ H s => s)
          · have hlt : m < a + b := of_decide_eq_true hb
            have e : gsf (some m) (some a, some b) = some (a + b) := if_pos hlt
            rw [e]
            exact b_set (i := 2) (R := I K (a + b)) nd (ev_add (ev_var 3) (ev_var 4)) (b_nil fun σ H s => s.le (.keep (.keep (.keep (.drop (.drop .nil))))))
          · have hlt : ¬ m < a + b := of_decide_eq_false hb
            have e : gsf (some m) (some a, some b) = some m := if_neg hlt
            rw [e]
            exact b_nil fun σ H s => s.le (.keep (.keep (.keep (.drop (.drop .nil)))))
  · rw [List.take_length]
    exact b_end (ev_var 2) rfl
end
end Fr
set_option Elab.async false
set_option linter.all false
set_option maxRecDepth 100000
set_option maxHeartbeats 4000000
namespace Fr
open PySem PySem.Spec PySem.Calls L2
section
variable {P : Program} {w : World} {K : PySem.W.Frag} {mg : Str → Option Value} {base : Heap}
/-! Table.__mul__ -/
abbrev rpTab (K : PySem.W.Frag) (C : Addr) (t : Tb) : RP := InR C (tabF K t)
def fsMul (K : PySem.W.Frag) (C : Addr) : FS (Nat × Tb × Tb) := ⟨fun x => [rpTab K C x.2.1, rpTab K C x.2.2], fun x => Sq x.1 x.2.1 ∧ Sq x.1 x.2.2, fun x => rpTab K C (mulT x.1 x.2.1 x.2.2)⟩
abbrev scC_mul1 : Scope := match defBody s_Table_mul with
  | _ :: .Assign _ (.ListComp _ _ sc _) _ :: _ => sc
  | _ => defScope s_Table_mul
abbrev scC_mul2 : Scope := match defBody s_Table_mul with
  | _ :: _ :: .Return (some (.Call _ [.ListComp _ _ sc _] _ _)) _ :: _ => sc
  | _ => defScope s_Table_mul
theorem ok_Table_mul {f C : Addr} {fd : FuncData} (W : Bi mg) (T : Cls K C) (n1 : NoAttr K C "rows") (n2 : NoAttr K C "size") (Gs : Df P w K mg base "greatest_sum" 1 2 (fsGs K)) (Gt : Dc P w K mg base "Table" C 4 2 [] (isTab K))
    (Fn : Fun K "__mul__" "Table.__mul__" s_Table_mul f fd) : FnOk P w K mg base CX0 6 f fd ["self", "other"] ((fsMul K C).sp 2) := by
  refine FS.ok (fsMul K C) Fn sc_Table_mul rfl fun cdv A outer s H E M y hr hp => ?_
  obtain ⟨n, t, t2⟩ := y
  have hp : Sq n t ∧ Sq n t2 := hp
  obtain ⟨h1, h2⟩ := hp
  have nd := sc_Table_mul.nd
  have hl1 := h1.len
  have hl2 := h2.len
  have hnz := h1.nz
  have lr : (tabF K t2).lookup ("rows" : Str) = some (D K (dTb t2)) := rfl
  have ls : (tabF K t2).lookup ("size" : Str) = some (I K (t2.length : Nat)) := rfl
  have lr1 : (tabF K t).lookup ("rows" : Str) = some (D K (dTb t)) := rfl
  have ls1 : (tabF K t).lookup ("size" : Str) = some (I K (t.length : Nat)) := rfl
  refine b_ifF (et_is (et_ne (ev_fld (ev_var 0) T n2 ls1) (ev_fld (ev_var 1) T n2 ls)) (by rw [hl1, hl2]; simp)) ?_
  refine b_set (i := 2) (R := LP K ((List.range n).map fun j => dRowL (colT t2 j))) nd (ev_newP (en_lcM (own := [("index", 3)]) (xs := List.range n) (it := fun i => I K (i : Nat)) (g := fun j => dRowL (colT t2 j)) (js := [3]) (Γt := fun j => [some (rpTab K C t), some (rpTab K C t2), none, some (I K (j : Nat)), none, none]) rfl nd (it_rng1 W (ev_fld (ev_var 1) T n2 ls) (by rw [hl2]) (by omega)) (blkOk_by (N := N_Table_mul) (sc := defScope s_Table_mul) (by decide +kernel))
    (LcH.all (fun _ _ _ _ _ _ _ _ _ x hx => tg_name (i := 3) nd) (fun _ _ _ _ _ _ _ _ _ j hj => ?_) (fun j h => h) (by rw [List.length_range]; omega)))) ?_
  · have hj := List.mem_range.mp hj
    have e : dRowL (colT t2 j) = .list (t2.map fun r => oD (r.getD j none)) := by unfold dRowL colT; rw [List.map_map]; rfl
    rw [e]
    exact ev_newD (en_lcM (own := [("row", 4)]) (xs := t2) (it := fun r => D K (dRow r)) (g := fun r => oD (r.getD j none)) (js := [4]) (Γt := fun r => [some (rpTab K C t), some (rpTab K C t2), none, some (I K (j : Nat)), some (D K (dRow r)), none]) rfl nd (it_mapT (ev_fld (ev_var 1) T n1 lr)) (blkOk_by (N := N_Table_mul) (sc := relS scC_mul1 (defScope s_Table_mul)) (by decide +kernel))
      (LcH.all (fun _ _ _ _ _ _ _ _ _ x hx => tg_name (i := 4) nd) (fun _ _ _ _ _ _ _ _ _ r hr' => ev_ixT (ev_var 4) (ev_var 3) (atI_mapN (f := oD) (l := r) (d := none) (by rw [h2.row r hr']; exact hj))) (fun j h => h) (by omega)))
  · refine b_end (ev_make (C := C) (S := isTab K) (As := [D K (dTbL (mulT n t t2))]) (n, mulT n t t2) Gt (hr.mono (by decide)) (ea_cons ?_ ea_nil) rfl (fun G vs h => by rw [List.append_nil]; exact h) (mul_sq h1)) rfl
    have e : dTbL (mulT n t t2) = .list (t.map fun r => dRowL ((List.range n).map fun j => gsum r (colT t2 j))) := by unfold dTbL mulT; rw [List.map_map]; rfl
    rw [e]
    refine ev_newD (en_lcM (own := [("row", 4)]) (xs := t) (it := fun r => D K (dRow r)) (g := fun r => dRowL ((List.range n).map fun j => gsum r (colT t2 j))) (js := [4]) (Γt := fun r => [some (rpTab K C t), some (rpTab K C t2), some (LP K ((List.range n).map fun j => dRowL (colT t2 j))), none, some (D K (dRow r)), none]) rfl nd (it_mapT (ev_fld (ev_var 0) T n1 lr1)) (blkOk_by (N := N_Table_mul) (sc := defScope s_Table_mul) (by decide +kernel))
      (LcH.all (fun _ _ _ _ _ _ _ _ _ x hx => tg_name (i := 4) nd) (fun _ _ _ _ _ _ _ _ _ r hr' => ?_) (fun j h => h) (by omega)))
    have e2 : dRowL ((List.range n).map fun j => gsum r (colT t2 j)) = .list ((List.range n).map fun j => oD (gsum r (colT t2 j))) := by unfold dRowL; rw [List.map_map]; rfl
    rw [e2]
    exact ev_newD (en_lcM (own := [("column", 5)]) (xs := List.range n) (it := fun j => D K (dRowL (colT t2 j))) (g := fun j => oD (gsum r (colT t2 j))) (js := [5]) (Γt := fun j => [some (rpTab K C t), some (rpTab K C t2), some (LP K ((List.range n).map fun j => dRowL (colT t2 j))), none, some (D K (dRow r)), some (D K (dRowL (colT t2 j)))]) rfl nd (it_mapL (ev_le (ev_var 2) LP_D)) (blkOk_by (N := N_Table_mul) (sc := relS scC_mul2 (defScope s_Table_mul)) (by decide +kernel))
      (LcH.all (fun _ _ _ _ _ _ _ _ _ x hx => tg_name (i := 5) nd) (fun _ _ _ _ _ _ _ _ _ j hj => ev_callR (r, colT t2 j) Gs (hr.mono (by decide)) (ea_cons (ev_var 4) (ea_cons (ev_var 5) ea_nil)) trivial) (fun j h => h) (by rw [List.length_range]; omega)))
/-! doubled -/
def rpPows (K : PySem.W.Frag) (C : Addr) (n : Nat) (t : Tb) (L : Nat) : RP := LR ((List.range L).map fun i => rpTab K C (powT n t i))
def fsDoubled (K : PySem.W.Frag) (C : Addr) : FS (Nat × Tb × Nat) := ⟨fun x => [rpTab K C x.2.1, I K (x.2.2 : Nat)], fun x => Sq x.1 x.2.1 ∧ x.2.2 < 2 ^ 1000, fun x => rpPows K C x.1 x.2.1 (bits x.2.2).length⟩
theorem ok_doubled {f C fm : Addr} {fd fdm : FuncData} {psm : List Str} (W : Bi mg) (T : Cls K C) (Gb : Df P w K mg base "binary_digits" 1 1 (fsBits K)) (okm : FnOk P w K mg base CX0 6 fm fdm psm ((fsMul K C).sp 2)) (hbm : Binds K fdm psm [])
    (hsf : PySem.W.selfFirst K C = true) (hm : PySem.W.findIn K (.ref C) "__mul__" = some (some (.ref fm))) (hfn : PySem.W.isFn K (.ref fm) = true)
    (Fn : Fun K "doubled" "doubled" s_doubled f fd) : FnOk P w K mg base CX0 7 f fd ["table", "times"] ((fsDoubled K C).sp 2) := by
  refine FS.ok (fsDoubled K C) Fn sc_doubled rfl fun cdv A outer s H E M y hr hp => ?_
  obtain ⟨n, t, b⟩ := y
  have hp : Sq n t ∧ b < 2 ^ 1000 := hp
  obtain ⟨h1, h2⟩ := hp
  have nd := sc_doubled.nd
  have hbl : (bits b).length ≤ 1000 := bits_len h2
  refine b_own (i := 2) nd (en_lst ea_nil (Nat.zero_le _)) fun p => ?_
  refine b_for rfl PassesOwn.never (ds := bits b) (it := fun x => D K (dI x)) (it_mapL (ev_le (ev_callR b Gb (hr.mono (by decide)) (ea_cons (ev_var 1) ea_nil) h2) LP_D)) (fun _ => [some (rpTab K C t), some (I K (b : Nat)), some (Vl (.ref p)), none]) (fun i => [(p, LOR ((List.range i).map fun i => rpTab K C (powT n t i)))]) (fun _ x => [some (rpTab K C t), some (I K (b : Nat)), some (Vl (.ref p)), some (D K (dI x))]) [3] rfl (Le.refl _)
    (fun gv gR i x h => tg_name (i := 3) nd) (fun gv gR i x h => ?_) ?_
  · have hi := (List.getElem?_eq_some_iff.mp h).1
    have sn : ∀ i, (List.range (i + 1)).map (fun i => rpTab K C (powT n t i)) = (List.range i).map (fun i => rpTab K C (powT n t i)) ++ [rpTab K C (powT n t i)] := fun i => by rw [List.range_succ, List.map_append]; rfl
    refine b_ifm (Γ' := [some (rpTab K C t), some (I K (b : Nat)), some (Vl (.ref p)), none]) (Δ' := [(p, LOR ((List.range (i + 1)).map fun i => rpTab K C (powT n t i)))]) (et_eq (ev_lenO W (k := 0) (ev_var 2) rfl) ev_int) (fun hb => ?_) (fun hb => ?_) (b_nil fun σ H s => s)
    · have hi0 : i = 0 := by
        have := of_decide_eq_true hb
        rw [List.length_map, List.length_range] at this
        omega
      subst hi0
      refine b_app (k := 0) (ev_var 2) rfl (ev_var 0) (by rw [List.length_map, List.length_range]; omega) (b_nil fun σ H s => s.le (.keep (.keep (.keep (.drop .nil)))))
    · obtain ⟨j, rfl⟩ : ∃ j, i = j + 1 := by
        cases i with
        | zero => simp at hb
        | succ j => exact ⟨j, rfl⟩
      have last : atI ((List.range (j + 1)).map fun i => rpTab K C (powT n t i)) (-1) = some (rpTab K C (powT n t j)) := by rw [sn j]; exact atI_last
      refine b_app (k := 0) (R := rpTab K C (powT n t (j + 1))) (ev_var 2) rfl (ev_own (C := C) (S := fsMul K C) (n, powT n t j, powT n t j) okm (hr.mono (by decide)) hbm T hsf hm hfn (ev_ixO (k := 0) (ev_var 2) rfl (ev_neg ev_int) last) (ev_ixO (k := 0) (ev_var 2) rfl (ev_neg ev_int) last) rfl ⟨pow_sq h1 j, pow_sq h1 j⟩) (by rw [List.length_map, List.length_range]; omega) ?_
      exact b_nil fun σ H s => s.cast (.keep (.keep (.keep (.drop .nil)))) (by rw [sn (j + 1)]; rfl)
  · refine b_frz (k := 0) (i := 2) rfl rfl ?_
    exact b_end (ev_var 2) rfl
end
end Fr
set_option Elab.async false
set_option linter.all false
set_option maxRecDepth 100000
set_option maxHeartbeats 4000000
namespace Fr
open PySem PySem.Spec PySem.Calls L2
section
variable {P : Program} {w : World} {K : PySem.W.Frag} {mg : Str → Option Value} {base : Heap}
theorem ixN_nat {n k : Nat} (h : k < n) : ixN n (k : Int) = some k := by
  unfold ixN
  rw [if_pos (by omega), if_pos (by omega)]
  rfl
theorem map_range_set {α : Type} {n k : Nat} {f : Nat → α} {x : α} : ((List.range n).map f).set k x = (List.range n).map fun j => if j = k then x else f j := by
  apply List.ext_getElem?
  intro i
  rw [List.getElem?_set, List.getElem?_map, List.getElem?_map]
  by_cases hi : i < n
  · rw [List.getElem?_range hi]
    by_cases e : k = i
    · subst e; rw [if_pos rfl, if_pos (by simpa using hi)]; simp
    · rw [if_neg e]
      show some (f i) = some (if i = k then x else f i)
      rw [if_neg fun z => e z.symm]
  · have : (List.range n)[i]? = none := List.getElem?_eq_none (by simp; omega)
    rw [this]
    by_cases e : k = i
    · subst e; rw [if_pos rfl, if_neg (by simpa using hi)]; rfl
    · rw [if_neg e]; rfl
theorem en_is {X : Cx} {F : Fm} {Γ : Gam} {Δ : Del} {e : Expr} {As Bs : List RP} (h : EN X F Γ Δ e As) (l : As = Bs) : EN X F Γ Δ e Bs := l ▸ h
/-! lead_table -/
structure LeadArg (n : Nat) (cs : List (List Int)) (pic : List Int) : Prop where
  cl : cs.length = n
  pl : pic.length = n
  nz : n ≤ 60
  nb : ∀ v w, w ∈ cs.getD v [] → 0 ≤ w ∧ w < (n : Nat) ∧ w ≠ (v : Nat)
abbrev rpScn (K : PySem.W.Frag) (Cs Cw : Addr) (n : Nat) (l : List (Nat × Nat)) (cs : List (List Int)) (pic : List Int) : RP := InR Cs (scnF K Cw n l cs pic)
def fsLeadT (K : PySem.W.Frag) (Cs Cw Ct : Addr) : FS (Nat × List (Nat × Nat) × List (List Int) × List Int) := ⟨fun x => [rpScn K Cs Cw x.1 x.2.1 x.2.2.1 x.2.2.2], fun x => LeadArg x.1 x.2.2.1 x.2.2.2, fun x => rpTab K Ct (leadT x.1 x.2.2.1 x.2.2.2)⟩
def rowA (pic : List Int) (a : Nat) (S : List Int) (b : Nat) : Option Int := if a = b then some 0 else if (b : Int) ∈ S then some (ld (pic.getD a 0) (pic.getD b 0)) else none
structure ClS (K : PySem.W.Frag) (Cs Cw Ct : Addr) : Prop where
  ts : Cls K Cs
  tw : Cls K Cw
  tt : Cls K Ct
  s1 : NoAttr K Cs "web"
  s2 : NoAttr K Cs "picture"
  w1 : NoAttr K Cw "size"
  w2 : NoAttr K Cw "lines"
  w3 : NoAttr K Cw "around"
  t1 : NoAttr K Ct "rows"
  t2 : NoAttr K Ct "size"
theorem look_web {K : PySem.W.Frag} {Cw : Addr} {n : Nat} {l : List (Nat × Nat)} {cs : List (List Int)} {pic : List Int} : (scnF K Cw n l cs pic).lookup ("web" : Str) = some (InR Cw (webG K n l cs)) := rfl
theorem look_pic {K : PySem.W.Frag} {Cw : Addr} {n : Nat} {l : List (Nat × Nat)} {cs : List (List Int)} {pic : List Int} : (scnF K Cw n l cs pic).lookup ("picture" : Str) = some (D K (dT pic)) := rfl
theorem look_size {K : PySem.W.Frag} {n : Nat} {l : List (Nat × Nat)} {cs : List (List Int)} : (webG K n l cs).lookup ("size" : Str) = some (I K (n : Nat)) := rfl
theorem look_aro {K : PySem.W.Frag} {n : Nat} {l : List (Nat × Nat)} {cs : List (List Int)} : (webG K n l cs).lookup ("around" : Str) = some (D K (dNT cs)) := rfl
theorem look_rows {K : PySem.W.Frag} {t : Tb} : (tabF K t).lookup ("rows" : Str) = some (D K (dTb t)) := rfl
theorem look_tsz {K : PySem.W.Frag} {t : Tb} : (tabF K t).lookup ("size" : Str) = some (I K (t.length : Nat)) := rfl
theorem ok_lead_table {f Cs Cw Ct : Addr} {fd : FuncData} (W : Bi mg) (S : ClS K Cs Cw Ct) (Gl' : Df P w K mg base "state_lead" 1 2 (fsStateLead K)) (Gt : Dc P w K mg base "Table" Ct 4 2 [] (isTab K))
    (Fn : Fun K "lead_table" "lead_table" s_lead_table f fd) : FnOk P w K mg base CX0 6 f fd ["scene"] ((fsLeadT K Cs Cw Ct).sp 1) := by
  refine FS.ok (fsLeadT K Cs Cw Ct) Fn sc_lead_table rfl fun cdv A outer s H E M y hr hp => ?_
  obtain ⟨n, l, cs, pic⟩ := y
  have hp : LeadArg n cs pic := hp
  obtain ⟨hcl, hpl, hnz, hnb⟩ := hp
  have nd := sc_lead_table.nd
  refine b_own (i := 1) nd (en_lstD (ds := []) ea_nil) fun p => ?_
  refine b_for rfl PassesOwn.never (it_rng1 (n := n) W (ev_fld (ev_fld (ev_var 0) S.ts S.s1 look_web) S.tw S.w1 look_size) rfl (by omega)) (fun _ => [some (rpScn K Cs Cw n l cs pic), some (Vl (.ref p)), none, none, none]) (fun i => [(p, LO K (((leadT n cs pic).take i).map dRowL))]) (fun _ x => [some (rpScn K Cs Cw n l cs pic), some (Vl (.ref p)), some (I K (x : Nat)), none, none]) [2] rfl (Le.refl _)
    (fun gv gR i x h => tg_name (i := 2) nd) (fun gv gR i a h => ?_) ?_
  · obtain ⟨ha, rfl⟩ := range_at h
    refine b_own (i := 3) (As := ((List.range n).map fun b => oD none).map (D K)) nd (en_is (en_rep (n := n) (Rs := [Nn K]) (ev_new (en_lst (ea_cons ev_non ea_nil) (Nat.le_of_ble_eq_true rfl))) (ev_fld (ev_fld (ev_var 0) S.ts S.s1 look_web) S.tw S.w1 look_size) rfl (by rw [List.length_singleton]; omega) (by omega)) (by rw [List.map_map]; simp [Function.comp_def, List.map_const']; exact .inr rfl)) fun q => ?_
    have sz : ∀ f : Nat → Option Int, (((List.range n).map fun b => oD (f b)).map (D K)).length = n := fun f => by rw [List.length_map, List.length_map, List.length_range]
    refine b_setO (k := 0) (j := a) (R := D K (oD (some 0))) ev_int (ev_var 3) rfl (ev_var 2) (by rw [sz]; exact ixN_nat ha) ?_
    have mark : ∀ (f : Nat → Option Int) (k : Nat) (x : Option Int), (((List.range n).map fun b => oD (f b)).map (D K)).set k (D K (oD x)) = ((List.range n).map fun b => oD (if b = k then x else f b)).map (D K) := fun f k x => by
      rw [← List.map_set, map_range_set]
      congr 1
      refine List.map_congr_left fun j _ => ?_
      split <;> rfl
    have e0 : (fun b => if b = a then some 0 else (none : Option Int)) = rowA pic a [] := by
      funext b
      unfold rowA
      by_cases e : b = a
      · rw [if_pos e, if_pos e.symm]
      · rw [if_neg e, if_neg fun z => e z.symm, if_neg (by simp)]
    refine b_eqD (Δ' := [(q, LO K ((List.range n).map fun b => oD (rowA pic a [] b))), (p, LO K (((leadT n cs pic).take a).map dRowL))]) (by
      show [(q, LOR ((((List.range n).map fun b => oD none).map (D K)).set a (D K (oD (some 0))))), (p, _)] = _
      rw [mark (fun _ => none) a (some 0)]
      rw [← e0]) ?_
    refine b_for rfl PassesOwn.never (ds := cs.getD a []) (it := fun x => I K x) (it_mapT (g := PyData.int) (ev_ixT (ev_fld (ev_fld (ev_var 0) S.ts S.s1 look_web) S.tw S.w3 look_aro) (ev_var 2) (atI_mapN (f := dT) (l := cs) (d := []) (by rw [hcl]; exact ha)))) (fun _ => [some (rpScn K Cs Cw n l cs pic), some (Vl (.ref p)), some (I K (a : Nat)), some (Vl (.ref q)), none]) (fun i => [(q, LO K ((List.range n).map fun b => oD (rowA pic a ((cs.getD a []).take i) b))), (p, LO K (((leadT n cs pic).take a).map dRowL))]) (fun _ x => [some (rpScn K Cs Cw n l cs pic), some (Vl (.ref p)), some (I K (a : Nat)), some (Vl (.ref q)), some (I K x)]) [4] rfl (Le.refl _)
      (fun gv gR i x h => tg_name (i := 4) nd) (fun gv gR i x hx => ?_) ?_
    · obtain ⟨g1, g2, g3⟩ := hnb a x (List.mem_of_getElem? hx)
      obtain ⟨b, rfl⟩ : ∃ b : Nat, x = (b : Int) := ⟨x.toNat, by omega⟩
      have hb : b < n := by omega
      have hne : a ≠ b := fun z => g3 (by rw [z])
      refine b_setO (k := 0) (j := b) (R := D K (oD (some (ld (pic.getD a 0) (pic.getD b 0))))) (ev_callR (pic.getD a 0, pic.getD b 0) Gl' (hr.mono (by decide)) (ea_cons (ev_ixT (ev_fld (ev_var 0) S.ts S.s2 look_pic) (ev_var 2) (atI_mapN (f := PyData.int) (l := pic) (d := 0) (by rw [hpl]; exact ha))) (ea_cons (ev_ixT (ev_fld (ev_var 0) S.ts S.s2 look_pic) (ev_var 4) (atI_mapN (f := PyData.int) (l := pic) (d := 0) (by rw [hpl]; exact hb))) ea_nil)) trivial) (ev_var 3) rfl (ev_var 4) (by rw [sz]; exact ixN_nat hb) ?_
      refine b_nil fun σ H s => s.cast (.keep (.keep (.keep (.keep (.drop .nil))))) ?_
      have e1 : (fun j => if j = b then some (ld (pic.getD a 0) (pic.getD b 0)) else rowA pic a ((cs.getD a []).take i) j) = rowA pic a ((cs.getD a []).take (i + 1)) := by
        funext j
        rw [take_snoc hx]
        unfold rowA
        by_cases e : j = b
        · subst e
          rw [if_pos rfl, if_neg hne, if_pos (by simp)]
        · rw [if_neg e]
          have : ((j : Int) ∈ (cs.getD a []).take i ++ [(b : Int)]) ↔ ((j : Int) ∈ (cs.getD a []).take i) := by
            rw [List.mem_append]
            refine ⟨fun z => z.elim id fun z => ?_, .inl⟩
            have := List.mem_singleton.mp z
            exact absurd (by omega) e
          simp only [this]
      show [(q, LOR ((((List.range n).map fun j => oD (rowA pic a ((cs.getD a []).take i) j)).map (D K)).set b (D K (oD (some (ld (pic.getD a 0) (pic.getD b 0))))))), (p, _)] = _
      rw [mark (rowA pic a ((cs.getD a []).take i)) b]
      rw [← e1]
    · rw [List.take_length]
      refine b_frzD (k := 0) (i := 3) rfl rfl ?_
      have hrow : (List.range n).map (fun b => oD (rowA pic a (cs.getD a []) b)) = ((leadT n cs pic).getD a []).map oD := by
        have : (leadT n cs pic).getD a [] = (List.range n).map fun b => tab cs pic a b := by
          unfold leadT
          rw [List.getD_eq_getElem?_getD, List.getElem?_map, List.getElem?_range ha]; rfl
        rw [this, List.map_map]; rfl
      rw [hrow]
      have hal : a < (leadT n cs pic).length := by rw [(lead_sq hnz).len]; exact ha
      refine b_appD (k := 0) (d := dRowL ((leadT n cs pic).getD a [])) (ev_var 1) rfl (ev_le (ev_var 3) LP_D) (by rw [List.length_map, List.length_take, (lead_sq hnz).len]; omega) ?_
      exact b_nil fun σ H s => s.cast (.keep (.keep (.drop (.drop (.drop .nil))))) (by rw [take_snoc (getD_get (d := []) hal), List.map_append]; rfl)
  · rw [List.length_range, List.take_of_length_le (by rw [(lead_sq hnz).len]; exact Nat.le_refl _)]
    refine b_frzD (k := 0) (i := 1) rfl rfl ?_
    exact b_end (ev_make (C := Ct) (S := isTab K) (As := [D K (dTbL (leadT n cs pic))]) (n, leadT n cs pic) Gt (hr.mono (by decide)) (ea_cons (ev_le (ev_var 1) LP_D) ea_nil) rfl (fun G vs h => by rw [List.append_nil]; exact h) (lead_sq hnz)) rfl
end
end Fr
set_option Elab.async false
set_option linter.all false
set_option maxRecDepth 100000
set_option maxHeartbeats 4000000
namespace Fr
open PySem PySem.Spec PySem.Calls L2
section
variable {P : Program} {w : World} {K : PySem.W.Frag} {mg : Str → Option Value} {base : Heap}
theorem zip_map2 {α β γ δ : Type} (g : α → γ) (g' : β → δ) (xs : List α) (ys : List β) : (xs.map g).zip (ys.map g') = (xs.zip ys).map fun p => (g p.1, g' p.2) := by
  induction xs generalizing ys with
  | nil => rfl
  | cons x xs ih => cases ys with
    | nil => rfl
    | cons y ys => simp [ih]
/-! led_through -/
structure LedArg (n : Nat) (t : Tb) (ns ms : List Int) : Prop where
  sq : Sq n t
  nl : ns.length = n
  ml : ms.length = n
  up : ∀ v w e, v < n → w < n → (t.getD v []).getD w none = some e → e + ns.getD w 0 ≤ ms.getD v 0
  ex : ∀ v, v < n → ∃ w e, w < n ∧ (t.getD v []).getD w none = some e ∧ e + ns.getD w 0 = ms.getD v 0
def fsLed (K : PySem.W.Frag) (Ct : Addr) : FS (Nat × Tb × List Int × List Int) := ⟨fun x => [rpTab K Ct x.2.1, D K (dL x.2.2.1)], fun x => LedArg x.1 x.2.1 x.2.2.1 x.2.2.2, fun x => D K (dL x.2.2.2)⟩
theorem getD_of {α : Type} {l : List α} {i : Nat} {x d : α} (h : l[i]? = some x) : l.getD i d = x := by
  rw [List.getD_eq_getElem?_getD, h]; rfl
theorem ok_led_through {f Cs Cw Ct : Addr} {fd : FuncData} (W : Bi mg) (S : ClS K Cs Cw Ct) (Fn : Fun K "led_through" "led_through" s_led_through f fd) : FnOk P w K mg base CX0 1 f fd ["table", "numbers"] ((fsLed K Ct).sp 2) := by
  refine FS.ok (fsLed K Ct) Fn sc_led_through rfl fun cdv A outer s H E M y hr hp => ?_
  obtain ⟨n, t, ns, ms⟩ := y
  have hp : LedArg n t ns ms := hp
  obtain ⟨hsq, hnl, hml, hup, hex⟩ := hp
  have nd := sc_led_through.nd
  have htl := hsq.len
  have hnz := hsq.nz
  refine b_own (i := 2) nd (en_lstD (ds := []) ea_nil) fun p0 => ?_
  refine b_for rfl PassesOwn.never (ds := t) (it := fun r => D K (dRow r)) (it_mapT (ev_fld (ev_var 0) S.tt S.t1 look_rows)) (fun _ => [some (rpTab K Ct t), some (D K (dL ns)), some (Vl (.ref p0)), none, none, none]) (fun i => [(p0, LO K ((ms.take i).map .int))]) (fun _ x => [some (rpTab K Ct t), some (D K (dL ns)), some (Vl (.ref p0)), some (D K (dRow x)), none, none]) [3] rfl (Le.refl _)
    (fun gv gR i x h => tg_name (i := 3) nd) (fun gv gR i r h => ?_) ?_
  · have hi := (List.getElem?_eq_some_iff.mp h).1
    have hv : i < n := by omega
    have hr' : t.getD i [] = r := getD_of h
    have hrl : r.length = n := hsq.row r (List.mem_of_getElem? h)
    have zl : (r.zip ns).length = n := by rw [List.length_zip, hrl, hnl, Nat.min_self]
    have em : (((r.zip ns).filter fun p => p.1.isSome).map fun p => p.1.getD 0 + p.2).map PyData.int = (((r.zip ns).filter fun p => p.1.isSome).map fun p => PyData.int (p.1.getD 0 + p.2)) := by rw [List.map_map]; rfl
    have zat : ∀ w, w < n → (r.zip ns)[w]? = some (r.getD w none, ns.getD w 0) := fun w hw => by
      have e1 := getD_get (l := r) (d := none) (show w < r.length by omega)
      have e2 := getD_get (l := ns) (d := 0) (show w < ns.length by omega)
      rw [List.getElem?_zip_eq_some]
      exact ⟨e1, e2⟩
    refine b_appD (k := 0) (d := .int (ms.getD i 0)) (ev_var 2) rfl (ev_maxL W (ns := ((r.zip ns).filter fun p => p.1.isSome).map fun p => p.1.getD 0 + p.2) rfl ?_ ?_ ?_) (by rw [List.length_map, List.length_take]; omega) ?_
    · rw [em]
      refine ev_newD (en_lcD (own := [("entry", 4), ("number", 5)]) (xs := r.zip ns) (it := fun p : Option Int × Int => Pr K (oD p.1, .int p.2)) (g := fun p => PyData.int (p.1.getD 0 + p.2)) (pr := fun p => p.1.isSome) (js := [4] ++ ([5] ++ [])) (Γt := fun p => [some (rpTab K Ct t), some (D K (dL ns)), some (Vl (.ref p0)), some (D K (dRow r)), some (D K (oD p.1)), some (I K p.2)]) rfl nd (it_of_map (g := fun p : Option Int × Int => (oD p.1, PyData.int p.2)) (by rw [← zip_map2 oD PyData.int]; exact it_zipM W (ds := r.map oD) (es := ns.map .int) (ev_var 3) (ev_var 1))) (blkOk_by (N := N_led_through) (sc := defScope s_led_through) (by decide +kernel))
        ⟨fun _ _ _ _ _ _ _ _ _ x hx => tg_tupR rfl (tgs_cons (tg_name (i := 4) nd) (tgs_cons (tg_name (i := 5) nd) tgs_nil)), fun _ _ _ _ _ _ _ _ _ x hx => ets_one (et_is (et_notN (d := oD x.1) (ev_var 4)) (by cases x.1 <;> rfl)), fun _ _ _ _ _ _ _ _ _ x hx hs => ?_, fun j h => h, by omega⟩)
      obtain ⟨a, b⟩ := x
      cases a with
      | none => cases hs
      | some a => exact ev_add (ev_var 4) (ev_var 5)
    · obtain ⟨w, e, hw, h1, h2⟩ := hex i hv
      rw [hr'] at h1
      refine List.mem_map.mpr ⟨(some e, ns.getD w 0), List.mem_filter.mpr ⟨?_, rfl⟩, h2⟩
      have := zat w hw
      rw [h1] at this
      exact List.mem_of_getElem? this
    · intro y hy
      obtain ⟨⟨a, b⟩, hp, rfl⟩ := List.mem_map.mp hy
      obtain ⟨hp1, hp2⟩ := List.mem_filter.mp hp
      obtain ⟨w, hw⟩ := List.mem_iff_getElem?.mp hp1
      have hwn : w < n := by have := (List.getElem?_eq_some_iff.mp hw).1; omega
      rw [zat w hwn] at hw
      cases a with
      | none => cases hp2
      | some a =>
        have e1 : r.getD w none = some a := by injection hw with hw; exact congrArg Prod.fst hw
        have e2 : ns.getD w 0 = b := by injection hw with hw; exact congrArg Prod.snd hw
        have := hup i w a hv hwn (by rw [hr']; exact e1)
        rw [e2] at this
        exact this
    · exact b_nil fun σ H s => s.cast (.keep (.keep (.keep (.drop (.drop (.drop .nil)))))) (by rw [take_snoc (getD_get (l := ms) (d := 0) (by omega)), List.map_append]; rfl)
  · rw [htl, List.take_of_length_le (by omega)]
    refine b_frzD (k := 0) (i := 2) rfl rfl ?_
    exact b_endL (ev_var 2) rfl LP_D
/-! middle -/
structure MidArg (n : Nat) (t : Tb) (a b : Nat) : Prop where
  sq : Sq n t
  ha : a < n
  hb : b < n
  ex : (gsum (t.getD a []) (colT t b)).isSome = true
def fsMid (K : PySem.W.Frag) (Ct : Addr) : FS (Nat × Tb × Nat × Nat) := ⟨fun x => [rpTab K Ct x.2.1, I K (x.2.2.1 : Nat), I K (x.2.2.2 : Nat)], fun x => MidArg x.1 x.2.1 x.2.2.1 x.2.2.2, fun x => Exi fun c : {c : Nat // MidOk x.1 x.2.1 x.2.2.1 x.2.2.2 c} => I K (c.1 : Nat)⟩
def nD : Option Nat → PyData
  | none => .none
  | some i => .int (i : Int)
/-- the best so far and where -/
def MidC (t : Tb) (a b i : Nat) (y : Option Int × Option Nat) : Prop := y.1 = (((t.getD a []).zip (colT t b)).take i).foldl gsf none ∧ (y.1 = none ∧ y.2 = none ∨ ∃ c x z, y.2 = some c ∧ c < i ∧ (t.getD a []).getD c none = some x ∧ (t.getD c []).getD b none = some z ∧ y.1 = some (x + z))
theorem ok_middle {f Cs Cw Ct : Addr} {fd : FuncData} (W : Bi mg) (S : ClS K Cs Cw Ct) (Fn : Fun K "middle" "middle" s_middle f fd) : FnOk P w K mg base CX0 1 f fd ["table", "a", "b"] ((fsMid K Ct).sp 3) := by
  refine FS.ok (fsMid K Ct) Fn sc_middle rfl fun cdv A outer s H E M y hr hp => ?_
  obtain ⟨n, t, a, b⟩ := y
  have hp : MidArg n t a b := hp
  obtain ⟨hsq, ha, hb, hex⟩ := hp
  have nd := sc_middle.nd
  have htl := hsq.len
  have hnz := hsq.nz
  have hral : (t.getD a []).length = n := hsq.row _ (getD_mem' (by omega))
  have hcol : (colT t b).length = n := by unfold colT; rw [List.length_map, htl]
  have zl : ((t.getD a []).zip (colT t b)).length = n := by rw [List.length_zip, hral, hcol, Nat.min_self]
  have zat : ∀ c, c < n → ((t.getD a []).zip (colT t b))[c]? = some ((t.getD a []).getD c none, (t.getD c []).getD b none) := fun c hc => by
    rw [List.getElem?_zip_eq_some]
    refine ⟨getD_get (by omega), ?_⟩
    unfold colT
    rw [List.getElem?_map, getD_get (d := []) (by omega)]; rfl
  refine b_set (i := 3) nd ev_non (b_set (i := 4) nd ev_non ?_)
  refine b_forE rfl PassesOwn.never (it_rng1 (n := n) W (ev_fld (ev_var 0) S.tt S.t2 look_tsz) (by rw [htl]) (by omega)) (fun i y => MidC t a b i y) (fun _ y => [some (rpTab K Ct t), some (I K (a : Nat)), some (I K (b : Nat)), some (D K (oD y.1)), some (D K (nD y.2)), none, none, none]) (fun _ _ => []) (fun _ y x => [some (rpTab K Ct t), some (I K (a : Nat)), some (I K (b : Nat)), some (D K (oD y.1)), some (D K (nD y.2)), some (I K (x : Nat)), none, none]) [5]
    ⟨(none, none), ⟨rfl, .inl ⟨rfl, rfl⟩⟩, rfl, Le.refl _⟩ (fun gv gR i x y h c => tg_name (i := 5) nd) (fun gv gR i c y h hc => ?_) (fun y hc => ?_)
  · obtain ⟨hcn, rfl⟩ := range_at h
    have rowAt : ∀ k, k < n → atI (t.map dRow) (k : Int) = some (dRow (t.getD k [])) := fun k hk => atI_mapN (f := dRow) (l := t) (d := []) (by omega)
    have cell : ∀ k j, k < n → j < n → atI ((t.getD k []).map oD) (j : Int) = some (oD ((t.getD k []).getD j none)) := fun k j hk hj => atI_mapN (f := oD) (l := t.getD k []) (d := none) (by rw [hsq.row _ (getD_mem' (by omega))]; exact hj)
    refine b_set (i := 6) nd (ev_ixT (ev_ixT (ev_fld (ev_var 0) S.tt S.t1 look_rows) (ev_var 1) (rowAt a ha)) (ev_var 5) (cell a c ha hcn)) ?_
    refine b_set (i := 7) nd (ev_ixT (ev_ixT (ev_fld (ev_var 0) S.tt S.t1 look_rows) (ev_var 5) (rowAt c hcn)) (ev_var 2) (cell c b hcn hb)) ?_
    have next := foldl_take (g := gsf) (b := none) (zat c hcn)
    obtain ⟨best, place⟩ := y
    obtain ⟨h1, h2⟩ := hc
    have h1 : best = (((t.getD a []).zip (colT t b)).take c).foldl gsf none := h1
    rw [← h1] at next
    have stay : ∀ {Γ : Gam} {Δ : Del} {F : Fm} {P : Ends}, True → True := fun _ => trivial
    have keep : gsf best ((t.getD a []).getD c none, (t.getD c []).getD b none) = best → MidC t a b (c + 1) (best, place) := fun e => ⟨by rw [next, e], by
      rcases h2 with h2 | ⟨c', x, z, g1, g2, g3, g4, g5⟩
      · exact .inl h2
      · exact .inr ⟨c', x, z, g1, by omega, g3, g4, g5⟩⟩
    have take : ∀ x z, (t.getD a []).getD c none = some x → (t.getD c []).getD b none = some z → gsf best ((t.getD a []).getD c none, (t.getD c []).getD b none) = some (x + z) → MidC t a b (c + 1) (some (x + z), some c) := fun x z e1 e2 e => ⟨by rw [next, e], .inr ⟨c, x, z, rfl, by omega, e1, e2, rfl⟩⟩
    generalize e1 : (t.getD a []).getD c none = o1 at keep take
    generalize e2 : (t.getD c []).getD b none = o2 at keep take
    cases o1 with
    | none =>
      refine b_ifF (et_is (et_w (ew_and (q := false) (et_notN (d := .none) (ev_var 6)) fun h => nomatch h)) rfl) ?_
      exact b_nil fun σ H s => ⟨(best, place), keep rfl, s.le (.keep (.keep (.keep (.keep (.keep (.drop (.drop (.drop .nil))))))))⟩
    | some x =>
      cases o2 with
      | none =>
        refine b_ifF (et_is (et_w (ew_and (q := false) (et_notN (d := .int x) (ev_var 6)) fun h => ew_and (q := false) (et_notN (d := .none) (ev_var 7)) fun h => nomatch h)) rfl) ?_
        exact b_nil fun σ H s => ⟨(best, place), keep rfl, s.le (.keep (.keep (.keep (.keep (.keep (.drop (.drop (.drop .nil))))))))⟩
      | some z =>
        cases best with
        | none =>
          refine b_if (b := true) (et_is (et_w (ew_and (et_notN (d := .int x) (ev_var 6)) fun h => ew_and (et_notN (d := .int z) (ev_var 7)) fun h => ew_and1 (et_w (ew_or (q := false) (et_isN (d := .none) (ev_var 3)) fun h => nomatch h)))) rfl) (fun _ => ⟨_, b_set (i := 3) (R := I K (x + z)) nd (ev_add (ev_var 6) (ev_var 7)) (b_set (i := 4) nd (ev_var 5) (b_nil fun σ H s => s)), ?_⟩) (fun h => nomatch h)
          exact b_nil fun σ H s => ⟨(some (x + z), some c), take x z rfl rfl rfl, s.le (.keep (.keep (.keep (.keep (.keep (.drop (.drop (.drop .nil))))))))⟩
        | some m =>
          refine b_if (b := decide (m < x + z)) (et_is (et_w (ew_and (et_notN (d := .int x) (ev_var 6)) fun h => ew_and (et_notN (d := .int z) (ev_var 7)) fun h => ew_and1 (et_w (ew_or (et_isN (d := .int m) (ev_var 3)) fun h => ew_or1 (et_gt (ev_add (ev_var 6) (ev_var 7)) (ev_var 3)))))) (by simp [isNone])) (fun hlt => ⟨_, b_set (i := 3) (R := I K (x + z)) nd (ev_add (ev_var 6) (ev_var 7)) (b_set (i := 4) nd (ev_var 5) (b_nil fun σ H s => s)), ?_⟩) (fun hlt => ⟨_, b_nil fun σ H s => s, ?_⟩)
          · have hlt : m < x + z := of_decide_eq_true hlt
            exact b_nil fun σ H s => ⟨(some (x + z), some c), take x z rfl rfl (if_pos hlt), s.le (.keep (.keep (.keep (.keep (.keep (.drop (.drop (.drop .nil))))))))⟩
          · have hlt : ¬ m < x + z := of_decide_eq_false hlt
            exact b_nil fun σ H s => ⟨(some m, place), keep (if_neg hlt), s.le (.keep (.keep (.keep (.keep (.keep (.drop (.drop (.drop .nil))))))))⟩
  · obtain ⟨best, place⟩ := y
    obtain ⟨h1, h2⟩ := hc
    have h1 : best = (((t.getD a []).zip (colT t b)).take (List.range n).length).foldl gsf none := h1
    rw [List.length_range, List.take_of_length_le (by omega)] at h1
    have h9 : best = gsum (t.getD a []) (colT t b) := h1
    rcases h2 with ⟨h2, _⟩ | ⟨c, x, z, g1, g2, g3, g4, g5⟩
    · have h2 : best = none := h2
      rw [← h9, h2] at hex
      cases hex
    · have g1 : place = some c := g1
      have g5 : best = some (x + z) := g5
      rw [List.length_range] at g2
      subst g1
      exact b_endE (Q := fun c : {c : Nat // MidOk n t a b c} => I K (c.1 : Nat)) ⟨c, g2, x, z, g3, g4, h9.symm.trans g5⟩ (ev_var 4) rfl
end
end Fr
set_option Elab.async false
set_option linter.all false
set_option maxRecDepth 100000
set_option maxHeartbeats 4000000
namespace Fr
open PySem PySem.Spec PySem.Calls L2
section
variable {P : Program} {w : World} {K : PySem.W.Frag} {mg : Str → Option Value} {base : Heap}
/-! stops -/
def SS (rl : List Nat) (i : Nat) : Nat := ((rl.take i).map fun x => 2 ^ x).sum
theorem SS_zero {rl : List Nat} : SS rl 0 = 0 := by unfold SS; simp
theorem SS_succ {rl : List Nat} {i x : Nat} (h : rl[i]? = some x) : SS rl (i + 1) = 2 ^ x + SS rl i := by
  unfold SS
  rw [take_snoc h, List.map_append, List.sum_append]
  simp
  omega
structure StArg (n : Nat) (cs : List (List Int)) (pic : List Int) (L : Nat) (lv : List Nat) (v : Nat) : Prop where
  sc : Sc n cs pic
  nz : n ≤ 60
  hv : v < n
  lt : ∀ x ∈ lv, x < L
  hL : 0 < L
  lz : lv.length ≤ 1000
structure StopsOk (n : Nat) (cs : List (List Int)) (pic : List Int) (lv : List Nat) (v m : Nat) (ps : List Nat) : Prop where
  len : ps.length = m + 1
  first : ps.getD 0 0 = v
  lt : ∀ p ∈ ps, p < n
  step : ∀ j x, j < m → lv[j]? = some x → ∃ e, ent (powT n (leadT n cs pic) x) (ps.getD j 0) (ps.getD (j + 1) 0) = some e ∧ e + fires cs pic (ps.getD (j + 1) 0) (SS lv.reverse (lv.length - 1 - j)) = fires cs pic (ps.getD j 0) (SS lv.reverse (lv.length - j))
def fsStops (K : PySem.W.Frag) (Ct : Addr) : FS (Nat × List (List Int) × List Int × Nat × List Nat × Nat) := ⟨fun x => [rpPows K Ct x.1 (leadT x.1 x.2.1 x.2.2.1) x.2.2.2.1, D K (.list (x.2.2.2.2.1.map dI)), I K (x.2.2.2.2.2 : Nat)], fun x => StArg x.1 x.2.1 x.2.2.1 x.2.2.2.1 x.2.2.2.2.1 x.2.2.2.2.2, fun x => Exi fun ps : {ps : List Nat // StopsOk x.1 x.2.1 x.2.2.1 x.2.2.2.2.1 x.2.2.2.2.2 x.2.2.2.2.1.length ps} => D K (.list (ps.1.map dI))⟩
theorem led_arg {n : Nat} {cs : List (List Int)} {pic : List Int} (sc : Sc n cs pic) (hn : n ≤ 60) (i t : Nat) : LedArg n (powT n (leadT n cs pic) i) (sumsL cs pic t) (sumsL cs pic (2 ^ i + t)) := by
  have best := best_pow (cs := cs) (pic := pic) hn i
  refine ⟨pow_sq (lead_sq hn) i, by rw [sumsL_len, sc.pl], by rw [sumsL_len, sc.pl], fun v w e hv hw he => ?_, fun v hv => ?_⟩
  · rw [sumsL_get (k := v) (by rw [sc.pl]; exact hv), sumsL_get (k := w) (by rw [sc.pl]; exact hw)]
    exact (led_fires (t := t) sc best hv).1 w e hw he
  · obtain ⟨w, e, hw, h1, h2⟩ := (led_fires (t := t) sc best hv).2
    refine ⟨w, e, hw, h1, ?_⟩
    rw [sumsL_get (k := v) (by rw [sc.pl]; exact hv), sumsL_get (k := w) (by rw [sc.pl]; exact hw)]
    exact h2
theorem getD_app_l {α : Type} {l l' : List α} {i : Nat} {d : α} (h : i < l.length) : (l ++ l').getD i d = l.getD i d := by
  rw [List.getD_eq_getElem?_getD, List.getElem?_append_left h, List.getD_eq_getElem?_getD]
theorem getD_app_r {α : Type} {l : List α} {x d : α} : (l ++ [x]).getD l.length d = x := by
  rw [List.getD_eq_getElem?_getD, List.getElem?_append_right (Nat.le_refl _)]; simp
theorem ok_stops {f Cs Cw Ct : Addr} {fd : FuncData} (W : Bi mg) (S : ClS K Cs Cw Ct) (Gd : Df P w K mg base "led_through" 1 2 (fsLed K Ct)) (Fn : Fun K "stops" "stops" s_stops f fd) : FnOk P w K mg base CX0 2 f fd ["powers", "levels", "place"] ((fsStops K Ct).sp 3) := by
  refine FS.ok (fsStops K Ct) Fn sc_stops rfl fun cdv A outer s H E M y hr hp => ?_
  obtain ⟨n, cs, pic, L, lv, v⟩ := y
  have hp : StArg n cs pic L lv v := hp
  obtain ⟨sc, hnz, hv, hlv, hL, hlz⟩ := hp
  have nd := sc_stops.nd
  have hpl := sc.pl
  generalize hrl : lv.reverse = rl
  have rll : rl.length = lv.length := by rw [← hrl, List.length_reverse]
  have pw : ∀ x, x < L → atI ((List.range L).map fun i => rpTab K Ct (powT n (leadT n cs pic) i)) (x : Int) = some (rpTab K Ct (powT n (leadT n cs pic) x)) := fun x hx => by
    rw [atI_mapN (f := fun i => rpTab K Ct (powT n (leadT n cs pic) i)) (l := List.range L) (d := 0) (by rw [List.length_range]; exact hx)]
    congr 3
    rw [List.getD_eq_getElem?_getD, List.getElem?_range hx]; rfl
  have tl : ∀ i, (powT n (leadT n cs pic) i).length = n := fun i => (pow_sq (lead_sq hnz) i).len
  let aheadD : Nat → List PyData := fun i => (List.range i).map fun k => dL (sumsL cs pic (SS rl k))
  have ah_get : ∀ i k, k < i → atI ((aheadD i).map (D K)) (k : Int) = some (D K (dL (sumsL cs pic (SS rl k)))) := fun i k hk => by
    refine atI_nat ?_
    show (((List.range i).map fun k => dL (sumsL cs pic (SS rl k))).map (D K))[k]? = _
    rw [List.getElem?_map, List.getElem?_map, List.getElem?_range hk]; rfl
  have ah_succ : ∀ i, aheadD (i + 1) = aheadD i ++ [dL (sumsL cs pic (SS rl i))] := fun i => by
    show (List.range (i + 1)).map _ = _
    rw [List.range_succ, List.map_append]; rfl
  refine b_own (i := 3) (As := (aheadD 1).map (D K)) nd (en_lst (ea_cons ?_ ea_nil) (Nat.le_of_ble_eq_true rfl)) fun p => ?_
  · refine ev_newD (ds := (sumsL cs pic (SS rl 0)).map .int) (en_is (en_rep (n := n) (Rs := [I K 0]) (ev_new (en_lst (ea_cons ev_int ea_nil) (Nat.le_of_ble_eq_true rfl))) (ev_fld (ev_ixR (ev_var 0) ev_int (pw 0 hL)) S.tt S.t2 look_tsz) (by rw [tl]) (by rw [List.length_singleton]; omega) (by omega)) ?_)
    unfold sumsL
    rw [SS_zero, hpl, List.map_map, List.map_map]
    simp only [Function.comp_def, fires, List.map_const', List.length_range]
    simp
    exact .inr rfl
  refine b_for rfl PassesOwn.never (ds := rl) (it := fun x => D K (dI x)) (it_mapL (ev_newD (en_is (en_rev (ds := lv.map dI) (ev_var 1) (by rw [List.length_map]; omega)) (by rw [← List.map_reverse, hrl])))) (fun _ => [some (rpPows K Ct n (leadT n cs pic) L), some (D K (.list (lv.map dI))), some (I K (v : Nat)), some (Vl (.ref p)), none, none, none, none, none, none, none, none, none]) (fun i => [(p, LO K (aheadD (i + 1)))]) (fun _ x => [some (rpPows K Ct n (leadT n cs pic) L), some (D K (.list (lv.map dI))), some (I K (v : Nat)), some (Vl (.ref p)), some (D K (dI x)), none, none, none, none, none, none, none, none]) [4] rfl (Le.refl _)
    (fun gv gR i x h => tg_name (i := 4) nd) (fun gv gR i x h => ?_) ?_
  · have hi := (List.getElem?_eq_some_iff.mp h).1
    have hx : x < L := hlv x (by
      have := List.mem_of_getElem? h
      rw [← hrl] at this
      exact List.mem_reverse.mp this)
    have last : atI ((aheadD (i + 1)).map (D K)) (-1) = some (D K (dL (sumsL cs pic (SS rl i)))) := by rw [ah_succ, List.map_append]; exact atI_last
    have sz : (aheadD (i + 1)).length = i + 1 := by show ((List.range (i + 1)).map _).length = _; rw [List.length_map, List.length_range]
    refine b_appD (k := 0) (d := dL (sumsL cs pic (2 ^ x + SS rl i))) (ev_var 3) rfl (ev_callR (n, powT n (leadT n cs pic) x, sumsL cs pic (SS rl i), sumsL cs pic (2 ^ x + SS rl i)) Gd (hr.mono (by decide)) (ea_cons (ev_ixR (ev_var 0) (ev_var 4) (pw x hx)) (ea_cons (ev_ixO (k := 0) (ev_var 3) rfl (ev_neg ev_int) last) ea_nil)) (led_arg sc hnz x (SS rl i))) (by rw [sz]; omega) ?_
    exact b_nil fun σ H s => s.cast (.keep (.keep (.keep (.keep (.drop (.drop (.drop (.drop (.drop (.drop (.drop (.drop (.drop .nil))))))))))))) (by rw [ah_succ (i + 1), SS_succ h]; rfl)
  rw [rll]
  refine b_own (i := 5) nd (en_lstD (ds := [dI v]) (ea_cons (ev_var 2) ea_nil)) fun q => ?_
  refine b_forE rfl PassesOwn.never (ds := lv.zipIdx) (it := fun x : Nat × Nat => Enu K (dI x.1, x.2)) (it_of_map (g := fun x : Nat × Nat => (dI x.1, x.2)) (by rw [← zipIdx_map' dI]; exact it_enuL W (ds := lv.map dI) (ev_var 1))) (fun i (y : List Nat × Nat) => y.1.length = i ∧ StopsOk n cs pic lv v i (y.1 ++ [y.2])) (fun _ _ => [some (rpPows K Ct n (leadT n cs pic) L), some (D K (.list (lv.map dI))), some (I K (v : Nat)), some (Vl (.ref p)), none, some (Vl (.ref q)), none, none, none, none, none, none, none]) (fun _ y => [(q, LO K ((y.1 ++ [y.2]).map dI)), (p, LO K (aheadD (lv.length + 1)))]) (fun _ _ x => [some (rpPows K Ct n (leadT n cs pic) L), some (D K (.list (lv.map dI))), some (I K (v : Nat)), some (Vl (.ref p)), some (I K (x.1 : Nat)), some (Vl (.ref q)), some (I K (x.2 : Nat)), none, none, none, none, none, none]) ([6] ++ ([4] ++ []))
    ⟨([], v), ⟨rfl, rfl, rfl, fun p hp => by rw [List.mem_singleton.mp hp]; exact hv, fun j x hj => by omega⟩, rfl, .keep (.keep (.keep (.keep (.keep (.keep (.keep (.keep (.keep (.keep (.keep (.keep (.keep .nil))))))))))))⟩ (fun gv gR i x y h c => tg_tupR rfl (tgs_cons (tg_name (i := 6) nd) (tgs_cons (tg_name (i := 4) nd) tgs_nil))) (fun gv gR i x y h c => ?_) (fun y c => ?_)
  · obtain ⟨x, i'⟩ := x
    obtain ⟨ini, la⟩ := y
    obtain ⟨c0, c⟩ := c
    have c0 : ini.length = i := c0
    have hzi : lv[i]? = some x ∧ i' = i := by
      rw [List.getElem?_zipIdx] at h
      cases hl : lv[i]? with
      | none => rw [hl] at h; cases h
      | some z =>
        rw [hl] at h
        have h : (z, 0 + i) = (x, i') := Option.some.inj h
        injection h with h1 h2
        exact ⟨by rw [h1], by omega⟩
    obtain ⟨hx, rfl⟩ := hzi
    have hi := (List.getElem?_eq_some_iff.mp hx).1
    have hxL : x < L := hlv x (List.mem_of_getElem? hx)
    have hla : la < n := c.lt la (by simp)
    have last : atI (((ini ++ [la]).map dI).map (D K)) (-1) = some (D K (dI la)) := by rw [List.map_append, List.map_append]; exact atI_last
    have i1 : (((lv.map dI).length : Nat) : Int) - 1 - (i' : Nat) = ((lv.length - 1 - i' : Nat) : Int) := by rw [List.length_map]; omega
    have i2 : (((lv.map dI).length : Nat) : Int) - (i' : Nat) = ((lv.length - i' : Nat) : Int) := by rw [List.length_map]; omega
    have sg : ∀ t k, k < n → atI ((sumsL cs pic t).map PyData.int) (k : Int) = some (.int (fires cs pic k t)) := fun t k hk => by
      rw [atI_mapN (f := PyData.int) (l := sumsL cs pic t) (d := 0) (by rw [sumsL_len, hpl]; exact hk), sumsL_get (by rw [hpl]; exact hk)]
    refine b_set (i := 7) nd (ev_ixO (k := 1) (ev_var 3) rfl (ev_int_is (ev_sub (ev_sub (ev_lenL W (ev_var 1)) ev_int) (ev_var 6)) i1) (ah_get (lv.length + 1) (lv.length - 1 - i') (by omega))) ?_
    refine b_set (i := 8) nd (ev_ixL (ev_ixO (k := 1) (ev_var 3) rfl (ev_int_is (ev_sub (ev_lenL W (ev_var 1)) (ev_var 6)) i2) (ah_get (lv.length + 1) (lv.length - i') (by omega))) (ev_ixO (k := 0) (ev_var 5) rfl (ev_neg ev_int) last) (sg _ la hla)) ?_
    generalize htb : powT n (leadT n cs pic) x = tb
    have hsq : Sq n tb := by rw [← htb]; exact pow_sq (lead_sq hnz) x
    have hrow : (tb.getD la []).length = n := hsq.row _ (getD_mem' (by rw [hsq.len]; exact hla))
    refine b_set (i := 9) (R := D K (dRow (tb.getD la []))) nd (ev_ixT (ds := tb.map dRow) (ev_fld (by rw [← htb]; exact ev_ixR (ev_var 0) (ev_var 4) (pw x hxL)) S.tt S.t1 look_rows) (ev_ixO (k := 0) (ev_var 5) rfl (ev_neg ev_int) last) (atI_mapN (f := dRow) (l := tb) (d := []) (by rw [hsq.len]; exact hla))) ?_
    generalize hgo : fires cs pic la (SS rl (lv.length - i')) = goal
    generalize hbh : sumsL cs pic (SS rl (lv.length - 1 - i')) = behind
    have sb : ∀ k, k < n → atI (behind.map PyData.int) (k : Int) = some (.int (behind.getD k 0)) := fun k hk => atI_mapN (f := PyData.int) (l := behind) (d := 0) (by rw [← hbh, sumsL_len, hpl]; exact hk)
    let pr : Option Int × Nat → Bool := fun z => match z.1 with
      | none => false
      | some e => decide (e + behind.getD z.2 0 = goal)
    refine b_setLc (i := 10) (own := [("other", 11), ("entry", 12)]) (xs := (tb.getD la []).zipIdx) (it := fun z : Option Int × Nat => Enu K (oD z.1, z.2)) (g := fun z => dI z.2) (pr := pr) (js := [11] ++ ([12] ++ [])) (Γt := fun z => [some (rpPows K Ct n (leadT n cs pic) L), some (D K (.list (lv.map dI))), some (I K (v : Nat)), some (Vl (.ref p)), some (I K (x : Nat)), some (Vl (.ref q)), some (I K (i' : Nat)), some (D K (dL behind)), some (I K goal), some (D K (dRow (tb.getD la []))), none, some (I K (z.2 : Nat)), some (D K (oD z.1))]) rfl nd
      (it_of_map (g := fun z : Option Int × Nat => (oD z.1, z.2)) (by rw [← zipIdx_map' oD]; exact it_enuT W (ds := (tb.getD la []).map oD) (ev_var 9))) (blkOk_by (N := N_stops) (sc := defScope s_stops) (by decide +kernel))
      ⟨fun _ _ _ _ _ _ _ _ _ z hz => tg_tupR rfl (tgs_cons (tg_name (i := 11) nd) (tgs_cons (tg_name (i := 12) nd) tgs_nil)), fun _ _ _ _ _ _ _ _ _ z hz => ets_one ?_, fun _ _ _ _ _ _ _ _ _ z hz _ => ev_var 11, fun j h => h, by rw [List.length_zipIdx, hrow]; omega⟩ (by show 10 < 13; decide) ?_
    · obtain ⟨o, k⟩ := z
      have hk : k < n := by have := List.mem_zipIdx hz; omega
      cases o with
      | none => exact et_is (et_w (ew_and (q := false) (et_notN (d := .none) (ev_var 12)) fun h => nomatch h)) rfl
      | some e => exact et_is (et_w (ew_and (et_notN (d := .int e) (ev_var 12)) fun h => ew_and1 (et_eq (ev_add (ev_var 12) (ev_ixL (ev_var 7) (ev_var 11) (sb k hk))) (ev_var 8)))) rfl
    · -- there is one
      have inF : ∀ k, k ∈ ((tb.getD la []).zipIdx.filter pr).map (fun z => z.2) → k < n ∧ ∃ e, (tb.getD la []).getD k none = some e ∧ e + behind.getD k 0 = goal := fun k hk => by
        obtain ⟨⟨o, k'⟩, hz, rfl⟩ := List.mem_map.mp hk
        obtain ⟨hz1, hz2⟩ := List.mem_filter.mp hz
        have hm := List.mem_zipIdx hz1
        have hkn : k' < n := by have := hm; omega
        cases o with
        | none => cases hz2
        | some e =>
          refine ⟨hkn, e, ?_, of_decide_eq_true hz2⟩
          have h3 := hm.2.2
          rw [List.getD_eq_getElem?_getD, List.getElem?_eq_getElem (by omega)]
          simp at h3
          exact h3.symm
      have best := best_pow (cs := cs) (pic := pic) hnz x
      have hS : SS rl (lv.length - i') = 2 ^ x + SS rl (lv.length - 1 - i') := by
        have e1 : lv.length - i' = (lv.length - 1 - i') + 1 := by omega
        rw [e1]
        refine SS_succ ?_
        rw [← hrl, List.getElem?_reverse (by omega)]
        have e2 : lv.length - 1 - (lv.length - 1 - i') = i' := by omega
        rw [e2]
        exact hx
      have bg : ∀ k, k < n → behind.getD k 0 = fires cs pic k (SS rl (lv.length - 1 - i')) := fun k hk => by
        rw [← hbh, sumsL_get (by rw [hpl]; exact hk)]
      obtain ⟨w, e, hw, hwe, hwg⟩ := (led_fires (t := SS rl (lv.length - 1 - i')) sc best hla).2
      rw [htb] at hwe
      have hwe : (tb.getD la []).getD w none = some e := hwe
      rw [← hS, hgo, ← bg w hw] at hwg
      have hin : w ∈ ((tb.getD la []).zipIdx.filter pr).map (fun z => z.2) := by
        refine List.mem_map.mpr ⟨(some e, w), List.mem_filter.mpr ⟨?_, decide_eq_true hwg⟩, rfl⟩
        rw [List.mem_iff_getElem?]
        refine ⟨w, ?_⟩
        rw [List.getElem?_zipIdx, getD_get (d := none) (by rw [hrow]; exact hw), hwe]
        simp
      have efit : ((tb.getD la []).zipIdx.filter pr).map (fun z => dI z.2) = (((tb.getD la []).zipIdx.filter pr).map (fun z => z.2)).map dI := by rw [List.map_map]; rfl
      rw [efit]
      generalize ((tb.getD la []).zipIdx.filter pr).map (fun z => z.2) = fits at inF hin
      cases fits with
      | nil => cases hin
      | cons nx more =>
        obtain ⟨hnx, e', he1, he2⟩ := inF nx (List.mem_cons_self ..)
        have hpz : (ini ++ [la]).length = i' + 1 := by simp [c0]
        refine b_appD (k := 0) (d := dI nx) (ev_var 5) rfl (ev_ixL (ev_le (ev_var 10) LP_D) ev_int (atI_mapN (f := dI) (l := nx :: more) (d := 0) (k := 0) (Nat.succ_pos _))) (by rw [List.length_map, hpz]; omega) ?_
        refine b_nil fun σ H s => ⟨(ini ++ [la], nx), ⟨by simp [c0], ?_⟩, s.cast (.keep (.keep (.keep (.keep (.drop (.keep (.drop (.drop (.drop (.drop (.drop (.drop (.drop .nil))))))))))))) (by rw [List.map_append (l₁ := ini ++ [la])]; rfl)⟩
        refine ⟨by simp [c0], ?_, fun p hp => ?_, fun j z hj hz => ?_⟩
        · show ((ini ++ [la]) ++ [nx]).getD 0 0 = v
          rw [getD_app_l (by omega)]
          exact c.first
        · rcases List.mem_append.mp hp with h | h
          · exact c.lt p h
          · rw [List.mem_singleton.mp h]; exact hnx
        · show ∃ e, ent _ (((ini ++ [la]) ++ [nx]).getD j 0) (((ini ++ [la]) ++ [nx]).getD (j + 1) 0) = some e ∧ e + fires cs pic (((ini ++ [la]) ++ [nx]).getD (j + 1) 0) _ = fires cs pic (((ini ++ [la]) ++ [nx]).getD j 0) _
          rw [getD_app_l (l := ini ++ [la]) (i := j) (by omega)]
          by_cases hji : j < i'
          · rw [getD_app_l (l := ini ++ [la]) (i := j + 1) (by omega)]
            exact c.step j z hji hz
          · have ej : j = i' := by omega
            subst ej
            have e3 : ((ini ++ [la]) ++ [nx]).getD (j + 1) 0 = nx := by
              have := getD_app_r (l := ini ++ [la]) (x := nx) (d := 0)
              rwa [hpz] at this
            have e4 : (ini ++ [la]).getD j 0 = la := by
              have := getD_app_r (l := ini) (x := la) (d := 0)
              rwa [c0] at this
            rw [e3, e4]
            rw [hx] at hz
            cases hz
            rw [htb, hrl, hgo]
            refine ⟨e', he1, ?_⟩
            rw [← bg nx hnx]
            exact he2
  · obtain ⟨ini, la⟩ := y
    obtain ⟨c0, c⟩ := c
    rw [List.length_zipIdx] at c0 c
    refine b_frzD (k := 0) (i := 5) rfl rfl ?_
    exact b_endE (Q := fun ps : {ps : List Nat // StopsOk n cs pic lv v lv.length ps} => D K (.list (ps.1.map dI))) ⟨ini ++ [la], c⟩ (ev_le (ev_var 5) LP_D) rfl
end
end Fr
set_option Elab.async false
set_option linter.all false
set_option maxRecDepth 100000
set_option maxHeartbeats 4000000
namespace Fr
open PySem PySem.Spec PySem.Calls L2
section
variable {P : Program} {w : World} {K : PySem.W.Frag} {mg : Str → Option Value} {base : Heap}
/-! dicts of entries -/
def enP : En (Nat × Nat) where
  enc := dP
  ok := fun k => rfl
  dep := fun k => by
    show NestedKey.depth (.tup [.num _, .num _]) ≤ 8
    simp [NestedKey.depth, NestedKey.depthAll]
  inj := fun a b h => by
    have h' : NestedKey.tup [.num (a.1 : Int), .num (a.2 : Int)] = NestedKey.tup [.num (b.1 : Int), .num (b.2 : Int)] := h
    injection h' with h'
    injection h' with h1 h'
    injection h' with h2 _
    injection h1 with h1
    injection h2 with h2
    obtain ⟨a1, a2⟩ := a
    obtain ⟨b1, b2⟩ := b
    have h1 : (a1 : Int) = (b1 : Int) := h1
    have h2 : (a2 : Int) = (b2 : Int) := h2
    have h1 : a1 = b1 := by omega
    have h2 : a2 = b2 := by omega
    rw [h1, h2]
  tup := fun k => ⟨_, rfl⟩
def kvE (K : PySem.W.Frag) (ks : Lvl) : List ((Nat × Nat) × RP) := ks.map fun e : Ent => (e.1, D K (nD e.2))
theorem getK_kvE {ks : Lvl} {k : Nat × Nat} : (getK (kvE K ks) k).isSome = decide (k ∈ keysL ks) := by
  unfold getK kvE
  rw [Option.isSome_map]
  rw [Bool.eq_iff_iff, List.find?_isSome, decide_eq_true_iff]
  constructor
  · rintro ⟨p, hp, e⟩
    obtain ⟨x, hx, rfl⟩ := List.mem_map.mp hp
    exact List.mem_map.mpr ⟨x, hx, of_decide_eq_true e⟩
  · intro h
    obtain ⟨x, hx, rfl⟩ := List.mem_map.mp h
    exact ⟨_, List.mem_map.mpr ⟨x, hx, rfl⟩, by simp⟩
theorem putE_kvE {ks : Lvl} {k : Nat × Nat} {o : Option Nat} : putE (kvE K ks) k (D K (nD o)) = kvE K (setE ks k o) := by
  unfold putE setE
  rw [getK_kvE]
  by_cases h : k ∈ keysL ks
  · rw [if_pos (decide_eq_true h), if_pos h]
    unfold kvE
    rw [List.map_map, List.map_map]
    refine List.map_congr_left fun e _ => ?_
    show (if e.1 = k then (e.1, D K (nD o)) else (e.1, D K (nD e.2))) = ((if e.1 = k then (e.1, o) else e).1, D K (nD (if e.1 = k then (e.1, o) else e).2))
    split <;> rfl
  · rw [if_neg (by simpa using h), if_neg h]
    unfold kvE
    rw [List.map_append]; rfl
theorem sd_kvE {ks : Lvl} {k : Nat × Nat} : (if (getK (kvE K ks) k).isSome then kvE K ks else kvE K ks ++ [(k, Nn K)]) = kvE K (addE ks k) := by
  unfold addE
  rw [getK_kvE]
  by_cases h : k ∈ keysL ks
  · rw [if_pos (decide_eq_true h), if_pos h]
  · rw [if_neg (by simpa using h), if_neg h]
    unfold kvE
    rw [List.map_append]; rfl
structure NdArg (n : Nat) (cs : List (List Int)) (pic : List Int) (L : Nat) (lv : List Nat) (v : Nat) (ps : List Nat) : Prop where
  st : StArg n cs pic L lv v
  ok : StopsOk n cs pic lv v lv.length ps
  lL : L ≤ 1000
structure NdOk (n : Nat) (cs : List (List Int)) (pic : List Int) (L : Nat) (lv : List Nat) (ps : List Nat) (kss : List Lvl) : Prop where
  nd : Needs n L (powT n (leadT n cs pic)) 1 kss
  has : ∀ j x, lv[j]? = some x → (ps.getD j 0, ps.getD (j + 1) 0) ∈ keysL (kss.getD x [])
abbrev rpLv (P : Program) (w : World) (K : PySem.W.Frag) (ks : Lvl) : RP := DR P w K enP (kvE K ks)
def fsNeeded (P : Program) (w : World) (K : PySem.W.Frag) (Ct : Addr) : FS (Nat × List (List Int) × List Int × Nat × List Nat × Nat × List Nat) := ⟨fun x => [rpPows K Ct x.1 (leadT x.1 x.2.1 x.2.2.1) x.2.2.2.1, D K (.list (x.2.2.2.2.1.map dI)), D K (.list (x.2.2.2.2.2.2.map dI))], fun x => NdArg x.1 x.2.1 x.2.2.1 x.2.2.2.1 x.2.2.2.2.1 x.2.2.2.2.2.1 x.2.2.2.2.2.2, fun x => Exi fun kss : {kss : List Lvl // NdOk x.1 x.2.1 x.2.2.1 x.2.2.2.1 x.2.2.2.2.1 x.2.2.2.2.2.2 kss} => LR (kss.1.map (rpLv P w K))⟩
theorem ok_needed_entries {f Cs Cw Ct : Addr} {fd : FuncData} (W : Bi mg) (S : ClS K Cs Cw Ct) (Gm : Df P w K mg base "middle" 1 3 (fsMid K Ct)) (Fn : Fun K "needed_entries" "needed_entries" s_needed_entries f fd) : FnOk P w K mg base CX0 2 f fd ["powers", "levels", "places"] ((fsNeeded P w K Ct).sp 3) := by
  refine FS.ok (fsNeeded P w K Ct) Fn sc_needed_entries rfl fun cdv A outer s H E M y hr hp => ?_
  obtain ⟨n, cs, pic, L, lv, v, pl⟩ := y
  have hp : NdArg n cs pic L lv v pl := hp
  obtain ⟨⟨sc, hnz, hv, hlv, hL, hlz⟩, hok, hLz⟩ := hp
  have nd := sc_needed_entries.nd
  generalize hT : powT n (leadT n cs pic) = T at *
  have sqT : ∀ i, Sq n (T i) := fun i => by rw [← hT]; exact pow_sq (lead_sq hnz) i
  have T1 : ∀ i, T (i + 1) = mulT n (T i) (T i) := fun i => by rw [← hT]; rfl
  have pw : ∀ x, x < L → atI ((List.range L).map fun i => rpTab K Ct (T i)) (x : Int) = some (rpTab K Ct (T x)) := fun x hx => by
    rw [atI_mapN (f := fun i => rpTab K Ct (T i)) (l := List.range L) (d := 0) (by rw [List.length_range]; exact hx)]
    congr 3
    rw [List.getD_eq_getElem?_getD, List.getElem?_range hx]; rfl
  have e0 : rpPows K Ct n (leadT n cs pic) L = LR ((List.range L).map fun i => rpTab K Ct (T i)) := by unfold rpPows; rw [hT]
  let O : Addr → Lvl → OP := fun p ks => DO P w K enP (kvE K ks) p
  let G0 : Gam := [some (rpPows K Ct n (leadT n cs pic) L), some (D K (.list (lv.map dI))), some (D K (.list (pl.map dI)))]
  refine b_ownLcF (i := 3) (O := fun p => DO P w K enP (kvE K []) p) (own := [("_", 9)]) (xs := (List.range L).map fun i => rpTab K Ct (T i)) (it := fun R => R) (js := [9]) (Γt := fun R => [some (rpPows K Ct n (leadT n cs pic) L), some (D K (.list (lv.map dI))), some (D K (.list (pl.map dI))), none, none, none, none, none, none, some R]) rfl nd (it_listR (by rw [← e0]; exact ev_var 0)) (blkOk_by (N := N_needed_entries) (sc := defScope s_needed_entries) (by decide +kernel))
    (fun _ _ _ _ _ _ _ _ _ x hx => tg_name (i := 9) nd) (fun _ _ _ _ _ _ _ _ _ x hx => ef_newN) (fun j h => h) (by rw [List.length_map, List.length_range]; omega) (by show 3 < 10; decide) fun ps hps => ?_
  rw [List.length_map, List.length_range] at hps
  have pg : ∀ x, x < L → ps[x]? = some (ps.getD x 0) := fun x hx => getD_get (by omega)
  have ixp : ∀ x, x < L → atI (Vp ps) (x : Int) = some (Vl (.ref (ps.getD x 0))) := fun x hx => atI_mapN (f := fun p => Vl (.ref p)) (l := ps) (d := 0) (by omega)
  refine b_eqD (Δ' := rowsG O ps (List.replicate L [])) (by rw [← hps, rowsG_rep, List.append_nil]) ?_
  have ln : ∀ {kss : List Lvl} {x : Nat} {y : Nat}, Needs n L T y kss → x < L → (kvE K (kss.getD x [])).length < 99999 := fun h hx => by
    have h1 := lv_len (h.ok _ hx)
    have h2 : n * n ≤ 60 * 60 := Nat.mul_le_mul hnz hnz
    unfold kvE
    rw [List.length_map]
    omega
  refine b_forE rfl PassesOwn.never (ds := lv.zipIdx) (it := fun x : Nat × Nat => Enu K (dI x.1, x.2)) (it_of_map (g := fun x : Nat × Nat => (dI x.1, x.2)) (by rw [← zipIdx_map' dI]; exact it_enuL W (ds := lv.map dI) (ev_var 1))) (fun i (kss : List Lvl) => Needs n L T L kss ∧ ∀ j x, j < i → lv[j]? = some x → (pl.getD j 0, pl.getD (j + 1) 0) ∈ keysL (kss.getD x [])) (fun _ _ => [some (rpPows K Ct n (leadT n cs pic) L), some (D K (.list (lv.map dI))), some (D K (.list (pl.map dI))), some (LR (Vp ps)), none, none, none, none, none, none]) (fun _ kss => rowsG O ps kss) (fun _ _ x => [some (rpPows K Ct n (leadT n cs pic) L), some (D K (.list (lv.map dI))), some (D K (.list (pl.map dI))), some (LR (Vp ps)), some (I K (x.2 : Nat)), some (I K (x.1 : Nat)), none, none, none, none]) ([4] ++ ([5] ++ []))
    ⟨List.replicate L [], ⟨⟨by simp, fun y hy => ?_, fun y hy hyL e he => ?_, fun y h1 h2 => by omega⟩, fun j x h => by omega⟩, rfl, Le.refl _⟩ (fun gv gR i x y h c => tg_tupR rfl (tgs_cons (tg_name (i := 4) nd) (tgs_cons (tg_name (i := 5) nd) tgs_nil))) (fun gv gR i x kss h c => ?_) (fun kss c => ?_)
  · have : (List.replicate L ([] : Lvl)).getD y [] = [] := by rw [List.getD_eq_getElem?_getD, List.getElem?_replicate]; split <;> rfl
    rw [this]
    exact ⟨List.nodup_nil, fun k hk => by cases hk⟩
  · have : (List.replicate L ([] : Lvl)).getD y [] = [] := by rw [List.getD_eq_getElem?_getD, List.getElem?_replicate]; split <;> rfl
    rw [this] at he
    cases he
  · obtain ⟨x, i'⟩ := x
    obtain ⟨c1, c2⟩ := c
    have hzi : lv[i]? = some x ∧ i' = i := by
      rw [List.getElem?_zipIdx] at h
      cases hl : lv[i]? with
      | none => rw [hl] at h; cases h
      | some z =>
        rw [hl] at h
        have h : (z, 0 + i) = (x, i') := Option.some.inj h
        injection h with h1 h2
        exact ⟨by rw [h1], by omega⟩
    obtain ⟨hx, rfl⟩ := hzi
    have hi := (List.getElem?_eq_some_iff.mp hx).1
    have hxL : x < L := hlv x (List.mem_of_getElem? hx)
    have hpl := hok.len
    obtain ⟨e, he, _⟩ := hok.step i' x hi hx
    have hp1 : pl.getD i' 0 < n := hok.lt _ (getD_mem' (by omega))
    have hp2 : pl.getD (i' + 1) 0 < n := hok.lt _ (getD_mem' (by omega))
    have vld : Vld n (T x) (pl.getD i' 0, pl.getD (i' + 1) 0) := ⟨hp1, hp2, by
      show (ent (T x) _ _).isSome = true
      rw [← hT, he]; rfl⟩
    have pix : ∀ k, k < pl.length → atI (pl.map dI) (k : Int) = some (dI (pl.getD k 0)) := fun k hk => atI_mapN (f := dI) (l := pl) (d := 0) hk
    refine b_putN (E := enP) (k := (pl.getD i' 0, pl.getD (i' + 1) 0)) (j := x) (p := ps.getD x 0) (kvs := kvE K (kss.getD x [])) hr ev_non (ev_ixR (ev_var 3) (ev_var 5) (ixp x hxL)) (rowsG_get (pg x hxL) (getD_get (by rw [c1.len]; exact hxL))) (ev_tupD (ds := [.int (pl.getD i' 0 : Nat), .int (pl.getD (i' + 1) 0 : Nat)]) (ea_cons (ev_ixL (ev_var 2) (ev_var 4) (pix i' (by omega))) (ea_cons (ev_ixL (ev_var 2) (ev_int_is (ev_add (ev_var 4) ev_int) (show ((i' : Nat) : Int) + 1 = ((i' + 1 : Nat) : Int) by omega)) (pix (i' + 1) (by omega))) ea_nil))) (by have := ln c1 hxL; omega) ?_
    refine b_eqD (Δ' := rowsG O ps (kss.set x (addE (kss.getD x []) (pl.getD i' 0, pl.getD (i' + 1) 0)))) ?_ ?_
    · rw [← setE_raw (c1.raw x hxL hxL)]
      show (rowsG O ps kss).set x (ps.getD x 0, DO P w K enP (putE (kvE K (kss.getD x [])) _ (D K (nD none))) _) = _
      rw [putE_kvE]
      exact rowsG_set (pg x hxL)
    · refine b_nil fun σ H s => ⟨_, ⟨needs_add c1 hxL hxL vld, fun j z hj hz => ?_⟩, s.le (.keep (.keep (.keep (.keep (.drop (.drop (.drop (.drop (.drop (.drop .nil))))))))))⟩
      rw [getD_set2 (by rw [c1.len]; exact hxL)]
      by_cases hji : j < i'
      · have := c2 j z hji hz
        split
        · rename_i e'; subst e'; exact addE_sub this
        · exact this
      · have : j = i' := by omega
        subst this
        rw [hx] at hz
        cases hz
        rw [if_pos rfl]
        exact addE_self
  · obtain ⟨c1, c2⟩ := c
    rw [List.length_zipIdx] at c2
    have c2 : ∀ j x, lv[j]? = some x → (pl.getD j 0, pl.getD (j + 1) 0) ∈ keysL (kss.getD x []) := fun j x hj => c2 j x (List.getElem?_eq_some_iff.mp hj).1 hj
    have lenP : ((((List.range L).map fun i => rpTab K Ct (T i)).length : Nat) : Int) - 1 = ((L - 1 : Nat) : Int) := by rw [List.length_map, List.length_range]; omega
    refine b_forE rfl PassesOwn.never (ds := List.range (L - 1)) (it := fun t => I K (((L - 1 : Nat) : Int) + (t : Nat) * (-1))) (it_rng3 W (ev_int_is (ev_sub (ev_lenR W (by rw [← e0]; exact ev_var 0)) ev_int) lenP) ev_int (ev_neg ev_int) (by
      have := RgC.neg (i := ((L - 1 : Nat) : Int)) (j := 0) (by omega) (by omega) (by omega) (by omega)
      rwa [show (((L - 1 : Nat) : Int) - 0).toNat = L - 1 by omega] at this)) (fun t (kss : List Lvl) => Needs n L T (L - t) kss ∧ ∀ j x, lv[j]? = some x → (pl.getD j 0, pl.getD (j + 1) 0) ∈ keysL (kss.getD x [])) (fun _ _ => [some (rpPows K Ct n (leadT n cs pic) L), some (D K (.list (lv.map dI))), some (D K (.list (pl.map dI))), some (LR (Vp ps)), none, none, none, none, none, none]) (fun _ kss => rowsG O ps kss) (fun _ _ t => [some (rpPows K Ct n (leadT n cs pic) L), some (D K (.list (lv.map dI))), some (D K (.list (pl.map dI))), some (LR (Vp ps)), none, some (I K ((L - 1 - t : Nat) : Int)), none, none, none, none]) [5]
      ⟨kss, ⟨c1, c2⟩, rfl, Le.refl _⟩ (fun gv gR i t y h c => ?_) (fun gv gR i t kss h c => ?_) (fun kss c => ?_)
    · obtain ⟨ht, rfl⟩ := range_at h
      have e : ((L - 1 - t : Nat) : Int) = ((L - 1 : Nat) : Int) + (t : Nat) * (-1) := by omega
      rw [e]
      exact tg_name (i := 5) nd
    · obtain ⟨ht, rfl⟩ := range_at h
      obtain ⟨d1, d2⟩ := c
      obtain ⟨x, hx⟩ : ∃ x, L - 1 - t = x + 1 := ⟨L - 2 - t, by omega⟩
      rw [hx]
      have hLt : L - t = x + 1 + 1 := by omega
      rw [hLt] at d1
      have hxL : x + 1 < L := by omega
      generalize hsnap : keysL (kss.getD (x + 1) []) = snap
      have hs0 : Half n L T (x + 1) 0 snap kss := by rw [← hsnap]; exact half_start hxL d1
      have hsl : snap.length < 99999 := by
        have := ln d1 hxL
        unfold kvE at this
        rw [List.length_map] at this
        rw [← hsnap, List.length_map]; exact this
      refine b_forE rfl PassesOwn.never (ds := snap) (it := fun k => D K (dP k)) (it_mapL (ev_newD (en_is (en_listN (E := enP) (kvs := kvE K (kss.getD (x + 1) [])) W rfl (edi_own (j := x + 1) (p := ps.getD (x + 1) 0) (ev_ixR (ev_var 3) (ev_var 5) (ixp (x + 1) hxL)) (rowsG_get (pg (x + 1) hxL) (getD_get (by rw [d1.len]; exact hxL)))) (by have := ln d1 hxL; omega)) (by rw [← hsnap]; unfold kvE keysL; rw [List.map_map, List.map_map, List.map_map]; rfl)))) (fun j (kss : List Lvl) => Half n L T (x + 1) j snap kss ∧ ∀ j x, lv[j]? = some x → (pl.getD j 0, pl.getD (j + 1) 0) ∈ keysL (kss.getD x [])) (fun _ _ => [some (rpPows K Ct n (leadT n cs pic) L), some (D K (.list (lv.map dI))), some (D K (.list (pl.map dI))), some (LR (Vp ps)), none, some (I K ((x + 1 : Nat))), none, none, none, none]) (fun _ kss => rowsG O ps kss) (fun _ _ k => [some (rpPows K Ct n (leadT n cs pic) L), some (D K (.list (lv.map dI))), some (D K (.list (pl.map dI))), some (LR (Vp ps)), none, some (I K ((x + 1 : Nat))), some (I K (k.1 : Nat)), some (I K (k.2 : Nat)), none, none]) ([6] ++ ([7] ++ []))
        ⟨kss, ⟨hs0, d2⟩, rfl, Le.refl _⟩ (fun gv gR i k y h c => tg_tup (ds := [.int (k.1 : Nat), .int (k.2 : Nat)]) rfl (tgs_cons (tg_name (i := 6) nd) (tgs_cons (tg_name (i := 7) nd) tgs_nil))) (fun gv gR j k kss h c => ?_) (fun kss c => ?_)
      · obtain ⟨a, b⟩ := k
        obtain ⟨g1, g2⟩ := c
        have hin : (a, b) ∈ keysL (kss.getD (x + 1) []) := by rw [g1.keys]; exact List.mem_of_getElem? h
        obtain ⟨ha, hb, hab⟩ := (g1.ok _ hxL).vd _ hin
        have ha : a < n := ha
        have hb : b < n := hb
        have hab : (ent (T (x + 1)) a b).isSome = true := hab
        have marg : MidArg n (T x) a b := ⟨sqT x, ha, hb, by rw [T1 x, ent_mul (sqT x) ha hb] at hab; exact hab⟩
        have lx : ((x + 1 : Nat) : Int) - 1 = (x : Nat) := by omega
        refine b_setE (i := 8) (Q := fun c : {c : Nat // MidOk n (T x) a b c} => I K (c.1 : Nat)) nd (ev_callR (n, T x, a, b) Gm (hr.mono (by decide)) (ea_cons (ev_ixR (by rw [← e0]; exact ev_var 0) (ev_int_is (ev_sub (ev_var 5) ev_int) lx) (pw x (by omega))) (ea_cons (ev_var 6) (ea_cons (ev_var 7) ea_nil))) marg) ?_
        intro ⟨c, hm⟩
        obtain ⟨v1, v2⟩ := mid_vld ha hb hm
        generalize k1 : kss.set (x + 1) (setE (kss.getD (x + 1) []) (a, b) (some c)) = kss1
        generalize k2 : kss1.set x (addE (kss1.getD x []) (a, c)) = kss2
        generalize k3 : kss2.set x (addE (kss2.getD x []) (c, b)) = kss3
        obtain ⟨hh, grow⟩ := half_turn hxL g1 h hm v1 v2 kss1 kss2 kss3 k1.symm k2.symm k3.symm
        have l0 := g1.len
        have l1 : kss1.length = L := by rw [← k1, List.length_set, l0]
        have l2 : kss2.length = L := by rw [← k2, List.length_set, l1]
        have x1 : kss1.getD x [] = kss.getD x [] := by rw [← k1, getD_set2 (by omega), if_neg (by omega)]
        have b0 : (kss.getD x []).length ≤ 3600 := by
          have h1 := lv_len (g1.ok x (by omega))
          have h2 : n * n ≤ 60 * 60 := Nat.mul_le_mul hnz hnz
          omega
        have b1 : (kss.getD (x + 1) []).length ≤ 3600 := by
          have h1 := lv_len (g1.ok (x + 1) hxL)
          have h2 : n * n ≤ 60 * 60 := Nat.mul_le_mul hnz hnz
          omega
        have b2 : (kss2.getD x []).length ≤ 3601 := by
          rw [← k2, getD_set2 (by omega), if_pos rfl, x1]
          unfold addE
          split
          · omega
          · rw [List.length_append, List.length_singleton]; omega
        have klen : ∀ ks : Lvl, (kvE K ks).length = ks.length := fun ks => by unfold kvE; rw [List.length_map]
        refine b_putN (E := enP) (k := (a, b)) (j := x + 1) (p := ps.getD (x + 1) 0) (kvs := kvE K (kss.getD (x + 1) [])) (R := D K (nD (some c))) hr (ev_var 8) (ev_ixR (ev_var 3) (ev_var 5) (ixp (x + 1) hxL)) (rowsG_get (pg (x + 1) hxL) (getD_get (by omega))) (ev_tupD (ds := [.int (a : Nat), .int (b : Nat)]) (ea_cons (ev_var 6) (ea_cons (ev_var 7) ea_nil))) (by rw [klen]; omega) ?_
        refine b_eqD (Δ' := rowsG O ps kss1) (by
          show (rowsG O ps kss).set (x + 1) (ps.getD (x + 1) 0, DO P w K enP (putE (kvE K (kss.getD (x + 1) [])) _ (D K (nD (some c)))) _) = _
          rw [putE_kvE, ← k1]
          exact rowsG_set (pg (x + 1) hxL)) ?_
        refine b_sdN (E := enP) (k := (a, c)) (j := x) (p := ps.getD x 0) (kvs := kvE K (kss1.getD x [])) hr (ev_ixR (ev_var 3) (ev_int_is (ev_sub (ev_var 5) ev_int) lx) (ixp x (by omega))) (rowsG_get (pg x (by omega)) (getD_get (by omega))) (ev_tupD (ds := [.int (a : Nat), .int (c : Nat)]) (ea_cons (ev_var 6) (ea_cons (ev_var 8) ea_nil))) ev_non (by rw [klen, x1]; omega) ?_
        refine b_eqD (Δ' := rowsG O ps kss2) (by
          show (rowsG O ps kss1).set x (ps.getD x 0, DO P w K enP (if (getK (kvE K (kss1.getD x [])) (a, c)).isSome then kvE K (kss1.getD x []) else kvE K (kss1.getD x []) ++ [((a, c), Nn K)]) _) = _
          rw [sd_kvE, ← k2]
          exact rowsG_set (pg x (by omega))) ?_
        refine b_sdN (E := enP) (k := (c, b)) (j := x) (p := ps.getD x 0) (kvs := kvE K (kss2.getD x [])) hr (ev_ixR (ev_var 3) (ev_int_is (ev_sub (ev_var 5) ev_int) lx) (ixp x (by omega))) (rowsG_get (pg x (by omega)) (getD_get (by omega))) (ev_tupD (ds := [.int (c : Nat), .int (b : Nat)]) (ea_cons (ev_var 8) (ea_cons (ev_var 7) ea_nil))) ev_non (by rw [klen]; omega) ?_
        refine b_eqD (Δ' := rowsG O ps kss3) (by
          show (rowsG O ps kss2).set x (ps.getD x 0, DO P w K enP (if (getK (kvE K (kss2.getD x [])) (c, b)).isSome then kvE K (kss2.getD x []) else kvE K (kss2.getD x []) ++ [((c, b), Nn K)]) _) = _
          rw [sd_kvE, ← k3]
          exact rowsG_set (pg x (by omega))) ?_
        exact b_nil fun σ H s => ⟨kss3, ⟨hh, fun j x hj => grow _ _ (g2 j x hj)⟩, s.le (.keep (.keep (.keep (.keep (.keep (.keep (.drop (.drop (.drop (.keep .nil))))))))))⟩
      · obtain ⟨g1, g2⟩ := c
        refine b_nil fun σ H s => ⟨kss, ⟨?_, g2⟩, s.le (.keep (.keep (.keep (.keep (.keep (.drop (.keep (.keep (.keep (.keep .nil))))))))))⟩
        rw [show L - (t + 1) = x + 1 by omega]
        exact half_end g1
    · obtain ⟨d1, d2⟩ := c
      rw [List.length_range, show L - (L - 1) = 1 by omega] at d1
      rw [← List.append_nil (rowsG O ps kss)]
      refine b_frzG (i := 3) (O := O) (Rf := rpLv P w K) (fun G p c o h1 h2 => DO_DR G p _ o h1 h2) (by rw [hps, d1.len]) rfl ?_
      exact b_endE (Q := fun kss : {kss : List Lvl // NdOk n cs pic L lv pl kss} => LR (kss.1.map (rpLv P w K))) ⟨kss, by rw [hT]; exact d1, d2⟩ (ev_var 3) rfl
end
end Fr
set_option Elab.async false
set_option linter.all false
set_option maxRecDepth 100000
set_option maxHeartbeats 4000000
namespace Fr
open PySem PySem.Spec PySem.Calls L2
section
variable {P : Program} {w : World} {K : PySem.W.Frag} {mg : Str → Option Value} {base : Heap}
/-! entry_rows -/
def d3 (k : K3) : PyData := .tuple [.int (k.1 : Nat), .int (k.2.1 : Nat), .int (k.2.2 : Nat)]
def en3 : En K3 where
  enc := d3
  ok := fun k => rfl
  dep := fun k => by
    show NestedKey.depth (.tup [.num _, .num _, .num _]) ≤ 8
    simp [NestedKey.depth, NestedKey.depthAll]
  inj := fun a b h => by
    have h' : NestedKey.tup [.num (a.1 : Int), .num (a.2.1 : Int), .num (a.2.2 : Int)] = NestedKey.tup [.num (b.1 : Int), .num (b.2.1 : Int), .num (b.2.2 : Int)] := h
    injection h' with h'
    injection h' with h1 h'
    injection h' with h2 h'
    injection h' with h3 _
    injection h1 with h1
    injection h2 with h2
    injection h3 with h3
    obtain ⟨a1, a2, a3⟩ := a
    obtain ⟨b1, b2, b3⟩ := b
    have h1 : (a1 : Int) = (b1 : Int) := h1
    have h2 : (a2 : Int) = (b2 : Int) := h2
    have h3 : (a3 : Int) = (b3 : Int) := h3
    have h1 : a1 = b1 := by omega
    have h2 : a2 = b2 := by omega
    have h3 : a3 = b3 := by omega
    rw [h1, h2, h3]
  tup := fun k => ⟨_, rfl⟩
def kv3 (K : PySem.W.Frag) (idx : Idx) : List (K3 × RP) := idx.map fun e : K3 × Nat => (e.1, I K (e.2 : Nat))
theorem getK_kv3 {idx : Idx} {k : K3} (h : k ∈ idx.map (fun e => e.1)) : ∃ i, (k, i) ∈ idx ∧ getK (kv3 K idx) k = some (I K (i : Nat)) := by
  induction idx with
  | nil => cases h
  | cons e idx ih =>
    obtain ⟨k', i'⟩ := e
    by_cases hk : k' = k
    · subst hk
      refine ⟨i', List.mem_cons_self .., ?_⟩
      unfold getK kv3
      simp
    · have h' : k ∈ idx.map (fun e => e.1) := by
        rcases List.mem_cons.mp h with z | z
        · exact absurd z.symm hk
        · exact z
      obtain ⟨i, h1, h2⟩ := ih h'
      refine ⟨i, List.mem_cons_of_mem _ h1, ?_⟩
      unfold getK kv3 at h2 ⊢
      rw [List.map_cons, List.find?_cons]
      simp only [decide_eq_false hk]
      exact h2
theorem getK_kv3_none {idx : Idx} {k : K3} : (getK (kv3 K idx) k).isSome = decide (k ∈ idx.map (fun e => e.1)) := by
  unfold getK kv3
  rw [Option.isSome_map, Bool.eq_iff_iff, List.find?_isSome, decide_eq_true_iff]
  constructor
  · rintro ⟨p, hp, e⟩
    obtain ⟨x, hx, rfl⟩ := List.mem_map.mp hp
    exact List.mem_map.mpr ⟨x, hx, of_decide_eq_true e⟩
  · intro h
    obtain ⟨x, hx, rfl⟩ := List.mem_map.mp h
    exact ⟨_, List.mem_map.mpr ⟨x, hx, rfl⟩, by simp⟩
theorem putE_kv3 {idx : Idx} {k : K3} {i : Nat} : putE (kv3 K idx) k (I K (i : Nat)) = kv3 K (setI idx k i) := by
  unfold putE setI
  rw [getK_kv3_none]
  by_cases h : k ∈ idx.map (fun e => e.1)
  · rw [if_pos (decide_eq_true h), if_pos h]
    unfold kv3
    rw [List.map_map, List.map_map]
    refine List.map_congr_left fun e _ => ?_
    show (if e.1 = k then (e.1, I K (i : Nat)) else (e.1, I K (e.2 : Nat))) = ((if e.1 = k then (e.1, i) else e).1, I K ((if e.1 = k then (e.1, i) else e).2 : Nat))
    split <;> rfl
  · rw [if_neg (by simpa using h), if_neg h]
    unfold kv3
    rw [List.map_append]; rfl
structure ErArg (n : Nat) (cs : List (List Int)) (pic : List Int) (L : Nat) (lv : List Nat) (ps : List Nat) (kss : List Lvl) : Prop where
  nz : n ≤ 60
  nd : NdOk n cs pic L lv ps kss
  sz : L * (n * n) ≤ 90000
structure ErOk (n : Nat) (cs : List (List Int)) (pic : List Int) (L : Nat) (lv : List Nat) (ps : List Nat) (y : List Row × List Fact × Idx) : Prop where
  rk : RowsOk n (adjC cs) pic y.1 y.2.1
  fa : ∀ l a b m, ((l, a, b), m) ∈ y.2.2 → ∃ g, y.2.1[m]? = some ⟨a, b, 2 ^ l, g⟩ ∧ ent (powT n (leadT n cs pic) l) a b = some g
  has : ∀ j x, lv[j]? = some x → (x, ps.getD j 0, ps.getD (j + 1) 0) ∈ y.2.2.map (fun e => e.1)
  len : y.1.length ≤ L * (n * n)
def fsErows (P : Program) (w : World) (K : PySem.W.Frag) : FO (Nat × List (List Int) × List Int × Nat × List Nat × List Nat × List Lvl) (List Row × List Fact × Idx) := ⟨fun x => [LR (x.2.2.2.2.2.2.map (rpLv P w K))], fun x => ErArg x.1 x.2.1 x.2.2.1 x.2.2.2.1 x.2.2.2.2.1 x.2.2.2.2.2.1 x.2.2.2.2.2.2, fun _ y => (y.1.map encR).map (D K), fun _ y p => TR [Vl (.ref p), DR P w K en3 (kv3 K y.2.2)], fun x y => ErOk x.1 x.2.1 x.2.2.1 x.2.2.2.1 x.2.2.2.2.1 x.2.2.2.2.2.1 y⟩
theorem lv_lt {n L : Nat} {T : Nat → Tb} {kss : List Lvl} {x : Nat} {ks : Lvl} (h : Needs n L T 1 kss) (hk : kss[x]? = some ks) : x < L ∧ kss.getD x [] = ks := ⟨by have := (List.getElem?_eq_some_iff.mp hk).1; rw [h.len] at this; exact this, by rw [List.getD_eq_getElem?_getD, hk]; rfl⟩
theorem ok_entry_rows {f : Addr} {fd : FuncData} (W : Bi mg) (Fn : Fun K "entry_rows" "entry_rows" s_entry_rows f fd) : FnOk P w K mg base CX0 1 f fd ["needed"] ((fsErows P w K).sp 1) := by
  refine FO.okO (fsErows P w K) Fn sc_entry_rows rfl fun cdv A outer s H E M y hr hp => ?_
  obtain ⟨n, cs, pic, L, lv, ps, kss⟩ := y
  have hp : ErArg n cs pic L lv ps kss := hp
  obtain ⟨hnz, ⟨hnd, hhas⟩, hsz⟩ := hp
  have nd := sc_entry_rows.nd
  have hkl := hnd.len
  have bound : ∀ i j ks, kss[i]? = some ks → j ≤ ks.length → cnt kss i + j ≤ 90000 := fun i j ks hk hj => by
    obtain ⟨hiL, _⟩ := lv_lt hnd hk
    have h1 := cnt_le hnd (i + 1) (by omega)
    rw [cnt_succ hk] at h1
    have h2 : (i + 1) * (n * n) ≤ L * (n * n) := Nat.mul_le_mul (by omega) (Nat.le_refl _)
    omega
  refine b_own (i := 1) nd (en_lstD (ds := []) ea_nil) fun p => ?_
  refine b_ownF (i := 2) (O := fun q => DO P w K en3 (kv3 K []) q) nd ef_newN fun q => ?_
  refine b_forE rfl PassesOwn.never (ds := kss.zipIdx) (it := fun z : Lvl × Nat => EnuR K (rpLv P w K z.1, z.2)) (it_of_map (g := fun z : Lvl × Nat => (rpLv P w K z.1, z.2)) (by rw [← zipIdx_map' (rpLv P w K)]; exact it_enuLR W (ev_var 0))) (fun i y => Er n cs pic kss i 0 y) (fun _ _ => [some (LR (kss.map (rpLv P w K))), some (Vl (.ref p)), some (Vl (.ref q)), none, none, none, none, none]) (fun _ y => [(q, DO P w K en3 (kv3 K y.2.2) q), (p, LO K (y.1.map encR))]) (fun _ _ z => [some (LR (kss.map (rpLv P w K))), some (Vl (.ref p)), some (Vl (.ref q)), some (I K (z.2 : Nat)), some (rpLv P w K z.1), none, none, none]) ([3] ++ ([4] ++ []))
    ⟨([], [], []), er_zero, rfl, Le.refl _⟩ (fun gv gR i x y h c => tg_tupR rfl (tgs_cons (tg_name (i := 3) nd) (tgs_cons (tg_name (i := 4) nd) tgs_nil))) (fun gv gR i x y h c => ?_) (fun y c => ?_)
  · obtain ⟨ks, i'⟩ := x
    have hzi : kss[i]? = some ks ∧ i' = i := by
      rw [List.getElem?_zipIdx] at h
      cases hl : kss[i]? with
      | none => rw [hl] at h; cases h
      | some z =>
        rw [hl] at h
        have h : (z, 0 + i) = (ks, i') := Option.some.inj h
        injection h with h1 h2
        exact ⟨by rw [h1], by omega⟩
    obtain ⟨hks, rfl⟩ := hzi
    obtain ⟨hiL, hkd⟩ := lv_lt hnd hks
    refine b_forE rfl PassesOwn.never (ds := ks) (it := fun e : Ent => TR [D K (dP e.1), D K (nD e.2)]) (it_of_map (g := fun e : Ent => (e.1, D K (nD e.2))) (it := Itm K enP) (it_itemsN (E := enP) (kvs := kvE K ks) (ev_var 4))) (fun j y => Er n cs pic kss i' j y) (fun _ _ => [some (LR (kss.map (rpLv P w K))), some (Vl (.ref p)), some (Vl (.ref q)), some (I K (i' : Nat)), some (rpLv P w K ks), none, none, none]) (fun _ y => [(q, DO P w K en3 (kv3 K y.2.2) q), (p, LO K (y.1.map encR))]) (fun _ _ e => [some (LR (kss.map (rpLv P w K))), some (Vl (.ref p)), some (Vl (.ref q)), some (I K (i' : Nat)), some (rpLv P w K ks), some (I K (e.1.1 : Nat)), some (I K (e.1.2 : Nat)), some (D K (nD e.2))]) ((([5] ++ ([6] ++ []))) ++ ([7] ++ []))
      ⟨y, c, rfl, Le.refl _⟩ (fun gv gR j e y h c => tg_tupR rfl (tgs_cons (tg_tup (ds := [.int (e.1.1 : Nat), .int (e.1.2 : Nat)]) rfl (tgs_cons (tg_name (i := 5) nd) (tgs_cons (tg_name (i := 6) nd) tgs_nil))) (tgs_cons (tg_name (i := 7) nd) tgs_nil))) (fun gv gR j e y h c => ?_) (fun y c => ?_)
    · obtain ⟨⟨a, b⟩, o⟩ := e
      obtain ⟨rows, facts, idx⟩ := y
      have hj := (List.getElem?_eq_some_iff.mp h).1
      have hent : ((a, b), o) ∈ ks := List.mem_of_getElem? h
      have hkey : (keysL (kss.getD i' []))[j]? = some (a, b) := by rw [hkd, List.getElem?_map, h]; rfl
      obtain ⟨ha, hb, hab⟩ := (hnd.ok i' hiL).vd (a, b) (List.mem_of_getElem? hkey)
      have ha : a < n := ha
      have hb : b < n := hb
      have hab : (ent (powT n (leadT n cs pic) i') a b).isSome = true := hab
      have hrl : rows.length = cnt kss i' + j := c.len
      have hrb := bound i' j ks hks (by omega)
      have hil : idx.length ≤ rows.length := c.il
      have klen : (kv3 K idx).length = idx.length := by unfold kv3; rw [List.length_map]
      refine b_putN (E := en3) (k := (i', a, b)) (j := 0) (p := q) (kvs := kv3 K idx) (R := I K (rows.length : Nat)) hr (ev_int_is (ev_lenO W (k := 1) (ev_var 1) rfl) (by rw [List.length_map, List.length_map])) (ev_var 2) rfl (ev_tupD (ds := [.int (i' : Nat), .int (a : Nat), .int (b : Nat)]) (ea_cons (ev_var 3) (ea_cons (ev_var 5) (ea_cons (ev_var 6) ea_nil)))) (by rw [klen]; omega) ?_
      refine b_eqD (Δ' := [(q, DO P w K en3 (kv3 K (setI idx (i', a, b) rows.length)) q), (p, LO K (rows.map encR))]) (by
        show [(q, DO P w K en3 (putE (kv3 K idx) _ (I K (rows.length : Nat))) q), (p, _)] = _
        rw [putE_kv3]) ?_
      -- the end of every way
      have fin : ∀ (r : Row) (g : Int), okRow n (adjC cs) pic facts r ⟨a, b, 2 ^ i', g⟩ → ent (powT n (leadT n cs pic) i') a b = some g → Er n cs pic kss i' (j + 1) (rows ++ [r], facts ++ [⟨a, b, 2 ^ i', g⟩], setI idx (i', a, b) rows.length) := fun r g h1 h2 => er_turn c hkey h1 h2
      cases i' with
      | zero =>
        obtain ⟨low1, low2⟩ := ok_low (cs := cs) (pic := pic) ha hb hab facts
        refine b_if (b := false) (et_is (et_gt (ev_var 3) ev_int) (by simp)) (fun h => nomatch h) (fun _ => ?_)
        by_cases hEq : a = b
        · obtain ⟨e1, e2⟩ := low1 hEq
          refine ⟨_, b_if (b := true) (et_is (et_eq (ev_var 5) (ev_var 6)) (by rw [hEq]; simp)) (fun _ => ⟨_, b_appD (k := 1) (d := encR (.stay a)) (ev_var 1) rfl (ev_tupD (ds := [.str "stay", .int (a : Nat)]) (ea_cons ev_str (ea_cons (ev_var 5) ea_nil))) (by rw [List.length_map]; omega) (b_nil fun _ _ s => s), b_nil fun _ _ s => s⟩) (fun h => nomatch h), ?_⟩
          exact b_nil fun σ H s => ⟨_, fin (.stay a) 0 e2 e1, s.cast (.keep (.keep (.keep (.keep (.keep (.drop (.drop (.drop .nil)))))))) (by rw [List.map_append]; rfl)⟩
        · obtain ⟨g, e1, e2⟩ := low2 hEq
          refine ⟨_, b_if (b := false) (et_is (et_eq (ev_var 5) (ev_var 6)) (by simp; omega)) (fun h => nomatch h) (fun _ => ⟨_, b_appD (k := 1) (d := encR (.step a b)) (ev_var 1) rfl (ev_tupD (ds := [.str "step", .int (a : Nat), .int (b : Nat)]) (ea_cons ev_str (ea_cons (ev_var 5) (ea_cons (ev_var 6) ea_nil)))) (by rw [List.length_map]; omega) (b_nil fun _ _ s => s), b_nil fun _ _ s => s⟩), ?_⟩
          exact b_nil fun σ H s => ⟨_, fin (.step a b) g e2 e1, s.cast (.keep (.keep (.keep (.keep (.keep (.drop (.drop (.drop .nil)))))))) (by rw [List.map_append]; rfl)⟩
      | succ l =>
        obtain ⟨m, hm1, hm2, hm3, hm4⟩ := hnd.fin (l + 1) (by omega) hiL ((a, b), o) (by rw [hkd]; exact hent)
        have hm1 : o = some m := hm1
        subst hm1
        have hm2 : MidOk n (powT n (leadT n cs pic) l) a b m := hm2
        have hm3 : (l, a, m) ∈ idx.map (fun e => e.1) := c.don l (by omega) (a, m) hm3
        have hm4 : (l, m, b) ∈ idx.map (fun e => e.1) := c.don l (by omega) (m, b) hm4
        obtain ⟨i1, g1, g2⟩ := getK_kv3 (K := K) (idx := setI idx (l + 1, a, b) rows.length) (setI_keys.mpr (.inr hm3))
        obtain ⟨i2, g3, g4⟩ := getK_kv3 (K := K) (idx := setI idx (l + 1, a, b) rows.length) (setI_keys.mpr (.inr hm4))
        have o1 : ((l, a, m), i1) ∈ idx := by
          rcases setI_mem g1 with z | z
          · injection z with z _; injection z with z _; omega
          · exact z
        have o2 : ((l, m, b), i2) ∈ idx := by
          rcases setI_mem g3 with z | z
          · injection z with z _; injection z with z _; omega
          · exact z
        obtain ⟨x, q1, q2⟩ := c.fa l a m i1 o1
        obtain ⟨z, q3, q4⟩ := c.fa l m b i2 o2
        obtain ⟨e1, e2⟩ := ok_high hnz ha hb hm2 q1 q3 q2 q4
        have lx : ((l + 1 : Nat) : Int) - 1 = (l : Nat) := by omega
        refine b_if (b := true) (et_is (et_gt (ev_var 3) ev_int) (decide_eq_true (by omega))) (fun _ => ⟨_, b_appD (k := 1) (d := encR (.both i1 i2)) (ev_var 1) rfl (ev_tupD (ds := [.str "both", .int (i1 : Nat), .int (i2 : Nat)]) (ea_cons ev_str (ea_cons (ev_getN (E := en3) (k := (l, a, m)) hr (edi_own (j := 0) (ev_var 2) rfl) (ev_tupD (ds := [.int (l : Nat), .int (a : Nat), .int (m : Nat)]) (ea_cons (ev_int_is (ev_sub (ev_var 3) ev_int) lx) (ea_cons (ev_var 5) (ea_cons (ev_var 7) ea_nil)))) g2) (ea_cons (ev_getN (E := en3) (k := (l, m, b)) hr (edi_own (j := 0) (ev_var 2) rfl) (ev_tupD (ds := [.int (l : Nat), .int (m : Nat), .int (b : Nat)]) (ea_cons (ev_int_is (ev_sub (ev_var 3) ev_int) lx) (ea_cons (ev_var 7) (ea_cons (ev_var 6) ea_nil)))) g4) ea_nil)))) (by rw [List.length_map]; omega) (b_nil fun _ _ s => s), ?_⟩) (fun h => nomatch h)
        exact b_nil fun σ H s => ⟨_, fin (.both i1 i2) (x + z) e2 e1, s.cast (.keep (.keep (.keep (.keep (.keep (.drop (.drop (.drop .nil)))))))) (by rw [List.map_append]; rfl)⟩
    · exact b_nil fun σ H s => ⟨y, er_level hks c, s.le (.keep (.keep (.keep (.drop (.drop (.drop (.drop (.drop .nil))))))))⟩
  · rw [List.length_zipIdx] at c
    refine b_frzN (E := en3) (j := 0) (i := 2) (kvs := kv3 K y.2.2) rfl rfl ?_
    rw [hkl] at c
    have hlen : y.1.length ≤ L * (n * n) := by
      have h1 := c.len
      have h2 := cnt_le hnd L (Nat.le_refl _)
      omega
    refine b_endO (S := fsErows P w K) (x := (n, cs, pic, L, lv, ps, kss)) (p := p) y rfl rfl (ev_tupR (ea_cons (ev_var 1) (ea_cons (ev_var 2) ea_nil)) (Nat.le_of_ble_eq_true rfl)) ⟨c.rk, c.fa, fun j x hj => ?_, hlen⟩
    have hm := hhas j x hj
    have hxL : x < L := by
      refine Nat.lt_of_not_le fun hge => ?_
      rw [List.getD_eq_getElem?_getD, List.getElem?_eq_none (by omega)] at hm
      simp at hm
    exact c.don x hxL _ hm
end
end Fr
set_option Elab.async false
set_option linter.all false
set_option maxRecDepth 100000
set_option maxHeartbeats 4000000
namespace Fr
open PySem PySem.Spec PySem.Calls L2
section
variable {P : Program} {w : World} {K : PySem.W.Frag} {mg : Str → Option Value} {base : Heap}
/-! row_fact, row_facts -/
structure RfArg (n : Nat) (cs : List (List Int)) (pic : List Int) (facts : List Fact) (r : Row) (f : Fact) : Prop where
  cl : cs.length = n
  pl : pic.length = n
  fl : facts.length ≤ 90000
  ok : okRow n (adjC cs) pic facts r f
def fsRowFact (K : PySem.W.Frag) (Cs Cw : Addr) : FS (Nat × List (Nat × Nat) × List (List Int) × List Int × List Fact × Row × Fact) := ⟨fun x => [rpScn K Cs Cw x.1 x.2.1 x.2.2.1 x.2.2.2.1, D K (.list (x.2.2.2.2.1.map encF)), D K (encR x.2.2.2.2.2.1)], fun x => RfArg x.1 x.2.2.1 x.2.2.2.1 x.2.2.2.2.1 x.2.2.2.2.2.1 x.2.2.2.2.2.2, fun x => D K (encF x.2.2.2.2.2.2)⟩
theorem ok_row_fact {f Cs Cw Ct : Addr} {fd : FuncData} (W : Bi mg) (S : ClS K Cs Cw Ct) (Gl' : Df P w K mg base "state_lead" 1 2 (fsStateLead K)) (Fn : Fun K "row_fact" "row_fact" s_row_fact f fd) : FnOk P w K mg base CX0 2 f fd ["scene", "facts", "row"] ((fsRowFact K Cs Cw).sp 3) := by
  refine FS.ok (fsRowFact K Cs Cw) Fn sc_row_fact rfl fun cdv A outer s H E M y hr hp => ?_
  obtain ⟨n, l, cs, pic, facts, r, fa⟩ := y
  have hp : RfArg n cs pic facts r fa := hp
  obtain ⟨hcl, hpl, hfl, hok⟩ := hp
  have nd := sc_row_fact.nd
  refine b_set (i := 3) nd (ev_fld (ev_fld (ev_var 0) S.ts S.s1 look_web) S.tw S.w1 look_size) ?_
  have hne1 : decide (("step" : Str) = "stay") = false := by decide +kernel
  have hne2 : decide (("both" : Str) = "stay") = false := by decide +kernel
  have hne3 : decide (("both" : Str) = "step") = false := by decide +kernel
  have and0 : ∀ {x y : Bool}, x = false → (x && y) = false := fun h => by rw [h]; rfl
  have not0 : ∀ {x : Bool} {p : Prop}, x = false → x = true → p := fun h1 h2 => by rw [h1] at h2; cases h2
  cases r with
  | stay a =>
    obtain ⟨ha, rfl⟩ := (hok : a < n ∧ fa = ⟨a, a, 1, 0⟩)
    have d1 : atI [PyData.str "stay", .int (a : Nat)] 1 = some (.int (a : Nat)) := rfl
    refine b_ifr (b := true) (et_is (et_w (ew_and (et_eqs (ev_ixT (ds := [.str "stay", .int (a : Nat)]) (ev_var 2) ev_int rfl) ev_str) fun _ => ew_and (et_eq (ev_lenT W (ds := [.str "stay", .int (a : Nat)]) (ev_var 2)) ev_int) fun _ => ew_and1 (et_in ev_int (ev_ixT (ev_var 2) ev_int d1) (ev_var 3)))) ?_) (fun _ => ?_) (fun h => nomatch h)
    · simp
      omega
    · exact b_end (R := D K (encF ⟨a, a, 1, 0⟩)) (ev_tupD (ds := (inF ⟨a, a, 1, 0⟩).map PyData.int) (ea_cons (ev_ixT (ev_var 2) ev_int d1) (ea_cons (ev_ixT (ev_var 2) ev_int d1) (ea_cons ev_int (ea_cons ev_int ea_nil))))) rfl
  | step a b =>
    obtain ⟨ha, hb, hab, rfl⟩ := (hok : a < n ∧ b < n ∧ adjC cs a b ∧ fa = ⟨a, b, 1, ld (pic.getD a 0) (pic.getD b 0)⟩)
    have d1 : atI [PyData.str "step", .int (a : Nat), .int (b : Nat)] 1 = some (.int (a : Nat)) := rfl
    have d2 : atI [PyData.str "step", .int (a : Nat), .int (b : Nat)] 2 = some (.int (b : Nat)) := rfl
    refine b_ifF (et_is (et_w (ew_and (q := false) (et_eqs (ev_ixT (ds := [.str "step", .int (a : Nat), .int (b : Nat)]) (ev_var 2) ev_int rfl) ev_str) fun h => not0 hne1 h)) (and0 hne1)) ?_
    refine b_ifr (b := true) (et_is (et_w (ew_and (et_eqs (ev_ixT (ds := [.str "step", .int (a : Nat), .int (b : Nat)]) (ev_var 2) ev_int rfl) ev_str) fun _ => ew_and (et_eq (ev_lenT W (ds := [.str "step", .int (a : Nat), .int (b : Nat)]) (ev_var 2)) ev_int) fun _ => ew_and (et_in ev_int (ev_ixT (ev_var 2) ev_int d1) (ev_var 3)) fun _ => ew_and1 (et_inI (ns := cs.getD a []) (ev_ixT (ev_var 2) ev_int d2) (ev_ixT (ev_fld (ev_fld (ev_var 0) S.ts S.s1 look_web) S.tw S.w3 look_aro) (ev_ixT (ev_var 2) ev_int d1) (atI_mapN (f := dT) (l := cs) (d := []) (by rw [hcl]; exact ha))) (.inr rfl)))) ?_) (fun _ => ?_) (fun h => nomatch h)
    · have : decide (((b : Nat) : Int) ∈ cs.getD a []) = true := decide_eq_true hab
      rw [this]
      simp
      omega
    · exact b_end (R := D K (encF ⟨a, b, 1, ld (pic.getD a 0) (pic.getD b 0)⟩)) (ev_tupD (ds := (inF ⟨a, b, 1, ld (pic.getD a 0) (pic.getD b 0)⟩).map PyData.int) (ea_cons (ev_ixT (ev_var 2) ev_int d1) (ea_cons (ev_ixT (ev_var 2) ev_int d2) (ea_cons ev_int (ea_cons (ev_callR (pic.getD a 0, pic.getD b 0) Gl' (hr.mono (by decide)) (ea_cons (ev_ixT (ev_fld (ev_var 0) S.ts S.s2 look_pic) (ev_ixT (ev_var 2) ev_int d1) (atI_mapN (f := PyData.int) (l := pic) (d := 0) (by rw [hpl]; exact ha))) (ea_cons (ev_ixT (ev_fld (ev_var 0) S.ts S.s2 look_pic) (ev_ixT (ev_var 2) ev_int d2) (atI_mapN (f := PyData.int) (l := pic) (d := 0) (by rw [hpl]; exact hb))) ea_nil)) trivial) ea_nil))))) rfl
  | both i j =>
    obtain ⟨p, q, e1, e2, hpq, rfl⟩ := (hok : ∃ p q, facts[i]? = some p ∧ facts[j]? = some q ∧ p.b = q.a ∧ fa = ⟨p.a, q.b, p.t + q.t, p.g + q.g⟩)
    have hi := (List.getElem?_eq_some_iff.mp e1).1
    have hj := (List.getElem?_eq_some_iff.mp e2).1
    have d1 : atI [PyData.str "both", .int (i : Nat), .int (j : Nat)] 1 = some (.int (i : Nat)) := rfl
    have d2 : atI [PyData.str "both", .int (i : Nat), .int (j : Nat)] 2 = some (.int (j : Nat)) := rfl
    refine b_ifF (et_is (et_w (ew_and (q := false) (et_eqs (ev_ixT (ds := [.str "both", .int (i : Nat), .int (j : Nat)]) (ev_var 2) ev_int rfl) ev_str) fun h => not0 hne2 h)) (and0 hne2)) ?_
    refine b_ifF (et_is (et_w (ew_and (q := false) (et_eqs (ev_ixT (ds := [.str "both", .int (i : Nat), .int (j : Nat)]) (ev_var 2) ev_int rfl) ev_str) fun h => not0 hne3 h)) (and0 hne3)) ?_
    refine b_if (b := true) (et_is (et_w (ew_and (et_eqs (ev_ixT (ds := [.str "both", .int (i : Nat), .int (j : Nat)]) (ev_var 2) ev_int rfl) ev_str) fun _ => ew_and (et_eq (ev_lenT W (ds := [.str "both", .int (i : Nat), .int (j : Nat)]) (ev_var 2)) ev_int) fun _ => ew_and (et_in ev_int (ev_ixT (ev_var 2) ev_int d1) (ev_lenL W (ev_var 1))) fun _ => ew_and1 (et_in ev_int (ev_ixT (ev_var 2) ev_int d2) (ev_lenL W (ev_var 1))))) ?_) (fun _ => ⟨fun _ _ => False, ?_, ⟨fun _ _ _ _ _ _ q => q.1.elim⟩⟩) (fun h => nomatch h)
    · rw [List.length_map]
      simp
      omega
    · refine b_set (i := 4) nd (ev_ixL (ev_var 1) (ev_ixT (ev_var 2) ev_int d1) (fact_at e1)) ?_
      refine b_set (i := 5) nd (ev_ixL (ev_var 1) (ev_ixT (ev_var 2) ev_int d2) (fact_at e2)) ?_
      have x0 : ∀ g : Fact, atI ((inF g).map PyData.int) 0 = some (.int (g.a : Nat)) := fun g => rfl
      have x1 : ∀ g : Fact, atI ((inF g).map PyData.int) 1 = some (.int (g.b : Nat)) := fun g => rfl
      have x2 : ∀ g : Fact, atI ((inF g).map PyData.int) 2 = some (.int (g.t : Nat)) := fun g => rfl
      have x3 : ∀ g : Fact, atI ((inF g).map PyData.int) 3 = some (.int g.g) := fun g => rfl
      refine b_ifr (b := true) (et_is (et_eq (ev_ixT (ev_var 4) ev_int (x1 p)) (ev_ixT (ev_var 5) ev_int (x0 q))) (by rw [hpq]; simp)) (fun _ => ?_) (fun h => nomatch h)
      have et : ((p.t + q.t : Nat) : Int) = (p.t : Nat) + (q.t : Nat) := by omega
      refine b_end (R := D K (encF ⟨p.a, q.b, p.t + q.t, p.g + q.g⟩)) (ev_tupD (ds := (inF ⟨p.a, q.b, p.t + q.t, p.g + q.g⟩).map PyData.int) (ea_cons (ev_ixT (ev_var 4) ev_int (x0 p)) (ea_cons (ev_ixT (ev_var 5) ev_int (x1 q)) (ea_cons (ev_int_is (ev_add (ev_ixT (ev_var 4) ev_int (x2 p)) (ev_ixT (ev_var 5) ev_int (x2 q))) et.symm) (ea_cons (ev_add (ev_ixT (ev_var 4) ev_int (x3 p)) (ev_ixT (ev_var 5) ev_int (x3 q))) ea_nil))))) rfl
structure RfsArg (n : Nat) (cs : List (List Int)) (pic : List Int) (rows : List Row) (facts : List Fact) : Prop where
  cl : cs.length = n
  pl : pic.length = n
  rl : rows.length ≤ 90000
  ok : RowsOk n (adjC cs) pic rows facts
def dRows (rows : List Row) : PyData := .tuple (rows.map encR)
theorem frz_encR (r : Row) : frz 1 (encR r) = encR r := by
  cases r <;> rfl
theorem fit_encR (r : Row) : fit 1 (encR r) := by
  have h : ∀ x ∈ (PyData.str (nmR r) :: (arR r).map PyData.int), scal x = true := fun x hx => by
    rcases List.mem_cons.mp hx with z | z
    · subst z; rfl
    · obtain ⟨i, _, rfl⟩ := List.mem_map.mp z; rfl
  refine ⟨?_, h⟩
  cases r <;> exact Nat.le_of_ble_eq_true rfl
theorem frz_rows (rows : List Row) : frz 2 (dRows rows) = dRows rows := by
  show PyData.tuple ((rows.map encR).map (frz 1)) = .tuple (rows.map encR)
  rw [List.map_map]
  congr 1
  exact List.map_congr_left fun r _ => frz_encR r
def fsRowFacts (K : PySem.W.Frag) (Cs Cw : Addr) : FS (Nat × List (Nat × Nat) × List (List Int) × List Int × List Row × List Fact) := ⟨fun x => [rpScn K Cs Cw x.1 x.2.1 x.2.2.1 x.2.2.2.1, D K (dRows x.2.2.2.2.1)], fun x => RfsArg x.1 x.2.2.1 x.2.2.2.1 x.2.2.2.2.1 x.2.2.2.2.2, fun x => D K (.tuple (x.2.2.2.2.2.map encF))⟩
theorem ok_row_facts {f Cs Cw Ct : Addr} {fd : FuncData} (W : Bi mg) (S : ClS K Cs Cw Ct) (Gf : Df P w K mg base "frozen" 3 1 (fsFrozen K 2)) (Gr : Df P w K mg base "row_fact" 2 3 (fsRowFact K Cs Cw)) (Fn : Fun K "row_facts" "row_facts" s_row_facts f fd) : FnOk P w K mg base CX0 4 f fd ["scene", "rows"] ((fsRowFacts K Cs Cw).sp 2) := by
  refine FS.ok (fsRowFacts K Cs Cw) Fn sc_row_facts rfl fun cdv A outer s H E M y hr hp => ?_
  obtain ⟨n, l, cs, pic, rows, facts⟩ := y
  have hp : RfsArg n cs pic rows facts := hp
  obtain ⟨hcl, hpl, hrl, hok⟩ := hp
  have nd := sc_row_facts.nd
  refine b_own (i := 2) nd (en_lstD (ds := []) ea_nil) fun p => ?_
  refine b_for rfl PassesOwn.never (ds := rows.zipIdx) (it := fun z : Row × Nat => Enu K (encR z.1, z.2)) (it_of_map (g := fun z : Row × Nat => (encR z.1, z.2)) (by rw [← zipIdx_map' encR]; exact it_enuT W (ds := rows.map encR) (ev_callR (R := D K (dRows rows)) (dRows rows) Gf hr (ea_cons (ev_var 1) ea_nil) ⟨by rw [List.length_map]; omega, fun x hx => by obtain ⟨r, _, rfl⟩ := List.mem_map.mp hx; exact fit_encR r⟩ (by show D K (frz 2 (dRows rows)) = _; rw [frz_rows])))) (fun _ => [some (rpScn K Cs Cw n l cs pic), some (D K (dRows rows)), some (Vl (.ref p)), none, none, none]) (fun i => [(p, LO K ((facts.take i).map encF))]) (fun _ z => [some (rpScn K Cs Cw n l cs pic), some (D K (dRows rows)), some (Vl (.ref p)), some (I K (z.2 : Nat)), some (D K (encR z.1)), none]) ([3] ++ ([4] ++ [])) rfl (Le.refl _)
    (fun gv gR i x h => tg_tupR rfl (tgs_cons (tg_name (i := 3) nd) (tgs_cons (tg_name (i := 4) nd) tgs_nil))) (fun gv gR i x h => ?_) ?_
  · obtain ⟨r, i'⟩ := x
    have hzi : rows[i]? = some r := by
      rw [List.getElem?_zipIdx] at h
      cases hl : rows[i]? with
      | none => rw [hl] at h; cases h
      | some z =>
        rw [hl] at h
        have h : (z, 0 + i) = (r, i') := Option.some.inj h
        injection h with h1 h2
        rw [h1]
    have hi := (List.getElem?_eq_some_iff.mp hzi).1
    obtain ⟨fa, ef⟩ : ∃ f, facts[i]? = some f := ⟨_, List.getElem?_eq_getElem (by rw [← hok.len]; exact hi)⟩
    have hk := hok.ok i r fa hzi ef
    have hl : (facts.take i).length ≤ 90000 := by rw [List.length_take, ← hok.len]; omega
    refine b_set (i := 5) (R := D K (encF fa)) nd (ev_lend (j := 0) (p := p) (ds := (facts.take i).map encF) (As := [rpScn K Cs Cw n l cs pic, Vl (.ref p), D K (encR r)]) (n, l, cs, pic, facts.take i, r, fa) Gr (hr.mono (by decide)) rfl (ea_cons (ev_var 0) (ea_cons (ev_var 2) (ea_cons (ev_var 4) ea_nil))) (fun G vs h1 h2 => ?_) rfl ⟨hcl, hpl, hl, hk⟩ rfl rfl) ?_
    · match vs, h2 with
      | [a, b, c], h2 =>
        obtain ⟨h3, h4, h5, _⟩ := h2
        have h4 : b = .ref p := h4
        subst h4
        exact ⟨h3, h1, h5, trivial⟩
    · refine b_ifF (et_is (et_isN (ev_var 5)) rfl) ?_
      refine b_appD (k := 0) (ev_var 2) rfl (ev_var 5) (by rw [List.length_map]; omega) ?_
      exact b_nil fun σ H s => s.cast (.keep (.keep (.keep (.drop (.drop (.drop .nil)))))) (by rw [take_snoc ef, List.map_append]; rfl)
  · rw [List.length_zipIdx, hok.len, List.take_length]
    refine b_frzD (k := 0) (i := 2) rfl rfl ?_
    exact b_end (ev_tupleL W (ev_le (ev_var 2) LP_D)) rfl
end
end Fr
set_option linter.all false
/-! Math7: levels of a number of beats; rows of a long walk (plain Lean). -/
namespace Fr
def lvF (ds : List Nat) (k : Nat) : List Nat := ((ds.zipIdx k).filter fun z => decide ((z.1 : Int) = 1)).map fun z => z.2
def lvOf (b : Nat) : List Nat := lvF (bits b) 0
theorem lvF_cons {d : Nat} {ds : List Nat} {k : Nat} : lvF (d :: ds) k = if d = 1 then k :: lvF ds (k + 1) else lvF ds (k + 1) := by
  unfold lvF
  rw [List.zipIdx_cons, List.filter_cons]
  by_cases h : d = 1
  · subst h; rfl
  · rw [if_neg h, if_neg]
    simp
    omega
theorem lvF_lt {ds : List Nat} {k x : Nat} (h : x ∈ lvF ds k) : x < k + ds.length := by
  unfold lvF at h
  obtain ⟨z, hz, rfl⟩ := List.mem_map.mp h
  have h2 := (List.mem_filter.mp hz).1
  have := List.mem_zipIdx h2
  omega
theorem lvOf_lt {b x : Nat} (h : x ∈ lvOf b) : x < (bits b).length := by
  have := lvF_lt h
  omega
theorem lvF_len {ds : List Nat} {k : Nat} : (lvF ds k).length ≤ ds.length := by
  unfold lvF
  rw [List.length_map]
  refine Nat.le_trans (List.length_filter_le _ _) ?_
  rw [List.length_zipIdx]
  exact Nat.le_refl _
theorem lvF_sum : ∀ (b k : Nat), ((lvF (bits b) k).map fun x => 2 ^ x).sum = b * 2 ^ k := by
  intro b
  induction b using Nat.strongRecOn with
  | _ b ih =>
    intro k
    by_cases h0 : b = 0
    · subst h0
      rw [bits]
      simp [lvF]
    · rw [bits_pos (by omega), lvF_cons]
      have e := ih (b / 2) (by omega) (k + 1)
      have e2 : b / 2 * 2 ^ (k + 1) = (2 * (b / 2)) * 2 ^ k := by rw [Nat.pow_succ]; rw [Nat.mul_comm 2, Nat.mul_assoc, Nat.mul_comm 2]
      split
      · rename_i h1
        rw [List.map_cons, List.sum_cons, e, e2]
        have : b = 1 + 2 * (b / 2) := by omega
        conv => rhs; rw [this, Nat.add_mul, Nat.one_mul]
      · rw [e, e2]
        have : b = 2 * (b / 2) := by omega
        conv => rhs; rw [this]
theorem lvOf_sum (b : Nat) : ((lvOf b).map fun x => 2 ^ x).sum = b := by
  have := lvF_sum b 0
  rw [Nat.pow_zero, Nat.mul_one] at this
  exact this
theorem lvOf_ne {b : Nat} (h : 0 < b) : 0 < (lvOf b).length := by
  refine Nat.pos_of_ne_zero fun e => ?_
  have := lvOf_sum b
  rw [List.length_eq_zero_iff.mp e] at this
  simp at this
  omega
theorem SS_all (b : Nat) : SS (lvOf b).reverse (lvOf b).length = b := by
  unfold SS
  rw [← List.length_reverse, List.take_length, List.map_reverse, List.sum_reverse]
  exact lvOf_sum b
theorem SS_step {lv : List Nat} {j x : Nat} (h : lv[j]? = some x) : SS lv.reverse (lv.length - j) = 2 ^ x + SS lv.reverse (lv.length - 1 - j) := by
  have hj := (List.getElem?_eq_some_iff.mp h).1
  have e : lv.length - j = lv.length - 1 - j + 1 := by omega
  rw [e]
  refine SS_succ ?_
  rw [List.getElem?_reverse (by omega), ← h]
  congr 1
  omega
/-- the loop of long_walk after level k -/
structure Lw (n : Nat) (cs : List (List Int)) (pic : List Int) (lv ps : List Nat) (b v : Nat) (idx : Idx) (N k : Nat) (y : List Row × List Fact × Nat) : Prop where
  rk : RowsOk n (adjC cs) pic y.1 y.2.1
  ix : ∀ l a c m, ((l, a, c), m) ∈ idx → ∃ g, y.2.1[m]? = some ⟨a, c, 2 ^ l, g⟩ ∧ ent (powT n (leadT n cs pic) l) a c = some g
  la : ∃ t g, y.2.1[y.2.2]? = some ⟨v, ps.getD (k + 1) 0, t, g⟩ ∧ t + SS lv.reverse (lv.length - 1 - k) = b ∧ g + fires cs pic (ps.getD (k + 1) 0) (SS lv.reverse (lv.length - 1 - k)) = fires cs pic v b
  len : y.1.length ≤ N + k
theorem lw_start {n : Nat} {cs : List (List Int)} {pic : List Int} {lv ps : List Nat} {b v : Nat} {L : Nat} {y : List Row × List Fact × Idx} (h : ErOk n cs pic L lv ps y) (so : StopsOk n cs pic lv v lv.length ps) (hS : SS lv.reverse lv.length = b) {x i : Nat} (hx : lv[0]? = some x) (hi : ((x, ps.getD 0 0, ps.getD 1 0), i) ∈ y.2.2) : Lw n cs pic lv ps b v y.2.2 (L * (n * n)) 0 (y.1, y.2.1, i) := by
  have hl := (List.getElem?_eq_some_iff.mp hx).1
  refine ⟨h.rk, h.fa, ?_, h.len⟩
  obtain ⟨g, e1, e2⟩ := h.fa _ _ _ _ hi
  obtain ⟨e, e3, e4⟩ := so.step 0 x hl hx
  rw [e2] at e3
  cases e3
  have e5 := SS_step hx
  rw [Nat.sub_zero, Nat.sub_zero, hS] at e5
  rw [Nat.sub_zero, Nat.sub_zero, hS, so.first] at e4
  rw [so.first] at e1
  exact ⟨2 ^ x, g, e1, by rw [Nat.sub_zero, e5], e4⟩
theorem lw_step {n : Nat} {cs : List (List Int)} {pic : List Int} {lv ps : List Nat} {b v N : Nat} {idx : Idx} {k : Nat} {rows : List Row} {facts : List Fact} {last : Nat} (h : Lw n cs pic lv ps b v idx N k (rows, facts, last)) (so : StopsOk n cs pic lv v lv.length ps) {x i : Nat} (hx : lv[k + 1]? = some x) (hi : ((x, ps.getD (k + 1) 0, ps.getD (k + 2) 0), i) ∈ idx) : ∃ f, Lw n cs pic lv ps b v idx N (k + 1) (rows ++ [.both last i], facts ++ [f], rows.length) := by
  have hl := (List.getElem?_eq_some_iff.mp hx).1
  obtain ⟨t, g, f1, f2, f3⟩ := h.la
  obtain ⟨g2, e1, e2⟩ := h.ix _ _ _ _ hi
  obtain ⟨e, e3, e4⟩ := so.step (k + 1) x hl hx
  have f1 : facts[last]? = some ⟨v, ps.getD (k + 1) 0, t, g⟩ := f1
  have e1 : facts[i]? = some ⟨ps.getD (k + 1) 0, ps.getD (k + 2) 0, 2 ^ x, g2⟩ := e1
  rw [e2] at e3
  cases e3
  have e5 := SS_step hx
  have q : lv.length - 1 - k = lv.length - (k + 1) := by omega
  rw [q] at f2 f3
  have hlen : rows.length = facts.length := h.rk.len
  refine ⟨⟨v, ps.getD (k + 2) 0, t + 2 ^ x, g + g2⟩, rows_app h.rk ⟨_, _, f1, e1, rfl, rfl⟩, fun l a c m hm => ?_, ⟨t + 2 ^ x, g + g2, ?_, ?_, ?_⟩, ?_⟩
  · obtain ⟨g', h1, h2⟩ := h.ix l a c m hm
    have h1 : facts[m]? = _ := h1
    refine ⟨g', ?_, h2⟩
    show (facts ++ [_])[m]? = _
    rw [List.getElem?_append_left (List.getElem?_eq_some_iff.mp h1).1]
    exact h1
  · show (facts ++ [_])[rows.length]? = _
    rw [hlen, List.getElem?_append_right (Nat.le_refl _)]
    simp
  · omega
  · have e4 : g2 + fires cs pic (ps.getD (k + 2) 0) _ = _ := e4
    show g + g2 + fires cs pic (ps.getD (k + 2) 0) _ = _
    omega
  · have := h.len
    show (rows ++ [_]).length ≤ _
    rw [List.length_append, List.length_singleton]
    have : rows.length ≤ N + k := this
    omega
/-- what the rows of a long walk tell -/
structure WalkOk (n : Nat) (A : Nat → Nat → Prop) (pic : List Int) (v b : Nat) (g : Int) (mx : Nat) (y : List Row × List Fact) : Prop where
  rk : RowsOk n A pic y.1 y.2
  la : ∃ w, y.2[y.1.length - 1]? = some ⟨v, w, b, g⟩
  pos : 0 < y.1.length
  len : y.1.length ≤ mx
theorem lw_end {n : Nat} {cs : List (List Int)} {pic : List Int} {lv ps : List Nat} {b v N : Nat} {idx : Idx} {rows : List Row} {facts : List Fact} {last : Nat} (hl : 0 < lv.length) (h : Lw n cs pic lv ps b v idx N (lv.length - 1) (rows, facts, last)) : WalkOk n (adjC cs) pic v b (fires cs pic v b) (N + lv.length) (rows.take (last + 1), facts.take (last + 1)) := by
  obtain ⟨t, g, f1, f2, f3⟩ := h.la
  have f1 : facts[last]? = some ⟨v, _, t, g⟩ := f1
  have hlast := (List.getElem?_eq_some_iff.mp f1).1
  have hlen : rows.length = facts.length := h.rk.len
  have hN : rows.length ≤ N + (lv.length - 1) := h.len
  rw [Nat.sub_self, SS_zero] at f2 f3
  have e : (rows.take (last + 1)).length = last + 1 := by rw [List.length_take]; omega
  refine ⟨rows_take h.rk _, ⟨ps.getD (lv.length - 1 + 1) 0, ?_⟩, by rw [e]; omega, by rw [e]; omega⟩
  show (facts.take (last + 1))[(rows.take (last + 1)).length - 1]? = _
  rw [e, Nat.add_sub_cancel, List.getElem?_take_of_lt (by omega), f1]
  have f3 : g + fires cs pic _ 0 = _ := f3
  have f4 : g = fires cs pic v b := by rw [← f3]; show g = g + 0; omega
  have f5 : t = b := by omega
  rw [f4, f5]
end Fr
set_option linter.all false
/-! Math8: scenes laid side by side (plain Lean). -/
namespace Fr
abbrev Scn := (Nat × List (Nat × Nat)) × List Int
def g0 : Scn := ((0, []), [])
def szG (gs : List Scn) (j : Nat) : Nat := (gs.getD j g0).1.1
structure Mix (gs : List Scn) (t k : Nat) (y : List (List Nat) × Nat) : Prop where
  len : y.1.length = gs.length
  szs : ∀ j, j < gs.length → (y.1.getD j []).length = min (szG gs j) (if j < k then t + 1 else t)
  inc : ∀ j a b, a < b → b < (y.1.getD j []).length → (y.1.getD j []).getD a 0 < (y.1.getD j []).getD b 0
  lt : ∀ j, ∀ x ∈ y.1.getD j [], x < y.2
  sum : y.2 = (y.1.map List.length).sum
theorem mem_getD {l : List Nat} {a : Nat} (h : a < l.length) : l.getD a 0 ∈ l := by
  rw [List.getD_eq_getElem?_getD, List.getElem?_eq_getElem h]
  exact List.getElem_mem h
theorem getD_rep {n j : Nat} : (List.replicate n ([] : List Nat)).getD j [] = [] := by
  rw [List.getD_eq_getElem?_getD, List.getElem?_replicate]; split <;> rfl
theorem mix_zero {gs : List Scn} : Mix gs 0 0 (List.replicate gs.length [], 0) := by
  refine ⟨by simp, fun j hj => ?_, fun j a b _ h => ?_, fun j x h => ?_, ?_⟩
  · rw [getD_rep]; simp
  · rw [getD_rep] at h; simp at h
  · rw [getD_rep] at h; simp at h
  · simp
theorem mix_next {gs : List Scn} {t : Nat} {y : List (List Nat) × Nat} (h : Mix gs t gs.length y) : Mix gs (t + 1) 0 y :=
  ⟨h.len, fun j hj => by rw [h.szs j hj, if_pos hj, if_neg (by omega)], h.inc, h.lt, h.sum⟩
theorem mix_skip {gs : List Scn} {t k : Nat} {y : List (List Nat) × Nat} (h : Mix gs t k y) (hk : ¬ t < szG gs k) : Mix gs t (k + 1) y := by
  refine ⟨h.len, fun j hj => ?_, h.inc, h.lt, h.sum⟩
  rw [h.szs j hj]
  by_cases e : j = k
  · subst e
    rw [if_neg (by omega), if_pos (by omega)]
    omega
  · by_cases e2 : j < k
    · rw [if_pos e2, if_pos (by omega)]
    · rw [if_neg e2, if_neg (by omega)]
theorem sum_set : ∀ {l : List (List Nat)} {k : Nat} {x : Nat}, k < l.length → ((l.set k (l.getD k [] ++ [x])).map List.length).sum = (l.map List.length).sum + 1
  | [], k, x, h => by simp at h
  | c :: l, 0, x, h => by
    simp
    omega
  | c :: l, k + 1, x, h => by
    have ih := sum_set (l := l) (k := k) (x := x) (by simpa using h)
    have e : (c :: l).getD (k + 1) [] = l.getD k [] := by simp
    rw [e]
    rw [List.set_cons_succ, List.map_cons, List.sum_cons, ih, List.map_cons, List.sum_cons]
    omega
theorem getD_setN {l : List (List Nat)} {k j : Nat} {x : List Nat} (h : k < l.length) : (l.set k x).getD j [] = if j = k then x else l.getD j [] := by
  by_cases e : j = k
  · subst e
    rw [if_pos rfl, List.getD_eq_getElem?_getD, List.getElem?_set_self h]; rfl
  · rw [if_neg e, List.getD_eq_getElem?_getD, List.getElem?_set_ne (by omega), ← List.getD_eq_getElem?_getD]
theorem mix_add {gs : List Scn} {t k : Nat} {nums : List (List Nat)} {size : Nat} (h : Mix gs t k (nums, size)) (hk : k < gs.length) (ht : t < szG gs k) : Mix gs t (k + 1) (nums.set k (nums.getD k [] ++ [size]), size + 1) := by
  have hl : nums.length = gs.length := h.len
  have hkl : k < nums.length := by omega
  refine ⟨by rw [List.length_set]; exact hl, fun j hj => ?_, fun j a b hab hb => ?_, fun j x hx => ?_, ?_⟩
  · show ((nums.set k _).getD j []).length = _
    rw [getD_setN hkl]
    have hz : (nums.getD j []).length = _ := h.szs j hj
    by_cases e : j = k
    · subst e
      rw [if_pos rfl, if_pos (by omega), List.length_append, hz, if_neg (by omega), List.length_singleton]
      omega
    · rw [if_neg e, hz]
      by_cases e2 : j < k
      · rw [if_pos e2, if_pos (by omega)]
      · rw [if_neg e2, if_neg (by omega)]
  · have hb : b < ((nums.set k (nums.getD k [] ++ [size])).getD j []).length := hb
    show ((nums.set k (nums.getD k [] ++ [size])).getD j []).getD a 0 < ((nums.set k (nums.getD k [] ++ [size])).getD j []).getD b 0
    rw [getD_setN hkl] at hb ⊢
    by_cases e : j = k
    · subst e
      rw [if_pos rfl] at hb ⊢
      rw [List.length_append, List.length_singleton] at hb
      have hlt : ∀ x ∈ nums.getD j [], x < size := h.lt j
      have ha : ((nums.getD j []) ++ [size]).getD a 0 = (nums.getD j []).getD a 0 := by
        rw [List.getD_eq_getElem?_getD, List.getElem?_append_left (by omega), ← List.getD_eq_getElem?_getD]
      rw [ha]
      by_cases e3 : b < (nums.getD j []).length
      · rw [List.getD_eq_getElem?_getD (l := _ ++ _), List.getElem?_append_left e3, ← List.getD_eq_getElem?_getD]
        exact h.inc j a b hab e3
      · have e4 : b = (nums.getD j []).length := by omega
        have e5 : ((nums.getD j []) ++ [size]).getD b 0 = size := by
          rw [e4, List.getD_eq_getElem?_getD, List.getElem?_append_right (Nat.le_refl _)]
          simp
        rw [e5]
        refine hlt _ ?_
        have : a < (nums.getD j []).length := by omega
        exact mem_getD this
    · rw [if_neg e] at hb ⊢
      exact h.inc j a b hab hb
  · have hx : x ∈ (nums.set k (nums.getD k [] ++ [size])).getD j [] := hx
    show x < size + 1
    rw [getD_setN hkl] at hx
    have hlt : ∀ j, ∀ x ∈ nums.getD j [], x < size := h.lt
    by_cases e : j = k
    · rw [if_pos e] at hx
      rcases List.mem_append.mp hx with z | z
      · have := hlt k x z; omega
      · rw [List.mem_singleton.mp z]; omega
    · rw [if_neg e] at hx
      have := hlt j x hx; omega
  · have hs : size = (nums.map List.length).sum := h.sum
    show size + 1 = ((nums.set k _).map List.length).sum
    rw [sum_set hkl, ← hs]
theorem mix_le {gs : List Scn} {t k : Nat} {nums : List (List Nat)} {size : Nat} (h : Mix gs t k (nums, size)) (hz : ∀ j, j < gs.length → szG gs j ≤ 7) : size ≤ 7 * gs.length := by
  have hs : size = (nums.map List.length).sum := h.sum
  have hl : nums.length = gs.length := h.len
  have key : ∀ (l : List (List Nat)), (∀ j, j < l.length → (l.getD j []).length ≤ 7) → (l.map List.length).sum ≤ 7 * l.length := by
    intro l
    induction l with
    | nil => intro _; simp
    | cons c l ih =>
      intro q
      have h1 := q 0 (by simp)
      have h2 := ih fun j hj => by
        have := q (j + 1) (by simpa using hj)
        simpa using this
      rw [List.map_cons, List.sum_cons, List.length_cons]
      have h1 : c.length ≤ 7 := by simpa using h1
      omega
  rw [hs, ← hl]
  refine key nums fun j hj => ?_
  have h1 : (nums.getD j []).length = _ := h.szs j (by omega)
  have h2 := hz j (by omega)
  omega
/-- lines so far, states so far -/
structure Mx2 (N k : Nat) (y : List (Nat × Nat) × List Int) : Prop where
  lt : ∀ p ∈ y.1, p.1 < p.2 ∧ p.2 < N
  le : y.1.length ≤ 21 * k
  pc : PicOk N y.2
theorem PicOk.set {n : Nat} {pic : List Int} (h : PicOk n pic) {i : Nat} {x : Int} (hx : x = 0 ∨ x = 1 ∨ x = 2) : PicOk n (pic.set i x) := ⟨by rw [List.length_set]; exact h.len, fun s hs => by
  rcases List.mem_or_eq_of_mem_set hs with z | z
  · exact h.st s z
  · rw [z]; exact hx⟩
def mvL (nk : List Nat) (ls : List (Nat × Nat)) : List (Nat × Nat) := ls.map fun p => (nk.getD p.1 0, nk.getD p.2 0)
theorem mx_lines {N k : Nat} {lines : List (Nat × Nat)} {pic : List Int} (h : Mx2 N k (lines, pic)) {nk : List Nat} {ls : List (Nat × Nat)} (hi : ∀ a b, a < b → b < nk.length → nk.getD a 0 < nk.getD b 0) (hn : ∀ x ∈ nk, x < N) (hl : ∀ p ∈ ls, p.1 < p.2 ∧ p.2 < nk.length) (hf : ls.length ≤ 21) : Mx2 N (k + 1) (lines ++ mvL nk ls, pic) := by
  refine ⟨fun p hp => ?_, ?_, h.pc⟩
  · rcases List.mem_append.mp hp with z | z
    · exact h.lt p z
    · obtain ⟨q, hq, rfl⟩ := List.mem_map.mp z
      obtain ⟨h1, h2⟩ := hl q hq
      refine ⟨hi _ _ h1 h2, hn _ ?_⟩
      show nk.getD q.2 0 ∈ nk
      rw [List.getD_eq_getElem?_getD, List.getElem?_eq_getElem h2]
      exact List.getElem_mem h2
  · have h1 : lines.length ≤ 21 * k := h.le
    show (lines ++ mvL nk ls).length ≤ _
    unfold mvL
    rw [List.length_append, List.length_map]
    omega
end Fr
set_option linter.all false
/-! Math9: the same neighbours, the same firings (plain Lean). -/
namespace Fr
def SameNb (cs near : List (List Int)) : Prop := ∀ (v : Nat) (w : Int), w ∈ cs.getD v [] ↔ w ∈ near.getD v []
theorem any_same {a b : List Int} {p : Int → Bool} (h : ∀ w, w ∈ a ↔ w ∈ b) : a.any p = b.any p := by
  rw [Bool.eq_iff_iff, List.any_eq_true, List.any_eq_true]
  exact ⟨fun ⟨x, h1, h2⟩ => ⟨x, (h x).mp h1, h2⟩, fun ⟨x, h1, h2⟩ => ⟨x, (h x).mpr h1, h2⟩⟩
theorem step_same {cs near : List (List Int)} (h : SameNb cs near) (pic : List Int) : stepL cs pic = stepL near pic := by
  unfold stepL
  refine List.map_congr_left fun v _ => ?_
  rw [any_same (h v)]
theorem run_same {cs near : List (List Int)} (h : SameNb cs near) (pic : List Int) : ∀ t, runL cs pic t = runL near pic t
  | 0 => rfl
  | t + 1 => by
    show stepL cs (runL cs pic t) = stepL near (runL near pic t)
    rw [run_same h pic t, step_same h]
theorem fires_same {cs near : List (List Int)} (h : SameNb cs near) (pic : List Int) (v : Nat) : ∀ t, fires cs pic v t = fires near pic v t
  | 0 => rfl
  | t + 1 => by
    show fires cs pic v t + _ = fires near pic v t + _
    rw [fires_same h pic v t, run_same h]
end Fr
set_option Elab.async false
set_option linter.all false
set_option maxRecDepth 100000
set_option maxHeartbeats 4000000
namespace Fr
open PySem PySem.Spec PySem.Calls L2
section
variable {P : Program} {w : World} {K : PySem.W.Frag} {mg : Str → Option Value} {base : Heap}
/-! check_place, long_walk -/
def fsCheck (K : PySem.W.Frag) (Cw : Addr) : FS (Nat × List (Nat × Nat) × List (List Int) × Nat) := ⟨fun x => [InR Cw (webG K x.1 x.2.1 x.2.2.1), I K (x.2.2.2 : Nat)], fun x => x.2.2.2 < x.1, fun x => Nn K⟩
theorem ok_check_place {f Cs Cw Ct : Addr} {fd : FuncData} (S : ClS K Cs Cw Ct) (Fn : Fun K "check_place" "check_place" s_check_place f fd) : FnOk P w K mg base CX0 1 f fd ["web", "place"] ((fsCheck K Cw).sp 2) := by
  refine FS.okN (fsCheck K Cw) Fn sc_check_place rfl (fun _ => rfl) fun cdv A outer s H E M y hr hp => ?_
  obtain ⟨n, l, cs, v⟩ := y
  have hp : v < n := hp
  exact b_ifF (et_is (et_not (et_in ev_int (ev_var 1) (ev_fld (ev_var 0) S.tw S.w1 look_size))) (by simp; omega)) (b_endN rfl)
structure WkArg (n : Nat) (cs : List (List Int)) (pic : List Int) (v b : Nat) : Prop where
  sc : Sc n cs pic
  nz : n ≤ 20
  hv : v < n
  hb : b < 2 ^ 140
def rwOf (n : Nat) (cs : List (List Int)) (pic : List Int) (v b : Nat) : Type := {y : List Row × List Fact // WalkOk n (adjC cs) pic v b (fires cs pic v b) ((bits b).length * (n * n) + (bits b).length) y}
def fsWalk (K : PySem.W.Frag) (Cs Cw : Addr) : FS (Nat × List (Nat × Nat) × List (List Int) × List Int × Nat × Nat) := ⟨fun x => [rpScn K Cs Cw x.1 x.2.1 x.2.2.1 x.2.2.2.1, I K (x.2.2.2.2.1 : Nat), I K (x.2.2.2.2.2 : Nat)], fun x => WkArg x.1 x.2.2.1 x.2.2.2.1 x.2.2.2.2.1 x.2.2.2.2.2 ∧ 0 < x.2.2.2.2.2, fun x => Exi fun y : rwOf x.1 x.2.2.1 x.2.2.2.1 x.2.2.2.2.1 x.2.2.2.2.2 => D K (dRows y.1.1)⟩
def fsWalk0 (K : PySem.W.Frag) (Cs Cw : Addr) : FS (Nat × List (Nat × Nat) × List (List Int) × List Int × Nat) := ⟨fun x => [rpScn K Cs Cw x.1 x.2.1 x.2.2.1 x.2.2.2.1, I K (x.2.2.2.2 : Nat), I K 0], fun x => x.2.2.2.2 < x.1, fun x => D K (.tuple [])⟩
theorem ok_long_walk0 {f Cs Cw Ct : Addr} {fd : FuncData} (S : ClS K Cs Cw Ct) (Gc : Df P w K mg base "check_place" 1 2 (fsCheck K Cw)) (Fn : Fun K "long_walk" "long_walk" s_long_walk f fd) : FnOk P w K mg base CX0 2 f fd ["scene", "place", "beats"] ((fsWalk0 K Cs Cw).sp 3) := by
  refine FS.ok (fsWalk0 K Cs Cw) Fn sc_long_walk rfl fun cdv A outer s H E M y hr hp => ?_
  obtain ⟨n, l, cs, pic, v⟩ := y
  have hp : v < n := hp
  refine b_drop (ev_callR (n, l, cs, v) Gc hr (ea_cons (ev_fld (ev_var 0) S.ts S.s1 look_web) (ea_cons (ev_var 1) ea_nil)) hp) ?_
  exact b_ifr (b := true) (et_is (et_eq (ev_var 2) ev_int) rfl) (fun _ => b_end (ev_tupD (ds := []) ea_nil) rfl) (fun h => nomatch h)
theorem wk_sz {n b : Nat} (hn : n ≤ 20) (hb : b < 2 ^ 140) : (bits b).length * (n * n) ≤ 56000 ∧ (bits b).length ≤ 140 := by
  have h1 := bits_len hb
  have h2 : n * n ≤ 20 * 20 := Nat.mul_le_mul hn hn
  have h3 := Nat.mul_le_mul h1 h2
  omega
theorem ok_long_walk {f Cs Cw Ct : Addr} {fd : FuncData} (W : Bi mg) (S : ClS K Cs Cw Ct) (Gc : Df P w K mg base "check_place" 1 2 (fsCheck K Cw)) (Gb : Df P w K mg base "binary_digits" 1 1 (fsBits K)) (Gl' : Df P w K mg base "lead_table" 6 1 (fsLeadT K Cs Cw Ct)) (Gd : Df P w K mg base "doubled" 7 2 (fsDoubled K Ct)) (Gs : Df P w K mg base "stops" 2 3 (fsStops K Ct)) (Gn : Df P w K mg base "needed_entries" 2 3 (fsNeeded P w K Ct)) (Ge : Dfo P w K mg base "entry_rows" 1 1 (fsErows P w K))
    (Fn : Fun K "long_walk" "long_walk" s_long_walk f fd) : FnOk P w K mg base CX0 8 f fd ["scene", "place", "beats"] ((fsWalk K Cs Cw).sp 3) := by
  refine FS.ok (fsWalk K Cs Cw) Fn sc_long_walk rfl fun cdv A outer s H E M y hr hp => ?_
  obtain ⟨n, l, cs, pic, v, b⟩ := y
  have hp : WkArg n cs pic v b ∧ 0 < b := hp
  obtain ⟨ha, hb0⟩ := hp
  obtain ⟨sc, hnz, hv, hb⟩ := ha
  have nd := sc_long_walk.nd
  obtain ⟨hsz, hL⟩ := wk_sz hnz hb
  have hb1 : b < 2 ^ 1000 := Nat.lt_trans hb (Nat.pow_lt_pow_right (by decide) (by decide))
  refine b_drop (ev_callR (n, l, cs, v) Gc (hr.mono (by decide)) (ea_cons (ev_fld (ev_var 0) S.ts S.s1 look_web) (ea_cons (ev_var 1) ea_nil)) hv) ?_
  refine b_ifF (et_is (et_eq (ev_var 2) ev_int) (decide_eq_false (by show ¬ ((b : Nat) : Int) = 0; omega))) ?_
  refine b_set (i := 3) (R := rpPows K Ct n (leadT n cs pic) (bits b).length) nd (ev_callR (n, leadT n cs pic, b) Gd (hr.mono (by decide)) (ea_cons (ev_callR (n, l, cs, pic) Gl' (hr.mono (by decide)) (ea_cons (ev_var 0) ea_nil) ⟨sc.nl, sc.pl, by omega, fun v w h => sc.nb v w h⟩) (ea_cons (ev_var 2) ea_nil)) ⟨lead_sq (by omega), hb1⟩) ?_
  refine b_setLc (i := 4) (own := [("level", 10), ("digit", 11)]) (xs := (bits b).zipIdx) (it := fun z : Nat × Nat => Enu K (dI z.1, z.2)) (pr := fun z => decide ((z.1 : Int) = 1)) (g := fun z => dI z.2) (js := [10] ++ ([11] ++ []))
    (Γt := fun z => [some (rpScn K Cs Cw n l cs pic), some (I K (v : Nat)), some (I K (b : Nat)), some (rpPows K Ct n (leadT n cs pic) (bits b).length), none, none, none, none, none, none, some (I K (z.2 : Nat)), some (I K (z.1 : Nat))]) rfl nd
    (it_of_map (g := fun z : Nat × Nat => (dI z.1, z.2)) (by rw [← zipIdx_map' dI]; exact it_enuL W (ds := (bits b).map dI) (ev_le (ev_callR b Gb (hr.mono (by decide)) (ea_cons (ev_var 2) ea_nil) hb1) LP_D))) (blkOk_by (N := N_long_walk) (sc := defScope s_long_walk) (by decide +kernel))
    ⟨fun _ _ _ _ _ _ _ _ _ x hx => tg_tupR rfl (tgs_cons (tg_name (i := 10) nd) (tgs_cons (tg_name (i := 11) nd) tgs_nil)), fun _ _ _ _ _ _ _ _ _ x hx => ets_one (et_eq (ev_var 11) ev_int), fun _ _ _ _ _ _ _ _ _ x hx _ => ev_var 10, fun j hj => hj, by rw [List.length_zipIdx]; omega⟩ (Nat.le_of_ble_eq_true rfl) ?_
  have elv : (((bits b).zipIdx).filter fun z => decide ((z.1 : Int) = 1)).map (fun z => dI z.2) = (lvOf b).map dI := by unfold lvOf lvF; rw [List.map_map]; rfl
  rw [elv]
  have hlt : ∀ x ∈ lvOf b, x < (bits b).length := fun x hx => lvOf_lt hx
  have hlb : (lvOf b).length ≤ (bits b).length := lvF_len
  have hl0 : 0 < (lvOf b).length := lvOf_ne hb0
  have hS := SS_all b
  generalize hlv : lvOf b = lv at hlt hlb hl0 hS ⊢
  have hst : StArg n cs pic (bits b).length lv v := ⟨sc, by omega, hv, hlt, by omega, by omega⟩
  refine b_setE (i := 5) (Q := fun ps : {ps : List Nat // StopsOk n cs pic lv v lv.length ps} => D K (.list (ps.1.map dI))) nd (ev_callR (n, cs, pic, (bits b).length, lv, v) Gs (hr.mono (by decide)) (ea_cons (ev_var 3) (ea_cons (ev_le (ev_var 4) LP_D) (ea_cons (ev_var 1) ea_nil))) hst) fun ps => ?_
  obtain ⟨ps, hps⟩ := ps
  refine b_asgOE (S := fsErows P w K) (C := fun y => ∃ kss, y = (n, cs, pic, (bits b).length, lv, ps, kss)) (As := [Exi fun kss : {kss : List Lvl // NdOk n cs pic (bits b).length lv ps kss} => LR (kss.1.map (rpLv P w K))])
    (Γ2 := fun y z p => [some (rpScn K Cs Cw n l cs pic), some (I K (v : Nat)), some (I K (b : Nat)), some (rpPows K Ct n (leadT n cs pic) (bits b).length), some (LP K (lv.map dI)), some (D K (.list (ps.map dI))), some (Vl (.ref p)), some (DR P w K en3 (kv3 K z.2.2)), none, none, none, none]) (js := [6] ++ ([7] ++ [])) Ge (hr.mono (by decide)) (ea_cons (ev_callR (S := fsNeeded P w K Ct) (n, cs, pic, (bits b).length, lv, v, ps) Gn (hr.mono (by decide)) (ea_cons (ev_var 3) (ea_cons (ev_le (ev_var 4) LP_D) (ea_cons (ev_var 5) ea_nil))) (show NdArg n cs pic (bits b).length lv v ps from ⟨hst, hps, by omega⟩)) ea_nil) rfl (fun G vs h => ?_) (fun y z p => tg_tupR rfl (tgs_cons (tg_name (i := 6) nd) (tgs_cons (tg_name (i := 7) nd) tgs_nil))) (fun y z p hy hz => ?_)
  · match vs, h with
    | [u], h =>
      obtain ⟨h1, _⟩ := h
      obtain ⟨⟨kss, hk⟩, h1⟩ := h1
      exact ⟨(n, cs, pic, (bits b).length, lv, ps, kss), ⟨h1, trivial⟩, (show ErArg n cs pic (bits b).length lv ps kss from ⟨by omega, hk, by omega⟩), kss, rfl⟩
  · obtain ⟨kss, rfl⟩ := hy
    obtain ⟨rows, facts, idx⟩ := z
    have hz : ErOk n cs pic (bits b).length lv ps (rows, facts, idx) := hz
    obtain ⟨x0, hx0⟩ : ∃ x, lv[0]? = some x := ⟨_, List.getElem?_eq_getElem hl0⟩
    have pl := hps.len
    have pix : ∀ k, k < ps.length → atI (ps.map dI) (k : Int) = some (dI (ps.getD k 0)) := fun k hk => atI_mapN (f := dI) (l := ps) (d := 0) hk
    have lix : ∀ (k x : Nat), lv[k]? = some x → atI (lv.map dI) (k : Int) = some (dI x) := fun k x hk => by
      have hkl := (List.getElem?_eq_some_iff.mp hk).1
      have := atI_mapN (f := dI) (l := lv) (d := 0) hkl
      rwa [List.getD_eq_getElem?_getD, hk] at this
    have hrl : rows.length ≤ 56000 := by
      have : rows.length ≤ (bits b).length * (n * n) := hz.len
      omega
    obtain ⟨i0, g1, g2⟩ := getK_kv3 (K := K) (hz.has 0 x0 hx0)
    refine b_set (i := 8) (R := I K (i0 : Nat)) nd (ev_getN (E := en3) (k := (x0, ps.getD 0 0, ps.getD 1 0)) (kvs := kv3 K idx) hr (edi_fro (ev_var 7)) (ev_tupD (ds := [.int (x0 : Nat), .int (ps.getD 0 0 : Nat), .int (ps.getD 1 0 : Nat)]) (ea_cons (ev_ixL (ev_le (ev_var 4) LP_D) ev_int (lix 0 x0 hx0)) (ea_cons (ev_ixL (ev_var 5) ev_int (pix 0 (by omega))) (ea_cons (ev_ixL (ev_var 5) ev_int (pix 1 (by omega))) ea_nil)))) g2) ?_
    have w0 := lw_start hz hps hS hx0 g1
    refine b_forE rfl PassesOwn.never (ds := List.range (lv.length - 1)) (it := fun t => I K (1 + (t : Nat))) (it_rng2 W ev_int (ev_lenL W (ev_le (ev_var 4) LP_D)) (by rw [List.length_map]; omega) (by rw [List.length_map]; omega)) (fun k (y : List Row × List Fact × Nat) => Lw n cs pic lv ps b v idx ((bits b).length * (n * n)) k y) (fun _ y => [some (rpScn K Cs Cw n l cs pic), some (I K (v : Nat)), some (I K (b : Nat)), some (rpPows K Ct n (leadT n cs pic) (bits b).length), some (LP K (lv.map dI)), some (D K (.list (ps.map dI))), some (Vl (.ref p)), some (DR P w K en3 (kv3 K idx)), some (I K (y.2.2 : Nat)), none, none, none]) (fun _ y => [(p, LO K (y.1.map encR))]) (fun _ y t => [some (rpScn K Cs Cw n l cs pic), some (I K (v : Nat)), some (I K (b : Nat)), some (rpPows K Ct n (leadT n cs pic) (bits b).length), some (LP K (lv.map dI)), some (D K (.list (ps.map dI))), some (Vl (.ref p)), some (DR P w K en3 (kv3 K idx)), some (I K (y.2.2 : Nat)), some (I K ((t + 1 : Nat) : Int)), none, none]) [9]
      ⟨(rows, facts, i0), w0, rfl, Le.refl _⟩ (fun gv gR i t y h c => ?_) (fun gv gR i t y h c => ?_) (fun y c => ?_)
    · have e : ((t + 1 : Nat) : Int) = 1 + (t : Nat) := by omega
      rw [e]
      exact tg_name (i := 9) nd
    · obtain ⟨ht, rfl⟩ := range_at h
      obtain ⟨rows', facts', last⟩ := y
      obtain ⟨x, hx⟩ : ∃ x, lv[t + 1]? = some x := ⟨_, List.getElem?_eq_getElem (by omega)⟩
      obtain ⟨m, m1, m2⟩ := getK_kv3 (K := K) (hz.has (t + 1) x hx)
      obtain ⟨fa, w1⟩ := lw_step c hps hx m1
      have hl2 : rows'.length ≤ (bits b).length * (n * n) + t := c.len
      refine b_appD (k := 0) (d := encR (.both last m)) (ev_var 6) rfl (ev_tupD (ds := [.str "both", .int (last : Nat), .int (m : Nat)]) (ea_cons ev_str (ea_cons (ev_var 8) (ea_cons (ev_getN (E := en3) (k := (x, ps.getD (t + 1) 0, ps.getD (t + 2) 0)) (kvs := kv3 K idx) hr (edi_fro (ev_var 7)) (ev_tupD (ds := [.int (x : Nat), .int (ps.getD (t + 1) 0 : Nat), .int (ps.getD (t + 2) 0 : Nat)]) (ea_cons (ev_ixL (ev_le (ev_var 4) LP_D) (ev_var 9) (lix (t + 1) x hx)) (ea_cons (ev_ixL (ev_var 5) (ev_var 9) (pix (t + 1) (by omega))) (ea_cons (ev_ixL (ev_var 5) (ev_int_is (ev_add (ev_var 9) ev_int) (show ((t + 1 : Nat) : Int) + 1 = ((t + 2 : Nat) : Int) by omega)) (pix (t + 2) (by omega))) ea_nil)))) m2) ea_nil)))) (by rw [List.length_map]; show rows'.length < 100000; omega) ?_
      refine b_set (i := 8) (R := I K (rows'.length : Nat)) nd (ev_int_is (ev_sub (ev_lenO W (k := 0) (ev_var 6) rfl) ev_int) (by rw [List.length_map, List.length_append, List.length_map, List.length_singleton]; show ((rows'.length + 1 : Nat) : Int) - 1 = _; omega)) ?_
      exact b_nil fun σ H s => ⟨_, w1, s.cast (.keep (.keep (.keep (.keep (.keep (.keep (.keep (.keep (.keep (.drop (.drop (.drop .nil)))))))))))) (by rw [List.map_append]; rfl)⟩
    · obtain ⟨rows', facts', last⟩ := y
      rw [List.length_range] at c
      have we := lw_end hl0 c
      have hl2 : rows'.length ≤ (bits b).length * (n * n) + (lv.length - 1) := c.len
      refine b_frzD (k := 0) (i := 6) rfl rfl ?_
      have we2 : WalkOk n (adjC cs) pic v b (fires cs pic v b) ((bits b).length * (n * n) + (bits b).length) (rows'.take (last + 1), facts'.take (last + 1)) := ⟨we.rk, we.la, we.pos, Nat.le_trans we.len (by omega)⟩
      exact b_endE (Q := fun y : rwOf n cs pic v b => D K (dRows y.1.1)) ⟨_, we2⟩ (ev_tupleL W (ev_newD (en_toM (n := last + 1) (xs := rows') (g := encR) (ev_le (ev_var 6) LP_D) (ev_add (ev_var 8) ev_int) (show ((last : Nat) : Int) + 1 = ((last + 1 : Nat) : Int) by omega) (by omega)))) rfl
end
end Fr
set_option Elab.async false
set_option linter.all false
set_option maxRecDepth 100000
set_option maxHeartbeats 4000000
namespace Fr
open PySem PySem.Spec PySem.Calls L2
section
variable {P : Program} {w : World} {K : PySem.W.Frag} {mg : Str → Option Value} {base : Heap}
/-! _law_mixed -/
def dGs (gs : List Scn) : PyData := .list (gs.map dSc)
structure MixArg (gs : List Scn) : Prop where
  ok : ∀ j, j < gs.length → SceneOk 7 (gs.getD j g0)
  le : gs.length ≤ 2
structure MixRes (y : (Nat × List (Nat × Nat)) × List Int × List (List Nat)) : Prop where
  nz : y.1.1 ≤ 14
  ls : LinesOk y.1.1 y.1.2
  pc : PicOk y.1.1 y.2.1
abbrev cN (nums : List (List Nat)) : List (List PyData) := nums.map fun l => l.map dI
def dNums (nums : List (List Nat)) : PyData := .list ((cN nums).map .list)
def fsMixed (K : PySem.W.Frag) : FS (List Scn) := ⟨fun gs => [D K (dGs gs)], MixArg, fun _ => Exi fun y : {y : (Nat × List (Nat × Nat)) × List Int × List (List Nat) // MixRes y} => D K (.list [.int (y.1.1.1 : Nat), dLs y.1.1.2, dT y.1.2.1, dNums y.1.2.2])⟩
theorem ok_l_mixed {f : Addr} {fd : FuncData} (W : Bi mg) (Fn : Fun K "_law_mixed" "_law_mixed" s_l_mixed f fd) : FnOk P w K mg base CX0 1 f fd ["_law_groups"] ((fsMixed K).sp 1) := by
  refine FS.ok (fsMixed K) Fn sc_l_mixed rfl fun cdv A outer s H E M y hr hp => ?_
  have hp : MixArg y := hp
  obtain ⟨hok, hle⟩ := hp
  have nd := sc_l_mixed.nd
  generalize hgs : y = gs at hok hle ⊢
  have hz7 : ∀ j, j < gs.length → szG gs j ≤ 7 := fun j hj => (hok j hj).dr.le
  have gix : ∀ k, k < gs.length → atI (gs.map dSc) (k : Int) = some (dSc (gs.getD k g0)) := fun k hk => atI_mapN (f := dSc) (l := gs) (d := g0) hk
  let A0 : Option RP := some (D K (dGs gs))
  refine b_ownLcFc (i := 1) (O := fun _ => LOR []) (own := [("_law_group", 8)]) (xs := gs) (it := fun g => D K (dSc g)) (js := [8]) (Γt := fun g => [some (D K (dGs gs)), none, none, none, none, none, none, none, some (D K (dSc g)), none]) rfl nd (it_mapL (ev_var 0)) (blkOk_by (N := N_l_mixed) (sc := defScope s_l_mixed) (by decide +kernel))
    (fun _ _ _ _ _ _ _ _ _ x hx => tg_name (i := 8) nd) (fun _ _ _ _ _ _ _ _ _ x hx => ef_en (en_lst ea_nil (Nat.zero_le _))) (fun j h => h) (by omega) (by show 1 < 10; decide) fun ps hps => ?_
  refine b_set (i := 2) (R := I K ((0 : Nat) : Int)) nd (ev_int_is ev_int rfl) ?_
  have ixp : ∀ j, j < gs.length → atI (Vp ps) (j : Int) = some (Vl (.ref (ps.getD j 0))) := fun j hj => atI_mapN (f := fun p => Vl (.ref p)) (l := ps) (d := 0) (by omega)
  have hsize : ∀ {t k nums size}, Mix gs t k (nums, size) → size ≤ 14 := fun h => by
    have := mix_le h hz7
    omega
  refine b_forE rfl PassesOwn.never (it_rng1 (n := 60) W ev_int rfl (by decide)) (fun t (y : List (List Nat) × Nat) => Mix gs t 0 y) (fun _ y => [some (D K (dGs gs)), some (LR (Vp ps)), some (I K (y.2 : Nat)), none, none, none, none, none, none, none]) (fun _ y => rowsO K ps (cN y.1)) (fun _ y x => [some (D K (dGs gs)), some (LR (Vp ps)), some (I K (y.2 : Nat)), some (I K (x : Nat)), none, none, none, none, none, none]) [3]
    ⟨(List.replicate gs.length [], 0), mix_zero, by
      have : cN (List.replicate gs.length []) = List.replicate ps.length [] := by unfold cN; rw [List.map_replicate, hps]; rfl
      rw [this, rowsO_nil, List.append_nil], Le.refl _⟩ (fun gv gR i x y h c => tg_name (i := 3) nd) (fun gv gR i x y h c => ?_) (fun y c => ?_)
  · obtain ⟨hx, rfl⟩ := range_at h
    refine b_forE rfl PassesOwn.never (it_rng1 (n := gs.length) W (ev_lenL W (ds := gs.map dSc) (ev_var 0)) (by rw [List.length_map]) (by omega)) (fun k (y : List (List Nat) × Nat) => Mix gs x k y) (fun _ y => [some (D K (dGs gs)), some (LR (Vp ps)), some (I K (y.2 : Nat)), some (I K (x : Nat)), none, none, none, none, none, none]) (fun _ y => rowsO K ps (cN y.1)) (fun _ y k => [some (D K (dGs gs)), some (LR (Vp ps)), some (I K (y.2 : Nat)), some (I K (x : Nat)), some (I K (k : Nat)), none, none, none, none, none]) [4]
      ⟨y, c, rfl, Le.refl _⟩ (fun gv gR i k y h c => tg_name (i := 4) nd) (fun gv gR i k y h c => ?_) (fun y c => ?_)
    · obtain ⟨hk, rfl⟩ := range_at h
      obtain ⟨nums, size⟩ := y
      have hnl : nums.length = gs.length := c.len
      have hz := hsize c
      refine b_ifE (C := fun y : List (List Nat) × Nat => Mix gs x (k + 1) y) (Γi := fun y => [some (D K (dGs gs)), some (LR (Vp ps)), some (I K (y.2 : Nat)), some (I K (x : Nat)), none, none, none, none, none, none]) (Δi := fun y => rowsO K ps (cN y.1)) (et_lt (ev_var 3) (ev_ixL (ev_ixL (ev_var 0) (ev_var 4) (gix k hk)) ev_int rfl)) (fun hb => ?_) (fun hb => ?_) (fun y c => b_nil fun σ H s => ⟨y, c, s⟩)
      · have ht : x < szG gs k := by have := of_decide_eq_true hb; unfold szG; omega
        have hkl : (nums.getD k []).length ≤ 7 := by
          have h1 : (nums.getD k []).length = _ := c.szs k hk
          have h2 := hz7 k hk
          omega
        refine b_appD (k := k) (p := ps.getD k 0) (ds := (nums.getD k []).map dI) (d := dI size) (ev_ixR (ev_var 1) (ev_var 4) (ixp k hk)) (rowsO_get (getD_get (by omega)) (by rw [List.getElem?_map, getD_get (l := nums) (d := []) (by omega)]; rfl)) (ev_var 2) (by rw [List.length_map]; omega) ?_
        refine b_eqD (Δ' := rowsO K ps (cN (nums.set k (nums.getD k [] ++ [size])))) ((zipWith_set (f := fun p c => (p, LO K c)) (getD_get (by omega))).trans (by
          have : (cN nums).set k ((nums.getD k []).map dI ++ [dI size]) = cN (nums.set k (nums.getD k [] ++ [size])) := by
            unfold cN; rw [List.map_set, List.map_append]; rfl
          rw [this])) ?_
        refine b_set (i := 2) (R := I K ((size + 1 : Nat) : Int)) nd (ev_int_is (ev_add (ev_var 2) ev_int) (by show ((size : Nat) : Int) + 1 = _; omega)) ?_
        exact b_nil fun σ H s => ⟨_, mix_add c hk ht, s.cast (.keep (.keep (.keep (.keep (.drop (.drop (.drop (.drop (.drop (.drop .nil)))))))))) rfl⟩
      · have ht : ¬ x < szG gs k := by have := of_decide_eq_false hb; unfold szG; omega
        exact b_nil fun σ H s => ⟨_, mix_skip c ht, s.cast (.keep (.keep (.keep (.keep (.drop (.drop (.drop (.drop (.drop (.drop .nil)))))))))) rfl⟩
    · rw [List.length_range] at c
      exact b_nil fun σ H s => ⟨y, mix_next c, s.le (.keep (.keep (.keep (.drop (.drop (.drop (.drop (.drop (.drop (.drop .nil))))))))))⟩
  · obtain ⟨nums, size⟩ := y
    have c : Mix gs 60 0 (nums, size) := by have c' := c; rwa [List.length_range] at c'
    have hnl : nums.length = gs.length := c.len
    have hz := hsize c
    have hlen : ∀ k, k < gs.length → (nums.getD k []).length = szG gs k := fun k hk => by
      have h1 : (nums.getD k []).length = _ := c.szs k hk
      have h2 := hz7 k hk
      rw [if_neg (by omega)] at h1
      omega
    have nix : ∀ k : Nat, k < gs.length → atI ((cN nums).map PyData.list) (k : Int) = some (PyData.list ((nums.getD k []).map dI)) := fun k hk => by
      have e : (cN nums).map PyData.list = nums.map fun l => PyData.list (l.map dI) := by unfold cN; rw [List.map_map]; rfl
      rw [e]
      exact atI_mapN (f := fun l => PyData.list (l.map dI)) (l := nums) (d := []) (show k < nums.length by omega)
    have nxx : ∀ (k a : Nat), a < (nums.getD k []).length → atI ((nums.getD k []).map dI) (a : Int) = some (dI ((nums.getD k []).getD a 0)) := fun k a ha => atI_mapN (f := dI) (l := nums.getD k []) (d := 0) ha
    rw [← List.append_nil (rowsO K ps (cN (nums, size).1))]
    refine b_frzRows (i := 1) (by unfold cN; rw [List.length_map]; show ps.length = nums.length; omega) rfl ?_
    refine b_own (i := 5) (As := ([] : List PyData).map (D K)) nd (en_lstD (ds := []) ea_nil) fun p => ?_
    refine b_ownLcM (i := 6) (own := [("_law_place", 3)]) (xs := List.range size) (it := fun i => I K (i : Nat)) (g := fun _ => PyData.int 0) (js := [3]) (Γt := fun i => [some (D K (dGs gs)), some (LP K ((cN nums).map .list)), some (I K (size : Nat)), some (I K (i : Nat)), none, some (Vl (.ref p)), none, none, none, none]) rfl nd (it_rng1 W (ev_var 2) rfl (by show size < _; omega)) (blkOk_by (N := N_l_mixed) (sc := defScope s_l_mixed) (by decide +kernel))
      (LcH.all (fun _ _ _ _ _ _ _ _ _ x hx => tg_name (i := 3) nd) (fun _ _ _ _ _ _ _ _ _ x hx => ev_int) (fun j h => h) (by rw [List.length_range]; omega)) fun q => ?_
    have e0 : (List.range size).map (fun _ => PyData.int 0) = (List.replicate size (0 : Int)).map .int := by rw [List.map_replicate, List.map_const', List.length_range]
    refine b_eqD (Δ' := [(q, LO K ((List.replicate size (0 : Int)).map .int)), (p, LO K [])]) (by rw [e0]; rfl) ?_
    refine b_forE rfl PassesOwn.never (it_rng1 (n := gs.length) W (ev_lenL W (ds := gs.map dSc) (ev_var 0)) (by rw [List.length_map]) (by omega)) (fun k (y : List (Nat × Nat) × List Int) => Mx2 size k y) (fun _ y => [some (D K (dGs gs)), some (LP K ((cN nums).map .list)), some (I K (size : Nat)), none, none, some (Vl (.ref p)), some (Vl (.ref q)), none, none, none]) (fun _ y => [(q, LO K (y.2.map .int)), (p, LO K (y.1.map dP))]) (fun _ y k => [some (D K (dGs gs)), some (LP K ((cN nums).map .list)), some (I K (size : Nat)), none, some (I K (k : Nat)), some (Vl (.ref p)), some (Vl (.ref q)), none, none, none]) [4]
      ⟨([], List.replicate size 0), ⟨fun p h => (nomatch h), Nat.zero_le _, ⟨by simp, fun s hs => .inl (List.eq_of_mem_replicate hs)⟩⟩, rfl, .keep (.keep (.keep (.drop (.drop (.keep (.keep (.drop (.drop (.drop .nil)))))))))⟩ (fun gv gR i k y h c => tg_name (i := 4) nd) (fun gv gR i k y h c2 => ?_) (fun y c2 => ?_)
    · obtain ⟨hk, rfl⟩ := range_at h
      obtain ⟨lines, pic⟩ := y
      have so := hok k hk
      generalize hg : gs.getD k g0 = g at so
      obtain ⟨⟨n, ls⟩, gp⟩ := g
      have gk := gix k hk
      rw [hg] at gk
      have ln : (nums.getD k []).length = n := by
        have := hlen k hk
        unfold szG at this
        rw [hg] at this
        exact this
      have hll : ∀ p ∈ ls, p.1 < p.2 ∧ p.2 < n := so.dr.ok.lt
      have hlf : ls.length ≤ 21 := so.dr.few
      have hn7 : n ≤ 7 := so.dr.le
      have gpl : gp.length = n := so.pc.len
      have hl1 : lines.length ≤ 21 * k := c2.le
      have hnk : ∀ x ∈ nums.getD k [], x < size := c.lt k
      refine b_extD (k := 1) (p := p) (ds := lines.map dP) (ds' := (mvL (nums.getD k []) ls).map dP) (ev_var 5) rfl (ev_new (en_is (en_lcM (own := [("_law_line", 9)]) (xs := ls) (it := fun x => D K (dP x)) (g := fun x => dP ((nums.getD k []).getD x.1 0, (nums.getD k []).getD x.2 0)) (js := [9]) (Γt := fun x => [some (D K (dGs gs)), some (LP K ((cN nums).map .list)), some (I K (size : Nat)), none, some (I K (k : Nat)), some (Vl (.ref p)), some (Vl (.ref q)), none, none, some (D K (dP x))]) rfl nd (it_mapL (xs := ls) (g := dP) (ev_ixL (ev_ixL (ev_var 0) (ev_var 4) gk) ev_int rfl)) (blkOk_by (N := N_l_mixed) (sc := defScope s_l_mixed) (by decide +kernel))
        (LcH.all (fun _ _ _ _ _ _ _ _ _ x hx => tg_name (i := 9) nd) (fun _ _ _ _ _ _ _ _ _ x hx => ev_tupD (ds := [dI ((nums.getD k []).getD x.1 0), dI ((nums.getD k []).getD x.2 0)]) (ea_cons (ev_ixL (ev_ixL (ev_le (ev_var 1) LP_D) (ev_var 4) (nix k hk)) (ev_ixT (ds := [.int (x.1 : Nat), .int (x.2 : Nat)]) (ev_var 9) ev_int rfl) (nxx k x.1 (by have := hll x hx; omega))) (ea_cons (ev_ixL (ev_ixL (ev_le (ev_var 1) LP_D) (ev_var 4) (nix k hk)) (ev_ixT (ds := [.int (x.1 : Nat), .int (x.2 : Nat)]) (ev_var 9) ev_int rfl) (nxx k x.2 (by have := hll x hx; omega))) ea_nil))) (fun j h => h) (by omega))) (by unfold mvL; rw [List.map_map, List.map_map, List.map_map]; rfl))) (by unfold mvL; rw [List.length_map, List.length_map, List.length_map]; omega) ?_
      have c3 := mx_lines c2 (c.inc k) hnk (fun p hp => by rw [ln]; exact hll p hp) hlf
      refine b_eqD (Δ' := [(q, LO K (pic.map .int)), (p, LO K ((lines ++ mvL (nums.getD k []) ls).map dP))]) (by rw [List.map_append]; rfl) ?_
      generalize hl3 : lines ++ mvL (nums.getD k []) ls = lines3 at c3 ⊢
      refine b_forE rfl PassesOwn.never (it_rng1 (n := n) W (ev_ixL (ev_ixL (ev_var 0) (ev_var 4) gk) ev_int rfl) rfl (by omega)) (fun a (pic' : List Int) => Mx2 size (k + 1) (lines3, pic')) (fun _ y => [some (D K (dGs gs)), some (LP K ((cN nums).map .list)), some (I K (size : Nat)), none, some (I K (k : Nat)), some (Vl (.ref p)), some (Vl (.ref q)), none, none, none]) (fun _ y => [(q, LO K (y.map .int)), (p, LO K (lines3.map dP))]) (fun _ y a => [some (D K (dGs gs)), some (LP K ((cN nums).map .list)), some (I K (size : Nat)), none, some (I K (k : Nat)), some (Vl (.ref p)), some (Vl (.ref q)), some (I K (a : Nat)), none, none]) [7]
        ⟨pic, c3, rfl, Le.refl _⟩ (fun gv gR i k y h c => tg_name (i := 7) nd) (fun gv gR i a pic' h c4 => ?_) (fun pic' c4 => ?_)
      · obtain ⟨ha, rfl⟩ := range_at h
        have pl : pic'.length = size := c4.pc.len
        have hj : (nums.getD k []).getD a 0 < size := hnk _ (mem_getD (by omega))
        have gx : gp.getD a 0 = 0 ∨ gp.getD a 0 = 1 ∨ gp.getD a 0 = 2 := so.pc.st _ (getD_mem' (show a < gp.length by omega))
        refine b_setO (k := 0) (p := q) (Rs := (pic'.map PyData.int).map (D K)) (j := (nums.getD k []).getD a 0) (R := D K (.int (gp.getD a 0))) (ev_ixT (ev_ixL (ev_ixL (ev_var 0) (ev_var 4) gk) ev_int rfl) (ev_var 7) (atI_mapN (f := PyData.int) (l := gp) (d := 0) (show a < gp.length by omega))) (ev_var 6) rfl (ev_ixL (ev_ixL (ev_le (ev_var 1) LP_D) (ev_var 4) (nix k hk)) (ev_var 7) (nxx k a (by omega))) (by rw [List.length_map, List.length_map]; exact ixN_nat (by omega)) ?_
        exact b_nil fun σ H s => ⟨pic'.set ((nums.getD k []).getD a 0) (gp.getD a 0), ⟨c4.lt, c4.le, c4.pc.set gx⟩, s.cast (.keep (.keep (.keep (.drop (.keep (.keep (.keep (.drop (.drop (.drop .nil)))))))))) (by rw [← List.map_set, ← List.map_set]; rfl)⟩
      · exact b_nil fun σ H s => ⟨(lines3, pic'), c4, s.le (.keep (.keep (.keep (.drop (.drop (.keep (.keep (.drop (.drop (.drop .nil))))))))))⟩
    · obtain ⟨lines, pic⟩ := y
      rw [List.length_range] at c2
      have hl1 : lines.length ≤ 21 * gs.length := c2.le
      refine b_frzD (k := 0) (i := 6) rfl rfl ?_
      refine b_frzD (k := 0) (i := 5) rfl rfl ?_
      exact b_endE (Q := fun y : {y : (Nat × List (Nat × Nat)) × List Int × List (List Nat) // MixRes y} => D K (.list [.int (y.1.1.1 : Nat), dLs y.1.1.2, dT y.1.2.1, dNums y.1.2.2])) ⟨((size, lines), pic, nums), ⟨hz, ⟨c2.lt, by show lines.length ≤ 60; omega⟩, c2.pc⟩⟩ (ev_lstD (ds := [.int (size : Nat), dLs lines, dT pic, dNums nums]) (ea_cons (ev_var 2) (ea_cons (ev_le (ev_var 5) LP_D) (ea_cons (ev_tupleL W (ev_le (ev_var 6) LP_D)) (ea_cons (ev_le (ev_var 1) LP_D) ea_nil))))) rfl
end
end Fr
set_option Elab.async false
set_option linter.all false
set_option maxRecDepth 100000
set_option maxHeartbeats 4000000
namespace Fr
open PySem PySem.Spec PySem.Calls L2
section
variable {P : Program} {w : World} {K : PySem.W.Frag} {mg : Str → Option Value} {base : Heap}
/-! _law_asked -/
structure AskArg (n : Nat) (cs near : List (List Int)) (pic : List Int) (v b : Nat) : Prop where
  wk : WkArg n cs pic v b
  pos : 0 < b
  nl : near.length = n
  same : SameNb cs near
def fsAsked (K : PySem.W.Frag) (Cs Cw : Addr) : FS (Nat × List (Nat × Nat) × List (List Int) × List (List Int) × List Int × Nat × Nat) := ⟨fun x => [rpScn K Cs Cw x.1 x.2.1 x.2.2.1 x.2.2.2.2.1, D K (dN x.2.2.2.1), D K (dT x.2.2.2.2.1), I K (x.2.2.2.2.2.1 : Nat), I K (x.2.2.2.2.2.2 : Nat), I K (fires x.2.2.2.1 x.2.2.2.2.1 x.2.2.2.2.2.1 x.2.2.2.2.2.2)], fun x => AskArg x.1 x.2.2.1 x.2.2.2.1 x.2.2.2.2.1 x.2.2.2.2.2.1 x.2.2.2.2.2.2, fun _ => B K true⟩
theorem eqv_ints : ∀ ns : List Int, PyData.eqvAll (ns.map PyData.int) (ns.map PyData.int) = true
  | [] => rfl
  | x :: r => by
    show PyData.eqvAll (PyData.int x :: r.map PyData.int) (PyData.int x :: r.map PyData.int) = true
    rw [PyData.eqvAll, eqv_ints r]
    simp [PyData.eqv]
theorem eqv_facts : ∀ fs : List Fact, PyData.eqvAll (fs.map encF) (fs.map encF) = true
  | [] => rfl
  | x :: r => by
    show PyData.eqvAll (encF x :: r.map encF) (encF x :: r.map encF) = true
    rw [PyData.eqvAll, eqv_facts r]
    have : PyData.eqv (encF x) (encF x) = true := by
      unfold encF dT
      rw [PyData.eqv]
      exact eqv_ints _
    rw [this]; rfl
theorem shaped_facts (l : List Fact) : SeqAt.shaped (.list (l.map encF)) = true := shaped_map (n := 1) (fun _ => rfl) (fun _ => by simp [encF, dT, inF, PyData.depth, PyData.depthAll]) (by decide) l
theorem filter_falseF {α : Type} {p : α → Bool} (xs : List α) (h : ∀ x, p x = false) : (xs.filter p) = [] := by
  rw [List.filter_eq_nil_iff]
  intro a _
  rw [h a]; decide
theorem ok_l_asked {f Cs Cw Ct : Addr} {fd : FuncData} (W : Bi mg) (Gw : Df P w K mg base "long_walk" 8 3 (fsWalk K Cs Cw)) (Gf : Df P w K mg base "_law_facts" 3 3 (fsFacts K)) (Gr : Df P w K mg base "row_facts" 4 2 (fsRowFacts K Cs Cw)) (Gx : Df P w K mg base "_law_row" 2 2 (fsRow K))
    (Fn : Fun K "_law_asked" "_law_asked" s_l_asked f fd) : FnOk P w K mg base CX0 9 f fd ["_law_scene_here", "_law_near_here", "_law_picture_here", "_law_place", "_law_beats", "_law_due"] ((fsAsked K Cs Cw).sp 6) := by
  refine FS.ok (fsAsked K Cs Cw) Fn sc_l_asked rfl fun cdv A outer s H E M y hr hp => ?_
  obtain ⟨n, l, cs, near, pic, v, b⟩ := y
  have hp : AskArg n cs near pic v b := hp
  obtain ⟨wk, hb0, hnl, hsame⟩ := hp
  have nd := sc_l_asked.nd
  refine b_setE (i := 6) (Q := fun y : rwOf n cs pic v b => D K (dRows y.1.1)) nd (ev_callR (n, l, cs, pic, v, b) Gw hr (ea_cons (ev_var 0) (ea_cons (ev_var 3) (ea_cons (ev_var 4) ea_nil))) ⟨wk, hb0⟩) fun y => ?_
  obtain ⟨⟨rows, facts⟩, wok⟩ := y
  obtain ⟨rk, ⟨q, la⟩, pos, len⟩ := wok
  have rk : RowsOk n (adjC cs) pic rows facts := rk
  have la : facts[rows.length - 1]? = some ⟨v, q, b, fires cs pic v b⟩ := la
  have pos : 0 < rows.length := pos
  have len : rows.length ≤ (bits b).length * (n * n) + (bits b).length := len
  obtain ⟨hsz, hL⟩ := wk_sz wk.nz wk.hb
  have hrl : rows.length ≤ 90000 := by omega
  have e1 : n < 9 → rows.length ≤ 10000 := fun h => by
    have h2 : n * n ≤ 8 * 8 := Nat.mul_le_mul (by omega) (by omega)
    have h3 := Nat.mul_le_mul hL h2
    omega
  refine b_ifF (et_is (et_w (ew_or (p := false) (et_not (p := true) (et_val (ev_isi W (d := dRows rows) (T := "tuple") (r := true) (ev_var 6) (ev_ty W.tuple (by decide +kernel)) kTT))) fun _ => ew_or (et_eq (ev_lenT W (ds := rows.map encR) (ev_var 6)) ev_int) fun _ => ew_or1 (et_w (ew_and (et_lt (ev_lenL W (ds := near.map dL) (ev_var 1)) ev_int) fun _ => ew_and1 (et_gt (ev_lenT W (ds := rows.map encR) (ev_var 6)) ev_int))))) ?_) ?_
  · rw [List.length_map, List.length_map, hnl]
    have h1 : decide (((rows.length : Nat) : Int) = 0) = false := decide_eq_false (by omega)
    rw [h1]
    by_cases h : n < 9
    · have h2 : decide ((10000 : Int) < ((rows.length : Nat) : Int)) = false := decide_eq_false (by have := e1 h; omega)
      rw [h2, Bool.and_false]; rfl
    · have h2 : decide (((n : Nat) : Int) < 9) = false := decide_eq_false (by omega)
      rw [h2]; rfl
  refine b_set (i := 7) (R := rpFacts K facts) nd (ev_callR (n, near, pic, rows, facts) Gf (hr.mono (by decide)) (ea_cons (ev_var 1) (ea_cons (ev_var 2) (ea_cons (ev_var 6) ea_nil))) ⟨hnl, wk.sc.pl, hrl, rk.imp fun a c _ _ h => (hsame a c).mp h⟩) ?_
  refine b_ifF (et_is (et_notN (d := .none) (ev_ixR (Rs := [LP K (facts.map encF), Nn K]) (ev_var 7) ev_int rfl)) rfl) ?_
  refine b_set (i := 8) (R := D K (encF ⟨v, q, b, fires cs pic v b⟩)) nd (ev_ixL (ev_le (ev_ixR (Rs := [LP K (facts.map encF), Nn K]) (ev_var 7) ev_int rfl) LP_D) (ev_int_is (ev_sub (ev_lenT W (ds := rows.map encR) (ev_var 6)) ev_int) (show (((rows.map encR).length : Nat) : Int) - 1 = ((rows.length - 1 : Nat) : Int) by rw [List.length_map]; omega)) (fact_at la)) ?_
  have x0 : ∀ g : Fact, atI ((inF g).map PyData.int) 0 = some (.int (g.a : Nat)) := fun g => rfl
  have x2 : ∀ g : Fact, atI ((inF g).map PyData.int) 2 = some (.int (g.t : Nat)) := fun g => rfl
  have x3 : ∀ g : Fact, atI ((inF g).map PyData.int) 3 = some (.int g.g) := fun g => rfl
  refine b_ifF (et_is (et_w (ew_or (et_ne (ev_ixT (ev_var 8) ev_int (x0 _)) (ev_var 3)) fun _ => ew_or (et_ne (ev_ixT (ev_var 8) ev_int (x2 _)) (ev_var 4)) fun _ => ew_or1 (et_ne (ev_ixT (ev_var 8) ev_int (x3 _)) (ev_var 5)))) ?_) ?_
  · rw [fires_same hsame]
    simp
  refine b_set (i := 9) (R := D K (.tuple (facts.map encF))) nd (ev_callR (n, l, cs, pic, rows, facts) Gr (hr.mono (by decide)) (ea_cons (ev_var 0) (ea_cons (ev_var 6) ea_nil)) ⟨wk.sc.nl, wk.sc.pl, hrl, rk⟩) ?_
  refine b_ifF (et_is (et_w (ew_or (p := false) (et_not (p := true) (et_val (ev_isi W (d := .tuple (facts.map encF)) (T := "tuple") (r := true) (ev_var 9) (ev_ty W.tuple (by decide +kernel)) kTT))) fun _ => ew_or1 (et_neD (room64 hr) (ev_listT W (ev_var 9)) (ev_le (ev_ixR (Rs := [LP K (facts.map encF), Nn K]) (ev_var 7) ev_int rfl) LP_D) (shaped_facts facts) (shaped_facts facts)))) ?_) ?_
  · rw [show PyData.eqv (.list (facts.map encF)) (.list (facts.map encF)) = true by rw [PyData.eqv]; exact eqv_facts facts]
    rfl
  refine b_end (ev_is (R := B K (decide ((((facts.filter fun _ => false).map encF).length : Nat) = (0 : Int)))) (ev_eq (ev_lenL W (ev_newD (en_lcD (own := [("_law_fact_here", 10)]) (xs := facts) (it := fun x => D K (encF x)) (g := encF) (pr := fun _ => false) (js := [10]) (Γt := fun x => [some (rpScn K Cs Cw n l cs pic), some (D K (dN near)), some (D K (dT pic)), some (I K (v : Nat)), some (I K (b : Nat)), some (I K (fires near pic v b)), some (D K (dRows rows)), some (rpFacts K facts), some (D K (encF ⟨v, q, b, fires cs pic v b⟩)), some (D K (.tuple (facts.map encF))), some (D K (encF x))]) rfl nd (it_mapT (g := encF) (ev_var 9)) (blkOk_by (N := N_l_asked) (sc := defScope s_l_asked) (by decide +kernel))
    ⟨fun _ _ _ _ _ _ _ _ _ x hx => tg_name (i := 10) nd, fun _ _ _ _ _ _ _ _ _ x hx => ets_one (et_is (et_not (et_val (ev_callR (inF x, 4) Gx (hr.mono (by decide)) (ea_cons (ev_var 10) (ea_cons ev_int ea_nil)) ⟨rfl, (Nat.le_of_ble_eq_true rfl : 4 ≤ 100)⟩))) rfl), fun _ _ _ _ _ _ _ _ _ x hx h => (nomatch h), fun j h => h, ?_⟩))) ev_int) ?_) rfl
  · rw [← rk.len]; omega
  · rw [filter_false]; rfl
end
end Fr
set_option Elab.async false
set_option linter.all false
set_option maxRecDepth 100000
set_option maxHeartbeats 4000000
namespace Fr
open PySem PySem.Spec PySem.Calls L2
section
variable {P : Program} {w : World} {K : PySem.W.Frag} {mg : Str → Option Value} {base : Heap}
/-! NoPlace: made, raised by check_place, let out by long_walk -/
structure NpC (K : PySem.W.Frag) (mg : Str → Option Value) (Ce fI : Addr) : Prop where
  tx : PySem.NpX.NpTxt K mg Ce fI
  exc : ExcC K Ce
theorem NpC.xf {Ce fI : Addr} (T : NpC K mg Ce fI) : XfC K Ce := ⟨T.exc.hg, T.exc.hk, T.exc.hs, T.exc.hd⟩
/-- what the error carries, wherever it flies -/
def outX (Ce : Addr) (v : Int) (H : Hp) (E : XK) : Prop := ∀ (d : Addr) (H' : Hp), H d = none → Same H H' → H' d = some (.xd [("place", V.int v)]) → E (.ref Ce) (some d) H'
def spCheckX (K : PySem.W.Frag) (Cw Ce : Addr) : Sp := fun vs H _ E => ∃ (M : List Addr) (n : Nat) (l : List (Nat × Nat)) (cs : List (List Int)) (v : Int), Live M H ∧ AllR (Hide M H) vs [InR Cw (webG K n l cs), I K v] ∧ ¬ (0 ≤ v ∧ v < n) ∧ outX Ce v H E
theorem ok_check_placeX {f Cs Cw Ct fI Ce : Addr} {fd : FuncData} (S : ClS K Cs Cw Ct) (T : NpC K mg Ce fI) (Fn : Fun K "check_place" "check_place" s_check_place f fd) : FnOk P w K mg base (L2N.CX P w) 3 f fd ["web", "place"] (spCheckX K Cw Ce) := by
  refine okCX Fn sc_check_place (fun vs H Q E h => ?_) (fun cdv A outer s H vs Q E hr h => ?_)
  · obtain ⟨M, n, l, cs, v, _, h, _⟩ := h
    exact h.len
  · obtain ⟨M, n, l, cs, v, hl, ha, hv, hx⟩ := h
    have hb : (!(decide (0 ≤ v) && decide (v < (n : Nat)))) = true := by
      by_cases h1 : 0 ≤ v
      · have h2 : ¬ v < (n : Nat) := fun z => hv ⟨h1, z⟩
        rw [decide_eq_false h2, Bool.and_false]; rfl
      · rw [decide_eq_false h1]; rfl
    refine ⟨_, pss_one (ps_if (tc := tTb ⟨H, M, []⟩ (argsG [InR Cw (webG K n l cs), I K v] 2) [] true) (et_is (et_not (et_in ev_int (ev_var 1) (ev_fld (ev_var 0) S.tw S.w1 look_size))) hb) (pss_one (L2N.ps_raise rfl (L2N.takes_of rfl rfl rfl rfl) (pmk_np (ta := tAs ⟨H, M, []⟩ (argsG [InR Cw (webG K n l cs), I K v] 2) [] [I K v]) T.tx hr (ea_cons (ev_var 1) ea_nil)))) pss_nil), ?_⟩
    have s0 : Stt ⟨H, M, []⟩ (argsG [InR Cw (webG K n l cs), I K v] 2) [] (L2.start N_check_place vs) H := stt_start (N := N_check_place) hl ha
    refine ⟨s0, fun H2 e2 => ?_⟩
    have s2 := s0.mono e2
    refine ⟨s2, fun us H3 e3 r3 => ?_⟩
    obtain ⟨y, rfl, ry⟩ := r3.one
    have ey := I_val ry
    subst ey
    refine ⟨_, rfl, fun d hd => hx d _ ?_ ((e2.trans e3).trans (same_new hd)) upd_same⟩
    exact (e2.trans e3).free hd
def spWalkX (K : PySem.W.Frag) (Cs Cw Ce : Addr) : Sp := fun vs H _ E => ∃ (M : List Addr) (n : Nat) (l : List (Nat × Nat)) (cs : List (List Int)) (pic : List Int) (v : Int) (b : Nat), Live M H ∧ AllR (Hide M H) vs [rpScn K Cs Cw n l cs pic, I K v, I K (b : Nat)] ∧ ¬ (0 ≤ v ∧ v < n) ∧ outX Ce v H E
theorem ok_long_walkX {f fc Cs Cw Ct fI Ce : Addr} {fd fdc : FuncData} (S : ClS K Cs Cw Ct) (T : NpC K mg Ce fI) (Fc : Fun K "check_place" "check_place" s_check_place fc fdc) (gc : mg "check_place" = some (.ref fc)) (kc : PySem.W.keepIn K (.ref fc) = true) (bc : Binds K fdc ["web", "place"] [])
    (Fn : Fun K "long_walk" "long_walk" s_long_walk f fd) : FnOk P w K mg base (L2N.CX P w) 4 f fd ["scene", "place", "beats"] (spWalkX K Cs Cw Ce) := by
  refine okCX Fn sc_long_walk (fun vs H Q E h => ?_) (fun cdv A outer s H vs Q E hr h => ?_)
  · obtain ⟨M, n, l, cs, pic, v, b, _, h, _⟩ := h
    exact h.len
  · obtain ⟨M, n, l, cs, pic, v, b, hl, ha, hv, hx⟩ := h
    refine ⟨_, pss_cons (ps_expr (pe_callS (E := WE (fun cls d _ H => E cls d H)) (t := tAs ⟨H, M, []⟩ (argsG [rpScn K Cs Cw n l cs pic, I K v, I K (b : Nat)] 12) [] [InR Cw (webG K n l cs), I K v]) (ok_check_placeX S T Fc) hr rfl gc kc bc (fun σ => L2N.passAt (L2N.takes_of rfl rfl rfl rfl) σ) (ea_cons (ev_fld (ev_var 0) S.ts S.s1 look_web) (ea_cons (ev_var 1) ea_nil)))) (u := fun _ _ _ => False) ⟨fun _ _ _ _ _ _ q => q.elim⟩, ?_⟩
    have s0 : Stt ⟨H, M, []⟩ (argsG [rpScn K Cs Cw n l cs pic, I K v, I K (b : Nat)] 12) [] (L2.start N_long_walk vs) H := stt_start (N := N_long_walk) hl ha
    refine ⟨s0, fun us H3 e3 r3 => ⟨M, n, l, cs, v, fun p hp => ?_, r3, hv, fun d H' n1 e x => hx d H' (e3.free n1) (e3.trans e) x⟩⟩
    obtain ⟨o, ho⟩ := hl p hp
    exact ⟨o, e3 _ _ ho⟩
end
end Fr
set_option Elab.async false
set_option linter.all false
set_option maxRecDepth 100000
set_option maxHeartbeats 4000000
namespace Fr
open PySem PySem.Spec PySem.Calls L2
section
variable {P : Program} {w : World} {K : PySem.W.Frag} {mg : Str → Option Value} {base : Heap}
/-! _law_refused -/
def fsRefused (K : PySem.W.Frag) (Cs Cw : Addr) : FS (Nat × List (Nat × Nat) × List (List Int) × List Int × Int × Nat) := ⟨fun x => [rpScn K Cs Cw x.1 x.2.1 x.2.2.1 x.2.2.2.1, I K x.2.2.2.2.1, I K (x.2.2.2.2.2 : Nat)], fun x => ¬ (0 ≤ x.2.2.2.2.1 ∧ x.2.2.2.2.1 < (x.1 : Nat)), fun _ => B K true⟩
/-- the classes that _law_refused names -/
structure RefC (K : PySem.W.Frag) (mg : Str → Option Value) (Ce a1 a2 a3 a4 a5 a6 a7 a8 a9 b1 b2 b3 b4 b5 b6 cF : Addr) : Prop where
  g1 : mg "BadLine" = some (.ref a1)
  g2 : mg "BadPicture" = some (.ref a2)
  g3 : mg "BadPoke" = some (.ref a3)
  g4 : mg "BadRecord" = some (.ref a4)
  g5 : mg "BadRow" = some (.ref a5)
  g6 : mg "BadTable" = some (.ref a6)
  g7 : mg "NoLine" = some (.ref a7)
  g8 : mg "SizesDiffer" = some (.ref a8)
  g9 : mg "TooLong" = some (.ref a9)
  h1 : mg "NotAllSuspects" = some (.ref b1)
  h2 : mg "NotATrail" = some (.ref b2)
  h3 : mg "NotAWalk" = some (.ref b3)
  h4 : mg "SamePlace" = some (.ref b4)
  h5 : mg "SheetError" = some (.ref b5)
  h6 : mg "WebsDiffer" = some (.ref b6)
  gF : mg "FirerestError" = some (.ref cF)
  k1 : PySem.W.kitAny K (.ref Ce) ([a1, a2, a3, a4, a5, a6, a7, a8, a9].map Value.ref) = some false
  k2 : PySem.W.kitAny K (.ref Ce) ([b1, b2, b3, b4, b5, b6].map Value.ref) = some false
  k3 : PySem.W.kitOne K (.ref Ce) (.ref cF) = some true
theorem pss_ex {X : Cx} {α : Sort _} {st : List Stmt} {t : α → TS} (h : ∀ x, PSs X st (t x)) : PSs X st (fun D σ H => ∃ x, t x D σ H) := ⟨fun pins s σ H D I q => by
  obtain ⟨x, q⟩ := q
  exact (h x).run pins s σ H D I q⟩
theorem takesN {X : Cx} : L2N.Takes X (fun _ _ _ _ => False) := fun _ _ x => by
  obtain ⟨_, _, _, _, _, _, _, _, _, _, _, _, _, _, _, _, z⟩ := x
  exact z.elim
theorem hot_l_whole {f : Addr} {fd : FuncData} (W : Bi mg) (Fn : Fun K "_law_whole" "_law_whole" s_l_whole f fd) : L2H.FnH P w K mg base CX0 1 f fd ["_law_value"] ((fsWhole K).sp 1) := by
  refine okHot (fsWhole K) Fn sc_l_whole rfl fun cdv A outer s H E p M y hp => ?_
  exact b_end (ev_is (ev_and (p := true) (q := true) (ev_isi W (d := .int y) (T := "int") (r := true) (ev_var 0) (ev_ty W.int (by decide +kernel)) kII) fun _ => ev_one (ev_not (p := false) (ev_isi W (d := .int y) (T := "bool") (r := false) (ev_var 0) (ev_ty W.bool (by decide +kernel)) kIB))) rfl) rfl
theorem ok_l_refused {f fw fc Cs Cw Ct fI Ce a1 a2 a3 a4 a5 a6 a7 a8 a9 b1 b2 b3 b4 b5 b6 cF : Addr} {fd fdw fdc : FuncData} (W : Bi mg) (S : ClS K Cs Cw Ct) (T : NpC K mg Ce fI) (C : RefC K mg Ce a1 a2 a3 a4 a5 a6 a7 a8 a9 b1 b2 b3 b4 b5 b6 cF) (Fc : Fun K "check_place" "check_place" s_check_place fc fdc) (gc : mg "check_place" = some (.ref fc)) (kc : PySem.W.keepIn K (.ref fc) = true) (bc : Binds K fdc ["web", "place"] [])
    (Fw : Fun K "long_walk" "long_walk" s_long_walk fw fdw) (gw : mg "long_walk" = some (.ref fw)) (kw : PySem.W.keepIn K (.ref fw) = true) (bw : Binds K fdw ["scene", "place", "beats"] []) (Gx : DfH P w K mg base "_law_whole" 1 1 (fsWhole K))
    (Fn : Fun K "_law_refused" "_law_refused" s_l_refused f fd) : FnOk P w K mg base CX0 5 f fd ["_law_scene_here", "_law_bad", "_law_beats"] ((fsRefused K Cs Cw).sp 3) := by
  refine FS.ok (fsRefused K Cs Cw) Fn sc_l_refused rfl fun cdv A outer s H E M y hr hp => ?_
  obtain ⟨n, l, cs, pic, v, b⟩ := y
  have hp : ¬ (0 ≤ v ∧ v < (n : Nat)) := hp
  have nd := sc_l_refused.nd
  let G0 : Gam := [some (rpScn K Cs Cw n l cs pic), some (I K v), some (I K (b : Nat)), none]
  let F0 : Fm := ⟨H, M, []⟩
  let fs0 : List (Str × V) := [("place", V.int v)]
  refine ba_seq (M := fun _ _ => False) (L2N.ps_try_as (i := 3) (Wout := fun _ _ _ _ => False)
      (tb := fun W D σ H' => Stt F0 G0 [] σ H' ∧ ∀ d H2, H' d = none → Same H' H2 → H2 d = some (.xd fs0) → W (.ref Ce) (some d) σ H2)
      (ts := fun a cls d D σ H' => cls = .ref Ce ∧ ∃ dd, d = some dd ∧ tBK (Stt (F0.push (.ref dd) (Xd dd fs0)) [some (rpScn K Cs Cw n l cs pic), some (I K v), some (I K (b : Nat)), some (Vl (.ref a))] []) (fnP F0 (B K true)) D σ H')
      rfl rfl nd rfl rfl ⟨rfl, by decide, .inl T.tx.gC⟩ takesN (fun W' pn xe tk _ => ?_) (fun a oe cls d pn hz hf => ?_)) (fun D σ H' s0 ple => ?_) ⟨fun _ _ _ _ _ _ q => q.1.elim⟩
  · refine pss_imp (pss_cons (ps_expr (pe_callS (E := WE W') (t := tAs F0 G0 [] [rpScn K Cs Cw n l cs pic, I K v, I K (b : Nat)]) (ok_long_walkX S T Fc gc kc bc Fw) hr rfl gw kw bw (fun σ => L2N.passAt tk σ) (ea_cons (ev_var 0) (ea_cons (ev_var 1) (ea_cons (ev_var 2) ea_nil))))) (u := fun _ _ _ => False) ⟨fun _ _ _ _ _ _ q => q.elim⟩) fun D σ H' q => ?_
    obtain ⟨s1, k⟩ := q
    refine ⟨s1, fun us H3 e3 r3 => ⟨M, n, l, cs, pic, v, b, fun p hp => ?_, ?_, hp, fun d H2 n1 e x => k d H2 (e3.free n1) (e3.trans e) x⟩⟩
    · have := (s1.mono e3).live (p := p) (List.mem_append_right _ hp)
      exact this
    · exact r3
  · refine pss_cond fun ec => ?_
    subst ec
    refine pss_ex fun dd => pss_cond fun ed => ?_
    subst ed
    have hot : L2H.HotC (((cxOf CX0 P w K mg base N_l_refused "_law_refused" (defScope s_l_refused) f cdv A outer s H E).nox).suite a ((a, oe) :: pn)) := by
      obtain ⟨vs, hv⟩ := hf
      exact ⟨(a, oe), ⟨rfl, vs, hv, hz.2.2 vs hv⟩, List.mem_cons_self⟩
    have hr1 := hr.mono (show 1 ≤ 4 by decide)
    have hrh : L2H.RoomH 1 (((cxOf CX0 P w K mg base N_l_refused "_law_refused" (defScope s_l_refused) f cdv A outer s H E).nox).suite a ((a, oe) :: pn)).A := ⟨hr1.dp, hr1.un⟩
    have hI : ∀ G : Hp, (I K v).r G (V.int v) := fun _ => Dp.int v
    refine b_ifF (et_val (ev_isEx W T.exc (hz := hz.zc) (hf := hf) (ev_var 3) (ev_tupR (ea_cons (ev_glo C.g1) (ea_cons (ev_glo C.g2) (ea_cons (ev_glo C.g3) (ea_cons (ev_glo C.g4) (ea_cons (ev_glo C.g5) (ea_cons (ev_glo C.g6) (ea_cons (ev_glo C.g7) (ea_cons (ev_glo C.g8) (ea_cons (ev_glo C.g9) ea_nil))))))))) (Nat.le_of_ble_eq_true rfl)) C.k1)) ?_
    refine b_ifF (et_val (ev_isEx W T.exc (hz := hz.zc) (hf := hf) (ev_var 3) (ev_tupR (ea_cons (ev_glo C.h1) (ea_cons (ev_glo C.h2) (ea_cons (ev_glo C.h3) (ea_cons (ev_glo C.h4) (ea_cons (ev_glo C.h5) (ea_cons (ev_glo C.h6) ea_nil)))))) (Nat.le_of_ble_eq_true rfl)) C.k2)) ?_
    exact b_end (ev_and (p := true) (q := true) (ev_callH (R := B K true) v Gx hrh hot (ea_cons (ev_xf T.xf T.tx.noN hz.zc hf (ev_var 3) rfl hI) ea_nil) trivial) fun _ => ev_is (R := B _ (decide (v = v) && true)) (ev_and (q := true) (ev_eq (ev_xf T.xf T.tx.noN hz.zc hf (ev_var 3) rfl hI) (ev_var 1)) fun _ => ev_one (ev_isEx1 W T.exc (hz := hz.zc) (hf := hf) (ev_var 3) (ev_glo C.gF) C.k3)) (by rw [decide_eq_true rfl]; rfl)) rfl
  · refine ⟨s0, fun d H2 hd e x => ⟨true, T.tx.te, fun _ a ha => ⟨rfl, d, rfl, ?_, ?_⟩, fun q => Bool.noConfusion q⟩⟩
    · have s2 := s0.mono e
      have hx : (Xd d fs0).r (Hid F0 [] H2) (.ref d) := by
        show Hide _ _ d = _
        rw [hide_out (s0.new hd)]
        exact x
      exact (s2.push hx).set (R := Vl (.ref a)) rfl 3
    · exact ⟨fun _ _ z => z.elim, ple.2.1, fun _ _ z => z.elim, fun _ _ z => z.elim⟩
end
end Fr
set_option linter.all false
/-! Math10: a web and its neighbours (plain Lean). -/
namespace Fr
theorem sc_of {n : Nat} {ls : List (Nat × Nat)} {cs : List (List Int)} {pic : List Int} (hl : LinesOk n ls) (ha : AroOf n ls cs) (hp : PicOk n pic) : Sc n cs pic := by
  refine ⟨ha.len, hp.len, hp.st, fun v w h => ?_, fun v w hv hw => ?_⟩
  · obtain ⟨u, e, h2⟩ := (ha.mem v w).mp h
    subst e
    rcases h2 with h | h
    · have := hl.lt _ h
      have h1 : v < u ∧ u < n := this
      omega
    · have := hl.lt _ h
      have h1 : u < v ∧ v < n := this
      omega
  · rw [ha.mem, ha.mem]
    constructor
    · rintro ⟨u, e, h⟩
      have e : w = u := by omega
      subst e
      exact ⟨v, rfl, h.symm⟩
    · rintro ⟨u, e, h⟩
      have e : v = u := by omega
      subst e
      exact ⟨w, rfl, h.symm⟩
theorem pf_of {n : Nat} {ls : List (Nat × Nat)} {near : List (List Int)} {pic : List Int} (hl : LinesOk n ls) (hn : NearOf n ls near) (hp : PicOk n pic) (hz : n ≤ 100) : Pf near pic := by
  have pl := hp.len
  refine ⟨hn.len.trans pl.symm, hp.st, fun row hr w hw => ?_, by omega, fun row hr => ?_⟩
  · obtain ⟨v, hv⟩ := List.mem_iff_getElem?.mp hr
    have e : near.getD v [] = row := by rw [List.getD_eq_getElem?_getD, hv]; rfl
    rw [← e] at hw
    obtain ⟨u, e, h2⟩ := (hn.mem v w).mp hw
    subst e
    rcases h2 with h | h
    · have h1 : v < u ∧ u < n := hl.lt _ h
      omega
    · have h1 : u < v ∧ v < n := hl.lt _ h
      omega
  · have h1 := hn.sz row hr
    have h2 := hl.le
    omega
theorem same_of {n : Nat} {ls : List (Nat × Nat)} {cs near : List (List Int)} (ha : AroOf n ls cs) (hn : NearOf n ls near) : SameNb cs near := fun v w => (ha.mem v w).trans (hn.mem v w).symm
end Fr
set_option Elab.async false
set_option linter.all false
set_option maxRecDepth 100000
set_option maxHeartbeats 4000000
namespace Fr
open PySem PySem.Spec PySem.Calls L2
section
variable {P : Program} {w : World} {K : PySem.W.Frag} {mg : Str → Option Value} {base : Heap}
/-! webs and scenes made; _law_wide -/
theorem frz_dT (pic : List Int) : frz 1 (dT pic) = dT pic := by
  show PyData.tuple ((pic.map PyData.int).map (frz 0)) = .tuple (pic.map .int)
  rw [List.map_map]
  congr 1
theorem fit_dT {pic : List Int} (h : pic.length ≤ 100000) : fit 1 (dT pic) := by
  refine ⟨by rw [List.length_map]; exact h, fun x hx => ?_⟩
  obtain ⟨i, _, rfl⟩ := List.mem_map.mp hx
  rfl
theorem fit_dP (p : Nat × Nat) : fit 1 (dP p) := ⟨Nat.le_of_ble_eq_true rfl, fun x hx => by
  rcases List.mem_cons.mp hx with z | z
  · subst z; rfl
  · rcases List.mem_cons.mp z with z | z
    · subst z; rfl
    · cases z⟩
theorem frz_dLs (ls : List (Nat × Nat)) : frz 2 (dLs ls) = dLT ls := by
  show PyData.tuple ((ls.map dP).map (frz 1)) = .tuple (ls.map dP)
  rw [List.map_map]
  congr 1
theorem fit_dLs {ls : List (Nat × Nat)} (h : ls.length ≤ 100000) : fit 2 (dLs ls) := ⟨by rw [List.length_map]; exact h, fun x hx => by
  obtain ⟨p, _, rfl⟩ := List.mem_map.mp hx
  exact fit_dP p⟩
theorem web_arg {n : Nat} {ls : List (Nat × Nat)} (h : LinesOk n ls) (hn : n ≤ 60) : WebArg n ls (dLs ls) := ⟨⟨h, hn⟩, fit_dLs (by have := h.le; omega), frz_dLs ls⟩
theorem scn_arg {n : Nat} {pic : List Int} (h : PicOk n pic) (hn : n ≤ 60) : ScnArg n pic (dT pic) := ⟨h, hn, fit_dT (by rw [h.len]; omega), frz_dT pic⟩
end
section
variable {X : Cx} {F : Fm} {Γ : Gam} {Δ : Del} {a b : Expr} {pos p : Pos} {Cw Cs : Addr} {n : Nat} {ls : List (Nat × Nat)} {pic : List Int}
theorem ev_web (G : Dc X.prog X.w X.K X.mg X.base "Web" Cw 4 3 [] (isWeb X.K)) (hr : Room 5 X.A) (h1 : EV X F Γ Δ a (I X.K (n : Nat))) (h2 : EV X F Γ Δ b (D X.K (dLs ls))) (hl : LinesOk n ls) (hn : n ≤ 60) (hg : Gl X "Web" := by rfl)
    (he : starEach (a :: [b]) X.env = (false, eval a X.env) :: starEach [b] X.env := by rfl) (he2 : starEach (b :: []) X.env = (false, eval b X.env) :: starEach [] X.env := by rfl) (hpl : (backTo pos (starEach [b] X.env)).any (·.1) = false := by rfl) : EV X F Γ Δ (.Call (.Name "Web" p) [a, b] [] pos) (Exi fun y : WebCh n ls => InR Cw (webG X.K n y.1.1 y.1.2)) :=
  ev_makeE G hr (ea_cons h1 (ea_cons h2 ea_nil he2) he) rfl (fun G vs h => ⟨(n, ls, dLs ls), by rw [List.append_nil]; exact h, web_arg hl hn, fun G' v r => webF_E G' v r⟩) hg (by decide) he hpl
theorem ev_scn {l : List (Nat × Nat)} {cs : List (List Int)} (G : Dc X.prog X.w X.K X.mg X.base "Scene" Cs 3 3 [] (isScn X.K Cw)) (hr : Room 4 X.A) (h1 : EV X F Γ Δ a (InR Cw (webG X.K n l cs))) (h2 : EV X F Γ Δ b (D X.K (dT pic))) (hp : PicOk n pic) (hn : n ≤ 60) (hg : Gl X "Scene" := by rfl)
    (he : starEach (a :: [b]) X.env = (false, eval a X.env) :: starEach [b] X.env := by rfl) (he2 : starEach (b :: []) X.env = (false, eval b X.env) :: starEach [] X.env := by rfl) (hpl : (backTo pos (starEach [b] X.env)).any (·.1) = false := by rfl) : EV X F Γ Δ (.Call (.Name "Scene" p) [a, b] [] pos) (rpScn X.K Cs Cw n l cs pic) :=
  ev_makeE G hr (ea_cons h1 (ea_cons h2 ea_nil he2) he) rfl (fun G vs h => ⟨(n, l, cs, pic, dT pic), by rw [List.append_nil]; exact h, scn_arg hp hn, fun G' v r => r⟩) hg (by decide) he hpl
theorem ev_scnE (G : Dc X.prog X.w X.K X.mg X.base "Scene" Cs 3 3 [] (isScn X.K Cw)) (hr : Room 4 X.A) (h1 : EV X F Γ Δ a (Exi fun y : WebCh n ls => InR Cw (webG X.K n y.1.1 y.1.2))) (h2 : EV X F Γ Δ b (D X.K (dT pic))) (hp : PicOk n pic) (hn : n ≤ 60) (hg : Gl X "Scene" := by rfl)
    (he : starEach (a :: [b]) X.env = (false, eval a X.env) :: starEach [b] X.env := by rfl) (he2 : starEach (b :: []) X.env = (false, eval b X.env) :: starEach [] X.env := by rfl) (hpl : (backTo pos (starEach [b] X.env)).any (·.1) = false := by rfl) : EV X F Γ Δ (.Call (.Name "Scene" p) [a, b] [] pos) (Exi fun y : WebCh n ls => rpScn X.K Cs Cw n y.1.1 y.1.2 pic) :=
  ev_makeE G hr (ea_cons h1 (ea_cons h2 ea_nil he2) he) rfl (fun G vs h => by
    match vs, h with
    | [u, w], h =>
      obtain ⟨⟨y, h1⟩, h2, _⟩ := h
      exact ⟨(n, y.1.1, y.1.2, pic, dT pic), ⟨h1, h2, trivial⟩, scn_arg hp hn, fun G' v r => ⟨y, r⟩⟩) hg (by decide) he hpl
end
section
variable {P : Program} {w : World} {K : PySem.W.Frag} {mg : Str → Option Value} {base : Heap}
theorem even_shots {near : List (List Int)} {pic : List Int} {t : Nat} (ht : t ≤ 1000) (hz : pic.length ≤ 100) : Even (shotsL near pic (t + 1)) pic.length := by
  have hl : (shotsL near pic (t + 1)).length = t + 1 := by unfold shotsL; rw [List.length_map, List.length_range]
  refine ⟨by omega, by omega, fun p hp => ?_, by omega⟩
  unfold shotsL at hp
  obtain ⟨i, _, rfl⟩ := List.mem_map.mp hp
  exact runL_len i
structure WideArg (ns : List Int) (g : Scn) (b : Nat) : Prop where
  nl : ns.length < 2 ^ 40
  ok : SceneOk 7 g
  pos : 0 < b
  hb : b ≤ 1000
def fsWide (K : PySem.W.Frag) : FS (List Int × Scn × Nat) := ⟨fun x => [D K (dL x.1), D K (dSc x.2.1), I K (x.2.2 : Nat)], fun x => WideArg x.1 x.2.1 x.2.2, fun _ => B K true⟩
theorem rg3' : ∀ n : Nat, n < 15 → ((3 : Int) ≠ 0 ∧ (3 : Int).natAbs < 1073741824 ∧ Builtin.Range.small 0 (n : Int) 3 = true ∧ Builtin.Range.rangeSize 0 (n : Int) 3 = (((n + 2) / 3 : Nat) : Int)) := by decide +kernel
theorem rg3 {n : Nat} (h : n ≤ 14) : RgC 0 (n : Nat) 3 ((n + 2) / 3) := rg3' n (by omega)
theorem ok_l_wide {f Cs Cw Ct : Addr} {fd : FuncData} (W : Bi mg) (Gm : Df P w K mg base "_law_mixed" 1 1 (fsMixed K)) (Gsc : Df P w K mg base "_law_scene" 2 3 (fsScene K)) (Gn : Df P w K mg base "_law_near" 1 2 (fsNear K)) (Gw : Dc P w K mg base "Web" Cw 4 3 [] (isWeb K)) (Gs : Dc P w K mg base "Scene" Cs 3 3 [] (isScn K Cw)) (Gc : Df P w K mg base "_law_counts" 1 1 (fsCounts K)) (Gf : Df P w K mg base "_law_film" 2 4 (fsFilm K)) (Ga : Df P w K mg base "_law_asked" 9 6 (fsAsked K Cs Cw)) (Gr : Df P w K mg base "_law_refused" 5 3 (fsRefused K Cs Cw))
    (Fn : Fun K "_law_wide" "_law_wide" s_l_wide f fd) : FnOk P w K mg base CX0 10 f fd ["_law_script", "_law_drawn", "_law_beats"] ((fsWide K).sp 3) := by
  refine FS.ok (fsWide K) Fn sc_l_wide rfl fun cdv A outer s H E M y hr hp => ?_
  obtain ⟨ns, g, b⟩ := y
  have hp : WideArg ns g b := hp
  obtain ⟨hnl, hok, hb0, hb⟩ := hp
  have nd := sc_l_wide.nd
  refine b_setE (i := 3) (Q := fun y : {y : (Nat × List (Nat × Nat)) × List Int × List (List Nat) // MixRes y} => D K (.list [.int (y.1.1.1 : Nat), dLs y.1.1.2, dT y.1.2.1, dNums y.1.2.2])) nd (ev_call (S := fsMixed K) (As := [LR [D K (dSc g), Exi fun y : {y : Scn // SceneOk 7 y} => D K (dSc y.1)]]) Gm (hr.mono (by decide)) (ea_cons (ev_new (en_lst (ea_cons (ev_var 1) (ea_cons (ev_callR (ns, 3, 7) Gsc (hr.mono (by decide)) (ea_cons (ev_var 0) (ea_cons (ev_int_is ev_int rfl) (ea_cons (ev_int_is ev_int rfl) ea_nil))) (show ns.length < 2 ^ 40 ∧ 3 < 50 ∧ 0 < 7 ∧ 7 ≤ 7 from ⟨hnl, by decide, by decide, by decide⟩)) ea_nil)) (Nat.le_of_ble_eq_true rfl))) ea_nil) ⟨rfl, fun G vs h => ?_⟩) fun y => ?_
  · match vs, h with
    | [u], h =>
      obtain ⟨⟨a, xs, rfl, h1, h2⟩, _⟩ := h
      match xs, h2 with
      | [x, y], h2 =>
        obtain ⟨h3, ⟨⟨g2, ok2⟩, h4⟩, _⟩ := h2
        refine ⟨[g, g2], ⟨LP_D G _ ⟨a, [x, y], rfl, h1, .cons h3 (.cons h4 .nil)⟩, trivial⟩, ⟨fun j hj => ?_, Nat.le_of_ble_eq_true rfl⟩, fun G' v z => z⟩
        match j, hj with
        | 0, _ => exact hok
        | 1, _ => exact ok2
  · obtain ⟨⟨⟨n, ls⟩, pic, nums⟩, mr⟩ := y
    obtain ⟨hn, hls, hpc⟩ := mr
    show BK _ _ [some (D K (dL ns)), some (D K (dSc g)), some (I K (b : Nat)), some (D K (.list [.int (n : Nat), dLs ls, dT pic, dNums nums])), none, none, none, none] _ _ _
    have hn : n ≤ 14 := hn
    have hls : LinesOk n ls := hls
    have hpc : PicOk n pic := hpc
    have pl := hpc.len
    refine b_setE (i := 4) (Q := fun cs : {cs : List (List Int) // NearOf n ls cs} => D K (dN cs.1)) nd (ev_callR (n, ls) Gn (hr.mono (by decide)) (ea_cons (ev_ixL (ev_var 3) ev_int rfl) (ea_cons (ev_ixL (ev_var 3) ev_int rfl) ea_nil)) ⟨hls, by show n ≤ 100; omega⟩) fun near => ?_
    obtain ⟨near, hnear⟩ := near
    refine b_setE (i := 5) (Q := fun y : WebCh n ls => rpScn K Cs Cw n y.1.1 y.1.2 pic) nd (ev_scnE Gs (hr.mono (by decide)) (ev_web Gw (hr.mono (by decide)) (ev_ixL (ev_var 3) ev_int rfl) (ev_ixL (ev_var 3) ev_int rfl) hls (by omega)) (ev_ixL (ev_var 3) ev_int rfl) hpc (by omega)) fun y => ?_
    obtain ⟨⟨l, cs⟩, haro⟩ := y
    have haro : AroOf n ls cs := haro
    have pf := pf_of hls hnear hpc (by omega)
    have sc := sc_of hls haro hpc
    refine b_set (i := 6) (R := LP K ((sumsL near pic b).map .int)) nd (ev_callR (shotsL near pic (b + 1), pic.length) Gc (hr.mono (by decide)) (ea_cons (ev_callR (near, pic, b) Gf (hr.mono (by decide)) (ea_cons (ev_var 4) (ea_cons (ev_ixL (ev_var 3) ev_int rfl) (ea_cons (ev_var 2) (ea_cons (ev_lstD (ds := []) ea_nil) ea_nil)))) ⟨pf, hb⟩) ea_nil) (even_shots hb (by omega)) (by show LP K ((countsL (shotsL near pic (b + 1))).map .int) = _; rw [counts_sums])) ?_
    refine b_for rfl PassesOwn.never (it_rng3 W ev_int (ev_ixL (ev_var 3) ev_int rfl) ev_int (rg3 hn)) (fun _ => [some (D K (dL ns)), some (D K (dSc g)), some (I K (b : Nat)), some (D K (.list [.int (n : Nat), dLs ls, dT pic, dNums nums])), some (D K (dN near)), some (rpScn K Cs Cw n l cs pic), some (LP K ((sumsL near pic b).map .int)), none]) (fun _ => []) (fun _ t => [some (D K (dL ns)), some (D K (dSc g)), some (I K (b : Nat)), some (D K (.list [.int (n : Nat), dLs ls, dT pic, dNums nums])), some (D K (dN near)), some (rpScn K Cs Cw n l cs pic), some (LP K ((sumsL near pic b).map .int)), some (I K ((3 * t : Nat) : Int))]) [7] rfl (Le.refl _)
      (fun gv gR i t h => ?_) (fun gv gR i t h => ?_) ?_
    · have e : ((3 * t : Nat) : Int) = 0 + (t : Nat) * 3 := by omega
      rw [e]
      exact tg_name (i := 7) nd
    · obtain ⟨ht, rfl⟩ := range_at h
      have ht : t < (n + 2) / 3 := ht
      have hv : 3 * t < n := by omega
      refine b_ifF (et_is (et_not (et_val (ev_callR (R := B K true) (n, l, cs, near, pic, 3 * t, b) Ga hr (ea_cons (ev_var 5) (ea_cons (ev_var 4) (ea_cons (ev_ixL (ev_var 3) ev_int rfl) (ea_cons (ev_var 7) (ea_cons (ev_var 2) (ea_cons (ev_ixL (ev_le (ev_var 6) LP_D) (ev_var 7) ?_) ea_nil)))))) ⟨⟨sc, by show n ≤ 20; omega, hv, Nat.lt_of_le_of_lt hb (by decide)⟩, hb0, hnear.len, same_of haro hnear⟩))) rfl) ?_
      · have e : (sumsL near pic b).getD (3 * t) 0 = fires near pic (3 * t) b := sumsL_get (by omega)
        rw [← e]
        exact atI_mapN (f := PyData.int) (l := sumsL near pic b) (d := 0) (by unfold sumsL; rw [List.length_map, List.length_range]; omega)
      · exact b_nil fun σ H s => s.le (.keep (.keep (.keep (.keep (.keep (.keep (.keep (.drop .nil))))))))
    · exact b_end (ev_callR (R := B K true) (n, l, cs, pic, (n : Int), b) Gr (hr.mono (by decide)) (ea_cons (ev_var 5) (ea_cons (ev_ixL (ev_var 3) ev_int rfl) (ea_cons (ev_var 2) ea_nil))) (by show ¬ (0 ≤ (n : Int) ∧ (n : Int) < (n : Nat)); omega)) rfl
end
end Fr
set_option Elab.async false
set_option linter.all false
set_option maxRecDepth 100000
set_option maxHeartbeats 4000000
namespace Fr
open PySem PySem.Spec PySem.Calls L2
section
variable {P : Program} {w : World} {K : PySem.W.Frag} {mg : Str → Option Value} {base : Heap}
/-! law -/
def lawSizes : List Int := [10 ^ 40 + 1, 130, 5, 40, 7, 3, 8, 6]
theorem lawSizes_ok : Sizes lawSizes := ⟨by decide, by decide⟩
def mirS (s : Int) : Int := if s = 1 then 2 else if s = 2 then 1 else 0
theorem mir_at {s : Int} (h : s = 0 ∨ s = 1 ∨ s = 2) : atI ([0, 2, 1].map PyData.int) s = some (.int (mirS s)) := by
  rcases h with rfl | rfl | rfl <;> rfl
theorem mir_ok {n : Nat} {pic : List Int} (h : PicOk n pic) : PicOk n (pic.map mirS) := ⟨by rw [List.length_map]; exact h.len, fun s hs => by
  obtain ⟨x, hx, rfl⟩ := List.mem_map.mp hs
  rcases h.st x hx with rfl | rfl | rfl
  · exact .inl rfl
  · exact .inr (.inr rfl)
  · exact .inr (.inl rfl)⟩
def fsLaw (K : PySem.W.Frag) : FS (List Int) := ⟨fun ns => [D K (dL ns)], fun ns => ns.length < 2 ^ 40, fun _ => B K true⟩
/-- the default of Web's lines -/
def Dv0 (K : PySem.W.Frag) (dv : V) : Prop := ∀ G, (D K (.tuple [])).r G dv
theorem ok_law {f Cs Cw Ct : Addr} {fd : FuncData} {dv : V} (W : Bi mg) (hdv : Dv0 K dv) (Gce : Df P w K mg base "_law_cell" 1 2 (fsCell K)) (Gdi : Df P w K mg base "_law_digits" 1 2 (fsDigits K)) (Gsc : Df P w K mg base "_law_scene" 2 3 (fsScene K)) (Gn : Df P w K mg base "_law_near" 1 2 (fsNear K)) (Gw : Dc P w K mg base "Web" Cw 4 3 [] (isWeb K)) (Gw0 : Dc P w K mg base "Web" Cw 4 3 [dv] (isWeb K)) (Gs : Dc P w K mg base "Scene" Cs 3 3 [] (isScn K Cw)) (Grd : Df P w K mg base "_law_round" 2 4 (fsRound K)) (Gfa : Df P w K mg base "_law_far" 2 2 (fsFar K)) (Gpo : Df P w K mg base "_law_power" 1 1 (fsPower K))
    (Gl0 : Df P w K mg base "long_walk" 2 3 (fsWalk0 K Cs Cw)) (Gc : Df P w K mg base "_law_counts" 1 1 (fsCounts K)) (Gf : Df P w K mg base "_law_film" 2 4 (fsFilm K)) (Ga : Df P w K mg base "_law_asked" 9 6 (fsAsked K Cs Cw)) (Gr : Df P w K mg base "_law_refused" 5 3 (fsRefused K Cs Cw)) (Gwi : Df P w K mg base "_law_wide" 10 3 (fsWide K))
    (Fn : Fun K "law" "law" s_law f fd) : FnOk P w K mg base CX0 11 f fd ["_law_script"] ((fsLaw K).sp 1) := by
  refine FS.ok (fsLaw K) Fn sc_law rfl fun cdv A outer s H E M y hr hp => ?_
  have hnl : y.length < 2 ^ 40 := hp
  generalize hy : y = ns at hnl ⊢
  have nd := sc_law.nd
  refine b_setE (i := 1) (Q := fun r : Digs lawSizes => LP K (r.1.map .int)) nd (ev_call (S := fsDigits K) (As := [Exi fun n : Int => I K n, D K (dL lawSizes)]) Gdi (hr.mono (by decide)) (ea_cons (ev_callR (ns, 2) Gce (hr.mono (by decide)) (ea_cons (ev_var 0) (ea_cons (ev_int_is ev_int rfl) ea_nil)) (show 2 < 100 ∧ ns.length < 2 ^ 40 from ⟨by decide, hnl⟩)) (ea_cons (ev_lstD (ds := lawSizes.map PyData.int) (ea_cons (ev_int_is (ev_add (ev_pow ev_int ev_int ⟨by decide, by decide, by decide⟩) ev_int) rfl) (ea_cons ev_int (ea_cons ev_int (ea_cons ev_int (ea_cons ev_int (ea_cons ev_int (ea_cons ev_int (ea_cons ev_int ea_nil))))))))) ea_nil)) ⟨rfl, fun G vs ha => ?_⟩) fun r => ?_
  · obtain ⟨v, w, rfl, ⟨n, h1⟩, h2⟩ := ha.two
    exact ⟨(n, lawSizes), ⟨h1, h2, trivial⟩, lawSizes_ok, fun _ _ z => z⟩
  obtain ⟨r, hrl, hrd⟩ := r
  have hrl : r.length = 8 := hrl
  have fig : ∀ (i : Nat) (s : Int), lawSizes[i]? = some s → 0 ≤ r.getD i 0 ∧ r.getD i 0 < s := fun i s h => by
    have hi := (List.getElem?_eq_some_iff.mp h).1
    have hi : i < 8 := hi
    have e : r[i]? = some (r.getD i 0) := getD_get (by omega)
    obtain ⟨s', h1, h2, h3⟩ := hrd i _ e
    rw [h] at h1
    cases h1
    exact ⟨h2, h3⟩
  have rix : ∀ i : Nat, i < 8 → atI (r.map PyData.int) (i : Int) = some (.int (r.getD i 0)) := fun i hi => atI_mapN (f := PyData.int) (l := r) (d := 0) (by omega)
  have g6 := rix 6 (by decide)
  obtain ⟨m, hm, hm0, hm7⟩ : ∃ m : Nat, (5 : Int) + 2 * (if decide (r.getD 6 0 = 0) = true then 1 else 0) = (m : Int) ∧ 0 < m ∧ m ≤ 7 := by
    by_cases h : r.getD 6 0 = 0
    · exact ⟨7, by rw [if_pos (decide_eq_true h)]; rfl, by decide, by decide⟩
    · exact ⟨5, by rw [if_neg (by simpa using h)]; rfl, by decide, by decide⟩
  refine b_setE (i := 2) (Q := fun y : {y : Scn // SceneOk m y} => D K (dSc y.1)) nd (ev_callR (ns, 0, m) Gsc (hr.mono (by decide)) (ea_cons (ev_var 0) (ea_cons (ev_int_is ev_int rfl) (ea_cons (ev_int_is (ev_add ev_int (ev_mul ev_int (ev_intB W (ev_eq (ev_ixL (ev_le (ev_var 1) LP_D) ev_int g6) ev_int)) (.inr (by split <;> decide)))) hm) ea_nil))) (show ns.length < 2 ^ 40 ∧ 0 < 50 ∧ 0 < m ∧ m ≤ 7 from ⟨hnl, by decide, hm0, hm7⟩)) fun g => ?_
  obtain ⟨⟨⟨n, ls⟩, pic⟩, so⟩ := g
  have so : SceneOk m ((n, ls), pic) := so
  have hn0 : 0 < n := so.dr.pos
  have hn7 : n ≤ 7 := Nat.le_trans so.dr.le hm7
  have hls : LinesOk n ls := so.dr.ok
  have hfew : ls.length ≤ 21 := so.dr.few
  have hpc : PicOk n pic := so.pc
  have so7 : SceneOk 7 ((n, ls), pic) := ⟨⟨hn0, hn7, hls, hfew⟩, hpc⟩
  have pl := hpc.len
  show BK _ _ [some (D K (dL ns)), some (LP K (r.map .int)), some (D K (.list [.int (n : Nat), dLs ls, dT pic])), none, none, none, none, none, none, none, none, none, none, none] _ _ _
  refine b_setE (i := 3) (Q := fun cs : {cs : List (List Int) // NearOf n ls cs} => D K (dN cs.1)) nd (ev_callR (n, ls) Gn (hr.mono (by decide)) (ea_cons (ev_ixL (ev_var 2) ev_int rfl) (ea_cons (ev_ixL (ev_var 2) ev_int rfl) ea_nil)) ⟨hls, by show n ≤ 100; omega⟩) fun near => ?_
  obtain ⟨near, hnear⟩ := near
  refine b_setE (i := 4) (Q := fun y : WebCh n ls => InR Cw (webG K n y.1.1 y.1.2)) nd (ev_web Gw (hr.mono (by decide)) (ev_ixL (ev_var 2) ev_int rfl) (ev_ixL (ev_var 2) ev_int rfl) hls (by omega)) fun y => ?_
  obtain ⟨⟨l, cs⟩, haro⟩ := y
  have haro : AroOf n ls cs := haro
  have pf := pf_of hls hnear hpc (by omega)
  have sc := sc_of hls haro hpc
  have same := same_of haro hnear
  refine b_set (i := 5) (R := rpScn K Cs Cw n l cs pic) nd (ev_scn Gs (hr.mono (by decide)) (ev_var 4) (ev_ixL (ev_var 2) ev_int rfl) hpc (by omega)) ?_
  refine b_setE (i := 6) (Q := fun t : {t : Nat × Nat // TurnOk near pic t} => rpTurn K near pic t.1) nd (ev_callR (near, pic) Grd (hr.mono (by decide)) (ea_cons (ev_var 3) (ea_cons (ev_ixL (ev_var 2) ev_int rfl) (ea_cons ev_int (ea_cons (ev_lstD (ds := []) ea_nil) ea_nil)))) ⟨pf, by show pic.length ≤ 7; omega⟩) fun t => ?_
  obtain ⟨t, ht⟩ := t
  have f3 := fig 3 40 rfl
  obtain ⟨b, hb⟩ : ∃ b : Nat, r.getD 3 0 + 1 = (b : Int) := ⟨(r.getD 3 0 + 1).toNat, by omega⟩
  have hb0 : 0 < b := by omega
  have hb40 : b ≤ 40 := by omega
  refine b_set (i := 7) (R := I K (b : Nat)) nd (ev_int_is (ev_add (ev_ixL (ev_le (ev_var 1) LP_D) ev_int (rix 3 (by decide))) ev_int) hb) ?_
  have farE : ∀ {X : Cx} {F : Fm} {Γ : Gam} {Δ : Del} {e : Expr} {pos : Pos} {j : Nat} {p1 : Pos} {k : Nat}, EV X F Γ Δ e (LR [D X.K (dT (runL near pic k)), LP X.K ((sumsL near pic k).map .int)]) → EV X F Γ Δ (.Subscript e (.Constant (.int 1) j p1) pos) (LP X.K ((sumsL near pic k).map .int)) := fun h => ev_ixR h ev_int rfl
  refine b_set (i := 8) (R := LP K ((sumsL near pic b).map .int)) nd (farE (ev_callR (near, pic, t, b) Gfa (hr.mono (by decide)) (ea_cons (ev_var 6) (ea_cons (ev_var 7) ea_nil)) ⟨ht, by show pic.length ≤ 7; omega⟩)) ?_
  have sumAt : ∀ (q : List Int) (hq : q.length = n) (k v : Nat), v < n → atI ((sumsL near q k).map PyData.int) (v : Int) = some (.int (fires near q v k)) := fun q hq k v hv => by
    have e : (sumsL near q k).getD v 0 = fires near q v k := sumsL_get (by omega)
    rw [← e]
    exact atI_mapN (f := PyData.int) (l := sumsL near q k) (d := 0) (by unfold sumsL; rw [List.length_map, List.length_range]; omega)
  have askA : ∀ (q : List Int) (hq : PicOk n q) (v k : Nat), v < n → 0 < k → k < 2 ^ 140 → AskArg n cs near q v k := fun q hq v k hv hk hk2 => ⟨⟨sc_of hls haro hq, by omega, hv, hk2⟩, hk, hnear.len, same⟩
  have hb2 : b < 2 ^ 140 := Nat.lt_of_le_of_lt hb40 (by decide)
  refine b_for rfl PassesOwn.never (it_rng1 (n := n) W (ev_ixL (ev_var 2) ev_int rfl) rfl (by omega)) (fun _ => [some (D K (dL ns)), some (LP K (r.map .int)), some (D K (.list [.int (n : Nat), dLs ls, dT pic])), some (D K (dN near)), some (InR Cw (webG K n l cs)), some (rpScn K Cs Cw n l cs pic), some (rpTurn K near pic t), some (I K (b : Nat)), some (LP K ((sumsL near pic b).map .int)), none, none, none, none, none]) (fun _ => []) (fun _ v => [some (D K (dL ns)), some (LP K (r.map .int)), some (D K (.list [.int (n : Nat), dLs ls, dT pic])), some (D K (dN near)), some (InR Cw (webG K n l cs)), some (rpScn K Cs Cw n l cs pic), some (rpTurn K near pic t), some (I K (b : Nat)), some (LP K ((sumsL near pic b).map .int)), some (I K (v : Nat)), none, none, none, none]) [9] rfl (Le.refl _)
    (fun gv gR i v h => tg_name (i := 9) nd) (fun gv gR i v h => ?_) ?_
  · obtain ⟨hv, rfl⟩ := range_at h
    refine b_ifF (et_is (et_not (et_val (ev_callR (R := B K true) (n, l, cs, near, pic, v, b) Ga (hr.mono (by decide)) (ea_cons (ev_var 5) (ea_cons (ev_var 3) (ea_cons (ev_ixL (ev_var 2) ev_int rfl) (ea_cons (ev_var 9) (ea_cons (ev_var 7) (ea_cons (ev_ixL (ev_le (ev_var 8) LP_D) (ev_var 9) (sumAt pic pl b v hv)) ea_nil)))))) (askA pic hpc v b hv hb0 hb2)))) rfl) ?_
    refine b_ifF (et_is (et_neD (room64 hr) (ev_callR (R := D K (.tuple [])) (n, l, cs, pic, v) Gl0 (hr.mono (by decide)) (ea_cons (ev_var 5) (ea_cons (ev_var 9) (ea_cons ev_int ea_nil))) hv) (ev_tupD (ds := []) ea_nil) rfl rfl) ?_) ?_
    · simp [PyData.eqv, PyData.eqvAll]
    · exact b_nil fun σ H s => s.le (.keep (.keep (.keep (.keep (.keep (.keep (.keep (.keep (.keep (.drop (.drop (.drop (.drop (.drop .nil))))))))))))))
  · have f0 := fig 0 (10 ^ 40 + 1) rfl
    have f1 := fig 1 130 rfl
    have f2 := fig 2 5 rfl
    have f4 := fig 4 7 rfl
    have f5 := fig 5 3 rfl
    obtain ⟨n1, hn1⟩ : ∃ n1 : Nat, r.getD 1 0 = (n1 : Int) := ⟨(r.getD 1 0).toNat, by omega⟩
    have hn1' : n1 < 130 := by omega
    have hpw : (2 : Nat) ^ n1 ≤ 2 ^ 129 := Nat.pow_le_pow_right (by decide) (by omega)
    generalize hxs : ([.int (r.getD 0 0), .int (((2 ^ n1 : Nat) : Int) + r.getD 2 0 - 2), .int ((10 : Int) ^ 40 - r.getD 0 0 % (10 : Int) ^ 25)] : List PyData) = xs
    obtain ⟨x, hx, hx2⟩ : ∃ x : Int, atI xs (r.getD 5 0) = some (.int x) ∧ x < 2 ^ 139 := by
      subst hxs
      have h5 : r.getD 5 0 = 0 ∨ r.getD 5 0 = 1 ∨ r.getD 5 0 = 2 := by omega
      rcases h5 with h | h | h
      · rw [h]; exact ⟨_, rfl, by omega⟩
      · rw [h]; exact ⟨_, rfl, by omega⟩
      · rw [h]
        refine ⟨_, rfl, ?_⟩
        have : 0 ≤ r.getD 0 0 % (10 : Int) ^ 25 := Int.emod_nonneg _ (by decide)
        omega
    obtain ⟨fb, hfb, hfb0, hfb2⟩ : ∃ fb : Nat, (if x > 1 then x else 1) = (fb : Int) ∧ 0 < fb ∧ fb < 2 ^ 140 := by
      split
      · exact ⟨x.toNat, by omega, by omega, by omega⟩
      · exact ⟨1, rfl, by decide, by decide⟩
    refine b_set (i := 10) (R := I K (fb : Nat)) nd (ev_int_is (ev_max2 W rfl ev_int (ev_ixL (ds := xs) (by
      rw [← hxs]
      exact ev_lstD (ea_cons (ev_ixL (ev_le (ev_var 1) LP_D) ev_int (rix 0 (by decide))) (ea_cons (ev_sub (ev_add (ev_callR (R := I K ((2 ^ n1 : Nat) : Int)) n1 Gpo (hr.mono (by decide)) (ea_cons (ev_int_is (ev_ixL (ev_le (ev_var 1) LP_D) ev_int (rix 1 (by decide))) hn1) ea_nil) (by show n1 < 1000; omega)) (ev_ixL (ev_le (ev_var 1) LP_D) ev_int (rix 2 (by decide)))) ev_int) (ea_cons (ev_sub (ev_int_is (ev_pow ev_int ev_int ⟨by decide, by decide, by decide⟩) rfl) (ev_mod (ev_intI W (ev_ixL (ev_le (ev_var 1) LP_D) ev_int (rix 0 (by decide)))) (ev_int_is (ev_pow ev_int ev_int ⟨by decide, by decide, by decide⟩) rfl) (by decide))) ea_nil)))) (ev_ixL (ev_le (ev_var 1) LP_D) ev_int (rix 5 (by decide))) hx)) hfb) ?_
    obtain ⟨pv, hpv⟩ : ∃ pv : Nat, r.getD 4 0 % (n : Int) = (pv : Int) := ⟨(r.getD 4 0 % (n : Int)).toNat, by have := Int.emod_nonneg (r.getD 4 0) (b := (n : Int)) (by omega); omega⟩
    have hpv2 : pv < n := by have := Int.emod_lt_of_pos (r.getD 4 0) (b := (n : Int)) (by omega); omega
    refine b_set (i := 11) (R := I K (pv : Nat)) nd (ev_int_is (ev_mod (ev_ixL (ev_le (ev_var 1) LP_D) ev_int (rix 4 (by decide))) (ev_ixL (ev_var 2) ev_int rfl) (by omega)) hpv) ?_
    refine b_ifF (et_is (et_not (et_val (ev_callR (R := B K true) (n, l, cs, near, pic, pv, fb) Ga (hr.mono (by decide)) (ea_cons (ev_var 5) (ea_cons (ev_var 3) (ea_cons (ev_ixL (ev_var 2) ev_int rfl) (ea_cons (ev_var 11) (ea_cons (ev_var 10) (ea_cons (ev_ixL (ev_le (farE (ev_callR (near, pic, t, fb) Gfa (hr.mono (by decide)) (ea_cons (ev_var 6) (ea_cons (ev_var 10) ea_nil)) ⟨ht, by show pic.length ≤ 7; omega⟩)) LP_D) (ev_var 11) (sumAt pic pl fb pv hpv2)) ea_nil)))))) (askA pic hpc pv fb hpv2 hfb0 hfb2)))) rfl) ?_
    refine b_ifF (et_is (et_not (et_val (ev_callR (R := B K true) (n, l, cs, near, pic, pv, b) Ga (hr.mono (by decide)) (ea_cons (ev_var 5) (ea_cons (ev_var 3) (ea_cons (ev_ixL (ev_var 2) ev_int rfl) (ea_cons (ev_var 11) (ea_cons (ev_var 7) (ea_cons (ev_ixL (ev_le (ev_var 8) LP_D) (ev_var 11) (sumAt pic pl b pv hpv2)) ea_nil)))))) (askA pic hpc pv b hpv2 hb0 hb2)))) rfl) ?_
    have hmp := mir_ok hpc
    have hml := hmp.len
    refine b_set (i := 12) (R := D K (dT (pic.map mirS))) nd (ev_tupleL W (ev_newD (en_is (en_lcM (own := [("_law_state", 13)]) (xs := pic) (it := fun s => I K s) (g := fun s => PyData.int (mirS s)) (js := [13]) (Γt := fun s => [some (D K (dL ns)), some (LP K (r.map .int)), some (D K (.list [.int (n : Nat), dLs ls, dT pic])), some (D K (dN near)), some (InR Cw (webG K n l cs)), some (rpScn K Cs Cw n l cs pic), some (rpTurn K near pic t), some (I K (b : Nat)), some (LP K ((sumsL near pic b).map .int)), none, some (I K (fb : Nat)), some (I K (pv : Nat)), none, some (I K s)]) rfl nd (it_mapT (g := PyData.int) (ev_ixL (ev_var 2) ev_int rfl)) (blkOk_by (N := N_law) (sc := defScope s_law) (by decide +kernel))
      (LcH.all (fun _ _ _ _ _ _ _ _ _ x hx => tg_name (i := 13) nd) (fun _ _ _ _ _ _ _ _ _ x hx => ev_ixL (ev_lstD (ds := [0, 2, 1].map PyData.int) (ea_cons ev_int (ea_cons ev_int (ea_cons ev_int ea_nil)))) (ev_var 13) (mir_at (hpc.st x hx))) (fun j h => h) (by omega))) (by rw [List.map_map, List.map_map, List.map_map]; rfl)))) ?_
    generalize hmq : pic.map mirS = mir at hmp hml ⊢
    have pfm := pf_of hls hnear hmp (by omega)
    refine b_set (i := 8) (R := LP K ((sumsL near mir b).map .int)) nd (ev_callR (shotsL near mir (b + 1), mir.length) Gc (hr.mono (by decide)) (ea_cons (ev_callR (near, mir, b) Gf (hr.mono (by decide)) (ea_cons (ev_var 3) (ea_cons (ev_var 12) (ea_cons (ev_var 7) (ea_cons (ev_lstD (ds := []) ea_nil) ea_nil)))) ⟨pfm, by show b ≤ 1000; omega⟩) ea_nil) (even_shots (by omega) (by omega)) (by show LP K ((countsL (shotsL near mir (b + 1))).map .int) = _; rw [counts_sums])) ?_
    refine b_ifF (et_is (et_not (et_val (ev_callR (R := B K true) (n, l, cs, near, mir, pv, b) Ga (hr.mono (by decide)) (ea_cons (ev_scn Gs (hr.mono (by decide)) (ev_var 4) (ev_var 12) hmp (by omega)) (ea_cons (ev_var 3) (ea_cons (ev_var 12) (ea_cons (ev_var 11) (ea_cons (ev_var 7) (ea_cons (ev_ixL (ev_le (ev_var 8) LP_D) (ev_var 11) (sumAt mir hml b pv hpv2)) ea_nil)))))) (askA mir hmp pv b hpv2 hb0 hb2)))) rfl) ?_
    refine b_ifF (et_is (et_w (ew_and (et_eq (ev_ixL (ev_le (ev_var 1) LP_D) ev_int (rix 7 (by decide))) ev_int) fun _ => ew_and1 (et_not (et_val (ev_callR (R := B K true) (ns, ((n, ls), pic), b) Gwi (hr.mono (by decide)) (ea_cons (ev_var 0) (ea_cons (ev_var 2) (ea_cons (ev_var 7) ea_nil))) ⟨hnl, so7, hb0, by show b ≤ 1000; omega⟩))))) (Bool.and_false _)) ?_
    have no0 : LinesOk 0 [] := ⟨fun p h => (nomatch h), Nat.zero_le _⟩
    have np0 : PicOk 0 [] := ⟨rfl, fun s h => (nomatch h)⟩
    refine b_ifF (et_is (et_not (et_val (ev_call (R := B K true) (S := fsRefused K Cs Cw) (As := [Exi fun y : WebCh 0 [] => rpScn K Cs Cw 0 y.1.1 y.1.2 [], I K 0, I K (b : Nat)]) Gr (hr.mono (by decide)) (ea_cons (ev_makeE (R := Exi fun y : WebCh 0 [] => rpScn K Cs Cw 0 y.1.1 y.1.2 []) (As := [Exi fun y : WebCh 0 [] => InR Cw (webG K 0 y.1.1 y.1.2), D K (.list [])]) Gs (hr.mono (by decide)) (ea_cons (ev_makeE (R := Exi fun y : WebCh 0 [] => InR Cw (webG K 0 y.1.1 y.1.2)) (As := [I K ((0 : Nat) : Int)]) Gw0 (hr.mono (by decide)) (ea_cons (ev_int_is ev_int rfl) ea_nil) rfl (fun G vs h => ?_)) (ea_cons (ev_lstD (ds := []) ea_nil) ea_nil)) rfl (fun G vs h => ?_)) (ea_cons ev_int (ea_cons (ev_var 7) ea_nil))) ⟨rfl, fun G vs h => ?_⟩))) rfl) ?_
    · match vs, h with
      | [u], h => exact ⟨(0, [], .tuple []), ⟨h.1, hdv G, trivial⟩, ⟨⟨no0, Nat.zero_le _⟩, ⟨Nat.zero_le _, fun x h => (nomatch h)⟩, rfl⟩, fun G' v r => webF_E G' v r⟩
    · match vs, h with
      | [u, w], h =>
        obtain ⟨⟨y, h1⟩, h2, _⟩ := h
        exact ⟨(0, y.1.1, y.1.2, [], .list []), ⟨h1, h2, trivial⟩, ⟨np0, Nat.zero_le _, ⟨Nat.zero_le _, fun x h => (nomatch h)⟩, rfl⟩, fun G' v r => ⟨y, r⟩⟩
    · match vs, h with
      | [u, w, z], h =>
        obtain ⟨⟨y, h1⟩, h2, h3, _⟩ := h
        exact ⟨(0, y.1.1, y.1.2, [], 0, b), ⟨h1, h2, h3, trivial⟩, (by show ¬ ((0 : Int) ≤ 0 ∧ (0 : Int) < ((0 : Nat) : Int)); omega), fun G' v r => r⟩
    exact b_end (ev_is (R := B K (true && true)) (ev_and (p := true) (q := true) (ev_callR (R := B K true) (n, l, cs, pic, (0 : Int) - 1, 0) Gr (hr.mono (by decide)) (ea_cons (ev_var 5) (ea_cons (ev_sub ev_int ev_int) (ea_cons (ev_int_is ev_int rfl) ea_nil))) (by show ¬ (0 ≤ (0 : Int) - 1 ∧ _); omega)) fun _ => ev_one (ev_callR (R := B K true) (n, l, cs, pic, (n : Int), fb) Gr (hr.mono (by decide)) (ea_cons (ev_var 5) (ea_cons (ev_ixL (ev_var 2) ev_int rfl) (ea_cons (ev_var 10) ea_nil))) (by show ¬ (0 ≤ (n : Int) ∧ (n : Int) < (n : Nat)); omega))) rfl) rfl
end
end Fr
set_option Elab.async false
set_option linter.all false
set_option maxRecDepth 100000
set_option maxHeartbeats 4000000
namespace Fr
open PySem PySem.Spec PySem.Calls L2
section
variable {P : Program} {w : World} {K : PySem.W.Frag} {mg : Str → Option Value} {base : Heap}
/-! the end: every def at hand -/
structure FunA (K : PySem.W.Frag) (mg : Str → Option Value) (x : Str) (st : Stmt) (ps : List Str) : Prop where
  ex : ∃ (f : Addr) (fd : FuncData), Fun K x x st f fd ∧ mg x = some (.ref f) ∧ PySem.W.keepIn K (.ref f) = true ∧ Binds K fd ps []
theorem FunA.df {α : Type} {S : FS α} {x : Str} {st : Stmt} {ps : List Str} {k n : Nat} (h : FunA K mg x st ps) (ok : ∀ (f : Addr) (fd : FuncData), Fun K x x st f fd → FnOk P w K mg base CX0 k f fd ps (S.sp n)) : Df P w K mg base x k n S := by
  obtain ⟨f, fd, F, g, kp, b⟩ := h.ex
  exact ⟨f, fd, ps, ok f fd F, g, kp, b⟩
/-- an __init__ at hand -/
structure IniA (K : PySem.W.Frag) (C : Addr) (qual : Str) (st : Stmt) (ps : List Str) : Prop where
  ex : ∃ (f : Addr) (fd : FuncData), Fun K "__init__" qual st f fd ∧ Mk K C f ∧ Binds K fd ps []
structure WebA (K : PySem.W.Frag) (C : Addr) (dv : V) : Prop where
  ex : ∃ (f : Addr) (fd : FuncData) (ds : List Value), FunD K "__init__" "Web.__init__" (defArgs s_Web_init) (defBody s_Web_init) (defScope s_Web_init) [dv] [] f fd ∧ Mk K C f ∧ Binds K fd ["self", "size", "lines"] [] ∧ Vals [dv] ds ∧ Binds K fd ["self", "size", "lines"] ds
structure MulA (K : PySem.W.Frag) (C : Addr) : Prop where
  ex : ∃ (f : Addr) (fd : FuncData), Fun K "__mul__" "Table.__mul__" s_Table_mul f fd ∧ Binds K fd ["self", "other"] [] ∧ PySem.W.selfFirst K C = true ∧ PySem.W.findIn K (.ref C) "__mul__" = some (some (.ref f)) ∧ PySem.W.isFn K (.ref f) = true
theorem all_law {f Cs Cw Ct fI Ce a1 a2 a3 a4 a5 a6 a7 a8 a9 b1 b2 b3 b4 b5 b6 cF : Addr} {fd : FuncData} {dv : V} (W : Bi mg) (S : ClS K Cs Cw Ct) (T : NpC K mg Ce fI) (C : RefC K mg Ce a1 a2 a3 a4 a5 a6 a7 a8 a9 b1 b2 b3 b4 b5 b6 cF) (hdv : Dv0 K dv)
    (gw : mg "Web" = some (.ref Cw)) (gs : mg "Scene" = some (.ref Cs)) (gt : mg "Table" = some (.ref Ct)) (hW : WebA K Cw dv) (hS : IniA K Cs "Scene.__init__" s_Scene_init ["self", "web", "picture"]) (hT : IniA K Ct "Table.__init__" s_Table_init ["self", "rows"]) (hM : MulA K Ct)
    (h_frozen : FunA K mg "frozen" s_frozen ["value"])
    (h_checked_lines : FunA K mg "checked_lines" s_checked_lines ["size", "pairs"])
    (h_neighbour_rows : FunA K mg "neighbour_rows" s_neighbour_rows ["size", "lines"])
    (h_state_lead : FunA K mg "state_lead" s_state_lead ["one", "other"])
    (h_greatest_sum : FunA K mg "greatest_sum" s_greatest_sum ["row", "column"])
    (h_binary_digits : FunA K mg "binary_digits" s_binary_digits ["times"])
    (h_doubled : FunA K mg "doubled" s_doubled ["table", "times"])
    (h_lead_table : FunA K mg "lead_table" s_lead_table ["scene"])
    (h_led_through : FunA K mg "led_through" s_led_through ["table", "numbers"])
    (h_middle : FunA K mg "middle" s_middle ["table", "a", "b"])
    (h_stops : FunA K mg "stops" s_stops ["powers", "levels", "place"])
    (h_needed_entries : FunA K mg "needed_entries" s_needed_entries ["powers", "levels", "places"])
    (h_entry_rows : FunA K mg "entry_rows" s_entry_rows ["needed"])
    (h_row_fact : FunA K mg "row_fact" s_row_fact ["scene", "facts", "row"])
    (h_row_facts : FunA K mg "row_facts" s_row_facts ["scene", "rows"])
    (h_check_place : FunA K mg "check_place" s_check_place ["web", "place"])
    (h_long_walk : FunA K mg "long_walk" s_long_walk ["scene", "place", "beats"])
    (h_l_whole : FunA K mg "_law_whole" s_l_whole ["_law_value"])
    (h_l_cell : FunA K mg "_law_cell" s_l_cell ["_law_script", "_law_k"])
    (h_l_digits : FunA K mg "_law_digits" s_l_digits ["_law_cell_here", "_law_sizes"])
    (h_l_web : FunA K mg "_law_web" s_l_web ["_law_row_here", "_law_most"])
    (h_l_picture : FunA K mg "_law_picture" s_l_picture ["_law_row_here", "_law_size"])
    (h_l_scene : FunA K mg "_law_scene" s_l_scene ["_law_script", "_law_at", "_law_most"])
    (h_l_near : FunA K mg "_law_near" s_l_near ["_law_size", "_law_lines"])
    (h_l_mixed : FunA K mg "_law_mixed" s_l_mixed ["_law_groups"])
    (h_l_step : FunA K mg "_law_step" s_l_step ["_law_near_here", "_law_picture_here", "_law_poked"])
    (h_l_film : FunA K mg "_law_film" s_l_film ["_law_near_here", "_law_picture_here", "_law_beats", "_law_pokes"])
    (h_l_counts : FunA K mg "_law_counts" s_l_counts ["_law_shots"])
    (h_l_lead : FunA K mg "_law_lead" s_l_lead ["_law_one", "_law_other"])
    (h_l_round : FunA K mg "_law_round" s_l_round ["_law_near_here", "_law_picture_here", "_law_period", "_law_pokes"])
    (h_l_far : FunA K mg "_law_far" s_l_far ["_law_turn", "_law_beats"])
    (h_l_row : FunA K mg "_law_row" s_l_row ["_law_value", "_law_many"])
    (h_l_fact : FunA K mg "_law_fact" s_l_fact ["_law_near_here", "_law_picture_here", "_law_facts_here", "_law_row_here"])
    (h_l_facts : FunA K mg "_law_facts" s_l_facts ["_law_near_here", "_law_picture_here", "_law_rows"])
    (h_l_power : FunA K mg "_law_power" s_l_power ["_law_many"])
    (h_l_asked : FunA K mg "_law_asked" s_l_asked ["_law_scene_here", "_law_near_here", "_law_picture_here", "_law_place", "_law_beats", "_law_due"])
    (h_l_refused : FunA K mg "_law_refused" s_l_refused ["_law_scene_here", "_law_bad", "_law_beats"])
    (h_l_wide : FunA K mg "_law_wide" s_l_wide ["_law_script", "_law_drawn", "_law_beats"])
    (Fn : Fun K "law" "law" s_law f fd) : FnOk P w K mg base CX0 11 f fd ["_law_script"] ((fsLaw K).sp 1) := by
  have frozenM : ∀ m, Df P w K mg base "frozen" (m + 1) 1 (fsFrozen K m) := fun m => by
    obtain ⟨f, fd, F, g, kp, b⟩ := h_frozen.ex
    exact ⟨f, fd, _, ok_frozen W g kp b F m, g, kp, b⟩
  have Gck : Df P w K mg base "checked_lines" 1 2 (fsChecked K) := h_checked_lines.df fun _ _ F => ok_checked_lines W F
  have Gnr : Df P w K mg base "neighbour_rows" 1 2 (fsRows K) := h_neighbour_rows.df fun _ _ F => ok_neighbour_rows W F
  have GwB : Dc P w K mg base "Web" Cw 4 3 [] (isWeb K) ∧ Dc P w K mg base "Web" Cw 4 3 [dv] (isWeb K) := by
    obtain ⟨f, fd, ds, F, M, b, v, b2⟩ := hW.ex
    have ok := ok_Web_init (P := P) (w := w) (base := base) W S.tw S.w1 S.w2 S.w3 (frozenM 2) Gck Gnr F
    exact ⟨⟨f, fd, _, [], M, ok, gw, b, .nil⟩, ⟨f, fd, _, ds, M, ok, gw, b2, v⟩⟩
  have Gs : Dc P w K mg base "Scene" Cs 3 3 [] (isScn K Cw) := by
    obtain ⟨f, fd, F, M, b⟩ := hS.ex
    exact ⟨f, fd, _, [], M, ok_Scene_init W S.ts S.s1 S.s2 S.tw S.w1 (frozenM 1) F, gs, b, .nil⟩
  have Gt : Dc P w K mg base "Table" Ct 4 2 [] (isTab K) := by
    obtain ⟨f, fd, F, M, b⟩ := hT.ex
    exact ⟨f, fd, _, [], M, ok_Table_init W S.tt S.t1 S.t2 (frozenM 2) F, gt, b, .nil⟩
  have Gsl : Df P w K mg base "state_lead" 1 2 (fsStateLead K) := h_state_lead.df fun _ _ F => ok_state_lead F
  have Ggs : Df P w K mg base "greatest_sum" 1 2 (fsGs K) := h_greatest_sum.df fun _ _ F => ok_greatest_sum W F
  have Gbd : Df P w K mg base "binary_digits" 1 1 (fsBits K) := h_binary_digits.df fun _ _ F => ok_binary_digits F
  have Gdb : Df P w K mg base "doubled" 7 2 (fsDoubled K Ct) := by
    obtain ⟨fm, fdm, F, b, e1, e2, e3⟩ := hM.ex
    exact h_doubled.df fun _ _ F' => ok_doubled W S.tt Gbd (ok_Table_mul W S.tt S.t1 S.t2 Ggs Gt F) b e1 e2 e3 F'
  have Glt : Df P w K mg base "lead_table" 6 1 (fsLeadT K Cs Cw Ct) := h_lead_table.df fun _ _ F => ok_lead_table W S Gsl Gt F
  have Gld : Df P w K mg base "led_through" 1 2 (fsLed K Ct) := h_led_through.df fun _ _ F => ok_led_through W S F
  have Gmi : Df P w K mg base "middle" 1 3 (fsMid K Ct) := h_middle.df fun _ _ F => ok_middle W S F
  have Gst : Df P w K mg base "stops" 2 3 (fsStops K Ct) := h_stops.df fun _ _ F => ok_stops W S Gld F
  have Gne : Df P w K mg base "needed_entries" 2 3 (fsNeeded P w K Ct) := h_needed_entries.df fun _ _ F => ok_needed_entries W S Gmi F
  have Ger : Dfo P w K mg base "entry_rows" 1 1 (fsErows P w K) := by
    obtain ⟨f, fd, F, g, kp, b⟩ := h_entry_rows.ex
    exact ⟨f, fd, _, ok_entry_rows W F, g, kp, b⟩
  have Grf : Df P w K mg base "row_fact" 2 3 (fsRowFact K Cs Cw) := h_row_fact.df fun _ _ F => ok_row_fact W S Gsl F
  have Grs : Df P w K mg base "row_facts" 4 2 (fsRowFacts K Cs Cw) := h_row_facts.df fun _ _ F => ok_row_facts W S (frozenM 2) Grf F
  have Gcp : Df P w K mg base "check_place" 1 2 (fsCheck K Cw) := h_check_place.df fun _ _ F => ok_check_place S F
  have Gl0 : Df P w K mg base "long_walk" 2 3 (fsWalk0 K Cs Cw) := h_long_walk.df fun _ _ F => ok_long_walk0 S Gcp F
  have Glw : Df P w K mg base "long_walk" 8 3 (fsWalk K Cs Cw) := h_long_walk.df fun _ _ F => ok_long_walk W S Gcp Gbd Glt Gdb Gst Gne Ger F
  have Gwh : Df P w K mg base "_law_whole" 1 1 (fsWhole K) := h_l_whole.df fun _ _ F => ok_l_whole W F
  have GwhH : DfH P w K mg base "_law_whole" 1 1 (fsWhole K) := by
    obtain ⟨f, fd, F, g, kp, b⟩ := h_l_whole.ex
    exact ⟨f, fd, _, hot_l_whole W F, g, kp, b⟩
  have Gce : Df P w K mg base "_law_cell" 1 2 (fsCell K) := h_l_cell.df fun _ _ F => ok_l_cell W F
  have Gdi : Df P w K mg base "_law_digits" 1 2 (fsDigits K) := h_l_digits.df fun _ _ F => ok_l_digits W F
  have Gwe : Df P w K mg base "_law_web" 1 2 (fsWeb K) := h_l_web.df fun _ _ F => ok_l_web W F
  have Gpi : Df P w K mg base "_law_picture" 1 2 (fsPicture K) := h_l_picture.df fun _ _ F => ok_l_picture W F
  have Gsc : Df P w K mg base "_law_scene" 2 3 (fsScene K) := h_l_scene.df fun _ _ F => ok_l_scene W Gce Gdi Gwe Gpi F
  have Gn : Df P w K mg base "_law_near" 1 2 (fsNear K) := h_l_near.df fun _ _ F => ok_l_near W F
  have Gm : Df P w K mg base "_law_mixed" 1 1 (fsMixed K) := h_l_mixed.df fun _ _ F => ok_l_mixed W F
  have Gsp : Df P w K mg base "_law_step" 1 3 (fsStep K) := h_l_step.df fun _ _ F => ok_l_step W F
  have Gf : Df P w K mg base "_law_film" 2 4 (fsFilm K) := h_l_film.df fun _ _ F => ok_l_film W Gsp F
  have Gc : Df P w K mg base "_law_counts" 1 1 (fsCounts K) := h_l_counts.df fun _ _ F => ok_l_counts W F
  have Gle : Df P w K mg base "_law_lead" 1 2 (fsLead K) := h_l_lead.df fun _ _ F => ok_l_lead W F
  have Grd : Df P w K mg base "_law_round" 2 4 (fsRound K) := h_l_round.df fun _ _ F => ok_l_round W Gsp F
  have Gfa : Df P w K mg base "_law_far" 2 2 (fsFar K) := h_l_far.df fun _ _ F => ok_l_far W Gc F
  have Grw : Df P w K mg base "_law_row" 2 2 (fsRow K) := h_l_row.df fun _ _ F => ok_l_row W Gwh F
  have Gfc : Df P w K mg base "_law_fact" 2 4 (fsFact K) := h_l_fact.df fun _ _ F => ok_l_fact W Gwh Gle F
  have Gfs : Df P w K mg base "_law_facts" 3 3 (fsFacts K) := h_l_facts.df fun _ _ F => ok_l_facts W Gfc F
  have Gpo : Df P w K mg base "_law_power" 1 1 (fsPower K) := h_l_power.df fun _ _ F => ok_l_power W F
  have Ga : Df P w K mg base "_law_asked" 9 6 (fsAsked K Cs Cw) := h_l_asked.df fun _ _ F => ok_l_asked (Ct := Ct) W Glw Gfs Grs Grw F
  have Gr : Df P w K mg base "_law_refused" 5 3 (fsRefused K Cs Cw) := by
    obtain ⟨fc, fdc, Fc, gc, kc, bc⟩ := h_check_place.ex
    obtain ⟨fw, fdw, Fw, gw', kw, bw⟩ := h_long_walk.ex
    exact h_l_refused.df fun _ _ F => ok_l_refused W S T C Fc gc kc bc Fw gw' kw bw GwhH F
  have Gwi : Df P w K mg base "_law_wide" 10 3 (fsWide K) := h_l_wide.df fun _ _ F => ok_l_wide (Ct := Ct) W Gm Gsc Gn GwB.1 Gs Gc Gf Ga Gr F
  exact ok_law (Ct := Ct) W hdv Gce Gdi Gsc Gn GwB.1 GwB.2 Gs Grd Gfa Gpo Gl0 Gc Gf Ga Gr Gwi Fn
end
end Fr
set_option Elab.async false
set_option linter.all false
set_option maxRecDepth 100000
set_option maxHeartbeats 8000000
namespace Fr
open PySem PySem.Spec PySem.Calls L2
section
variable {P : Program} {w : World} {K : PySem.W.Frag} {mg : Str → Option Value} {base : Heap}
/-! End2 (printed by gen_end.py): what the top has written, each a fact that k_is finds. -/
theorem bd_frozen : ∀ (kV doc pm : Value) (an : Option Addr) (cdv ct : Value) (us : List Value), us.length = (["value"] : List Str).length → bindArgs (PySem.W.fnOf "frozen" "frozen" (defArgs s_frozen) (defBody s_frozen) (defScope s_frozen) .none kV doc pm an cdv ct) ⟨us, []⟩ = pure ((["value"] : List Str).zip us) := fun _ _ _ _ _ _ us hl => match us, hl with | [_], _ => rfl
theorem bd_checked_lines : ∀ (kV doc pm : Value) (an : Option Addr) (cdv ct : Value) (us : List Value), us.length = (["size", "pairs"] : List Str).length → bindArgs (PySem.W.fnOf "checked_lines" "checked_lines" (defArgs s_checked_lines) (defBody s_checked_lines) (defScope s_checked_lines) .none kV doc pm an cdv ct) ⟨us, []⟩ = pure ((["size", "pairs"] : List Str).zip us) := fun _ _ _ _ _ _ us hl => match us, hl with | [_, _], _ => rfl
theorem bd_neighbour_rows : ∀ (kV doc pm : Value) (an : Option Addr) (cdv ct : Value) (us : List Value), us.length = (["size", "lines"] : List Str).length → bindArgs (PySem.W.fnOf "neighbour_rows" "neighbour_rows" (defArgs s_neighbour_rows) (defBody s_neighbour_rows) (defScope s_neighbour_rows) .none kV doc pm an cdv ct) ⟨us, []⟩ = pure ((["size", "lines"] : List Str).zip us) := fun _ _ _ _ _ _ us hl => match us, hl with | [_, _], _ => rfl
theorem bd_state_lead : ∀ (kV doc pm : Value) (an : Option Addr) (cdv ct : Value) (us : List Value), us.length = (["one", "other"] : List Str).length → bindArgs (PySem.W.fnOf "state_lead" "state_lead" (defArgs s_state_lead) (defBody s_state_lead) (defScope s_state_lead) .none kV doc pm an cdv ct) ⟨us, []⟩ = pure ((["one", "other"] : List Str).zip us) := fun _ _ _ _ _ _ us hl => match us, hl with | [_, _], _ => rfl
theorem bd_greatest_sum : ∀ (kV doc pm : Value) (an : Option Addr) (cdv ct : Value) (us : List Value), us.length = (["row", "column"] : List Str).length → bindArgs (PySem.W.fnOf "greatest_sum" "greatest_sum" (defArgs s_greatest_sum) (defBody s_greatest_sum) (defScope s_greatest_sum) .none kV doc pm an cdv ct) ⟨us, []⟩ = pure ((["row", "column"] : List Str).zip us) := fun _ _ _ _ _ _ us hl => match us, hl with | [_, _], _ => rfl
theorem bd_binary_digits : ∀ (kV doc pm : Value) (an : Option Addr) (cdv ct : Value) (us : List Value), us.length = (["times"] : List Str).length → bindArgs (PySem.W.fnOf "binary_digits" "binary_digits" (defArgs s_binary_digits) (defBody s_binary_digits) (defScope s_binary_digits) .none kV doc pm an cdv ct) ⟨us, []⟩ = pure ((["times"] : List Str).zip us) := fun _ _ _ _ _ _ us hl => match us, hl with | [_], _ => rfl
theorem bd_doubled : ∀ (kV doc pm : Value) (an : Option Addr) (cdv ct : Value) (us : List Value), us.length = (["table", "times"] : List Str).length → bindArgs (PySem.W.fnOf "doubled" "doubled" (defArgs s_doubled) (defBody s_doubled) (defScope s_doubled) .none kV doc pm an cdv ct) ⟨us, []⟩ = pure ((["table", "times"] : List Str).zip us) := fun _ _ _ _ _ _ us hl => match us, hl with | [_, _], _ => rfl
theorem bd_lead_table : ∀ (kV doc pm : Value) (an : Option Addr) (cdv ct : Value) (us : List Value), us.length = (["scene"] : List Str).length → bindArgs (PySem.W.fnOf "lead_table" "lead_table" (defArgs s_lead_table) (defBody s_lead_table) (defScope s_lead_table) .none kV doc pm an cdv ct) ⟨us, []⟩ = pure ((["scene"] : List Str).zip us) := fun _ _ _ _ _ _ us hl => match us, hl with | [_], _ => rfl
theorem bd_led_through : ∀ (kV doc pm : Value) (an : Option Addr) (cdv ct : Value) (us : List Value), us.length = (["table", "numbers"] : List Str).length → bindArgs (PySem.W.fnOf "led_through" "led_through" (defArgs s_led_through) (defBody s_led_through) (defScope s_led_through) .none kV doc pm an cdv ct) ⟨us, []⟩ = pure ((["table", "numbers"] : List Str).zip us) := fun _ _ _ _ _ _ us hl => match us, hl with | [_, _], _ => rfl
theorem bd_middle : ∀ (kV doc pm : Value) (an : Option Addr) (cdv ct : Value) (us : List Value), us.length = (["table", "a", "b"] : List Str).length → bindArgs (PySem.W.fnOf "middle" "middle" (defArgs s_middle) (defBody s_middle) (defScope s_middle) .none kV doc pm an cdv ct) ⟨us, []⟩ = pure ((["table", "a", "b"] : List Str).zip us) := fun _ _ _ _ _ _ us hl => match us, hl with | [_, _, _], _ => rfl
theorem bd_stops : ∀ (kV doc pm : Value) (an : Option Addr) (cdv ct : Value) (us : List Value), us.length = (["powers", "levels", "place"] : List Str).length → bindArgs (PySem.W.fnOf "stops" "stops" (defArgs s_stops) (defBody s_stops) (defScope s_stops) .none kV doc pm an cdv ct) ⟨us, []⟩ = pure ((["powers", "levels", "place"] : List Str).zip us) := fun _ _ _ _ _ _ us hl => match us, hl with | [_, _, _], _ => rfl
theorem bd_needed_entries : ∀ (kV doc pm : Value) (an : Option Addr) (cdv ct : Value) (us : List Value), us.length = (["powers", "levels", "places"] : List Str).length → bindArgs (PySem.W.fnOf "needed_entries" "needed_entries" (defArgs s_needed_entries) (defBody s_needed_entries) (defScope s_needed_entries) .none kV doc pm an cdv ct) ⟨us, []⟩ = pure ((["powers", "levels", "places"] : List Str).zip us) := fun _ _ _ _ _ _ us hl => match us, hl with | [_, _, _], _ => rfl
theorem bd_entry_rows : ∀ (kV doc pm : Value) (an : Option Addr) (cdv ct : Value) (us : List Value), us.length = (["needed"] : List Str).length → bindArgs (PySem.W.fnOf "entry_rows" "entry_rows" (defArgs s_entry_rows) (defBody s_entry_rows) (defScope s_entry_rows) .none kV doc pm an cdv ct) ⟨us, []⟩ = pure ((["needed"] : List Str).zip us) := fun _ _ _ _ _ _ us hl => match us, hl with | [_], _ => rfl
theorem bd_row_fact : ∀ (kV doc pm : Value) (an : Option Addr) (cdv ct : Value) (us : List Value), us.length = (["scene", "facts", "row"] : List Str).length → bindArgs (PySem.W.fnOf "row_fact" "row_fact" (defArgs s_row_fact) (defBody s_row_fact) (defScope s_row_fact) .none kV doc pm an cdv ct) ⟨us, []⟩ = pure ((["scene", "facts", "row"] : List Str).zip us) := fun _ _ _ _ _ _ us hl => match us, hl with | [_, _, _], _ => rfl
theorem bd_row_facts : ∀ (kV doc pm : Value) (an : Option Addr) (cdv ct : Value) (us : List Value), us.length = (["scene", "rows"] : List Str).length → bindArgs (PySem.W.fnOf "row_facts" "row_facts" (defArgs s_row_facts) (defBody s_row_facts) (defScope s_row_facts) .none kV doc pm an cdv ct) ⟨us, []⟩ = pure ((["scene", "rows"] : List Str).zip us) := fun _ _ _ _ _ _ us hl => match us, hl with | [_, _], _ => rfl
theorem bd_check_place : ∀ (kV doc pm : Value) (an : Option Addr) (cdv ct : Value) (us : List Value), us.length = (["web", "place"] : List Str).length → bindArgs (PySem.W.fnOf "check_place" "check_place" (defArgs s_check_place) (defBody s_check_place) (defScope s_check_place) .none kV doc pm an cdv ct) ⟨us, []⟩ = pure ((["web", "place"] : List Str).zip us) := fun _ _ _ _ _ _ us hl => match us, hl with | [_, _], _ => rfl
theorem bd_long_walk : ∀ (kV doc pm : Value) (an : Option Addr) (cdv ct : Value) (us : List Value), us.length = (["scene", "place", "beats"] : List Str).length → bindArgs (PySem.W.fnOf "long_walk" "long_walk" (defArgs s_long_walk) (defBody s_long_walk) (defScope s_long_walk) .none kV doc pm an cdv ct) ⟨us, []⟩ = pure ((["scene", "place", "beats"] : List Str).zip us) := fun _ _ _ _ _ _ us hl => match us, hl with | [_, _, _], _ => rfl
theorem bd_l_whole : ∀ (kV doc pm : Value) (an : Option Addr) (cdv ct : Value) (us : List Value), us.length = (["_law_value"] : List Str).length → bindArgs (PySem.W.fnOf "_law_whole" "_law_whole" (defArgs s_l_whole) (defBody s_l_whole) (defScope s_l_whole) .none kV doc pm an cdv ct) ⟨us, []⟩ = pure ((["_law_value"] : List Str).zip us) := fun _ _ _ _ _ _ us hl => match us, hl with | [_], _ => rfl
theorem bd_l_cell : ∀ (kV doc pm : Value) (an : Option Addr) (cdv ct : Value) (us : List Value), us.length = (["_law_script", "_law_k"] : List Str).length → bindArgs (PySem.W.fnOf "_law_cell" "_law_cell" (defArgs s_l_cell) (defBody s_l_cell) (defScope s_l_cell) .none kV doc pm an cdv ct) ⟨us, []⟩ = pure ((["_law_script", "_law_k"] : List Str).zip us) := fun _ _ _ _ _ _ us hl => match us, hl with | [_, _], _ => rfl
theorem bd_l_digits : ∀ (kV doc pm : Value) (an : Option Addr) (cdv ct : Value) (us : List Value), us.length = (["_law_cell_here", "_law_sizes"] : List Str).length → bindArgs (PySem.W.fnOf "_law_digits" "_law_digits" (defArgs s_l_digits) (defBody s_l_digits) (defScope s_l_digits) .none kV doc pm an cdv ct) ⟨us, []⟩ = pure ((["_law_cell_here", "_law_sizes"] : List Str).zip us) := fun _ _ _ _ _ _ us hl => match us, hl with | [_, _], _ => rfl
theorem bd_l_web : ∀ (kV doc pm : Value) (an : Option Addr) (cdv ct : Value) (us : List Value), us.length = (["_law_row_here", "_law_most"] : List Str).length → bindArgs (PySem.W.fnOf "_law_web" "_law_web" (defArgs s_l_web) (defBody s_l_web) (defScope s_l_web) .none kV doc pm an cdv ct) ⟨us, []⟩ = pure ((["_law_row_here", "_law_most"] : List Str).zip us) := fun _ _ _ _ _ _ us hl => match us, hl with | [_, _], _ => rfl
theorem bd_l_picture : ∀ (kV doc pm : Value) (an : Option Addr) (cdv ct : Value) (us : List Value), us.length = (["_law_row_here", "_law_size"] : List Str).length → bindArgs (PySem.W.fnOf "_law_picture" "_law_picture" (defArgs s_l_picture) (defBody s_l_picture) (defScope s_l_picture) .none kV doc pm an cdv ct) ⟨us, []⟩ = pure ((["_law_row_here", "_law_size"] : List Str).zip us) := fun _ _ _ _ _ _ us hl => match us, hl with | [_, _], _ => rfl
theorem bd_l_scene : ∀ (kV doc pm : Value) (an : Option Addr) (cdv ct : Value) (us : List Value), us.length = (["_law_script", "_law_at", "_law_most"] : List Str).length → bindArgs (PySem.W.fnOf "_law_scene" "_law_scene" (defArgs s_l_scene) (defBody s_l_scene) (defScope s_l_scene) .none kV doc pm an cdv ct) ⟨us, []⟩ = pure ((["_law_script", "_law_at", "_law_most"] : List Str).zip us) := fun _ _ _ _ _ _ us hl => match us, hl with | [_, _, _], _ => rfl
theorem bd_l_near : ∀ (kV doc pm : Value) (an : Option Addr) (cdv ct : Value) (us : List Value), us.length = (["_law_size", "_law_lines"] : List Str).length → bindArgs (PySem.W.fnOf "_law_near" "_law_near" (defArgs s_l_near) (defBody s_l_near) (defScope s_l_near) .none kV doc pm an cdv ct) ⟨us, []⟩ = pure ((["_law_size", "_law_lines"] : List Str).zip us) := fun _ _ _ _ _ _ us hl => match us, hl with | [_, _], _ => rfl
theorem bd_l_mixed : ∀ (kV doc pm : Value) (an : Option Addr) (cdv ct : Value) (us : List Value), us.length = (["_law_groups"] : List Str).length → bindArgs (PySem.W.fnOf "_law_mixed" "_law_mixed" (defArgs s_l_mixed) (defBody s_l_mixed) (defScope s_l_mixed) .none kV doc pm an cdv ct) ⟨us, []⟩ = pure ((["_law_groups"] : List Str).zip us) := fun _ _ _ _ _ _ us hl => match us, hl with | [_], _ => rfl
theorem bd_l_step : ∀ (kV doc pm : Value) (an : Option Addr) (cdv ct : Value) (us : List Value), us.length = (["_law_near_here", "_law_picture_here", "_law_poked"] : List Str).length → bindArgs (PySem.W.fnOf "_law_step" "_law_step" (defArgs s_l_step) (defBody s_l_step) (defScope s_l_step) .none kV doc pm an cdv ct) ⟨us, []⟩ = pure ((["_law_near_here", "_law_picture_here", "_law_poked"] : List Str).zip us) := fun _ _ _ _ _ _ us hl => match us, hl with | [_, _, _], _ => rfl
theorem bd_l_film : ∀ (kV doc pm : Value) (an : Option Addr) (cdv ct : Value) (us : List Value), us.length = (["_law_near_here", "_law_picture_here", "_law_beats", "_law_pokes"] : List Str).length → bindArgs (PySem.W.fnOf "_law_film" "_law_film" (defArgs s_l_film) (defBody s_l_film) (defScope s_l_film) .none kV doc pm an cdv ct) ⟨us, []⟩ = pure ((["_law_near_here", "_law_picture_here", "_law_beats", "_law_pokes"] : List Str).zip us) := fun _ _ _ _ _ _ us hl => match us, hl with | [_, _, _, _], _ => rfl
theorem bd_l_counts : ∀ (kV doc pm : Value) (an : Option Addr) (cdv ct : Value) (us : List Value), us.length = (["_law_shots"] : List Str).length → bindArgs (PySem.W.fnOf "_law_counts" "_law_counts" (defArgs s_l_counts) (defBody s_l_counts) (defScope s_l_counts) .none kV doc pm an cdv ct) ⟨us, []⟩ = pure ((["_law_shots"] : List Str).zip us) := fun _ _ _ _ _ _ us hl => match us, hl with | [_], _ => rfl
theorem bd_l_lead : ∀ (kV doc pm : Value) (an : Option Addr) (cdv ct : Value) (us : List Value), us.length = (["_law_one", "_law_other"] : List Str).length → bindArgs (PySem.W.fnOf "_law_lead" "_law_lead" (defArgs s_l_lead) (defBody s_l_lead) (defScope s_l_lead) .none kV doc pm an cdv ct) ⟨us, []⟩ = pure ((["_law_one", "_law_other"] : List Str).zip us) := fun _ _ _ _ _ _ us hl => match us, hl with | [_, _], _ => rfl
theorem bd_l_round : ∀ (kV doc pm : Value) (an : Option Addr) (cdv ct : Value) (us : List Value), us.length = (["_law_near_here", "_law_picture_here", "_law_period", "_law_pokes"] : List Str).length → bindArgs (PySem.W.fnOf "_law_round" "_law_round" (defArgs s_l_round) (defBody s_l_round) (defScope s_l_round) .none kV doc pm an cdv ct) ⟨us, []⟩ = pure ((["_law_near_here", "_law_picture_here", "_law_period", "_law_pokes"] : List Str).zip us) := fun _ _ _ _ _ _ us hl => match us, hl with | [_, _, _, _], _ => rfl
theorem bd_l_far : ∀ (kV doc pm : Value) (an : Option Addr) (cdv ct : Value) (us : List Value), us.length = (["_law_turn", "_law_beats"] : List Str).length → bindArgs (PySem.W.fnOf "_law_far" "_law_far" (defArgs s_l_far) (defBody s_l_far) (defScope s_l_far) .none kV doc pm an cdv ct) ⟨us, []⟩ = pure ((["_law_turn", "_law_beats"] : List Str).zip us) := fun _ _ _ _ _ _ us hl => match us, hl with | [_, _], _ => rfl
theorem bd_l_row : ∀ (kV doc pm : Value) (an : Option Addr) (cdv ct : Value) (us : List Value), us.length = (["_law_value", "_law_many"] : List Str).length → bindArgs (PySem.W.fnOf "_law_row" "_law_row" (defArgs s_l_row) (defBody s_l_row) (defScope s_l_row) .none kV doc pm an cdv ct) ⟨us, []⟩ = pure ((["_law_value", "_law_many"] : List Str).zip us) := fun _ _ _ _ _ _ us hl => match us, hl with | [_, _], _ => rfl
theorem bd_l_fact : ∀ (kV doc pm : Value) (an : Option Addr) (cdv ct : Value) (us : List Value), us.length = (["_law_near_here", "_law_picture_here", "_law_facts_here", "_law_row_here"] : List Str).length → bindArgs (PySem.W.fnOf "_law_fact" "_law_fact" (defArgs s_l_fact) (defBody s_l_fact) (defScope s_l_fact) .none kV doc pm an cdv ct) ⟨us, []⟩ = pure ((["_law_near_here", "_law_picture_here", "_law_facts_here", "_law_row_here"] : List Str).zip us) := fun _ _ _ _ _ _ us hl => match us, hl with | [_, _, _, _], _ => rfl
theorem bd_l_facts : ∀ (kV doc pm : Value) (an : Option Addr) (cdv ct : Value) (us : List Value), us.length = (["_law_near_here", "_law_picture_here", "_law_rows"] : List Str).length → bindArgs (PySem.W.fnOf "_law_facts" "_law_facts" (defArgs s_l_facts) (defBody s_l_facts) (defScope s_l_facts) .none kV doc pm an cdv ct) ⟨us, []⟩ = pure ((["_law_near_here", "_law_picture_here", "_law_rows"] : List Str).zip us) := fun _ _ _ _ _ _ us hl => match us, hl with | [_, _, _], _ => rfl
theorem bd_l_power : ∀ (kV doc pm : Value) (an : Option Addr) (cdv ct : Value) (us : List Value), us.length = (["_law_many"] : List Str).length → bindArgs (PySem.W.fnOf "_law_power" "_law_power" (defArgs s_l_power) (defBody s_l_power) (defScope s_l_power) .none kV doc pm an cdv ct) ⟨us, []⟩ = pure ((["_law_many"] : List Str).zip us) := fun _ _ _ _ _ _ us hl => match us, hl with | [_], _ => rfl
theorem bd_l_asked : ∀ (kV doc pm : Value) (an : Option Addr) (cdv ct : Value) (us : List Value), us.length = (["_law_scene_here", "_law_near_here", "_law_picture_here", "_law_place", "_law_beats", "_law_due"] : List Str).length → bindArgs (PySem.W.fnOf "_law_asked" "_law_asked" (defArgs s_l_asked) (defBody s_l_asked) (defScope s_l_asked) .none kV doc pm an cdv ct) ⟨us, []⟩ = pure ((["_law_scene_here", "_law_near_here", "_law_picture_here", "_law_place", "_law_beats", "_law_due"] : List Str).zip us) := fun _ _ _ _ _ _ us hl => match us, hl with | [_, _, _, _, _, _], _ => rfl
theorem bd_l_refused : ∀ (kV doc pm : Value) (an : Option Addr) (cdv ct : Value) (us : List Value), us.length = (["_law_scene_here", "_law_bad", "_law_beats"] : List Str).length → bindArgs (PySem.W.fnOf "_law_refused" "_law_refused" (defArgs s_l_refused) (defBody s_l_refused) (defScope s_l_refused) .none kV doc pm an cdv ct) ⟨us, []⟩ = pure ((["_law_scene_here", "_law_bad", "_law_beats"] : List Str).zip us) := fun _ _ _ _ _ _ us hl => match us, hl with | [_, _, _], _ => rfl
theorem bd_l_wide : ∀ (kV doc pm : Value) (an : Option Addr) (cdv ct : Value) (us : List Value), us.length = (["_law_script", "_law_drawn", "_law_beats"] : List Str).length → bindArgs (PySem.W.fnOf "_law_wide" "_law_wide" (defArgs s_l_wide) (defBody s_l_wide) (defScope s_l_wide) .none kV doc pm an cdv ct) ⟨us, []⟩ = pure ((["_law_script", "_law_drawn", "_law_beats"] : List Str).zip us) := fun _ _ _ _ _ _ us hl => match us, hl with | [_, _, _], _ => rfl
theorem bd_iCs : ∀ (kV doc pm : Value) (an : Option Addr) (cdv ct : Value) (us : List Value), us.length = (["self", "web", "picture"] : List Str).length → bindArgs (PySem.W.fnOf "__init__" "Scene.__init__" (defArgs s_Scene_init) (defBody s_Scene_init) (defScope s_Scene_init) .none kV doc pm an cdv ct) ⟨us, []⟩ = pure ((["self", "web", "picture"] : List Str).zip us) := fun _ _ _ _ _ _ us hl => match us, hl with | [_, _, _], _ => rfl
theorem bd_iCt : ∀ (kV doc pm : Value) (an : Option Addr) (cdv ct : Value) (us : List Value), us.length = (["self", "rows"] : List Str).length → bindArgs (PySem.W.fnOf "__init__" "Table.__init__" (defArgs s_Table_init) (defBody s_Table_init) (defScope s_Table_init) .none kV doc pm an cdv ct) ⟨us, []⟩ = pure ((["self", "rows"] : List Str).zip us) := fun _ _ _ _ _ _ us hl => match us, hl with | [_, _], _ => rfl
theorem bd_mul : ∀ (kV doc pm : Value) (an : Option Addr) (cdv ct : Value) (us : List Value), us.length = (["self", "other"] : List Str).length → bindArgs (PySem.W.fnOf "__mul__" "Table.__mul__" (defArgs s_Table_mul) (defBody s_Table_mul) (defScope s_Table_mul) .none kV doc pm an cdv ct) ⟨us, []⟩ = pure ((["self", "other"] : List Str).zip us) := fun _ _ _ _ _ _ us hl => match us, hl with | [_, _], _ => rfl
theorem kit_no {Ce c : Addr} (ss : PySem.W.subIn K (.ref Ce) (.ref Ce) = some true) (s : PySem.W.subIn K (.ref Ce) (.ref c) = some false) (i : PySem.W.isClsIn K c = true) (t : PySem.W.typeIn K (.ref c) = some (.type "type")) : PySem.W.kitOne K (.ref Ce) (.ref c) = some false := by
  have ne : Ce ≠ c := fun e => by
    rw [← e, ss] at s
    cases s
  have e1 : (Value.ref Ce == Value.ref c) = false := Bool.eq_false_iff.mpr fun q => ne (Value.ref.inj (beq_iff_eq.mp q))
  have e2 : ((PySem.W.clsIn K c).isSome && PySem.W.typeIn K (.ref c) == some (.type "type")) = true := by
    have i' : (PySem.W.clsIn K c).isSome = true := i
    rw [i', t]; rfl
  show (if (Value.ref Ce == Value.ref c) = true then some true else (if ((PySem.W.clsIn K c).isSome && PySem.W.typeIn K (.ref c) == some (.type "type")) = true then PySem.W.subIn K (.ref Ce) (.ref c) else none)) = _
  rw [e1, if_neg Bool.false_ne_true, if_pos e2]
  exact s
theorem kit_yes {Ce c : Addr} (s : PySem.W.subIn K (.ref Ce) (.ref c) = some true) (i : PySem.W.isClsIn K c = true) (t : PySem.W.typeIn K (.ref c) = some (.type "type")) : PySem.W.kitOne K (.ref Ce) (.ref c) = some true := by
  have e2 : ((PySem.W.clsIn K c).isSome && PySem.W.typeIn K (.ref c) == some (.type "type")) = true := by
    have i' : (PySem.W.clsIn K c).isSome = true := i
    rw [i', t]; rfl
  show (if (Value.ref Ce == Value.ref c) = true then some true else (if ((PySem.W.clsIn K c).isSome && PySem.W.typeIn K (.ref c) == some (.type "type")) = true then PySem.W.subIn K (.ref Ce) (.ref c) else none)) = _
  rw [if_pos e2, s]
  split <;> rfl
theorem all_end {l : PySem.W.OpenLaw} {h : Heap} {fa Cw Cs Ct : Addr} (X : K.In h) (G : h.Ns mainGlobals mg) (hfa : mg "law" = some (.ref fa))
    {f_frozen : Addr} {od_frozen an_frozen : Option Addr} {sl_frozen : Array (Option Value)} {oc_frozen kV_frozen dc_frozen pm_frozen cd_frozen ct_frozen : Value}
    {f_checked_lines : Addr} {od_checked_lines an_checked_lines : Option Addr} {sl_checked_lines : Array (Option Value)} {oc_checked_lines kV_checked_lines dc_checked_lines pm_checked_lines cd_checked_lines ct_checked_lines : Value}
    {f_neighbour_rows : Addr} {od_neighbour_rows an_neighbour_rows : Option Addr} {sl_neighbour_rows : Array (Option Value)} {oc_neighbour_rows kV_neighbour_rows dc_neighbour_rows pm_neighbour_rows cd_neighbour_rows ct_neighbour_rows : Value}
    {f_state_lead : Addr} {od_state_lead an_state_lead : Option Addr} {sl_state_lead : Array (Option Value)} {oc_state_lead kV_state_lead dc_state_lead pm_state_lead cd_state_lead ct_state_lead : Value}
    {f_greatest_sum : Addr} {od_greatest_sum an_greatest_sum : Option Addr} {sl_greatest_sum : Array (Option Value)} {oc_greatest_sum kV_greatest_sum dc_greatest_sum pm_greatest_sum cd_greatest_sum ct_greatest_sum : Value}
    {f_binary_digits : Addr} {od_binary_digits an_binary_digits : Option Addr} {sl_binary_digits : Array (Option Value)} {oc_binary_digits kV_binary_digits dc_binary_digits pm_binary_digits cd_binary_digits ct_binary_digits : Value}
    {f_doubled : Addr} {od_doubled an_doubled : Option Addr} {sl_doubled : Array (Option Value)} {oc_doubled kV_doubled dc_doubled pm_doubled cd_doubled ct_doubled : Value}
    {f_lead_table : Addr} {od_lead_table an_lead_table : Option Addr} {sl_lead_table : Array (Option Value)} {oc_lead_table kV_lead_table dc_lead_table pm_lead_table cd_lead_table ct_lead_table : Value}
    {f_led_through : Addr} {od_led_through an_led_through : Option Addr} {sl_led_through : Array (Option Value)} {oc_led_through kV_led_through dc_led_through pm_led_through cd_led_through ct_led_through : Value}
    {f_middle : Addr} {od_middle an_middle : Option Addr} {sl_middle : Array (Option Value)} {oc_middle kV_middle dc_middle pm_middle cd_middle ct_middle : Value}
    {f_stops : Addr} {od_stops an_stops : Option Addr} {sl_stops : Array (Option Value)} {oc_stops kV_stops dc_stops pm_stops cd_stops ct_stops : Value}
    {f_needed_entries : Addr} {od_needed_entries an_needed_entries : Option Addr} {sl_needed_entries : Array (Option Value)} {oc_needed_entries kV_needed_entries dc_needed_entries pm_needed_entries cd_needed_entries ct_needed_entries : Value}
    {f_entry_rows : Addr} {od_entry_rows an_entry_rows : Option Addr} {sl_entry_rows : Array (Option Value)} {oc_entry_rows kV_entry_rows dc_entry_rows pm_entry_rows cd_entry_rows ct_entry_rows : Value}
    {f_row_fact : Addr} {od_row_fact an_row_fact : Option Addr} {sl_row_fact : Array (Option Value)} {oc_row_fact kV_row_fact dc_row_fact pm_row_fact cd_row_fact ct_row_fact : Value}
    {f_row_facts : Addr} {od_row_facts an_row_facts : Option Addr} {sl_row_facts : Array (Option Value)} {oc_row_facts kV_row_facts dc_row_facts pm_row_facts cd_row_facts ct_row_facts : Value}
    {f_check_place : Addr} {od_check_place an_check_place : Option Addr} {sl_check_place : Array (Option Value)} {oc_check_place kV_check_place dc_check_place pm_check_place cd_check_place ct_check_place : Value}
    {f_long_walk : Addr} {od_long_walk an_long_walk : Option Addr} {sl_long_walk : Array (Option Value)} {oc_long_walk kV_long_walk dc_long_walk pm_long_walk cd_long_walk ct_long_walk : Value}
    {f_l_whole : Addr} {od_l_whole an_l_whole : Option Addr} {sl_l_whole : Array (Option Value)} {oc_l_whole kV_l_whole dc_l_whole pm_l_whole cd_l_whole ct_l_whole : Value}
    {f_l_cell : Addr} {od_l_cell an_l_cell : Option Addr} {sl_l_cell : Array (Option Value)} {oc_l_cell kV_l_cell dc_l_cell pm_l_cell cd_l_cell ct_l_cell : Value}
    {f_l_digits : Addr} {od_l_digits an_l_digits : Option Addr} {sl_l_digits : Array (Option Value)} {oc_l_digits kV_l_digits dc_l_digits pm_l_digits cd_l_digits ct_l_digits : Value}
    {f_l_web : Addr} {od_l_web an_l_web : Option Addr} {sl_l_web : Array (Option Value)} {oc_l_web kV_l_web dc_l_web pm_l_web cd_l_web ct_l_web : Value}
    {f_l_picture : Addr} {od_l_picture an_l_picture : Option Addr} {sl_l_picture : Array (Option Value)} {oc_l_picture kV_l_picture dc_l_picture pm_l_picture cd_l_picture ct_l_picture : Value}
    {f_l_scene : Addr} {od_l_scene an_l_scene : Option Addr} {sl_l_scene : Array (Option Value)} {oc_l_scene kV_l_scene dc_l_scene pm_l_scene cd_l_scene ct_l_scene : Value}
    {f_l_near : Addr} {od_l_near an_l_near : Option Addr} {sl_l_near : Array (Option Value)} {oc_l_near kV_l_near dc_l_near pm_l_near cd_l_near ct_l_near : Value}
    {f_l_mixed : Addr} {od_l_mixed an_l_mixed : Option Addr} {sl_l_mixed : Array (Option Value)} {oc_l_mixed kV_l_mixed dc_l_mixed pm_l_mixed cd_l_mixed ct_l_mixed : Value}
    {f_l_step : Addr} {od_l_step an_l_step : Option Addr} {sl_l_step : Array (Option Value)} {oc_l_step kV_l_step dc_l_step pm_l_step cd_l_step ct_l_step : Value}
    {f_l_film : Addr} {od_l_film an_l_film : Option Addr} {sl_l_film : Array (Option Value)} {oc_l_film kV_l_film dc_l_film pm_l_film cd_l_film ct_l_film : Value}
    {f_l_counts : Addr} {od_l_counts an_l_counts : Option Addr} {sl_l_counts : Array (Option Value)} {oc_l_counts kV_l_counts dc_l_counts pm_l_counts cd_l_counts ct_l_counts : Value}
    {f_l_lead : Addr} {od_l_lead an_l_lead : Option Addr} {sl_l_lead : Array (Option Value)} {oc_l_lead kV_l_lead dc_l_lead pm_l_lead cd_l_lead ct_l_lead : Value}
    {f_l_round : Addr} {od_l_round an_l_round : Option Addr} {sl_l_round : Array (Option Value)} {oc_l_round kV_l_round dc_l_round pm_l_round cd_l_round ct_l_round : Value}
    {f_l_far : Addr} {od_l_far an_l_far : Option Addr} {sl_l_far : Array (Option Value)} {oc_l_far kV_l_far dc_l_far pm_l_far cd_l_far ct_l_far : Value}
    {f_l_row : Addr} {od_l_row an_l_row : Option Addr} {sl_l_row : Array (Option Value)} {oc_l_row kV_l_row dc_l_row pm_l_row cd_l_row ct_l_row : Value}
    {f_l_fact : Addr} {od_l_fact an_l_fact : Option Addr} {sl_l_fact : Array (Option Value)} {oc_l_fact kV_l_fact dc_l_fact pm_l_fact cd_l_fact ct_l_fact : Value}
    {f_l_facts : Addr} {od_l_facts an_l_facts : Option Addr} {sl_l_facts : Array (Option Value)} {oc_l_facts kV_l_facts dc_l_facts pm_l_facts cd_l_facts ct_l_facts : Value}
    {f_l_power : Addr} {od_l_power an_l_power : Option Addr} {sl_l_power : Array (Option Value)} {oc_l_power kV_l_power dc_l_power pm_l_power cd_l_power ct_l_power : Value}
    {f_l_asked : Addr} {od_l_asked an_l_asked : Option Addr} {sl_l_asked : Array (Option Value)} {oc_l_asked kV_l_asked dc_l_asked pm_l_asked cd_l_asked ct_l_asked : Value}
    {f_l_refused : Addr} {od_l_refused an_l_refused : Option Addr} {sl_l_refused : Array (Option Value)} {oc_l_refused kV_l_refused dc_l_refused pm_l_refused cd_l_refused ct_l_refused : Value}
    {f_l_wide : Addr} {od_l_wide an_l_wide : Option Addr} {sl_l_wide : Array (Option Value)} {oc_l_wide kV_l_wide dc_l_wide pm_l_wide cd_l_wide ct_l_wide : Value}
    {f_iCs : Addr} {od_iCs an_iCs : Option Addr} {sl_iCs : Array (Option Value)} {oc_iCs kV_iCs dc_iCs pm_iCs cd_iCs ct_iCs : Value}
    {f_iCt : Addr} {od_iCt an_iCt : Option Addr} {sl_iCt : Array (Option Value)} {oc_iCt kV_iCt dc_iCt pm_iCt cd_iCt ct_iCt : Value}
    {f_iCw : Addr} {od_iCw an_iCw : Option Addr} {sl_iCw : Array (Option Value)} {oc_iCw kV_iCw dc_iCw pm_iCw cd_iCw ct_iCw : Value}
    {Td Te : Addr} {ocT : Value} {odT odE : Option Addr} {nT nE : Nat} {slT slE : Array (Option Value)}
    {f_mul : Addr} {od_mul an_mul : Option Addr} {sl_mul : Array (Option Value)} {oc_mul kV_mul dc_mul pm_mul cd_mul ct_mul : Value}
    {f_np : Addr} {od_np an_np : Option Addr} {sl_np : Array (Option Value)} {oc_np dc_np pm_np cd_np ct_np : Value}
    {Ce : Addr} {nmE qE : Str} {NE : Addr} {bsE bmE : List Value} {snE : List Str} {subE : List Value} {abE : Bool} {colE : Option Bool} {ddE : Option Addr} {m0 m1 m2 m3 m5 : Option Value}
    {E_BadLine : Addr}
    {E_BadPicture : Addr}
    {E_BadPoke : Addr}
    {E_BadRecord : Addr}
    {E_BadRow : Addr}
    {E_BadTable : Addr}
    {E_NoLine : Addr}
    {E_SizesDiffer : Addr}
    {E_TooLong : Addr}
    {E_NotAllSuspects : Addr}
    {E_NotATrail : Addr}
    {E_NotAWalk : Addr}
    {E_SamePlace : Addr}
    {E_SheetError : Addr}
    {E_WebsDiffer : Addr}
    {E_FirerestError : Addr}
    {f_law : Addr} {od_law an_law : Option Addr} {sl_law : Array (Option Value)} {oc_law kV_law dc_law pm_law cd_law ct_law : Value}
    (a_frozen : PySem.W.nsIn K mainGlobals "frozen" = some (some (.ref f_frozen))) (l_frozen : K.lookup f_frozen = some ⟨oc_frozen, od_frozen, .func (PySem.W.fnOf "frozen" "frozen" (defArgs s_frozen) (defBody s_frozen) (defScope s_frozen) .none kV_frozen dc_frozen pm_frozen an_frozen cd_frozen ct_frozen), sl_frozen⟩) (c_frozen : PySem.W.codeIn K cd_frozen "frozen" = true) (k_frozen : PySem.W.keepIn K (.ref f_frozen) = true)
    (a_checked_lines : PySem.W.nsIn K mainGlobals "checked_lines" = some (some (.ref f_checked_lines))) (l_checked_lines : K.lookup f_checked_lines = some ⟨oc_checked_lines, od_checked_lines, .func (PySem.W.fnOf "checked_lines" "checked_lines" (defArgs s_checked_lines) (defBody s_checked_lines) (defScope s_checked_lines) .none kV_checked_lines dc_checked_lines pm_checked_lines an_checked_lines cd_checked_lines ct_checked_lines), sl_checked_lines⟩) (c_checked_lines : PySem.W.codeIn K cd_checked_lines "checked_lines" = true) (k_checked_lines : PySem.W.keepIn K (.ref f_checked_lines) = true)
    (a_neighbour_rows : PySem.W.nsIn K mainGlobals "neighbour_rows" = some (some (.ref f_neighbour_rows))) (l_neighbour_rows : K.lookup f_neighbour_rows = some ⟨oc_neighbour_rows, od_neighbour_rows, .func (PySem.W.fnOf "neighbour_rows" "neighbour_rows" (defArgs s_neighbour_rows) (defBody s_neighbour_rows) (defScope s_neighbour_rows) .none kV_neighbour_rows dc_neighbour_rows pm_neighbour_rows an_neighbour_rows cd_neighbour_rows ct_neighbour_rows), sl_neighbour_rows⟩) (c_neighbour_rows : PySem.W.codeIn K cd_neighbour_rows "neighbour_rows" = true) (k_neighbour_rows : PySem.W.keepIn K (.ref f_neighbour_rows) = true)
    (a_state_lead : PySem.W.nsIn K mainGlobals "state_lead" = some (some (.ref f_state_lead))) (l_state_lead : K.lookup f_state_lead = some ⟨oc_state_lead, od_state_lead, .func (PySem.W.fnOf "state_lead" "state_lead" (defArgs s_state_lead) (defBody s_state_lead) (defScope s_state_lead) .none kV_state_lead dc_state_lead pm_state_lead an_state_lead cd_state_lead ct_state_lead), sl_state_lead⟩) (c_state_lead : PySem.W.codeIn K cd_state_lead "state_lead" = true) (k_state_lead : PySem.W.keepIn K (.ref f_state_lead) = true)
    (a_greatest_sum : PySem.W.nsIn K mainGlobals "greatest_sum" = some (some (.ref f_greatest_sum))) (l_greatest_sum : K.lookup f_greatest_sum = some ⟨oc_greatest_sum, od_greatest_sum, .func (PySem.W.fnOf "greatest_sum" "greatest_sum" (defArgs s_greatest_sum) (defBody s_greatest_sum) (defScope s_greatest_sum) .none kV_greatest_sum dc_greatest_sum pm_greatest_sum an_greatest_sum cd_greatest_sum ct_greatest_sum), sl_greatest_sum⟩) (c_greatest_sum : PySem.W.codeIn K cd_greatest_sum "greatest_sum" = true) (k_greatest_sum : PySem.W.keepIn K (.ref f_greatest_sum) = true)
    (a_binary_digits : PySem.W.nsIn K mainGlobals "binary_digits" = some (some (.ref f_binary_digits))) (l_binary_digits : K.lookup f_binary_digits = some ⟨oc_binary_digits, od_binary_digits, .func (PySem.W.fnOf "binary_digits" "binary_digits" (defArgs s_binary_digits) (defBody s_binary_digits) (defScope s_binary_digits) .none kV_binary_digits dc_binary_digits pm_binary_digits an_binary_digits cd_binary_digits ct_binary_digits), sl_binary_digits⟩) (c_binary_digits : PySem.W.codeIn K cd_binary_digits "binary_digits" = true) (k_binary_digits : PySem.W.keepIn K (.ref f_binary_digits) = true)
    (a_doubled : PySem.W.nsIn K mainGlobals "doubled" = some (some (.ref f_doubled))) (l_doubled : K.lookup f_doubled = some ⟨oc_doubled, od_doubled, .func (PySem.W.fnOf "doubled" "doubled" (defArgs s_doubled) (defBody s_doubled) (defScope s_doubled) .none kV_doubled dc_doubled pm_doubled an_doubled cd_doubled ct_doubled), sl_doubled⟩) (c_doubled : PySem.W.codeIn K cd_doubled "doubled" = true) (k_doubled : PySem.W.keepIn K (.ref f_doubled) = true)
    (a_lead_table : PySem.W.nsIn K mainGlobals "lead_table" = some (some (.ref f_lead_table))) (l_lead_table : K.lookup f_lead_table = some ⟨oc_lead_table, od_lead_table, .func (PySem.W.fnOf "lead_table" "lead_table" (defArgs s_lead_table) (defBody s_lead_table) (defScope s_lead_table) .none kV_lead_table dc_lead_table pm_lead_table an_lead_table cd_lead_table ct_lead_table), sl_lead_table⟩) (c_lead_table : PySem.W.codeIn K cd_lead_table "lead_table" = true) (k_lead_table : PySem.W.keepIn K (.ref f_lead_table) = true)
    (a_led_through : PySem.W.nsIn K mainGlobals "led_through" = some (some (.ref f_led_through))) (l_led_through : K.lookup f_led_through = some ⟨oc_led_through, od_led_through, .func (PySem.W.fnOf "led_through" "led_through" (defArgs s_led_through) (defBody s_led_through) (defScope s_led_through) .none kV_led_through dc_led_through pm_led_through an_led_through cd_led_through ct_led_through), sl_led_through⟩) (c_led_through : PySem.W.codeIn K cd_led_through "led_through" = true) (k_led_through : PySem.W.keepIn K (.ref f_led_through) = true)
    (a_middle : PySem.W.nsIn K mainGlobals "middle" = some (some (.ref f_middle))) (l_middle : K.lookup f_middle = some ⟨oc_middle, od_middle, .func (PySem.W.fnOf "middle" "middle" (defArgs s_middle) (defBody s_middle) (defScope s_middle) .none kV_middle dc_middle pm_middle an_middle cd_middle ct_middle), sl_middle⟩) (c_middle : PySem.W.codeIn K cd_middle "middle" = true) (k_middle : PySem.W.keepIn K (.ref f_middle) = true)
    (a_stops : PySem.W.nsIn K mainGlobals "stops" = some (some (.ref f_stops))) (l_stops : K.lookup f_stops = some ⟨oc_stops, od_stops, .func (PySem.W.fnOf "stops" "stops" (defArgs s_stops) (defBody s_stops) (defScope s_stops) .none kV_stops dc_stops pm_stops an_stops cd_stops ct_stops), sl_stops⟩) (c_stops : PySem.W.codeIn K cd_stops "stops" = true) (k_stops : PySem.W.keepIn K (.ref f_stops) = true)
    (a_needed_entries : PySem.W.nsIn K mainGlobals "needed_entries" = some (some (.ref f_needed_entries))) (l_needed_entries : K.lookup f_needed_entries = some ⟨oc_needed_entries, od_needed_entries, .func (PySem.W.fnOf "needed_entries" "needed_entries" (defArgs s_needed_entries) (defBody s_needed_entries) (defScope s_needed_entries) .none kV_needed_entries dc_needed_entries pm_needed_entries an_needed_entries cd_needed_entries ct_needed_entries), sl_needed_entries⟩) (c_needed_entries : PySem.W.codeIn K cd_needed_entries "needed_entries" = true) (k_needed_entries : PySem.W.keepIn K (.ref f_needed_entries) = true)
    (a_entry_rows : PySem.W.nsIn K mainGlobals "entry_rows" = some (some (.ref f_entry_rows))) (l_entry_rows : K.lookup f_entry_rows = some ⟨oc_entry_rows, od_entry_rows, .func (PySem.W.fnOf "entry_rows" "entry_rows" (defArgs s_entry_rows) (defBody s_entry_rows) (defScope s_entry_rows) .none kV_entry_rows dc_entry_rows pm_entry_rows an_entry_rows cd_entry_rows ct_entry_rows), sl_entry_rows⟩) (c_entry_rows : PySem.W.codeIn K cd_entry_rows "entry_rows" = true) (k_entry_rows : PySem.W.keepIn K (.ref f_entry_rows) = true)
    (a_row_fact : PySem.W.nsIn K mainGlobals "row_fact" = some (some (.ref f_row_fact))) (l_row_fact : K.lookup f_row_fact = some ⟨oc_row_fact, od_row_fact, .func (PySem.W.fnOf "row_fact" "row_fact" (defArgs s_row_fact) (defBody s_row_fact) (defScope s_row_fact) .none kV_row_fact dc_row_fact pm_row_fact an_row_fact cd_row_fact ct_row_fact), sl_row_fact⟩) (c_row_fact : PySem.W.codeIn K cd_row_fact "row_fact" = true) (k_row_fact : PySem.W.keepIn K (.ref f_row_fact) = true)
    (a_row_facts : PySem.W.nsIn K mainGlobals "row_facts" = some (some (.ref f_row_facts))) (l_row_facts : K.lookup f_row_facts = some ⟨oc_row_facts, od_row_facts, .func (PySem.W.fnOf "row_facts" "row_facts" (defArgs s_row_facts) (defBody s_row_facts) (defScope s_row_facts) .none kV_row_facts dc_row_facts pm_row_facts an_row_facts cd_row_facts ct_row_facts), sl_row_facts⟩) (c_row_facts : PySem.W.codeIn K cd_row_facts "row_facts" = true) (k_row_facts : PySem.W.keepIn K (.ref f_row_facts) = true)
    (a_check_place : PySem.W.nsIn K mainGlobals "check_place" = some (some (.ref f_check_place))) (l_check_place : K.lookup f_check_place = some ⟨oc_check_place, od_check_place, .func (PySem.W.fnOf "check_place" "check_place" (defArgs s_check_place) (defBody s_check_place) (defScope s_check_place) .none kV_check_place dc_check_place pm_check_place an_check_place cd_check_place ct_check_place), sl_check_place⟩) (c_check_place : PySem.W.codeIn K cd_check_place "check_place" = true) (k_check_place : PySem.W.keepIn K (.ref f_check_place) = true)
    (a_long_walk : PySem.W.nsIn K mainGlobals "long_walk" = some (some (.ref f_long_walk))) (l_long_walk : K.lookup f_long_walk = some ⟨oc_long_walk, od_long_walk, .func (PySem.W.fnOf "long_walk" "long_walk" (defArgs s_long_walk) (defBody s_long_walk) (defScope s_long_walk) .none kV_long_walk dc_long_walk pm_long_walk an_long_walk cd_long_walk ct_long_walk), sl_long_walk⟩) (c_long_walk : PySem.W.codeIn K cd_long_walk "long_walk" = true) (k_long_walk : PySem.W.keepIn K (.ref f_long_walk) = true)
    (a_l_whole : PySem.W.nsIn K mainGlobals "_law_whole" = some (some (.ref f_l_whole))) (l_l_whole : K.lookup f_l_whole = some ⟨oc_l_whole, od_l_whole, .func (PySem.W.fnOf "_law_whole" "_law_whole" (defArgs s_l_whole) (defBody s_l_whole) (defScope s_l_whole) .none kV_l_whole dc_l_whole pm_l_whole an_l_whole cd_l_whole ct_l_whole), sl_l_whole⟩) (c_l_whole : PySem.W.codeIn K cd_l_whole "_law_whole" = true) (k_l_whole : PySem.W.keepIn K (.ref f_l_whole) = true)
    (a_l_cell : PySem.W.nsIn K mainGlobals "_law_cell" = some (some (.ref f_l_cell))) (l_l_cell : K.lookup f_l_cell = some ⟨oc_l_cell, od_l_cell, .func (PySem.W.fnOf "_law_cell" "_law_cell" (defArgs s_l_cell) (defBody s_l_cell) (defScope s_l_cell) .none kV_l_cell dc_l_cell pm_l_cell an_l_cell cd_l_cell ct_l_cell), sl_l_cell⟩) (c_l_cell : PySem.W.codeIn K cd_l_cell "_law_cell" = true) (k_l_cell : PySem.W.keepIn K (.ref f_l_cell) = true)
    (a_l_digits : PySem.W.nsIn K mainGlobals "_law_digits" = some (some (.ref f_l_digits))) (l_l_digits : K.lookup f_l_digits = some ⟨oc_l_digits, od_l_digits, .func (PySem.W.fnOf "_law_digits" "_law_digits" (defArgs s_l_digits) (defBody s_l_digits) (defScope s_l_digits) .none kV_l_digits dc_l_digits pm_l_digits an_l_digits cd_l_digits ct_l_digits), sl_l_digits⟩) (c_l_digits : PySem.W.codeIn K cd_l_digits "_law_digits" = true) (k_l_digits : PySem.W.keepIn K (.ref f_l_digits) = true)
    (a_l_web : PySem.W.nsIn K mainGlobals "_law_web" = some (some (.ref f_l_web))) (l_l_web : K.lookup f_l_web = some ⟨oc_l_web, od_l_web, .func (PySem.W.fnOf "_law_web" "_law_web" (defArgs s_l_web) (defBody s_l_web) (defScope s_l_web) .none kV_l_web dc_l_web pm_l_web an_l_web cd_l_web ct_l_web), sl_l_web⟩) (c_l_web : PySem.W.codeIn K cd_l_web "_law_web" = true) (k_l_web : PySem.W.keepIn K (.ref f_l_web) = true)
    (a_l_picture : PySem.W.nsIn K mainGlobals "_law_picture" = some (some (.ref f_l_picture))) (l_l_picture : K.lookup f_l_picture = some ⟨oc_l_picture, od_l_picture, .func (PySem.W.fnOf "_law_picture" "_law_picture" (defArgs s_l_picture) (defBody s_l_picture) (defScope s_l_picture) .none kV_l_picture dc_l_picture pm_l_picture an_l_picture cd_l_picture ct_l_picture), sl_l_picture⟩) (c_l_picture : PySem.W.codeIn K cd_l_picture "_law_picture" = true) (k_l_picture : PySem.W.keepIn K (.ref f_l_picture) = true)
    (a_l_scene : PySem.W.nsIn K mainGlobals "_law_scene" = some (some (.ref f_l_scene))) (l_l_scene : K.lookup f_l_scene = some ⟨oc_l_scene, od_l_scene, .func (PySem.W.fnOf "_law_scene" "_law_scene" (defArgs s_l_scene) (defBody s_l_scene) (defScope s_l_scene) .none kV_l_scene dc_l_scene pm_l_scene an_l_scene cd_l_scene ct_l_scene), sl_l_scene⟩) (c_l_scene : PySem.W.codeIn K cd_l_scene "_law_scene" = true) (k_l_scene : PySem.W.keepIn K (.ref f_l_scene) = true)
    (a_l_near : PySem.W.nsIn K mainGlobals "_law_near" = some (some (.ref f_l_near))) (l_l_near : K.lookup f_l_near = some ⟨oc_l_near, od_l_near, .func (PySem.W.fnOf "_law_near" "_law_near" (defArgs s_l_near) (defBody s_l_near) (defScope s_l_near) .none kV_l_near dc_l_near pm_l_near an_l_near cd_l_near ct_l_near), sl_l_near⟩) (c_l_near : PySem.W.codeIn K cd_l_near "_law_near" = true) (k_l_near : PySem.W.keepIn K (.ref f_l_near) = true)
    (a_l_mixed : PySem.W.nsIn K mainGlobals "_law_mixed" = some (some (.ref f_l_mixed))) (l_l_mixed : K.lookup f_l_mixed = some ⟨oc_l_mixed, od_l_mixed, .func (PySem.W.fnOf "_law_mixed" "_law_mixed" (defArgs s_l_mixed) (defBody s_l_mixed) (defScope s_l_mixed) .none kV_l_mixed dc_l_mixed pm_l_mixed an_l_mixed cd_l_mixed ct_l_mixed), sl_l_mixed⟩) (c_l_mixed : PySem.W.codeIn K cd_l_mixed "_law_mixed" = true) (k_l_mixed : PySem.W.keepIn K (.ref f_l_mixed) = true)
    (a_l_step : PySem.W.nsIn K mainGlobals "_law_step" = some (some (.ref f_l_step))) (l_l_step : K.lookup f_l_step = some ⟨oc_l_step, od_l_step, .func (PySem.W.fnOf "_law_step" "_law_step" (defArgs s_l_step) (defBody s_l_step) (defScope s_l_step) .none kV_l_step dc_l_step pm_l_step an_l_step cd_l_step ct_l_step), sl_l_step⟩) (c_l_step : PySem.W.codeIn K cd_l_step "_law_step" = true) (k_l_step : PySem.W.keepIn K (.ref f_l_step) = true)
    (a_l_film : PySem.W.nsIn K mainGlobals "_law_film" = some (some (.ref f_l_film))) (l_l_film : K.lookup f_l_film = some ⟨oc_l_film, od_l_film, .func (PySem.W.fnOf "_law_film" "_law_film" (defArgs s_l_film) (defBody s_l_film) (defScope s_l_film) .none kV_l_film dc_l_film pm_l_film an_l_film cd_l_film ct_l_film), sl_l_film⟩) (c_l_film : PySem.W.codeIn K cd_l_film "_law_film" = true) (k_l_film : PySem.W.keepIn K (.ref f_l_film) = true)
    (a_l_counts : PySem.W.nsIn K mainGlobals "_law_counts" = some (some (.ref f_l_counts))) (l_l_counts : K.lookup f_l_counts = some ⟨oc_l_counts, od_l_counts, .func (PySem.W.fnOf "_law_counts" "_law_counts" (defArgs s_l_counts) (defBody s_l_counts) (defScope s_l_counts) .none kV_l_counts dc_l_counts pm_l_counts an_l_counts cd_l_counts ct_l_counts), sl_l_counts⟩) (c_l_counts : PySem.W.codeIn K cd_l_counts "_law_counts" = true) (k_l_counts : PySem.W.keepIn K (.ref f_l_counts) = true)
    (a_l_lead : PySem.W.nsIn K mainGlobals "_law_lead" = some (some (.ref f_l_lead))) (l_l_lead : K.lookup f_l_lead = some ⟨oc_l_lead, od_l_lead, .func (PySem.W.fnOf "_law_lead" "_law_lead" (defArgs s_l_lead) (defBody s_l_lead) (defScope s_l_lead) .none kV_l_lead dc_l_lead pm_l_lead an_l_lead cd_l_lead ct_l_lead), sl_l_lead⟩) (c_l_lead : PySem.W.codeIn K cd_l_lead "_law_lead" = true) (k_l_lead : PySem.W.keepIn K (.ref f_l_lead) = true)
    (a_l_round : PySem.W.nsIn K mainGlobals "_law_round" = some (some (.ref f_l_round))) (l_l_round : K.lookup f_l_round = some ⟨oc_l_round, od_l_round, .func (PySem.W.fnOf "_law_round" "_law_round" (defArgs s_l_round) (defBody s_l_round) (defScope s_l_round) .none kV_l_round dc_l_round pm_l_round an_l_round cd_l_round ct_l_round), sl_l_round⟩) (c_l_round : PySem.W.codeIn K cd_l_round "_law_round" = true) (k_l_round : PySem.W.keepIn K (.ref f_l_round) = true)
    (a_l_far : PySem.W.nsIn K mainGlobals "_law_far" = some (some (.ref f_l_far))) (l_l_far : K.lookup f_l_far = some ⟨oc_l_far, od_l_far, .func (PySem.W.fnOf "_law_far" "_law_far" (defArgs s_l_far) (defBody s_l_far) (defScope s_l_far) .none kV_l_far dc_l_far pm_l_far an_l_far cd_l_far ct_l_far), sl_l_far⟩) (c_l_far : PySem.W.codeIn K cd_l_far "_law_far" = true) (k_l_far : PySem.W.keepIn K (.ref f_l_far) = true)
    (a_l_row : PySem.W.nsIn K mainGlobals "_law_row" = some (some (.ref f_l_row))) (l_l_row : K.lookup f_l_row = some ⟨oc_l_row, od_l_row, .func (PySem.W.fnOf "_law_row" "_law_row" (defArgs s_l_row) (defBody s_l_row) (defScope s_l_row) .none kV_l_row dc_l_row pm_l_row an_l_row cd_l_row ct_l_row), sl_l_row⟩) (c_l_row : PySem.W.codeIn K cd_l_row "_law_row" = true) (k_l_row : PySem.W.keepIn K (.ref f_l_row) = true)
    (a_l_fact : PySem.W.nsIn K mainGlobals "_law_fact" = some (some (.ref f_l_fact))) (l_l_fact : K.lookup f_l_fact = some ⟨oc_l_fact, od_l_fact, .func (PySem.W.fnOf "_law_fact" "_law_fact" (defArgs s_l_fact) (defBody s_l_fact) (defScope s_l_fact) .none kV_l_fact dc_l_fact pm_l_fact an_l_fact cd_l_fact ct_l_fact), sl_l_fact⟩) (c_l_fact : PySem.W.codeIn K cd_l_fact "_law_fact" = true) (k_l_fact : PySem.W.keepIn K (.ref f_l_fact) = true)
    (a_l_facts : PySem.W.nsIn K mainGlobals "_law_facts" = some (some (.ref f_l_facts))) (l_l_facts : K.lookup f_l_facts = some ⟨oc_l_facts, od_l_facts, .func (PySem.W.fnOf "_law_facts" "_law_facts" (defArgs s_l_facts) (defBody s_l_facts) (defScope s_l_facts) .none kV_l_facts dc_l_facts pm_l_facts an_l_facts cd_l_facts ct_l_facts), sl_l_facts⟩) (c_l_facts : PySem.W.codeIn K cd_l_facts "_law_facts" = true) (k_l_facts : PySem.W.keepIn K (.ref f_l_facts) = true)
    (a_l_power : PySem.W.nsIn K mainGlobals "_law_power" = some (some (.ref f_l_power))) (l_l_power : K.lookup f_l_power = some ⟨oc_l_power, od_l_power, .func (PySem.W.fnOf "_law_power" "_law_power" (defArgs s_l_power) (defBody s_l_power) (defScope s_l_power) .none kV_l_power dc_l_power pm_l_power an_l_power cd_l_power ct_l_power), sl_l_power⟩) (c_l_power : PySem.W.codeIn K cd_l_power "_law_power" = true) (k_l_power : PySem.W.keepIn K (.ref f_l_power) = true)
    (a_l_asked : PySem.W.nsIn K mainGlobals "_law_asked" = some (some (.ref f_l_asked))) (l_l_asked : K.lookup f_l_asked = some ⟨oc_l_asked, od_l_asked, .func (PySem.W.fnOf "_law_asked" "_law_asked" (defArgs s_l_asked) (defBody s_l_asked) (defScope s_l_asked) .none kV_l_asked dc_l_asked pm_l_asked an_l_asked cd_l_asked ct_l_asked), sl_l_asked⟩) (c_l_asked : PySem.W.codeIn K cd_l_asked "_law_asked" = true) (k_l_asked : PySem.W.keepIn K (.ref f_l_asked) = true)
    (a_l_refused : PySem.W.nsIn K mainGlobals "_law_refused" = some (some (.ref f_l_refused))) (l_l_refused : K.lookup f_l_refused = some ⟨oc_l_refused, od_l_refused, .func (PySem.W.fnOf "_law_refused" "_law_refused" (defArgs s_l_refused) (defBody s_l_refused) (defScope s_l_refused) .none kV_l_refused dc_l_refused pm_l_refused an_l_refused cd_l_refused ct_l_refused), sl_l_refused⟩) (c_l_refused : PySem.W.codeIn K cd_l_refused "_law_refused" = true) (k_l_refused : PySem.W.keepIn K (.ref f_l_refused) = true)
    (a_l_wide : PySem.W.nsIn K mainGlobals "_law_wide" = some (some (.ref f_l_wide))) (l_l_wide : K.lookup f_l_wide = some ⟨oc_l_wide, od_l_wide, .func (PySem.W.fnOf "_law_wide" "_law_wide" (defArgs s_l_wide) (defBody s_l_wide) (defScope s_l_wide) .none kV_l_wide dc_l_wide pm_l_wide an_l_wide cd_l_wide ct_l_wide), sl_l_wide⟩) (c_l_wide : PySem.W.codeIn K cd_l_wide "_law_wide" = true) (k_l_wide : PySem.W.keepIn K (.ref f_l_wide) = true)
    (aC_Cw : PySem.W.nsIn K mainGlobals "Web" = some (some (.ref Cw))) (pg_Cw : PySem.W.plainGet K Cw Str.empty = true) (hd_Cw : PySem.W.hasDictIn K Cw = true) (po_Cw : PySem.W.plainOver K Cw = true) (sa_Cw : PySem.W.findIn K (.ref Cw) "__setattr__" = some (some (.builtin "object.__setattr__"))) (mk_Cw : PySem.W.makesIn K Cw = true) (kc_Cw : PySem.W.keepIn K (.ref Cw) = true)
    (n_Cw_size : PySem.W.findIn K (.ref Cw) "size" = some none)
    (n_Cw_lines : PySem.W.findIn K (.ref Cw) "lines" = some none)
    (n_Cw_around : PySem.W.findIn K (.ref Cw) "around" = some none)
    (aC_Cs : PySem.W.nsIn K mainGlobals "Scene" = some (some (.ref Cs))) (pg_Cs : PySem.W.plainGet K Cs Str.empty = true) (hd_Cs : PySem.W.hasDictIn K Cs = true) (po_Cs : PySem.W.plainOver K Cs = true) (sa_Cs : PySem.W.findIn K (.ref Cs) "__setattr__" = some (some (.builtin "object.__setattr__"))) (mk_Cs : PySem.W.makesIn K Cs = true) (kc_Cs : PySem.W.keepIn K (.ref Cs) = true)
    (n_Cs_web : PySem.W.findIn K (.ref Cs) "web" = some none)
    (n_Cs_picture : PySem.W.findIn K (.ref Cs) "picture" = some none)
    (aC_Ct : PySem.W.nsIn K mainGlobals "Table" = some (some (.ref Ct))) (pg_Ct : PySem.W.plainGet K Ct Str.empty = true) (hd_Ct : PySem.W.hasDictIn K Ct = true) (po_Ct : PySem.W.plainOver K Ct = true) (sa_Ct : PySem.W.findIn K (.ref Ct) "__setattr__" = some (some (.builtin "object.__setattr__"))) (mk_Ct : PySem.W.makesIn K Ct = true) (kc_Ct : PySem.W.keepIn K (.ref Ct) = true)
    (n_Ct_rows : PySem.W.findIn K (.ref Ct) "rows" = some none)
    (n_Ct_size : PySem.W.findIn K (.ref Ct) "size" = some none)
    (a_iCs : PySem.W.findIn K (.ref Cs) "__init__" = some (some (.ref f_iCs))) (i_iCs : PySem.W.isFn K (.ref f_iCs) = true) (l_iCs : K.lookup f_iCs = some ⟨oc_iCs, od_iCs, .func (PySem.W.fnOf "__init__" "Scene.__init__" (defArgs s_Scene_init) (defBody s_Scene_init) (defScope s_Scene_init) .none kV_iCs dc_iCs pm_iCs an_iCs cd_iCs ct_iCs), sl_iCs⟩) (c_iCs : PySem.W.codeIn K cd_iCs "Scene.__init__" = true) (k_iCs : PySem.W.keepIn K (.ref f_iCs) = true)
    (a_iCt : PySem.W.findIn K (.ref Ct) "__init__" = some (some (.ref f_iCt))) (i_iCt : PySem.W.isFn K (.ref f_iCt) = true) (l_iCt : K.lookup f_iCt = some ⟨oc_iCt, od_iCt, .func (PySem.W.fnOf "__init__" "Table.__init__" (defArgs s_Table_init) (defBody s_Table_init) (defScope s_Table_init) .none kV_iCt dc_iCt pm_iCt an_iCt cd_iCt ct_iCt), sl_iCt⟩) (c_iCt : PySem.W.codeIn K cd_iCt "Table.__init__" = true) (k_iCt : PySem.W.keepIn K (.ref f_iCt) = true)
    (a_iCw : PySem.W.findIn K (.ref Cw) "__init__" = some (some (.ref f_iCw))) (i_iCw : PySem.W.isFn K (.ref f_iCw) = true) (l_iCw : K.lookup f_iCw = some ⟨oc_iCw, od_iCw, .func (PySem.W.fnOf "__init__" "Web.__init__" (defArgs s_Web_init) (defBody s_Web_init) (defScope s_Web_init) (.ref Td) kV_iCw dc_iCw pm_iCw an_iCw cd_iCw ct_iCw), sl_iCw⟩) (c_iCw : PySem.W.codeIn K cd_iCw "Web.__init__" = true) (k_iCw : PySem.W.keepIn K (.ref f_iCw) = true)
    (lT : K.lookup Td = some ⟨ocT, odT, .seq #[.ref Te] nT, slT⟩) (lE : K.lookup Te = some ⟨.type "tuple", odE, .seq #[] nE, slE⟩)
    (a_mul : PySem.W.findIn K (.ref Ct) "__mul__" = some (some (.ref f_mul))) (i_mul : PySem.W.isFn K (.ref f_mul) = true) (sf_mul : PySem.W.selfFirst K Ct = true) (l_mul : K.lookup f_mul = some ⟨oc_mul, od_mul, .func (PySem.W.fnOf "__mul__" "Table.__mul__" (defArgs s_Table_mul) (defBody s_Table_mul) (defScope s_Table_mul) .none kV_mul dc_mul pm_mul an_mul cd_mul ct_mul), sl_mul⟩) (c_mul : PySem.W.codeIn K cd_mul "Table.__mul__" = true) (k_mul : PySem.W.keepIn K (.ref f_mul) = true)
    (aC_Ce : PySem.W.nsIn K mainGlobals "NoPlace" = some (some (.ref Ce))) (x_Ce : K.lookup Ce = some (excClassObj nmE qE Ce NE bsE bmE true snE subE abE colE ddE m0 m1 m2 m3 m5 "ValueError.__new__")) (bm_Ce : PySem.HandSPX.refsVE bmE = true)
    (sa_Ce : PySem.W.findIn K (.ref Ce) "__setattr__" = some (some (.builtin "object.__setattr__"))) (ga_Ce : PySem.W.findIn K (.ref Ce) "__getattribute__" = some (some (.builtin "BaseException.__getattribute__"))) (gg_Ce : PySem.W.findIn K (.ref Ce) "__getattr__" = some none) (no_Ce : PySem.W.findIn K (.ref Ce) "place" = some none)
    (ic_Ce : PySem.W.findIn K (.ref Ce) "__init__" = some (some (.ref f_np))) (t_np : PySem.W.typeIn K (.ref f_np) = some (.type "function")) (l_np : K.lookup f_np = some ⟨oc_np, od_np, .func (PySem.W.fnOf "__init__" "NoPlace.__init__" (defArgs s_NoPlace_init) (defBody s_NoPlace_init) (defScope s_NoPlace_init) .none .none dc_np pm_np an_np cd_np ct_np), sl_np⟩) (c_np : PySem.W.codeIn K cd_np "NoPlace.__init__" = true)
    (kc_Ce : PySem.W.keepIn K (.ref Ce) = true) (ex_Ce : PySem.W.subIn K (.ref Ce) (.type "BaseException") = some true) (ty_Ce : PySem.W.typeIn K (.ref Ce) = some (.type "type")) (hd_Ce : PySem.W.hasDictIn K Ce = true) (ss_Ce : PySem.W.subIn K (.ref Ce) (.ref Ce) = some true)
    (cl_Ce : PySem.W.findIn K (.ref Ce) "__class__" = some (some (.builtin "object.__class__"))) (gt_Ce : PySem.W.specialIn K (.builtin "object.__class__") "__get__" = some (some (.builtin "getset_descriptor.__get__"))) (tk_Ce : PySem.W.takesIn K (.builtin "object.__class__") = some true) (mo_Ce : PySem.W.mroIn K Ce (.type "object") = some true)
    (aC_BadLine : PySem.W.nsIn K mainGlobals "BadLine" = some (some (.ref E_BadLine))) (s_BadLine : PySem.W.subIn K (.ref Ce) (.ref E_BadLine) = some false) (i_BadLine : PySem.W.isClsIn K E_BadLine = true) (t_BadLine : PySem.W.typeIn K (.ref E_BadLine) = some (.type "type"))
    (aC_BadPicture : PySem.W.nsIn K mainGlobals "BadPicture" = some (some (.ref E_BadPicture))) (s_BadPicture : PySem.W.subIn K (.ref Ce) (.ref E_BadPicture) = some false) (i_BadPicture : PySem.W.isClsIn K E_BadPicture = true) (t_BadPicture : PySem.W.typeIn K (.ref E_BadPicture) = some (.type "type"))
    (aC_BadPoke : PySem.W.nsIn K mainGlobals "BadPoke" = some (some (.ref E_BadPoke))) (s_BadPoke : PySem.W.subIn K (.ref Ce) (.ref E_BadPoke) = some false) (i_BadPoke : PySem.W.isClsIn K E_BadPoke = true) (t_BadPoke : PySem.W.typeIn K (.ref E_BadPoke) = some (.type "type"))
    (aC_BadRecord : PySem.W.nsIn K mainGlobals "BadRecord" = some (some (.ref E_BadRecord))) (s_BadRecord : PySem.W.subIn K (.ref Ce) (.ref E_BadRecord) = some false) (i_BadRecord : PySem.W.isClsIn K E_BadRecord = true) (t_BadRecord : PySem.W.typeIn K (.ref E_BadRecord) = some (.type "type"))
    (aC_BadRow : PySem.W.nsIn K mainGlobals "BadRow" = some (some (.ref E_BadRow))) (s_BadRow : PySem.W.subIn K (.ref Ce) (.ref E_BadRow) = some false) (i_BadRow : PySem.W.isClsIn K E_BadRow = true) (t_BadRow : PySem.W.typeIn K (.ref E_BadRow) = some (.type "type"))
    (aC_BadTable : PySem.W.nsIn K mainGlobals "BadTable" = some (some (.ref E_BadTable))) (s_BadTable : PySem.W.subIn K (.ref Ce) (.ref E_BadTable) = some false) (i_BadTable : PySem.W.isClsIn K E_BadTable = true) (t_BadTable : PySem.W.typeIn K (.ref E_BadTable) = some (.type "type"))
    (aC_NoLine : PySem.W.nsIn K mainGlobals "NoLine" = some (some (.ref E_NoLine))) (s_NoLine : PySem.W.subIn K (.ref Ce) (.ref E_NoLine) = some false) (i_NoLine : PySem.W.isClsIn K E_NoLine = true) (t_NoLine : PySem.W.typeIn K (.ref E_NoLine) = some (.type "type"))
    (aC_SizesDiffer : PySem.W.nsIn K mainGlobals "SizesDiffer" = some (some (.ref E_SizesDiffer))) (s_SizesDiffer : PySem.W.subIn K (.ref Ce) (.ref E_SizesDiffer) = some false) (i_SizesDiffer : PySem.W.isClsIn K E_SizesDiffer = true) (t_SizesDiffer : PySem.W.typeIn K (.ref E_SizesDiffer) = some (.type "type"))
    (aC_TooLong : PySem.W.nsIn K mainGlobals "TooLong" = some (some (.ref E_TooLong))) (s_TooLong : PySem.W.subIn K (.ref Ce) (.ref E_TooLong) = some false) (i_TooLong : PySem.W.isClsIn K E_TooLong = true) (t_TooLong : PySem.W.typeIn K (.ref E_TooLong) = some (.type "type"))
    (aC_NotAllSuspects : PySem.W.nsIn K mainGlobals "NotAllSuspects" = some (some (.ref E_NotAllSuspects))) (s_NotAllSuspects : PySem.W.subIn K (.ref Ce) (.ref E_NotAllSuspects) = some false) (i_NotAllSuspects : PySem.W.isClsIn K E_NotAllSuspects = true) (t_NotAllSuspects : PySem.W.typeIn K (.ref E_NotAllSuspects) = some (.type "type"))
    (aC_NotATrail : PySem.W.nsIn K mainGlobals "NotATrail" = some (some (.ref E_NotATrail))) (s_NotATrail : PySem.W.subIn K (.ref Ce) (.ref E_NotATrail) = some false) (i_NotATrail : PySem.W.isClsIn K E_NotATrail = true) (t_NotATrail : PySem.W.typeIn K (.ref E_NotATrail) = some (.type "type"))
    (aC_NotAWalk : PySem.W.nsIn K mainGlobals "NotAWalk" = some (some (.ref E_NotAWalk))) (s_NotAWalk : PySem.W.subIn K (.ref Ce) (.ref E_NotAWalk) = some false) (i_NotAWalk : PySem.W.isClsIn K E_NotAWalk = true) (t_NotAWalk : PySem.W.typeIn K (.ref E_NotAWalk) = some (.type "type"))
    (aC_SamePlace : PySem.W.nsIn K mainGlobals "SamePlace" = some (some (.ref E_SamePlace))) (s_SamePlace : PySem.W.subIn K (.ref Ce) (.ref E_SamePlace) = some false) (i_SamePlace : PySem.W.isClsIn K E_SamePlace = true) (t_SamePlace : PySem.W.typeIn K (.ref E_SamePlace) = some (.type "type"))
    (aC_SheetError : PySem.W.nsIn K mainGlobals "SheetError" = some (some (.ref E_SheetError))) (s_SheetError : PySem.W.subIn K (.ref Ce) (.ref E_SheetError) = some false) (i_SheetError : PySem.W.isClsIn K E_SheetError = true) (t_SheetError : PySem.W.typeIn K (.ref E_SheetError) = some (.type "type"))
    (aC_WebsDiffer : PySem.W.nsIn K mainGlobals "WebsDiffer" = some (some (.ref E_WebsDiffer))) (s_WebsDiffer : PySem.W.subIn K (.ref Ce) (.ref E_WebsDiffer) = some false) (i_WebsDiffer : PySem.W.isClsIn K E_WebsDiffer = true) (t_WebsDiffer : PySem.W.typeIn K (.ref E_WebsDiffer) = some (.type "type"))
    (aC_FirerestError : PySem.W.nsIn K mainGlobals "FirerestError" = some (some (.ref E_FirerestError))) (s_FirerestError : PySem.W.subIn K (.ref Ce) (.ref E_FirerestError) = some true) (i_FirerestError : PySem.W.isClsIn K E_FirerestError = true) (t_FirerestError : PySem.W.typeIn K (.ref E_FirerestError) = some (.type "type"))
    (z_len : PySem.W.nsIn K mainGlobals "len" = some none)
    (z_tuple : PySem.W.nsIn K mainGlobals "tuple" = some none)
    (z_list : PySem.W.nsIn K mainGlobals "list" = some none)
    (z_int : PySem.W.nsIn K mainGlobals "int" = some none)
    (z_bool : PySem.W.nsIn K mainGlobals "bool" = some none)
    (z_max : PySem.W.nsIn K mainGlobals "max" = some none)
    (z_min : PySem.W.nsIn K mainGlobals "min" = some none)
    (z_range : PySem.W.nsIn K mainGlobals "range" = some none)
    (z_sorted : PySem.W.nsIn K mainGlobals "sorted" = some none)
    (z_zip : PySem.W.nsIn K mainGlobals "zip" = some none)
    (z_enumerate : PySem.W.nsIn K mainGlobals "enumerate" = some none)
    (z_isinstance : PySem.W.nsIn K mainGlobals "isinstance" = some none)
    (a_law : PySem.W.nsIn K mainGlobals "law" = some (some (.ref f_law))) (l_law : K.lookup f_law = some ⟨oc_law, od_law, .func (PySem.W.fnOf "law" "law" (defArgs s_law) (defBody s_law) (defScope s_law) .none kV_law dc_law pm_law an_law cd_law ct_law), sl_law⟩) (c_law : PySem.W.codeIn K cd_law "law" = true) (k_law : PySem.W.keepIn K (.ref f_law) = true) :
    ∃ fd : FuncData, (∀ (s : Shared) (v : Value), BindsTo s fd ⟨[v], []⟩ [("_law_script", v)]) ∧ ∀ base : Heap, K.In base → base.Ns mainGlobals mg → FnOk l.prog w K mg base CX0 11 fa fd ["_law_script"] ((fsLaw K).sp 1) := by
  have e := hfa.symm.trans (PySem.W.mg_of X G a_law)
  cases e
  have h_frozen : FunA K mg "frozen" s_frozen ["value"] := ⟨_, _, fun_mk l_frozen c_frozen k_frozen, PySem.W.mg_of X G a_frozen, k_frozen, (fun_mk l_frozen c_frozen k_frozen).binds bd_frozen⟩
  have h_checked_lines : FunA K mg "checked_lines" s_checked_lines ["size", "pairs"] := ⟨_, _, fun_mk l_checked_lines c_checked_lines k_checked_lines, PySem.W.mg_of X G a_checked_lines, k_checked_lines, (fun_mk l_checked_lines c_checked_lines k_checked_lines).binds bd_checked_lines⟩
  have h_neighbour_rows : FunA K mg "neighbour_rows" s_neighbour_rows ["size", "lines"] := ⟨_, _, fun_mk l_neighbour_rows c_neighbour_rows k_neighbour_rows, PySem.W.mg_of X G a_neighbour_rows, k_neighbour_rows, (fun_mk l_neighbour_rows c_neighbour_rows k_neighbour_rows).binds bd_neighbour_rows⟩
  have h_state_lead : FunA K mg "state_lead" s_state_lead ["one", "other"] := ⟨_, _, fun_mk l_state_lead c_state_lead k_state_lead, PySem.W.mg_of X G a_state_lead, k_state_lead, (fun_mk l_state_lead c_state_lead k_state_lead).binds bd_state_lead⟩
  have h_greatest_sum : FunA K mg "greatest_sum" s_greatest_sum ["row", "column"] := ⟨_, _, fun_mk l_greatest_sum c_greatest_sum k_greatest_sum, PySem.W.mg_of X G a_greatest_sum, k_greatest_sum, (fun_mk l_greatest_sum c_greatest_sum k_greatest_sum).binds bd_greatest_sum⟩
  have h_binary_digits : FunA K mg "binary_digits" s_binary_digits ["times"] := ⟨_, _, fun_mk l_binary_digits c_binary_digits k_binary_digits, PySem.W.mg_of X G a_binary_digits, k_binary_digits, (fun_mk l_binary_digits c_binary_digits k_binary_digits).binds bd_binary_digits⟩
  have h_doubled : FunA K mg "doubled" s_doubled ["table", "times"] := ⟨_, _, fun_mk l_doubled c_doubled k_doubled, PySem.W.mg_of X G a_doubled, k_doubled, (fun_mk l_doubled c_doubled k_doubled).binds bd_doubled⟩
  have h_lead_table : FunA K mg "lead_table" s_lead_table ["scene"] := ⟨_, _, fun_mk l_lead_table c_lead_table k_lead_table, PySem.W.mg_of X G a_lead_table, k_lead_table, (fun_mk l_lead_table c_lead_table k_lead_table).binds bd_lead_table⟩
  have h_led_through : FunA K mg "led_through" s_led_through ["table", "numbers"] := ⟨_, _, fun_mk l_led_through c_led_through k_led_through, PySem.W.mg_of X G a_led_through, k_led_through, (fun_mk l_led_through c_led_through k_led_through).binds bd_led_through⟩
  have h_middle : FunA K mg "middle" s_middle ["table", "a", "b"] := ⟨_, _, fun_mk l_middle c_middle k_middle, PySem.W.mg_of X G a_middle, k_middle, (fun_mk l_middle c_middle k_middle).binds bd_middle⟩
  have h_stops : FunA K mg "stops" s_stops ["powers", "levels", "place"] := ⟨_, _, fun_mk l_stops c_stops k_stops, PySem.W.mg_of X G a_stops, k_stops, (fun_mk l_stops c_stops k_stops).binds bd_stops⟩
  have h_needed_entries : FunA K mg "needed_entries" s_needed_entries ["powers", "levels", "places"] := ⟨_, _, fun_mk l_needed_entries c_needed_entries k_needed_entries, PySem.W.mg_of X G a_needed_entries, k_needed_entries, (fun_mk l_needed_entries c_needed_entries k_needed_entries).binds bd_needed_entries⟩
  have h_entry_rows : FunA K mg "entry_rows" s_entry_rows ["needed"] := ⟨_, _, fun_mk l_entry_rows c_entry_rows k_entry_rows, PySem.W.mg_of X G a_entry_rows, k_entry_rows, (fun_mk l_entry_rows c_entry_rows k_entry_rows).binds bd_entry_rows⟩
  have h_row_fact : FunA K mg "row_fact" s_row_fact ["scene", "facts", "row"] := ⟨_, _, fun_mk l_row_fact c_row_fact k_row_fact, PySem.W.mg_of X G a_row_fact, k_row_fact, (fun_mk l_row_fact c_row_fact k_row_fact).binds bd_row_fact⟩
  have h_row_facts : FunA K mg "row_facts" s_row_facts ["scene", "rows"] := ⟨_, _, fun_mk l_row_facts c_row_facts k_row_facts, PySem.W.mg_of X G a_row_facts, k_row_facts, (fun_mk l_row_facts c_row_facts k_row_facts).binds bd_row_facts⟩
  have h_check_place : FunA K mg "check_place" s_check_place ["web", "place"] := ⟨_, _, fun_mk l_check_place c_check_place k_check_place, PySem.W.mg_of X G a_check_place, k_check_place, (fun_mk l_check_place c_check_place k_check_place).binds bd_check_place⟩
  have h_long_walk : FunA K mg "long_walk" s_long_walk ["scene", "place", "beats"] := ⟨_, _, fun_mk l_long_walk c_long_walk k_long_walk, PySem.W.mg_of X G a_long_walk, k_long_walk, (fun_mk l_long_walk c_long_walk k_long_walk).binds bd_long_walk⟩
  have h_l_whole : FunA K mg "_law_whole" s_l_whole ["_law_value"] := ⟨_, _, fun_mk l_l_whole c_l_whole k_l_whole, PySem.W.mg_of X G a_l_whole, k_l_whole, (fun_mk l_l_whole c_l_whole k_l_whole).binds bd_l_whole⟩
  have h_l_cell : FunA K mg "_law_cell" s_l_cell ["_law_script", "_law_k"] := ⟨_, _, fun_mk l_l_cell c_l_cell k_l_cell, PySem.W.mg_of X G a_l_cell, k_l_cell, (fun_mk l_l_cell c_l_cell k_l_cell).binds bd_l_cell⟩
  have h_l_digits : FunA K mg "_law_digits" s_l_digits ["_law_cell_here", "_law_sizes"] := ⟨_, _, fun_mk l_l_digits c_l_digits k_l_digits, PySem.W.mg_of X G a_l_digits, k_l_digits, (fun_mk l_l_digits c_l_digits k_l_digits).binds bd_l_digits⟩
  have h_l_web : FunA K mg "_law_web" s_l_web ["_law_row_here", "_law_most"] := ⟨_, _, fun_mk l_l_web c_l_web k_l_web, PySem.W.mg_of X G a_l_web, k_l_web, (fun_mk l_l_web c_l_web k_l_web).binds bd_l_web⟩
  have h_l_picture : FunA K mg "_law_picture" s_l_picture ["_law_row_here", "_law_size"] := ⟨_, _, fun_mk l_l_picture c_l_picture k_l_picture, PySem.W.mg_of X G a_l_picture, k_l_picture, (fun_mk l_l_picture c_l_picture k_l_picture).binds bd_l_picture⟩
  have h_l_scene : FunA K mg "_law_scene" s_l_scene ["_law_script", "_law_at", "_law_most"] := ⟨_, _, fun_mk l_l_scene c_l_scene k_l_scene, PySem.W.mg_of X G a_l_scene, k_l_scene, (fun_mk l_l_scene c_l_scene k_l_scene).binds bd_l_scene⟩
  have h_l_near : FunA K mg "_law_near" s_l_near ["_law_size", "_law_lines"] := ⟨_, _, fun_mk l_l_near c_l_near k_l_near, PySem.W.mg_of X G a_l_near, k_l_near, (fun_mk l_l_near c_l_near k_l_near).binds bd_l_near⟩
  have h_l_mixed : FunA K mg "_law_mixed" s_l_mixed ["_law_groups"] := ⟨_, _, fun_mk l_l_mixed c_l_mixed k_l_mixed, PySem.W.mg_of X G a_l_mixed, k_l_mixed, (fun_mk l_l_mixed c_l_mixed k_l_mixed).binds bd_l_mixed⟩
  have h_l_step : FunA K mg "_law_step" s_l_step ["_law_near_here", "_law_picture_here", "_law_poked"] := ⟨_, _, fun_mk l_l_step c_l_step k_l_step, PySem.W.mg_of X G a_l_step, k_l_step, (fun_mk l_l_step c_l_step k_l_step).binds bd_l_step⟩
  have h_l_film : FunA K mg "_law_film" s_l_film ["_law_near_here", "_law_picture_here", "_law_beats", "_law_pokes"] := ⟨_, _, fun_mk l_l_film c_l_film k_l_film, PySem.W.mg_of X G a_l_film, k_l_film, (fun_mk l_l_film c_l_film k_l_film).binds bd_l_film⟩
  have h_l_counts : FunA K mg "_law_counts" s_l_counts ["_law_shots"] := ⟨_, _, fun_mk l_l_counts c_l_counts k_l_counts, PySem.W.mg_of X G a_l_counts, k_l_counts, (fun_mk l_l_counts c_l_counts k_l_counts).binds bd_l_counts⟩
  have h_l_lead : FunA K mg "_law_lead" s_l_lead ["_law_one", "_law_other"] := ⟨_, _, fun_mk l_l_lead c_l_lead k_l_lead, PySem.W.mg_of X G a_l_lead, k_l_lead, (fun_mk l_l_lead c_l_lead k_l_lead).binds bd_l_lead⟩
  have h_l_round : FunA K mg "_law_round" s_l_round ["_law_near_here", "_law_picture_here", "_law_period", "_law_pokes"] := ⟨_, _, fun_mk l_l_round c_l_round k_l_round, PySem.W.mg_of X G a_l_round, k_l_round, (fun_mk l_l_round c_l_round k_l_round).binds bd_l_round⟩
  have h_l_far : FunA K mg "_law_far" s_l_far ["_law_turn", "_law_beats"] := ⟨_, _, fun_mk l_l_far c_l_far k_l_far, PySem.W.mg_of X G a_l_far, k_l_far, (fun_mk l_l_far c_l_far k_l_far).binds bd_l_far⟩
  have h_l_row : FunA K mg "_law_row" s_l_row ["_law_value", "_law_many"] := ⟨_, _, fun_mk l_l_row c_l_row k_l_row, PySem.W.mg_of X G a_l_row, k_l_row, (fun_mk l_l_row c_l_row k_l_row).binds bd_l_row⟩
  have h_l_fact : FunA K mg "_law_fact" s_l_fact ["_law_near_here", "_law_picture_here", "_law_facts_here", "_law_row_here"] := ⟨_, _, fun_mk l_l_fact c_l_fact k_l_fact, PySem.W.mg_of X G a_l_fact, k_l_fact, (fun_mk l_l_fact c_l_fact k_l_fact).binds bd_l_fact⟩
  have h_l_facts : FunA K mg "_law_facts" s_l_facts ["_law_near_here", "_law_picture_here", "_law_rows"] := ⟨_, _, fun_mk l_l_facts c_l_facts k_l_facts, PySem.W.mg_of X G a_l_facts, k_l_facts, (fun_mk l_l_facts c_l_facts k_l_facts).binds bd_l_facts⟩
  have h_l_power : FunA K mg "_law_power" s_l_power ["_law_many"] := ⟨_, _, fun_mk l_l_power c_l_power k_l_power, PySem.W.mg_of X G a_l_power, k_l_power, (fun_mk l_l_power c_l_power k_l_power).binds bd_l_power⟩
  have h_l_asked : FunA K mg "_law_asked" s_l_asked ["_law_scene_here", "_law_near_here", "_law_picture_here", "_law_place", "_law_beats", "_law_due"] := ⟨_, _, fun_mk l_l_asked c_l_asked k_l_asked, PySem.W.mg_of X G a_l_asked, k_l_asked, (fun_mk l_l_asked c_l_asked k_l_asked).binds bd_l_asked⟩
  have h_l_refused : FunA K mg "_law_refused" s_l_refused ["_law_scene_here", "_law_bad", "_law_beats"] := ⟨_, _, fun_mk l_l_refused c_l_refused k_l_refused, PySem.W.mg_of X G a_l_refused, k_l_refused, (fun_mk l_l_refused c_l_refused k_l_refused).binds bd_l_refused⟩
  have h_l_wide : FunA K mg "_law_wide" s_l_wide ["_law_script", "_law_drawn", "_law_beats"] := ⟨_, _, fun_mk l_l_wide c_l_wide k_l_wide, PySem.W.mg_of X G a_l_wide, k_l_wide, (fun_mk l_l_wide c_l_wide k_l_wide).binds bd_l_wide⟩
  have W : Bi mg := ⟨PySem.W.mg_none_of X G z_len, PySem.W.mg_none_of X G z_tuple, PySem.W.mg_none_of X G z_list, PySem.W.mg_none_of X G z_int, PySem.W.mg_none_of X G z_bool, PySem.W.mg_none_of X G z_max, PySem.W.mg_none_of X G z_min, PySem.W.mg_none_of X G z_range, PySem.W.mg_none_of X G z_sorted, PySem.W.mg_none_of X G z_zip, PySem.W.mg_none_of X G z_enumerate, PySem.W.mg_none_of X G z_isinstance⟩
  have S : ClS K Cs Cw Ct := ⟨⟨pg_Cs, hd_Cs, po_Cs, sa_Cs⟩, ⟨pg_Cw, hd_Cw, po_Cw, sa_Cw⟩, ⟨pg_Ct, hd_Ct, po_Ct, sa_Ct⟩, n_Cs_web, n_Cs_picture, n_Cw_size, n_Cw_lines, n_Cw_around, n_Ct_rows, n_Ct_size⟩
  have T : NpC K mg Ce f_np := ⟨{ gC := PySem.W.mg_of X G aC_Ce, cls := ⟨_, _, _, _, _, _, _, _, _, _, _, _, _, _, _, x_Ce, bm_Ce⟩, sa := sa_Ce, ga := ga_Ce, gg := gg_Ce, noN := no_Ce, iC := ic_Ce, tC := t_np, kC := kc_Ce, exC := ex_Ce, tyC := ty_Ce, hdC := hd_Ce, te := PySem.W.exm_ref ex_Ce hd_Ce ty_Ce ss_Ce, fn := ⟨_, _, _, _, _, _, _, _, _, _, _, _, _, _, l_np, c_np⟩ }, ⟨ga_Ce, gg_Ce, ex_Ce, hd_Ce, cl_Ce, gt_Ce, tk_Ce, mo_Ce⟩⟩
  have C : RefC K mg Ce E_BadLine E_BadPicture E_BadPoke E_BadRecord E_BadRow E_BadTable E_NoLine E_SizesDiffer E_TooLong E_NotAllSuspects E_NotATrail E_NotAWalk E_SamePlace E_SheetError E_WebsDiffer E_FirerestError := ⟨PySem.W.mg_of X G aC_BadLine, PySem.W.mg_of X G aC_BadPicture, PySem.W.mg_of X G aC_BadPoke, PySem.W.mg_of X G aC_BadRecord, PySem.W.mg_of X G aC_BadRow, PySem.W.mg_of X G aC_BadTable, PySem.W.mg_of X G aC_NoLine, PySem.W.mg_of X G aC_SizesDiffer, PySem.W.mg_of X G aC_TooLong, PySem.W.mg_of X G aC_NotAllSuspects, PySem.W.mg_of X G aC_NotATrail, PySem.W.mg_of X G aC_NotAWalk, PySem.W.mg_of X G aC_SamePlace, PySem.W.mg_of X G aC_SheetError, PySem.W.mg_of X G aC_WebsDiffer, PySem.W.mg_of X G aC_FirerestError, (kitAny_cons (kit_no ss_Ce s_BadLine i_BadLine t_BadLine) (fun _ => (kitAny_cons (kit_no ss_Ce s_BadPicture i_BadPicture t_BadPicture) (fun _ => (kitAny_cons (kit_no ss_Ce s_BadPoke i_BadPoke t_BadPoke) (fun _ => (kitAny_cons (kit_no ss_Ce s_BadRecord i_BadRecord t_BadRecord) (fun _ => (kitAny_cons (kit_no ss_Ce s_BadRow i_BadRow t_BadRow) (fun _ => (kitAny_cons (kit_no ss_Ce s_BadTable i_BadTable t_BadTable) (fun _ => (kitAny_cons (kit_no ss_Ce s_NoLine i_NoLine t_NoLine) (fun _ => (kitAny_cons (kit_no ss_Ce s_SizesDiffer i_SizesDiffer t_SizesDiffer) (fun _ => (kitAny_cons (kit_no ss_Ce s_TooLong i_TooLong t_TooLong) (fun _ => kitAny_nil) (fun z => nomatch z))) (fun z => nomatch z))) (fun z => nomatch z))) (fun z => nomatch z))) (fun z => nomatch z))) (fun z => nomatch z))) (fun z => nomatch z))) (fun z => nomatch z))) (fun z => nomatch z)), (kitAny_cons (kit_no ss_Ce s_NotAllSuspects i_NotAllSuspects t_NotAllSuspects) (fun _ => (kitAny_cons (kit_no ss_Ce s_NotATrail i_NotATrail t_NotATrail) (fun _ => (kitAny_cons (kit_no ss_Ce s_NotAWalk i_NotAWalk t_NotAWalk) (fun _ => (kitAny_cons (kit_no ss_Ce s_SamePlace i_SamePlace t_SamePlace) (fun _ => (kitAny_cons (kit_no ss_Ce s_SheetError i_SheetError t_SheetError) (fun _ => (kitAny_cons (kit_no ss_Ce s_WebsDiffer i_WebsDiffer t_WebsDiffer) (fun _ => kitAny_nil) (fun z => nomatch z))) (fun z => nomatch z))) (fun z => nomatch z))) (fun z => nomatch z))) (fun z => nomatch z))) (fun z => nomatch z)), kit_yes s_FirerestError i_FirerestError t_FirerestError⟩
  have hdv : Dv0 K (V.ref Te) := fun G => Dp.tup (.inr ⟨_, #[], _, lE, rfl, rfl, Nat.zero_le _, .nil⟩) .nil
  have FW : FunD K "__init__" "Web.__init__" (defArgs s_Web_init) (defBody s_Web_init) (defScope s_Web_init) [V.ref Te] [] f_iCw _ := ⟨⟨_, _, _, _, _, _, _, _, _, _, rfl, l_iCw, c_iCw, .inr ⟨by simp, Td, _, [.ref Te], _, rfl, lT, rfl, .cons rfl .nil⟩, .inl rfl⟩, k_iCw⟩
  have hW : WebA K Cw (V.ref Te) := by
    obtain ⟨ds, v, b⟩ := FW.binds1 (ps := ["self", "size", "lines"]) 2 0 (by simp) rfl fun T kV doc pm an cdv ct us its h1 h2 => match us, its, h1, h2 with | [_, _], [_], _, _ => ⟨_, rfl, rfl⟩
    have b0 := FW.binds1 (ps := ["self", "size", "lines"]) 3 1 (by simp) rfl fun T kV doc pm an cdv ct us its h1 h2 => match us, its, h1, h2 with | [_, _, _], [_], _, _ => ⟨_, rfl, rfl⟩
    obtain ⟨ds0, v0, b0⟩ := b0
    cases v0
    exact ⟨_, _, ds, FW, ⟨mk_Cw, a_iCw, i_iCw, kc_Cw⟩, b0, v, b⟩
  have hS : IniA K Cs "Scene.__init__" s_Scene_init ["self", "web", "picture"] := ⟨_, _, fun_mk l_iCs c_iCs k_iCs, ⟨mk_Cs, a_iCs, i_iCs, kc_Cs⟩, (fun_mk l_iCs c_iCs k_iCs).binds bd_iCs⟩
  have hT : IniA K Ct "Table.__init__" s_Table_init ["self", "rows"] := ⟨_, _, fun_mk l_iCt c_iCt k_iCt, ⟨mk_Ct, a_iCt, i_iCt, kc_Ct⟩, (fun_mk l_iCt c_iCt k_iCt).binds bd_iCt⟩
  have hM : MulA K Ct := ⟨_, _, fun_mk l_mul c_mul k_mul, (fun_mk l_mul c_mul k_mul).binds bd_mul, sf_mul, a_mul, i_mul⟩
  exact ⟨_, fun s v => .of_eq rfl, fun base _ _ => all_law W S T C hdv (PySem.W.mg_of X G aC_Cw) (PySem.W.mg_of X G aC_Cs) (PySem.W.mg_of X G aC_Ct) hW hS hT hM h_frozen h_checked_lines h_neighbour_rows h_state_lead h_greatest_sum h_binary_digits h_doubled h_lead_table h_led_through h_middle h_stops h_needed_entries h_entry_rows h_row_fact h_row_facts h_check_place h_long_walk h_l_whole h_l_cell h_l_digits h_l_web h_l_picture h_l_scene h_l_near h_l_mixed h_l_step h_l_film h_l_counts h_l_lead h_l_round h_l_far h_l_row h_l_fact h_l_facts h_l_power h_l_asked h_l_refused h_l_wide (fun_mk l_law c_law k_law)⟩
end
end Fr
set_option Elab.async false
set_option linter.all false
set_option maxRecDepth 100000
namespace Fr
open PySem PySem.Spec PySem.Calls L2
theorem law_says {K : PySem.W.Frag} {H : Hp} {a : Addr} {ns : List Int} (hl : ns.length ≤ 63) (hS : SqL K H a (ns.map V.int)) : (fsLaw K).sp 1 [.ref a] H (fun v _ => v = .bl true) (fun _ _ _ => False) := by
  have key : ∀ (G : Hp) (ns : List Int), DpAll K G (ns.map V.int) (ns.map PyData.int) := fun G ns => by
    induction ns with
    | nil => exact .nil
    | cons n r ih => exact .cons (.int n) ih
  refine ⟨ns, [], rfl, fun p h => (nomatch h), ⟨?_, trivial⟩, Nat.lt_of_le_of_lt hl (by decide), fun v H' _ r => B_val r⟩
  have e : Hide [] H = H := by
    funext b
    exact hide_out (by simp)
  rw [e]
  exact Dp.lst hS (key H ns)
theorem walk {l : PySem.W.OpenLaw} {q : Program} {loose : List Str} {XP : (Str → Option Value) → Heap → Prop} {YP : World → Heap → Prop} {d : DefRec} {K : Params → PySem.W.Frag} (hn : l.most = some 63) (hdf : d.params.defaults = [])
    (hY : ∀ (w : World) (h : Heap), YP w h → (K w.params).In h)
    (F : ∀ (w : World) (mg : Str → Option Value) (fa : Addr) (h : Heap), (K w.params).In h → h.Ns mainGlobals mg → mg d.name = some (.ref fa) →
      ∃ fd : FuncData, (∀ (s : Shared) (u : Value), BindsTo s fd ⟨[u], []⟩ [("_law_script", u)]) ∧ ∀ base : Heap, (K w.params).In base → base.Ns mainGlobals mg → FnOk l.prog w (K w.params) mg base CX0 11 fa fd ["_law_script"] ((fsLaw (K w.params)).sp 1)) :
    PySem.W.WalkO q loose XP YP l.row.toRowW d [] (fun f vs => PySem.call f vs) :=
  L2.walk_of (n := 63) (k := 11) (x := "_law_script") (CX := fun _ => CX0) (sp := fun w => (fsLaw (K w.params)).sp 1) hn (by decide) hdf ⟨rfl, by decide, by decide⟩ hY F (fun _ _ a ns hl _ hS => law_says hl hS) fun _ _ _ _ _ z => z
end Fr
set_option Elab.async false
set_option linter.all false
open PySem PySem.W PyProof.Rows
set_option maxRecDepth 100000 in
set_option maxHeartbeats 0 in
theorem PySem.Challenge.cw_firerest_k22_long_walks_whole_holds : PySem.Challenge.rw_firerest_k22_long_walks_whole.Holds := by
  w_on; o_law; k_head; (case hw => w_witness2)
  k_fill
  refine Fr.walk (l := PySem.Challenge.rw_firerest_k22_long_walks_whole) rfl rfl (fun w h Y => PySem.W.kIn_of Y) ?F
  case F =>
    intro w mg fa h KX G hmg
    refine' Fr.all_end KX G hmg ?a_frozen ?l_frozen ?c_frozen ?k_frozen ?a_checked_lines ?l_checked_lines ?c_checked_lines ?k_checked_lines ?a_neighbour_rows ?l_neighbour_rows ?c_neighbour_rows ?k_neighbour_rows ?a_state_lead ?l_state_lead ?c_state_lead ?k_state_lead ?a_greatest_sum ?l_greatest_sum ?c_greatest_sum ?k_greatest_sum ?a_binary_digits ?l_binary_digits ?c_binary_digits ?k_binary_digits ?a_doubled ?l_doubled ?c_doubled ?k_doubled ?a_lead_table ?l_lead_table ?c_lead_table ?k_lead_table ?a_led_through ?l_led_through ?c_led_through ?k_led_through ?a_middle ?l_middle ?c_middle ?k_middle ?a_stops ?l_stops ?c_stops ?k_stops ?a_needed_entries ?l_needed_entries ?c_needed_entries ?k_needed_entries ?a_entry_rows ?l_entry_rows ?c_entry_rows ?k_entry_rows ?a_row_fact ?l_row_fact ?c_row_fact ?k_row_fact ?a_row_facts ?l_row_facts ?c_row_facts ?k_row_facts ?a_check_place ?l_check_place ?c_check_place ?k_check_place ?a_long_walk ?l_long_walk ?c_long_walk ?k_long_walk ?a_l_whole ?l_l_whole ?c_l_whole ?k_l_whole ?a_l_cell ?l_l_cell ?c_l_cell ?k_l_cell ?a_l_digits ?l_l_digits ?c_l_digits ?k_l_digits ?a_l_web ?l_l_web ?c_l_web ?k_l_web ?a_l_picture ?l_l_picture ?c_l_picture ?k_l_picture ?a_l_scene ?l_l_scene ?c_l_scene ?k_l_scene ?a_l_near ?l_l_near ?c_l_near ?k_l_near ?a_l_mixed ?l_l_mixed ?c_l_mixed ?k_l_mixed ?a_l_step ?l_l_step ?c_l_step ?k_l_step ?a_l_film ?l_l_film ?c_l_film ?k_l_film ?a_l_counts ?l_l_counts ?c_l_counts ?k_l_counts ?a_l_lead ?l_l_lead ?c_l_lead ?k_l_lead ?a_l_round ?l_l_round ?c_l_round ?k_l_round ?a_l_far ?l_l_far ?c_l_far ?k_l_far ?a_l_row ?l_l_row ?c_l_row ?k_l_row ?a_l_fact ?l_l_fact ?c_l_fact ?k_l_fact ?a_l_facts ?l_l_facts ?c_l_facts ?k_l_facts ?a_l_power ?l_l_power ?c_l_power ?k_l_power ?a_l_asked ?l_l_asked ?c_l_asked ?k_l_asked ?a_l_refused ?l_l_refused ?c_l_refused ?k_l_refused ?a_l_wide ?l_l_wide ?c_l_wide ?k_l_wide ?aC_Cw ?pg_Cw ?hd_Cw ?po_Cw ?sa_Cw ?mk_Cw ?kc_Cw ?n_Cw_size ?n_Cw_lines ?n_Cw_around ?aC_Cs ?pg_Cs ?hd_Cs ?po_Cs ?sa_Cs ?mk_Cs ?kc_Cs ?n_Cs_web ?n_Cs_picture ?aC_Ct ?pg_Ct ?hd_Ct ?po_Ct ?sa_Ct ?mk_Ct ?kc_Ct ?n_Ct_rows ?n_Ct_size ?a_iCs ?i_iCs ?l_iCs ?c_iCs ?k_iCs ?a_iCt ?i_iCt ?l_iCt ?c_iCt ?k_iCt ?a_iCw ?i_iCw ?l_iCw ?c_iCw ?k_iCw ?lT ?lE ?a_mul ?i_mul ?sf_mul ?l_mul ?c_mul ?k_mul ?aC_Ce ?x_Ce ?bm_Ce ?sa_Ce ?ga_Ce ?gg_Ce ?no_Ce ?ic_Ce ?t_np ?l_np ?c_np ?kc_Ce ?ex_Ce ?ty_Ce ?hd_Ce ?ss_Ce ?cl_Ce ?gt_Ce ?tk_Ce ?mo_Ce ?aC_BadLine ?s_BadLine ?i_BadLine ?t_BadLine ?aC_BadPicture ?s_BadPicture ?i_BadPicture ?t_BadPicture ?aC_BadPoke ?s_BadPoke ?i_BadPoke ?t_BadPoke ?aC_BadRecord ?s_BadRecord ?i_BadRecord ?t_BadRecord ?aC_BadRow ?s_BadRow ?i_BadRow ?t_BadRow ?aC_BadTable ?s_BadTable ?i_BadTable ?t_BadTable ?aC_NoLine ?s_NoLine ?i_NoLine ?t_NoLine ?aC_SizesDiffer ?s_SizesDiffer ?i_SizesDiffer ?t_SizesDiffer ?aC_TooLong ?s_TooLong ?i_TooLong ?t_TooLong ?aC_NotAllSuspects ?s_NotAllSuspects ?i_NotAllSuspects ?t_NotAllSuspects ?aC_NotATrail ?s_NotATrail ?i_NotATrail ?t_NotATrail ?aC_NotAWalk ?s_NotAWalk ?i_NotAWalk ?t_NotAWalk ?aC_SamePlace ?s_SamePlace ?i_SamePlace ?t_SamePlace ?aC_SheetError ?s_SheetError ?i_SheetError ?t_SheetError ?aC_WebsDiffer ?s_WebsDiffer ?i_WebsDiffer ?t_WebsDiffer ?aC_FirerestError ?s_FirerestError ?i_FirerestError ?t_FirerestError ?z_len ?z_tuple ?z_list ?z_int ?z_bool ?z_max ?z_min ?z_range ?z_sorted ?z_zip ?z_enumerate ?z_isinstance ?a_law ?l_law ?c_law ?k_law
    (case a_frozen => k_is)
    (case l_frozen => k_is)
    (case c_frozen => k_is)
    (case k_frozen => k_is)
    (case a_checked_lines => k_is)
    (case l_checked_lines => k_is)
    (case c_checked_lines => k_is)
    (case k_checked_lines => k_is)
    (case a_neighbour_rows => k_is)
    (case l_neighbour_rows => k_is)
    (case c_neighbour_rows => k_is)
    (case k_neighbour_rows => k_is)
    (case a_state_lead => k_is)
    (case l_state_lead => k_is)
    (case c_state_lead => k_is)
    (case k_state_lead => k_is)
    (case a_greatest_sum => k_is)
    (case l_greatest_sum => k_is)
    (case c_greatest_sum => k_is)
    (case k_greatest_sum => k_is)
    (case a_binary_digits => k_is)
    (case l_binary_digits => k_is)
    (case c_binary_digits => k_is)
    (case k_binary_digits => k_is)
    (case a_doubled => k_is)
    (case l_doubled => k_is)
    (case c_doubled => k_is)
    (case k_doubled => k_is)
    (case a_lead_table => k_is)
    (case l_lead_table => k_is)
    (case c_lead_table => k_is)
    (case k_lead_table => k_is)
    (case a_led_through => k_is)
    (case l_led_through => k_is)
    (case c_led_through => k_is)
    (case k_led_through => k_is)
    (case a_middle => k_is)
    (case l_middle => k_is)
    (case c_middle => k_is)
    (case k_middle => k_is)
    (case a_stops => k_is)
    (case l_stops => k_is)
    (case c_stops => k_is)
    (case k_stops => k_is)
    (case a_needed_entries => k_is)
    (case l_needed_entries => k_is)
    (case c_needed_entries => k_is)
    (case k_needed_entries => k_is)
    (case a_entry_rows => k_is)
    (case l_entry_rows => k_is)
    (case c_entry_rows => k_is)
    (case k_entry_rows => k_is)
    (case a_row_fact => k_is)
    (case l_row_fact => k_is)
    (case c_row_fact => k_is)
    (case k_row_fact => k_is)
    (case a_row_facts => k_is)
    (case l_row_facts => k_is)
    (case c_row_facts => k_is)
    (case k_row_facts => k_is)
    (case a_check_place => k_is)
    (case l_check_place => k_is)
    (case c_check_place => k_is)
    (case k_check_place => k_is)
    (case a_long_walk => k_is)
    (case l_long_walk => k_is)
    (case c_long_walk => k_is)
    (case k_long_walk => k_is)
    (case a_l_whole => k_is)
    (case l_l_whole => k_is)
    (case c_l_whole => k_is)
    (case k_l_whole => k_is)
    (case a_l_cell => k_is)
    (case l_l_cell => k_is)
    (case c_l_cell => k_is)
    (case k_l_cell => k_is)
    (case a_l_digits => k_is)
    (case l_l_digits => k_is)
    (case c_l_digits => k_is)
    (case k_l_digits => k_is)
    (case a_l_web => k_is)
    (case l_l_web => k_is)
    (case c_l_web => k_is)
    (case k_l_web => k_is)
    (case a_l_picture => k_is)
    (case l_l_picture => k_is)
    (case c_l_picture => k_is)
    (case k_l_picture => k_is)
    (case a_l_scene => k_is)
    (case l_l_scene => k_is)
    (case c_l_scene => k_is)
    (case k_l_scene => k_is)
    (case a_l_near => k_is)
    (case l_l_near => k_is)
    (case c_l_near => k_is)
    (case k_l_near => k_is)
    (case a_l_mixed => k_is)
    (case l_l_mixed => k_is)
    (case c_l_mixed => k_is)
    (case k_l_mixed => k_is)
    (case a_l_step => k_is)
    (case l_l_step => k_is)
    (case c_l_step => k_is)
    (case k_l_step => k_is)
    (case a_l_film => k_is)
    (case l_l_film => k_is)
    (case c_l_film => k_is)
    (case k_l_film => k_is)
    (case a_l_counts => k_is)
    (case l_l_counts => k_is)
    (case c_l_counts => k_is)
    (case k_l_counts => k_is)
    (case a_l_lead => k_is)
    (case l_l_lead => k_is)
    (case c_l_lead => k_is)
    (case k_l_lead => k_is)
    (case a_l_round => k_is)
    (case l_l_round => k_is)
    (case c_l_round => k_is)
    (case k_l_round => k_is)
    (case a_l_far => k_is)
    (case l_l_far => k_is)
    (case c_l_far => k_is)
    (case k_l_far => k_is)
    (case a_l_row => k_is)
    (case l_l_row => k_is)
    (case c_l_row => k_is)
    (case k_l_row => k_is)
    (case a_l_fact => k_is)
    (case l_l_fact => k_is)
    (case c_l_fact => k_is)
    (case k_l_fact => k_is)
    (case a_l_facts => k_is)
    (case l_l_facts => k_is)
    (case c_l_facts => k_is)
    (case k_l_facts => k_is)
    (case a_l_power => k_is)
    (case l_l_power => k_is)
    (case c_l_power => k_is)
    (case k_l_power => k_is)
    (case a_l_asked => k_is)
    (case l_l_asked => k_is)
    (case c_l_asked => k_is)
    (case k_l_asked => k_is)
    (case a_l_refused => k_is)
    (case l_l_refused => k_is)
    (case c_l_refused => k_is)
    (case k_l_refused => k_is)
    (case a_l_wide => k_is)
    (case l_l_wide => k_is)
    (case c_l_wide => k_is)
    (case k_l_wide => k_is)
    (case aC_Cw => k_is)
    (case pg_Cw => k_is)
    (case hd_Cw => k_is)
    (case po_Cw => k_is)
    (case sa_Cw => k_is)
    (case mk_Cw => k_is)
    (case kc_Cw => k_is)
    (case n_Cw_size => k_is)
    (case n_Cw_lines => k_is)
    (case n_Cw_around => k_is)
    (case aC_Cs => k_is)
    (case pg_Cs => k_is)
    (case hd_Cs => k_is)
    (case po_Cs => k_is)
    (case sa_Cs => k_is)
    (case mk_Cs => k_is)
    (case kc_Cs => k_is)
    (case n_Cs_web => k_is)
    (case n_Cs_picture => k_is)
    (case aC_Ct => k_is)
    (case pg_Ct => k_is)
    (case hd_Ct => k_is)
    (case po_Ct => k_is)
    (case sa_Ct => k_is)
    (case mk_Ct => k_is)
    (case kc_Ct => k_is)
    (case n_Ct_rows => k_is)
    (case n_Ct_size => k_is)
    (case a_iCs => k_is)
    (case i_iCs => k_is)
    (case l_iCs => k_is)
    (case c_iCs => k_is)
    (case k_iCs => k_is)
    (case a_iCt => k_is)
    (case i_iCt => k_is)
    (case l_iCt => k_is)
    (case c_iCt => k_is)
    (case k_iCt => k_is)
    (case a_iCw => k_is)
    (case i_iCw => k_is)
    (case l_iCw => k_is)
    (case c_iCw => k_is)
    (case k_iCw => k_is)
    (case lT => k_is)
    (case lE => k_is)
    (case a_mul => k_is)
    (case i_mul => k_is)
    (case sf_mul => k_is)
    (case l_mul => k_is)
    (case c_mul => k_is)
    (case k_mul => k_is)
    (case aC_Ce => k_is)
    (case x_Ce => k_is)
    (case bm_Ce => first | rfl | k_is)
    (case sa_Ce => k_is)
    (case ga_Ce => k_is)
    (case gg_Ce => k_is)
    (case no_Ce => k_is)
    (case ic_Ce => k_is)
    (case t_np => k_is)
    (case l_np => k_is)
    (case c_np => k_is)
    (case kc_Ce => k_is)
    (case ex_Ce => k_is)
    (case ty_Ce => k_is)
    (case hd_Ce => k_is)
    (case ss_Ce => first | rfl | k_is)
    (case cl_Ce => k_is)
    (case gt_Ce => k_is)
    (case tk_Ce => k_is)
    (case mo_Ce => k_is)
    (case aC_BadLine => k_is)
    (case s_BadLine => k_is)
    (case i_BadLine => k_is)
    (case t_BadLine => k_is)
    (case aC_BadPicture => k_is)
    (case s_BadPicture => k_is)
    (case i_BadPicture => k_is)
    (case t_BadPicture => k_is)
    (case aC_BadPoke => k_is)
    (case s_BadPoke => k_is)
    (case i_BadPoke => k_is)
    (case t_BadPoke => k_is)
    (case aC_BadRecord => k_is)
    (case s_BadRecord => k_is)
    (case i_BadRecord => k_is)
    (case t_BadRecord => k_is)
    (case aC_BadRow => k_is)
    (case s_BadRow => k_is)
    (case i_BadRow => k_is)
    (case t_BadRow => k_is)
    (case aC_BadTable => k_is)
    (case s_BadTable => k_is)
    (case i_BadTable => k_is)
    (case t_BadTable => k_is)
    (case aC_NoLine => k_is)
    (case s_NoLine => k_is)
    (case i_NoLine => k_is)
    (case t_NoLine => k_is)
    (case aC_SizesDiffer => k_is)
    (case s_SizesDiffer => k_is)
    (case i_SizesDiffer => k_is)
    (case t_SizesDiffer => k_is)
    (case aC_TooLong => k_is)
    (case s_TooLong => k_is)
    (case i_TooLong => k_is)
    (case t_TooLong => k_is)
    (case aC_NotAllSuspects => k_is)
    (case s_NotAllSuspects => k_is)
    (case i_NotAllSuspects => k_is)
    (case t_NotAllSuspects => k_is)
    (case aC_NotATrail => k_is)
    (case s_NotATrail => k_is)
    (case i_NotATrail => k_is)
    (case t_NotATrail => k_is)
    (case aC_NotAWalk => k_is)
    (case s_NotAWalk => k_is)
    (case i_NotAWalk => k_is)
    (case t_NotAWalk => k_is)
    (case aC_SamePlace => k_is)
    (case s_SamePlace => k_is)
    (case i_SamePlace => k_is)
    (case t_SamePlace => k_is)
    (case aC_SheetError => k_is)
    (case s_SheetError => k_is)
    (case i_SheetError => k_is)
    (case t_SheetError => k_is)
    (case aC_WebsDiffer => k_is)
    (case s_WebsDiffer => k_is)
    (case i_WebsDiffer => k_is)
    (case t_WebsDiffer => k_is)
    (case aC_FirerestError => k_is)
    (case s_FirerestError => k_is)
    (case i_FirerestError => k_is)
    (case t_FirerestError => k_is)
    (case z_len => k_is)
    (case z_tuple => k_is)
    (case z_list => k_is)
    (case z_int => k_is)
    (case z_bool => k_is)
    (case z_max => k_is)
    (case z_min => k_is)
    (case z_range => k_is)
    (case z_sorted => k_is)
    (case z_zip => k_is)
    (case z_enumerate => k_is)
    (case z_isinstance => k_is)
    (case a_law => k_is)
    (case l_law => k_is)
    (case c_law => k_is)
    (case k_law => k_is)
